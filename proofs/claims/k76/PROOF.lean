import PyProof.Rows.All
import Wide.All
import OpenK.AllK
import Wide.FinOn
import HandS.ForMost
import HandS.IsInst
import HandS.Star
import HandS.Style
import HandS.TupAny
import HandS.Walk
import HandS.TupSets
import KE.DatumOrd
import KE.SortData
import KE.KDictKeyed
import KE.GoesEnum
import PyProof.Transfer
import KE.KDictPairs
import KE.OsSortAny
import HandS.Evl
import PySem.Challenge.RW_middlerows_k76_whole_fewest_broken
set_option Elab.async false
set_option linter.all false
set_option maxRecDepth 100000
/-! K76, part 1: data with Lean types over the abstract heap -/
namespace K76
open PySem L2
open PySem.W (Tup Datum DatumOrd)

/-! ### what stays -/
section
variable {K : PySem.W.Frag} {H H' : Hp}
theorem sqT_up (e : Same H H') {a : Addr} {xs : List V} (h : SqT K H a xs) : SqT K H' a xs := by
  rcases h with (h | ⟨o, h⟩) | h
  · exact .inl (.inl (e _ _ h))
  · exact .inl (.inr ⟨o, e _ _ h⟩)
  · exact .inr h
/-- no list within -/
def noL : PyData → Bool
  | .list _ => false
  | .tuple xs => noLs xs
  | _ => true
where noLs : List PyData → Bool
  | [] => true
  | x :: xs => noL x && noLs xs
mutual
theorem dp_up (ls : Bool) (hl : ls = true → ∀ a xs, SqL K H a xs → SqL K H' a xs) (ht : ∀ a xs, SqT K H a xs → SqT K H' a xs) : ∀ (d : PyData) (v : V), (ls = true ∨ noL d = true) → Dp K H v d → Dp K H' v d
  | .none, _, _, h => by cases h; exact .non
  | .bool b, _, _, h => by cases h; exact .bl b
  | .int i, _, _, h => by cases h; exact .int i
  | .str x, _, _, h => by cases h; exact .str x
  | .list ds, _, n, h => by
    cases h with
    | lst h1 h2 =>
      have hs : ls = true := by
        rcases n with n | n
        · exact n
        · simp [noL] at n
      exact .lst (hl hs _ _ h1) (dps_up ls hl ht ds _ (.inl hs) h2)
  | .tuple ds, _, n, h => by
    cases h with
    | tup h1 h2 => exact .tup (ht _ _ h1) (dps_up ls hl ht ds _ (n.imp id fun n => by simpa [noL] using n) h2)
  | .dict _, _, _, h => by cases h
theorem dps_up (ls : Bool) (hl : ls = true → ∀ a xs, SqL K H a xs → SqL K H' a xs) (ht : ∀ a xs, SqT K H a xs → SqT K H' a xs) : ∀ (ds : List PyData) (vs : List V), (ls = true ∨ noL.noLs ds = true) → DpAll K H vs ds → DpAll K H' vs ds
  | [], _, _, h => by cases h; exact .nil
  | d :: ds, _, n, h => by
    cases h with
    | cons h1 h2 =>
      have n2 : (ls = true ∨ noL d = true) ∧ (ls = true ∨ noL.noLs ds = true) := by
        rcases n with n | n
        · exact ⟨.inl n, .inl n⟩
        · rw [noL.noLs, Bool.and_eq_true] at n
          exact ⟨.inr n.1, .inr n.2⟩
      exact .cons (dp_up ls hl ht d _ n2.1 h1) (dps_up ls hl ht ds _ n2.2 h2)
end
end

/-! ### data of a Lean type -/
section
variable {α β : Type} [DecidableEq α] [Datum α] [DecidableEq β] [Datum β] {K : PySem.W.Frag} {H H' : Hp} {v w : V}
/-- the value v is the datum x -/
def Hd (K : PySem.W.Frag) (H : Hp) (v : V) (x : α) : Prop := Dp K H v (Datum.toD x)
def Hds (K : PySem.W.Frag) (H : Hp) (vs : List V) (xs : List α) : Prop := DpAll K H vs (xs.map Datum.toD)
theorem Hd.up {x : α} (e : Same H H') (h : Hd K H v x) : Hd K H' v x := dp_up true (fun _ _ _ => e.seq) (fun _ _ => sqT_up e) _ _ (.inl rfl) h
theorem Hds.up {vs : List V} {xs : List α} (e : Same H H') (h : Hds K H vs xs) : Hds K H' vs xs := dps_up true (fun _ _ _ => e.seq) (fun _ _ => sqT_up e) _ _ (.inl rfl) h
/-- data without lists: it stays while the tuples stay -/
class Solid (α : Type) [DecidableEq α] [Datum α] : Prop where
  flat : ∀ x : α, noL (Datum.toD x) = true
theorem solid_map [Solid α] : ∀ xs : List α, noL.noLs (xs.map Datum.toD) = true
  | [] => rfl
  | x :: xs => by rw [List.map_cons, noL.noLs, Solid.flat x, solid_map xs]; rfl
instance : Solid Int := ⟨fun _ => rfl⟩
instance [Solid α] : Solid (Tup α) := ⟨fun x => by
  show noL (.tuple _) = true
  rw [noL]; exact solid_map x.items⟩
instance [Solid α] [Solid β] : Solid (α × β) := ⟨fun x => by
  show noL (.tuple [_, _]) = true
  rw [noL, noL.noLs, noL.noLs, noL.noLs, Solid.flat x.1, Solid.flat x.2]; rfl⟩
theorem Hd.keep [Solid α] {x : α} (e : ∀ a xs, SqT K H a xs → SqT K H' a xs) (h : Hd K H v x) : Hd K H' v x := dp_up false (fun z => nomatch z) e _ _ (.inr (Solid.flat x)) h
theorem Hds.keep [Solid α] {vs : List V} {xs : List α} (e : ∀ a xs, SqT K H a xs → SqT K H' a xs) (h : Hds K H vs xs) : Hds K H' vs xs := dps_up false (fun z => nomatch z) e _ _ (.inr (solid_map xs)) h

theorem hd_int (i : Int) : Hd K H (.int i) i := .int i
theorem Hd.int {i : Int} (h : Hd K H v i) : v = .int i := by
  have h' : Dp K H v (.int i) := h
  cases h'; rfl
theorem hd_bool (b : Bool) : Hd K H (.bl b) b := .bl b
theorem Hd.bool {b : Bool} (h : Hd K H v b) : v = .bl b := by
  have h' : Dp K H v (.bool b) := h
  cases h'; rfl
theorem hds_nil : Hds K H [] ([] : List α) := .nil
theorem hds_cons {x : α} {vs : List V} {xs : List α} (h : Hd K H v x) (hs : Hds K H vs xs) : Hds K H (v :: vs) (x :: xs) := .cons h hs
theorem Hds.cons_inv {vs : List V} {x : α} {xs : List α} (h : Hds K H vs (x :: xs)) : ∃ v r, vs = v :: r ∧ Hd K H v x ∧ Hds K H r xs := by
  have h' : DpAll K H vs (Datum.toD x :: xs.map Datum.toD) := h
  cases h' with
  | cons h1 h2 => exact ⟨_, _, rfl, h1, h2⟩
theorem Hds.nil_inv {vs : List V} (h : Hds K H vs ([] : List α)) : vs = [] := by
  have h' : DpAll K H vs [] := h
  cases h'; rfl
theorem Hds.len : ∀ {vs : List V} {xs : List α}, Hds K H vs xs → vs.length = xs.length
  | _, [], h => by rw [h.nil_inv]; rfl
  | _, x :: xs, h => by
    obtain ⟨v, r, rfl, _, h2⟩ := h.cons_inv
    simp [Hds.len h2]
theorem Hds.app : ∀ {vs ws : List V} {xs ys : List α}, Hds K H vs xs → Hds K H ws ys → Hds K H (vs ++ ws) (xs ++ ys)
  | _, _, [], _, h, h' => by rw [h.nil_inv]; exact h'
  | _, _, x :: xs, _, h, h' => by
    obtain ⟨v, r, rfl, h1, h2⟩ := h.cons_inv
    exact hds_cons h1 (Hds.app h2 h')
theorem Hds.get : ∀ {vs : List V} {xs : List α}, Hds K H vs xs → ∀ {i : Nat} {v : V}, vs[i]? = some v → ∃ x, xs[i]? = some x ∧ Hd K H v x
  | _, [], h, i, v, e => by rw [h.nil_inv] at e; simp at e
  | _, x :: xs, h, 0, v, e => by
    obtain ⟨v', r, rfl, h1, h2⟩ := h.cons_inv
    have : v' = v := by simpa using e
    subst this
    exact ⟨x, rfl, h1⟩
  | _, x :: xs, h, i + 1, v, e => by
    obtain ⟨v', r, rfl, h1, h2⟩ := h.cons_inv
    exact Hds.get h2 (i := i) (by simpa using e)
theorem Hds.get' : ∀ {vs : List V} {xs : List α}, Hds K H vs xs → ∀ {i : Nat} {x : α}, xs[i]? = some x → ∃ v, vs[i]? = some v ∧ Hd K H v x
  | _, [], h, i, v, e => by simp at e
  | _, x :: xs, h, 0, y, e => by
    obtain ⟨v', r, rfl, h1, h2⟩ := h.cons_inv
    have : x = y := by simpa using e
    subst this
    exact ⟨v', rfl, h1⟩
  | _, x :: xs, h, i + 1, v, e => by
    obtain ⟨v', r, rfl, h1, h2⟩ := h.cons_inv
    exact Hds.get' h2 (i := i) (by simpa using e)
theorem Hds.drop : ∀ {vs : List V} {xs : List α}, Hds K H vs xs → ∀ n : Nat, Hds K H (vs.drop n) (xs.drop n)
  | _, [], h, n => by rw [h.nil_inv]; simp; exact hds_nil
  | _, x :: xs, h, 0 => h
  | _, x :: xs, h, n + 1 => by
    obtain ⟨v', r, rfl, h1, h2⟩ := h.cons_inv
    exact Hds.drop h2 n
theorem Hds.take : ∀ {vs : List V} {xs : List α}, Hds K H vs xs → ∀ n : Nat, Hds K H (vs.take n) (xs.take n)
  | _, [], h, n => by rw [h.nil_inv]; simp; exact hds_nil
  | _, x :: xs, h, 0 => hds_nil
  | _, x :: xs, h, n + 1 => by
    obtain ⟨v', r, rfl, h1, h2⟩ := h.cons_inv
    exact hds_cons h1 (Hds.take h2 n)
theorem hds_ints : ∀ ns : List Int, Hds K H (ns.map V.int) ns
  | [] => hds_nil
  | n :: ns => hds_cons (hd_int n) (hds_ints ns)
theorem Hds.ints : ∀ {vs : List V} {ns : List Int}, Hds K H vs ns → vs = ns.map V.int
  | _, [], h => h.nil_inv
  | _, n :: ns, h => by
    obtain ⟨v, r, rfl, h1, h2⟩ := h.cons_inv
    rw [h1.int, Hds.ints h2]; rfl
theorem hd_pair {a : Addr} {x : α} {y : β} (s : SqT K H a [v, w]) (h1 : Hd K H v x) (h2 : Hd K H w y) : Hd K H (.ref a) (x, y) := .tup s (.cons h1 (.cons h2 .nil))
theorem Hd.pair {p : α × β} (h : Hd K H v p) : ∃ a v1 v2, v = .ref a ∧ SqT K H a [v1, v2] ∧ Hd K H v1 p.1 ∧ Hd K H v2 p.2 := by
  have h' : Dp K H v (.tuple [Datum.toD p.1, Datum.toD p.2]) := h
  cases h' with
  | tup s hs =>
    cases hs with
    | cons h1 hs =>
      cases hs with
      | cons h2 hs =>
        cases hs
        exact ⟨_, _, _, rfl, s, h1, h2⟩
theorem hd_tup {a : Addr} {vs : List V} {xs : List α} (s : SqT K H a vs) (h : Hds K H vs xs) : Hd K H (.ref a) (Tup.mk xs) := .tup s h
theorem Hd.tup {t : Tup α} (h : Hd K H v t) : ∃ a vs, v = .ref a ∧ SqT K H a vs ∧ Hds K H vs t.items := by
  have h' : Dp K H v (.tuple (t.items.map Datum.toD)) := h
  cases h' with
  | tup s hs => exact ⟨_, _, rfl, s, hs⟩
theorem hd_list {a : Addr} {vs : List V} {xs : List α} (s : SqL K H a vs) (h : Hds K H vs xs) : Hd K H (.ref a) xs := .lst s h
theorem Hd.list {xs : List α} (h : Hd K H v xs) : ∃ a vs, v = .ref a ∧ SqL K H a vs ∧ Hds K H vs xs := by
  have h' : Dp K H v (.list (xs.map Datum.toD)) := h
  cases h' with
  | lst s hs => exact ⟨_, _, rfl, s, hs⟩
end

section
variable {X : Cx} {pins : List (Addr × Obj)} {σ : L2.St} {H : Hp} {s : Shared}
theorem Hd.holds {α : Type} [DecidableEq α] [Datum α] {v : V} {u : Value} {x : α} (h : Hd X.K H v x) (I : Inv X pins σ H s) (r : RelV v u) : PySem.W.Holds s.heap u x := Dp.reads I _ _ _ h r
theorem Hds.holds {α : Type} [DecidableEq α] [Datum α] {vs : List V} {us : List Value} {xs : List α} (h : Hds X.K H vs xs) (I : Inv X pins σ H s) (r : Vals vs us) : PySem.W.HoldAll s.heap us xs := Dp.readsAll I _ _ _ h r
end

/-! ### operators on data -/
section
variable {α : Type} [DecidableEq α]
def rEqT (α : Type) [DecidableEq α] [Datum α] (K : PySem.W.Frag) : R2 := fun x y H Q => ∃ a b : α, Hd K H x a ∧ Hd K H y b ∧ Q (.bl (decide (a = b))) H
def rNeT (α : Type) [DecidableEq α] [Datum α] (K : PySem.W.Frag) : R2 := fun x y H Q => ∃ a b : α, Hd K H x a ∧ Hd K H y b ∧ Q (.bl (decide (a ≠ b))) H
def rLeT (α : Type) [DecidableEq α] [DatumOrd α] (K : PySem.W.Frag) : R2 := fun x y H Q => ∃ a b : α, Hd K H x a ∧ Hd K H y b ∧ Q (.bl (!DatumOrd.lt b a)) H
def rGeT (α : Type) [DecidableEq α] [DatumOrd α] (K : PySem.W.Frag) : R2 := fun x y H Q => ∃ a b : α, Hd K H x a ∧ Hd K H y b ∧ Q (.bl (!DatumOrd.lt a b)) H
/-- x not in a tuple -/
def rNotInT (α : Type) [DecidableEq α] [Datum α] (K : PySem.W.Frag) : R2 := fun x y H Q => ∃ (a : α) (t : Tup α), Hd K H x a ∧ Hd K H y t ∧ Q (.bl (decide (a ∉ t.items))) H
variable {X : Cx}
theorem op_eqT [Datum α] (hu : X.A.units + 64 < cLine) (hd : Datum.depth α ≤ 60) : OpR X (compareOp .Eq) (rEqT α X.K) := fun pins s σ H x y v u Q I rx ry ⟨a, b, ha, hb, q⟩ =>
  PySem.W.eq_datum (ha.holds I rx) (hb.holds I ry) (by omega) ⟨.bl _, H, I, rfl, q⟩
theorem op_neT [Datum α] (hu : X.A.units + 64 < cLine) (hd : Datum.depth α ≤ 60) : OpR X (compareOp .NotEq) (rNeT α X.K) := fun pins s σ H x y v u Q I rx ry ⟨a, b, ha, hb, q⟩ =>
  PySem.W.ne_datum (ha.holds I rx) (hb.holds I ry) (by omega) ⟨.bl _, H, I, rfl, q⟩
theorem op_leT [DatumOrd α] (hu : X.A.units + 64 < cLine) (hd : Datum.depth α ≤ 60) : OpR X (compareOp .LtE) (rLeT α X.K) := fun pins s σ H x y v u Q I rx ry ⟨a, b, ha, hb, q⟩ =>
  PySem.W.le_datum (ha.holds I rx) (hb.holds I ry) (by omega) ⟨.bl _, H, I, rfl, q⟩
theorem op_geT [DatumOrd α] (hu : X.A.units + 64 < cLine) (hd : Datum.depth α ≤ 60) : OpR X (compareOp .GtE) (rGeT α X.K) := fun pins s σ H x y v u Q I rx ry ⟨a, b, ha, hb, q⟩ =>
  PySem.W.ge_datum (ha.holds I rx) (hb.holds I ry) (by omega) ⟨.bl _, H, I, rfl, q⟩
theorem op_notInT [Datum α] (hu : X.A.units + 64 < cLine) (hd : Datum.depth α ≤ 60) : OpR X (compareOp .NotIn) (rNotInT α X.K) := fun pins s σ H x y v u Q I rx ry ⟨a, t, ha, hb, q⟩ => by
  obtain ⟨p, vs, rfl, hs, hx⟩ := hb.tup
  cases ry
  obtain ⟨its, rv, p1, _⟩ := I.tuple hs
  exact PySem.W.notIn_tuple_datum p1 (hx.holds I rv) (ha.holds I rx) (by omega) ⟨.bl _, H, I, rfl, q⟩
/-- min of a list of data, not empty: one of its items -/
def rMinT (α : Type) [DecidableEq α] [DatumOrd α] (K : PySem.W.Frag) : List V → Hp → VK → Prop := fun vs H Q => ∃ (l : Addr) (ws : List V) (x : α) (xs : List α), vs = [.ref l] ∧ SqL K H l ws ∧ Hds K H ws (x :: xs) ∧ ∀ w, w ∈ ws → Hd K H w (PySem.W.minOf x xs) → Q w H
theorem cr_minT [DatumOrd α] (hc : X.calm = true) (hu : X.A.units + 64 < cLine) (hd : Datum.depth α ≤ 60) : CallR X (.builtin "min") (rMinT α X.K) := by
  intro pins s σ H vs us Q I r ⟨l, ws, x, xs, e, hl, hx, q⟩
  subst e
  rw [Vals.ref1 r]
  obtain ⟨its, rv, pl, _⟩ := I.list hl
  refine PySem.W.min_list_datum (α := α) (x := x) (xs := xs) (I.ok.hd hc) pl.isList (hx.holds I rv) (by omega) fun i v h' tk hi hm hk => ?_
  have hi' : its[i]? = some v := by simpa using hi
  obtain ⟨w, hw⟩ : ∃ w, ws[i]? = some w := by
    cases e : ws[i]? with
    | none => rw [rv.none_of e] at hi'; cases hi'
    | some w => exact ⟨w, rfl⟩
  obtain ⟨u, hu', ru⟩ := rv.get hw
  rw [hi'] at hu'
  cases hu'
  obtain ⟨y, hy, hyd⟩ := hx.get hw
  have h1 : PySem.W.Holds h' v y := (hyd.holds I ru).keeps hk
  obtain ⟨as, r1⟩ := h1
  obtain ⟨bs, r2⟩ := hm
  have ed := PySem.SeqAt.plain_unique _ _ v as bs (Datum.plain y) r1 r2
  have ey : y = PySem.W.minOf x xs := by
    have q2 := Datum.eqv y (PySem.W.minOf x xs)
    rw [← ed] at q2
    have q3 := Datum.eqv y y
    rw [q3] at q2
    simpa using q2
  subst ey
  exact ⟨w, H, I.kept hk, ru, q w (List.mem_of_getElem? hw) hyd⟩
end
end K76
set_option Elab.async false
set_option linter.all false
set_option maxRecDepth 100000
/-! K76, part 3: what a reading comes to -/
namespace K76
open PySem L2
open PySem.W (Tup Datum DatumOrd)

/-- what a value may stand for: data, or an object of rules -/
class Rep (τ : Type) where
  rep : PySem.W.Frag → Hp → V → τ → Prop
  up : ∀ {K : PySem.W.Frag} {H H' : Hp} {v : V} {x : τ}, Same H H' → rep K H v x → rep K H' v x
instance {α : Type} [DecidableEq α] [Datum α] : Rep α := ⟨fun K H v x => Hd K H v x, fun e h => Hd.up e h⟩

/-- te comes to a value of which P holds -/
def EvQ (te : TE) (σ : L2.St) (H : Hp) (P : V → Hp → Prop) : Prop := ∀ H1, Same H H1 → ∀ Q : VK, (∀ v H2, Same H1 H2 → P v H2 → Q v H2) → te σ H1 Q
abbrev EvD {τ : Type} [Rep τ] (K : PySem.W.Frag) (te : TE) (σ : L2.St) (H : Hp) (x : τ) : Prop := EvQ te σ H fun v H2 => Rep.rep K H2 v x
/-- te comes to a new list -/
def EvL {α : Type} [DecidableEq α] [Datum α] (K : PySem.W.Frag) (te : TE) (σ : L2.St) (H : Hp) (xs : List α) : Prop :=
  ∀ H1, Same H H1 → ∀ Q : VK, (∀ p ws H2, H1 p = none → Same H1 H2 → H2 p = some (.lst ws) → Hds K H2 ws xs → Q (.ref p) H2) → te σ H1 Q
def EvB (tt : TT) (σ : L2.St) (H : Hp) (b : Bool) : Prop := ∀ H1, Same H H1 → ∀ Q : Bool → Hp → Prop, (∀ H2, Same H1 H2 → Q b H2) → tt σ H1 Q
def EvA (ta : TA) (σ : L2.St) (H : Hp) (P : List V → Hp → Prop) : Prop := ∀ H1, Same H H1 → ∀ Q : List V → Hp → Prop, (∀ vs H2, Same H1 H2 → P vs H2 → Q vs H2) → ta σ H1 Q
/-- a source of turns comes to an iterator over the data xs -/
def EvI {α : Type} [DecidableEq α] [Datum α] (K : PySem.W.Frag) (wi : TI) (σ : L2.St) (H : Hp) (xs : List α) : Prop :=
  ∀ H1, Same H H1 → ∀ R : It → Hp → Prop, (∀ J H2 ws, Same H1 H2 → Hds K H2 ws xs → Walk J ws.length (fun H' => Same H2 H') (YAt ws) → R J H2) → wi σ H1 R

section
variable {K : PySem.W.Frag} {σ : L2.St} {H H' : Hp} {ta tb tc te : TE} {tt tu : TT} {τ ρ ω : Type} [Rep τ] [Rep ρ] [Rep ω] {x : τ} {y : ρ} {z : ω} {α β : Type} [DecidableEq α] [Datum α] [DecidableEq β] [Datum β]
theorem EvQ.up {P : V → Hp → Prop} (h : EvQ te σ H P) (e : Same H H') : EvQ te σ H' P := fun H1 a Q q => h H1 (e.trans a) Q q
theorem EvL.up {xs : List α} (h : EvL K te σ H xs) (e : Same H H') : EvL K te σ H' xs := fun H1 a Q q => h H1 (e.trans a) Q q
theorem EvB.up {b : Bool} (h : EvB tt σ H b) (e : Same H H') : EvB tt σ H' b := fun H1 a Q q => h H1 (e.trans a) Q q
theorem EvL.d {xs : List α} (h : EvL K te σ H xs) : EvD K te σ H xs := fun H1 e Q q => h H1 e Q fun p ws H2 _ e2 hp hw => q _ H2 e2 (hd_list (SqL.of hp) hw)
theorem EvD.cast {x' : τ} (h : EvD K te σ H x) (e : x = x') : EvD K te σ H x' := e ▸ h
theorem EvL.cast {xs ys : List α} (h : EvL K te σ H xs) (e : xs = ys) : EvL K te σ H ys := e ▸ h
theorem EvB.cast {b b' : Bool} (h : EvB tt σ H b) (e : b = b') : EvB tt σ H b' := e ▸ h
theorem evd_var {i : Nat} {v : V} (h : σ[i]? = some (some v)) (r : Rep.rep K H v x) : EvD K (tVar i) σ H x := fun H1 e _ q => ⟨v, h, q v H1 (Same.refl H1) (Rep.up e r)⟩
theorem evd_c {v : V} (r : ∀ H, Rep.rep K H v x) : EvD K (tC v) σ H x := fun H1 _ _ q => q v H1 (Same.refl H1) (r H1)
theorem evd_int {i : Int} : EvD K (tC (.int i)) σ H i := evd_c fun _ => hd_int i
theorem evd_bl {b : Bool} : EvD K (tC (.bl b)) σ H b := evd_c fun _ => hd_bool b
/-- an operation on two values -/
theorem evd_op {r : R2} (ha : EvD K ta σ H x) (hb : EvD K tb σ H y) (hr : ∀ v w H1, Same H H1 → Rep.rep K H1 v x → Rep.rep K H1 w y → ∀ Q : VK, (∀ u H2, Same H1 H2 → Rep.rep K H2 u z → Q u H2) → r v w H1 Q) : EvD K (tOp r ta tb) σ H z :=
  fun H1 e Q q => ha H1 e _ fun v H2 e2 hv => hb H2 (e.trans e2) _ fun w H3 e3 hw => hr v w H3 ((e.trans e2).trans e3) (Rep.up e3 hv) hw Q fun u H4 e4 hu => q u H4 ((e2.trans e3).trans e4) hu
theorem evl_op {r : R2} {zs : List α} (ha : EvD K ta σ H x) (hb : EvD K tb σ H y) (hr : ∀ v w H1, Same H H1 → Rep.rep K H1 v x → Rep.rep K H1 w y → ∀ Q : VK, (∀ p ws H2, H1 p = none → Same H1 H2 → H2 p = some (.lst ws) → Hds K H2 ws zs → Q (.ref p) H2) → r v w H1 Q) : EvL K (tOp r ta tb) σ H zs :=
  fun H1 e Q q => ha H1 e _ fun v H2 e2 hv => hb H2 (e.trans e2) _ fun w H3 e3 hw => hr v w H3 ((e.trans e2).trans e3) (Rep.up e3 hv) hw Q fun p ws H4 hp e4 h4 hu => q p ws H4 ((e2.trans e3).free hp) ((e2.trans e3).trans e4) h4 hu
theorem evd_I {g : Int → Int → Int} {i j : Int} (ha : EvD K ta σ H i) (hb : EvD K tb σ H j) : EvD K (tOp (rI0 fun i j => .int (g i j)) ta tb) σ H (g i j) :=
  evd_op ha hb fun v w H1 _ hv hw Q q => by
    rw [Hd.int hv, Hd.int hw]
    exact ⟨i, j, rfl, rfl, q _ H1 (Same.refl H1) (hd_int _)⟩
theorem evd_IB {g : Int → Int → Bool} {i j : Int} (ha : EvD K ta σ H i) (hb : EvD K tb σ H j) : EvD K (tOp (rI0 fun i j => .bl (g i j)) ta tb) σ H (g i j) :=
  evd_op ha hb fun v w H1 _ hv hw Q q => by
    rw [Hd.int hv, Hd.int hw]
    exact ⟨i, j, rfl, rfl, q _ H1 (Same.refl H1) (hd_bool _)⟩
theorem evd_IC {C : Int → Int → Prop} {g : Int → Int → Int} {i j : Int} (ha : EvD K ta σ H i) (hb : EvD K tb σ H j) (hc : C i j) : EvD K (tOp (rI C fun i j => .int (g i j)) ta tb) σ H (g i j) :=
  evd_op ha hb fun v w H1 _ hv hw Q q => by
    rw [Hd.int hv, Hd.int hw]
    exact ⟨i, j, rfl, rfl, hc, q _ H1 (Same.refl H1) (hd_int _)⟩
theorem evd_eqI {i j : Int} (ha : EvD K ta σ H i) (hb : EvD K tb σ H j) : EvD K (tOp rEq ta tb) σ H (decide (i = j)) :=
  evd_op ha hb fun v w H1 _ hv hw Q q => by
    rw [Hd.int hv, Hd.int hw]
    refine ⟨rfl, q _ H1 (Same.refl H1) ?_⟩
    have e : decide (V.int i = V.int j) = decide (i = j) := by simp
    rw [e]
    exact hd_bool _
theorem evd_neI {i j : Int} (ha : EvD K ta σ H i) (hb : EvD K tb σ H j) : EvD K (tOp rNe ta tb) σ H (decide (i ≠ j)) :=
  evd_op ha hb fun v w H1 _ hv hw Q q => by
    rw [Hd.int hv, Hd.int hw]
    refine ⟨rfl, q _ H1 (Same.refl H1) ?_⟩
    have e : (!decide (V.int i = V.int j)) = decide (i ≠ j) := by simp
    rw [e]
    exact hd_bool _
theorem evd_eqB {i j : Bool} (ha : EvD K ta σ H i) (hb : EvD K tb σ H j) : EvD K (tOp rEq ta tb) σ H (decide (i = j)) :=
  evd_op ha hb fun v w H1 _ hv hw Q q => by
    rw [Hd.bool hv, Hd.bool hw]
    refine ⟨rfl, q _ H1 (Same.refl H1) ?_⟩
    have e : decide (V.bl i = V.bl j) = decide (i = j) := by simp
    rw [e]
    exact hd_bool _
theorem evd_neB {i j : Bool} (ha : EvD K ta σ H i) (hb : EvD K tb σ H j) : EvD K (tOp rNe ta tb) σ H (decide (i ≠ j)) :=
  evd_op ha hb fun v w H1 _ hv hw Q q => by
    rw [Hd.bool hv, Hd.bool hw]
    refine ⟨rfl, q _ H1 (Same.refl H1) ?_⟩
    have e : (!decide (V.bl i = V.bl j)) = decide (i ≠ j) := by simp
    rw [e]
    exact hd_bool _
theorem evd_eqT {a b : α} (ha : EvD K ta σ H a) (hb : EvD K tb σ H b) : EvD K (tOp (rEqT α K) ta tb) σ H (decide (a = b)) :=
  evd_op ha hb fun v w H1 _ hv hw Q q => ⟨a, b, hv, hw, q _ H1 (Same.refl H1) (hd_bool _)⟩
theorem evd_neT {a b : α} (ha : EvD K ta σ H a) (hb : EvD K tb σ H b) : EvD K (tOp (rNeT α K) ta tb) σ H (decide (a ≠ b)) :=
  evd_op ha hb fun v w H1 _ hv hw Q q => ⟨a, b, hv, hw, q _ H1 (Same.refl H1) (hd_bool _)⟩
theorem evd_leT {γ : Type} [DecidableEq γ] [DatumOrd γ] {a b : γ} (ha : EvD K ta σ H a) (hb : EvD K tb σ H b) : EvD K (tOp (rLeT γ K) ta tb) σ H (!DatumOrd.lt b a) :=
  evd_op ha hb fun v w H1 _ hv hw Q q => ⟨a, b, hv, hw, q _ H1 (Same.refl H1) (hd_bool _)⟩
theorem evd_geT {γ : Type} [DecidableEq γ] [DatumOrd γ] {a b : γ} (ha : EvD K ta σ H a) (hb : EvD K tb σ H b) : EvD K (tOp (rGeT γ K) ta tb) σ H (!DatumOrd.lt a b) :=
  evd_op ha hb fun v w H1 _ hv hw Q q => ⟨a, b, hv, hw, q _ H1 (Same.refl H1) (hd_bool _)⟩
theorem evd_notIn {a : α} {t : Tup α} (ha : EvD K ta σ H a) (hb : EvD K tb σ H t) : EvD K (tOp (rNotInT α K) ta tb) σ H (decide (a ∉ t.items)) :=
  evd_op ha hb fun v w H1 _ hv hw Q q => ⟨a, t, hv, hw, q _ H1 (Same.refl H1) (hd_bool _)⟩
/-! items -/
theorem evd_fst {p : α × β} (ha : EvD K ta σ H p) : EvD K (tOp (rIxT K) ta (tC (.int 0))) σ H p.1 :=
  evd_op (y := (0 : Int)) ha evd_int fun v w H1 _ hv hw Q q => by
    rw [Hd.int hw]
    obtain ⟨a, v1, v2, rfl, s, h1, h2⟩ := Hd.pair hv
    exact ⟨a, [v1, v2], 0, v1, rfl, rfl, s, rfl, q _ H1 (Same.refl H1) h1⟩
theorem evd_snd {p : α × β} (ha : EvD K ta σ H p) : EvD K (tOp (rIxT K) ta (tC (.int 1))) σ H p.2 :=
  evd_op (y := (1 : Int)) ha evd_int fun v w H1 _ hv hw Q q => by
    rw [Hd.int hw]
    obtain ⟨a, v1, v2, rfl, s, h1, h2⟩ := Hd.pair hv
    exact ⟨a, [v1, v2], 1, v2, rfl, rfl, s, rfl, q _ H1 (Same.refl H1) h2⟩
theorem evd_ixT {t : Tup α} {i : Int} {j : Nat} {a : α} (ha : EvD K ta σ H t) (hb : EvD K tb σ H i) (hi : i = (j : Int)) (hx : t.items[j]? = some a) : EvD K (tOp (rIxT K) ta tb) σ H a :=
  evd_op ha hb fun v w H1 _ hv hw Q q => by
    rw [Hd.int hw]
    obtain ⟨p, vs, rfl, s, hs⟩ := Hd.tup hv
    obtain ⟨u, hu, hd⟩ := hs.get' hx
    exact ⟨p, vs, i, u, rfl, rfl, s, by rw [hi]; exact atI_nat hu, q _ H1 (Same.refl H1) hd⟩
theorem evd_ixL {xs : List α} {i : Int} {j : Nat} {a : α} (ha : EvD K ta σ H xs) (hb : EvD K tb σ H i) (hi : i = (j : Int)) (hx : xs[j]? = some a) : EvD K (tOp (rIxL K) ta tb) σ H a :=
  evd_op ha hb fun v w H1 _ hv hw Q q => by
    rw [Hd.int hw]
    obtain ⟨p, vs, rfl, s, hs⟩ := Hd.list hv
    obtain ⟨u, hu, hd⟩ := hs.get' hx
    exact ⟨p, vs, i, u, rfl, rfl, s, by rw [hi]; exact atI_nat hu, q _ H1 (Same.refl H1) hd⟩
/-! argument lists -/
abbrev A1 (K : PySem.W.Frag) (x : τ) (vs : List V) (H : Hp) : Prop := ∃ v, vs = [v] ∧ Rep.rep K H v x
abbrev A2 (K : PySem.W.Frag) (x : τ) (y : ρ) (vs : List V) (H : Hp) : Prop := ∃ v w, vs = [v, w] ∧ Rep.rep K H v x ∧ Rep.rep K H w y
abbrev A3 (K : PySem.W.Frag) (x : τ) (y : ρ) (z : ω) (vs : List V) (H : Hp) : Prop := ∃ v w u, vs = [v, w, u] ∧ Rep.rep K H v x ∧ Rep.rep K H w y ∧ Rep.rep K H u z
theorem eva0 : EvA tNil σ H fun vs _ => vs = [] := fun H1 _ Q q => q [] H1 (Same.refl H1) rfl
theorem eva1 (ha : EvD K ta σ H x) : EvA (tCons ta tNil) σ H (A1 K x) := fun H1 e Q q => ha H1 e _ fun v H2 e2 hv => q _ H2 e2 ⟨v, rfl, hv⟩
theorem eva2 (ha : EvD K ta σ H x) (hb : EvD K tb σ H y) : EvA (tCons ta (tCons tb tNil)) σ H (A2 K x y) := fun H1 e Q q => ha H1 e _ fun v H2 e2 hv => hb H2 (e.trans e2) _ fun w H3 e3 hw => q _ H3 (e2.trans e3) ⟨v, w, rfl, Rep.up e3 hv, hw⟩
theorem eva3 (ha : EvD K ta σ H x) (hb : EvD K tb σ H y) (hc : EvD K tc σ H z) : EvA (tCons ta (tCons tb (tCons tc tNil))) σ H (A3 K x y z) := fun H1 e Q q =>
  ha H1 e _ fun v H2 e2 hv => hb H2 (e.trans e2) _ fun w H3 e3 hw => hc H3 ((e.trans e2).trans e3) _ fun u H4 e4 hu => q _ H4 ((e2.trans e3).trans e4) ⟨v, w, u, rfl, Rep.up (e3.trans e4) hv, Rep.up e4 hw, hu⟩
/-! displays -/
theorem evd_pair {a : α} {b : β} (ha : EvD K ta σ H a) (hb : EvD K tb σ H b) : EvD K (tTup (tCons ta (tCons tb tNil))) σ H (a, b) := fun H1 e Q q =>
  eva2 ha hb H1 e _ fun vs H2 e2 ⟨v, w, ev, hv, hw⟩ => by
    subst ev
    refine ⟨by show 2 ≤ sizeLine; decide, fun p hp => ?_⟩
    have e3 : Same H2 (upd H2 p (.tup [v, w])) := fun b o hb => by rw [upd_ne (ne_of_none hb hp)]; exact hb
    exact q _ _ (e2.trans e3) (hd_pair (SqT.of upd_same) (Hd.up e3 hv) (Hd.up e3 hw))
theorem evd_unit {a : α} (ha : EvD K ta σ H a) : EvD K (tTup (tCons ta tNil)) σ H (Tup.mk [a]) := fun H1 e Q q =>
  eva1 ha H1 e _ fun vs H2 e2 ⟨v, ev, hv⟩ => by
    subst ev
    refine ⟨by show 1 ≤ sizeLine; decide, fun p hp => ?_⟩
    have e3 : Same H2 (upd H2 p (.tup [v])) := fun b o hb => by rw [upd_ne (ne_of_none hb hp)]; exact hb
    exact q _ _ (e2.trans e3) (hd_tup (SqT.of upd_same) (hds_cons (Hd.up e3 hv) hds_nil))
theorem evd_tnil : EvD K (tTup tNil) σ H (Tup.mk ([] : List α)) := fun H1 e Q q => by
  refine ⟨by show 0 ≤ sizeLine; decide, fun p hp => ?_⟩
  have e3 : Same H1 (upd H1 p (.tup [])) := fun b o hb => by rw [upd_ne (ne_of_none hb hp)]; exact hb
  exact q _ _ e3 (hd_tup (SqT.of upd_same) hds_nil)
theorem evd_snoc {t : Tup α} {a : α} (ha : EvD K ta σ H t) (hb : EvD K tb σ H a) (hz : t.items.length ≤ 1000) : EvD K (tTup (StX.tStar K ta (tCons tb tNil))) σ H (Tup.mk (t.items ++ [a])) := fun H1 e Q q =>
  ha H1 e _ fun v H2 e2 hv => by
    obtain ⟨p, xs, rfl, s, hs⟩ := Hd.tup hv
    refine ⟨p, xs, rfl, .inl s, hb H2 (e.trans e2) _ fun w H3 e3 hw => ?_⟩
    have hl : (xs ++ [w]).length ≤ sizeLine := by
      have := hs.len
      have h2 : (1001 : Nat) ≤ sizeLine := by decide
      simp only [List.length_append, List.length_singleton]
      omega
    refine ⟨hl, fun p' hp => ?_⟩
    have e4 : Same H3 (upd H3 p' (.tup (xs ++ [w]))) := fun b o hb => by rw [upd_ne (ne_of_none hb hp)]; exact hb
    exact q _ _ ((e2.trans e3).trans e4) (hd_tup (SqT.of upd_same) ((hs.up (e3.trans e4)).app (hds_cons (Hd.up e4 hw) hds_nil)))
theorem evl_nil : EvL K (tLst tNil) σ H ([] : List α) := fun H1 e Q q => by
  refine ⟨by show 0 ≤ sizeLine; decide, fun p hp => ?_⟩
  have e3 : Same H1 (upd H1 p (.lst [])) := fun b o hb => by rw [upd_ne (ne_of_none hb hp)]; exact hb
  exact q p [] _ hp e3 upd_same hds_nil
theorem evl_one {a : α} (ha : EvD K ta σ H a) : EvL K (tLst (tCons ta tNil)) σ H [a] := fun H1 e Q q =>
  eva1 ha H1 e _ fun vs H2 e2 ⟨v, ev, hv⟩ => by
    subst ev
    refine ⟨by show 1 ≤ sizeLine; decide, fun p hp => ?_⟩
    have e3 : Same H2 (upd H2 p (.lst [v])) := fun b o hb => by rw [upd_ne (ne_of_none hb hp)]; exact hb
    exact q p [v] _ (e2.free hp) (e2.trans e3) upd_same (hds_cons (Hd.up e3 hv) hds_nil)
theorem evl_two {a b : α} (ha : EvD K ta σ H a) (hb : EvD K tb σ H b) : EvL K (tLst (tCons ta (tCons tb tNil))) σ H [a, b] := fun H1 e Q q =>
  eva2 ha hb H1 e _ fun vs H2 e2 ⟨v, w, ev, hv, hw⟩ => by
    subst ev
    refine ⟨by show 2 ≤ sizeLine; decide, fun p hp => ?_⟩
    have e3 : Same H2 (upd H2 p (.lst [v, w])) := fun b o hb => by rw [upd_ne (ne_of_none hb hp)]; exact hb
    exact q p [v, w] _ (e2.free hp) (e2.trans e3) upd_same (hds_cons (Hd.up e3 hv) (hds_cons (Hd.up e3 hw) hds_nil))
/-! calls of built-ins -/
theorem evd_cb {r : List V → Hp → VK → Prop} {tA : TA} {P : List V → Hp → Prop} (ha : EvA tA σ H P) (hr : ∀ vs H1, Same H H1 → P vs H1 → ∀ Q : VK, (∀ v H2, Same H1 H2 → Rep.rep K H2 v z → Q v H2) → r vs H1 Q) : EvD K (tCB r tA) σ H z := fun H1 e Q q =>
  ha H1 e _ fun vs H2 e2 hp => hr vs H2 (e.trans e2) hp Q fun v H3 e3 hv => q v H3 (e2.trans e3) hv
theorem evl_cb {r : List V → Hp → VK → Prop} {tA : TA} {P : List V → Hp → Prop} {zs : List α} (ha : EvA tA σ H P) (hr : ∀ vs H1, Same H H1 → P vs H1 → ∀ Q : VK, (∀ p ws H2, H1 p = none → Same H1 H2 → H2 p = some (.lst ws) → Hds K H2 ws zs → Q (.ref p) H2) → r vs H1 Q) : EvL K (tCB r tA) σ H zs := fun H1 e Q q =>
  ha H1 e _ fun vs H2 e2 hp => hr vs H2 (e.trans e2) hp Q fun p ws H3 hn e3 h3 hv => q p ws H3 (e2.free hn) (e2.trans e3) h3 hv
/-! tests -/
theorem evb_val {b : Bool} (h : EvD K te σ H b) : EvB (tB te) σ H b := fun H1 e Q q => h H1 e _ fun v H2 e2 hv => ⟨b, Hd.bool hv, q H2 e2⟩
theorem evb_test {b : Bool} (h : EvD K te σ H b) : EvB (tTest te) σ H b := fun H1 e Q q => h H1 e _ fun v H2 e2 hv => ⟨b, Hd.bool hv, q H2 e2⟩
theorem evb_not {b : Bool} (h : EvB tt σ H b) : EvB (tNot tt) σ H (!b) := fun H1 e Q q => h H1 e _ fun H2 e2 => q H2 e2
theorem evb_and {a b : Bool} (h : EvB tt σ H a) (h2 : a = true → EvB tu σ H b) : EvB (tAnd tt tu) σ H (a && b) := fun H1 e Q q => h H1 e _ fun H2 e2 => by
  cases a with
  | false => exact iteF (q H2 e2)
  | true => exact iteT (h2 rfl H2 (e.trans e2) Q fun H3 e3 => q H3 (e2.trans e3))
theorem evb_or {a b : Bool} (h : EvB tt σ H a) (h2 : a = false → EvB tu σ H b) : EvB (tOr tt tu) σ H (a || b) := fun H1 e Q q => h H1 e _ fun H2 e2 => by
  cases a with
  | true => exact iteT (q H2 e2)
  | false => exact iteF (h2 rfl H2 (e.trans e2) Q fun H3 e3 => q H3 (e2.trans e3))
theorem evd_and {a b : Bool} (h : EvD K ta σ H a) (h2 : a = true → EvD K tb σ H b) : EvD K (tAndV ta tb) σ H (a && b) := fun H1 e Q q => h H1 e _ fun v H2 e2 hv => ⟨a, Hd.bool hv, by
  cases a with
  | false => exact iteF (q _ H2 e2 (hd_bool false))
  | true => exact iteT (h2 rfl H2 (e.trans e2) Q fun u H3 e3 hu => q u H3 (e2.trans e3) hu)⟩
theorem evd_or {a b : Bool} (h : EvD K ta σ H a) (h2 : a = false → EvD K tb σ H b) : EvD K (tOrV ta tb) σ H (a || b) := fun H1 e Q q => h H1 e _ fun v H2 e2 hv => ⟨a, Hd.bool hv, by
  cases a with
  | true => exact iteT (q _ H2 e2 (hd_bool true))
  | false => exact iteF (h2 rfl H2 (e.trans e2) Q fun u H3 e3 hu => q u H3 (e2.trans e3) hu)⟩
theorem evd_not {a : Bool} (h : EvD K ta σ H a) : EvD K (tNotV ta) σ H (!a) := fun H1 e Q q => h H1 e _ fun v H2 e2 hv => ⟨a, Hd.bool hv, q _ H2 e2 (hd_bool _)⟩
/-- low <= value <= high -/
theorem evd_chain {f g : Int → Int → Bool} {i j k : Int} (ha : EvD K ta σ H i) (hb : EvD K tb σ H j) (hc : EvD K tc σ H k) : EvD K (tChain (rI0 fun i j => .bl (f i j)) (rI0 fun i j => .bl (g i j)) ta tb tc) σ H (f i j && g j k) := fun H1 e Q q =>
  ha H1 e _ fun v H2 e2 hv => hb H2 (e.trans e2) _ fun w H3 e3 hw => by
    rw [Hd.int hv, Hd.int hw]
    refine ⟨i, j, rfl, rfl, f i j, rfl, ?_⟩
    generalize f i j = c at q ⊢
    cases c with
    | false => exact iteF (q _ H3 (e2.trans e3) (hd_bool _))
    | true =>
      refine iteT (hc H3 ((e.trans e2).trans e3) _ fun u H4 e4 hu => ?_)
      rw [Hd.int hu]
      exact ⟨j, k, rfl, rfl, q _ H4 ((e2.trans e3).trans e4) (hd_bool _)⟩
/-! calls of defs -/
/-- a def that changes nothing: from arguments of which R x holds to a value that stands for f x -/
def PureP {θ : Type} (K : PySem.W.Frag) (R : θ → List V → Hp → Prop) (pre : θ → Prop) (f : θ → ω) : Sp := fun vs H Q _ => ∃ x, R x vs H ∧ pre x ∧ ∀ v H', Same H H' → Rep.rep K H' v (f x) → Q v H'
/-- .. to a new list -/
def PureL {θ : Type} (K : PySem.W.Frag) (R : θ → List V → Hp → Prop) (pre : θ → Prop) (f : θ → List α) : Sp := fun vs H Q _ => ∃ x, R x vs H ∧ pre x ∧ ∀ p ws H', H p = none → Same H H' → H' p = some (.lst ws) → Hds K H' ws (f x) → Q (.ref p) H'
variable {θ : Type} {R : θ → List V → Hp → Prop} {pre : θ → Prop} {tA : TA} {E : XK}
theorem evd_call {f : θ → ω} {x : θ} (ha : EvA tA σ H (R x)) (hp : pre x) : EvD K (tCall (PureP K R pre f) [] E tA) σ H (f x) := fun H1 e Q q =>
  ha H1 e _ fun vs H2 e2 hr => ⟨x, by rw [List.append_nil]; exact hr, hp, fun v H3 e3 hv => q v H3 (e2.trans e3) hv⟩
theorem evl_call {f : θ → List α} {x : θ} (ha : EvA tA σ H (R x)) (hp : pre x) : EvL K (tCall (PureL K R pre f) [] E tA) σ H (f x) := fun H1 e Q q =>
  ha H1 e _ fun vs H2 e2 hr => ⟨x, by rw [List.append_nil]; exact hr, hp, fun p ws H3 hn e3 h3 hv => q p ws H3 (e2.free hn) (e2.trans e3) h3 hv⟩
/-! statements -/
variable {D : Ends} {tS tU : TS} {g : TG}
theorem s_ret (h : EvD K te σ H x) (k : ∀ v H1, Same H H1 → Rep.rep K H1 v x → D.rt v H1) : tRet te D σ H := h H (Same.refl H) _ fun v H1 e hv => k v H1 e hv
theorem s_retL {xs : List α} (h : EvL K te σ H xs) (k : ∀ p ws H1, H p = none → Same H H1 → H1 p = some (.lst ws) → Hds K H1 ws xs → D.rt (.ref p) H1) : tRet te D σ H := h H (Same.refl H) _ fun p ws H1 hn e h1 hv => k p ws H1 hn e h1 hv
theorem s_asg {i : Nat} (h : EvD K te σ H x) (k : ∀ v H1, Same H H1 → Rep.rep K H1 v x → D.nx (σ.set i (some v)) H1) : tAsg te (gName i) D σ H := h H (Same.refl H) _ fun v H1 e hv => k v H1 e hv
theorem s_asgL {i : Nat} {xs : List α} (h : EvL K te σ H xs) (k : ∀ p ws H1, H p = none → Same H H1 → H1 p = some (.lst ws) → Hds K H1 ws xs → D.nx (σ.set i (some (.ref p))) H1) : tAsg te (gName i) D σ H := h H (Same.refl H) _ fun p ws H1 hn e h1 hv => k p ws H1 hn e h1 hv
theorem s_if {b : Bool} (h : EvB tt σ H b) (h1 : b = true → ∀ H1, Same H H1 → tS D σ H1) (h2 : b = false → ∀ H1, Same H H1 → tU D σ H1) : tIfS tt tS tU D σ H := h H (Same.refl H) _ fun H1 e => by
  cases b with
  | true => exact iteT (h1 rfl H1 e)
  | false => exact iteF (h2 rfl H1 e)
theorem s_drop (h : EvD K te σ H x) (k : ∀ H1, Same H H1 → D.nx σ H1) : tDrop te D σ H := h H (Same.refl H) _ fun _ H1 e _ => k H1 e
theorem q_asg {i : Nat} (h : EvD K te σ H x) (k : ∀ v H1, Same H H1 → Rep.rep K H1 v x → tU D (σ.set i (some v)) H1) : tSeq (tAsg te (gName i)) tU D σ H := s_asg (D := { D with nx := tU D }) h k
theorem q_asgL {i : Nat} {xs : List α} (h : EvL K te σ H xs) (k : ∀ p ws H1, H p = none → Same H H1 → H1 p = some (.lst ws) → Hds K H1 ws xs → tU D (σ.set i (some (.ref p))) H1) : tSeq (tAsg te (gName i)) tU D σ H := s_asgL (D := { D with nx := tU D }) h k
theorem q_when {b : Bool} (h : EvB tt σ H b) (h1 : b = true → ∀ H1, Same H H1 → tS { D with nx := tU D } σ H1) (h2 : b = false → ∀ H1, Same H H1 → tU D σ H1) : tSeq (tIfS tt tS tNext) tU D σ H := s_if (D := { D with nx := tU D }) h h1 h2
theorem s_when {b : Bool} (h : EvB tt σ H b) (h1 : b = true → ∀ H1, Same H H1 → tS D σ H1) (h2 : b = false → ∀ H1, Same H H1 → D.nx σ H1) : tIfS tt tS tNext D σ H := s_if h h1 h2
theorem q_drop (h : EvD K te σ H x) (k : ∀ H1, Same H H1 → tU D σ H1) : tSeq (tDrop te) tU D σ H := s_drop (D := { D with nx := tU D }) h k
end
end K76
set_option Elab.async false
set_option linter.all false
set_option maxRecDepth 100000
/-! K76, part 3b: what is walked; comprehensions -/
namespace K76
open PySem L2
open PySem.W (Tup Datum DatumOrd)

section
variable {K : PySem.W.Frag} {σ : L2.St} {H H' : Hp} {ta tb tc te tl : TE} {tt tu : TT} {wi wj : TI} {g g1 : TG} {vs vs1 : List Nat} {α β γ : Type} [DecidableEq α] [Datum α] [DecidableEq β] [Datum β] [DecidableEq γ] [Datum γ] {xs : List α}
theorem EvI.up (h : EvI K wi σ H xs) (e : Same H H') : EvI K wi σ H' xs := fun H1 a R q => h H1 (e.trans a) R q
theorem evi_list (h : EvD K tl σ H xs) : EvI K (iList K tl) σ H xs := fun H1 e R q => h H1 e _ fun v H2 e2 hv => by
  obtain ⟨a, ws, rfl, s, hs⟩ := Hd.list hv
  exact ⟨a, rfl, ⟨ws, s⟩, q _ H2 ws e2 hs (walk_list.mono (fun H' e' => Same.seq e' s) fun _ _ _ _ _ _ y => y)⟩
theorem evi_tup {t : Tup α} (h : EvD K tl σ H t) : EvI K (iTup K tl) σ H t.items := fun H1 e R q => h H1 e _ fun v H2 e2 hv => by
  obtain ⟨a, ws, rfl, s, hs⟩ := Hd.tup hv
  exact ⟨a, rfl, ⟨ws, s⟩, q _ H2 ws e2 hs (walk_tup.mono (fun H' e' => sqT_up e' s) fun _ _ _ _ _ _ y => y)⟩
def upTo (n : Nat) : List Int := (List.range n).map fun (i : Nat) => (i : Int)
theorem upTo_get {n i : Nat} (h : i < n) : (upTo n)[i]? = some (i : Int) := by
  unfold upTo
  rw [List.getElem?_map, List.getElem?_range h]
  rfl
theorem upTo_len (n : Nat) : (upTo n).length = n := by simp [upTo]
theorem evi_range {n : Int} (h : EvD K ta σ H n) (hn : n < 2 ^ 62) (h0 : 0 ≤ n) : EvI K (iRng1 (tCons ta tNil)) σ H (upTo n.toNat) := fun H1 e R q => h H1 e _ fun v H2 e2 hv => by
  rw [Hd.int hv]
  refine ⟨n, rfl, by omega, hn, q _ H2 ((upTo n.toNat).map V.int) e2 (hds_ints _) ?_⟩
  have hl : ((upTo n.toNat).map V.int).length = n.toNat := by rw [List.length_map, upTo_len]
  rw [hl]
  refine walk_range.mono (fun _ _ => trivial) fun i H x H' hi _ y => ⟨y.1, ?_⟩
  rw [y.2, List.getElem?_map, upTo_get hi]
  simp

/-! ### the target of a turn: what it stores -/
/-- σ0 the slots ahead of it; T x σ2 H: behind it, for the item x -/
def TgOk (K : PySem.W.Frag) (g : TG) (σ0 : L2.St) (T : α → L2.St → Hp → Prop) : Prop := ∀ (v : V) (x : α) (H : Hp) (Q : L2.St → Hp → Prop), Hd K H v x → (∀ σ2, T x σ2 H → Q σ2 H) → g v σ0 H Q
abbrev T1 (K : PySem.W.Frag) (i : Nat) (σ0 : L2.St) (x : α) (σ2 : L2.St) (H : Hp) : Prop := ∃ v, σ2 = σ0.set i (some v) ∧ Hd K H v x
abbrev T2 (K : PySem.W.Frag) (i j : Nat) (σ0 : L2.St) (x : α × β) (σ2 : L2.St) (H : Hp) : Prop := ∃ v w, σ2 = (σ0.set i (some v)).set j (some w) ∧ Hd K H v x.1 ∧ Hd K H w x.2
theorem tg1 {i : Nat} {σ0 : L2.St} : TgOk K (gName i) σ0 (T1 (α := α) K i σ0) := fun v x H Q h q => q _ ⟨v, rfl, h⟩
theorem tg2 {i j : Nat} {σ0 : L2.St} : TgOk K (gTup K 2 (gCons (gName i) (gCons (gName j) gNil))) σ0 (T2 (α := α) (β := β) K i j σ0) := fun v x H Q h q => by
  obtain ⟨a, v1, v2, rfl, s, h1, h2⟩ := h.pair
  exact ⟨a, [v1, v2], rfl, s, rfl, v1, [v2], rfl, v2, [], rfl, rfl, q _ ⟨v1, v2, rfl, h1, h2⟩⟩

/-! ### comprehensions -/
theorem sqT_store {D : Addr} {acc acc' : List V} (hD : H D = some (.lst acc)) : ∀ a xs, SqT K H a xs → SqT K (upd H D (.lst acc')) a xs := fun a xs h => by
  rcases h with (h | ⟨o, h⟩) | h
  · exact .inl (.inl (by rw [upd_ne (ne_of h hD (by intro z; cases z))]; exact h))
  · exact .inl (.inr ⟨o, by rw [upd_ne (ne_of h hD (by intro z; cases z))]; exact h⟩)
  · exact .inr h
theorem paired_app {A B : Type} {F : A → B → Prop} : ∀ {l : List A} {m : List B} {a : A} {b : B}, Paired F l m → F a b → Paired F (l ++ [a]) (m ++ [b])
  | _, _, _, _, .nil, h => .cons h .nil
  | _, _, _, _, .cons r t, h => .cons r (paired_app t h)
theorem hds_of_paired : ∀ {ws : List V} {xs : List β}, Paired (fun v x => Hd K H v x) ws xs → Hds K H ws xs
  | _, _, .nil => hds_nil
  | _, _, .cons r t => hds_cons r (hds_of_paired t)
theorem paired_len {A B : Type} {F : A → B → Prop} : ∀ {l : List A} {m : List B}, Paired F l m → l.length = m.length
  | _, _, .nil => rfl
  | _, _, .cons _ t => by simp [paired_len t]
theorem filt_next {p : α → Bool} {f : α → γ} {i : Nat} {x : α} (h : xs[i]? = some x) : ((xs.take (i + 1)).filter p).map f = ((xs.take i).filter p).map f ++ (if p x = true then [f x] else []) := by
  rw [List.take_add_one, h]
  by_cases hp : p x = true <;> simp [hp]
theorem filt_len (p : α → Bool) (f : α → γ) (i : Nat) : (((xs.take i).filter p).map f).length ≤ i := by
  rw [List.length_map]
  exact Nat.le_trans (List.length_filter_le _ _) (List.length_take_le _ _)
/-- the general rule: each item that is made has P (D the new list's address) -/
theorem evl_lcP {T : α → L2.St → Hp → Prop} {p : α → Bool} (P : Addr → α → V → Hp → Prop) (hup : ∀ D x v H H', Same H H' → P D x v H → P D x v H')
    (hst : ∀ D x v H acc acc', H D = some (.lst acc) → P D x v H → P D x v (upd H D (.lst acc')))
    (hs : EvI K wi σ H xs) (hz : xs.length ≤ 100000) (hg : TgOk K g (wipe σ vs) T)
    (hb : ∀ x σ2 H1, Same H H1 → x ∈ xs → T x σ2 H1 → wipe σ2 vs = wipe σ vs ∧ EvB tt σ2 H1 (p x) ∧ (p x = true → ∀ D acc, H1 D = some (.lst acc) → EvQ te σ2 H1 (P D x)))
    {Q : VK} (hq : ∀ D acc H2, H D = none → Same H H2 → H2 D = some (.lst acc) → Paired (fun v x => P D x v H2) acc (xs.filter p) → Q (.ref D) H2) : tLc wi g tt te vs σ H Q := by
  refine hs H (Same.refl H) _ fun J H2 ws e2 hw W D hD => ?_
  have hlen : ws.length = xs.length := hw.len
  refine lc_it W (fun i H' => Same H2 H' ∧ ∃ acc, H' D = some (.lst acc) ∧ Paired (fun v x => P D x v H') acc ((xs.take i).filter p))
    ⟨fun b o hb => by rw [upd_ne (ne_of_none hb hD)]; exact hb, [], upd_same, .nil⟩ (fun i H' _ h => h.1) ?_ ?_
  · rintro i v H3 H3' hi ⟨e3, acc, hacc, hp⟩ ⟨rfl, hv⟩
    obtain ⟨x, hx, hxd⟩ := hw.get hv
    have hmem : x ∈ xs := List.mem_of_getElem? hx
    refine hg v x H3' _ (hxd.up e3) fun σ2 hT => ?_
    obtain ⟨b1, b2, b3⟩ := hb x σ2 H3' (e2.trans e3) hmem hT
    refine ⟨b1, b2 H3' (Same.refl _) _ fun H4 e4 => ?_⟩
    have hn : ((xs.take (i + 1)).filter p) = ((xs.take i).filter p) ++ (if p x = true then [x] else []) := by
      have := filt_next (xs := xs) (p := p) (f := id) hx
      simpa using this
    cases hpx : p x with
    | false =>
      refine iteF ⟨e3.trans e4, acc, e4 _ _ hacc, ?_⟩
      rw [hn, hpx]
      simp only [Bool.false_eq_true, if_false, List.append_nil]
      exact L2.Paired.mapP hp fun a b h => hup D b a _ _ e4 h
    | true =>
      refine iteT (b3 hpx D acc hacc H4 e4 _ fun y H5 e5 hy => ⟨acc, e5 _ _ (e4 _ _ hacc), ?_, ?_, ?_⟩)
      · have h1 := paired_len hp
        have h2 : ((xs.take i).filter p).length ≤ i := Nat.le_trans (List.length_filter_le _ _) (List.length_take_le _ _)
        have h3 : (100001 : Nat) ≤ sizeLine := by decide
        omega
      · intro b o hb
        rw [upd_ne (ne_of_none hb hD)]
        exact e5 _ _ (e4 _ _ (e3 _ _ hb))
      · refine ⟨acc ++ [y], upd_same, ?_⟩
        rw [hn, hpx]
        simp only [if_true]
        have h5 := e5 _ _ (e4 _ _ hacc)
        exact paired_app (L2.Paired.mapP hp fun a b h => hst D b a _ _ _ h5 (hup D b a _ _ (e4.trans e5) h)) (hst D x y _ _ _ h5 hy)
  · rintro H3 ⟨e3, acc, hacc, hp⟩
    refine hq D acc H3 (e2.free hD) (e2.trans e3) hacc ?_
    rw [hlen, List.take_length] at hp
    exact hp
/-- items without lists within -/
theorem evl_lc [Solid β] {T : α → L2.St → Hp → Prop} {p : α → Bool} {f : α → β} (hs : EvI K wi σ H xs) (hz : xs.length ≤ 100000) (hg : TgOk K g (wipe σ vs) T)
    (hb : ∀ x σ2 H1, Same H H1 → x ∈ xs → T x σ2 H1 → wipe σ2 vs = wipe σ vs ∧ EvB tt σ2 H1 (p x) ∧ (p x = true → EvD K te σ2 H1 (f x))) : EvL K (tLc wi g tt te vs) σ H ((xs.filter p).map f) := fun H0 e0 Q q =>
  evl_lcP (fun _ x v H => Hd K H v (f x)) (fun _ _ _ _ _ e h => h.up e) (fun D x v H acc acc' hD h => h.keep (sqT_store hD)) (hs.up e0) hz hg
    (fun x σ2 H1 e hx hT => let ⟨b1, b2, b3⟩ := hb x σ2 H1 (e0.trans e) hx hT; ⟨b1, b2, fun hp _ _ _ => b3 hp⟩) fun D acc H2 hn e2 hD hP => q D acc H2 hn e2 hD (by
      have : ∀ (l : List V) (m : List α), Paired (fun v x => Hd K H2 v (f x)) l m → Hds K H2 l (m.map f) := by
        intro l m h
        induction h with
        | nil => exact hds_nil
        | cons r _ ih => exact hds_cons r ih
      exact this _ _ hP)
theorem evb_yes : EvB tYes σ H true := fun H1 _ Q q => q H1 (Same.refl H1)
/-- no test -/
theorem evl_map [Solid β] {T : α → L2.St → Hp → Prop} {f : α → β} (hs : EvI K wi σ H xs) (hz : xs.length ≤ 100000) (hg : TgOk K g (wipe σ vs) T)
    (hb : ∀ x σ2 H1, Same H H1 → x ∈ xs → T x σ2 H1 → wipe σ2 vs = wipe σ vs ∧ EvD K te σ2 H1 (f x)) : EvL K (tLc wi g tYes te vs) σ H (xs.map f) := by
  have h := evl_lc (p := fun _ => true) (f := f) hs hz hg (fun x σ2 H1 e hx hT => let ⟨b1, b2⟩ := hb x σ2 H1 e hx hT; ⟨b1, evb_yes, fun _ => b2⟩)
  have e : xs.filter (fun _ => true) = xs := List.filter_eq_self.mpr fun _ _ => rfl
  rw [e] at h
  exact h
/-- the items themselves, by a test -/
theorem evl_filter [Solid α] {T : α → L2.St → Hp → Prop} {p : α → Bool} (hs : EvI K wi σ H xs) (hz : xs.length ≤ 100000) (hg : TgOk K g (wipe σ vs) T)
    (hb : ∀ x σ2 H1, Same H H1 → x ∈ xs → T x σ2 H1 → wipe σ2 vs = wipe σ vs ∧ EvB tt σ2 H1 (p x) ∧ EvD K te σ2 H1 x) : EvL K (tLc wi g tt te vs) σ H (xs.filter p) := by
  have h := evl_lc (p := p) (f := id) hs hz hg (fun x σ2 H1 e hx hT => let ⟨b1, b2, b3⟩ := hb x σ2 H1 e hx hT; ⟨b1, b2, fun _ => b3⟩)
  rw [List.map_id] at h
  exact h
/-! all(..), len(..) -/
theorem evd_all {bs : List Bool} (h : EvD K ta σ H bs) : EvD K (tCB (rAll K) (tCons ta tNil)) σ H (bs.all id) := evd_cb (eva1 h) fun vs H1 _ ⟨v, e, hv⟩ Q q => by
  subst e
  obtain ⟨a, ws, rfl, s, hs⟩ := Hd.list hv
  have hw : ∀ (ws : List V) (bs : List Bool), Hds K H1 ws bs → ws = bs.map V.bl := by
    intro ws bs
    induction bs generalizing ws with
    | nil => exact fun h => h.nil_inv
    | cons b bs ih =>
      intro h
      obtain ⟨v, r, rfl, h1, h2⟩ := h.cons_inv
      rw [h1.bool, ih _ h2]; rfl
  rw [hw _ _ hs] at s
  exact ⟨a, bs, rfl, s, q _ H1 (Same.refl H1) (hd_bool _)⟩
/-- the reading of len over lists and tuples -/
abbrev rLen (K : PySem.W.Frag) : List V → Hp → VK → Prop := fun xs H Q => ∃ p ys, xs = [.ref p] ∧ (SqL K H p ys ∨ SqT K H p ys) ∧ Q (.int ys.length) H
theorem evd_lenL (h : EvD K ta σ H xs) : EvD K (tCB (rLen K) (tCons ta tNil)) σ H (xs.length : Int) := evd_cb (eva1 h) fun vs H1 _ ⟨v, e, hv⟩ Q q => by
  subst e
  obtain ⟨a, ws, rfl, s, hs⟩ := Hd.list hv
  refine ⟨a, ws, rfl, .inl s, ?_⟩
  rw [hs.len]
  exact q _ H1 (Same.refl H1) (hd_int _)
theorem evd_lenT {t : Tup α} (h : EvD K ta σ H t) : EvD K (tCB (rLen K) (tCons ta tNil)) σ H (t.items.length : Int) := evd_cb (eva1 h) fun vs H1 _ ⟨v, e, hv⟩ Q q => by
  subst e
  obtain ⟨a, ws, rfl, s, hs⟩ := Hd.tup hv
  refine ⟨a, ws, rfl, .inr s, ?_⟩
  rw [hs.len]
  exact q _ H1 (Same.refl H1) (hd_int _)
theorem evd_len2 {p : α × β} (h : EvD K ta σ H p) : EvD K (tCB (rLen K) (tCons ta tNil)) σ H (2 : Int) := evd_cb (eva1 h) fun vs H1 _ ⟨v, e, hv⟩ Q q => by
  subst e
  obtain ⟨a, v1, v2, rfl, s, _⟩ := Hd.pair hv
  exact ⟨a, _, rfl, .inr s, q _ H1 (Same.refl H1) (hd_int _)⟩
/-! isinstance -/
theorem sqT_ty {a : Addr} {xs : List V} (s : SqT K H a xs) : TyX K H (.ref a) (.type "tuple") := by
  rcases s with (s | ⟨o, s⟩) | ⟨o, its, n, ho, hc, _⟩
  · exact .base (.tup s)
  · exact .fTuple s
  · exact .kTuple ho hc
theorem sqL_ty {a : Addr} {xs : List V} (s : SqL K H a xs) : TyX K H (.ref a) (.type "list") := by
  rcases s with (s | ⟨o, s⟩) | ⟨o, its, n, ho, hc, _⟩
  · exact .base (.lst s)
  · exact .base (.frz s)
  · exact .kList ho hc
/-- the built-in type of a datum, by name -/
def tyName : PyData → String
  | .none => "NoneType"
  | .bool _ => "bool"
  | .int _ => "int"
  | .str _ => "str"
  | .list _ => "list"
  | .tuple _ => "tuple"
  | .dict _ => "dict"
theorem dp_ty {v : V} {d : PyData} (h : Dp K H v d) : TyX K H v (.type (tyName d)) := by
  cases h with
  | non => exact .base .non
  | bl b => exact .base (.bl b)
  | int i => exact .base (.int i)
  | str x => exact .base (.str x)
  | lst s _ => exact sqL_ty s
  | tup s _ => exact sqT_ty s
/-- isinstance(x, T), T a built-in type -/
theorem evd_isi {x : α} {n T : String} {b : Bool} (h : EvD K ta σ H x) (hn : tyName (Datum.toD x) = n) (hk : kitB n T = some b) : EvD K (tCB (rIsi K) (tCons ta (tCons (tC (.ty T)) tNil))) σ H b := fun H1 e Q q =>
  h H1 e _ fun v H2 e2 hv => ⟨v, .ty T, _, _, b, rfl, .ty T, dp_ty hv, kit_ty (hn ▸ hk), q _ H2 e2 (hd_bool _)⟩
end
end K76
set_option Elab.async false
set_option linter.all false
set_option maxRecDepth 100000
/-! K76, part 3c: two clauses, more words -/
namespace K76
open PySem L2
open PySem.W (Tup Datum DatumOrd)
instance : Solid Bool := ⟨fun _ => rfl⟩
/-- the tuples stay -/
def KeepT (K : PySem.W.Frag) (H H' : Hp) : Prop := ∀ a xs, SqT K H a xs → SqT K H' a xs
theorem KeepT.refl {K : PySem.W.Frag} (H : Hp) : KeepT K H H := fun _ _ h => h
theorem KeepT.trans {K : PySem.W.Frag} {H H1 H2 : Hp} (a : KeepT K H H1) (b : KeepT K H1 H2) : KeepT K H H2 := fun p xs h => b p xs (a p xs h)
theorem KeepT.of {K : PySem.W.Frag} {H H' : Hp} (e : Same H H') : KeepT K H H' := fun _ _ h => sqT_up e h
theorem KeepT.store {K : PySem.W.Frag} {H : Hp} {D : Addr} {acc acc' : List V} (hD : H D = some (.lst acc)) : KeepT K H (upd H D (.lst acc')) := sqT_store hD
/-- a source of tuples' items, the lists may change -/
def EvIT {α : Type} [DecidableEq α] [Datum α] (K : PySem.W.Frag) (wi : TI) (σ : L2.St) (H : Hp) (xs : List α) : Prop :=
  ∀ H1, Same H H1 → ∀ R : It → Hp → Prop, (∀ J H2 ws, Same H1 H2 → Hds K H2 ws xs → Walk J ws.length (fun H' => KeepT K H2 H') (YAt ws) → R J H2) → wi σ H1 R
section
variable {K : PySem.W.Frag} {σ : L2.St} {H H' : Hp} {ta tb tc te tl : TE} {tt tu : TT} {wi wj : TI} {g g1 : TG} {vs vs1 : List Nat} {α β γ : Type} [DecidableEq α] [Datum α] [DecidableEq β] [Datum β] [DecidableEq γ] [Datum γ] {xs : List α}
theorem evit_tup {t : Tup α} (h : EvD K tl σ H t) : EvIT K (iTup K tl) σ H t.items := fun H1 e R q => h H1 e _ fun v H2 e2 hv => by
  obtain ⟨a, ws, rfl, s, hs⟩ := Hd.tup hv
  exact ⟨a, rfl, ⟨ws, s⟩, q _ H2 ws e2 hs (walk_tup.mono (fun H' e' => e' _ _ s) fun _ _ _ _ _ _ y => y)⟩
theorem EvIT.i (h : EvIT K wi σ H xs) : EvI K wi σ H xs := fun H1 e R q => h H1 e R fun J H2 ws e2 hw W => q J H2 ws e2 hw (W.mono (fun H' e' => KeepT.of e') fun _ _ _ _ _ _ y => y)
/-- a pair read as a tuple of two -/
theorem evd_two {p : α × α} (h : EvD K te σ H p) : EvD K te σ H (Tup.mk [p.1, p.2]) := fun H1 e Q q => h H1 e Q fun v H2 e2 hv => by
  obtain ⟨a, v1, v2, rfl, s, h1, h2⟩ := Hd.pair hv
  exact q _ H2 e2 (hd_tup s (hds_cons h1 (hds_cons h2 hds_nil)))
theorem evd_pairT {a b : α} (h : EvD K te σ H (a, b)) : EvD K te σ H (Tup.mk [a, b]) := evd_two h
theorem yes_go {Q : Bool → Hp → Prop} (h : Q true H) : tYes σ H Q := h
/-- [f x y for x in xs for y in ys] -/
theorem evl_map2 [Solid γ] [Solid β] {ys : List β} {T : α → L2.St → Hp → Prop} {f : α → β → γ} (hs : EvI K wi σ H xs) (hz : xs.length ≤ 1000) (hy : ys.length ≤ 10) (hg : TgOk K g (wipe σ vs) T)
    (hb : ∀ x σ2 H1, Same H H1 → x ∈ xs → T x σ2 H1 → wipe σ2 vs = wipe σ vs ∧ EvIT K wj σ2 H1 ys ∧ ∃ T' : β → L2.St → Hp → Prop, TgOk K g1 (wipe σ2 vs1) T' ∧
      ∀ y σ3 H2, KeepT K H1 H2 → y ∈ ys → T' y σ3 H2 → wipe σ3 vs1 = wipe σ2 vs1 ∧ EvD K te σ3 H2 (f x y)) :
    EvL K (tLc2 wi g tYes wj g1 tYes te vs vs1) σ H (xs.flatMap fun x => ys.map fun y => f x y) := fun H0 e0 Q q => by
  refine hs H0 e0 _ fun J H2 ws e2 hw W D hD => ?_
  have hlen : ws.length = xs.length := hw.len
  let F : α → List γ := fun x => ys.map fun y => f x y
  let Pv : Nat → Hp → Prop := fun i H' => Same H2 H' ∧ ∃ acc, H' D = some (.lst acc) ∧ Hds K H' acc ((xs.take i).flatMap F)
  have flen : ∀ (l : List α), (l.flatMap F).length ≤ l.length * 10 := by
    intro l
    induction l with
    | nil => simp
    | cons a l ih =>
      simp only [List.flatMap_cons, List.length_append, List.length_cons, F, List.length_map]
      have : (l.flatMap F).length ≤ l.length * 10 := ih
      simp only [F] at this
      omega
  refine ⟨fun i m H' => i ≤ ws.length ∧ m = ws.length - i ∧ Pv i H', ⟨ws.length, Nat.zero_le _, rfl, fun b o hb => by rw [upd_ne (ne_of_none hb hD)]; exact hb, [], upd_same, hds_nil⟩, ?_⟩
  rintro i m H3 ⟨hi, rfl, e3, acc, hacc, hp⟩
  rcases Nat.lt_or_ge i ws.length with hlt | hge
  · refine .inr ⟨W.goes i H3 hlt e3, fun H' => Pv (i + 1) H', fun H' h => ⟨ws.length - (i + 1), by omega, hlt, rfl, h⟩, fun v H3' hyl => ?_⟩
    obtain ⟨rfl, hv⟩ := W.yields i H3 v H3' hlt e3 hyl
    obtain ⟨x, hx, hxd⟩ := hw.get hv
    refine hg v x H3' _ (hxd.up e3) fun σ2 hT => ?_
    obtain ⟨b1, b2, T', b3, b4⟩ := hb x σ2 H3' ((e0.trans e2).trans e3) (List.mem_of_getElem? hx) hT
    refine ⟨b1, yes_go ?_⟩
    refine iteT ?_
    refine b2 H3' (Same.refl _) _ fun J1 H4 us e4 hus W1 => ?_
    have hul : us.length = ys.length := hus.len
    have h40 : H4 D = some (.lst acc) := e4 _ _ hacc
    have hnext : (xs.take (i + 1)).flatMap F = (xs.take i).flatMap F ++ F x := by
      rw [List.take_add_one, hx]
      simp
    let Pw : Nat → Hp → Prop := fun j H' => KeepT K H4 H' ∧ Same H2 H' ∧ ∃ acc', H' D = some (.lst acc') ∧ Hds K H' acc' ((xs.take i).flatMap F ++ (F x).take j)
    refine ⟨fun j k H' => j ≤ us.length ∧ k = us.length - j ∧ Pw j H', ⟨us.length, Nat.zero_le _, rfl, KeepT.refl _, e3.trans e4, acc, h40, ?_⟩, ?_⟩
    · rw [List.take_zero, List.append_nil]
      exact hp.up e4
    · rintro j k H5 ⟨hj, rfl, k5, e5, acc', hacc', hp'⟩
      rcases Nat.lt_or_ge j us.length with hjl | hjg
      · refine .inr ⟨W1.goes j H5 hjl k5, fun H' => Pw (j + 1) H', fun H' h => ⟨us.length - (j + 1), by omega, hjl, rfl, h⟩, fun u H5' hyl' => ?_⟩
        obtain ⟨rfl, hu⟩ := W1.yields j H5 u H5' hjl k5 hyl'
        obtain ⟨y, hy', hyd⟩ := hus.get hu
        refine b3 u y H5' _ (hyd.keep k5) fun σ3 hT' => ?_
        obtain ⟨c1, c2⟩ := b4 y σ3 H5' (KeepT.trans (KeepT.of e4) k5) (List.mem_of_getElem? hy') hT'
        refine ⟨c1, yes_go ?_⟩
        refine iteT ?_
        refine c2 H5' (Same.refl _) _ fun z H7 e7 hz7 => ⟨acc', e7 _ _ hacc', ?_, ?_, ?_, acc' ++ [z], upd_same, ?_⟩
        · have h1 := hp'.len
          have h2 := flen (xs.take i)
          have h3 : (xs.take i).length ≤ 1000 := Nat.le_trans (List.length_take_le _ _) (by omega)
          have h4 : ((F x).take j).length ≤ 10 := Nat.le_trans (List.length_take_le _ _) (by omega)
          have h5 : (20000 : Nat) ≤ sizeLine := by decide
          rw [List.length_append] at h1
          omega
        · exact KeepT.trans k5 (KeepT.trans (KeepT.of e7) (KeepT.store (e7 _ _ hacc')))
        · intro b o hb
          rw [upd_ne (ne_of_none hb hD)]
          exact e7 _ _ (e5 _ _ hb)
        · have hn : (F x).take (j + 1) = (F x).take j ++ [f x y] := by
            have hF : (F x)[j]? = some (f x y) := by
              show (ys.map fun y => f x y)[j]? = _
              rw [List.getElem?_map, hy']
              rfl
            rw [List.take_add_one, hF]
            rfl
          rw [hn, ← List.append_assoc]
          have k8 : KeepT K H5' (upd H7 D (.lst (acc' ++ [z]))) := KeepT.trans (KeepT.of e7) (KeepT.store (e7 _ _ hacc'))
          exact (hp'.keep k8).app (hds_cons (Hd.keep (KeepT.store (e7 _ _ hacc')) hz7) hds_nil)
      · have hj' : j = us.length := Nat.le_antisymm hj hjg
        subst hj'
        refine .inl ⟨W1.stops H5 k5, e5, acc', hacc', ?_⟩
        rw [hnext]
        have hFl : (F x).take us.length = F x := by
          have : (F x).length = us.length := by
            show (ys.map fun y => f x y).length = _
            rw [List.length_map, hul]
          rw [← this, List.take_length]
        rw [hFl] at hp'
        exact hp'
  · have hi' : i = ws.length := Nat.le_antisymm hi hge
    subst hi'
    refine .inl ⟨W.stops H3 e3, q D acc H3 (e2.free hD) (e2.trans e3) hacc ?_⟩
    rw [hlen, List.take_length] at hp
    exact hp
/-- for j in range(n) -/
theorem q_forR {n : Int} {j : Nat} {D : Ends} {tb tz : TS} (h : EvD K ta σ H n) (h0 : 0 ≤ n) (hn : n < 2 ^ 62) (Pv : Nat → L2.St → Hp → Prop) (hs0 : ∀ H1, Same H H1 → Pv 0 σ H1)
    (hs : ∀ (i : Nat) σ' H', (i : Int) < n → Pv i σ' H' → tb { D with nx := Pv (i + 1), ct := Pv (i + 1), bk := tz D } (σ'.set j (some (.int (i : Int)))) H') (hd : ∀ σ' H', Pv n.toNat σ' H' → tz D σ' H') :
    tSeq (tFor (iRng1 (tCons ta tNil)) (gName j) tb) tz D σ H := h H (Same.refl H) _ fun v H1 e hv => by
  rw [Hd.int hv]
  refine ⟨n, rfl, by omega, hn, for_range (lo := 0) (n := n.toNat) Pv (hs0 H1 e) (fun i σ' H' hi p => ?_) hd⟩
  have e0 : (0 : Int) + (i : Int) = (i : Int) := Int.zero_add _
  show tb { D with nx := Pv (i + 1), ct := Pv (i + 1), bk := tz D } (σ'.set j (some (.int (0 + (i : Int))))) H'
  rw [e0]
  exact hs i σ' H' (by omega) p
end
end K76
set_option Elab.async false
set_option linter.all false
set_option maxRecDepth 100000
/-! K76, part 2a: enumerate of a tuple -/
namespace K76
open PySem PySem.Spec PyProof.Rows L2

set_option maxHeartbeats 2000000 in
theorem enumNew_meets {src : Value} {io : Obj} {G : Heap → Prop} (B : Begins src io G) :
    Meets (Builtin.«enumerate.__new__» ⟨[.type "enumerate", src], []⟩) (fun _ R st => G st.heap ∧
      R (.ok (.ret (.ref (st.heap.push io).objs.size))) { st with heap := (st.heap.push io).push ⟨.type "enumerate", none, .fields #[.none, .bool false, .ref st.heap.objs.size, rawInt 0, .none, .none], #[]⟩ }) :=
  .of_wp fun prog w A R st hyp => by
    have sb := sub_enumerate
    obtain ⟨hp, gn, dr, tk, osx⟩ := st
    obtain ⟨hG, hyp⟩ := hyp
    have mk : ∀ {A' : Around} {E' : Value → Shared → Prop} {Q' : Value → Shared → Prop}, Q' (.ref hp.objs.size) ⟨hp.push io, gn, dr, tk, osx⟩ →
        wpAny (model prog w) A' (pyIter src) Q' E' ⟨hp, gn, dr, tk, osx⟩ := fun hq => B.iter prog w _ _ ⟨hp, gn, dr, tk, osx⟩ _ hG hq
    wp_walk using mk
    refine wpAny_stack_any fun sk => wpAny_pure ?_
    split
    next c _ _ _ _ _ =>
      cases (c == Value.type "enumerate") <;> (wp_walk using mk; exact ⟨_, rfl, hyp⟩)
    next =>
      wp_walk using mk
      exact ⟨_, rfl, hyp⟩

section
variable {prog : Program} {w : World} {A : Around} {E : Value → Shared → Prop} {st : Shared}
theorem call_enumB {src : Value} {io : Obj} {G : Heap → Prop} {Q : Value → Shared → Prop} (B : Begins src io G) (hG : G st.heap)
    (k : ∀ h2, IsEnum h2 (st.heap.objs.size + 1) st.heap.objs.size 0 .none → h2.get? st.heap.objs.size = some io → (∀ b o, st.heap.get? b = some o → h2.get? b = some o) → Q (.ref (st.heap.objs.size + 1)) { st with heap := h2 }) :
    wpAny (model prog w) A (call (.type "enumerate") [src]) Q E st := by
  refine callType_new F.called_enumerate (by decide) (F.typeCall_enumerate_1 _) (F.newCall_enumerate_1 _) (fun obj => F.args_object_init_2 obj _) F.entry_enumerate_new (enumNew_meets B) ⟨hG, ?_⟩
  have sz : (st.heap.push io).objs.size = st.heap.objs.size + 1 := Heap.size_push ..
  show _ ∧ _
  rw [sz]
  have en : IsEnum ((st.heap.push io).push ⟨.type "enumerate", none, .fields #[.none, .bool false, .ref st.heap.objs.size, rawInt 0, .none, .none], #[]⟩) (st.heap.objs.size + 1) st.heap.objs.size 0 .none := by
    have q := Heap.get?_push_size (st.heap.push io) (o := ⟨.type "enumerate", none, .fields #[.none, .bool false, .ref st.heap.objs.size, rawInt 0, .none, .none], #[]⟩) rfl
    rw [sz] at q
    exact q
  exact ⟨⟨_, en, rfl⟩, k _ en (Heap.get?_push_of_some _ (Heap.get?_push_size _ B.free)) fun b o x => Heap.get?_push_of_some _ (Heap.get?_push_of_some _ x)⟩
end

/-- the turns of enumerate over the tuple at a -/
def ItE (K : PySem.W.Frag) (a : Addr) : It where
  go i H := ∃ (xs : List V) (x : V), SqT K H a xs ∧ xs[i]? = some x
  yld i H v H' := ∃ T x, v = .ref T ∧ H T = none ∧ H' = upd H T (.tup [.int (i : Nat), x]) ∧ ∀ xs, SqT K H a xs → xs[i]? = some x
  stop i H := ∃ xs : List V, SqT K H a xs ∧ xs.length = i
theorem turn_enumT {P : Program} {w : World} {K : PySem.W.Frag} {els : List Expr} {kk : Nat} {tp : Pos} (a en it : Addr) :
    Turn P w K (.Tuple els kk tp) (ItE K a) [en, it] en (fun i h => (∃ old, IsEnum h en it ((i : Nat) : Int) old) ∧ h.IsTupleIter it a i ∧ en ≠ it) where
  mem := List.mem_cons_self
  obj := fun i h ⟨⟨old, he⟩, ⟨o, ho, _, hd⟩, _⟩ b hb => by
    rcases List.mem_cons.mp hb with rfl | hb
    · exact ⟨_, he, fun v q => nomatch q⟩
    · rw [List.mem_singleton.mp hb]
      exact ⟨o, ho, fun v q => by rw [hd] at q; cases q⟩
  keep := fun i h h' ⟨⟨old, he⟩, hi, ne⟩ k => ⟨⟨old, k en (by simp) _ he⟩, hi.at fun o q => k it (by simp) o q, ne⟩
  item := by
    intro X eP ew eK hc i pins st σ H E I hf ⟨⟨old, he⟩, hit, ne⟩ ⟨xs, x, hq, hx⟩
    subst eP ew eK
    obtain ⟨its, rv, tp', _⟩ := I.tuple hq
    obtain ⟨u, hu, ru⟩ := rv.get hx
    obtain ⟨ot, hot, hct, ndt, hdt⟩ := id tp'
    obtain ⟨oi, hoi, hci, hdi⟩ := id hit
    have nai : a ≠ it := by
      rintro rfl
      rw [hot] at hoi
      cases hoi
      rw [hct] at hci
      exact absurd hci (by simp)
    have nae : en ≠ a := by
      rintro rfl
      have q : (some ot : Option Obj) = some _ := hot.symm.trans he
      cases q
      exact absurd hct (by simp)
    have hin : X.A.in1.handled = none := by simp [I.ok.hd hc]
    have lten : en < st.heap.objs.size := Heap.lt_size he
    have ltit : it < st.heap.objs.size := Heap.lt_size hoi
    have hisz : i < its.toArray.size := by
      have h1 := (List.getElem?_eq_some_iff.mp hu).1
      simpa using h1
    refine wpAny_pyNext_enum_itemD (Draws.tuple (prog := X.prog) (w := X.w) hin it a nai its.toArray) he ⟨hit, tp'⟩ hisz ne (by simp [ne, nae]) fun y h' tk hy ho hst hT hsz hk => ?_
    have ey : y = u := by
      have hy' : its[i]? = some y := by simpa using hy
      rw [hu] at hy'
      exact (Option.some.inj hy').symm
    subst ey
    refine ⟨_, rfl, wpAny_letOwnedTupleGo_enum (s := { st with heap := h', toks := tk + 1 }) ho fun h2 he2 sb => ?_⟩
    have hT2 := (sb.2 _ (Nat.ne_of_gt lten)).trans hT
    have new : ObjOk X.prog X.w (upd H st.heap.objs.size (.tup [.int (i : Nat), x])) h2 st.heap.objs.size (.tup [.int (i : Nat), x]) :=
      ⟨by show 2 ≤ sizeLine; decide, [.int i tk, y], .cons ⟨_, rfl⟩ (.cons ru .nil), ⟨_, hT2, rfl, _, rfl⟩⟩
    have J : Inv X pins σ (upd H st.heap.objs.size (.tup [.int (i : Nat), x])) { st with heap := h2, toks := tk + 1 } := by
      refine I.turnedNew (ch := [en, it]) (fun b ob hb q => ?_) hf (Nat.le_refl _) new
      have b1 : b ≠ en := fun z => hb (by simp [z])
      have b2 : b ≠ it := fun z => hb (by simp [z])
      exact (sb.2 b b1).trans (hk b ob b1 b2 q)
    refine ⟨.ref st.heap.objs.size, _, J, rfl, ⟨_, x, rfl, I.hok.fresh (Nat.le_refl _), rfl, fun ys hy2 => by rw [I.tuple_inj hy2 hq]; exact hx⟩, ⟨⟨y, ?_⟩, hst.1.at fun o q => (sb.2 it (Ne.symm ne)).trans q, ne⟩, fun b hb => ?_⟩
    · have e1 : ((i + 1 : Nat) : Int) = (i : Int) + 1 := rfl
      rw [e1]
      exact he2
    · have hlt : b < st.heap.objs.size := by
        rcases List.mem_cons.mp hb with rfl | z
        · exact lten
        · rw [List.mem_singleton.mp z]
          exact ltit
      rw [upd_ne (Nat.ne_of_lt hlt)]
      exact (hf b hb).1
  done := by
    intro X eP ew eK hc i pins st σ H E I hf ⟨⟨old, he⟩, hit, ne⟩ ⟨xs, hq, hx⟩
    subst eP ew eK
    obtain ⟨its, rv, tp', _⟩ := I.tuple hq
    obtain ⟨ot, hot, hct, ndt, hdt⟩ := id tp'
    obtain ⟨oi, hoi, hci, hdi⟩ := id hit
    have nai : a ≠ it := by
      rintro rfl
      rw [hot] at hoi
      cases hoi
      rw [hct] at hci
      exact absurd hci (by simp)
    obtain ⟨f0, f1, f2, f3, f4, f5⟩ := hf it (by simp)
    have hin : X.A.in1.handled = none := by simp [I.ok.hd hc]
    have hl := rv.length
    have hi : i = its.toArray.size := by simp; omega
    subst hi
    exact wpAny_pyNext_enum_endD (Draws.tuple (prog := X.prog) (w := X.w) hin it a nai its.toArray) he ⟨hit, tp'⟩ fun h' eb => ⟨rfl, I.turned (t' := st.toks) (fun b o hb q => eb b o hb q) f0 f1 f3 f4 f5⟩
  self := fun A i st Q E ⟨⟨_, he⟩, _⟩ h => wpAny_pyIter_enum he h
def iEnumT (K : PySem.W.Frag) (ta : TA) : TI := fun σ H R => ta σ H fun vs H1 => ∃ a xs, vs = [.ref a] ∧ SqT K H1 a xs ∧ R (ItE K a) H1
theorem pi_enumT {X : Cx} {e : Expr} {ta : TA} {p pos tp : Pos} {els : List Expr} {kk : Nat} (hg : Gl X "enumerate") (hm : X.mg "enumerate" = none) (ha : PA X [e] ta) (hs : starEach [e] X.env = [(false, eval e X.env)] := by rfl) :
    PI X (.Tuple els kk tp) (.Call (.Name "enumerate" p) [e] [] pos) (iEnumT X.K ta) := ⟨fun pins st σ H R I hw => by
  refine Call_ (ld_blt I hg hm boot_enumerate (callWith_type1 (thn (ha.run pos pins st σ H _ I hw) fun us s1 ⟨vs, H1, I1, r1, a, xs, ex, hq, q⟩ => ?_) hs rfl))
  subst ex
  rw [Vals.ref1 r1]
  obtain ⟨its, rv, tp', _⟩ := I1.tuple hq
  refine call_enumB (begins_tuple a its.toArray) tp' fun h' he hit hk => wpAny_pyIter_enum he ?_
  refine ⟨s1.heap.objs.size + 1, [s1.heap.objs.size + 1, s1.heap.objs.size], _, _, H1, rfl, I1.kept (t' := s1.toks) hk, turn_enumT a (s1.heap.objs.size + 1) s1.heap.objs.size, ⟨⟨.none, he⟩, ⟨_, hit, rfl, rfl⟩, Nat.succ_ne_self _⟩, fun b hb => ?_, q⟩
  have hle : s1.heap.objs.size ≤ b := by
    rcases List.mem_cons.mp hb with rfl | z
    · exact Nat.le_succ _
    · rw [List.mem_singleton.mp z]
      exact Nat.le_refl _
  exact I1.fpOk hle (I1.hok.fresh hle)⟩
theorem walk_enumT {K : PySem.W.Frag} {a : Addr} {xs : List V} {H0 : Hp} (h0 : SqT K H0 a xs) : Walk (ItE K a) xs.length (fun H => KeepT K H0 H) (YPair (fun i => some (.int (i : Nat))) (fun i => xs[i]?)) where
  goes i H hi k := ⟨xs, xs[i], k _ _ h0, List.getElem?_eq_getElem hi⟩
  stops H k := ⟨xs, k _ _ h0, rfl⟩
  yields i H x H' hi k y := by
    obtain ⟨T, z, e1, e2, e3, e4⟩ := y
    exact ⟨T, .int (i : Nat), z, e1, e2, e3, rfl, e4 xs (k _ _ h0)⟩
end K76
set_option Elab.async false
set_option linter.all false
set_option maxRecDepth 100000
/-! K76, part 2b: sorted of a list of data, of any length -/
namespace K76
open PySem PySem.Spec PyProof.Rows L2
open PySem.W (Tup Datum DatumOrd EachIs)
section
variable {α : Type} [DecidableEq α] [DatumOrd α]
def leD (a b : α) : Bool := !DatumOrd.lt b a
theorem dataLe_leD : PySem.W.dataLe false (Datum.toD : α → PyData) = leD := by
  rw [PySem.W.dataLe_eq]
  funext a b
  show (!PySem.W.dataLt (Datum.toD b) (Datum.toD a)) = leD a b
  rw [DatumOrd.lt_eq]
  rfl
theorem each_of {R : Value → α → Prop} {K : PySem.W.Frag} {H : Hp} : ∀ {ws : List V} {us : List Value} {xs : List α}, Vals ws us → Hds K H ws xs → (∀ w u x, RelV w u → Hd K H w x → R u x) → EachIs R us xs
  | _, _, [], r, h, _ => by
    rw [h.nil_inv] at r
    cases r
    exact .nil
  | _, _, x :: xs, r, h, k => by
    obtain ⟨v, ws, rfl, h1, h2⟩ := h.cons_inv
    cases r with
    | cons r1 r2 => exact .cons (k _ _ _ r1 h1) (each_of r2 h2 k)
theorem of_each {K : PySem.W.Frag} {H : Hp} : ∀ {us : List Value} {xs : List α}, EachIs (fun u x => ∃ w, RelV w u ∧ Hd K H w x) us xs → ∃ ws, Vals ws us ∧ Hds K H ws xs
  | _, _, .nil => ⟨[], .nil, hds_nil⟩
  | _, _, .cons ⟨w, r, h⟩ t => by
    obtain ⟨ws, rs, hs⟩ := of_each t
    exact ⟨w :: ws, .cons r rs, hds_cons h hs⟩
/-- sorted(xs), xs a list of tuples with an item at least -/
def rSortedD (α : Type) [DecidableEq α] [DatumOrd α] (K : PySem.W.Frag) : List V → Hp → VK → Prop := fun vs H Q => ∃ (l : Addr) (ws : List V) (xs : List α), vs = [.ref l] ∧ SqL K H l ws ∧ Hds K H ws xs ∧ (∀ x ∈ xs, ∃ y r, Datum.toD x = PyData.tuple (y :: r)) ∧ xs.length ≤ 100000 ∧
  ∀ p ws', H p = none → Hds K H ws' (xs.mergeSort leD) → Q (.ref p) (upd H p (.lst ws'))
variable {X : Cx}
theorem cr_sortedD (hu : X.A.units + 64 < cLine) (hd : Datum.depth α ≤ 60) : CallR X (.builtin "sorted") (rSortedD α X.K) := by
  intro pins st σ H vs us Q I r ⟨l, ws, xs, e, hl, hx, ht, hz, q⟩
  subst e
  rw [Vals.ref1 r]
  obtain ⟨its, rv, pl, _⟩ := I.list hl
  have hline : (100000 : Nat) ≤ sizeLine := by decide
  have hsz : H (st.heap.objs.size + 1) = none := I.hok.fresh (Nat.le_succ _)
  refine PySem.W.sorted_data (enc := (Datum.toD : α → PyData)) (R := fun u x => ∃ w, RelV w u ∧ Hd X.K H w x) (bs := xs) pl.isList (each_of rv hx fun w u x r h => ⟨w, r, h⟩) (each_of rv hx fun w u x r h => h.holds I r)
    (PySem.W.AllAlike.of DatumOrd.alike) (.inl fun d hd => ?_) (by omega) (fun b _ => ?_) fun out hlen heach => ?_
  · obtain ⟨x, hx', rfl⟩ := List.mem_map.mp hd
    exact ht x hx'
  · have := Datum.depth_le b
    omega
  · rw [dataLe_leD] at heach
    obtain ⟨ws', rw', hw'⟩ := of_each heach
    obtain ⟨c, hc⟩ := sortedAll_at st.heap its out.toArray
    have hl' : ws'.length ≤ sizeLine := by
      have h1 := hw'.len
      rw [List.length_mergeSort] at h1
      omega
    exact ⟨.ref (st.heap.objs.size + 1), _, I.laid (o := .lst ws') (t' := st.toks) (fun b u => sortedAll_old) (Nat.le_succ _) ⟨hl', out, c, rw', hc⟩, rfl, q _ ws' hsz hw'⟩
variable {K : PySem.W.Frag} {σ : L2.St} {H : Hp} {ta : TE}
theorem evl_sorted {xs : List α} (h : EvD K ta σ H xs) (ht : ∀ x ∈ xs, ∃ y r, Datum.toD x = PyData.tuple (y :: r)) (hz : xs.length ≤ 100000) : EvL K (tCB (rSortedD α K) (tCons ta tNil)) σ H (xs.mergeSort leD) := evl_cb (eva1 h) fun vs H1 _ ⟨v, e, hv⟩ Q q => by
  subst e
  obtain ⟨a, ws, rfl, s, hs⟩ := Hd.list hv
  refine ⟨a, ws, xs, rfl, s, hs, ht, hz, fun p ws' hp hw => ?_⟩
  have e3 : Same H1 (upd H1 p (.lst ws')) := fun b o hb => by rw [upd_ne (ne_of_none hb hp)]; exact hb
  exact q p ws' _ hp e3 upd_same (hw.up e3)
end
end K76
set_option Elab.async false
set_option linter.all false
set_option maxRecDepth 100000
set_option maxHeartbeats 1000000
/-! K76, part 2d: a set of rules (pairs of pairs of ints), and what sorted makes of it -/
namespace K76
open PySem PySem.Spec PyProof.Rows L2
abbrev Ru := (Int × Int) × (Int × Int)
def kW (a : Int × Int) : NestedKey := .tup [.num a.1, .num a.2]
def kR (u : Ru) : NestedKey := .tup [kW u.1, kW u.2]
theorem kR_inj {u v : Ru} (h : kR u = kR v) : u = v := by
  obtain ⟨⟨a, b⟩, c, d⟩ := u
  obtain ⟨⟨a', b'⟩, c', d'⟩ := v
  simp only [kR, kW, NestedKey.tup.injEq, List.cons.injEq, NestedKey.num.injEq, and_true] at h
  obtain ⟨⟨h1, h2⟩, h3, h4⟩ := h
  subst h1 h2 h3 h4
  rfl
/-- the tuple at b is the rule u -/
def IsRu (h : Heap) (u : Ru) (b : Addr) : Prop := NestedIs h (kR u) (.ref b)
theorem IsRu.inj {h : Heap} {u v : Ru} {b : Addr} (x : IsRu h u b) (y : IsRu h v b) : u = v := kR_inj (NestedIs.inj _ _ _ x y)
theorem IsRu.keep {h h' : Heap} {u : Ru} {b : Addr} (x : IsRu h u b) (k : ∀ a o vs n, h.get? a = some o → o.data = .seq vs n → h'.get? a = some o) : IsRu h' u b := NestedIs.at k _ _ x
theorem IsRu.all {h h' : Heap} {u : Ru} {b : Addr} (x : IsRu h u b) (k : ∀ a o, h.get? a = some o → h'.get? a = some o) : IsRu h' u b := x.keep fun a o _ _ e _ => k a o e
theorem isRu_of {h : Heap} {v : Value} {u : Ru} (x : PySem.W.Holds h v u) : ∃ b, v = .ref b ∧ IsRu h u b := by
  have two : ∀ {v : Value} {a : Int × Int}, PySem.W.Holds h v a → NestedIs h (kW a) v := fun {v a} y => by
    obtain ⟨l, p, q, rfl, ⟨o, ho, hc, n, hd⟩, hp, hq⟩ := PySem.W.pair_of_holds y
    obtain ⟨t1, rfl⟩ := PySem.W.int_of_holds hp
    obtain ⟨t2, rfl⟩ := PySem.W.int_of_holds hq
    exact .tup ho hc hd (.cons (.int _ _) (.cons (.int _ _) .nil))
  obtain ⟨l, p, q, rfl, ⟨o, ho, hc, n, hd⟩, hp, hq⟩ := PySem.W.pair_of_holds x
  exact ⟨l, rfl, .tup ho hc hd (.cons (two hp) (.cons (two hq) .nil))⟩

section
variable {P : Program} {w : World} {A : Around} {E : Value → Shared → Prop} {s : Shared}
/-! ### questions that a search asks -/
theorem cls_step {n : Nat} {b : Addr} {o : Obj} {vs : Array Value} {m : Nat} {Q : Bool → Shared → Prop} (ho : s.heap.get? b = some o) (hc : o.cls = .type "tuple") (hd : o.data = .seq vs m)
    (hv : ∀ v ∈ vs.toList, ∀ Q' : Bool → Shared → Prop, Q' false s → wpAny (model P w) A (ofAClassStatement n v) Q' E s) (h : Q false s) : wpAny (model P w) A (ofAClassStatement (n + 1) (.ref b)) Q E s := by
  have hT : s.TypeIs (.ref b) "tuple" := ⟨o, ho, hc⟩
  unfold ofAClassStatement
  refine wpAny_bind (wpAny_typeOf hT ?_)
  dsimp only
  have et : (("tuple" : String) == "tuple") = true := by decide
  simp only [et, if_true, Bool.not_true, Bool.false_eq_true, if_false]
  try refine wpAny_bind (wpAny_pure ?_)
  try simp only [Bool.not_true, Bool.false_eq_true, if_false]
  show wpAny _ _ (seqItems? (.ref b) >>= _) _ _ s
  refine wpAny_bind (wpAny_seqItems ho hd ?_)
  dsimp only
  refine wpAny_bind ?_
  show wpAny _ _ (forIn vs _ _) _ _ s
  rw [← Array.forIn_toList]
  refine wpAny_forIn_list _ (fun rest r s' => r.1 = none ∧ s' = s ∧ ∀ v ∈ rest, ∀ Q' : Bool → Shared → Prop, Q' false s → wpAny (model P w) A (ofAClassStatement n v) Q' E s) _ ?_ ?_ _ _ ⟨rfl, rfl, hv⟩
  · rintro v rest r s' ⟨_, rfl, hall⟩
    refine wpAny_bind (hall v List.mem_cons_self _ ?_)
    simp only [Bool.false_eq_true, if_false]
    exact wpAny_pure ⟨rfl, rfl, fun u hu => hall u (List.mem_cons_of_mem _ hu)⟩
  · rintro ⟨r1, r2⟩ s' ⟨hr, rfl, _⟩
    dsimp only at hr
    subst hr
    exact wpAny_pure h
theorem val_step {n : Nat} {b : Addr} {o : Obj} {vs : Array Value} {m : Nat} {Q : Bool → Shared → Prop} (ho : s.heap.get? b = some o) (hc : o.cls = .type "tuple") (hd : o.data = .seq vs m)
    (hv : ∀ v ∈ vs.toList, ∀ Q' : Bool → Shared → Prop, Q' true s → wpAny (model P w) A (hashByValue n v) Q' E s) (h : Q true s) : wpAny (model P w) A (hashByValue (n + 1) (.ref b)) Q E s := by
  have hT : s.TypeIs (.ref b) "tuple" := ⟨o, ho, hc⟩
  unfold hashByValue
  refine wpAny_bind (wpAny_specialOf hT F.slot_tuple_hash.lookup ?_)
  show wpAny _ _ (seqItems? (.ref b) >>= _) _ _ s
  refine wpAny_bind (wpAny_seqItems ho hd ?_)
  refine wpAny_bind ?_
  show wpAny _ _ (forIn vs _ _) _ _ s
  rw [← Array.forIn_toList]
  refine wpAny_forIn_list _ (fun rest r s' => r.1 = none ∧ s' = s ∧ ∀ v ∈ rest, ∀ Q' : Bool → Shared → Prop, Q' true s → wpAny (model P w) A (hashByValue n v) Q' E s) _ ?_ ?_ _ _ ⟨rfl, rfl, hv⟩
  · rintro v rest r s' ⟨_, rfl, hall⟩
    refine wpAny_bind (hall v List.mem_cons_self _ ?_)
    simp only [Bool.not_true, Bool.false_eq_true, if_false]
    exact wpAny_pure ⟨rfl, rfl, fun u hu => hall u (List.mem_cons_of_mem _ hu)⟩
  · rintro ⟨r1, r2⟩ s' ⟨hr, rfl, _⟩
    dsimp only at hr
    subst hr
    exact wpAny_pure h
theorem two_of {h : Heap} {k1 k2 : NestedKey} {vs : Array Value} (x : NestedAll h [k1, k2] vs.toList) : ∀ v ∈ vs.toList, NestedIs h k1 v ∨ NestedIs h k2 v := by
  generalize vs.toList = l at x
  cases x with
  | cons x1 x =>
    cases x with
    | cons x2 x =>
      cases x
      intro v hv
      rcases List.mem_cons.mp hv with rfl | hv
      · exact .inl x1
      · rw [List.mem_singleton.mp hv]
        exact .inr x2
/-- of numbers and of pairs of numbers, then of rules -/
theorem cls_ru {u : Ru} {b : Addr} {Q : Bool → Shared → Prop} (x : IsRu s.heap u b) (h : Q false s) : wpAny (model P w) A (ofAClassStatement 8 (.ref b)) Q E s := by
  have num : ∀ {i : Int} {v : Value} {n : Nat} {Q' : Bool → Shared → Prop}, NestedIs s.heap (.num i) v → Q' false s → wpAny (model P w) A (ofAClassStatement n v) Q' E s := fun {i v n Q'} y q => by
    cases y <;> (cases n <;> exact wpAny_pure q)
  have pair : ∀ {a : Int × Int} {v : Value} {Q' : Bool → Shared → Prop}, NestedIs s.heap (kW a) v → Q' false s → wpAny (model P w) A (ofAClassStatement 7 v) Q' E s := fun {a v Q'} y q => by
    cases y with
    | tup h1 h2 h3 h4 => exact cls_step h1 h2 h3 (fun v hv Q' q' => (two_of h4 v hv).elim (fun z => num z q') fun z => num z q') q
  cases x with
  | tup h1 h2 h3 h4 => exact cls_step h1 h2 h3 (fun v hv Q' q' => (two_of h4 v hv).elim (fun z => pair z q') fun z => pair z q') h
theorem val_ru {u : Ru} {b : Addr} {Q : Bool → Shared → Prop} (x : IsRu s.heap u b) (h : Q true s) : wpAny (model P w) A (hashByValue 8 (.ref b)) Q E s := by
  have num : ∀ {i : Int} {v : Value} {n : Nat} {Q' : Bool → Shared → Prop}, NestedIs s.heap (.num i) v → Q' true s → wpAny (model P w) A (hashByValue n v) Q' E s := fun {i v n Q'} y q => by
    cases y <;> (cases n <;> exact wpAny_pure q)
  have pair : ∀ {a : Int × Int} {v : Value} {Q' : Bool → Shared → Prop}, NestedIs s.heap (kW a) v → Q' true s → wpAny (model P w) A (hashByValue 7 v) Q' E s := fun {a v Q'} y q => by
    cases y with
    | tup h1 h2 h3 h4 => exact val_step h1 h2 h3 (fun v hv Q' q' => (two_of h4 v hv).elim (fun z => num z q') fun z => num z q') q
  cases x with
  | tup h1 h2 h3 h4 => exact val_step h1 h2 h3 (fun v hv Q' q' => (two_of h4 v hv).elim (fun z => pair z q') fun z => pair z q') h
theorem quiet_ru {u : Ru} {b : Addr} {Q : Bool → Shared → Prop} (x : IsRu s.heap u b) (h : Q true s) : wpAny (model P w) A (eqIsQuiet 8 (.ref b)) Q E s := quiet_key _ _ 8 s x (by simp [kR, kW, NestedKey.depth, NestedKey.depthAll]) A E Q h
theorem eq_ru {u v : Ru} {a b : Addr} {Q : Bool → Shared → Prop} (hu : A.units + 8 < cLine) (x : IsRu s.heap u a) (y : IsRu s.heap v b) (h : Q (decide (u = v)) s) : wpAny (model P w) A (eqBool (.ref a) (.ref b)) Q E s := by
  have hd : ∀ z : Ru, (kR z).depth = 2 := fun z => by simp [kR, kW, NestedKey.depth, NestedKey.depthAll]
  refine eqAt_key _ _ A s _ _ x y (by rw [hd, hd]; omega) _ _ _ _ ?_
  rw [← NestedKey.decide_eq]
  have e : decide (kR u = kR v) = decide (u = v) := decide_eq_decide.mpr ⟨kR_inj, fun e => by rw [e]⟩
  rw [e]
  exact h
def hR (w : World) (u : Ru) : Int := (kR u).hash w
theorem hash_ru {u : Ru} {b : Addr} {Q : Int → Shared → Prop} (hu : A.units + 8 < cLine) (x : IsRu s.heap u b) (h : ∀ t, Q (hR w u) { s with toks := t }) : wpAny (model P w) A (pyHash (.ref b)) Q E s :=
  pyHash_key _ _ A s Q x (by simp [kR, kW, NestedKey.depth, NestedKey.depthAll]; omega) (h _)
theorem seen_ru {u : Ru} {b : Addr} {Q : Bool → Shared → Prop} (x : IsRu s.heap u b) {ys : List Value} (hy : ∀ y ∈ ys, ∃ v c, y = Value.ref c ∧ IsRu s.heap v c) (h : Q false s) : wpAny (model P w) A (searchCouldBeSeen (.ref b) ys) Q E s := by
  unfold searchCouldBeSeen
  refine wpAny_bind ?_
  refine wpAny_forIn_list _ (fun rest r s' => r.1 = none ∧ s' = s ∧ ∀ y ∈ rest, ∃ v c, y = Value.ref c ∧ IsRu s.heap v c) _ ?_ ?_ _ _ ⟨rfl, rfl, hy⟩
  · rintro y rest r s' ⟨_, rfl, hall⟩
    obtain ⟨v, c, rfl, hc⟩ := hall y List.mem_cons_self
    have later : ∀ y ∈ rest, ∃ v c, y = Value.ref c ∧ IsRu s'.heap v c := fun z hz => hall z (List.mem_cons_of_mem _ hz)
    dsimp only
    by_cases hv : (b == c || carriedByValue (.ref b) && carriedByValue (.ref c)) = true
    · exact wp_if_pos hv (wpAny_pure ⟨rfl, rfl, later⟩)
    · refine wp_if_neg hv (wpAny_bind (quiet_ru x ?_))
      simp only [Bool.not_true, Bool.false_eq_true, if_false]
      refine wpAny_bind (quiet_ru hc ?_)
      simp only [Bool.not_true, Bool.false_eq_true, if_false]
      refine wpAny_bind (cls_ru x ?_)
      simp only [Bool.false_eq_true, if_false]
      refine wpAny_bind (cls_ru hc ?_)
      simp only [Bool.false_eq_true, if_false]
      exact wpAny_pure ⟨rfl, rfl, later⟩
  · rintro ⟨r1, r2⟩ s' ⟨hr, rfl, _⟩
    dsimp only at hr
    subst hr
    exact wpAny_pure h
end
end K76
set_option Elab.async false
set_option linter.all false
set_option maxRecDepth 100000
set_option maxHeartbeats 1000000
/-! K76, part 2e: the set's table, searched and grown -/
namespace K76
open PySem PySem.Spec PyProof.Rows L2
/-- the entries of the rules L, each with its tuple's address -/
def entR (w : World) (L : List (Addr × Ru)) : List (Int × Value) := L.map fun p => (hR w p.2, Value.ref p.1)
def hsR (w : World) (L : List (Addr × Ru)) : List Int := L.map fun p => hR w p.2
theorem entR_len (w : World) (L : List (Addr × Ru)) : (entR w L).length = L.length := List.length_map ..
theorem hsR_len (w : World) (L : List (Addr × Ru)) : (hsR w L).length = L.length := List.length_map ..
structure SetR (w : World) (h : Heap) (a : Addr) (L : List (Addr × Ru)) (es : Array (Int × Value)) (ep : Nat) (t : SetTable) : Prop where
  obj : ∃ o, h.get? a = some o ∧ o.ExactSet ∧ o.data = .set es ep t
  ents : es.toList = entR w L
  tab : TabOk t (hsR w L)
  nodup : (L.map (·.2)).Nodup
  isru : ∀ p ∈ L, IsRu h p.2 p.1
  plain : t.plain = true
  led : w.params.followText "set-order" = true ∨ t.led = true
  room : L.length * 5 < t.mask * 3
  few : L.length < 64
section
variable {P : Program} {w : World} {A : Around} {E : Value → Shared → Prop} {s : Shared} {a : Addr} {L : List (Addr × Ru)} {es : Array (Int × Value)} {ep : Nat} {t : SetTable}
theorem ents_size (h : es.toList = entR w L) : es.size = L.length := by
  have q := congrArg List.length h
  rwa [Array.length_toList, entR_len] at q
theorem fits_of (h1 : t.place.size = es.size) (h2 : t.dummies = #[]) (h3 : es.size ≤ t.mask) : t.fits es.size = true := by
  unfold SetTable.fits SetTable.fill
  rw [h2, Bool.and_eq_true, beq_iff_eq, decide_eq_true_eq]
  exact ⟨h1, by simpa [h1] using h3⟩
theorem SetR.place (R : SetR w s.heap a L es ep t) : t.place.size = L.length := by
  have q := R.tab.sz
  rwa [hsR_len] at q
theorem SetR.fits (R : SetR w s.heap a L es ep t) : t.fits es.size = true := by
  have q1 := R.place
  have q2 := ents_size R.ents
  have q3 := R.room
  exact fits_of (by omega) R.tab.dm (by omega)
theorem SetR.ent (R : SetR w s.heap a L es ep t) {i : Nat} {p : Addr × Ru} (h : L[i]? = some p) : es[i]? = some (hR w p.2, Value.ref p.1) := by
  have q : es.toList[i]? = some (hR w p.2, Value.ref p.1) := by
    rw [R.ents]
    unfold entR
    rw [List.getElem?_map, h]
    rfl
  rwa [Array.getElem?_toList] at q
theorem SetR.stays (R : SetR w s.heap a L es ep t) : ¬ t.gaveWay = true := by
  unfold SetTable.gaveWay
  have q := mask_odd R.tab.mok
  rw [q]
  decide
/-- the path of a hash through the table -/
abbrev pth (t : SetTable) (h : Int) (c : Nat) : SetTable.Probe := nth t.mask (runAt t.mask (SetTable.bits h % (t.mask + 1)) (SetTable.bits h)) c
theorem pth_dummy (t : SetTable) (h : Int) (c : Nat) : (pth t h c).dummy = none := by
  have gen : ∀ (c : Nat) (p : SetTable.Probe), p.dummy = none → (nth t.mask p c).dummy = none := by
    intro c
    induction c with
    | zero => exact fun p e => e
    | succ c ih =>
      intro p e
      refine ih (adv t.mask p) ?_
      unfold adv
      split <;> exact e
  exact gen c _ rfl
theorem pth_add (t : SetTable) (h : Int) (c d : Nat) : nth t.mask (pth t h c) d = pth t h (c + d) := (nth_add t.mask c _ d).symm

/-- the search for the rule u at x, from the c-th place of its path on -/
theorem seek_from (R : SetR w s.heap a L es ep t) {x : Addr} {u : Ru} {g : Int} (eg : hR w u = g) (hx : IsRu s.heap u x) (hu : A.units + 8 < cLine) {N : Nat} (hN : N < 10 * SetTable.turns t.mask)
    (hfree : way t.mask (g) N ∉ t.place.toList) (hfull : ∀ c, c < N → way t.mask (g) c ∈ t.place.toList) {Q : SetFound → Shared → Prop}
    (yes : u ∈ L.map (·.2) → Q (.there none) s) (no : u ∉ L.map (·.2) → Q (.free (way t.mask (g) N) false) s) :
    ∀ (fuel c : Nat) (stand : Option SetTable.Probe), stand.getD (t.probeStart (g)) = pth t (g) c → c ≤ N → N - c < fuel →
      (∀ (i : Nat) p, L[i]? = some p → p.2 = u → ∃ d, c ≤ d ∧ d < N ∧ t.place.toList[i]? = some (way t.mask (g) d)) →
      wpAny (model P w) A (setSearchFrom a (.ref x) (g) true fuel stand) Q E s := by
  intro fuel
  induction fuel with
  | zero => exact fun c stand _ _ hf _ => absurd hf (Nat.not_lt_zero _)
  | succ fuel ih =>
    intro c stand hst hc hf hre
    obtain ⟨o, ho, _, hd⟩ := R.obj
    have atj : ∀ d, (nth t.mask (pth t (g) c) d).j = way t.mask (g) (c + d) := fun d => congrArg SetTable.Probe.j (pth_add t (g) c d)
    have hashes : ∀ (i : Nat) p, L[i]? = some p → (es[i]?.map (·.1)).getD 0 = hR w p.2 := fun i p hp => by
      rw [R.ent hp, Option.map_some, Option.getD_some]
    rw [setSearchFrom_succ]
    refine wpAny_bind (wpAny_setState_of ho hd R.fits ?_)
    dsimp only
    refine wp_if_neg R.stays ?_
    try refine wpAny_bind (wpAny_pure ?_)
    rcases go_spec t R.tab.ris R.tab.dm (fun i => (es[i]?.map (·.1)).getD 0) (g) (10 * SetTable.turns t.mask) (N - c) (pth t (g) c) (pth_dummy t _ c) (by omega)
      (fun d hd' => by rw [atj]; exact hfull (c + d) (by omega)) (by rw [atj, show c + (N - c) = N by omega]; exact hfree) with ⟨d, i, hdl, hi, hh, hno, hpr⟩ | ⟨hno, hpr⟩
    · have found : t.probe (fun i => (es[i]?.map (·.1)).getD 0) (g) (stand.getD (t.probeStart (g))) = some (.candidate (way t.mask (g) (c + d)) i (pth t (g) (c + (d + 1)))) := by
        rw [hst, ← atj, ← pth_add]
        exact hpr
      rw [found]
      dsimp only
      rw [atj] at hi
      have hil : i < L.length := by
        have q := (List.getElem?_eq_some_iff.mp hi).1
        rw [Array.length_toList, R.place] at q
        exact q
      obtain ⟨p, hp⟩ : ∃ p, L[i]? = some p := ⟨_, List.getElem?_eq_getElem hil⟩
      have hpm := List.mem_of_getElem? hp
      have tail : wpAny (model P w) A (searchRest a (.ref x) (g) true fuel es t (way t.mask (g) (c + d)) i (pth t (g) (c + (d + 1)))) Q E s := by
        unfold searchRest
        rw [R.ent hp]
        dsimp only
        refine wpAny_bind (wpAny_holding (eq_ru hu (R.isru p hpm) hx ?_))
        refine wpAny_bind (wpAny_setState_of ho hd R.fits ?_)
        dsimp only
        by_cases same : p.2 = u
        · refine wp_if_pos (by simp [same]) (wpAny_pure (yes ?_))
          exact List.mem_map.mpr ⟨p, hpm, same⟩
        · refine wp_if_neg (by simp [same]) ?_
          try refine wpAny_bind (wpAny_pure ?_)
          rw [sameMem]
          dsimp only
          have live : t.slot (way t.mask (g) (c + d)) = .live i := slot_live R.tab.ris hi
          simp only [if_true, live, R.ent hp]
          refine wpAny_bind (wpAny_isSame_ref_self ?_)
          refine wpAny_bind (wpAny_pure ?_)
          simp only [if_true]
          refine wp_if_neg (by simp [same]) ?_
          refine ih (c + (d + 1)) _ rfl (by omega) (by omega) fun i0 p0 h0 hk0 => ?_
          obtain ⟨e, b1, b2, b3⟩ := hre i0 p0 h0 hk0
          refine ⟨e, ?_, b2, b3⟩
          rcases Nat.lt_trichotomy e (c + d) with lt | eq | gt
          · refine absurd (((hashes i0 p0 h0).trans (congrArg (hR w) hk0)).trans eg) (hno (e - c) i0 (by omega) ?_)
            rw [atj, show c + (e - c) = e by omega]
            exact b3
          · exfalso
            rw [eq] at b3
            have live0 := slot_live R.tab.ris b3
            rw [live] at live0
            injection live0 with live0
            rw [← live0, hp] at h0
            exact same ((congrArg Prod.snd (Option.some.inj h0)).trans hk0)
          · omega
      by_cases hl : t.led = true
      · refine wp_if_neg (by simp [hl]) ?_
        try refine wpAny_bind (wpAny_pure ?_)
        exact tail
      · refine wp_if_pos (by simp [hl]) (wpAny_bind (seen_ru hx (fun y hy => ?_) ?_))
        · obtain ⟨e, he, rfl⟩ := List.mem_map.mp hy
          have he1 : e ∈ es ∧ e.1 = g := by simpa using he
          have he2 : e ∈ es.toList := Array.mem_toList_iff.mpr he1.1
          rw [R.ents] at he2
          obtain ⟨p2, hp2, rfl⟩ := List.mem_map.mp he2
          exact ⟨p2.2, p2.1, rfl, R.isru p2 hp2⟩
        · refine wp_if_neg (by decide) ?_
          try refine wpAny_bind (wpAny_pure ?_)
          exact tail
    · have nothing : t.probe (fun i => (es[i]?.map (·.1)).getD 0) (g) (stand.getD (t.probeStart (g))) = some (.empty (way t.mask (g) N) none) := by
        have e2 : way t.mask (g) N = (nth t.mask (pth t (g) c) (N - c)).j := by rw [atj, show c + (N - c) = N by omega]
        rw [hst, e2]
        exact hpr
      rw [nothing]
      dsimp only
      refine wpAny_pure (no fun hm => ?_)
      obtain ⟨p0, h0, hk0⟩ := List.mem_map.mp hm
      obtain ⟨i0, hi0⟩ := List.getElem?_of_mem h0
      obtain ⟨e, b1, b2, b3⟩ := hre i0 p0 hi0 hk0
      refine absurd (((hashes i0 p0 hi0).trans (congrArg (hR w) hk0)).trans eg) (hno (e - c) i0 (by omega) ?_)
      rw [atj, show c + (e - c) = e by omega]
      exact b3
theorem seek (R : SetR w s.heap a L es ep t) {x : Addr} {u : Ru} (hx : IsRu s.heap u x) (hu : A.units + 8 < cLine) {Q : SetFound → Shared → Prop} (yes : u ∈ L.map (·.2) → Q (.there none) s)
    (no : ∀ N, u ∉ L.map (·.2) → way t.mask (hR w u) N ∉ t.place.toList → (∀ c, c < N → way t.mask (hR w u) c ∈ t.place.toList) → Q (.free (way t.mask (hR w u) N) false) s) :
    wpAny (model P w) A (setSearch a (.ref x) (hR w u) true) Q E s := by
  have hroom := R.room
  obtain ⟨N, hN, hfree, hfull⟩ := R.tab.first (by rw [hsR_len]; omega) (hR w u)
  have small : 10 * SetTable.turns t.mask ≤ 1420 := by
    unfold SetTable.turns
    rcases R.tab.mok with e | e | e <;> omega
  unfold setSearch
  refine seek_from R rfl hx hu hN hfree hfull yes (fun hn => no N hn hfree hfull) 100000 0 none rfl (Nat.zero_le _) (by omega) fun i p hp hk => ?_
  have hh : (hsR w L)[i]? = some (hR w u) := by
    unfold hsR
    rw [List.getElem?_map, hp, ← hk]
    rfl
  have hil : i < t.place.toList.length := by
    rw [Array.length_toList, R.place]
    exact (List.getElem?_eq_some_iff.mp hp).1
  obtain ⟨d, hd, e⟩ := R.tab.before hfree hh (List.getElem?_eq_getElem hil)
  exact ⟨d, Nat.zero_le _, hd, by rw [List.getElem?_eq_getElem hil, e]⟩
end
end K76
set_option Elab.async false
set_option linter.all false
set_option maxRecDepth 100000
set_option maxHeartbeats 1000000
/-! K76, part 2f: a rule added to the set -/
namespace K76
open PySem PySem.Spec PyProof.Rows L2
theorem pick_all {α : Type} (L : List α) : (List.range L.length).filterMap (fun i => L[i]?) = L := by
  have go : ∀ n, n ≤ L.length → (List.range n).filterMap (fun i => L[i]?) = L.take n := by
    intro n
    induction n with
    | zero => exact fun _ => rfl
    | succ n ih =>
      intro hn
      rw [List.range_succ, List.filterMap_append, ih (by omega), List.take_add_one, List.getElem?_eq_getElem (by omega)]
      simp [List.getElem?_eq_getElem (show n < L.length by omega)]
  rw [go L.length (Nat.le_refl _), List.take_length]
/-- entries laid in another order; f the hash -/
theorem reorder (f : Ru → Int) (L : List (Addr × Ru)) (es : Array (Int × Value)) (order : Array Nat) (he : es.toList = L.map fun p => (f p.2, Value.ref p.1)) (hp : order.toList.Perm (List.range L.length)) :
    ∃ M : List (Addr × Ru), (order.filterMap (es[·]?)).toList = (M.map fun p => (f p.2, Value.ref p.1)) ∧ M.Perm L ∧ (M.map fun p => f p.2) = order.toList.map fun i => (es.map (·.1)).getD i 0 := by
  have ent : ∀ i (h : i < L.length), es[i]? = some (f (L[i]).2, Value.ref (L[i]).1) := fun i h => by
    rw [← Array.getElem?_toList, he, List.getElem?_map, List.getElem?_eq_getElem h, Option.map_some]
  have walk : ∀ l : List Nat, (∀ i ∈ l, i < L.length) → ∃ M : List (Addr × Ru), l.filterMap (fun i => es[i]?) = (M.map fun p => (f p.2, Value.ref p.1)) ∧ M = l.filterMap (fun i => L[i]?) ∧ (M.map fun p => f p.2) = l.map fun i => (es.map (·.1)).getD i 0 := by
    intro l
    induction l with
    | nil => exact fun _ => ⟨[], rfl, rfl, rfl⟩
    | cons i l ih =>
      intro hl
      have hi := hl i List.mem_cons_self
      obtain ⟨M, m1, m2, m3⟩ := ih fun j hj => hl j (List.mem_cons_of_mem _ hj)
      refine ⟨L[i] :: M, ?_, ?_, ?_⟩
      · rw [List.filterMap_cons_some (ent i hi), m1, List.map_cons]
      · rw [List.filterMap_cons_some (List.getElem?_eq_getElem hi), m2]
      · have key : (es.map (·.1)).getD i 0 = f (L[i]).2 := by
          rw [Array.getD_eq_getD_getElem?, Array.getElem?_map, ent i hi, Option.map_some, Option.getD_some]
        rw [List.map_cons, List.map_cons, m3, key]
  obtain ⟨M, m1, m2, m3⟩ := walk order.toList fun i hi => List.mem_range.mp (hp.mem_iff.mp hi)
  refine ⟨M, by rw [Array.toList_filterMap]; exact m1, ?_, m3⟩
  rw [m2]
  have q := hp.filterMap fun i => L[i]?
  rw [pick_all] at q
  exact q
theorem put_in {α : Type} (L : List α) (n : Nat) (x : α) : (L.take n ++ x :: L.drop n).Perm (x :: L) := by
  have q : (L.take n ++ x :: L.drop n).Perm (x :: (L.take n ++ L.drop n)) := List.perm_middle
  rwa [List.take_append_drop] at q
section
variable {P : Program} {w : World} {A : Around} {E : Value → Shared → Prop} {s : Shared} {a : Addr} {L : List (Addr × Ru)} {es : Array (Int × Value)} {ep : Nat} {t : SetTable}
theorem IsRu.beside {h h' : Heap} {u : Ru} {b : Addr} {o : Obj} (x : IsRu h u b) (ho : h.get? a = some o) (hd : o.data = .set es ep t) (sb : Heap.SameBut a h h') : IsRu h' u b := x.keep fun c oc vs n hc hdc => by
  refine (sb.2 c fun e => ?_).trans hc
  rw [e, ho] at hc
  cases hc
  rw [hd] at hdc
  cases hdc
/-- the table laid anew -/
theorem relay {o : Obj} (ho : s.heap.get? a = some o) (hex : o.ExactSet) (hd : o.data = .set es ep t) (he : es.toList = entR w L) (hsz : t.place.size = es.size) (hdm : t.dummies = #[]) (hfl : es.size ≤ t.mask) (nd : (L.map (·.2)).Nodup)
    (ru : ∀ p ∈ L, IsRu s.heap p.2 p.1) (pl : t.plain = true) (ld : w.params.followText "set-order" = true ∨ t.led = true) (few : L.length < 64) {wanted M : Nat} (hw : SetTable.sizeAbove wanted - 1 = M) (hM : MaskOk M) (hw2 : SetTable.sizeAbove wanted ≤ 128)
    (hroom : L.length * 5 < M * 3) {Q : Unit → Shared → Prop} (hQ : ∀ h' L' es' ep' t', Heap.SameBut a s.heap h' → SetR w h' a L' es' ep' t' → L'.Perm L → Q () { s with heap := h' }) : wpAny (model P w) A (setRelay a wanted) Q E s := by
  have hL := ents_size he
  obtain ⟨t', order, e1, e2, e3, e4, e5, e6, e7⟩ := relaid_ok t (hs := es.map (·.1)) (wanted := wanted) hw hM (by rw [Array.size_map]; omega)
  rw [Array.size_map, hL] at e2
  obtain ⟨N, n1, n2, n3⟩ := reorder (hR w) L es order he e2
  rw [← n3] at e3
  have hN : (order.filterMap (es[·]?)).size = es.size := by
    have q := congrArg List.length n1
    rw [Array.length_toList, List.length_map, n2.length_eq] at q
    omega
  rw [setRelay_eq]
  refine wpAny_bind (wpAny_setState_of ho hd (fits_of hsz hdm hfl) ?_)
  dsimp only
  refine wp_if_neg (by rw [sizeLine_eq]; omega) ?_
  try refine wpAny_bind (wpAny_pure ?_)
  rw [e1]
  dsimp only
  refine wpAny_bind (wp_if_neg (by simp [hN]) ?_)
  try refine wpAny_bind (wpAny_pure ?_)
  refine wpAny_pure ?_
  dsimp only
  have sb := Heap.SameBut.update s.heap a (Obj.putSet (order.filterMap (es[·]?)) t')
  refine wpAny_storeSet_of ho hd (hQ _ N (order.filterMap (es[·]?)) (ep + 1) t' sb ⟨⟨_, store_at ho hd, ⟨hex.1, hex.2.1, hex.2.2⟩, rfl⟩, n1, e3, (n2.map (·.2)).nodup_iff.mpr nd, fun p hp => (ru p (n2.mem_iff.mp hp)).beside ho hd sb,
    by rw [e6]; exact pl, by rw [e5]; exact ld, by rw [n2.length_eq, e4]; exact hroom, by rw [n2.length_eq]; exact few⟩ n2) (by rw [hN, sizeLine_eq]; omega)
/-- set.add of a rule -/
theorem put_rule (R : SetR w s.heap a L es ep t) {x : Addr} {u : Ru} (hx : IsRu s.heap u x) (hu : A.units + 8 < cLine) (hfew : L.length + 1 < 64) {Q : Bool → Shared → Prop}
    (hQ : ∀ b h' L' es' ep' t', Heap.SameBut a s.heap h' → SetR w h' a L' es' ep' t' → (u ∈ L.map (·.2) → L' = L) → (u ∉ L.map (·.2) → L'.Perm ((x, u) :: L)) → Q b { s with heap := h' }) : wpAny (model P w) A (setAddHashed a (.ref x) (hR w u)) Q E s := by
  obtain ⟨o, ho, hex, hd⟩ := R.obj
  have hL := ents_size R.ents
  have hroom := R.room
  unfold setAddHashed
  refine wpAny_holding ?_
  show wpAny (model P w) A (setAddHashedIn a (.ref x) (hR w u) (99999 + 1)) _ E s
  rw [setAddHashedIn_succ a (.ref x) (hR w u) 99999]
  refine wpAny_bind (wpAny_setState_of ho hd R.fits ?_)
  dsimp only
  refine wp_if_neg (by unfold byScan; simp [Value.scannable]) ?_
  try refine wpAny_bind (wpAny_pure ?_)
  refine wpAny_bind (seek R hx hu (fun hm => ?_) fun N hm hfree hfull => ?_)
  · dsimp only
    exact wpAny_pure (hQ false _ _ _ _ _ (Heap.SameBut.refl a s.heap) R (fun _ => rfl) (fun no => (no hm).elim))
  dsimp only
  refine wpAny_bind (wpAny_setState_of ho hd R.fits ?_)
  dsimp only
  obtain ⟨q1, q2, q3, q4, q5, q6, q7, q8, q9⟩ := R.tab.put hfree hfull
  generalize hpt : t.put (way t.mask (hR w u) N) = pt at q1 q3 q4 q5 q6 q7 q8 q9 ⊢
  obtain ⟨t1, at1⟩ := pt
  dsimp only at q1 q3 q4 q5 q6 q7 q8 q9 ⊢
  have pl1 : t1.plain = true := q6.trans R.plain
  rw [← q1] at q2 q3
  clear q1 hpt
  first
    | (refine wpAny_bind ?_; refine wp_if_pos pl1 ?_; refine val_ru hx ?_)
    | refine wp_if_pos pl1 (wpAny_bind (val_ru hx ?_))
  simp only [if_true]
  have hin : (SetTable.insertAt es at1 (hR w u, Value.ref x)).toList = entR w (L.take at1 ++ (x, u) :: L.drop at1) := by
    rw [SetTable.toList_insertAt, R.ents]
    unfold entR
    simp only [List.map_append, List.map_cons, List.map_take, List.map_drop]
  have hhs : hsR w (L.take at1 ++ (x, u) :: L.drop at1) = (hsR w L).take at1 ++ hR w u :: (hsR w L).drop at1 := by
    unfold hsR
    simp only [List.map_append, List.map_cons, List.map_take, List.map_drop]
  rw [← hhs] at q3
  have pm := put_in L at1 (x, u)
  have hlen : (L.take at1 ++ (x, u) :: L.drop at1).length = L.length + 1 := pm.length_eq
  have nd1 : ((L.take at1 ++ (x, u) :: L.drop at1).map (·.2)).Nodup := by
    refine (pm.map (·.2)).nodup_iff.mpr ?_
    rw [List.map_cons]
    exact List.nodup_cons.mpr ⟨hm, R.nodup⟩
  have hes := ents_size hin
  rw [hlen] at hes
  generalize SetTable.insertAt es at1 (hR w u, Value.ref x) = es1 at hin hes ⊢
  generalize L.take at1 ++ (x, u) :: L.drop at1 = L1 at pm hlen q3 nd1 hin
  have sb := Heap.SameBut.update s.heap a (Obj.putSet es1 t1)
  have stored1 := store_at (es' := es1) (t' := t1) ho hd
  refine wpAny_bind (wpAny_storeSet_of ho hd ?_ (by rw [hes, sizeLine_eq]; omega))
  generalize s.heap.update a (Obj.putSet es1 t1) = hp1 at sb stored1 ⊢
  have read1 : ∀ p ∈ L1, IsRu hp1 p.2 p.1 := fun p hp => by
    rcases List.mem_cons.mp (pm.subset hp) with e | hp
    · rw [e]
      exact hx.beside ho hd sb
    · exact (R.isru p hp).beside ho hd sb
  have ledger1 : w.params.followText "set-order" = true ∨ t1.led = true := by rw [q5]; exact R.led
  have sz1 : t1.place.size = L.length + 1 := by
    have q := q3.sz
    rwa [hsR_len, hlen] at q
  by_cases full : t1.tooFull = true
  · have hfull2 : (L.length + 1) * 5 ≥ t1.mask * 3 := by
      have q := full
      unfold SetTable.tooFull at q
      rw [decide_eq_true_eq, q9, hsR_len] at q
      exact q
    have two : (t.mask = 7 ∧ L.length = 4) ∨ (t.mask = 31 ∧ L.length = 18) := by
      rcases R.tab.mok with e | e | e
      · left; rw [q4, e] at hfull2; rw [e] at hroom; exact ⟨e, by omega⟩
      · right; rw [q4, e] at hfull2; rw [e] at hroom; exact ⟨e, by omega⟩
      · exfalso; rw [q4, e] at hfull2; omega
    first
      | (refine wpAny_bind ?_; refine wp_if_pos (by simp [full]) ?_)
      | (refine wp_if_pos (by simp [full]) ?_; refine wpAny_bind ?_)
    rw [hL]
    have grow : ∀ M, MaskOk M → SetTable.sizeAbove (SetTable.grown (L.length + 1)) - 1 = M → SetTable.sizeAbove (SetTable.grown (L.length + 1)) ≤ 128 → (L.length + 1) * 5 < M * 3 →
        wpAny (model P w) A (setRelay a (SetTable.grown (L.length + 1))) (fun _ s' => wpAny (model P w) A (pure true) Q E s') E { s with heap := hp1 } := fun M g2 g1 g3 g4 =>
      relay (s := { s with heap := hp1 }) stored1 ⟨hex.1, hex.2.1, hex.2.2⟩ rfl hin (by rw [sz1, hes]) q3.dm (by rw [hes, q4]; rcases two with ⟨e, e2⟩ | ⟨e, e2⟩ <;> omega) nd1 read1 pl1 ledger1 (by omega) g1 g2 g3 (by rw [hlen]; exact g4)
        fun h2 L2 es2 ep2 t2 sb2 R2 pm2 => wpAny_pure (hQ true h2 L2 es2 ep2 t2 (sb.trans sb2) R2 (fun z => absurd z hm) fun _ => pm2.trans pm)
    rcases two with ⟨_, e2⟩ | ⟨_, e2⟩
    · exact grow 31 (.inr (.inl rfl)) (by rw [e2, size_20]) (by rw [e2, size_20]; decide) (by omega)
    · exact grow 127 (.inr (.inr rfl)) (by rw [e2, size_76]) (by rw [e2, size_76]; decide) (by omega)
  · first
      | refine wp_if_neg (by simp [full]) ?_
      | (refine wpAny_bind ?_; refine wp_if_neg (by simp [full]) ?_; refine wpAny_pure ?_)
    refine wpAny_pure (hQ true hp1 L1 es1 (ep + 1) t1 sb ⟨⟨_, stored1, ⟨hex.1, hex.2.1, hex.2.2⟩, rfl⟩, hin, q3, nd1, read1, pl1, ledger1, ?_, by omega⟩ (fun z => absurd z hm) fun _ => pm)
    have q := full
    unfold SetTable.tooFull at q
    rw [decide_eq_true_eq, q9, hsR_len] at q
    omega
end
end K76
set_option Elab.async false
set_option linter.all false
set_option maxRecDepth 100000
/-! K76, part 2g: set of a list of rules -/
namespace K76
open PySem PySem.Spec PyProof.Rows L2
/-- the members after the first i of the rules -/
structure Part (rules : List (Addr × Ru)) (i : Nat) (mem : List (Addr × Ru)) : Prop where
  from_ : ∀ m ∈ mem, m ∈ rules.take i
  full : ∀ m ∈ rules.take i, ∃ m' ∈ mem, m'.2 = m.2
  short : mem.length ≤ i
theorem Part.none (rules : List (Addr × Ru)) : Part rules 0 [] := by
  constructor <;> simp
/-- one rule more is put: it was there, or it comes ahead -/
theorem Part.turn {rules mem mem' : List (Addr × Ru)} {i : Nat} {m : Addr × Ru} (g : Part rules i mem) (hm : rules[i]? = some m) (same : m.2 ∈ mem.map (·.2) → mem' = mem) (more : m.2 ∉ mem.map (·.2) → mem'.Perm (m :: mem)) : Part rules (i + 1) mem' := by
  have ht : rules.take (i + 1) = rules.take i ++ [m] := by rw [List.take_add_one, hm]; rfl
  by_cases h : m.2 ∈ mem.map (·.2)
  · rw [same h]
    obtain ⟨q, q1, q2⟩ := List.mem_map.mp h
    refine ⟨fun x hx => ?_, fun x hx => ?_, by have := g.short; omega⟩
    · rw [ht]
      exact List.mem_append.mpr (.inl (g.from_ x hx))
    · rw [ht, List.mem_append, List.mem_singleton] at hx
      exact hx.elim (g.full x) fun e => ⟨q, q1, by rw [e]; exact q2⟩
  · have pm := more h
    refine ⟨fun x hx => ?_, fun x hx => ?_, by rw [pm.length_eq]; exact Nat.succ_le_succ g.short⟩
    · rw [ht, List.mem_append, List.mem_singleton]
      exact (List.mem_cons.mp (pm.subset hx)).symm.imp_left (g.from_ x)
    · rw [ht, List.mem_append, List.mem_singleton] at hx
      rcases hx with hx | hx
      · obtain ⟨q, q1, q2⟩ := g.full x hx
        exact ⟨q, pm.symm.subset (.tail _ q1), q2⟩
      · exact ⟨m, pm.symm.subset (.head _), by rw [hx]⟩
/-- the set at S holds the first i of the rules -/
def Holds (w : World) (rules : List (Addr × Ru)) (i : Nat) (S : Addr) (h : Heap) : Prop := ∃ mem es ep t, SetR w h S mem es ep t ∧ Part rules i mem
abbrev bareSet (w : World) : Obj := { cls := .type "set", dict := none, data := .set #[] 0 (.fresh 0 0 (!w.params.followText "set-order")) }
section
variable {P : Program} {w : World} {A : Around} {E : Value → Shared → Prop} {s : Shared} {rules : List (Addr × Ru)} {S I l : Addr} {h0 h h' : Heap}
theorem Holds.keep {i : Nat} (x : Holds w rules i S h) (hS : ∀ o, h.get? S = some o → h'.get? S = some o) (hr : ∀ m ∈ rules, IsRu h' m.2 m.1) : Holds w rules i S h' := by
  obtain ⟨mem, es, ep, t, R, g⟩ := x
  obtain ⟨o, o1, o2⟩ := R.obj
  exact ⟨mem, es, ep, t, { R with obj := ⟨o, hS o o1, o2⟩, isru := fun m hm => hr m (List.mem_of_mem_take (g.from_ m hm)) }, g⟩
theorem holds_new (h : Heap) (he : h.get? S = some (bareSet w)) : Holds w rules 0 S h := by
  refine ⟨[], #[], 0, _, { obj := ⟨_, he, ⟨rfl, rfl, rfl⟩, rfl⟩, ents := rfl, tab := ?_, nodup := .nil, isru := fun m hm => (nomatch hm), plain := rfl, led := ?_, room := ?_, few := by decide }, .none rules⟩
  · exact { sz := rfl, dm := rfl, mok := .inl rfl, ris := .nil, bd := fun x hx => (nomatch hx), reach := fun i g j hi => by simp [hsR] at hi }
  · show _ ∨ (!w.params.followText "set-order") = true
    rw [Bool.not_eq_true']
    exact (Bool.eq_false_or_eq_true _)
  · show 0 < 7 * 3
    decide
/-- the loop over a list: I stands ahead of the item i -/
theorem put_all (hh : A.in1.handled = none) (hu : A.in1.units + 8 < cLine) {items : Array Value} (hit : items.toList = rules.map fun m => Value.ref m.1) (hfew : rules.length < 64) (hSI : S ≠ I) (hlS : l ≠ S) (hlI : l ≠ I) (hS0 : h0.get? S = none) (hI0 : h0.get? I = none)
    (hru : ∀ m ∈ rules, IsRu h0 m.2 m.1) {R : Result → Shared → Prop} (hR : ∀ h' tk, Holds w rules rules.length S h' → (∀ b o, h0.get? b = some o → h'.get? b = some o) → R (.ok (.ret .none)) { s with heap := h', toks := tk }) :
    ∀ (m i : Nat) (h : Heap) (tk : Tok), m + i = rules.length → h.IsListIter I l i → h.IsList l items → (∀ b o, h0.get? b = some o → h.get? b = some o) → Holds w rules i S h →
      codeAny (model P w) A (.builtin "set.update.loop" ⟨[.ref S, .ref I], []⟩) R { s with heap := h, toks := tk } := by
  have at_ : ∀ i : Nat, items[i]? = (rules[i]?).map fun m : Addr × Ru => Value.ref m.1 := fun i => by rw [← Array.getElem?_toList, hit, List.getElem?_map]
  have old : ∀ {b : Addr} {o : Obj}, h0.get? b = some o → b ≠ I ∧ b ≠ S := fun e => ⟨fun q => (by rw [q, hI0] at e; cases e), fun q => (by rw [q, hS0] at e; cases e)⟩
  intro m
  induction m with
  | zero =>
    intro i h tk hm hI hl hk hs
    obtain rfl : i = rules.length := by omega
    refine codeAny_builtin F.entry_set_update_loop (Eq.mpr (by rw [Around.under_plainId F.plain_set_update_loop _]) ?_)
    show wpAny (model P w) A.in1 (pyNext (.ref I) >>= _) _ _ _
    refine wpAny_bind (wpAny_pyNext_list_end hh hI hl (by rw [at_, List.getElem?_eq_none (Nat.le_refl _)]; rfl) fun h' he => ?_)
    have kept : ∀ b o, h0.get? b = some o → h'.get? b = some o := fun b o e => he b o (old e).1 (hk b o e)
    exact wpAny_pure (hR h' tk (hs.keep (fun o e => he S o hSI e) fun q hq => (hru q hq).all kept) kept)
  | succ m ih =>
    intro i h tk hm hI hl hk hs
    have hlt : i < rules.length := by omega
    refine codeAny_builtin F.entry_set_update_loop (Eq.mpr (by rw [Around.under_plainId F.plain_set_update_loop _]) ?_)
    show wpAny (model P w) A.in1 (pyNext (.ref I) >>= _) _ _ _
    refine wpAny_bind (wpAny_pyNext_list_item hI hl (x := .ref (rules[i]).1) (by rw [at_, List.getElem?_eq_getElem hlt]; rfl) fun h1 hI1 sb1 => ?_)
    have k1 : ∀ b o, h0.get? b = some o → h1.get? b = some o := fun b o e => (sb1.2 b (old e).1).trans (hk b o e)
    have hx : IsRu h1 (rules[i]).2 (rules[i]).1 := (hru _ (List.getElem_mem hlt)).all k1
    obtain ⟨mem, es, ep, t, R1, g⟩ := hs.keep (fun o e => (sb1.2 S hSI).trans e) fun q hq => (hru q hq).all k1
    show wpAny (model P w) A.in1 (holding [Value.ref (rules[i]).1] (setAdd S (.ref (rules[i]).1)) >>= _) _ _ _
    unfold setAdd
    refine wpAny_bind (wpAny_holding (wpAny_holding (wpAny_bind (hash_ru hu hx fun tk1 => ?_))))
    have hfew2 : mem.length + 1 < 64 := by have := g.short; omega
    refine put_rule (s := { s with heap := h1, toks := tk1 }) R1 hx hu hfew2 fun _ h2 mem2 es2 ep2 t2 sb2 R2 c1 c2 => ?_
    refine wpAny_pure ⟨plainId_quiet F.plain_set_update_loop _, ih (i + 1) h2 tk1 (by omega) (hI1.at fun o e => (sb2.2 I hSI.symm).trans e) ((hl.at fun o e => (sb1.2 l hlI).trans e).at fun o e => (sb2.2 l hlS).trans e) (fun b o e => (sb2.2 b (old e).2).trans (k1 b o e)) ?_⟩
    exact ⟨mem2, es2, ep2, t2, R2, g.turn (List.getElem?_eq_getElem hlt) c1 c2⟩
/-- set(a): by what its __init__ does to the new set -/
theorem set_by {a : Value} {Q : Value → Shared → Prop} {W : Result → Shared → Prop} (hW : W = wants (fun r s2 => r = .none ∧ Q (.ref s.heap.objs.size) s2) E)
    (go : wpAny (model P w) A.in1.in1 (Builtin.«set.__init__» ⟨[.ref s.heap.objs.size, a], []⟩) (fun fin s' => match fin with | .done f => W (.ok f) s' | .again c => c.quiet = true ∧ codeAny (model P w) A.in1 c W s') (fun e s' => W (.error e) s') { s with heap := s.heap.push (bareSet w) }) :
    wpAny (model P w) A (call (.type "set") [a]) Q E s := by
  subst hW
  have born : codeAny (model P w) A.in1 (.call (.builtin "set.__new__") ⟨[.type "set", a], []⟩) (wants (fun o s1 => o = .ref s.heap.objs.size ∧ s1 = { s with heap := s.heap.push (bareSet w) }) E) s := code_set_led1 a ⟨rfl, rfl⟩
  have ty : Shared.TypeIs { s with heap := s.heap.push (bareSet w) } (.ref s.heap.objs.size) "set" := ⟨bareSet w, Heap.get?_push_size s.heap rfl, rfl⟩
  obtain ⟨line, made, sub, new1, new2, lk, bd, pl⟩ : _ ∧ _ ∧ _ ∧ _ ∧ _ ∧ _ ∧ _ ∧ _ := ⟨F.called_set.mro, F.called_set.made, F.called_set.sub, F.called_set.notType, F.called_set.canCreate, F.called_set.init.lookup, F.called_set.init.bind (.ref s.heap.objs.size), F.called_set.init.plain⟩
  obtain ⟨first, behind, line⟩ := line
  have count := F.typeCall_set_1 a
  refine wpAny_call (codeAny_of_tree (show wpAny _ _ (callAny (.type "set") ⟨[a], []⟩) _ _ _ from wpAny_pure ⟨Code.quiet_builtin _ (by decide +kernel), codeAny_builtin F.entry_type_call ?_⟩))
  rw [Around.under_plain (weight_type_call_type "set" [a] []) rfl]
  repeat any_goals first | assumption | wp_step
  refine codeAny_mono born fun r1 s1 h1 => ?_
  match r1, h1 with
  | .error _, h1 => exact h1
  | .ok (.ret _), ⟨e1, e2⟩ =>
    subst e1 e2
    repeat any_goals first | assumption | wp_step
    refine codeAny_mono (codeAny_call_builtin pl F.entry_set_init (check_set_init_1 ty go)) fun r2 s2 h2 => ?_
    match r2, h2 with
    | .error _, h2 => exact h2
    | .ok (.ret _), ⟨e3, q⟩ =>
      subst e3
      repeat any_goals first | assumption | wp_step
/-- set(xs), xs a list of rules -/
theorem call_set_rules {l : Addr} {items : Array Value} (rules : List (Addr × Ru)) {Q : Value → Shared → Prop} (hh : A.handled = none) (hl : s.heap.IsList l items) (hit : items.toList = rules.map fun m => Value.ref m.1)
    (hru : ∀ m ∈ rules, IsRu s.heap m.2 m.1) (hfew : rules.length < 64) (hu : A.units + 16 < cLine)
    (h : ∀ (h' : Heap) (tk : Tok), Holds w rules rules.length s.heap.objs.size h' → (∀ b o, s.heap.get? b = some o → h'.get? b = some o) → Q (.ref s.heap.objs.size) { s with heap := h', toks := tk }) :
    wpAny (model P w) A (call (.type "set") [.ref l]) Q E s := by
  refine set_by rfl ?_
  obtain ⟨⟨c, dict, data, slots⟩, hol, hc, n, hd⟩ := id hl
  subst hc hd
  have lt : l < s.heap.objs.size := Heap.lt_size hol
  have was : (s.heap.push (bareSet w)).get? s.heap.objs.size = some (bareSet w) := Heap.get?_push_size s.heap rfl
  have hl1 : (s.heap.push (bareSet w)).IsList l items := hl.push _
  have hol1 : (s.heap.push (bareSet w)).get? l = some { cls := .type "list", dict := dict, data := .seq items n, slots := slots } := Heap.get?_push_of_some (bareSet w) hol
  obtain ⟨sub1, sub2, other⟩ : _ ∧ _ ∧ (Value.type "list" == Value.type "dict") = false := ⟨F.sub_list_set, F.sub_list_frozenset, by decide⟩
  have size1 : (s.heap.push (bareSet w)).objs.size = s.heap.objs.size + 1 := Heap.size_push s.heap (bareSet w)
  have gone : ∀ b, s.heap.objs.size ≤ b → s.heap.get? b = none := fun b hb => by
    by_cases q : ∃ o, s.heap.get? b = some o
    · obtain ⟨o, q⟩ := q
      exact absurd (Nat.lt_of_lt_of_le (Heap.lt_size q) hb) (Nat.lt_irrefl b)
    · exact Option.eq_none_iff_forall_ne_some.mpr fun o e => q ⟨o, e⟩
  unfold Builtin.«set.__init__» Builtin.Frozenset.updateFrom noKeywords
  generalize asked : pyIter = it
  wp_walk
  subst asked
  refine wpAny_pyIter_list hl1 (wpAny_bind (wpAny_runValue ?_))
  refine put_all (s := s) (h0 := s.heap) (rules := rules) (S := s.heap.objs.size) (I := (s.heap.push (bareSet w)).objs.size) (l := l) (by simpa using hh) (by simp only [Around.in1]; omega) hit hfew (fun e => absurd (e.trans size1) (Nat.ne_of_lt (Nat.lt_succ_self _))) (Nat.ne_of_lt lt) (Nat.ne_of_lt (by rw [size1]; exact Nat.lt_succ_of_lt lt)) (gone _ (Nat.le_refl _)) (gone _ (by rw [size1]; exact Nat.le_succ _)) hru
    (fun h' tk hs hk => ?_) rules.length 0 _ s.toks (Nat.add_zero _) ⟨_, Heap.get?_push_size (s.heap.push (bareSet w)) rfl, rfl, rfl⟩ (hl1.push _) (fun b o e => Heap.get?_push_of_some _ (Heap.get?_push_of_some (bareSet w) e)) (holds_new _ (Heap.get?_push_of_some _ was))
  exact wpAny_pure (wpAny_pure ⟨rfl, h h' tk hs hk⟩)
end
end K76
set_option Elab.async false
set_option linter.all false
set_option maxRecDepth 100000
set_option maxHeartbeats 1000000
/-! K76, part 2h: the calls of set and of sorted, of rules -/
namespace K76
open PySem PySem.Spec PyProof.Rows L2
open PySem.W (Tup Datum DatumOrd EachIs)
/-- the set at a, the tuples left out: they are read off the abstract heap -/
def Bare (w : World) (a : Addr) (L : List (Addr × Ru)) (h : Heap) : Prop := ∃ es ep t, (∀ h' : Heap, h'.get? a = h.get? a → (∀ p ∈ L, IsRu h' p.2 p.1) → SetR w h' a L es ep t) ∧ ∃ o, h.get? a = some o
def SetRO (w : World) (a : Addr) (L : List (Addr × Ru)) : HO := .ext (Bare w a L)
theorem SetR.bare {w : World} {h : Heap} {a : Addr} {L : List (Addr × Ru)} {es : Array (Int × Value)} {ep : Nat} {t : SetTable} (R : SetR w h a L es ep t) : Bare w a L h :=
  ⟨es, ep, t, fun h' e ru => { R with obj := (by rw [e]; exact R.obj), isru := ru }, let ⟨o, ho, _⟩ := R.obj; ⟨o, ho⟩⟩
theorem setRO_new {P : Program} {w : World} {H : Hp} {h : Heap} {a : Addr} {L : List (Addr × Ru)} (R : Bare w a L h) : ObjOk P w H h a (SetRO w a L) :=
  ⟨R, let ⟨_, _, _, _, ho⟩ := R; ho, fun h1 h2 ⟨es, ep, t, b, o, ho⟩ k => ⟨es, ep, t, fun h' e ru => b h' (e.trans ((k o ho).trans ho.symm)) ru, o, k o ho⟩⟩
theorem rules_of {K : PySem.W.Frag} {H : Hp} : ∀ {ws : List V} {us : List Value} {xs : List Ru}, Vals ws us → Hds K H ws xs → ∃ ks : List (Addr × Ru), us = ks.map (fun p => Value.ref p.1) ∧ xs = ks.map (·.2) ∧ ∀ p ∈ ks, Hd K H (.ref p.1) p.2
  | _, _, [], r, h => by
    rw [h.nil_inv] at r
    cases r
    exact ⟨[], rfl, rfl, fun p hp => (by cases hp)⟩
  | _, _, x :: xs, r, h => by
    obtain ⟨v, ws, rfl, h1, h2⟩ := h.cons_inv
    cases r with
    | cons r1 r2 =>
      obtain ⟨b, _, _, e, _⟩ := Hd.pair h1
      subst e
      cases r1
      obtain ⟨ks, e1, e2, e3⟩ := rules_of r2 h2
      refine ⟨(b, x) :: ks, by rw [e1, List.map_cons], by rw [e2, List.map_cons], fun p hp => ?_⟩
      rcases List.mem_cons.mp hp with e | hp
      · rw [e]; exact h1
      · exact e3 p hp
theorem perm_map {α β : Type} (f : α → β) {a b : List β} (h : a.Perm b) : ∀ {L : List α}, b = L.map f → ∃ M : List α, M.Perm L ∧ a = M.map f := by
  induction h with
  | nil =>
    intro L e
    cases L with
    | nil => exact ⟨[], .nil, rfl⟩
    | cons x L => cases e
  | @cons x l1 l2 _ ih =>
    intro L e
    cases L with
    | nil => cases e
    | cons y L =>
      rw [List.map_cons] at e
      injection e with e1 e2
      obtain ⟨M, m1, m2⟩ := ih e2
      exact ⟨y :: M, m1.cons y, by rw [List.map_cons, e1, m2]⟩
  | swap x y l =>
    intro L e
    cases L with
    | nil => cases e
    | cons u L =>
      rw [List.map_cons] at e
      injection e with e1 e2
      cases L with
      | nil => cases e2
      | cons v L =>
        rw [List.map_cons] at e2
        injection e2 with e2 e3
        exact ⟨v :: u :: L, .swap u v L, by rw [List.map_cons, List.map_cons, e1, e2, e3]⟩
  | trans _ _ ih1 ih2 =>
    intro L e
    obtain ⟨M, m1, m2⟩ := ih2 e
    obtain ⟨N, n1, n2⟩ := ih1 m2
    exact ⟨N, n1.trans m1, n2⟩
def rSetR (K : PySem.W.Frag) (w : World) : List V → Hp → VK → Prop := fun vs H Q => ∃ (l : Addr) (ws : List V) (us : List Ru), vs = [.ref l] ∧ SqL K H l ws ∧ Hds K H ws us ∧ us.length < 64 ∧
  ∀ a L, H a = none → (∀ p ∈ L, Hd K H (.ref p.1) p.2 ∧ p.2 ∈ us) → (∀ u ∈ us, u ∈ L.map (·.2)) → Q (.ref a) (upd H a (SetRO w a L))
def rSortedS (K : PySem.W.Frag) (w : World) : List V → Hp → VK → Prop := fun vs H Q => ∃ (a : Addr) (L : List (Addr × Ru)), vs = [.ref a] ∧ H a = some (SetRO w a L) ∧ (∀ p ∈ L, Hd K H (.ref p.1) p.2) ∧
  ∀ p ws' (bs : List Ru), H p = none → bs.Perm (L.map (·.2)) → bs.Nodup → Hds K H ws' (bs.mergeSort leD) → Q (.ref p) (upd H p (.lst ws'))
section
variable {X : Cx}
theorem isRu_hd {pins : List (Addr × Obj)} {σ : L2.St} {H : Hp} {s : Shared} (I : Inv X pins σ H s) {b : Addr} {u : Ru} (h : Hd X.K H (.ref b) u) : IsRu s.heap u b := by
  obtain ⟨c, e, hc⟩ := isRu_of (h.holds I (u := .ref b) rfl)
  injection e with e
  rw [e]
  exact hc
theorem cr_setR (hc : X.calm = true) (hu : X.A.units + 64 < cLine) : CallR X (.type "set") (rSetR X.K X.w) := by
  intro pins s σ H xs vs Q I r ⟨l, ws, us, e, hl, hx, hf, q⟩
  subst e
  rw [Vals.ref1 r]
  obtain ⟨its, rv, pl, _⟩ := I.list hl
  obtain ⟨ks, k1, k2, k3⟩ := rules_of rv hx
  have hkl : ks.length = us.length := by rw [k2, List.length_map]
  refine call_set_rules (P := X.prog) (w := X.w) ks (I.ok.hd hc) pl.isList (by simpa using k1) (fun p hp => isRu_hd I (k3 p hp)) (by omega) (by omega) fun h' tk ⟨L, _, _, _, R, g⟩ k => ?_
  have inks : ∀ p ∈ L, p ∈ ks := fun p hp => List.mem_of_mem_take (g.from_ p hp)
  refine ⟨.ref s.heap.objs.size, upd H s.heap.objs.size (SetRO X.w s.heap.objs.size L), I.laid (t' := tk) k (Nat.le_refl _) (setRO_new R.bare), rfl, q _ L (I.hok.fresh (Nat.le_refl _)) (fun p hp => ⟨k3 p (inks p hp), ?_⟩) fun u hu => ?_⟩
  · rw [k2]
    exact List.mem_map.mpr ⟨p, inks p hp, rfl⟩
  · rw [k2] at hu
    obtain ⟨p, hp, rfl⟩ := List.mem_map.mp hu
    obtain ⟨m, hm, e⟩ := g.full p (by rw [List.take_length]; exact hp)
    exact List.mem_map.mpr ⟨m, hm, e⟩
theorem each_refs {K : PySem.W.Frag} {H : Hp} {R : Value → Ru → Prop} : ∀ {M : List (Addr × Ru)}, (∀ p ∈ M, R (.ref p.1) p.2) → EachIs R (M.map fun p => Value.ref p.1) (M.map (·.2))
  | [], _ => .nil
  | p :: M, h => .cons (h p List.mem_cons_self) (each_refs (K := K) (H := H) fun q hq => h q (List.mem_cons_of_mem _ hq))
theorem cr_sortedS (hc : X.calm = true) (hu : X.A.units + 64 < cLine) : CallR X (.builtin "sorted") (rSortedS X.K X.w) := by
  intro pins s σ H vs us Q I r ⟨a, L, e, ha, hk, q⟩
  subst e
  obtain ⟨es, ep, t, whole, _⟩ : Bare X.w a L s.heap := (I.hok a _ ha).1
  have R := whole s.heap rfl fun p hp => isRu_hd I (hk p hp)
  rw [Vals.ref1 r]
  obtain ⟨o, ho, hex, hd⟩ := R.obj
  have hsz := ents_size R.ents
  have hfew := R.few
  refine Calls.call_function_entry kind_sorted plain_sorted entry_sorted (args_sorted1 _) ?_
  unfold Builtin.«sorted»
  refine wpAny_bind (m := checkCount "sorted" 1 1 _) (wpAny_pure ?_)
  refine wpAny_bind (collect_set (A := X.A.in1) (I.ok.hd hc) ⟨o, ho, hex.1, hd⟩ R.fits (by unfold scanBound; omega) R.tab.ris R.led fun s1 vs k1 hz g1 o1 pm => ?_)
  rw [R.ents, show (entR X.w L).map (·.2) = L.map fun m => Value.ref m.1 from List.map_map ..] at pm
  obtain ⟨M, m1, m2⟩ := perm_map (fun q : Addr × Ru => Value.ref q.1) pm rfl
  subst m2
  have hMl : M.length < 64 := by rw [m1.length_eq]; exact hfew
  have hvl : (M.map fun q => Value.ref q.1).length < 64 := by rw [List.length_map]; exact hMl
  refine wpAny_bind (wpAny_newList ?_ (by rw [sizeLine_eq]; omega))
  have hoL : (s1.heap.push (seqObj "list" (M.map fun q => Value.ref q.1).toArray 0)).get? s1.heap.objs.size = some (seqObj "list" (M.map fun q => Value.ref q.1).toArray 0) := Heap.get?_push_size _ rfl
  have hM : ∀ p ∈ M, Hd X.K H (.ref p.1) p.2 := fun p hp => hk p (m1.mem_iff.mp hp)
  refine wpAny_bind (wpAny_holding (PySem.W.list_sort_data (s := { s1 with heap := s1.heap.push (seqObj "list" (M.map fun q => Value.ref q.1).toArray 0) }) (enc := (Datum.toD : Ru → PyData))
    (R := fun u x => ∃ w, RelV w u ∧ Hd X.K H w x) (bs := M.map (·.2)) hoL (each_refs (K := X.K) (H := H) fun p hp => ⟨.ref p.1, rfl, hM p hp⟩) (each_refs (K := X.K) (H := H) fun p hp => ?_)
    (PySem.W.AllAlike.of DatumOrd.alike) (.inl fun d hd => ?_) (by rw [List.length_map]; rw [sizeLine_eq]; omega) (fun b _ => ?_) fun out hlen heach => ?_))
  · obtain ⟨as, ra⟩ := (hM p hp).holds I (u := .ref p.1) rfl
    refine ⟨as, PyProof.Rows.Reads.keeps (fun b u e => Heap.get?_push_of_some _ (k1 b u e)) ra, fun hm => ?_⟩
    obtain ⟨ob, hob⟩ := PyProof.On.reads_mem_get ra _ hm
    exact absurd (Nat.lt_of_lt_of_le (Heap.lt_size hob) hz) (Nat.lt_irrefl _)
  · obtain ⟨x, _, rfl⟩ := List.mem_map.mp hd
    exact ⟨_, _, rfl⟩
  · have h1 := Datum.depth_le b
    have h2 : Datum.depth Ru ≤ 16 := by decide
    simp only [Around.in1]
    omega
  · rw [dataLe_leD] at heach
    obtain ⟨ws', rw', hw'⟩ := of_each heach
    obtain ⟨c, hc'⟩ := sortedHeap_at (vs := M.map fun q => Value.ref q.1) (out := out.toArray) hoL
    have hl' : ws'.length ≤ sizeLine := by
      have h1 := hw'.len
      rw [List.length_mergeSort, List.length_map] at h1
      rw [sizeLine_eq]
      omega
    have hn : H s1.heap.objs.size = none := I.hok.fresh hz
    have kk : ∀ b u, s.heap.get? b = some u → (sortedHeap (s1.heap.push (seqObj "list" (M.map fun q => Value.ref q.1).toArray 0)) s1.heap.objs.size (M.map fun q => Value.ref q.1) out.toArray).get? b = some u := fun b u e => by
      have q := k1 b u e
      have hlt := Heap.lt_size q
      rw [sortedHeap_old (Nat.ne_of_lt hlt) (by rw [size_push']; exact Nat.lt_succ_of_lt hlt)]
      exact Heap.get?_push_of_some _ q
    refine wpAny_pure ⟨_, rfl, ?_⟩
    have J : Inv X pins σ (upd H s1.heap.objs.size (.lst ws')) { s with heap := sortedHeap (s1.heap.push (seqObj "list" (M.map fun q => Value.ref q.1).toArray 0)) s1.heap.objs.size (M.map fun q => Value.ref q.1) out.toArray, gens := s1.gens, drawn := s1.drawn, toks := s1.toks } :=
      I.call (ch := []) (Un.laid kk hz hn) (I.hok.laid kk hz ⟨hl', out, c, rw', hc'⟩) (by rw [g1]; exact I.bare) (fun _ z => nomatch z)
    refine ⟨.ref s1.heap.objs.size, _, ?_, rfl, q _ ws' _ hn (m1.map _) ((m1.map (·.2)).nodup_iff.mpr R.nodup) hw'⟩
    have e : ({ s1 with heap := sortedHeap (s1.heap.push (seqObj "list" (M.map fun q => Value.ref q.1).toArray 0)) s1.heap.objs.size (M.map fun q => Value.ref q.1) out.toArray } : Shared) = { s with heap := sortedHeap (s1.heap.push (seqObj "list" (M.map fun q => Value.ref q.1).toArray 0)) s1.heap.objs.size (M.map fun q => Value.ref q.1) out.toArray, gens := s1.gens, drawn := s1.drawn, toks := s1.toks } := by
      cases s1
      cases s
      cases o1
      rfl
    rw [e]
    exact J
end
end K76
set_option Elab.async false
set_option linter.all false
set_option maxRecDepth 100000
set_option maxHeartbeats 1000000
/-! K76, part 2c: a dict of rows -/
namespace K76
open PySem PySem.Spec PyProof.Rows L2
open PySem.W (Tup Datum DatumOrd EachIs)
def kRow (r : Tup Int) : List Key := r.items.map Sum.inl
/-- an entry: where its key stands, the key, the value -/
abbrev Ent := Addr × Tup Int × V
theorem inl_inj : ∀ {a b : List Int}, a.map (Sum.inl : Int → Key) = b.map Sum.inl → a = b
  | [], [], _ => rfl
  | [], _ :: _, e => by simp at e
  | _ :: _, [], e => by simp at e
  | x :: xs, y :: ys, e => by
    rw [List.map_cons, List.map_cons] at e
    injection e with e1 e2
    injection e1 with e1
    rw [e1, inl_inj e2]
theorem kRow_inj {r q : Tup Int} (e : kRow r = kRow q) : r = q := by
  cases r
  cases q
  exact congrArg Tup.mk (inl_inj e)
abbrev EntR : Ent → List Key × Addr × Value → Prop := fun e q => q.1 = kRow e.2.1 ∧ q.2.1 = e.1 ∧ RelV e.2.2 q.2.2
structure DicR (P : Program) (w : World) (h : Heap) (d : Addr) (es : List Ent) : Prop where
  ex : ∃ qs, Paired EntR es qs ∧ ∃ o as ep, h.get? d = some o ∧ o.ExactDict ∧ o.data = .dict as ep ∧ as.toList = qs.map (entryOfKey (tupleKind (mixKind P w))) ∧ (qs.map (·.1)).Nodup
def DicO (P : Program) (w : World) (d : Addr) (es : List Ent) : HO := .ext fun h => DicR P w h d es
theorem dicO_new {P : Program} {w : World} {H : Hp} {h : Heap} {d : Addr} {es : List Ent} (R : DicR P w h d es) : ObjOk P w H h d (DicO P w d es) := by
  have ⟨qs, r, o, as, ep, ho, q⟩ := R.ex
  refine ⟨R, ⟨o, ho⟩, fun h1 h2 p k => ?_⟩
  have ⟨qs', r', o', as', ep', ho', q'⟩ := DicR.ex p
  exact ⟨qs', r', o', as', ep', k o' ho', q'⟩
theorem stored_new : ∀ (ps xs : List (List Key × Addr × Value)), ((xs ++ ps).map (·.1)).Nodup → storedAllH xs ps = xs ++ ps
  | [], xs, _ => (List.append_nil xs).symm
  | p :: ps, xs, h => by
    have hn : atKey xs p.1 = none := by
      unfold atKey
      rw [Option.map_eq_none_iff, List.find?_eq_none]
      intro x hx
      rw [decide_eq_true_eq]
      intro e
      rw [List.map_append, List.map_cons, List.nodup_append] at h
      exact h.2.2 x.1 (List.mem_map.mpr ⟨x, hx, rfl⟩) p.1 List.mem_cons_self e
    show storedAllH (storedH xs p.1 p.2.1 p.2.2) ps = _
    have e1 : xs ++ p :: ps = (xs ++ [(p.1, p.2.1, p.2.2)]) ++ ps := by simp
    rw [storedH_new hn, e1]
    rw [e1] at h
    exact stored_new ps _ h
theorem Hds.ints_inv {K : PySem.W.Frag} {H : Hp} : ∀ {vs : List V} {ns : List Int}, Hds K H vs ns → vs = ns.map V.int
  | _, [], h => h.nil_inv
  | _, n :: ns, h => by
    obtain ⟨v, r, rfl, h1, h2⟩ := h.cons_inv
    rw [h1.int, h2.ints_inv, List.map_cons]
theorem kRow_kV (r : Tup Int) : (kRow r).map kV = r.items.map V.int := by
  unfold kRow
  rw [List.map_map]
  exact List.map_congr_left fun x _ => rfl
def rDictR (K : PySem.W.Frag) (P : Program) (w : World) : List V → Hp → VK → Prop := fun vs H Q => ∃ (l : Addr) (ws : List V) (es : List Ent), vs = [.ref l] ∧ SqL K H l ws ∧ Paired (fun v e => ∃ t, v = V.ref t ∧ SqT K H t [.ref e.1, e.2.2] ∧ Hd K H (.ref e.1) e.2.1) ws es ∧
  (es.map (·.2.1)).Nodup ∧ es.length ≤ 1000 ∧ ∀ a, H a = none → Q (.ref a) (upd H a (DicO P w a es))
def rDixR (K : PySem.W.Frag) (P : Program) (w : World) : R2 := fun x y H Q => ∃ a es row v, x = .ref a ∧ H a = some (DicO P w a es) ∧ (∀ e ∈ es, Hd K H (.ref e.1) e.2.1) ∧ (es.map (·.2.1)).Nodup ∧ Hd K H y row ∧ (∃ b, (b, row, v) ∈ es) ∧ Q v H
section
variable {X : Cx} {pins : List (Addr × Obj)} {σ : L2.St} {H : Hp} {s : Shared}
theorem isKey_hd (I : Inv X pins σ H s) {b : Addr} {r : Tup Int} (h : Hd X.K H (.ref b) r) : IsTupleKey (mixKind X.prog X.w) s.heap (kRow r) b := by
  obtain ⟨a, vs, e, sq, hs⟩ := Hd.tup h
  injection e with e
  subst e
  rw [hs.ints_inv] at sq
  obtain ⟨its, rv, ⟨o, ho, hc, n, hd⟩, _⟩ := I.tuple sq
  rw [← kRow_kV] at rv
  exact ⟨o, its.toArray, n, ho, hc, hd, by simpa using items_are rv⟩
/-- the entries in the concrete heap -/
theorem pairs_of (I : Inv X pins σ H s) : ∀ {ws : List V} {us : List Value} {es : List Ent}, Vals ws us → Paired (fun v e => ∃ t, v = V.ref t ∧ SqT X.K H t [.ref e.1, e.2.2] ∧ Hd X.K H (.ref e.1) e.2.1) ws es →
    ∃ qs : List (Addr × List Key × Addr × Value), us = qs.map (fun q => Value.ref q.1) ∧ Paired EntR es (qs.map (·.2)) ∧ (∀ q ∈ qs, s.heap.IsTuple q.1 #[.ref q.2.2.1, q.2.2.2]) ∧ ∀ q ∈ qs, IsTupleKey (mixKind X.prog X.w) s.heap q.2.1 q.2.2.1
  | _, _, _, .nil, r => by
    cases r
    exact ⟨[], rfl, .nil, fun q h => (by cases h), fun q h => (by cases h)⟩
  | _, _, _, .cons r1 r2, r => by
    cases r with
    | @cons _ e _ es h1 h2 =>
      obtain ⟨t, rfl, sq, hk⟩ := h1
      obtain ⟨qs, q1, q2, q3, q4⟩ := pairs_of I r2 h2
      cases r1
      obtain ⟨its, rv, ht, _⟩ := I.tuple sq
      cases rv with
      | cons v1 rv =>
        cases rv with
        | cons v2 rv =>
          cases rv
          cases v1
          refine ⟨(t, kRow e.2.1, e.1, _) :: qs, by rw [q1, List.map_cons], by rw [List.map_cons]; exact .cons ⟨rfl, rfl, v2⟩ q2, fun q hq => ?_, fun q hq => ?_⟩
          · rcases List.mem_cons.mp hq with rfl | hq
            · exact ht
            · exact q3 q hq
          · rcases List.mem_cons.mp hq with rfl | hq
            · exact isKey_hd I hk
            · exact q4 q hq
theorem paired_keys : ∀ {es : List Ent} {qs : List (List Key × Addr × Value)}, Paired EntR es qs → qs.map (·.1) = es.map fun e => kRow e.2.1
  | _, _, .nil => rfl
  | _, _, .cons h t => by rw [List.map_cons, List.map_cons, h.1, paired_keys t]
theorem keys_nodup : ∀ {es : List Ent}, (es.map (·.2.1)).Nodup → (es.map fun e => kRow e.2.1).Nodup := fun {es} h => by
  have e : (es.map fun e => kRow e.2.1) = (es.map (·.2.1)).map kRow := by rw [List.map_map]; rfl
  rw [e]
  exact List.Pairwise.map _ (fun a b hne e => hne (kRow_inj e)) h
theorem cr_dictR (hc : X.calm = true) (hu : X.A.units + 64 < cLine) : CallR X (.type "dict") (rDictR X.K X.prog X.w) := by
  intro pins s σ H xs vs Q I r ⟨l, ws, es, e, hl, hp, hnd, hz, q⟩
  subst e
  rw [Vals.ref1 r]
  obtain ⟨its, rv, ⟨ol, nl, hol, hcl, hdl, hsl⟩, _⟩ := I.list hl
  obtain ⟨qs, q1, q2, q3, q4⟩ := pairs_of I rv hp
  have hn : H s.heap.objs.size = none := I.hok.fresh (Nat.le_refl _)
  have hlen : es.length = qs.length := by
    have := paired_len q2
    rwa [List.length_map] at this
  have hrows : qs[0]? = qs[0]? := rfl
  refine call_dict_pairsH (knd := tupleKind (mixKind X.prog X.w)) (ps := qs.map (·.2)) (PairArg.list l its.toArray (fun j => (qs[j]?.map (·.1)).getD 0) (qs.map fun q => (Value.ref q.2.2.1, q.2.2.2))) (I.ok.hd hc) ?room ?ok ?hold ?stay ?size fun h' tk hd' hk => ?_
  case room =>
    show X.A.in1.in1.units < cLine
    simp only [Around.in1]
    omega
  case ok =>
    refine ⟨⟨ol, nl, hol, hcl, hdl, hsl⟩, by rw [List.size_toArray, q1, List.length_map, List.length_map], fun j k v hj => ?_⟩
    rw [List.getElem?_map] at hj
    cases hq : qs[j]? with
    | none => rw [hq] at hj; cases hj
    | some p =>
      rw [hq, Option.map_some] at hj
      injection hj with hj
      injection hj with hj1 hj2
      refine ⟨?_, .inl ?_⟩
      · rw [q1]
        simp [hq]
      · rw [← hj1, ← hj2]
        show s.heap.IsTuple ((qs[j]?.map (·.1)).getD 0) _
        rw [hq, Option.map_some, Option.getD_some]
        exact q3 p (List.mem_of_getElem? hq)
  case hold =>
    refine ⟨by rw [List.length_map, List.length_map], fun i key v hrel => ?_⟩
    have hrel' : (qs.map fun q => (Value.ref q.2.2.1, q.2.2.2))[i]? = some (key, v) := hrel
    rw [List.getElem?_map] at hrel'
    cases hq : qs[i]? with
    | none => rw [hq] at hrel'; cases hrel'
    | some p =>
      rw [hq, Option.map_some] at hrel'
      injection hrel' with hj
      injection hj with hj1 hj2
      refine ⟨p.2.1, p.2.2.1, ?_, hj1.symm⟩
      rw [List.getElem?_map, hq, ← hj2]
      rfl
  case stay =>
    intro h' hk x hx
    obtain ⟨p, hp', rfl⟩ := List.mem_map.mp hx
    obtain ⟨o, items, n, ho, r⟩ := q4 p hp'
    exact ⟨o, items, n, hk _ _ (Nat.ne_of_lt (Heap.lt_size ho)) (by simp) ho, r⟩
  case size =>
    rw [List.length_map, ← hlen]
    have : (1000 : Nat) ≤ sizeLine := by decide
    omega
  have nd : ((qs.map (·.2)).map (·.1)).Nodup := by
    rw [paired_keys q2]
    exact keys_nodup hnd
  rw [stored_new _ [] (by rw [List.nil_append]; exact nd), List.nil_append] at hd'
  obtain ⟨o, as, ep, d1, d2, d3, d4, d5, d6⟩ := hd'
  refine ⟨.ref s.heap.objs.size, upd H s.heap.objs.size (DicO X.prog X.w s.heap.objs.size es), I.laid (t' := tk) (fun b u e => hk b u (by simp) e) (Nat.le_refl _) (dicO_new ⟨_, q2, o, as, ep, d1, d2, d3, d4, d6⟩), rfl, q _ hn⟩
theorem paired_at {A B : Type} {F : A → B → Prop} : ∀ {l : List A} {m : List B}, Paired F l m → ∀ a ∈ l, ∃ b ∈ m, F a b
  | _, _, .nil, _, h => by cases h
  | _, _, .cons r t, a, h => by
    rcases List.mem_cons.mp h with rfl | h
    · exact ⟨_, List.mem_cons_self, r⟩
    · obtain ⟨b, hb, hf⟩ := paired_at t a h
      exact ⟨b, List.mem_cons_of_mem _ hb, hf⟩
theorem paired_back {A B : Type} {F : A → B → Prop} : ∀ {l : List A} {m : List B}, Paired F l m → ∀ b ∈ m, ∃ a ∈ l, F a b
  | _, _, .nil, _, h => by cases h
  | _, _, .cons r t, a, h => by
    rcases List.mem_cons.mp h with rfl | h
    · exact ⟨_, List.mem_cons_self, r⟩
    · obtain ⟨b, hb, hf⟩ := paired_back t a h
      exact ⟨b, List.mem_cons_of_mem _ hb, hf⟩
theorem atKey_of : ∀ {qs : List (List Key × Addr × Value)} {q : List Key × Addr × Value}, (qs.map (·.1)).Nodup → q ∈ qs → atKey qs q.1 = some q.2
  | p :: qs, q, hn, h => by
    rw [List.map_cons, List.nodup_cons] at hn
    rcases List.mem_cons.mp h with rfl | h
    · simp [atKey, List.find?_cons]
    · have hne : ¬ p.1 = q.1 := fun e => hn.1 (by rw [e]; exact List.mem_map.mpr ⟨q, h, rfl⟩)
      have e : atKey (p :: qs) q.1 = atKey qs q.1 := by simp [atKey, List.find?_cons, hne]
      rw [e]
      exact atKey_of hn.2 h
variable {o i : Expr} {pos : Pos} {td ty : TE}
theorem pe_dixR (hu : X.A.units + 1 < cLine) (ho : PE X o td) (hi : PE X i ty) (hs : NoSl i) : PE X (.Subscript o i pos) (tOp (rDixR X.K X.prog X.w) td ty) := by
  refine ⟨fun pins s σ H Q I h => ?_⟩
  refine subD_of PySem.F.slot_dict_getitem.lookup hs (thn (ho.run pins s σ H _ I h) fun u s1 ⟨x, H1, I1, rx, q1⟩ => thn (hi.run pins s1 σ H1 _ I1 q1) fun iv s2 ⟨y, H2, I2, ry, a, es, row, v, ex, ha, hk, hnd, hy, ⟨b, hb⟩, q2⟩ => ?_)
  subst ex
  obtain rfl : u = Value.ref a := rx
  have R : DicR X.prog X.w s2.heap a es := (I2.hok a _ ha).1
  obtain ⟨qs, r, ob, as, ep, d1, d2, d3, d4, d5⟩ := R.ex
  obtain ⟨c, vs, e, sq, _⟩ := Hd.tup hy
  subst e
  obtain rfl : iv = Value.ref c := ry
  refine ⟨⟨ob, d1, d2.1⟩, ?_⟩
  obtain ⟨q, hq, f1, f2, f3⟩ := paired_at r _ hb
  have hat := atKey_of d5 hq
  rw [f1] at hat
  refine wpAny_getItem_heap (knd := tupleKind (mixKind X.prog X.w)) (xs := qs) (k := kRow row) (tupleKind_room_in1 hu) (isKey_hd I2 hy) ⟨ob, as, ep, d1, d2, d3, d4, fun x hx => ?_, d5⟩ hat ⟨v, H2, I2.tok _, f3, q2⟩
  obtain ⟨e, he, g1, g2, _⟩ := paired_back r x hx
  rw [g1, g2]
  exact isKey_hd I2 (hk e he)
end
end K76
set_option Elab.async false
set_option linter.all false
set_option maxRecDepth 100000
/-! K76, part 5: the program's defs -/
namespace K76
open PySem PySem.Spec PyProof.Rows L2
open PySem.W (Tup Datum DatumOrd)

/-! ### the text by places -/
def top (i : Nat) : Stmt := PySem.Challenge.pw_middlerows_k76_whole_fewest_broken.main.body.getD i (.Pass ⟨0, 0, 0, 0⟩)
abbrev sIsFrom : Stmt := top 8
abbrev sIsWant : Stmt := top 9
abbrev sOff : Stmt := top 10
abbrev sIsRule : Stmt := top 11
abbrev sInit : Stmt := inClass (top 12) 0
abbrev sNeedRules : Stmt := top 13
abbrev sIsRow : Stmt := top 14
abbrev sNeedRow : Stmt := top 15
abbrev sHas : Stmt := top 16
abbrev sIsKept : Stmt := top 17
abbrev sAreKept : Stmt := top 18
abbrev sAllRows : Stmt := top 19
abbrev sKeptRows : Stmt := top 20
abbrev sCountRows : Stmt := top 21
abbrev sBrokenOf : Stmt := top 23
abbrev sBrokenBy : Stmt := top 24
abbrev sFewestRows : Stmt := top 25
abbrev sFewestBroken : Stmt := top 26
abbrev sAllFewest : Stmt := top 27
abbrev sLeast : Stmt := top 28
abbrev sTaken : Stmt := top 30
abbrev sPick : Stmt := top 31
abbrev sAlike : Stmt := top 32
abbrev sAllRules : Stmt := top 33
abbrev sLawRows : Stmt := top 34
abbrev sLawKeeps : Stmt := top 35
abbrev sSome : Stmt := top 37
abbrev sDrawn : Stmt := top 38
abbrev sLaw : Stmt := top 39

/-! ### the data -/
abbrev Want := Int × Int
abbrev Rule := Want × Want
abbrev Row := Tup Int
def hasW (r : List Int) (w : Want) : Bool := decide (r.getD w.1.toNat 0 = w.2)
def keptR (u : Rule) (r : List Int) : Bool := hasW r u.1 || hasW r u.2
def fromTo (v lo hi : Int) : Bool := decide (lo ≤ v) && decide (v ≤ hi)
def okW (n : Int) (w : Want) : Bool := fromTo w.1 0 (n - 1) && fromTo w.2 0 1
def offW (w : Want) : Want := (w.1, 1 - w.2)
def okR (n : Int) (u : Rule) : Bool := (okW n u.1 && okW n u.2) && (!DatumOrd.lt u.2 u.1 && decide (u.2 ≠ offW u.1))

/-- a Rules object of the class at C -/
structure RObj (C : Addr) where
  n : Int
  told : List Rule
def rFields (n : Int) (t : V) : List (Str × V) := putF "told" t (putF "wide" (.int n) [])
instance {C : Addr} : Rep (RObj C) where
  rep K H v x := ∃ a dx t, v = .ref a ∧ H a = some (.ins C dx (rFields x.n t)) ∧ Hd K H t (Tup.mk x.told)
  up e h := let ⟨a, dx, t, h1, h2, h3⟩ := h; ⟨a, dx, t, h1, e _ _ h2, h3.up e⟩
theorem wt_ : ¬ (("wide" : Str) = "told") := by decide +kernel
theorem tw_ : ¬ (("told" : Str) = "wide") := by decide +kernel
theorem rf_wide (n : Int) (t : V) : (rFields n t).lookup ("wide" : Str) = some (.int n) := by
  unfold rFields
  rw [lookup_putF, if_neg wt_, lookup_putF, if_pos rfl]
theorem rf_told (n : Int) (t : V) : (rFields n t).lookup ("told" : Str) = some t := by
  unfold rFields
  rw [lookup_putF, if_pos rfl]

/-! ### what of the top the defs lean on -/
structure Txt (K : PySem.W.Frag) (mg : Str → Option Value) (C : Addr) : Prop where
  cl : Cls K C
  nW : NoAttr K C "wide"
  nT : NoAttr K C "told"
  mgC : mg "Rules" = some (.ref C)
  kp : PySem.W.keepIn K (.ref C) = true
  ca : PySem.W.findIn K (.ref C) "__class__" = some (some (.builtin "object.__class__"))
  cn : PySem.W.specialIn K (.builtin "object.__class__") "__get__" = some (some (.builtin "getset_descriptor.__get__"))
  ct : PySem.W.takesIn K (.builtin "object.__class__") = some true
  cm : PySem.W.mroIn K C (.type "object") = some true
  ck : PySem.W.kitOne K (.ref C) (.ref C) = some true
  most : ∃ t, mg "MOST_PLACES" = some (.int 8 t)
  isi : mg "isinstance" = none
  int : mg "int" = none
  bool : mg "bool" = none
  tup : mg "tuple" = none
  lst : mg "list" = none
  str : mg "str" = none
  len : mg "len" = none
  all : mg "all" = none
  range : mg "range" = none
  enum : mg "enumerate" = none
  min : mg "min" = none
  sorted : mg "sorted" = none
  set : mg "set" = none
  dict : mg "dict" = none

section
variable {P : Program} {w : World} {K : PySem.W.Frag} {mg : Str → Option Value} {base : Heap} {C : Addr}
/-- a def that changes nothing, by its body -/
theorem fun_pure {θ ω : Type} [Rep ω] {x qual : Str} {st : Stmt} {f : Addr} {fd : FuncData} {N ps : List Str} {k : Nat} {R : θ → List V → Hp → Prop} {pre : θ → Prop} {fn : θ → ω} (F : Fun K x qual st f fd) (S : FnScope N ps (defScope st)) (hl : ∀ x vs H, R x vs H → vs.length = ps.length)
    (hb : ∀ (cdv : Value) (A : Around) (outer : List Env) (s : Shared) (H : Hp) (vs : List V) (E : XK) (x : θ), Room k (A.deeper (envOfC qual (defScope st) s.heap.objs.size f cdv)) → R x vs H → pre x →
      ∃ t, PSs (cxOf CX0 P w K mg base N qual (defScope st) f cdv A outer s H E).nox (defBody st) t ∧ ∀ Q : VK, (∀ v H', Same H H' → Rep.rep K H' v (fn x) → Q v H') → t { nx := fun _ H' => Q .non H', rt := Q } (start N vs) H) :
    FnOk P w K mg base CX0 (k + 1) f fd ps (PureP K R pre fn) := by
  refine F.ok S (fun vs H Q E h => let ⟨x, h1, _⟩ := h; hl x vs H h1) (fun cdv A outer s H vs Q E hr h => ?_)
  obtain ⟨x, h1, h2, h3⟩ := h
  obtain ⟨t, ht, hq⟩ := hb cdv A outer s H vs E x hr h1 h2
  exact ⟨t, ht, hq Q h3⟩
theorem fun_pureL {θ α : Type} [DecidableEq α] [Datum α] {x qual : Str} {st : Stmt} {f : Addr} {fd : FuncData} {N ps : List Str} {k : Nat} {R : θ → List V → Hp → Prop} {pre : θ → Prop} {fn : θ → List α} (F : Fun K x qual st f fd) (S : FnScope N ps (defScope st)) (hl : ∀ x vs H, R x vs H → vs.length = ps.length)
    (hb : ∀ (cdv : Value) (A : Around) (outer : List Env) (s : Shared) (H : Hp) (vs : List V) (E : XK) (x : θ), Room k (A.deeper (envOfC qual (defScope st) s.heap.objs.size f cdv)) → R x vs H → pre x →
      ∃ t, PSs (cxOf CX0 P w K mg base N qual (defScope st) f cdv A outer s H E).nox (defBody st) t ∧ ∀ Q : VK, (∀ p ws H', H p = none → Same H H' → H' p = some (.lst ws) → Hds K H' ws (fn x) → Q (.ref p) H') → t { nx := fun _ H' => Q .non H', rt := Q } (start N vs) H) :
    FnOk P w K mg base CX0 (k + 1) f fd ps (PureL K R pre fn) := by
  refine F.ok S (fun vs H Q E h => let ⟨x, h1, _⟩ := h; hl x vs H h1) (fun cdv A outer s H vs Q E hr h => ?_)
  obtain ⟨x, h1, h2, h3⟩ := h
  obtain ⟨t, ht, hq⟩ := hb cdv A outer s H vs E x hr h1 h2
  exact ⟨t, ht, hq Q h3⟩

/-- a def that may be called by its name -/
structure Callee (P : Program) (w : World) (K : PySem.W.Frag) (mg : Str → Option Value) (base : Heap) (k : Nat) (x : Str) (ps : List Str) (sp : Sp) : Prop where
  ex : ∃ (f : Addr) (fd : FuncData), FnOk P w K mg base CX0 k f fd ps sp ∧ mg x = some (.ref f) ∧ PySem.W.keepIn K (.ref f) = true ∧ Binds K fd ps []
theorem pe_cal {X : Cx} {k : Nat} {x : Str} {ps : List Str} {sp : Sp} {p pos : Pos} {e : Expr} {es : List Expr} {t : TA} (G : Callee X.prog X.w X.K X.mg X.base k x ps sp) (hr : Room k X.A) (hg : Gl X x) (ha : PA X (e :: es) t)
    (hdb : (x == ("__debug__" : Str)) = false := by decide) (he : starEach (e :: es) X.env = (false, eval e X.env) :: starEach es X.env := by rfl) (hpl : (backTo pos (starEach es X.env)).any (·.1) = false := by rfl) : PE X (.Call (.Name x p) (e :: es) [] pos) (tCall sp [] E0 t) := by
  obtain ⟨f, fd, F, hm, hk, hb⟩ := G.ex
  exact pe_call F hr hg hm hk hb .nil pass0 ha hdb he hpl

/-! ### words over the objects -/
section
variable {σ : L2.St} {H : Hp} {ta tl te : TE} {α β : Type} [DecidableEq α] [Datum α] [DecidableEq β] [Datum β]
theorem evd_told {r : RObj C} (T : Txt K mg C) (h : EvD K ta σ H r) : EvD K (tFld K ta "told") σ H (Tup.mk r.told) := fun H1 e Q q => h H1 e _ fun v H2 e2 hv => by
  obtain ⟨a, dx, t, rfl, h1, h2⟩ := hv
  exact ⟨a, C, dx, _, t, rfl, h1, T.cl, T.nT, rf_told _ _, q t H2 e2 h2⟩
theorem evd_wide {r : RObj C} (T : Txt K mg C) (h : EvD K ta σ H r) : EvD K (tFld K ta "wide") σ H r.n := fun H1 e Q q => h H1 e _ fun v H2 e2 hv => by
  obtain ⟨a, dx, t, rfl, h1, h2⟩ := hv
  exact ⟨a, C, dx, _, _, rfl, h1, T.cl, T.nW, rf_wide _ _, q _ H2 e2 (hd_int _)⟩
theorem evd_isiRules {r : RObj C} (T : Txt K mg C) (h : EvD K ta σ H r) : EvD K (tCB (rIsi K) (tCons ta (tCons (tC (.ref C)) tNil))) σ H true := fun H1 e Q q => h H1 e _ fun v H2 e2 hv => by
  obtain ⟨a, dx, t, rfl, h1, h2⟩ := hv
  exact ⟨.ref a, .ref C, _, _, true, rfl, .own C, .base (.ins h1 T.cl T.ca T.cn T.ct T.cm), T.ck, q _ H2 e2 (hd_bool _)⟩
/-- tuple(a list) -/
abbrev rTupOf (K : PySem.W.Frag) : List V → Hp → VK → Prop := fun xs H Q => ∃ p ys, xs = [.ref p] ∧ ((SqL K H p ys ∧ ∀ l, H l = none → Q (.ref l) (upd H l (.tup ys))) ∨ (SqT K H p ys ∧ Q (.ref p) H))
theorem evd_tupOf {xs : List α} (h : EvD K ta σ H xs) : EvD K (tCB (rTupOf K) (tCons ta tNil)) σ H (Tup.mk xs) := evd_cb (eva1 h) fun vs H1 _ ⟨v, e, hv⟩ Q q => by
  subst e
  obtain ⟨a, ws, rfl, s, hs⟩ := Hd.list hv
  refine ⟨a, ws, rfl, .inl ⟨s, fun l hl => ?_⟩⟩
  have e3 : Same H1 (upd H1 l (.tup ws)) := fun b o hb => by rw [upd_ne (ne_of_none hb hl)]; exact hb
  exact q _ _ e3 (hd_tup (SqT.of upd_same) (hs.up e3))
theorem evd_min {γ : Type} [DecidableEq γ] [DatumOrd γ] {x : γ} {xs : List γ} (h : EvD K ta σ H (x :: xs)) : EvD K (tCB (rMinT γ K) (tCons ta tNil)) σ H (PySem.W.minOf x xs) := evd_cb (eva1 h) fun vs H1 _ ⟨v, e, hv⟩ Q q => by
  subst e
  obtain ⟨a, ws, rfl, s, hs⟩ := Hd.list hv
  exact ⟨a, ws, x, xs, rfl, s, hs, fun w _ hw => q w H1 (Same.refl H1) hw⟩
/-- a, b = e -/
theorem q_asg2 {i j : Nat} {p : α × β} {D : Ends} {tU : TS} (h : EvD K te σ H p) (k : ∀ v w H1, Same H H1 → Hd K H1 v p.1 → Hd K H1 w p.2 → tU D ((σ.set i (some v)).set j (some w)) H1) : tSeq (tAsg te (gTup K 2 (gCons (gName i) (gCons (gName j) gNil)))) tU D σ H :=
  h H (Same.refl H) _ fun v H1 e hv => by
    obtain ⟨a, v1, v2, rfl, s, h1, h2⟩ := Hd.pair hv
    exact ⟨a, [v1, v2], rfl, s, rfl, v1, [v2], rfl, v2, [], rfl, rfl, k v1 v2 H1 e h1 h2⟩
end

/-! ### promises -/
abbrev spIsFrom (K : PySem.W.Frag) : Sp := PureP K (fun (x : Int × Int × Int) => A3 K x.1 x.2.1 x.2.2) (fun _ => True) fun x => fromTo x.1 x.2.1 x.2.2
abbrev spIsWant (K : PySem.W.Frag) : Sp := PureP K (fun (x : Int × Want) => A2 K x.1 x.2) (fun _ => True) fun x => okW x.1 x.2
abbrev spOff (K : PySem.W.Frag) : Sp := PureP K (fun (x : Want) => A1 K x) (fun _ => True) offW
abbrev spIsRule (K : PySem.W.Frag) : Sp := PureP K (fun (x : Int × Rule) => A2 K x.1 x.2) (fun _ => True) fun x => okR x.1 x.2

theorem scIsFrom : FnScope ["value", "low", "high"] ["value", "low", "high"] (defScope sIsFrom) := ⟨rfl, rfl, rfl, by decide +kernel, rfl, by decide +kernel, by decide +kernel⟩
theorem ok_isFrom {f : Addr} {fd : FuncData} (F : Fun K "is_from" "is_from" sIsFrom f fd) (T : Txt K mg C) : FnOk P w K mg base CX0 1 f fd ["value", "low", "high"] (spIsFrom K) := by
  refine fun_pure F scIsFrom (fun x vs H ⟨_, _, _, e, _⟩ => by rw [e]; rfl) fun cdv A outer s H vs E x hr ⟨v1, v2, v3, e, h1, h2, h3⟩ _ => ?_
  subst e
  refine ⟨_, pss_one (ps_ret (pe_and (pe_callB call_isi (by rfl) T.isi (by decide +kernel) (pa_cons (pv 0) (pa_cons (pe_bltn (v := .ty "int") (by rfl) T.int (by decide +kernel) rfl) pa_nil)))
    (pe_and (pe_not (pe_callB call_isi (by rfl) T.isi (by decide +kernel) (pa_cons (pv 0) (pa_cons (pe_bltn (v := .ty "bool") (by rfl) T.bool (by decide +kernel) rfl) pa_nil))))
      (pe_one (pe_chain op_le op_le (pv 1) (pv 0) (pv 2)))))), fun Q k => ?_⟩
  exact s_ret (EvD.cast (evd_and (evd_isi (n := "int") (b := true) (evd_var (i := 0) rfl h1) rfl (by decide +kernel)) fun _ => evd_and (evd_not (evd_isi (n := "int") (b := false) (evd_var (i := 0) rfl h1) rfl (by decide +kernel))) fun _ => evd_chain (evd_var (i := 1) rfl h2) (evd_var (i := 0) rfl h1) (evd_var (i := 2) rfl h3)) rfl) k

theorem scIsWant : FnScope ["many", "value"] ["many", "value"] (defScope sIsWant) := ⟨rfl, rfl, rfl, by decide +kernel, rfl, by decide +kernel, by decide +kernel⟩
theorem ok_isWant {f : Addr} {fd : FuncData} (F : Fun K "is_want_of" "is_want_of" sIsWant f fd) (T : Txt K mg C) (G : Callee P w K mg base 1 "is_from" ["value", "low", "high"] (spIsFrom K)) : FnOk P w K mg base CX0 2 f fd ["many", "value"] (spIsWant K) := by
  refine fun_pure F scIsWant (fun x vs H ⟨_, _, e, _⟩ => by rw [e]; rfl) fun cdv A outer s H vs E x hr ⟨v1, v2, e, h1, h2⟩ _ => ?_
  subst e
  refine ⟨_, pss_cons (ps_if (PW.pt (pw_or (pt_not (pt_val (pe_callB call_isi (by rfl) T.isi (by decide +kernel) (pa_cons (pv 1) (pa_cons (pe_bltn (v := .ty "tuple") (by rfl) T.tup (by decide +kernel) rfl) pa_nil)))))
      (pw_or1 (pt_cmpR op_ne (pe_callB call_len_seq (by rfl) T.len PySem.boot_len (pa_cons (pv 1) pa_nil)) pe_int (nomark _))))) (pss_one (ps_ret pe_bl)) pss_nil)
    (pss_one (ps_ret (pe_and (pe_cal G hr (by rfl) (pa_cons (pe_ix ix_tup (pv 1) pe_int (fun _ _ => rfl)) (pa_cons pe_int (pa_cons (pe_op op_sub (pv 0) pe_int) pa_nil))))
      (pe_one (pe_cal G hr (by rfl) (pa_cons (pe_ix ix_tup (pv 1) pe_int (fun _ _ => rfl)) (pa_cons pe_int (pa_cons pe_int pa_nil)))))))), fun Q k => ?_⟩
  refine q_when (EvB.cast (b' := false) (evb_or (evb_not (evb_val (evd_isi (n := "tuple") (b := true) (evd_var (i := 1) rfl h2) rfl (by decide +kernel)))) fun _ => evb_test (evd_neI (evd_len2 (evd_var (i := 1) rfl h2)) evd_int)) (by decide)) (fun h => nomatch h) fun _ H1 e1 => ?_
  have h1' := Rep.up e1 h1
  have h2' := Rep.up e1 h2
  refine s_ret (EvD.cast (evd_and (evd_call (x := (x.2.1, (0 : Int), x.1 - 1)) (eva3 (evd_fst (p := x.2) (evd_var (i := 1) rfl h2')) evd_int (evd_I (evd_var (i := 0) rfl h1') evd_int)) trivial)
    fun _ => evd_call (x := (x.2.2, (0 : Int), (1 : Int))) (eva3 (evd_snd (p := x.2) (evd_var (i := 1) rfl h2')) evd_int evd_int) trivial) rfl) fun v H2 e2 hv => k v H2 (e1.trans e2) hv
theorem scOff : FnScope ["want"] ["want"] (defScope sOff) := ⟨rfl, rfl, rfl, by decide +kernel, rfl, by decide +kernel, by decide +kernel⟩
theorem ok_off {f : Addr} {fd : FuncData} (F : Fun K "off" "off" sOff f fd) : FnOk P w K mg base CX0 1 f fd ["want"] (spOff K) := by
  refine fun_pure F scOff (fun x vs H ⟨_, e, _⟩ => by rw [e]; rfl) fun cdv A outer s H vs E x hr ⟨v1, e, h1⟩ _ => ?_
  subst e
  refine ⟨_, pss_one (ps_ret (pe_tup (pa_cons (pe_ix ix_tup (pv 0) pe_int (fun _ _ => rfl)) (pa_cons (pe_op op_sub pe_int (pe_ix ix_tup (pv 0) pe_int (fun _ _ => rfl))) pa_nil)))), fun Q k => ?_⟩
  exact s_ret (EvD.cast (evd_pair (evd_fst (evd_var (i := 0) rfl h1)) (evd_I evd_int (evd_snd (evd_var (i := 0) rfl h1)))) rfl) k
theorem scIsRule : FnScope ["many", "value", "want"] ["many", "value"] (defScope sIsRule) := ⟨rfl, rfl, rfl, by decide +kernel, rfl, by decide +kernel, by decide +kernel⟩
theorem ok_isRule {f : Addr} {fd : FuncData} (F : Fun K "is_rule_of" "is_rule_of" sIsRule f fd) (T : Txt K mg C) (G : Callee P w K mg base 2 "is_want_of" ["many", "value"] (spIsWant K)) (Go : Callee P w K mg base 1 "off" ["want"] (spOff K)) : FnOk P w K mg base CX0 3 f fd ["many", "value"] (spIsRule K) := by
  refine fun_pure F scIsRule (fun x vs H ⟨_, _, e, _⟩ => by rw [e]; rfl) fun cdv A outer s H vs E x hr ⟨v1, v2, e, h1, h2⟩ _ => ?_
  subst e
  refine ⟨_, pss_cons (ps_if (PW.pt (pw_or (pt_not (pt_val (pe_callB call_isi (by rfl) T.isi (by decide +kernel) (pa_cons (pv 1) (pa_cons (pe_bltn (v := .ty "tuple") (by rfl) T.tup (by decide +kernel) rfl) pa_nil)))))
      (pw_or (pt_cmpR op_ne (pe_callB call_len_seq (by rfl) T.len PySem.boot_len (pa_cons (pv 1) pa_nil)) pe_int (nomark _))
        (pw_or1 (pt_not (pt_val (pe_callB (cr_all rfl) (by rfl) T.all (by decide +kernel) (pa_cons (pe_lc (own := [("want", 2)]) (g := gName 2) (tt := tYes) rfl scIsRule.nd (pi_tup (pv 1))
          (blkOk_by (N := ["many", "value", "want"]) (sc := defScope sIsRule) (by decide +kernel)) (fun _ _ _ _ _ => pg_name (i := 2) scIsRule.nd rfl (Or.inl rfl)) (fun _ _ _ _ _ => pts_nil)
          (fun _ _ _ _ _ => pe_cal G hr (by rfl) (pa_cons (pv 0) (pa_cons (pv 2) pa_nil)))) pa_nil)))))))) (pss_one (ps_ret pe_bl)) pss_nil)
    (pss_one (ps_ret (pe_and (pe_cmpR (op_leT (α := Want) hr.units (by decide)) (pe_ix ix_tup (pv 1) pe_int (fun _ _ => rfl)) (pe_ix ix_tup (pv 1) pe_int (fun _ _ => rfl)) (nomark _))
      (pe_one (pe_cmpR (op_neT (α := Want) hr.units (by decide)) (pe_ix ix_tup (pv 1) pe_int (fun _ _ => rfl)) (pe_cal Go (hr.mono (by decide)) (by rfl) (pa_cons (pe_ix ix_tup (pv 1) pe_int (fun _ _ => rfl)) pa_nil)) (nomark _)))))), fun Q k => ?_⟩
  have ht : ∀ b : Bool, (!true || (decide ((2 : Int) ≠ 2) || !b)) = !b := fun b => by simp
  refine q_when (EvB.cast (evb_or (evb_not (evb_val (evd_isi (n := "tuple") (b := true) (evd_var (i := 1) rfl h2) rfl (by decide +kernel)))) fun _ => evb_or (evb_test (evd_neI (evd_len2 (evd_var (i := 1) rfl h2)) evd_int))
    fun _ => evb_not (evb_val (evd_all (EvL.d (evl_map (f := okW x.1) (evi_tup (evd_two (evd_var (i := 1) rfl h2))) (by show 2 ≤ 100000; decide) tg1 fun wt σ2 H1 e1 hm ⟨v, hs, hv⟩ => ?_))))) (ht _)) (fun h H1 e1 => ?_) fun h H1 e1 => ?_
  · subst hs
    exact ⟨rfl, evd_call (x := (x.1, wt)) (eva2 (evd_var (i := 0) rfl (Rep.up e1 h1)) (evd_var (i := 2) rfl hv)) trivial⟩
  · refine s_ret (EvD.cast (x' := okR x.1 x.2) (evd_bl (b := false)) ?_) fun v H2 e2 hv => k v H2 (e1.trans e2) hv
    simp only [List.map_cons, List.map_nil, List.all_cons, List.all_nil, Bool.and_true, id] at h
    unfold okR
    rw [Bool.not_eq_true'] at h
    rw [h]; rfl
  · have h1' := Rep.up e1 h1
    have h2' := Rep.up e1 h2
    refine s_ret (EvD.cast (x' := okR x.1 x.2) (evd_and (evd_leT (γ := Want) (evd_fst (evd_var (i := 1) rfl h2')) (evd_snd (evd_var (i := 1) rfl h2'))) fun _ => evd_neT (evd_snd (evd_var (i := 1) rfl h2')) (evd_call (x := x.2.1) (eva1 (evd_fst (evd_var (i := 1) rfl h2'))) trivial)) ?_) fun v H2 e2 hv => k v H2 (e1.trans e2) hv
    simp only [List.map_cons, List.map_nil, List.all_cons, List.all_nil, Bool.and_true, id] at h
    unfold okR
    rw [Bool.not_eq_false'] at h
    rw [h]; rfl
end
end K76
set_option Elab.async false
set_option linter.all false
set_option maxRecDepth 100000
/-! K76, part 5b: more of the program's defs -/
namespace K76
open PySem PySem.Spec PyProof.Rows L2
open PySem.W (Tup Datum DatumOrd)

/-! ### what they compute -/
def okRow (n : Int) (r : Row) : Bool := decide ((r.items.length : Int) = n) && (r.items.map fun v => fromTo v 0 1).all id
/-- the places of a rule lie in a row of m places -/
def inR (m : Nat) (u : Rule) : Prop := (0 ≤ u.1.1 ∧ u.1.1 < m) ∧ (0 ≤ u.2.1 ∧ u.2.1 < m)
def keptAll (told : List Rule) (r : List Int) : Bool := (told.map fun u => keptR u r).all id
def rowsN : Nat → List Row
  | 0 => [Tup.mk []]
  | n + 1 => (rowsN n).flatMap fun r => [(0 : Int), 1].map fun v => Tup.mk (r.items ++ [v])
theorem rowsN_len : ∀ n, ∀ r ∈ rowsN n, r.items.length = n
  | 0, r, h => by
    rw [rowsN, List.mem_singleton] at h
    rw [h]; rfl
  | n + 1, r, h => by
    rw [rowsN, List.mem_flatMap] at h
    obtain ⟨r', h1, h2⟩ := h
    obtain ⟨v, _, rfl⟩ := List.mem_map.mp h2
    simp [rowsN_len n r' h1]
theorem rowsN_count : ∀ n, (rowsN n).length = 2 ^ n
  | 0 => rfl
  | n + 1 => by
    have ih := rowsN_count n
    rw [rowsN]
    have : ∀ l : List Row, (l.flatMap fun r => [(0 : Int), 1].map fun v => Tup.mk (r.items ++ [v])).length = 2 * l.length := by
      intro l
      induction l with
      | nil => rfl
      | cons a l ih =>
        rw [List.flatMap_cons, List.length_append, ih]
        simp only [List.map_cons, List.map_nil, List.length_cons, List.length_nil]
        omega
    rw [this, ih]
    omega
def brk (told : List Rule) (r : Row) : List Rule := told.filter fun u => !keptR u r.items
def keptRows (n : Nat) (told : List Rule) : List Row := (rowsN n).filter fun r => keptAll told r.items
def counted (n : Nat) (told : List Rule) : List (Int × Row) := (rowsN n).map fun r => (((brk told r).length : Int), r)
def minH {α : Type} [DecidableEq α] [DatumOrd α] (d : α) : List α → α
  | [] => d
  | x :: xs => PySem.W.minOf x xs
def leastN (n : Nat) (told : List Rule) : Int := (minH (0, Tup.mk []) (counted n told)).1
def fewestL (n : Nat) (told : List Rule) : List Row := (((counted n told).filter fun p => decide (p.1 = leastN n told))).map (·.2)
/-- rules as they should be -/
structure Good (n : Int) (told : List Rule) : Prop where
  lo : 1 ≤ n
  hi : n ≤ 8
  ok : ∀ u ∈ told, okR n u = true
  asc : told.Pairwise fun a b => DatumOrd.lt a b = true
  few : told.length ≤ 1000
theorem okW_in {n : Int} {w : Want} (h : okW n w = true) (hn : 0 ≤ n) : 0 ≤ w.1 ∧ w.1 < (n.toNat : Nat) := by
  unfold okW fromTo at h
  simp only [Bool.and_eq_true, decide_eq_true_eq] at h
  omega
theorem okR_in {n : Int} {u : Rule} (h : okR n u = true) (hn : 0 ≤ n) : inR n.toNat u := by
  unfold okR at h
  simp only [Bool.and_eq_true] at h
  exact ⟨okW_in h.1.1 hn, okW_in h.1.2 hn⟩
theorem Good.inR {n : Int} {told : List Rule} (g : Good n told) : ∀ u ∈ told, inR n.toNat u := fun u hu => okR_in (g.ok u hu) (by have := g.lo; omega)
theorem rowsN_le {n : Int} {told : List Rule} (g : Good n told) : (rowsN n.toNat).length ≤ 256 := by
  rw [rowsN_count]
  have h1 : n.toNat ≤ 8 := by have := g.hi; omega
  exact Nat.pow_le_pow_right (by decide) h1

/-! ### promises -/
abbrev spNeedRules (K : PySem.W.Frag) (C : Addr) : Sp := PureP K (fun (x : RObj C) => A1 K x) (fun _ => True) fun _ => ()
abbrev spIsRow (K : PySem.W.Frag) : Sp := PureP K (fun (x : Int × Row) => A2 K x.1 x.2) (fun x => x.2.items.length ≤ 1000) fun x => okRow x.1 x.2
abbrev spNeedRow (K : PySem.W.Frag) (C : Addr) : Sp := PureP K (fun (x : RObj C × Row) => A2 K x.1 x.2) (fun x => x.2.items.length ≤ 1000 ∧ okRow x.1.n x.2 = true) fun _ => ()
abbrev spHas (K : PySem.W.Frag) : Sp := PureP K (fun (x : Row × Want) => A2 K x.1 x.2) (fun x => 0 ≤ x.2.1 ∧ x.2.1 < (x.1.items.length : Nat)) fun x => hasW x.1.items x.2
abbrev spIsKept (K : PySem.W.Frag) : Sp := PureP K (fun (x : Rule × Row) => A2 K x.1 x.2) (fun x => inR x.2.items.length x.1) fun x => keptR x.1 x.2.items
abbrev spAreKept (K : PySem.W.Frag) : Sp := PureP K (fun (x : Tup Rule × Row) => A2 K x.1 x.2) (fun x => x.1.items.length ≤ 1000 ∧ ∀ u ∈ x.1.items, inR x.2.items.length u) fun x => keptAll x.1.items x.2.items
abbrev spAllRows (K : PySem.W.Frag) : Sp := PureL K (fun (x : Int) => A1 K x) (fun x => 1 ≤ x ∧ x ≤ 8) fun x => rowsN x.toNat
abbrev spKeptRows (K : PySem.W.Frag) (C : Addr) : Sp := PureL K (fun (x : RObj C) => A1 K x) (fun x => Good x.n x.told) fun x => keptRows x.n.toNat x.told
abbrev spCountRows (K : PySem.W.Frag) (C : Addr) : Sp := PureP K (fun (x : RObj C) => A1 K x) (fun x => Good x.n x.told) fun x => ((keptRows x.n.toNat x.told).length : Int)
abbrev spBrokenOf (K : PySem.W.Frag) (C : Addr) : Sp := PureL K (fun (x : RObj C × Row) => A2 K x.1 x.2) (fun x => Good x.1.n x.1.told ∧ x.2.items.length = x.1.n.toNat) fun x => brk x.1.told x.2
abbrev spBrokenBy (K : PySem.W.Frag) (C : Addr) : Sp := PureL K (fun (x : RObj C × Row) => A2 K x.1 x.2) (fun x => Good x.1.n x.1.told ∧ x.2.items.length = x.1.n.toNat ∧ okRow x.1.n x.2 = true) fun x => brk x.1.told x.2
abbrev spFewestRows (K : PySem.W.Frag) (C : Addr) : Sp := PureP K (fun (x : RObj C) => A1 K x) (fun x => Good x.n x.told) fun x => (leastN x.n.toNat x.told, fewestL x.n.toNat x.told)

section
variable {P : Program} {w : World} {K : PySem.W.Frag} {mg : Str → Option Value} {base : Heap} {C : Addr}
theorem scNeedRules : FnScope ["rules"] ["rules"] (defScope sNeedRules) := ⟨rfl, rfl, rfl, by decide +kernel, rfl, by decide +kernel, by decide +kernel⟩
theorem ok_needRules {f : Addr} {fd : FuncData} (F : Fun K "need_rules" "need_rules" sNeedRules f fd) (T : Txt K mg C) : FnOk P w K mg base CX0 1 f fd ["rules"] (spNeedRules K C) := by
  refine fun_pure F scNeedRules (fun x vs H ⟨_, e, _⟩ => by rw [e]; rfl) fun cdv A outer s H vs E x hr ⟨v1, e, h1⟩ _ => ?_
  subst e
  refine ⟨_, pss_one (ps_if (pt_not (pt_val (pe_callB call_isi (by rfl) T.isi (by decide +kernel) (pa_cons (pv 0) (pa_cons (pe_glob (v := .ref C) (by rfl) T.mgC rfl) pa_nil))))) pss_never pss_nil), fun Q k => ?_⟩
  exact s_when (evb_not (evb_val (evd_isiRules T (evd_var (i := 0) rfl h1)))) (fun h => nomatch h) fun _ H1 e1 => k .non H1 e1 .non
theorem scIsRow : FnScope ["many", "value", "one"] ["many", "value"] (defScope sIsRow) := ⟨rfl, rfl, rfl, by decide +kernel, rfl, by decide +kernel, by decide +kernel⟩
theorem ok_isRow {f : Addr} {fd : FuncData} (F : Fun K "is_row_of" "is_row_of" sIsRow f fd) (T : Txt K mg C) (G : Callee P w K mg base 1 "is_from" ["value", "low", "high"] (spIsFrom K)) : FnOk P w K mg base CX0 2 f fd ["many", "value"] (spIsRow K) := by
  refine fun_pure F scIsRow (fun x vs H ⟨_, _, e, _⟩ => by rw [e]; rfl) fun cdv A outer s H vs E x hr ⟨v1, v2, e, h1, h2⟩ hp => ?_
  subst e
  refine ⟨_, pss_one (ps_ret (pe_and (pe_callB call_isi (by rfl) T.isi (by decide +kernel) (pa_cons (pv 1) (pa_cons (pe_bltn (v := .ty "tuple") (by rfl) T.tup (by decide +kernel) rfl) pa_nil)))
    (pe_and (pe_cmpR op_eq (pe_callB call_len_seq (by rfl) T.len PySem.boot_len (pa_cons (pv 1) pa_nil)) (pv 0) (nomark _))
      (pe_one (pe_callB (cr_all rfl) (by rfl) T.all (by decide +kernel) (pa_cons (pe_lc (own := [("one", 2)]) (g := gName 2) (tt := tYes) rfl scIsRow.nd (pi_tup (pv 1))
          (blkOk_by (N := ["many", "value", "one"]) (sc := defScope sIsRow) (by decide +kernel)) (fun _ _ _ _ _ => pg_name (i := 2) scIsRow.nd rfl (Or.inl rfl)) (fun _ _ _ _ _ => pts_nil)
          (fun _ _ _ _ _ => pe_cal G hr (by rfl) (pa_cons (pv 2) (pa_cons pe_int (pa_cons pe_int pa_nil))))) pa_nil)))))), fun Q k => ?_⟩
  refine s_ret (EvD.cast (evd_and (evd_isi (n := "tuple") (b := true) (evd_var (i := 1) rfl h2) rfl (by decide +kernel)) fun _ => evd_and (evd_eqI (evd_lenT (evd_var (i := 1) rfl h2)) (evd_var (i := 0) rfl h1))
    fun _ => evd_all (EvL.d (evl_map (f := fun v => fromTo v 0 1) (evi_tup (evd_var (i := 1) rfl h2)) (Nat.le_trans hp (by decide)) tg1 fun wt σ2 H1 e1 hm ⟨v, hs, hv⟩ => ?_))) rfl) k
  subst hs
  exact ⟨rfl, evd_call (x := (wt, (0 : Int), (1 : Int))) (eva3 (evd_var (i := 2) rfl hv) evd_int evd_int) trivial⟩
theorem scNeedRow : FnScope ["rules", "row"] ["rules", "row"] (defScope sNeedRow) := ⟨rfl, rfl, rfl, by decide +kernel, rfl, by decide +kernel, by decide +kernel⟩
theorem ok_needRow {f : Addr} {fd : FuncData} (F : Fun K "need_row" "need_row" sNeedRow f fd) (T : Txt K mg C) (G : Callee P w K mg base 2 "is_row_of" ["many", "value"] (spIsRow K)) : FnOk P w K mg base CX0 3 f fd ["rules", "row"] (spNeedRow K C) := by
  refine fun_pure F scNeedRow (fun x vs H ⟨_, _, e, _⟩ => by rw [e]; rfl) fun cdv A outer s H vs E x hr ⟨v1, v2, e, h1, h2⟩ hp => ?_
  subst e
  refine ⟨_, pss_one (ps_if (pt_not (pt_val (pe_cal G hr (by rfl) (pa_cons (pe_fld (pv 0) rfl) (pa_cons (pv 1) pa_nil))))) pss_never pss_nil), fun Q k => ?_⟩
  refine s_when (evb_not (evb_val (evd_call (x := (x.1.n, x.2)) (eva2 (evd_wide T (evd_var (i := 0) rfl h1)) (evd_var (i := 1) rfl h2)) hp.1))) (fun h => ?_) fun _ H1 e1 => k .non H1 e1 .non
  have := hp.2
  simp [this] at h
theorem scHas : FnScope ["row", "want"] ["row", "want"] (defScope sHas) := ⟨rfl, rfl, rfl, by decide +kernel, rfl, by decide +kernel, by decide +kernel⟩
theorem ok_has {f : Addr} {fd : FuncData} (F : Fun K "has" "has" sHas f fd) : FnOk P w K mg base CX0 1 f fd ["row", "want"] (spHas K) := by
  refine fun_pure F scHas (fun x vs H ⟨_, _, e, _⟩ => by rw [e]; rfl) fun cdv A outer s H vs E x hr ⟨v1, v2, e, h1, h2⟩ hp => ?_
  subst e
  refine ⟨_, pss_one (ps_ret (pe_cmpR op_eq (pe_ix ix_tup (pv 0) (pe_ix ix_tup (pv 1) pe_int (fun _ _ => rfl)) (fun _ _ => rfl)) (pe_ix ix_tup (pv 1) pe_int (fun _ _ => rfl)) (nomark _))), fun Q k => ?_⟩
  have hlt : x.2.1.toNat < x.1.items.length := by omega
  have hx : x.1.items[x.2.1.toNat]? = some (x.1.items.getD x.2.1.toNat 0) := by
    rw [List.getElem?_eq_getElem hlt, List.getD_eq_getElem?_getD, List.getElem?_eq_getElem hlt]; rfl
  exact s_ret (EvD.cast (evd_eqI (evd_ixT (t := x.1) (evd_var (i := 0) rfl h1) (evd_fst (p := x.2) (evd_var (i := 1) rfl h2)) (by omega) hx) (evd_snd (p := x.2) (evd_var (i := 1) rfl h2))) rfl) k
theorem scIsKept : FnScope ["rule", "row"] ["rule", "row"] (defScope sIsKept) := ⟨rfl, rfl, rfl, by decide +kernel, rfl, by decide +kernel, by decide +kernel⟩
theorem ok_isKept {f : Addr} {fd : FuncData} (F : Fun K "is_kept" "is_kept" sIsKept f fd) (G : Callee P w K mg base 1 "has" ["row", "want"] (spHas K)) : FnOk P w K mg base CX0 2 f fd ["rule", "row"] (spIsKept K) := by
  refine fun_pure F scIsKept (fun x vs H ⟨_, _, e, _⟩ => by rw [e]; rfl) fun cdv A outer s H vs E x hr ⟨v1, v2, e, h1, h2⟩ hp => ?_
  subst e
  refine ⟨_, pss_one (ps_ret (pe_or (pe_cal G hr (by rfl) (pa_cons (pv 1) (pa_cons (pe_ix ix_tup (pv 0) pe_int (fun _ _ => rfl)) pa_nil))) (pe_one (pe_cal G hr (by rfl) (pa_cons (pv 1) (pa_cons (pe_ix ix_tup (pv 0) pe_int (fun _ _ => rfl)) pa_nil)))))), fun Q k => ?_⟩
  exact s_ret (EvD.cast (evd_or (evd_call (x := (x.2, x.1.1)) (eva2 (evd_var (i := 1) rfl h2) (evd_fst (p := x.1) (evd_var (i := 0) rfl h1))) hp.1) fun _ => evd_call (x := (x.2, x.1.2)) (eva2 (evd_var (i := 1) rfl h2) (evd_snd (p := x.1) (evd_var (i := 0) rfl h1))) hp.2) rfl) k
theorem scAreKept : FnScope ["told", "row", "rule"] ["told", "row"] (defScope sAreKept) := ⟨rfl, rfl, rfl, by decide +kernel, rfl, by decide +kernel, by decide +kernel⟩
theorem ok_areKept {f : Addr} {fd : FuncData} (F : Fun K "are_kept" "are_kept" sAreKept f fd) (T : Txt K mg C) (G : Callee P w K mg base 2 "is_kept" ["rule", "row"] (spIsKept K)) : FnOk P w K mg base CX0 3 f fd ["told", "row"] (spAreKept K) := by
  refine fun_pure F scAreKept (fun x vs H ⟨_, _, e, _⟩ => by rw [e]; rfl) fun cdv A outer s H vs E x hr ⟨v1, v2, e, h1, h2⟩ hp => ?_
  subst e
  refine ⟨_, pss_one (ps_ret (pe_callB (cr_all rfl) (by rfl) T.all (by decide +kernel) (pa_cons (pe_lc (own := [("rule", 2)]) (g := gName 2) (tt := tYes) rfl scAreKept.nd (pi_tup (pv 0))
          (blkOk_by (N := ["told", "row", "rule"]) (sc := defScope sAreKept) (by decide +kernel)) (fun _ _ _ _ _ => pg_name (i := 2) scAreKept.nd rfl (Or.inl rfl)) (fun _ _ _ _ _ => pts_nil)
          (fun _ _ _ _ _ => pe_cal G hr (by rfl) (pa_cons (pv 2) (pa_cons (pv 1) pa_nil)))) pa_nil))), fun Q k => ?_⟩
  refine s_ret (evd_all (EvL.d (evl_map (f := fun u => keptR u x.2.items) (evi_tup (evd_var (i := 0) rfl h1)) (Nat.le_trans hp.1 (by decide)) tg1 fun u σ2 H1 e1 hm ⟨v, hs, hv⟩ => ?_))) k
  subst hs
  exact ⟨rfl, evd_call (x := (u, x.2)) (eva2 (evd_var (i := 2) rfl hv) (evd_var (i := 1) rfl (Rep.up e1 h2))) (hp.2 u hm)⟩
theorem scAllRows : FnScope ["many", "found", "place", "row", "value"] ["many"] (defScope sAllRows) := ⟨rfl, rfl, rfl, by decide +kernel, rfl, by decide +kernel, by decide +kernel⟩
theorem ok_allRows {f : Addr} {fd : FuncData} (F : Fun K "all_rows" "all_rows" sAllRows f fd) (T : Txt K mg C) : FnOk P w K mg base CX0 1 f fd ["many"] (spAllRows K) := by
  refine fun_pureL F scAllRows (fun x vs H ⟨_, e, _⟩ => by rw [e]; rfl) fun cdv A outer s H vs E x hr ⟨v1, e, h1⟩ hp => ?_
  subst e
  refine ⟨_, pss_cons (ps_set (i := 1) scAllRows.nd rfl (Or.inl rfl) (pe_lst (pa_cons (pe_tup pa_nil) pa_nil)))
    (pss_cons (ps_for PassesOwn.never rfl (pi_range1 (by rfl) T.range (pa_cons (pv 0) pa_nil)) (pg_name (i := 2) scAllRows.nd rfl (Or.inl rfl))
      (pss_one (ps_setLc2 (te := tTup (StX.tStar K (tVar 3) (tCons (tVar 4) tNil))) (wi1 := iTup K (tTup (tCons (tC (.int 0)) (tCons (tC (.int 1)) tNil)))) (i := 1) (own := [("row", 3), ("value", 4)]) (vs1 := [4]) (g := gName 3) (g1 := gName 4) (tt := tYes) (tt1 := tYes) rfl scAllRows.nd rfl rfl (by rfl) (pi_list (pv 1))
        (blkOk_by (N := ["many", "found", "place", "row", "value"]) (sc := defScope sAllRows) (by decide +kernel)) (by decide) (fun _ _ _ _ _ => pg_name (i := 3) scAllRows.nd rfl (Or.inl rfl)) (fun _ _ _ _ _ => pts_nil)
        (fun _ _ _ _ _ => pi_tup (pe_tup (pa_cons pe_int (pa_cons pe_int pa_nil)))) (fun _ _ _ _ _ => pg_name (i := 4) scAllRows.nd rfl (Or.inl rfl)) (fun _ _ _ _ _ => pts_nil)
        (fun _ _ _ _ _ => pe_tup (StX.pa_star (pv 3) (pa_cons (pv 4) pa_nil)))))) 
    (pss_one (ps_ret (pv 1)))), fun Q k => ?_⟩
  refine q_asgL (K := K) (evl_one (evd_tnil (α := Int))) fun p0 ws0 H1 hn0 e1 hp0 hw0 => ?_
  refine q_forR (K := K) (n := x) (evd_var (i := 0) rfl (Rep.up e1 h1)) (by omega) (by omega)
    (fun i σ' H' => Same H H' ∧ ∃ p ws u, σ' = [some v1, some (V.ref p), u, none, none] ∧ H p = none ∧ H' p = some (.lst ws) ∧ Hds K H' ws (rowsN i))
    (fun H2 e2 => ⟨e1.trans e2, p0, ws0, none, rfl, hn0, e2 _ _ hp0, hw0.up e2⟩) ?_ ?_
  · rintro i σ' H' hi ⟨e2, p, ws, u, rfl, hn, hp', hw⟩
    have hi8 : i ≤ 7 := by omega
    have hlen : (rowsN i).length ≤ 1000 := by
      rw [rowsN_count]
      exact Nat.le_trans (Nat.pow_le_pow_right (by decide) hi8) (by decide)
    refine s_asgL (evl_map2 (f := fun (r : Row) (v : Int) => (Tup.mk (r.items ++ [v]) : Row)) (ys := [(0 : Int), 1]) (evi_list (evd_var (i := 1) rfl (hd_list (SqL.of hp') hw))) hlen (by decide) tg1
      fun r σ2 H3 e3 hm ⟨v, hs, hv⟩ => ?_) fun p2 ws2 H4 hn4 e4 hp4 hw4 => ⟨e2.trans e4, p2, ws2, _, rfl, e2.free hn4, hp4, hw4⟩
    subst hs
    refine ⟨rfl, evit_tup (evd_two (evd_pair (a := (0 : Int)) (b := (1 : Int)) evd_int evd_int)), _, tg1, fun y σ3 H5 k5 hy ⟨u3, hs3, hu3⟩ => ?_⟩
    subst hs3
    refine ⟨rfl, evd_snoc (evd_var (i := 3) rfl (Hd.keep k5 hv)) (evd_var (i := 4) rfl hu3) ?_⟩
    have := rowsN_len i r hm
    omega
  · rintro σ' H' ⟨e2, p, ws, u, rfl, hn, hp', hw⟩
    exact ⟨_, rfl, k p ws H' hn e2 hp' hw⟩
theorem scKeptRows : FnScope ["rules", "row"] ["rules"] (defScope sKeptRows) := ⟨rfl, rfl, rfl, by decide +kernel, rfl, by decide +kernel, by decide +kernel⟩
theorem ok_keptRows {f : Addr} {fd : FuncData} (F : Fun K "kept_rows" "kept_rows" sKeptRows f fd) (T : Txt K mg C) (Ga : Callee P w K mg base 1 "all_rows" ["many"] (spAllRows K)) (Gk : Callee P w K mg base 3 "are_kept" ["told", "row"] (spAreKept K)) : FnOk P w K mg base CX0 4 f fd ["rules"] (spKeptRows K C) := by
  refine fun_pureL F scKeptRows (fun x vs H ⟨_, e, _⟩ => by rw [e]; rfl) fun cdv A outer s H vs E x hr ⟨v1, e, h1⟩ hp => ?_
  subst e
  refine ⟨_, pss_one (ps_ret (pe_lc (tt := tB (tCall (spAreKept K) [] E0 (tCons (tFld K (tVar 0) "told") (tCons (tVar 1) tNil)))) (own := [("row", 1)]) (g := gName 1) rfl scKeptRows.nd (pi_list (pe_cal Ga (hr.mono (by decide)) (by rfl) (pa_cons (pe_fld (pv 0) rfl) pa_nil)))
          (blkOk_by (N := ["rules", "row"]) (sc := defScope sKeptRows) (by decide +kernel)) (fun _ _ _ _ _ => pg_name (i := 1) scKeptRows.nd rfl (Or.inl rfl))
          (fun _ _ _ _ _ => pts_one (pt_val (pe_cal Gk hr (by rfl) (pa_cons (pe_fld (pv 0) rfl) (pa_cons (pv 1) pa_nil))))) (fun _ _ _ _ _ => pv 1))), fun Q k => ?_⟩
  have hb := hp.hi
  have ha := hp.lo
  refine s_retL (EvL.cast (evl_filter (p := fun r : Row => keptAll x.told r.items) (evi_list (EvL.d (evl_call (x := x.n) (eva1 (evd_wide T (evd_var (i := 0) rfl h1))) ⟨ha, hb⟩))) (Nat.le_trans (rowsN_le hp) (by decide)) tg1 fun r σ2 H1 e1 hm ⟨v, hs, hv⟩ => ?_) rfl) k
  subst hs
  refine ⟨rfl, evb_val (evd_call (x := (Tup.mk x.told, r)) (eva2 (evd_told T (evd_var (i := 0) rfl (Rep.up e1 h1))) (evd_var (i := 1) rfl hv)) ⟨hp.few, fun u hu => ?_⟩), evd_var (i := 1) rfl hv⟩
  have := hp.inR u hu
  rw [← rowsN_len _ r hm] at this
  exact this
theorem scCountRows : FnScope ["rules"] ["rules"] (defScope sCountRows) := ⟨rfl, rfl, rfl, by decide +kernel, rfl, by decide +kernel, by decide +kernel⟩
theorem ok_countRows {f : Addr} {fd : FuncData} (F : Fun K "count_rows" "count_rows" sCountRows f fd) (T : Txt K mg C) (Gn : Callee P w K mg base 1 "need_rules" ["rules"] (spNeedRules K C)) (Gk : Callee P w K mg base 4 "kept_rows" ["rules"] (spKeptRows K C)) : FnOk P w K mg base CX0 5 f fd ["rules"] (spCountRows K C) := by
  refine fun_pure F scCountRows (fun x vs H ⟨_, e, _⟩ => by rw [e]; rfl) fun cdv A outer s H vs E x hr ⟨v1, e, h1⟩ hp => ?_
  subst e
  refine ⟨_, pss_cons (ps_expr (pe_cal Gn (hr.mono (by decide)) (by rfl) (pa_cons (pv 0) pa_nil))) (pss_one (ps_ret (pe_callB call_len_seq (by rfl) T.len PySem.boot_len (pa_cons (pe_cal Gk hr (by rfl) (pa_cons (pv 0) pa_nil)) pa_nil)))), fun Q k => ?_⟩
  refine q_drop (K := K) (evd_call (x := x) (eva1 (evd_var (i := 0) rfl h1)) trivial) fun H1 e1 => ?_
  exact s_ret (evd_lenL (EvL.d (evl_call (x := x) (eva1 (evd_var (i := 0) rfl (Rep.up e1 h1))) hp))) fun v H2 e2 hv => k v H2 (e1.trans e2) hv
theorem scBrokenOf : FnScope ["rules", "row", "rule"] ["rules", "row"] (defScope sBrokenOf) := ⟨rfl, rfl, rfl, by decide +kernel, rfl, by decide +kernel, by decide +kernel⟩
theorem ok_brokenOf {f : Addr} {fd : FuncData} (F : Fun K "broken_of" "broken_of" sBrokenOf f fd) (T : Txt K mg C) (G : Callee P w K mg base 2 "is_kept" ["rule", "row"] (spIsKept K)) : FnOk P w K mg base CX0 3 f fd ["rules", "row"] (spBrokenOf K C) := by
  refine fun_pureL F scBrokenOf (fun x vs H ⟨_, _, e, _⟩ => by rw [e]; rfl) fun cdv A outer s H vs E x hr ⟨v1, v2, e, h1, h2⟩ hp => ?_
  subst e
  refine ⟨_, pss_one (ps_ret (pe_lc (own := [("rule", 2)]) (g := gName 2) rfl scBrokenOf.nd (pi_tup (pe_fld (pv 0) rfl))
          (blkOk_by (N := ["rules", "row", "rule"]) (sc := defScope sBrokenOf) (by decide +kernel)) (fun _ _ _ _ _ => pg_name (i := 2) scBrokenOf.nd rfl (Or.inl rfl))
          (fun _ _ _ _ _ => pts_one (pt_not (pt_val (pe_cal G hr (by rfl) (pa_cons (pv 2) (pa_cons (pv 1) pa_nil)))))) (fun _ _ _ _ _ => pv 2))), fun Q k => ?_⟩
  refine s_retL (EvL.cast (evl_filter (p := fun u => !keptR u x.2.items) (evi_tup (evd_told T (evd_var (i := 0) rfl h1))) (Nat.le_trans hp.1.few (by decide)) tg1 fun u σ2 H1 e1 hm ⟨v, hs, hv⟩ => ?_) rfl) k
  subst hs
  refine ⟨rfl, evb_not (evb_val (evd_call (x := (u, x.2)) (eva2 (evd_var (i := 2) rfl hv) (evd_var (i := 1) rfl (Rep.up e1 h2))) ?_)), evd_var (i := 2) rfl hv⟩
  have := hp.1.inR u hm
  rw [← hp.2] at this
  exact this
theorem scBrokenBy : FnScope ["rules", "row"] ["rules", "row"] (defScope sBrokenBy) := ⟨rfl, rfl, rfl, by decide +kernel, rfl, by decide +kernel, by decide +kernel⟩
theorem ok_brokenBy {f : Addr} {fd : FuncData} (F : Fun K "broken_by" "broken_by" sBrokenBy f fd) (T : Txt K mg C) (Gn : Callee P w K mg base 1 "need_rules" ["rules"] (spNeedRules K C)) (Gr : Callee P w K mg base 3 "need_row" ["rules", "row"] (spNeedRow K C)) (Gb : Callee P w K mg base 3 "broken_of" ["rules", "row"] (spBrokenOf K C)) :
    FnOk P w K mg base CX0 4 f fd ["rules", "row"] (spBrokenBy K C) := by
  refine fun_pureL F scBrokenBy (fun x vs H ⟨_, _, e, _⟩ => by rw [e]; rfl) fun cdv A outer s H vs E x hr ⟨v1, v2, e, h1, h2⟩ hp => ?_
  subst e
  refine ⟨_, pss_cons (ps_expr (pe_cal Gn (hr.mono (by decide)) (by rfl) (pa_cons (pv 0) pa_nil))) (pss_cons (ps_expr (pe_cal Gr hr (by rfl) (pa_cons (pv 0) (pa_cons (pv 1) pa_nil)))) (pss_one (ps_ret (pe_cal Gb hr (by rfl) (pa_cons (pv 0) (pa_cons (pv 1) pa_nil)))))), fun Q k => ?_⟩
  have hl : x.2.items.length ≤ 1000 := by
    have := hp.1.hi
    rw [hp.2.1]
    omega
  refine q_drop (K := K) (evd_call (x := x.1) (eva1 (evd_var (i := 0) rfl h1)) trivial) fun H1 e1 => ?_
  refine q_drop (K := K) (evd_call (x := x) (eva2 (evd_var (i := 0) rfl (Rep.up e1 h1)) (evd_var (i := 1) rfl (Rep.up e1 h2))) ⟨hl, hp.2.2⟩) fun H2 e2 => ?_
  have e12 := e1.trans e2
  exact s_retL (evl_call (x := x) (eva2 (evd_var (i := 0) rfl (Rep.up e12 h1)) (evd_var (i := 1) rfl (Rep.up e12 h2))) ⟨hp.1, hp.2.1⟩) fun p ws H3 hn e3 hpp hw => k p ws H3 (e12.free hn) (e12.trans e3) hpp hw
end
end K76
set_option Elab.async false
set_option linter.all false
set_option maxRecDepth 100000
/-! K76, part 5c: the fewest -/
namespace K76
open PySem PySem.Spec PyProof.Rows L2
open PySem.W (Tup Datum DatumOrd)
section
variable {α : Type} [DecidableEq α] [DatumOrd α]
theorem minOf_mem (x : α) (xs : List α) : PySem.W.minOf x xs ∈ x :: xs := by
  unfold PySem.W.minOf
  induction xs generalizing x with
  | nil => exact List.mem_singleton.mpr rfl
  | cons y ys ih =>
    rw [List.foldl_cons]
    have h := ih (if DatumOrd.lt y x = true then y else x)
    rcases List.mem_cons.mp h with h | h
    · rw [h]
      by_cases c : DatumOrd.lt y x = true
      · rw [if_pos c]; simp
      · rw [if_neg c]; simp
    · simp [h]
theorem minH_mem (d : α) {l : List α} (h : l ≠ []) : minH d l ∈ l := by
  cases l with
  | nil => exact absurd rfl h
  | cons x xs => exact minOf_mem x xs
end
theorem rowsN_ne (n : Nat) : rowsN n ≠ [] := by
  intro h
  have := rowsN_count n
  rw [h] at this
  have : 0 < 2 ^ n := Nat.two_pow_pos n
  simp_all
theorem counted_ne (n : Nat) (told : List Rule) : counted n told ≠ [] := by
  unfold counted
  intro h
  exact rowsN_ne n (List.map_eq_nil_iff.mp h)
theorem fewest_ne (n : Nat) (told : List Rule) : fewestL n told ≠ [] := by
  unfold fewestL
  intro h
  have h2 := List.map_eq_nil_iff.mp h
  have hm := minH_mem ((0 : Int), (Tup.mk [] : Row)) (counted_ne n told)
  have := List.filter_eq_nil_iff.mp h2 _ hm
  exact this (decide_eq_true rfl)
theorem fewest_sub {n : Nat} {told : List Rule} {r : Row} (h : r ∈ fewestL n told) : r ∈ rowsN n := by
  unfold fewestL counted at h
  obtain ⟨p, hp, rfl⟩ := List.mem_map.mp h
  obtain ⟨q, hq, rfl⟩ := List.mem_map.mp (List.mem_filter.mp hp).1
  exact hq
theorem fewest_len {n : Int} {told : List Rule} (g : Good n told) : (fewestL n.toNat told).length ≤ 256 := by
  unfold fewestL
  rw [List.length_map]
  refine Nat.le_trans (List.length_filter_le _ _) ?_
  unfold counted
  rw [List.length_map]
  exact rowsN_le g
def outOf (n : Nat) (told : List Rule) : Tup Rule := minH (Tup.mk []) ((fewestL n told).map fun r => Tup.mk (brk told r))
abbrev spFewestBroken (K : PySem.W.Frag) (C : Addr) : Sp := PureP K (fun (x : RObj C) => A1 K x) (fun x => Good x.n x.told) fun x => (leastN x.n.toNat x.told, (fewestL x.n.toNat x.told).getD 0 (Tup.mk []))
abbrev spAllFewest (K : PySem.W.Frag) (C : Addr) : Sp := PureP K (fun (x : RObj C) => A1 K x) (fun x => Good x.n x.told) fun x => fewestL x.n.toNat x.told
abbrev spLeast (K : PySem.W.Frag) (C : Addr) : Sp := PureP K (fun (x : RObj C) => A1 K x) (fun x => Good x.n x.told) fun x => outOf x.n.toNat x.told
section
variable {P : Program} {w : World} {K : PySem.W.Frag} {mg : Str → Option Value} {base : Heap} {C : Addr}
theorem scFewestRows : FnScope ["rules", "told", "least", "row", "many"] ["rules"] (defScope sFewestRows) := ⟨rfl, rfl, rfl, by decide +kernel, rfl, by decide +kernel, by decide +kernel⟩
theorem ok_fewestRows {f : Addr} {fd : FuncData} (F : Fun K "fewest_rows" "fewest_rows" sFewestRows f fd) (T : Txt K mg C) (Ga : Callee P w K mg base 1 "all_rows" ["many"] (spAllRows K)) (Gb : Callee P w K mg base 3 "broken_of" ["rules", "row"] (spBrokenOf K C)) : FnOk P w K mg base CX0 4 f fd ["rules"] (spFewestRows K C) := by
  refine fun_pure F scFewestRows (fun x vs H ⟨_, e, _⟩ => by rw [e]; rfl) fun cdv A outer s H vs E x hr ⟨v1, e, h1⟩ hp => ?_
  subst e
  refine ⟨_, pss_cons (ps_setLc (i := 1) (own := [("row", 3)]) (g := gName 3) (tt := tYes) (te := tTup (tCons (tCB (rLen K) (tCons (tCall (spBrokenOf K C) [] E0 (tCons (tVar 0) (tCons (tVar 3) tNil))) tNil)) (tCons (tVar 3) tNil))) rfl scFewestRows.nd rfl rfl (sw_true rfl rfl rfl (by decide +kernel))
      (pi_list (pe_cal Ga (hr.mono (by decide)) (by rfl) (pa_cons (pe_fld (pv 0) rfl) pa_nil))) (blkOk_by (N := ["rules", "told", "least", "row", "many"]) (sc := defScope sFewestRows) (by decide +kernel)) (fun _ _ _ _ _ => pg_name (i := 3) scFewestRows.nd rfl (Or.inl rfl)) (fun _ _ _ _ _ => pts_nil)
      (fun _ _ _ _ _ => pe_tup (pa_cons (pe_callB call_len_seq (by rfl) T.len PySem.boot_len (pa_cons (pe_cal Gb hr (by rfl) (pa_cons (pv 0) (pa_cons (pv 3) pa_nil))) pa_nil)) (pa_cons (pv 3) pa_nil))))
    (pss_cons (ps_set (i := 2) scFewestRows.nd rfl (Or.inr rfl) (pe_ix ix_tup (pe_callB (cr_minT (α := Int × Row) rfl hr.units (by decide)) (by rfl) T.min (by decide +kernel) (pa_cons (pv 1) pa_nil)) pe_int (fun _ _ => rfl)))
    (pss_one (ps_ret (pe_tup (pa_cons (pv 2) (pa_cons (pe_lc (own := [("many", 4), ("row", 3)]) (g := gTup K 2 (gCons (gName 4) (gCons (gName 3) gNil))) rfl scFewestRows.nd (pi_list (pv 1)) (blkOk_by (N := ["rules", "told", "least", "row", "many"]) (sc := defScope sFewestRows) (by decide +kernel))
      (fun _ _ _ _ _ => pg_tup rfl (pgs_cons (pg_name (i := 4) scFewestRows.nd rfl (Or.inl rfl)) (pgs_cons (pg_name (i := 3) scFewestRows.nd rfl (Or.inl rfl)) pgs_nil)))
      (fun _ _ _ _ _ => pts_one (pt_cmpR op_eq (pv 4) (pv 2) (nomark _))) (fun _ _ _ _ _ => pv 3)) pa_nil)))))), fun Q k => ?_⟩
  have hb := hp.hi
  have ha := hp.lo
  refine q_asgL (K := K) (evl_map (f := fun r : Row => (((brk x.told r).length : Int), r)) (evi_list (EvL.d (evl_call (x := x.n) (eva1 (evd_wide T (evd_var (i := 0) rfl h1))) ⟨ha, hb⟩))) (Nat.le_trans (rowsN_le hp) (by decide)) tg1 fun r σ2 H1 e1 hm ⟨v, hs, hv⟩ => ?_) fun p0 ws0 H1 hn0 e1 hp0 hw0 => ?_
  · subst hs
    exact ⟨rfl, evd_pair (evd_lenL (EvL.d (evl_call (x := (x, r)) (eva2 (evd_var (i := 0) rfl (Rep.up e1 h1)) (evd_var (i := 3) rfl hv)) ⟨hp, rowsN_len _ r hm⟩))) (evd_var (i := 3) rfl hv)⟩
  have hc : Hds K H1 ws0 (counted x.n.toNat x.told) := hw0
  obtain ⟨y, ys, hy⟩ : ∃ y ys, counted x.n.toNat x.told = y :: ys := by
    cases h : counted x.n.toNat x.told with
    | nil => exact absurd h (counted_ne _ _)
    | cons y ys => exact ⟨y, ys, rfl⟩
  have hmin : (PySem.W.minOf y ys).1 = leastN x.n.toNat x.told := by
    unfold leastN
    rw [hy]; rfl
  have hl1 : Hd K H1 (.ref p0) (counted x.n.toNat x.told) := hd_list (SqL.of hp0) hc
  refine q_asg (K := K) (EvD.cast (evd_fst (evd_min (γ := Int × Row) (x := y) (xs := ys) (EvD.cast (evd_var (i := 1) rfl hl1) hy))) hmin) fun v2 H2 e2 hv2 => ?_
  refine s_ret (evd_pair (evd_var (i := 2) rfl hv2) (EvL.d (evl_lc (p := fun q : Int × Row => decide (q.1 = leastN x.n.toNat x.told)) (f := Prod.snd) (evi_list (evd_var (i := 1) rfl (hl1.up e2))) (by
    unfold counted
    rw [List.length_map]
    exact Nat.le_trans (rowsN_le hp) (by decide)) tg2 fun q σ2 H3 e3 hm ⟨va, vb, hs, hva, hvb⟩ => ?_))) fun v H3 e3 hv => k v H3 ((e1.trans e2).trans e3) hv
  subst hs
  exact ⟨rfl, evb_test (evd_eqI (evd_var (i := 4) rfl hva) (evd_var (i := 2) rfl (Rep.up e3 hv2))), fun _ => evd_var (i := 3) rfl hvb⟩
theorem scFewestBroken : FnScope ["rules", "many", "rows"] ["rules"] (defScope sFewestBroken) := ⟨rfl, rfl, rfl, by decide +kernel, rfl, by decide +kernel, by decide +kernel⟩
theorem ok_fewestBroken {f : Addr} {fd : FuncData} (F : Fun K "fewest_broken" "fewest_broken" sFewestBroken f fd) (T : Txt K mg C) (Gn : Callee P w K mg base 1 "need_rules" ["rules"] (spNeedRules K C)) (Gf : Callee P w K mg base 4 "fewest_rows" ["rules"] (spFewestRows K C)) : FnOk P w K mg base CX0 5 f fd ["rules"] (spFewestBroken K C) := by
  refine fun_pure F scFewestBroken (fun x vs H ⟨_, e, _⟩ => by rw [e]; rfl) fun cdv A outer s H vs E x hr ⟨v1, e, h1⟩ hp => ?_
  subst e
  refine ⟨_, pss_cons (ps_expr (pe_cal Gn (hr.mono (by decide)) (by rfl) (pa_cons (pv 0) pa_nil))) (pss_cons (ps_asg (pe_cal Gf hr (by rfl) (pa_cons (pv 0) pa_nil)) (pg_tup rfl (pgs_cons (pg_name (i := 1) scFewestBroken.nd rfl (Or.inl rfl)) (pgs_cons (pg_name (i := 2) scFewestBroken.nd rfl (Or.inl rfl)) pgs_nil))))
    (pss_one (ps_ret (pe_tup (pa_cons (pv 1) (pa_cons (pe_ix ix_list (pv 2) pe_int (fun _ _ => rfl)) pa_nil)))))), fun Q k => ?_⟩
  refine q_drop (K := K) (evd_call (x := x) (eva1 (evd_var (i := 0) rfl h1)) trivial) fun H1 e1 => ?_
  refine q_asg2 (K := K) (evd_call (x := x) (eva1 (evd_var (i := 0) rfl (Rep.up e1 h1))) hp) fun va vb H2 e2 hva hvb => ?_
  have h0 : (fewestL x.n.toNat x.told)[0]? = some ((fewestL x.n.toNat x.told).getD 0 (Tup.mk [])) := by
    cases h : fewestL x.n.toNat x.told with
    | nil => exact absurd h (fewest_ne _ _)
    | cons a l => rfl
  exact s_ret (evd_pair (evd_var (i := 1) rfl hva) (evd_ixL (j := 0) (evd_var (i := 2) rfl hvb) evd_int rfl h0)) fun v H3 e3 hv => k v H3 ((e1.trans e2).trans e3) hv
theorem scAllFewest : FnScope ["rules"] ["rules"] (defScope sAllFewest) := ⟨rfl, rfl, rfl, by decide +kernel, rfl, by decide +kernel, by decide +kernel⟩
theorem ok_allFewest {f : Addr} {fd : FuncData} (F : Fun K "all_fewest" "all_fewest" sAllFewest f fd) (T : Txt K mg C) (Gn : Callee P w K mg base 1 "need_rules" ["rules"] (spNeedRules K C)) (Gf : Callee P w K mg base 4 "fewest_rows" ["rules"] (spFewestRows K C)) : FnOk P w K mg base CX0 5 f fd ["rules"] (spAllFewest K C) := by
  refine fun_pure F scAllFewest (fun x vs H ⟨_, e, _⟩ => by rw [e]; rfl) fun cdv A outer s H vs E x hr ⟨v1, e, h1⟩ hp => ?_
  subst e
  refine ⟨_, pss_cons (ps_expr (pe_cal Gn (hr.mono (by decide)) (by rfl) (pa_cons (pv 0) pa_nil))) (pss_one (ps_ret (pe_ix ix_tup (pe_cal Gf hr (by rfl) (pa_cons (pv 0) pa_nil)) pe_int (fun _ _ => rfl)))), fun Q k => ?_⟩
  refine q_drop (K := K) (evd_call (x := x) (eva1 (evd_var (i := 0) rfl h1)) trivial) fun H1 e1 => ?_
  exact s_ret (evd_snd (evd_call (x := x) (eva1 (evd_var (i := 0) rfl (Rep.up e1 h1))) hp)) fun v H3 e3 hv => k v H3 (e1.trans e3) hv
theorem scLeast : FnScope ["rules", "row"] ["rules"] (defScope sLeast) := ⟨rfl, rfl, rfl, by decide +kernel, rfl, by decide +kernel, by decide +kernel⟩
theorem ok_least {f : Addr} {fd : FuncData} (F : Fun K "least_left_out" "least_left_out" sLeast f fd) (T : Txt K mg C) (Gn : Callee P w K mg base 1 "need_rules" ["rules"] (spNeedRules K C)) (Gf : Callee P w K mg base 4 "fewest_rows" ["rules"] (spFewestRows K C)) (Gb : Callee P w K mg base 3 "broken_of" ["rules", "row"] (spBrokenOf K C)) :
    FnOk P w K mg base CX0 5 f fd ["rules"] (spLeast K C) := by
  refine fun_pure F scLeast (fun x vs H ⟨_, e, _⟩ => by rw [e]; rfl) fun cdv A outer s H vs E x hr ⟨v1, e, h1⟩ hp => ?_
  subst e
  refine ⟨_, pss_cons (ps_expr (pe_cal Gn (hr.mono (by decide)) (by rfl) (pa_cons (pv 0) pa_nil))) (pss_one (ps_ret (pe_callB (cr_minT (α := Tup Rule) rfl hr.units (by decide)) (by rfl) T.min (by decide +kernel) (pa_cons
    (pe_lc (te := tCB (rTupOf K) (tCons (tCall (spBrokenOf K C) [] E0 (tCons (tVar 0) (tCons (tVar 1) tNil))) tNil)) (own := [("row", 1)]) (g := gName 1) (tt := tYes) rfl scLeast.nd (pi_list (pe_ix ix_tup (pe_cal Gf hr (by rfl) (pa_cons (pv 0) pa_nil)) pe_int (fun _ _ => rfl)))
      (blkOk_by (N := ["rules", "row"]) (sc := defScope sLeast) (by decide +kernel)) (fun _ _ _ _ _ => pg_name (i := 1) scLeast.nd rfl (Or.inl rfl)) (fun _ _ _ _ _ => pts_nil)
      (fun _ _ _ _ _ => pe_callTy call_tuple_of (by rfl) T.tup (by decide +kernel) (pa_cons (pe_cal Gb (hr.mono (by decide)) (by rfl) (pa_cons (pv 0) (pa_cons (pv 1) pa_nil))) pa_nil))) pa_nil)))), fun Q k => ?_⟩
  refine q_drop (K := K) (evd_call (x := x) (eva1 (evd_var (i := 0) rfl h1)) trivial) fun H1 e1 => ?_
  obtain ⟨y, ys, hy⟩ : ∃ y ys, (fewestL x.n.toNat x.told).map (fun r => (Tup.mk (brk x.told r) : Tup Rule)) = y :: ys := by
    cases h : (fewestL x.n.toNat x.told).map (fun r => (Tup.mk (brk x.told r) : Tup Rule)) with
    | nil => exact absurd (List.map_eq_nil_iff.mp h) (fewest_ne _ _)
    | cons y ys => exact ⟨y, ys, rfl⟩
  have hmin : PySem.W.minOf y ys = outOf x.n.toNat x.told := by
    unfold outOf
    rw [hy]; rfl
  refine s_ret (EvD.cast (evd_min (γ := Tup Rule) (x := y) (xs := ys) (EvD.cast (EvL.d (evl_map (f := fun r : Row => (Tup.mk (brk x.told r) : Tup Rule)) (evi_list (evd_snd (evd_call (x := x) (eva1 (evd_var (i := 0) rfl (Rep.up e1 h1))) hp))) (Nat.le_trans (fewest_len hp) (by decide)) tg1
    fun r σ2 H2 e2 hm ⟨v, hs, hv⟩ => ?_)) hy)) hmin) fun v H3 e3 hv => k v H3 (e1.trans e3) hv
  subst hs
  exact ⟨rfl, evd_tupOf (EvL.d (evl_call (x := (x, r)) (eva2 (evd_var (i := 0) rfl (Rep.up (e1.trans e2) h1)) (evd_var (i := 1) rfl hv)) ⟨hp, rowsN_len _ r (fewest_sub hm)⟩))⟩
end
end K76
set_option Elab.async false
set_option linter.all false
set_option maxRecDepth 100000
/-! K76, part 5d: Rules.__init__ -/
namespace K76
open PySem PySem.Spec PyProof.Rows L2
open PySem.W (Tup Datum DatumOrd)
def spInit (K : PySem.W.Frag) (C : Addr) : Sp := fun vs H Q _ => ∃ (p dx : Addr) (v t : V) (n : Int) (told : List Rule), vs = [.ref p, v, t] ∧ H p = some (.ins C dx []) ∧ Hd K H v n ∧ Hd K H t (Tup.mk told) ∧ Good n told ∧
  ∀ H', (∀ b o, b ≠ p → H b = some o → H' b = some o) → H' p = some (.ins C dx (rFields n t)) → Q .non H'
section
variable {P : Program} {w : World} {K : PySem.W.Frag} {mg : Str → Option Value} {base : Heap} {C : Addr}
theorem scInit : FnScope ["self", "many", "rules", "index", "rule"] ["self", "many", "rules"] (defScope sInit) := ⟨rfl, rfl, rfl, by decide +kernel, rfl, by decide +kernel, by decide +kernel⟩
theorem ok_init {f : Addr} {fd : FuncData} (F : Fun K "__init__" "Rules.__init__" sInit f fd) (T : Txt K mg C) (Gf : Callee P w K mg base 1 "is_from" ["value", "low", "high"] (spIsFrom K)) (Gr : Callee P w K mg base 3 "is_rule_of" ["many", "value"] (spIsRule K)) :
    FnOk P w K mg base CX0 4 f fd ["self", "many", "rules"] (spInit K C) := by
  obtain ⟨tm, hmost⟩ := T.most
  refine F.ok scInit (fun vs H Q E h => ?_) (fun cdv A outer s H vs Q E hr h => ?_)
  · obtain ⟨p, dx, v, t, n, told, rfl, _⟩ := h
    rfl
  obtain ⟨p, dx, v, t, n, told, rfl, hp, hv, ht, g, k⟩ := h
  refine ⟨_, pss_cons (ps_if (pt_not (pt_val (pe_cal Gf (hr.mono (by decide)) (by rfl) (pa_cons (pv 1) (pa_cons pe_int (pa_cons (pe_glob (v := .int 8) (by rfl) hmost ⟨_, rfl⟩) pa_nil)))))) pss_never pss_nil)
    (pss_cons (ps_if (pt_not (pt_val (pe_callB call_isi (by rfl) T.isi (by decide +kernel) (pa_cons (pv 2) (pa_cons (pe_bltn (v := .ty "tuple") (by rfl) T.tup (by decide +kernel) rfl) pa_nil))))) pss_never pss_nil)
    (pss_cons (ps_for PassesOwn.never rfl (pi_enumT (by rfl) T.enum (pa_cons (pv 2) pa_nil)) (pg_tup rfl (pgs_cons (pg_name (i := 3) scInit.nd rfl (Or.inl rfl)) (pgs_cons (pg_name (i := 4) scInit.nd rfl (Or.inl rfl)) pgs_nil)))
      (pss_one (ps_if (PW.pt (pw_or (pt_not (pt_val (pe_cal Gr hr (by rfl) (pa_cons (pv 1) (pa_cons (pv 4) pa_nil)))))
        (pw_or1 (PW.pt (pw_and (pt_cmpR op_gt (pv 3) pe_int (nomark _)) (pw_and1 (pt_cmpR (op_geT (α := Rule) hr.units (by decide)) (pe_ix ix_tup (pv 2) (pe_op op_sub (pv 3) pe_int) (fun _ _ => rfl)) (pv 4) (nomark _)))))))) pss_never pss_nil)))
    (pss_cons (ps_fld (pv 0) (pv 1) rfl) (pss_one (ps_fld (pv 0) (pv 2) rfl))))), ?_⟩
  have hfrom : fromTo n 1 8 = true := by
    unfold fromTo
    rw [decide_eq_true g.lo, decide_eq_true g.hi]; rfl
  refine q_when (evb_not (evb_val (EvD.cast (evd_call (x := (n, (1 : Int), (8 : Int))) (eva3 (evd_var (i := 1) rfl hv) evd_int evd_int) trivial) hfrom))) (fun h => nomatch h) fun _ H1 e1 => ?_
  refine q_when (evb_not (evb_val (evd_isi (n := "tuple") (b := true) (x := (Tup.mk told : Tup Rule)) (evd_var (i := 2) rfl (ht.up e1)) rfl (by decide +kernel)))) (fun h => nomatch h) fun _ H2 e2 => ?_
  have e12 := e1.trans e2
  obtain ⟨at_, ws, rfl, hsq, hws⟩ := (ht.up e12).tup
  have hlen : ws.length = told.length := hws.len
  refine ⟨_, rfl, at_, ws, rfl, hsq, for_it (walk_enumT hsq) (fun i σ H' => Same H2 H' ∧ ∃ u1 u2, σ = [some (V.ref p), some v, some (V.ref at_), u1, u2]) ⟨Same.refl _, none, none, rfl⟩ (fun i σ H' _ h => KeepT.of h.1) ?_ ?_⟩
  · rintro i x σ H3 H4 hi ⟨e3, u1, u2, rfl⟩ ⟨Tu, x1, y1, rfl, hTn, rfl, hx1, hy1⟩
    cases hx1
    obtain ⟨u, hu, hud⟩ := hws.get hy1
    have e4 : Same H3 (upd H3 Tu (.tup [.int (i : Nat), y1])) := fun b o hb => by rw [upd_ne (ne_of_none hb hTn)]; exact hb
    have e34 := e3.trans e4
    have h1' := (hv.up e12).up e34
    have hu' := hud.up e34
    have ht' := ((ht.up e12).up e34)
    have hmem : u ∈ told := List.mem_of_getElem? hu
    refine ⟨Tu, [.int (i : Nat), y1], rfl, SqT.of upd_same, rfl, _, _, rfl, y1, [], rfl, rfl, ?_⟩
    have hok : okR n u = true := g.ok u hmem
    refine s_when (EvB.cast (b' := false) (evb_or (evb_not (evb_val (evd_call (x := (n, u)) (eva2 (evd_var (i := 1) rfl h1') (evd_var (i := 4) rfl hu')) trivial))) fun _ =>
      evb_and (a := decide ((0 : Int) < (i : Nat))) (b := false) (evb_test (K := K) (evd_IB (g := fun i j => decide (j < i)) (evd_var (i := 3) rfl (hd_int _)) evd_int)) fun hpos => ?_) ?_) (fun h => nomatch h) fun _ H5 e5 => ⟨e34.trans e5, _, _, rfl⟩
    · have hpos' : 0 < i := by
        have := of_decide_eq_true hpos
        omega
      have hlt : i - 1 < told.length := by
        have := (List.getElem?_eq_some_iff.mp hu).1
        omega
      have hprev : told[i - 1]? = some told[i - 1] := List.getElem?_eq_getElem hlt
      have hlt2 : DatumOrd.lt told[i - 1] u = true := by
        obtain ⟨hi2, hu2⟩ := List.getElem?_eq_some_iff.mp hu
        have := List.pairwise_iff_getElem.mp g.asc (i - 1) i hlt hi2 (by omega)
        rw [hu2] at this
        exact this
      refine evb_test (EvD.cast (evd_geT (γ := Rule) (evd_ixT (t := Tup.mk told) (j := i - 1) (evd_var (i := 2) rfl ht') (evd_I (g := fun i j => i - j) (evd_var (i := 3) rfl (hd_int _)) evd_int) (by omega) hprev) (evd_var (i := 4) rfl hu')) ?_)
      rw [hlt2]; rfl
    · show (!okR n u || (decide ((0 : Int) < (i : Nat)) && false)) = false
      rw [hok, Bool.and_false]; rfl
  · rintro σ H3 ⟨e3, u1, u2, rfl⟩
    have e13 := e12.trans e3
    have hp3 := e13 _ _ hp
    have ev : v = .int n := hv.int
    refine ⟨v, rfl, .ref p, rfl, p, C, dx, [], rfl, hp3, T.cl, T.nW, by decide, _, rfl, .ref p, rfl, p, C, dx, _, rfl, upd_same, T.cl, T.nT, (by show 1 < 1000; decide), ?_⟩
    refine k _ (fun b o hb ho => ?_) ?_
    · rw [upd_ne hb, upd_ne hb]
      exact e13 _ _ ho
    · rw [upd_same, ev]
      rfl
end
end K76
set_option Elab.async false
set_option linter.all false
set_option maxRecDepth 100000
/-! K76, part 6a: the law's lists of rules and rows -/
namespace K76
open PySem PySem.Spec PyProof.Rows L2
open PySem.W (Tup Datum DatumOrd)

/-! ### order -/
class Tri (α : Type) [DecidableEq α] [DatumOrd α] : Prop where
  tri : ∀ a b : α, DatumOrd.lt a b = false → DatumOrd.lt b a = false → a = b
instance : Tri Int := ⟨fun a b h1 h2 => by
  have h1' : decide (a < b) = false := h1
  have h2' : decide (b < a) = false := h2
  simp only [decide_eq_false_iff_not] at h1' h2'
  omega⟩
section
variable {α β : Type} [DecidableEq α] [DatumOrd α] [Tri α] [DecidableEq β] [DatumOrd β] [Tri β]
instance : Tri (α × β) := ⟨fun a b h1 h2 => by
  have h1' : (if a.1 = b.1 then DatumOrd.lt a.2 b.2 else DatumOrd.lt a.1 b.1) = false := h1
  have h2' : (if b.1 = a.1 then DatumOrd.lt b.2 a.2 else DatumOrd.lt b.1 a.1) = false := h2
  by_cases e : a.1 = b.1
  · rw [if_pos e] at h1'
    rw [if_pos e.symm] at h2'
    exact Prod.ext e (Tri.tri _ _ h1' h2')
  · rw [if_neg e] at h1'
    rw [if_neg (Ne.symm e)] at h2'
    exact absurd (Tri.tri _ _ h1' h2') e⟩
theorem tri_list : ∀ a b : List α, PySem.W.listLt a b = false → PySem.W.listLt b a = false → a = b
  | [], [], _, _ => rfl
  | [], _ :: _, h, _ => by simp [PySem.W.listLt] at h
  | _ :: _, [], _, h => by simp [PySem.W.listLt] at h
  | x :: xs, y :: ys, h1, h2 => by
    rw [PySem.W.listLt] at h1 h2
    by_cases e : x = y
    · rw [if_pos e] at h1
      rw [if_pos e.symm] at h2
      rw [e, tri_list xs ys h1 h2]
    · rw [if_neg e] at h1
      rw [if_neg (Ne.symm e)] at h2
      exact absurd (Tri.tri _ _ h1 h2) e
instance : Tri (Tup α) := ⟨fun a b h1 h2 => by
  cases a
  cases b
  exact congrArg Tup.mk (tri_list _ _ h1 h2)⟩
theorem leD_total : PySem.W.TotalLe (leD : α → α → Bool) := by
  rw [← dataLe_leD]
  exact PySem.W.sortLe_total _ _ _
theorem leD_anti {a b : α} (h1 : leD a b = true) (h2 : leD b a = true) : a = b := by
  unfold leD at h1 h2
  rw [Bool.not_eq_true'] at h1 h2
  exact Tri.tri a b h2 h1
/-- a permutation in order is the sorted list -/
theorem sorted_is {a l : List α} (hp : a.Perm l) (ha : a.Pairwise fun x y => leD x y = true) : a = l.mergeSort leD :=
  PySem.W.Srt.the_of_perm leD (fun x y z => leD_total.trans x y z) (fun x y => by rw [Bool.or_eq_true]; exact leD_total.total x y) (fun x y => leD_anti) hp ha
end

/-! ### rows -/
def lawRowsN : Nat → List Row
  | 0 => [Tup.mk []]
  | n + 1 => ((lawRowsN n).map fun r => Tup.mk (r.items ++ [0])) ++ ((lawRowsN n).map fun r => Tup.mk (r.items ++ [1]))
theorem lawRows_perm : ∀ n, (rowsN n).Perm (lawRowsN n)
  | 0 => .refl _
  | n + 1 => by
    have h : ∀ l : List Row, (l.flatMap fun r => [(0 : Int), 1].map fun v => Tup.mk (r.items ++ [v])).Perm ((l.map fun r => Tup.mk (r.items ++ [0])) ++ (l.map fun r => Tup.mk (r.items ++ [1]))) := by
      intro l
      induction l with
      | nil => exact .refl _
      | cons a l ih =>
        rw [List.flatMap_cons]
        simp only [List.map_cons, List.map_nil, List.cons_append, List.nil_append]
        refine .cons _ ?_
        exact (List.Perm.cons _ ih).trans List.perm_middle.symm
    rw [rowsN, lawRowsN]
    exact (h _).trans (((lawRows_perm n).map _).append ((lawRows_perm n).map _))
theorem lawRows_len : ∀ n, ∀ r ∈ lawRowsN n, r.items.length = n := fun n r h => rowsN_len n r ((lawRows_perm n).mem_iff.mpr h)
theorem lawRows_count (n : Nat) : (lawRowsN n).length = 2 ^ n := by rw [← (lawRows_perm n).length_eq, rowsN_count]
theorem rows_sorted {n : Nat} (h1 : 1 ≤ n) (h6 : n ≤ 6) : (lawRowsN n).mergeSort leD = rowsN n := by
  refine (sorted_is (lawRows_perm n) ?_).symm
  have key : ∀ m, m < 7 → (rowsN m).Pairwise fun x y => leD x y = true := by decide +kernel
  exact key n (by omega)
theorem row_toD {n : Nat} (h1 : 1 ≤ n) {r : Row} (h : r.items.length = n) : ∃ y t, Datum.toD r = PyData.tuple (y :: t) := by
  obtain ⟨l⟩ := r
  cases l with
  | nil => simp at h; omega
  | cons a l => exact ⟨_, _, rfl⟩

/-! ### words over lists that are tracked -/
section
variable {K : PySem.W.Frag} {σ : L2.St} {H : Hp} {ta tb te : TE} {α β : Type} [DecidableEq α] [Datum α] [DecidableEq β] [Datum β]
/-- te comes to a tracked list -/
def EvTL (K : PySem.W.Frag) (te : TE) (σ : L2.St) (H : Hp) (xs : List α) : Prop := EvQ te σ H fun v H2 => ∃ p ws, v = .ref p ∧ H2 p = some (.lst ws) ∧ Hds K H2 ws xs
theorem EvL.t {xs : List α} (h : EvL K te σ H xs) : EvTL K te σ H xs := fun H1 e Q q => h H1 e Q fun p ws H2 _ e2 hp hw => q _ H2 e2 ⟨p, ws, rfl, hp, hw⟩
theorem evtl_var {i : Nat} {p : Addr} {ws : List V} {xs : List α} (h : σ[i]? = some (some (.ref p))) (hp : H p = some (.lst ws)) (hw : Hds K H ws xs) : EvTL K (tVar i) σ H xs := fun H1 e Q q => ⟨_, h, q _ H1 (Same.refl _) ⟨p, ws, rfl, e _ _ hp, hw.up e⟩⟩
theorem evl_cat {xs ys : List α} (ha : EvTL K ta σ H xs) (hb : EvTL K tb σ H ys) (hz : xs.length + ys.length ≤ 100000) : EvL K (tOp rCat ta tb) σ H (xs ++ ys) := fun H1 e Q q =>
  ha H1 e _ fun v H2 e2 ⟨p, ws, ev, hp, hw⟩ => hb H2 (e.trans e2) _ fun u H3 e3 ⟨p', us, eu, hp', hu⟩ => by
    subst ev eu
    have hl : ws.length + us.length ≤ sizeLine := by
      have h1 := hw.len
      have h2 := hu.len
      have h3 : (100000 : Nat) ≤ sizeLine := by decide
      omega
    refine ⟨p, p', ws, us, rfl, rfl, e3 _ _ hp, hp', hl, fun l hn => ?_⟩
    have e4 : Same H3 (upd H3 l (.lst (ws ++ us))) := fun b o hb => by rw [upd_ne (ne_of_none hb hn)]; exact hb
    exact q l _ _ ((e2.trans e3).free hn) ((e2.trans e3).trans e4) upd_same ((hw.up (e3.trans e4)).app (hu.up e4))
/-- xs[j:] -/
theorem evl_from {xs : List α} {i : Int} {j : Nat} (ha : EvD K ta σ H xs) (hb : EvD K tb σ H i) (hi : i = (j : Int)) (hj : j ≤ xs.length) : EvL K (tSl (rSlL K) ta (tPart tb) tNoPart) σ H (xs.drop j) := fun H1 e Q q =>
  ha H1 e _ fun v H2 e2 hv => hb H2 (e.trans e2) _ fun u H3 e3 hu => by
    obtain ⟨a, ws, rfl, s, hs⟩ := Hd.list hv
    refine ⟨i, Hd.int hu, a, ws, rfl, Same.seq e3 s, fun p hn => ?_⟩
    have hc : cutV ws (some i) none = ws.drop j := by
      have hl := hs.len
      unfold cutV
      rw [hi, HT.sIx_nat, HT.sIx_none, Nat.min_eq_left (by omega)]
      rw [List.take_of_length_le]
      rw [List.length_drop]
      omega
    rw [hc]
    have e4 : Same H3 (upd H3 p (.lst (ws.drop j))) := fun b o hb => by rw [upd_ne (ne_of_none hb hn)]; exact hb
    exact q p _ _ ((e2.trans e3).free hn) ((e2.trans e3).trans e4) upd_same ((hs.up (e3.trans e4)).drop j)
/-- xs[:j] -/
theorem evl_till {xs : List α} {i : Int} {j : Nat} (ha : EvD K ta σ H xs) (hb : EvD K tb σ H i) (hi : i = (j : Int)) : EvL K (tSl (rSlL K) ta tNoPart (tPart tb)) σ H (xs.take j) := fun H1 e Q q =>
  ha H1 e _ fun v H2 e2 hv => hb H2 (e.trans e2) _ fun u H3 e3 hu => by
    obtain ⟨a, ws, rfl, s, hs⟩ := Hd.list hv
    refine ⟨i, Hd.int hu, a, ws, rfl, Same.seq e3 s, fun p hn => ?_⟩
    have hc : cutV ws none (some i) = ws.take j := by
      unfold cutV
      rw [hi, HT.sIx_nat, HT.sIx_none, List.drop_zero, Nat.sub_zero]
      rcases Nat.le_total j ws.length with h | h
      · rw [Nat.min_eq_left h]
      · rw [Nat.min_eq_right h, List.take_length, List.take_of_length_le h]
    rw [hc]
    have e4 : Same H3 (upd H3 p (.lst (ws.take j))) := fun b o hb => by rw [upd_ne (ne_of_none hb hn)]; exact hb
    exact q p _ _ ((e2.trans e3).free hn) ((e2.trans e3).trans e4) upd_same ((hs.up (e3.trans e4)).take j)
/-- t + u of tuples -/
theorem evd_catT {t u : Tup α} (ha : EvD K ta σ H t) (hb : EvD K tb σ H u) (hz : t.items.length + u.items.length ≤ 100000) (hu : u.items ≠ []) : EvD K (tOp (rCatA K) ta tb) σ H (Tup.mk (t.items ++ u.items)) := evd_op ha hb fun v w H1 _ hv hw Q q => by
  obtain ⟨a, vs, rfl, s, hs⟩ := Hd.tup hv
  obtain ⟨b, ws, rfl, s', hs'⟩ := Hd.tup hw
  have h1 := hs.len
  have h2 := hs'.len
  have h3 : (100000 : Nat) ≤ sizeLine := by decide
  refine ⟨a, b, vs, ws, rfl, rfl, s, s', by omega, fun e => ?_, fun _ e => ?_, fun _ _ p hp => ?_⟩
  · have e' : t.items = [] := by
      rw [e] at h1
      exact List.length_eq_zero_iff.mp h1.symm
    refine q _ H1 (Same.refl _) ?_
    rw [e', List.nil_append]
    exact hw
  · rw [e] at h2
    exact absurd (List.length_eq_zero_iff.mp h2.symm) hu
  · have e4 : Same H1 (upd H1 p (.tup (vs ++ ws))) := fun b o hb => by rw [upd_ne (ne_of_none hb hp)]; exact hb
    exact q _ _ e4 (hd_tup (SqT.of upd_same) ((hs.up e4).app (hs'.up e4)))
end

abbrev spLawRows (K : PySem.W.Frag) : Sp := PureL K (fun (x : Int) => A1 K x) (fun x => 1 ≤ x ∧ x ≤ 6) fun x => rowsN x.toNat
abbrev spLawKeeps (K : PySem.W.Frag) : Sp := PureP K (fun (x : List Rule × Row) => A2 K x.1 x.2) (fun x => ∀ u ∈ x.1, inR x.2.items.length u) fun x => keptAll x.1 x.2.items
section
variable {P : Program} {w : World} {K : PySem.W.Frag} {mg : Str → Option Value} {base : Heap} {C : Addr}
theorem scLawRows : FnScope ["_law_many", "_law_found", "_law_place", "_law_row"] ["_law_many"] (defScope sLawRows) := ⟨rfl, rfl, rfl, by decide +kernel, rfl, by decide +kernel, by decide +kernel⟩
theorem ok_lawRows {f : Addr} {fd : FuncData} (F : Fun K "_law_rows" "_law_rows" sLawRows f fd) (T : Txt K mg C) : FnOk P w K mg base CX0 1 f fd ["_law_many"] (spLawRows K) := by
  refine fun_pureL F scLawRows (fun x vs H ⟨_, e, _⟩ => by rw [e]; rfl) fun cdv A outer s H vs E x hr ⟨v1, e, h1⟩ hp => ?_
  subst e
  refine ⟨_, pss_cons (ps_set (i := 1) scLawRows.nd rfl (Or.inl rfl) (pe_lst (pa_cons (pe_tup pa_nil) pa_nil)))
    (pss_cons (ps_for PassesOwn.never rfl (pi_range1 (by rfl) T.range (pa_cons (pv 0) pa_nil)) (pg_name (i := 2) scLawRows.nd rfl (Or.inl rfl))
      (pss_one (ps_set (i := 1) scLawRows.nd rfl (Or.inl rfl) (pe_op op_cat
        (pe_lc (te := tOp (rCatA K) (tVar 3) (tTup (tCons (tC (.int 0)) tNil))) (own := [("_law_row", 3)]) (g := gName 3) (tt := tYes) rfl scLawRows.nd (pi_list (pv 1)) (blkOk_by (N := ["_law_many", "_law_found", "_law_place", "_law_row"]) (sc := defScope sLawRows) (by decide +kernel))
          (fun _ _ _ _ _ => pg_name (i := 3) scLawRows.nd rfl (Or.inl rfl)) (fun _ _ _ _ _ => pts_nil) (fun _ _ _ _ _ => pe_op op_catA (pv 3) (pe_tup (pa_cons pe_int pa_nil))))
        (pe_lc (te := tOp (rCatA K) (tVar 3) (tTup (tCons (tC (.int 1)) tNil))) (own := [("_law_row", 3)]) (g := gName 3) (tt := tYes) rfl scLawRows.nd (pi_list (pv 1)) (blkOk_by (N := ["_law_many", "_law_found", "_law_place", "_law_row"]) (sc := defScope sLawRows) (by decide +kernel))
          (fun _ _ _ _ _ => pg_name (i := 3) scLawRows.nd rfl (Or.inl rfl)) (fun _ _ _ _ _ => pts_nil) (fun _ _ _ _ _ => pe_op op_catA (pv 3) (pe_tup (pa_cons pe_int pa_nil))))))))
    (pss_one (ps_ret (pe_callB (cr_sortedD (α := Row) hr.units (by decide)) (by rfl) T.sorted (by decide +kernel) (pa_cons (pv 1) pa_nil))))), fun Q k => ?_⟩
  refine q_asgL (K := K) (evl_one (evd_tnil (α := Int))) fun p0 ws0 H1 hn0 e1 hp0 hw0 => ?_
  refine q_forR (K := K) (n := x) (evd_var (i := 0) rfl (Rep.up e1 h1)) (by omega) (by omega)
    (fun i σ' H' => Same H H' ∧ ∃ p ws u, σ' = [some v1, some (V.ref p), u, none] ∧ H p = none ∧ H' p = some (.lst ws) ∧ Hds K H' ws (lawRowsN i))
    (fun H2 e2 => ⟨e1.trans e2, p0, ws0, none, rfl, hn0, e2 _ _ hp0, hw0.up e2⟩) ?_ ?_
  · rintro i σ' H' hi ⟨e2, p, ws, u, rfl, hn, hp', hw⟩
    have hi8 : i ≤ 5 := by omega
    have hlen : (lawRowsN i).length ≤ 1000 := by
      rw [lawRows_count]
      exact Nat.le_trans (Nat.pow_le_pow_right (by decide) hi8) (by decide)
    have src : ∀ σ2 : L2.St, σ2 = [some v1, some (V.ref p), some (.int (i : Int)), none] → EvD K (tVar 1) σ2 H' (lawRowsN i) := fun σ2 hσ => by
      subst hσ
      exact evd_var (i := 1) rfl (hd_list (SqL.of hp') hw)
    have turn : ∀ c : Int, EvL K (tLc (iList K (tVar 1)) (gName 3) tYes (tOp (rCatA K) (tVar 3) (tTup (tCons (tC (.int c)) tNil))) [3]) [some v1, some (V.ref p), some (.int (i : Int)), none] H' ((lawRowsN i).map fun r => (Tup.mk (r.items ++ [c]) : Row)) := fun c =>
      evl_map (f := fun r : Row => (Tup.mk (r.items ++ [c]) : Row)) (evi_list (src _ rfl)) (by omega) tg1 fun r σ2 H3 e3 hm ⟨v, hs, hv⟩ => by
        subst hs
        have hl := lawRows_len i r hm
        exact ⟨rfl, evd_catT (t := r) (u := (Tup.mk [c] : Row)) (evd_var (i := 3) rfl hv) (evd_unit evd_int) (by show r.items.length + 1 ≤ 100000; omega) (by simp)⟩
    exact s_asgL (evl_cat (EvL.t (turn 0)) (EvL.t (turn 1)) (by simp only [List.length_map]; omega)) fun p2 ws2 H4 hn4 e4 hp4 hw4 => ⟨e2.trans e4, p2, ws2, _, rfl, e2.free hn4, hp4, hw4⟩
  · rintro σ' H' ⟨e2, p, ws, u, rfl, hn, hp', hw⟩
    have h1n : 1 ≤ x.toNat := by omega
    refine s_retL (EvL.cast (evl_sorted (evd_var (i := 1) rfl (hd_list (SqL.of hp') hw)) (fun r hr' => row_toD h1n (lawRows_len _ r hr')) ?_) (rows_sorted h1n (by omega))) fun p2 ws2 H3 hn3 e3 hp3 hw3 => k p2 ws2 H3 (e2.free hn3) (e2.trans e3) hp3 hw3
    rw [lawRows_count]
    exact Nat.le_trans (Nat.pow_le_pow_right (by decide) (show x.toNat ≤ 6 by omega)) (by decide)
theorem scLawKeeps : FnScope ["_law_rules", "_law_row", "_law_one", "_law_other"] ["_law_rules", "_law_row"] (defScope sLawKeeps) := ⟨rfl, rfl, rfl, by decide +kernel, rfl, by decide +kernel, by decide +kernel⟩
theorem ok_lawKeeps {f : Addr} {fd : FuncData} (F : Fun K "_law_keeps" "_law_keeps" sLawKeeps f fd) : FnOk P w K mg base CX0 1 f fd ["_law_rules", "_law_row"] (spLawKeeps K) := by
  refine fun_pure F scLawKeeps (fun x vs H ⟨_, _, e, _⟩ => by rw [e]; rfl) fun cdv A outer s H vs E x hr ⟨v1, v2, e, h1, h2⟩ hp => ?_
  subst e
  refine ⟨_, pss_cons (ps_for PassesOwn.never rfl (pi_list (pv 0)) (pg_tup rfl (pgs_cons (pg_name (i := 2) scLawKeeps.nd rfl (Or.inl rfl)) (pgs_cons (pg_name (i := 3) scLawKeeps.nd rfl (Or.inl rfl)) pgs_nil)))
      (pss_one (ps_if (PW.pt (pw_and (pt_cmpR op_ne (pe_ix ix_tup (pv 1) (pe_ix ix_tup (pv 2) pe_int (fun _ _ => rfl)) (fun _ _ => rfl)) (pe_ix ix_tup (pv 2) pe_int (fun _ _ => rfl)) (nomark _))
        (pw_and1 (pt_cmpR op_ne (pe_ix ix_tup (pv 1) (pe_ix ix_tup (pv 3) pe_int (fun _ _ => rfl)) (fun _ _ => rfl)) (pe_ix ix_tup (pv 3) pe_int (fun _ _ => rfl)) (nomark _))))) (pss_one (ps_ret pe_bl)) pss_nil)))
    (pss_one (ps_ret pe_bl)), fun Q k => ?_⟩
  obtain ⟨a, ws, rfl, sq, hws⟩ := Hd.list h1
  have atRow : ∀ {σ2 : L2.St} {H2 : Hp} {j : Nat} {w1 : V} {wt : Want}, σ2[1]? = some (some v2) → σ2[j]? = some (some w1) → Same H H2 → Hd K H2 w1 wt → 0 ≤ wt.1 → wt.1 < (x.2.items.length : Nat) →
      EvD K (tOp rNe (tOp (rIxT K) (tVar 1) (tOp (rIxT K) (tVar j) (tC (.int 0)))) (tOp (rIxT K) (tVar j) (tC (.int 1)))) σ2 H2 (!hasW x.2.items wt) := fun {σ2 H2 j w1 wt} s1 sj e2 hw h0 hlt => by
    have hlt' : wt.1.toNat < x.2.items.length := by omega
    have hx : x.2.items[wt.1.toNat]? = some (x.2.items.getD wt.1.toNat 0) := by
      rw [List.getElem?_eq_getElem hlt', List.getD_eq_getElem?_getD, List.getElem?_eq_getElem hlt']; rfl
    refine EvD.cast (evd_neI (evd_ixT (t := x.2) (evd_var s1 (Rep.up e2 h2)) (evd_fst (p := wt) (evd_var sj hw)) (by omega) hx) (evd_snd (p := wt) (evd_var sj hw))) ?_
    unfold hasW
    exact decide_not
  refine ⟨_, rfl, a, rfl, ⟨ws, sq⟩, for_it walk_list (fun i σ' H' => Same H H' ∧ (∃ u1 u2, σ' = [some (V.ref a), some v2, u1, u2]) ∧ ∀ u ∈ x.1.take i, keptR u x.2.items = true) ⟨Same.refl _, ⟨none, none, rfl⟩, fun u hu => by simp at hu⟩ (fun i σ' H' _ h => Same.seq h.1 sq) ?_ ?_⟩
  · rintro i v σ' H1 H1' hi ⟨e1, ⟨u1, u2, rfl⟩, hk⟩ ⟨rfl, hv⟩
    obtain ⟨u, hu, hud⟩ := hws.get hv
    obtain ⟨b, w1, w2, rfl, sp, hw1, hw2⟩ := (hud.up e1).pair
    have hmem : u ∈ x.1 := List.mem_of_getElem? hu
    have hin := hp u hmem
    refine ⟨b, [w1, w2], rfl, sp, rfl, w1, [w2], rfl, w2, [], rfl, rfl, ?_⟩
    refine s_when (evb_and (evb_test (atRow (j := 2) rfl rfl e1 hw1 hin.1.1 hin.1.2)) fun _ => evb_test (atRow (j := 3) rfl rfl e1 hw2 hin.2.1 hin.2.2)) (fun hb H2 e2 => ?_) fun hb H2 e2 => ?_
    · refine s_ret (EvD.cast (x' := keptAll x.1 x.2.items) (evd_bl (b := false)) ?_) fun v H3 e3 hv => k v H3 ((e1.trans e2).trans e3) hv
      symm
      unfold keptAll
      rw [List.all_eq_false]
      refine ⟨false, List.mem_map.mpr ⟨u, hmem, ?_⟩, by simp⟩
      unfold keptR
      rw [Bool.and_eq_true, Bool.not_eq_true', Bool.not_eq_true'] at hb
      rw [hb.1, hb.2]; rfl
    · refine ⟨e1.trans e2, ⟨_, _, rfl⟩, fun y hy => ?_⟩
      rw [List.take_add_one, hu] at hy
      rcases List.mem_append.mp hy with hy | hy
      · exact hk y hy
      · have ey : y = u := by simpa using hy
        rw [ey]
        unfold keptR
        cases h1 : hasW x.2.items u.1 <;> cases h2 : hasW x.2.items u.2 <;> simp_all
  · rintro σ' H1 ⟨e1, ⟨u1, u2, rfl⟩, hk⟩
    show tRet (tC (.bl true)) { nx := fun _ H' => Q .non H', rt := Q } [some (V.ref a), some v2, u1, u2] H1
    refine s_ret (EvD.cast (x' := keptAll x.1 x.2.items) (evd_bl (b := true)) ?_) fun v H3 e3 hv => k v H3 (e1.trans e3) hv
    symm
    unfold keptAll
    rw [List.all_eq_true]
    intro b hb
    obtain ⟨u, hu, rfl⟩ := List.mem_map.mp hb
    rw [hws.len, List.take_length] at hk
    exact hk u hu
end
end K76
set_option Elab.async false
set_option linter.all false
set_option maxRecDepth 100000
/-! K76, part 6b: the law's list of all rules -/
namespace K76
open PySem PySem.Spec PyProof.Rows L2
open PySem.W (Tup Datum DatumOrd)
def wantsN (n : Nat) : List Want := (List.range n).flatMap fun (p : Nat) => [((p : Int), (0 : Int)), ((p : Int), (1 : Int))]
def wAt (ws : List Want) (i : Nat) : Want := ws.getD i (0, 0)
def rulesAt (ws : List Want) (i : Nat) : List Rule := ((ws.drop i).filter fun o => decide (o.1 ≠ (wAt ws i).1) || decide (o = wAt ws i)).map fun o => (wAt ws i, o)
def rulesN (n : Nat) : List Rule := (List.range (wantsN n).length).flatMap (rulesAt (wantsN n))
theorem wantsN_next (n : Nat) : wantsN (n + 1) = wantsN n ++ [((n : Int), (0 : Int)), ((n : Int), (1 : Int))] := by
  unfold wantsN
  rw [List.range_succ, List.flatMap_append]
  simp
theorem wantsN_len : ∀ n, (wantsN n).length = 2 * n
  | 0 => rfl
  | n + 1 => by rw [wantsN_next, List.length_append, wantsN_len n]; simp; omega
theorem rulesAt_len (ws : List Want) (i : Nat) : (rulesAt ws i).length ≤ ws.length := by
  unfold rulesAt
  rw [List.length_map]
  refine Nat.le_trans (List.length_filter_le _ _) ?_
  rw [List.length_drop]
  exact Nat.sub_le _ _
theorem flat_len (ws : List Want) : ∀ i, ((List.range i).flatMap (rulesAt ws)).length ≤ i * ws.length
  | 0 => by simp
  | i + 1 => by
    rw [List.range_succ, List.flatMap_append, List.length_append, Nat.succ_mul]
    have h1 := flat_len ws i
    have h2 := rulesAt_len ws i
    simp only [List.flatMap_cons, List.flatMap_nil, List.append_nil]
    omega
theorem rulesN_facts : ∀ n, n < 7 → 1 ≤ n → ((rulesN n).all fun u => okR n u) = true ∧ 2 ≤ (rulesN n).length ∧ (rulesN n).length ≤ 200 := by decide +kernel
theorem rulesN_row : ∀ n, n < 7 → 1 ≤ n → ((rowsN n).all fun r => (rulesN n).any fun u => keptAll [u] r.items) = true := by decide +kernel
theorem rulesN_even : ∀ n, n < 7 → 1 ≤ n → ((rulesN n).any fun u => decide ((u.1.1 - u.2.1) % 2 = 0)) = true := by decide +kernel

section
variable {K : PySem.W.Frag} {σ : L2.St} {H : Hp} {ta tb te : TE} {α β : Type} [DecidableEq α] [Datum α] [DecidableEq β] [Datum β] {D : Ends} {tU : TS}
/-- a, b = [..], [..] -/
theorem q_asgLL {i j : Nat} {xs : List α} {ys : List β} (ha : EvL K ta σ H xs) (hb : EvL K tb σ H ys) (k : ∀ p q ws us H1, H p = none → H q = none → p ≠ q → Same H H1 → H1 p = some (.lst ws) → H1 q = some (.lst us) → Hds K H1 ws xs → Hds K H1 us ys → tU D ((σ.set i (some (.ref p))).set j (some (.ref q))) H1) :
    tSeq (tAsg (tTup (tCons ta (tCons tb tNil))) (gTup K 2 (gCons (gName i) (gCons (gName j) gNil)))) tU D σ H :=
  ha H (Same.refl H) _ fun p ws H1 hn e1 hp hw => hb H1 e1 _ fun q us H2 hn2 e2 hq hu => by
    refine ⟨by show 2 ≤ sizeLine; decide, fun t ht => ⟨t, _, rfl, SqT.of upd_same, rfl, _, _, rfl, _, _, rfl, rfl, ?_⟩⟩
    have e3 : Same H2 (upd H2 t (.tup [.ref p, .ref q])) := fun b o hb => by rw [upd_ne (ne_of_none hb ht)]; exact hb
    exact k p q ws us _ hn (e1.free hn2) (ne_of_none hp hn2) ((e1.trans e2).trans e3) (e3 _ _ (e2 _ _ hp)) (e3 _ _ hq) (hw.up (e2.trans e3)) (hu.up e3)
end

abbrev spAllRules (K : PySem.W.Frag) : Sp := PureL K (fun (x : Int) => A1 K x) (fun x => 1 ≤ x ∧ x ≤ 6) fun x => rulesN x.toNat
section
variable {P : Program} {w : World} {K : PySem.W.Frag} {mg : Str → Option Value} {base : Heap} {C : Addr}
theorem scAllRules : FnScope ["_law_many", "_law_wants", "_law_found", "_law_place", "_law_at", "_law_other"] ["_law_many"] (defScope sAllRules) := ⟨rfl, rfl, rfl, by decide +kernel, rfl, by decide +kernel, by decide +kernel⟩
theorem ok_allRules {f : Addr} {fd : FuncData} (F : Fun K "_law_all_rules" "_law_all_rules" sAllRules f fd) (T : Txt K mg C) : FnOk P w K mg base CX0 1 f fd ["_law_many"] (spAllRules K) := by
  refine fun_pureL F scAllRules (fun x vs H ⟨_, e, _⟩ => by rw [e]; rfl) fun cdv A outer s H vs E x hr ⟨v1, e, h1⟩ hp => ?_
  subst e
  refine ⟨_, pss_cons (ps_asg (pe_tup (pa_cons (pe_lst pa_nil) (pa_cons (pe_lst pa_nil) pa_nil))) (pg_tup rfl (pgs_cons (pg_name (i := 1) scAllRules.nd rfl (Or.inr rfl)) (pgs_cons (pg_name (i := 2) scAllRules.nd rfl (Or.inl rfl)) pgs_nil))))
    (pss_cons (ps_for PassesOwn.never rfl (pi_range1 (by rfl) T.range (pa_cons (pv 0) pa_nil)) (pg_name (i := 3) scAllRules.nd rfl (Or.inl rfl))
      (pss_one (ps_set (i := 1) scAllRules.nd rfl (Or.inr rfl) (pe_op op_cat (pv 1) (pe_lst (pa_cons (pe_tup (pa_cons (pv 3) (pa_cons pe_int pa_nil))) (pa_cons (pe_tup (pa_cons (pv 3) (pa_cons pe_int pa_nil))) pa_nil)))))))
    (pss_cons (ps_for PassesOwn.never rfl (pi_range1 (by rfl) T.range (pa_cons (pe_callB call_len_seq (by rfl) T.len PySem.boot_len (pa_cons (pv 1) pa_nil)) pa_nil)) (pg_name (i := 4) scAllRules.nd rfl (Or.inr rfl))
      (pss_one (ps_set (i := 2) scAllRules.nd rfl (Or.inl rfl) (pe_op op_cat (pv 2) (pe_lc (own := [("_law_other", 5)]) (g := gName 5)
        (te := tTup (tCons (tOp (rIxL K) (tVar 1) (tVar 4)) (tCons (tVar 5) tNil)))
        (tt := tOr (tTest (tOp rNe (tOp (rIxT K) (tVar 5) (tC (.int 0))) (tOp (rIxT K) (tOp (rIxL K) (tVar 1) (tVar 4)) (tC (.int 0))))) (tTest (tOp (rEqT Want K) (tVar 5) (tOp (rIxL K) (tVar 1) (tVar 4)))))
        rfl scAllRules.nd (pi_list (pe_slice sl_list (pv 1) (po_some (pv 4)) po_none)) (blkOk_by (N := ["_law_many", "_law_wants", "_law_found", "_law_place", "_law_at", "_law_other"]) (sc := defScope sAllRules) (by decide +kernel))
        (fun _ _ _ _ _ => pg_name (i := 5) scAllRules.nd rfl (Or.inl rfl))
        (fun _ _ _ _ _ => pts_one (PW.pt (pw_or (pt_cmpR op_ne (pe_ix ix_tup (pv 5) pe_int (fun _ _ => rfl)) (pe_ix ix_tup (pe_ix ix_list (pv 1) (pv 4) (fun _ _ => rfl)) pe_int (fun _ _ => rfl)) (nomark _))
          (pw_or1 (pt_cmpR (op_eqT (α := Want) hr.units (by decide)) (pv 5) (pe_ix ix_list (pv 1) (pv 4) (fun _ _ => rfl)) (nomark _))))))
        (fun _ _ _ _ _ => pe_tup (pa_cons (pe_ix ix_list (pv 1) (pv 4) (fun _ _ => rfl)) (pa_cons (pv 5) pa_nil))))))))
    (pss_one (ps_ret (pv 2))))), fun Q k => ?_⟩
  refine q_asgLL (K := K) (α := Want) (β := Rule) evl_nil evl_nil fun pw pf ww0 wf0 H1 nw nf ne e1 hpw hpf hw0 hf0 => ?_
  refine q_forR (K := K) (n := x) (evd_var (i := 0) rfl (Rep.up e1 h1)) (by omega) (by omega)
    (fun i σ' H' => Same H H' ∧ ∃ p ws wf u, σ' = [some v1, some (V.ref p), some (V.ref pf), u, none, none] ∧ H' p = some (.lst ws) ∧ Hds K H' ws (wantsN i) ∧ H' pf = some (.lst wf) ∧ Hds K H' wf ([] : List Rule))
    (fun H2 e2 => ⟨e1.trans e2, pw, ww0, wf0, none, rfl, e2 _ _ hpw, hw0.up e2, e2 _ _ hpf, hf0.up e2⟩) ?_ ?_
  · rintro i σ' H' hi ⟨e2, p, ws, wf, u, rfl, hp', hw, hpf', hf⟩
    refine s_asgL (evl_cat (xs := wantsN i) (ys := [((i : Int), (0 : Int)), ((i : Int), (1 : Int))]) (evtl_var (i := 1) rfl hp' hw) (EvL.t (evl_two (evd_pair (evd_var (i := 3) rfl (hd_int _)) evd_int) (evd_pair (evd_var (i := 3) rfl (hd_int _)) evd_int))) ?_) fun p2 ws2 H4 hn4 e4 hp4 hw4 => ?_
    · rw [wantsN_len]
      simp only [List.length_cons, List.length_nil]
      omega
    · exact ⟨e2.trans e4, p2, ws2, wf, _, rfl, hp4, by rw [wantsN_next]; exact hw4, e4 _ _ hpf', hf.up e4⟩
  · rintro σ' H' ⟨e2, p, ws, wf, u, rfl, hp', hw, hpf', hf⟩
    have hn12 : (wantsN x.toNat).length ≤ 12 := by rw [wantsN_len]; omega
    refine q_forR (K := K) (n := ((wantsN x.toNat).length : Int)) (evd_lenL (evd_var (i := 1) rfl (hd_list (SqL.of hp') hw))) (by omega) (by omega)
      (fun i σ2 H2 => Same H H2 ∧ ∃ q ws wf u1 u2, σ2 = [some v1, some (V.ref p), some (V.ref q), u1, u2, none] ∧ H q = none ∧ H2 p = some (.lst ws) ∧ Hds K H2 ws (wantsN x.toNat) ∧ H2 q = some (.lst wf) ∧ Hds K H2 wf ((List.range i).flatMap (rulesAt (wantsN x.toNat))))
      (fun H2 e3 => ⟨e2.trans e3, pf, ws, wf, u, none, rfl, nf, e3 _ _ hp', hw.up e3, e3 _ _ hpf', hf.up e3⟩) ?_ ?_
    · rintro i σ2 H2 hi ⟨e3, q, ws2, wf2, u1, u2, rfl, hq, hp2, hw2, hq2, hf2⟩
      have hlt : i < (wantsN x.toNat).length := by omega
      have hat : (wantsN x.toNat)[i]? = some (wAt (wantsN x.toNat) i) := by
        unfold wAt
        rw [List.getElem?_eq_getElem hlt, List.getD_eq_getElem?_getD, List.getElem?_eq_getElem hlt]; rfl
      have hwd : Hd K H2 (.ref p) (wantsN x.toNat) := hd_list (SqL.of hp2) hw2
      refine s_asgL (evl_cat (xs := (List.range i).flatMap (rulesAt (wantsN x.toNat))) (ys := rulesAt (wantsN x.toNat) i) (evtl_var (i := 2) rfl hq2 hf2)
        (EvL.t (evl_lc (p := fun o : Want => decide (o.1 ≠ (wAt (wantsN x.toNat) i).1) || decide (o = wAt (wantsN x.toNat) i)) (f := fun o => (wAt (wantsN x.toNat) i, o))
          (evi_list (EvL.d (evl_from (xs := wantsN x.toNat) (j := i) (evd_var (i := 1) rfl hwd) (evd_var (i := 4) rfl (hd_int _)) rfl (Nat.le_of_lt hlt)))) (by rw [List.length_drop]; omega) tg1 fun o σ3 H3 e4 hm ⟨v, hs, hv⟩ => ?_)) ?_)
        fun p2 ws3 H4 hn4 e4 hp4 hw4 => ⟨e3.trans e4, p2, ws2, ws3, _, _, rfl, e3.free hn4, e4 _ _ hp2, hw2.up e4, hp4, ?_⟩
      · subst hs
        have ew : EvD K (tOp (rIxL K) (tVar 1) (tVar 4)) ((wipe [some v1, some (V.ref p), some (V.ref q), u1, some (V.int (i : Int)), none] [5]).set 5 (some v)) H3 (wAt (wantsN x.toNat) i) :=
          evd_ixL (j := i) (evd_var (i := 1) rfl (hwd.up e4)) (evd_var (i := 4) rfl (hd_int _)) rfl hat
        exact ⟨rfl, evb_or (evb_test (evd_neI (evd_fst (evd_var (i := 5) rfl hv)) (evd_fst ew))) fun _ => evb_test (evd_eqT (evd_var (i := 5) rfl hv) ew), fun _ => evd_pair ew (evd_var (i := 5) rfl hv)⟩
      · have h1 := flat_len (wantsN x.toNat) i
        have h2 := rulesAt_len (wantsN x.toNat) i
        have h3 : i * (wantsN x.toNat).length ≤ 12 * 12 := Nat.mul_le_mul (by omega) hn12
        omega
      · rw [List.range_succ, List.flatMap_append]
        simp only [List.flatMap_cons, List.flatMap_nil, List.append_nil]
        exact hw4
    · rintro σ2 H2 ⟨e3, q, ws2, wf2, u1, u2, rfl, hq, hp2, hw2, hq2, hf2⟩
      exact ⟨_, rfl, k q wf2 H2 hq e3 hq2 hf2⟩
end
end K76
set_option Elab.async false
set_option linter.all false
set_option maxRecDepth 100000
/-! K76, part 6c: the law's comparison -/
namespace K76
open PySem PySem.Spec PyProof.Rows L2
open PySem.W (Tup Datum DatumOrd)
/-- whole numbers, lists and tuples alone -/
def itl : PyData → Bool
  | .int _ => true
  | .list xs => decide (xs.length ≤ 1000) && itls xs
  | .tuple xs => decide (xs.length ≤ 1000) && itls xs
  | _ => false
where itls : List PyData → Bool
  | [] => true
  | x :: xs => itl x && itls xs
def itemsP : PyData → List PyData
  | .list xs => xs
  | .tuple xs => xs
  | _ => []
theorem itls_get : ∀ {ds : List PyData} {i : Nat} {d : PyData}, itl.itls ds = true → ds[i]? = some d → itl d = true
  | [], i, d, _, h => by simp at h
  | x :: xs, 0, d, h, e => by
    rw [itl.itls, Bool.and_eq_true] at h
    have : x = d := by simpa using e
    exact this ▸ h.1
  | x :: xs, i + 1, d, h, e => by
    rw [itl.itls, Bool.and_eq_true] at h
    exact itls_get h.2 (by simpa using e)
theorem depths_get : ∀ {ds : List PyData} {i : Nat} {d : PyData}, ds[i]? = some d → d.depth ≤ PyData.depthAll ds
  | [], i, d, h => by simp at h
  | x :: xs, 0, d, e => by
    have : x = d := by simpa using e
    rw [PyData.depthAll, this]
    exact Nat.le_max_left _ _
  | x :: xs, i + 1, d, e => by
    rw [PyData.depthAll]
    exact Nat.le_trans (depths_get (i := i) (by simpa using e)) (Nat.le_max_right _ _)
section
variable {α β : Type} [DecidableEq α] [Datum α] [DecidableEq β] [Datum β]
theorem itl_int (i : Int) : itl (Datum.toD i) = true := rfl
theorem itl_map : ∀ {xs : List α}, (∀ x ∈ xs, itl (Datum.toD x) = true) → itl.itls (xs.map Datum.toD) = true
  | [], _ => rfl
  | x :: xs, h => by rw [List.map_cons, itl.itls, h x List.mem_cons_self, itl_map fun y hy => h y (List.mem_cons_of_mem _ hy)]; rfl
theorem itl_list {xs : List α} (hz : xs.length ≤ 1000) (h : ∀ x ∈ xs, itl (Datum.toD x) = true) : itl (Datum.toD xs) = true := by
  show itl (.list (xs.map Datum.toD)) = true
  rw [itl, itl_map h, List.length_map, decide_eq_true hz]; rfl
theorem itl_tup {t : Tup α} (hz : t.items.length ≤ 1000) (h : ∀ x ∈ t.items, itl (Datum.toD x) = true) : itl (Datum.toD t) = true := by
  show itl (.tuple (t.items.map Datum.toD)) = true
  rw [itl, itl_map h, List.length_map, decide_eq_true hz]; rfl
theorem itl_pair {p : α × β} (h1 : itl (Datum.toD p.1) = true) (h2 : itl (Datum.toD p.2) = true) : itl (Datum.toD p) = true := by
  show itl (.tuple [Datum.toD p.1, Datum.toD p.2]) = true
  rw [itl, itl.itls, itl.itls, itl.itls, h1, h2]; rfl
end
instance : Rep PyData := ⟨fun K H v d => Dp K H v d, fun e h => dp_up true (fun _ _ _ => e.seq) (fun _ _ => sqT_up e) _ _ (.inl rfl) h⟩
section
variable {K : PySem.W.Frag} {σ : L2.St} {H : Hp} {ta tb te : TE}
theorem dps_get : ∀ {vs : List V} {ds : List PyData}, DpAll K H vs ds → ∀ {i : Nat} {d : PyData}, ds[i]? = some d → ∃ v, vs[i]? = some v ∧ Dp K H v d
  | _, _, .nil, i, d, e => by simp at e
  | _, _, .cons h t, 0, d, e => ⟨_, rfl, by
    have q := Option.some.inj (show some _ = some d from e)
    exact q ▸ h⟩
  | _, _, .cons h t, i + 1, d, e => by
    obtain ⟨v, h1, h2⟩ := dps_get t (i := i) (d := d) (by simpa using e)
    exact ⟨v, by simpa using h1, h2⟩
theorem dps_len : ∀ {vs : List V} {ds : List PyData}, DpAll K H vs ds → vs.length = ds.length
  | _, _, .nil => rfl
  | _, _, .cons _ t => by simp [dps_len t]
theorem evd_ixP {d d' : PyData} {i : Int} {j : Nat} (ha : EvD K ta σ H d) (hb : EvD K tb σ H i) (hi : i = (j : Int)) (hx : (itemsP d)[j]? = some d') : EvD K (tOp (rIx K) ta tb) σ H d' := evd_op ha hb fun v w H1 _ hv hw Q q => by
  rw [Hd.int hw]
  have hv' : Dp K H1 v d := hv
  cases hv' with
  | lst s hs =>
    obtain ⟨u, hu, hd⟩ := dps_get hs (i := j) (d := d') hx
    exact .inl ⟨_, _, i, u, rfl, rfl, s, by rw [hi]; exact atI_nat hu, q _ H1 (Same.refl _) hd⟩
  | tup s hs =>
    obtain ⟨u, hu, hd⟩ := dps_get hs (i := j) (d := d') hx
    exact .inr (.inl ⟨_, _, i, u, rfl, rfl, s, by rw [hi]; exact atI_nat hu, q _ H1 (Same.refl _) hd⟩)
  | _ => simp [itemsP] at hx
theorem evd_lenP {d : PyData} (ha : EvD K ta σ H d) (hd : d = .list (itemsP d) ∨ d = .tuple (itemsP d)) : EvD K (tCB (rLen K) (tCons ta tNil)) σ H ((itemsP d).length : Int) := evd_cb (eva1 ha) fun vs H1 _ ⟨v, e, hv⟩ Q q => by
  subst e
  have hv' : Dp K H1 v d := hv
  cases hv' with
  | lst s hs =>
    refine ⟨_, _, rfl, .inl s, ?_⟩
    rw [dps_len hs]
    exact q _ H1 (Same.refl _) (hd_int _)
  | tup s hs =>
    refine ⟨_, _, rfl, .inr s, ?_⟩
    rw [dps_len hs]
    exact q _ H1 (Same.refl _) (hd_int _)
  | _ => rcases hd with h | h <;> cases h
theorem evd_isiP {d : PyData} {T : String} {b : Bool} (h : EvD K ta σ H d) (hk : kitB (tyName d) T = some b) : EvD K (tCB (rIsi K) (tCons ta (tCons (tC (.ty T)) tNil))) σ H b := fun H1 e Q q =>
  h H1 e _ fun v H2 e2 hv => ⟨v, .ty T, _, _, b, rfl, .ty T, dp_ty hv, kit_ty hk, q _ H2 e2 (hd_bool _)⟩
/-- isinstance(x, (S, T)) -/
theorem evd_isi2 {d : PyData} {S T : String} {b c : Bool} (h : EvD K ta σ H d) (h1 : kitB (tyName d) S = some b) (h2 : kitB (tyName d) T = some c) :
    EvD K (tCB (rIsiT K) (tCons ta (tCons (tTup (tCons (tC (.ty S)) (tCons (tC (.ty T)) tNil))) tNil))) σ H (b || c) := fun H1 e Q q =>
  h H1 e _ fun v H2 e2 hv => by
    refine ⟨by show 2 ≤ sizeLine; decide, fun p hp => ?_⟩
    have e3 : Same H2 (upd H2 p (.tup [.ty S, .ty T])) := fun b o hb => by rw [upd_ne (ne_of_none hb hp)]; exact hb
    have hk : PySem.W.kitAny K (.type (tyName d)) [.type S, .type T] = some (b || c) := by
      refine kitAny_cons (kit_ty h1) (fun hb => ?_) (fun hb => by rw [hb]; rfl)
      rw [hb, Bool.false_or]
      exact kitAny_cons (kit_ty h2) (fun hc => by rw [hc]; exact kitAny_nil) (fun hc => hc)
    exact ⟨v, p, [.ty S, .ty T], .type (tyName d), [.type S, .type T], b || c, rfl, upd_same, .cons (.ty S) (.cons (.ty T) .nil), dp_ty (Rep.up e3 hv), hk, q _ _ (e2.trans e3) (hd_bool _)⟩
end

theorem s_if_seq {σ : L2.St} {H : Hp} {tt : TT} {tS tU tV : TS} {D : Ends} (h : EvB tt σ H true) (h1 : ∀ H1, Same H H1 → tS { D with nx := tV D } σ H1) : tSeq (tIfS tt tS tU) tV D σ H := s_if (D := { D with nx := tV D }) h (fun _ H1 e => h1 H1 e) (fun z => nomatch z)
abbrev spAlike (K : PySem.W.Frag) (n : Nat) : Sp := PureP K (fun (d : PyData) => A2 K d d) (fun d => itl d = true ∧ d.depth < n) fun _ => true
section
variable {P : Program} {w : World} {K : PySem.W.Frag} {mg : Str → Option Value} {base : Heap} {C : Addr}
theorem scAlike : FnScope ["_law_found", "_law_due", "_law_k"] ["_law_found", "_law_due"] (defScope sAlike) := ⟨rfl, rfl, rfl, by decide +kernel, rfl, by decide +kernel, by decide +kernel⟩
theorem ok_alike_step {n : Nat} {f : Addr} {fd : FuncData} (F : Fun K "_law_alike" "_law_alike" sAlike f fd) (T : Txt K mg C) (G : Callee P w K mg base n "_law_alike" ["_law_found", "_law_due"] (spAlike K n)) : FnOk P w K mg base CX0 (n + 1) f fd ["_law_found", "_law_due"] (spAlike K (n + 1)) := by
  refine fun_pure F scAlike (fun x vs H ⟨_, _, e, _⟩ => by rw [e]; rfl) fun cdv A outer s H vs E d hr ⟨v1, v2, e, h1, h2⟩ hp => ?_
  subst e
  refine ⟨_, pss_cons (ps_if (pt_val (pe_callB call_isiT (by rfl) T.isi (by decide +kernel) (pa_cons (pv 1) (pa_cons (pe_tup (pa_cons (pe_bltn (v := .ty "tuple") (by rfl) T.tup (by decide +kernel) rfl) (pa_cons (pe_bltn (v := .ty "list") (by rfl) T.lst (by decide +kernel) rfl) pa_nil))) pa_nil))))
      (pss_cons (ps_if (PW.pt (pw_or (pt_not (pt_val (pe_callB call_isiT (by rfl) T.isi (by decide +kernel) (pa_cons (pv 0) (pa_cons (pe_tup (pa_cons (pe_bltn (v := .ty "tuple") (by rfl) T.tup (by decide +kernel) rfl) (pa_cons (pe_bltn (v := .ty "list") (by rfl) T.lst (by decide +kernel) rfl) pa_nil))) pa_nil)))))
          (pw_or1 (pt_cmpR op_ne (pe_callB call_isi (by rfl) T.isi (by decide +kernel) (pa_cons (pv 0) (pa_cons (pe_bltn (v := .ty "list") (by rfl) T.lst (by decide +kernel) rfl) pa_nil))) (pe_callB call_isi (by rfl) T.isi (by decide +kernel) (pa_cons (pv 1) (pa_cons (pe_bltn (v := .ty "list") (by rfl) T.lst (by decide +kernel) rfl) pa_nil))) (nomark _))))) pss_never pss_nil)
      (pss_cons (ps_if (pt_cmpR op_ne (pe_callB call_len_seq (by rfl) T.len PySem.boot_len (pa_cons (pv 0) pa_nil)) (pe_callB call_len_seq (by rfl) T.len PySem.boot_len (pa_cons (pv 1) pa_nil)) (nomark _)) pss_never pss_nil)
      (pss_one (ps_ret (pe_cmpR (op_eqT (α := List Int) hr.units (by decide)) (pe_lc (own := [("_law_k", 2)]) (g := gName 2) (te := tVar 2)
        (tt := tNot (tB (tCall (spAlike K n) [] E0 (tCons (tOp (rIx K) (tVar 0) (tVar 2)) (tCons (tOp (rIx K) (tVar 1) (tVar 2)) tNil)))))
        rfl scAlike.nd (pi_range1 (by rfl) T.range (pa_cons (pe_callB call_len_seq (by rfl) T.len PySem.boot_len (pa_cons (pv 1) pa_nil)) pa_nil)) (blkOk_by (N := ["_law_found", "_law_due", "_law_k"]) (sc := defScope sAlike) (by decide +kernel))
        (fun _ _ _ _ _ => pg_name (i := 2) scAlike.nd rfl (Or.inl rfl)) (fun _ _ _ _ _ => pts_one (pt_not (pt_val (pe_cal G hr (by rfl) (pa_cons (pe_ix ix_seq (pv 0) (pv 2) (fun _ _ => rfl)) (pa_cons (pe_ix ix_seq (pv 1) (pv 2) (fun _ _ => rfl)) pa_nil))))))
        (fun _ _ _ _ _ => pv 2)) (pe_lst pa_nil) (nomark _)))))) pss_nil)
    (pss_cons (ps_if (PW.pt (pw_or (pt_cmpR op_isN (pv 1) pe_non (nomark _)) (pw_or1 (pt_val (pe_callB call_isi (by rfl) T.isi (by decide +kernel) (pa_cons (pv 1) (pa_cons (pe_bltn (v := .ty "str") (by rfl) T.str (by decide +kernel) rfl) pa_nil))))))) pss_never pss_nil)
    (pss_one (ps_ret (pe_and (pe_callB call_isi (by rfl) T.isi (by decide +kernel) (pa_cons (pv 0) (pa_cons (pe_bltn (v := .ty "int") (by rfl) T.int (by decide +kernel) rfl) pa_nil)))
      (pe_and (pe_cmpR op_eq (pe_callB call_isi (by rfl) T.isi (by decide +kernel) (pa_cons (pv 0) (pa_cons (pe_bltn (v := .ty "bool") (by rfl) T.bool (by decide +kernel) rfl) pa_nil))) (pe_callB call_isi (by rfl) T.isi (by decide +kernel) (pa_cons (pv 1) (pa_cons (pe_bltn (v := .ty "bool") (by rfl) T.bool (by decide +kernel) rfl) pa_nil))) (nomark _))
        (pe_one (pe_cmpR op_eq (pv 0) (pv 1) (nomark _)))))))), fun Q k => ?_⟩
  by_cases hseq : d = .list (itemsP d) ∨ d = .tuple (itemsP d)
  · obtain ⟨isL, k1, k2⟩ : ∃ isL : Bool, kitB (tyName d) "tuple" = some (!isL) ∧ kitB (tyName d) "list" = some isL := by
      rcases hseq with hd | hd
      · exact ⟨true, by rw [hd]; show kitB "list" "tuple" = some false; decide +kernel, by rw [hd]; show kitB "list" "list" = some true; decide +kernel⟩
      · exact ⟨false, by rw [hd]; show kitB "tuple" "tuple" = some true; decide +kernel, by rw [hd]; show kitB "tuple" "list" = some false; decide +kernel⟩
    have hin : (itemsP d).length ≤ 1000 ∧ itl.itls (itemsP d) = true ∧ PyData.depthAll (itemsP d) < n := by
      have h := hp
      rcases hseq with hd | hd <;>
      · generalize itemsP d = xs at hd ⊢
        subst hd
        rw [itl, Bool.and_eq_true, decide_eq_true_eq, PyData.depth] at h
        exact ⟨h.1.1, h.1.2, by omega⟩
    have hb : ∀ c : Bool, (!c || c) = true := fun c => by cases c <;> rfl
    refine s_if_seq (EvB.cast (b' := true) (evb_val (evd_isi2 (evd_var (i := 1) rfl h2) k1 k2)) (hb _)) fun H1 e1 => ?_
    have h1a := Rep.up e1 h1
    have h2a := Rep.up e1 h2
    refine q_when (EvB.cast (b' := false) (evb_or (evb_not (EvB.cast (b' := true) (evb_val (evd_isi2 (evd_var (i := 0) rfl h1a) k1 k2)) (hb _))) fun _ => evb_test (evd_neB (evd_isiP (evd_var (i := 0) rfl h1a) k2) (evd_isiP (evd_var (i := 1) rfl h2a) k2))) (by simp)) (fun h => nomatch h) fun _ H2 e2 => ?_
    have h1b := Rep.up e2 h1a
    have h2b := Rep.up e2 h2a
    refine q_when (EvB.cast (b' := false) (evb_test (evd_neI (evd_lenP (evd_var (i := 0) rfl h1b) hseq) (evd_lenP (evd_var (i := 1) rfl h2b) hseq))) (by simp)) (fun h => nomatch h) fun _ H3 e3 => ?_
    have h1c := Rep.up e3 h1b
    have h2c := Rep.up e3 h2b
    have hfil : ((upTo (((itemsP d).length : Int)).toNat).filter fun _ => false) = ([] : List Int) := List.filter_eq_nil_iff.mpr fun _ _ h => nomatch h
    refine s_ret (EvD.cast (x' := true) (evd_eqT (a := ([] : List Int)) (b := []) (EvL.d (EvL.cast (evl_filter (p := fun _ => false) (evi_range (evd_lenP (evd_var (i := 1) rfl h2c) hseq) (by omega) (by omega)) (by rw [upTo_len]; omega) tg1
      fun i σ2 H4 e4 hm ⟨v, hs, hv⟩ => ?_) hfil)) (EvL.d evl_nil)) (by decide)) fun v H4 e4 hv => k v H4 ((e1.trans e2).trans (e3.trans e4)) hv
    subst hs
    obtain ⟨j, hj⟩ := List.getElem?_of_mem hm
    have hjl : j < (itemsP d).length := by
      have := (List.getElem?_eq_some_iff.mp hj).1
      rw [upTo_len] at this
      omega
    have hij : i = (j : Int) := by
      rw [upTo_get (by omega)] at hj
      exact (Option.some.inj hj).symm
    obtain ⟨d', hd'⟩ : ∃ d', (itemsP d)[j]? = some d' := ⟨_, List.getElem?_eq_getElem hjl⟩
    refine ⟨rfl, EvB.cast (evb_not (evb_val (evd_call (x := d') (eva2 (evd_ixP (evd_var (i := 0) rfl (Rep.up e4 h1c)) (evd_var (i := 2) rfl hv) hij hd') (evd_ixP (evd_var (i := 1) rfl (Rep.up e4 h2c)) (evd_var (i := 2) rfl hv) hij hd')) ⟨itls_get hin.2.1 hd', ?_⟩))) rfl, evd_var (i := 2) rfl hv⟩
    have := depths_get hd'
    omega
  · obtain ⟨i, rfl⟩ : ∃ i, d = .int i := by
      cases d with
      | int i => exact ⟨i, rfl⟩
      | list xs => exact absurd (.inl rfl) hseq
      | tuple xs => exact absurd (.inr rfl) hseq
      | _ => have h := hp.1; simp [itl] at h
    have h1i : Hd K H v1 i := h1
    have h2i : Hd K H v2 i := h2
    refine q_when (EvB.cast (b' := false) (evb_val (evd_isi2 (b := false) (c := false) (evd_var (i := 1) rfl h2) (by show kitB "int" "tuple" = some false; decide +kernel) (by show kitB "int" "list" = some false; decide +kernel))) rfl) (fun h => nomatch h) fun _ H1 e1 => ?_
    have h1a := Hd.up e1 h1i
    have h2a := Hd.up e1 h2i
    refine q_when (EvB.cast (b' := false) (evb_or (a := false) (fun H2 e2 Q q => ⟨v2, rfl, rfl, ?_⟩) fun _ => evb_val (evd_isi (x := i) (n := "int") (b := false) (evd_var (i := 1) rfl h2a) rfl (by decide +kernel))) rfl) (fun h => nomatch h) fun _ H2 e2 => ?_
    · rw [h2i.int]
      exact ⟨false, rfl, q H2 (Same.refl _)⟩
    have h1b := Hd.up e2 h1a
    have h2b := Hd.up e2 h2a
    exact s_ret (EvD.cast (x' := true) (evd_and (evd_isi (x := i) (n := "int") (b := true) (evd_var (i := 0) rfl h1b) rfl (by decide +kernel)) fun _ => evd_and (evd_eqB (evd_isi (x := i) (n := "int") (b := false) (evd_var (i := 0) rfl h1b) rfl (by decide +kernel)) (evd_isi (x := i) (n := "int") (b := false) (evd_var (i := 1) rfl h2b) rfl (by decide +kernel)))
      fun _ => evd_eqI (evd_var (i := 0) rfl h1b) (evd_var (i := 1) rfl h2b)) (by simp)) fun v H3 e3 hv => k v H3 ((e1.trans e2).trans e3) hv
/-- at each depth -/
theorem ok_alike {f : Addr} {fd : FuncData} (F : Fun K "_law_alike" "_law_alike" sAlike f fd) (T : Txt K mg C) (hm : mg "_law_alike" = some (.ref f)) (hb : Binds K fd ["_law_found", "_law_due"] []) : ∀ n, FnOk P w K mg base CX0 n f fd ["_law_found", "_law_due"] (spAlike K n)
  | 0 => ⟨fun vs H Q E h => by
      obtain ⟨x, ⟨_, _, e, _⟩, _⟩ := h
      rw [e]; rfl, fun A outer s H args us vs Q E hr h0 hbt hv h => by
      obtain ⟨x, _, hp, _⟩ := h
      exact absurd hp.2 (Nat.not_lt_zero _)⟩
  | n + 1 => ok_alike_step F T ⟨f, fd, ok_alike F T hm hb n, hm, F.kp, hb⟩
end
end K76
set_option Elab.async false
set_option linter.all false
set_option maxRecDepth 100000
/-! K76, part 6d: the law's draws -/
namespace K76
open PySem PySem.Spec PyProof.Rows L2
open PySem.W (Tup Datum DatumOrd)
/-- all but r stays -/
def Bar (r : Addr) (H H' : Hp) : Prop := ∀ b o, b ≠ r → H b = some o → H' b = some o
theorem Bar.refl (r : Addr) (H : Hp) : Bar r H H := fun _ _ _ h => h
theorem Bar.of {r : Addr} {H H' : Hp} (e : Same H H') : Bar r H H' := fun b o _ h => e b o h
theorem Bar.trans {r : Addr} {H H1 H2 : Hp} (a : Bar r H H1) (b : Bar r H1 H2) : Bar r H H2 := fun x o n h => b x o n (a x o n h)
theorem Bar.store {r : Addr} {H : Hp} {o : HO} : Bar r H (upd H r o) := fun b u n h => by rw [upd_ne n]; exact h
theorem Bar.list {K : PySem.W.Frag} {r a : Addr} {H H' : Hp} {xs : List V} (e : Bar r H H') (n : a ≠ r) (h : SqL K H a xs) : SqL K H' a xs := by
  rcases h with (h | ⟨o, h⟩) | h
  · exact .inl (.inl (e _ _ n h))
  · exact .inl (.inr ⟨o, e _ _ n h⟩)
  · exact .inr h
theorem Bar.tups {K : PySem.W.Frag} {r : Addr} {H H' : Hp} {ws : List V} (e : Bar r H H') (hr : H r = some (.lst ws)) : KeepT K H H' := fun a xs h => by
  rcases h with (h | ⟨o, h⟩) | h
  · exact .inl (.inl (e _ _ (ne_of h hr (by intro z; cases z)) h))
  · exact .inl (.inr ⟨o, e _ _ (ne_of h hr (by intro z; cases z)) h⟩)
  · exact .inr h
/-- the list at a does not lean on what stands at r -/
def Far (K : PySem.W.Frag) (a : Addr) (ns : List Int) (r : Addr) : Prop := a ≠ r ∨ ∀ H' : Hp, SqL K H' a (ns.map V.int)
theorem far_new {K : PySem.W.Frag} {a r : Addr} {ns : List Int} {H : Hp} (h : SqL K H a (ns.map V.int)) (hr : H r = none) : Far K a ns r := by
  rcases h with (h | ⟨o, h⟩) | h
  · exact .inl (ne_of_none h hr)
  · exact .inl (ne_of_none h hr)
  · exact .inr fun _ => .inr h
theorem Bar.listF {K : PySem.W.Frag} {r a : Addr} {H H' : Hp} {ns : List Int} (e : Bar r H H') (f : Far K a ns r) (h : SqL K H a (ns.map V.int)) : SqL K H' a (ns.map V.int) := f.elim (fun n => e.list n h) fun f => f H'
/-- the state of the draws at r -/
def RowSt (K : PySem.W.Frag) (a : Addr) (ns : List Int) (H : Hp) (r : Addr) : Prop := ∃ (c s z : Int), H r = some (.lst [.ref a, .int c, .int s, .int z]) ∧ SqL K H a (ns.map V.int) ∧ Far K a ns r ∧ 0 ≤ c
theorem RowSt.same {K : PySem.W.Frag} {a : Addr} {ns : List Int} {H H' : Hp} {r : Addr} (e : Same H H') (h : RowSt K a ns H r) : RowSt K a ns H' r := by
  obtain ⟨c, s, z, h1, h2, h3, h4⟩ := h
  exact ⟨c, s, z, e _ _ h1, Same.seq e h2, h3, h4⟩
theorem RowSt.lst {K : PySem.W.Frag} {a : Addr} {ns : List Int} {H : Hp} {r : Addr} (h : RowSt K a ns H r) : ∃ ws, H r = some (.lst ws) := let ⟨_, _, _, h1, _⟩ := h; ⟨_, h1⟩
def spTaken (K : PySem.W.Frag) : Sp := fun vs H Q _ => ∃ (r : Addr) (m : Int) (a : Addr) (ns : List Int), vs = [.ref r, .int m] ∧ RowSt K a ns H r ∧ 1 ≤ m ∧ m ≤ 1000000 ∧ ∀ z H', 0 ≤ z → z < m → Bar r H H' → RowSt K a ns H' r → Q (.int z) H'
section
variable {K : PySem.W.Frag} {σ : L2.St} {H : Hp} {ta tb te : TE} {τ : Type} [Rep τ] {D : Ends} {tU : TS}
/-- xs[k] of the tracked list at slot i -/
theorem evd_cell {i j : Nat} {k : Int} {r : Addr} {xs : List V} {u : V} {x : τ} (hσ : σ[i]? = some (some (.ref r))) (hr : H r = some (.lst xs)) (hk : atI xs k = some u) (hu : Rep.rep K H u x) : EvD K (tOp (rIxL K) (tVar i) (tC (.int k))) σ H x := fun H1 e Q q =>
  ⟨_, hσ, r, xs, k, u, rfl, rfl, SqL.of (e _ _ hr), hk, q u H1 (Same.refl _) (Rep.up e hu)⟩
/-- xs[k] = an int -/
theorem q_cell {i j : Nat} {k : Int} {r : Addr} {xs : List V} {z : Int} (h : EvD K te σ H z) (hσ : σ[i]? = some (some (.ref r))) (hr : H r = some (.lst xs)) (hk : ixN xs.length k = some j) (hn : ∀ H1, Same H H1 → tU D σ (upd H1 r (.lst (xs.set j (.int z))))) :
    tSeq (tAsg te (gSub (tVar i) (tC (.int k)) rSetL)) tU D σ H := h H (Same.refl H) _ fun v H1 e hv => by
  rw [Hd.int hv]
  exact ⟨_, hσ, r, xs, k, j, rfl, rfl, e _ _ hr, hk, hn H1 e⟩
theorem s_cell {i j : Nat} {k : Int} {r : Addr} {xs : List V} {z : Int} (h : EvD K te σ H z) (hσ : σ[i]? = some (some (.ref r))) (hr : H r = some (.lst xs)) (hk : ixN xs.length k = some j) (hn : ∀ H1, Same H H1 → D.nx σ (upd H1 r (.lst (xs.set j (.int z))))) :
    tAsg te (gSub (tVar i) (tC (.int k)) rSetL) D σ H := h H (Same.refl H) _ fun v H1 e hv => by
  rw [Hd.int hv]
  exact ⟨_, hσ, r, xs, k, j, rfl, rfl, e _ _ hr, hk, hn H1 e⟩
abbrev rInt1 : List V → Hp → VK → Prop := fun xs H Q => (∃ i, xs = [.int i] ∧ Q (.int i) H) ∨ ∃ k, xs = [.bl k] ∧ Q (.int (if k then 1 else 0)) H
theorem evd_int1 {i : Int} (h : EvD K ta σ H i) : EvD K (tCB rInt1 (tCons ta tNil)) σ H i := evd_cb (eva1 h) fun vs H1 _ ⟨v, e, hv⟩ Q q => by
  subst e
  rw [Hd.int hv]
  exact .inl ⟨i, rfl, q _ H1 (Same.refl _) (hd_int i)⟩
theorem evd_intB {b : Bool} (h : EvD K ta σ H b) : EvD K (tCB rInt1 (tCons ta tNil)) σ H (if b then (1 : Int) else 0) := evd_cb (eva1 h) fun vs H1 _ ⟨v, e, hv⟩ Q q => by
  subst e
  rw [Hd.bool hv]
  exact .inr ⟨b, rfl, q _ H1 (Same.refl _) (hd_int _)⟩
end
section
variable {P : Program} {w : World} {K : PySem.W.Frag} {mg : Str → Option Value} {base : Heap} {C : Addr}
theorem scTaken : FnScope ["_law_row", "_law_many", "_law_found", "_law_cell"] ["_law_row", "_law_many"] (defScope sTaken) := ⟨rfl, rfl, rfl, by decide +kernel, rfl, by decide +kernel, by decide +kernel⟩
theorem ok_taken {f : Addr} {fd : FuncData} (F : Fun K "_law_taken" "_law_taken" sTaken f fd) (T : Txt K mg C) : FnOk P w K mg base CX0 1 f fd ["_law_row", "_law_many"] (spTaken K) := by
  refine F.ok scTaken (fun vs H Q E h => ?_) (fun cdv A outer s H vs Q E hr h => ?_)
  · obtain ⟨r, m, a, ns, rfl, _⟩ := h
    rfl
  obtain ⟨r, m, a, ns, rfl, ⟨c, s0, z0, hrow, hscr, nar, hc0⟩, hm1, hm2, k⟩ := h
  refine ⟨_, pss_cons (ps_if (pt_cmpR op_gt (pe_ix ix_list (pv 0) pe_int (fun _ _ => rfl)) pe_int (nomark _))
      (pss_cons (ps_set (i := 2) scTaken.nd rfl (Or.inl rfl) (pe_op op_mod (pe_callTy call_int1 (by rfl) T.int (by decide +kernel) (pa_cons (pe_ix ix_list (pv 0) pe_int (fun _ _ => rfl)) pa_nil)) (pv 1)))
        (pss_cons (ps_asg (pe_op op_fdiv (pe_ix ix_list (pv 0) pe_int (fun _ _ => rfl)) (pv 1)) (pg_sub (pv 0) pe_int set_list (fun _ => rfl))) (pss_one (ps_ret (pv 2))))) pss_nil)
    (pss_cons (ps_asg (pe_op op_add (pe_ix ix_list (pv 0) pe_int (fun _ _ => rfl)) pe_int) (pg_sub (pv 0) pe_int set_list (fun _ => rfl)))
    (pss_cons (ps_if (pt_cmpR op_gt (pe_ix ix_list (pv 0) pe_int (fun _ _ => rfl)) (pe_callB call_len_seq (by rfl) T.len PySem.boot_len (pa_cons (pe_ix ix_list (pv 0) pe_int (fun _ _ => rfl)) pa_nil)) (nomark _))
      (pss_cons (ps_asg (pe_op op_mod (pe_callTy call_int1 (by rfl) T.int (by decide +kernel) (pa_cons (pe_op op_add (pe_op op_mul (pe_ix ix_list (pv 0) pe_int (fun _ _ => rfl)) pe_int) pe_int) pa_nil)) pe_int) (pg_sub (pv 0) pe_int set_list (fun _ => rfl)))
        (pss_one (ps_ret (pe_op op_mod (pe_callTy call_int1 (by rfl) T.int (by decide +kernel) (pa_cons (pe_op op_fdiv (pe_ix ix_list (pv 0) pe_int (fun _ _ => rfl)) pe_int) pa_nil)) (pv 1))))) pss_nil)
    (pss_cons (ps_set (i := 3) scTaken.nd rfl (Or.inl rfl) (pe_ix ix_list (pe_ix ix_list (pv 0) pe_int (fun _ _ => rfl)) (pe_op op_sub (pe_ix ix_list (pv 0) pe_int (fun _ _ => rfl)) pe_int) (fun _ _ => rfl)))
    (pss_cons (ps_asg (pe_op op_mod (pe_callTy call_int1 (by rfl) T.int (by decide +kernel) (pa_cons (pe_op op_add (pe_op op_add (pe_op op_mul (pe_ix ix_list (pv 0) pe_int (fun _ _ => rfl)) pe_int) (pv 3)) pe_int) pa_nil)) pe_int) (pg_sub (pv 0) pe_int set_list (fun _ => rfl)))
    (pss_cons (ps_if (pt_cmpR op_ge (pv 3) (pe_op op_pow pe_int pe_int) (nomark _)) (pss_one (ps_asg (pe_op op_fdiv (pv 3) (pv 1)) (pg_sub (pv 0) pe_int set_list (fun _ => rfl)))) pss_nil)
    (pss_one (ps_ret (pe_op op_mod (pe_callTy call_int1 (by rfl) T.int (by decide +kernel) (pa_cons (pv 3) pa_nil)) (pv 1))))))))), ?_⟩
  have hmd : CDiv 0 m := ⟨by omega, by omega⟩
  have hmod : ∀ i : Int, 0 ≤ i % m ∧ i % m < m := fun i => ⟨Int.emod_nonneg _ (by omega), Int.emod_lt_of_pos _ (by omega)⟩
  refine q_when (evb_test (K := K) (evd_IB (g := fun i j => decide (j < i)) (evd_cell (j := 0) (x := z0) rfl hrow rfl (hd_int z0)) evd_int)) (fun _ H1 e1 => ?_) fun _ H1 e1 => ?_
  · have hrow1 := e1 _ _ hrow
    refine q_asg (K := K) (evd_IC (g := fun i j => i % j) (evd_int1 (evd_cell (j := 0) (x := z0) rfl hrow1 rfl (hd_int z0))) (evd_var (i := 1) rfl (hd_int m)) (by omega)) fun v H2 e2 hv => ?_
    have hrow2 := e2 _ _ hrow1
    refine q_cell (K := K) (j := 3) (evd_IC (g := fun i j => i / j) (evd_cell (j := 0) (x := z0) rfl hrow2 rfl (hd_int z0)) (evd_var (i := 1) rfl (hd_int m)) ⟨by omega, by omega⟩) rfl hrow2 rfl fun H3 e3 => ?_
    refine ⟨_, rfl, ?_⟩
    rw [Hd.int hv]
    have b13 : Bar r H H3 := Bar.of ((e1.trans e2).trans e3)
    exact k _ _ (hmod _).1 (hmod _).2 (b13.trans Bar.store) ⟨c, s0, _, upd_same, (b13.trans Bar.store).listF nar hscr, nar, hc0⟩
  · have hrow1 := e1 _ _ hrow
    refine q_cell (K := K) (j := 1) (evd_I (g := fun i j => i + j) (evd_cell (j := 0) (x := c) rfl hrow1 rfl (hd_int c)) evd_int) rfl hrow1 rfl fun H2 e2 => ?_
    have b2 : Bar r H (upd H2 r (.lst [V.ref a, .int (c + 1), .int s0, .int z0])) := (Bar.of (e1.trans e2)).trans Bar.store
    have hrow2 : (upd H2 r (.lst [V.ref a, .int (c + 1), .int s0, .int z0])) r = some (.lst [V.ref a, .int (c + 1), .int s0, .int z0]) := upd_same
    show _
    generalize hG : upd H2 r (.lst [V.ref a, .int (c + 1), .int s0, .int z0]) = G at b2 hrow2
    have hG' : upd H2 r (HO.lst ([V.ref a, V.int c, V.int s0, V.int z0].set 1 (V.int (c + 1)))) = G := hG
    rw [hG']
    have hscr2 := b2.listF nar hscr
    have hscrD : Hd K G (.ref a) ns := hd_list hscr2 (hds_ints ns)
    refine q_when (evb_test (K := K) (evd_IB (g := fun i j => decide (j < i)) (evd_cell (j := 0) (x := c + 1) rfl hrow2 rfl (hd_int _)) (evd_lenL (evd_cell (j := 0) (x := ns) rfl hrow2 rfl hscrD)))) (fun _ H3 e3 => ?_) fun hlen H3 e3 => ?_
    · have hrow3 := e3 _ _ hrow2
      refine q_cell (K := K) (j := 2) (evd_IC (g := fun i j => i % j) (evd_int1 (evd_I (g := fun i j => i + j) (evd_IC (C := CMul) (g := fun i j => i * j) (evd_cell (j := 0) (x := s0) rfl hrow3 rfl (hd_int s0)) evd_int (.inr ⟨by decide, by decide⟩)) evd_int)) evd_int (by decide)) rfl hrow3 rfl fun H4 e4 => ?_
      have b4 : Bar r G H4 := Bar.of (e3.trans e4)
      have hrow4 : ∀ y : Int, (upd H4 r (.lst [V.ref a, .int (c + 1), .int y, .int z0])) r = some (.lst [V.ref a, .int (c + 1), .int y, .int z0]) := fun y => upd_same
      refine s_ret (K := K) (evd_IC (g := fun i j => i % j) (evd_int1 (evd_IC (C := CDiv) (g := fun i j => i / j) (evd_cell (j := 0) rfl (hrow4 _) rfl (hd_int _)) evd_int ⟨by decide, by decide⟩)) (evd_var (i := 1) rfl (hd_int m)) (by omega)) fun v H5 e5 hv => ?_
      rw [Hd.int hv]
      have b5 : Bar r G H5 := (b4.trans Bar.store).trans (Bar.of e5)
      exact k _ _ (hmod _).1 (hmod _).2 (b2.trans b5) ⟨c + 1, _, z0, e5 _ _ (hrow4 _), b5.listF nar hscr2, nar, by omega⟩
    · have hlen' : c + 1 ≤ (ns.length : Int) := by
        have := of_decide_eq_false hlen
        omega
      have hrow3 := e3 _ _ hrow2
      have hcl : c.toNat < ns.length := by omega
      have hcell : ns[c.toNat]? = some ns[c.toNat] := List.getElem?_eq_getElem hcl
      refine q_asg (K := K) (evd_ixL (j := c.toNat) (evd_cell (j := 0) (x := ns) rfl hrow3 rfl (hscrD.up e3)) (evd_I (g := fun i j => i - j) (evd_cell (j := 0) (x := c + 1) rfl hrow3 rfl (hd_int _)) evd_int) (by omega) hcell) fun v H4 e4 hv => ?_
      rw [Hd.int hv]
      have hrow4 := e4 _ _ hrow3
      refine q_cell (K := K) (j := 2) (evd_IC (g := fun i j => i % j) (evd_int1 (evd_I (g := fun i j => i + j) (evd_I (g := fun i j => i + j) (evd_IC (C := CMul) (g := fun i j => i * j) (evd_cell (j := 0) (x := s0) rfl hrow4 rfl (hd_int s0)) evd_int (.inr ⟨by decide, by decide⟩)) (evd_var (i := 3) rfl (hd_int _))) evd_int)) evd_int (by decide)) rfl hrow4 rfl fun H5 e5 => ?_
      have b5 : ∀ y : Int, Bar r G (upd H5 r (.lst [V.ref a, .int (c + 1), .int y, .int z0])) := fun y => (Bar.of ((e3.trans e4).trans e5)).trans Bar.store
      have hrow5 : ∀ y : Int, (upd H5 r (.lst [V.ref a, .int (c + 1), .int y, .int z0])) r = some (.lst [V.ref a, .int (c + 1), .int y, .int z0]) := fun y => upd_same
      have fin : ∀ (y : Int) (H6 : Hp) (z1 : Int), Bar r G H6 → H6 r = some (.lst [V.ref a, .int (c + 1), .int y, .int z1]) → tRet (tOp (rI (fun _ j => 0 < j) fun i j => .int (i % j)) (tCB rInt1 (tCons (tVar 3) tNil)) (tVar 1)) { nx := fun _ H' => Q .non H', rt := Q } [some (V.ref r), some (V.int m), none, some (V.int ns[c.toNat])] H6 := fun y H6 z1 b6 h6 =>
        s_ret (K := K) (evd_IC (g := fun i j => i % j) (evd_int1 (evd_var (i := 3) rfl (hd_int _))) (evd_var (i := 1) rfl (hd_int m)) (by omega)) fun v H7 e7 hv => by
          rw [Hd.int hv]
          have b7 : Bar r G H7 := b6.trans (Bar.of e7)
          exact k _ _ (hmod _).1 (hmod _).2 (b2.trans b7) ⟨c + 1, y, z1, e7 _ _ h6, b7.listF nar hscr2, nar, by omega⟩
      refine q_when (evb_test (K := K) (evd_IB (g := fun i j => decide (j ≤ i)) (evd_var (i := 3) rfl (hd_int _)) (evd_IC (C := CPow) (g := fun i j => i ^ j.toNat) (evd_int (i := 10)) (evd_int (i := 18)) ⟨by decide, by decide, by decide⟩))) (fun _ H6 e6 => ?_) fun _ H6 e6 => ?_
      · refine s_cell (K := K) (j := 3) (evd_IC (C := CDiv) (g := fun i j => i / j) (evd_var (i := 3) rfl (hd_int _)) (evd_var (i := 1) rfl (hd_int m)) ⟨by omega, by omega⟩) rfl (e6 _ _ (hrow5 _)) rfl fun H7 e7 => ?_
        exact fin _ _ _ (((b5 _).trans (Bar.of (e6.trans e7))).trans Bar.store) upd_same
      · exact fin _ _ _ ((b5 _).trans (Bar.of e6)) (e6 _ _ (hrow5 _))
end
end K76
set_option Elab.async false
set_option linter.all false
set_option maxRecDepth 100000
/-! K76, part 6e: one drawn of some; the state of the drawn rules -/
namespace K76
open PySem PySem.Spec PyProof.Rows L2
open PySem.W (Tup Datum DatumOrd)
def spPick (K : PySem.W.Frag) : Sp := fun vs H Q _ => ∃ (r l a : Addr) (ns : List Int) (ws : List V), vs = [.ref r, .ref l] ∧ RowSt K a ns H r ∧ SqL K H l ws ∧ l ≠ r ∧ 1 ≤ ws.length ∧ ws.length ≤ 1000000 ∧
  ∀ v H', v ∈ ws → Bar r H H' → RowSt K a ns H' r → Q v H'
section
variable {P : Program} {w : World} {K : PySem.W.Frag} {mg : Str → Option Value} {base : Heap} {C : Addr}
theorem scPick : FnScope ["_law_row", "_law_things"] ["_law_row", "_law_things"] (defScope sPick) := ⟨rfl, rfl, rfl, by decide +kernel, rfl, by decide +kernel, by decide +kernel⟩
theorem ok_pick {f : Addr} {fd : FuncData} (F : Fun K "_law_pick" "_law_pick" sPick f fd) (T : Txt K mg C) (G : Callee P w K mg base 1 "_law_taken" ["_law_row", "_law_many"] (spTaken K)) : FnOk P w K mg base CX0 2 f fd ["_law_row", "_law_things"] (spPick K) := by
  refine F.ok scPick (fun vs H Q E h => ?_) (fun cdv A outer s H vs Q E hr h => ?_)
  · obtain ⟨r, l, a, ns, ws, rfl, _⟩ := h
    rfl
  obtain ⟨r, l, a, ns, ws, rfl, st, sq, nlr, hz1, hz2, k⟩ := h
  refine ⟨_, pss_one (ps_ret (pe_ix ix_list (pv 1) (pe_cal G hr (by rfl) (pa_cons (pv 0) (pa_cons (pe_callB call_len_seq (by rfl) T.len PySem.boot_len (pa_cons (pv 1) pa_nil)) pa_nil))) (fun _ _ => rfl))), ?_⟩
  refine ⟨_, rfl, _, rfl, _, rfl, l, ws, rfl, .inl sq, r, ws.length, a, ns, rfl, st, by omega, by omega, fun z H' z0 z1 b st' => ?_⟩
  obtain ⟨j, rfl⟩ : ∃ j : Nat, z = (j : Int) := ⟨z.toNat, by omega⟩
  have hlt : j < ws.length := by omega
  exact ⟨l, ws, j, ws[j], rfl, rfl, b.list nlr sq, atI_nat (List.getElem?_eq_getElem hlt), k _ _ (List.getElem_mem hlt) b st'⟩
end

/-! ### what stays of the drawn rules -/
theorem Hds.memW {α : Type} [DecidableEq α] [Datum α] {K : PySem.W.Frag} {H : Hp} : ∀ {ws : List V} {xs : List α}, Hds K H ws xs → ∀ v ∈ ws, ∃ x ∈ xs, Hd K H v x
  | _, [], h, v, hv => by
    rw [h.nil_inv] at hv
    cases hv
  | _, x :: xs, h, v, hv => by
    obtain ⟨u, r, rfl, h1, h2⟩ := h.cons_inv
    rcases List.mem_cons.mp hv with e | hv
    · exact ⟨x, List.mem_cons_self, by rw [e]; exact h1⟩
    · obtain ⟨y, hy, hd⟩ := h2.memW v hv
      exact ⟨y, List.mem_cons_of_mem _ hy, hd⟩
theorem sqL_free {K : PySem.W.Frag} {H H' : Hp} {a p : Addr} {xs : List V} {o : HO} (h : SqL K H a xs) (hp : H p = none) (h' : SqL K H' a xs) : SqL K (upd H' p o) a xs := by
  by_cases e : a = p
  · subst e
    rcases h with (h | ⟨u, h⟩) | h
    · rw [hp] at h; cases h
    · rw [hp] at h; cases h
    · exact .inr h
  · rcases h' with (h' | ⟨u, h'⟩) | h'
    · exact .inl (.inl (by rw [upd_ne e]; exact h'))
    · exact .inl (.inr ⟨u, by rw [upd_ne e]; exact h'⟩)
    · exact .inr h'
/-- the heap behind some draws: H0 the heap ahead of all; at pf the rules so far -/
structure SomeSt (K : PySem.W.Frag) (r a : Addr) (ns : List Int) (H0 : Hp) (pf : Addr) (found : List Rule) (H : Hp) : Prop where
  st : RowSt K a ns H r
  bar : Bar r H0 H
  new : H0 pf = none
  sq : SqL K H0 a (ns.map V.int)
  npr : pf ≠ r
  lst : ∃ wf, H pf = some (.lst wf) ∧ Hds K H wf found
section
variable {K : PySem.W.Frag} {r a pf : Addr} {ns : List Int} {H0 H H' : Hp} {found : List Rule}
theorem SomeSt.same (S : SomeSt K r a ns H0 pf found H) (e : Same H H') : SomeSt K r a ns H0 pf found H' :=
  ⟨S.st.same e, S.bar.trans (Bar.of e), S.new, S.sq, S.npr, let ⟨wf, h1, h2⟩ := S.lst; ⟨wf, e _ _ h1, h2.up e⟩⟩
theorem SomeSt.keepT (S : SomeSt K r a ns H0 pf found H) (b : Bar r H H') : KeepT K H H' := let ⟨_, h⟩ := S.st.lst; b.tups h
theorem SomeSt.drawn (S : SomeSt K r a ns H0 pf found H) (b : Bar r H H') (st : RowSt K a ns H' r) : SomeSt K r a ns H0 pf found H' :=
  ⟨st, S.bar.trans b, S.new, S.sq, S.npr, let ⟨wf, h1, h2⟩ := S.lst; ⟨wf, b _ _ S.npr h1, h2.keep (S.keepT b)⟩⟩
theorem SomeSt.put {wf : List V} {y : V} {u : Rule} (S : SomeSt K r a ns H0 pf found H) (h1 : H pf = some (.lst wf)) (h2 : Hds K H wf found) (hy : Hd K H y u) : SomeSt K r a ns H0 pf (found ++ [u]) (upd H pf (.lst (wf ++ [y]))) := by
  obtain ⟨c, s, z, h3, h4, h5, h6⟩ := S.st
  refine ⟨⟨c, s, z, by rw [upd_ne S.npr.symm]; exact h3, sqL_free S.sq S.new h4, h5, h6⟩, fun b o hb ho => ?_, S.new, S.sq, S.npr, wf ++ [y], upd_same, ?_⟩
  · rw [upd_ne (ne_of_none ho S.new)]
    exact S.bar b o hb ho
  · exact (h2.keep (KeepT.store h1)).app (hds_cons (hy.keep (KeepT.store h1)) hds_nil)
theorem SomeSt.other (S : SomeSt K r a ns H0 pf found H) {pg : Addr} {wg : List V} {found' : List Rule} (e : Same H H') (hn : H pg = none) (h : H' pg = some (.lst wg)) (hd : Hds K H' wg found') : SomeSt K r a ns H0 pg found' H' := by
  have hn0 : H0 pg = none := by
    cases q : H0 pg with
    | none => rfl
    | some o =>
      by_cases e2 : pg = r
      · obtain ⟨ws, h3⟩ := S.st.lst
        rw [e2, h3] at hn
        cases hn
      · have := S.bar pg o e2 q
        rw [hn] at this
        cases this
  refine ⟨S.st.same e, S.bar.trans (Bar.of e), hn0, S.sq, fun e2 => ?_, wg, h, hd⟩
  obtain ⟨ws, h3⟩ := S.st.lst
  rw [e2, h3] at hn
  cases hn
variable {σ : L2.St} {te : TE} {D : Ends}
/-- xs.append(e) -/
theorem s_put {i : Nat} {u : Rule} (S : SomeSt K r a ns H0 pf found H) (hz : found.length ≤ 1000) (hσ : σ[i]? = some (some (.ref pf))) (h : EvD K te σ H u) (k : ∀ H1 H2, Same H H1 → KeepT K H1 H2 → (∀ p ws, p ≠ pf → H1 p = some (.lst ws) → H2 p = some (.lst ws)) → SomeSt K r a ns H0 pf (found ++ [u]) H2 → D.nx σ H2) :
    tDrop (tBM K "list" rAppend (tVar i) (tCons te tNil)) D σ H := by
  obtain ⟨wf0, hf0, _⟩ := S.lst
  refine ⟨_, hσ, .inl ⟨rfl, _, .inl (.inl hf0)⟩, h H (Same.refl _) _ fun y H1 e1 hy => ?_⟩
  obtain ⟨wf, hf, hw⟩ := (S.same e1).lst
  have hl := hw.len
  have hline : (1000 : Nat) < sizeLine := by decide
  exact ⟨pf, wf, y, rfl, rfl, hf, by omega, k H1 _ e1 (KeepT.store hf) (fun p ws ne hp => by rw [upd_ne ne]; exact hp) ((S.same e1).put hf hw hy)⟩
end
end K76
set_option Elab.async false
set_option linter.all false
set_option maxRecDepth 100000
set_option maxHeartbeats 1000000
/-! K76, part 6f: the drawn rules -/
namespace K76
open PySem PySem.Spec PyProof.Rows L2
open PySem.W (Tup Datum DatumOrd)
theorem rowsN_bits : ∀ n, n < 7 → ((rowsN n).all fun r => r.items.all fun v => decide (v = 0) || decide (v = 1)) = true := by decide +kernel
theorem row_bit {n : Nat} (hn : n < 7) {r : Row} (h : r ∈ rowsN n) {j : Nat} {v : Int} (hv : r.items[j]? = some v) : v = 0 ∨ v = 1 := by
  have h1 := List.all_eq_true.mp (rowsN_bits n hn) r h
  have h2 := List.all_eq_true.mp h1 v (List.mem_of_getElem? hv)
  rw [Bool.or_eq_true, decide_eq_true_eq, decide_eq_true_eq] at h2
  exact h2
theorem okR_ring {n i p q : Int} (h0 : 0 ≤ i) (h1 : i + 1 ≤ n - 1) (hp : p = 0 ∨ p = 1) (hq : q = 0 ∨ q = 1) : okR n ((i, p), (i + 1, q)) = true := by
  have bit : ∀ x : Int, x = 0 ∨ x = 1 → (decide (0 ≤ x) && decide (x ≤ 1)) = true := fun x hx => by
    rcases hx with rfl | rfl <;> decide
  have e1 : okW n (i, p) = true := by
    show ((decide (0 ≤ i) && decide (i ≤ n - 1)) && (decide (0 ≤ p) && decide (p ≤ 1))) = true
    rw [bit p hp, decide_eq_true h0, decide_eq_true (show i ≤ n - 1 by omega)]; rfl
  have e2 : okW n (i + 1, q) = true := by
    show ((decide (0 ≤ i + 1) && decide (i + 1 ≤ n - 1)) && (decide (0 ≤ q) && decide (q ≤ 1))) = true
    rw [bit q hq, decide_eq_true (show 0 ≤ i + 1 by omega), decide_eq_true h1]; rfl
  have e3 : DatumOrd.lt ((i + 1, q) : Want) ((i, p) : Want) = false := by
    show (if i + 1 = i then DatumOrd.lt q p else decide (i + 1 < i)) = false
    rw [if_neg (by omega)]
    exact decide_eq_false (by omega)
  unfold okR
  rw [e1, e2, e3]
  show (true && (true && decide (((i + 1, q) : Want) ≠ offW (i, p)))) = true
  rw [decide_eq_true]
  · rfl
  · unfold offW
    intro e
    have e' : i + 1 = i := congrArg Prod.fst e
    omega
def GdR (n : Int) (b : Nat) (rs : List Rule) : Prop := (∀ u ∈ rs, okR n u = true) ∧ 1 ≤ rs.length ∧ rs.length ≤ b
/-- the heap with the rules to draw from at pe -/
structure EvSt (K : PySem.W.Frag) (r a : Addr) (ns : List Int) (H0 : Hp) (pf pe : Addr) (found rs : List Rule) (v5 : V) (row : Row) (H : Hp) : Prop where
  S : SomeSt K r a ns H0 pf found H
  pl : Hd K H v5 row
  ne1 : pe ≠ r
  ne2 : pe ≠ pf
  ls : ∃ we, H pe = some (.lst we) ∧ Hds K H we rs
section
variable {K : PySem.W.Frag} {r a pf pe : Addr} {ns : List Int} {H0 H H' : Hp} {found rs rs' : List Rule} {v5 : V} {row : Row}
theorem EvSt.same (S : EvSt K r a ns H0 pf pe found rs v5 row H) (e : Same H H') : EvSt K r a ns H0 pf pe found rs v5 row H' :=
  ⟨S.S.same e, S.pl.up e, S.ne1, S.ne2, let ⟨we, h1, h2⟩ := S.ls; ⟨we, e _ _ h1, h2.up e⟩⟩
theorem EvSt.next (S : EvSt K r a ns H0 pf pe found rs v5 row H) (e : Same H H') {p : Addr} {ws : List V} (hn : H p = none) (hp : H' p = some (.lst ws)) (hw : Hds K H' ws rs') : EvSt K r a ns H0 pf p found rs' v5 row H' :=
  ⟨S.S.same e, S.pl.up e, fun e2 => (by
    obtain ⟨ws, h3⟩ := S.S.st.lst
    rw [e2, h3] at hn
    cases hn), fun e2 => (by
    obtain ⟨ws, h3, _⟩ := S.S.lst
    rw [e2, h3] at hn
    cases hn), ws, hp, hw⟩
theorem EvSt.drawn (S : EvSt K r a ns H0 pf pe found rs v5 row H) (b : Bar r H H') (st : RowSt K a ns H' r) : EvSt K r a ns H0 pf pe found rs v5 row H' :=
  ⟨S.S.drawn b st, S.pl.keep (S.S.keepT b), S.ne1, S.ne2, let ⟨we, h1, h2⟩ := S.ls; ⟨we, b _ _ S.ne1 h1, h2.keep (S.S.keepT b)⟩⟩
theorem EvSt.put {found' : List Rule} (S : EvSt K r a ns H0 pf pe found rs v5 row H) (k : KeepT K H H') (kl : ∀ p ws, p ≠ pf → H p = some (.lst ws) → H' p = some (.lst ws)) (S' : SomeSt K r a ns H0 pf found' H') : EvSt K r a ns H0 pf pe found' rs v5 row H' :=
  ⟨S', S.pl.keep k, S.ne1, S.ne2, let ⟨we, h1, h2⟩ := S.ls; ⟨we, kl _ _ S.ne2 h1, h2.keep k⟩⟩
end
/-- what stands behind each of the ifs -/
def MidE (K : PySem.W.Frag) (r a : Addr) (ns : List Int) (H0 : Hp) (pf : Addr) (n y z : Int) (v5 : V) (row : Row) (b : Nat) (q : Int → Bool) (σ : L2.St) (H : Hp) : Prop :=
  ∃ pe rs, σ = [some (.ref r), some (.int n), some (.ref pe), some (.ref pf), some (.int y), some v5, some (.int z), none, none, none] ∧ EvSt K r a ns H0 pf pe [] rs v5 row H ∧ GdR n b rs ∧ (q y = true → rs = rulesN n.toNat)
abbrev eRu (K : PySem.W.Frag) (i j : Int) : TE := tOp (rIxT K) (tOp (rIxT K) (tVar 9) (tC (.int i))) (tC (.int j))
abbrev tt2 (K : PySem.W.Frag) : TT := tAnd (tTest (tOp rNe (eRu K 0 1) (eRu K 1 1))) (tTest (tOp rNe (eRu K 0 0) (eRu K 1 0)))
abbrev tt3 (K : PySem.W.Frag) : TT := tAnd (tTest (tOp rEq (eRu K 0 1) (eRu K 1 1))) (tTest (tOp rNe (eRu K 0 0) (eRu K 1 0)))
section
variable {K : PySem.W.Frag} {r a pf : Addr} {ns : List Int} {H0 H : Hp} {n y z : Int} {v5 : V} {row : Row} {b : Nat} {σ : L2.St} {D : Ends} {c : Int}
theorem eRu00 {σ : L2.St} {H : Hp} {v : V} {u : Rule} (h : σ[9]? = some (some v)) (hu : Hd K H v u) : EvD K (eRu K 0 0) σ H u.1.1 := evd_fst (evd_fst (p := u) (evd_var h hu))
theorem eRu01 {σ : L2.St} {H : Hp} {v : V} {u : Rule} (h : σ[9]? = some (some v)) (hu : Hd K H v u) : EvD K (eRu K 0 1) σ H u.1.2 := evd_snd (evd_fst (p := u) (evd_var h hu))
theorem eRu10 {σ : L2.St} {H : Hp} {v : V} {u : Rule} (h : σ[9]? = some (some v)) (hu : Hd K H v u) : EvD K (eRu K 1 0) σ H u.2.1 := evd_fst (evd_snd (p := u) (evd_var h hu))
theorem eRu11 {σ : L2.St} {H : Hp} {v : V} {u : Rule} (h : σ[9]? = some (some v)) (hu : Hd K H v u) : EvD K (eRu K 1 1) σ H u.2.2 := evd_snd (evd_snd (p := u) (evd_var h hu))
/-- if way == c: every = e -/
theorem if_way {b' : Nat} {q q' : Int → Bool} {te : TE} {tU : TS} (M : MidE K r a ns H0 pf n y z v5 row b q σ H) (hb : b ≤ b') (hf : ∀ x, q' x = true → q x = true ∧ x ≠ c) (he : y = c → ∀ pe rs H1, EvSt K r a ns H0 pf pe [] rs v5 row H1 → GdR n b rs → (q y = true → rs = rulesN n.toNat) →
      ∃ rs', GdR n b' rs' ∧ EvL K te [some (.ref r), some (.int n), some (.ref pe), some (.ref pf), some (.int y), some v5, some (.int z), none, none, none] H1 rs')
    (k : ∀ σ' H', MidE K r a ns H0 pf n y z v5 row b' q' σ' H' → tU D σ' H') :
    Evl.tCut (tIfS (tTest (tOp rEq (tVar 4) (tC (.int c)))) (tAsg te (gName 2)) tNext) tU D σ H := by
  obtain ⟨pe, rs, rfl, S, g, g4⟩ := M
  refine ⟨MidE K r a ns H0 pf n y z v5 row b' q', ?_, k⟩
  refine s_when (evb_test (K := K) (evd_eqI (evd_var (i := 4) rfl (hd_int y)) evd_int)) (fun h H1 e1 => ?_) fun _ H1 e1 => ?_
  · have hy := of_decide_eq_true h
    obtain ⟨rs', g', hl⟩ := he hy pe rs H1 (S.same e1) g g4
    refine s_asgL hl fun p ws H2 hn e2 hp hw => ⟨p, rs', rfl, (S.same e1).next e2 hn hp hw, g', fun h => absurd hy (hf _ h).2⟩
  · exact ⟨pe, rs, rfl, S.same e1, ⟨g.1, g.2.1, by have := g.2.2; omega⟩, fun h => g4 (hf _ h).1⟩
end
end K76
set_option Elab.async false
set_option linter.all false
set_option maxRecDepth 100000
set_option maxHeartbeats 2000000
/-! K76, part 6g: the def that draws rules -/
namespace K76
open PySem PySem.Spec PyProof.Rows L2
open PySem.W (Tup Datum DatumOrd)
abbrev nSome : List Str := ["_law_row", "_law_many", "_law_every", "_law_found", "_law_way", "_law_planted", "_law_size", "_law_turn", "_law_at", "_law_rule"]
theorem scSome : FnScope nSome ["_law_row", "_law_many"] (defScope sSome) := ⟨rfl, rfl, rfl, by decide +kernel, rfl, by decide +kernel, by decide +kernel⟩
/-- drawn rules: r the draws' state, n places -/
def spSome (K : PySem.W.Frag) : Sp := fun vs H Q _ => ∃ (r : Addr) (n : Int) (a : Addr) (ns : List Int), vs = [.ref r, .int n] ∧ RowSt K a ns H r ∧ 1 ≤ n ∧ n ≤ 6 ∧
  ∀ v told H', Hd K H' v (Tup.mk told) → Good n told → told.length ≤ 64 → Bar r H H' → RowSt K a ns H' r → Q v H'
abbrev tSomeTell (K : PySem.W.Frag) (w : World) : TS := tRet (tCB (rTupOf K) (tCons (tCB (rSortedS K w) (tCons (tCB (rSetR K w) (tCons (tVar 3) tNil)) tNil)) tNil))
section
variable {P : Program} {w : World} {K : PySem.W.Frag} {mg : Str → Option Value} {base : Heap} {C : Addr}
theorem nodup_few {α : Type} [DecidableEq α] : ∀ (l D : List α), l.Nodup → (∀ x ∈ l, x ∈ D) → l.length ≤ D.length
  | [], _, _, _ => Nat.zero_le _
  | x :: l, D, h, hs => by
    rw [List.nodup_cons] at h
    have hx := hs x List.mem_cons_self
    have h1 := nodup_few l (D.erase x) h.2 fun y hy => (List.mem_erase_of_ne (fun e => h.1 (by rw [← e]; exact hy))).mpr (hs y (List.mem_cons_of_mem _ hy))
    rw [List.length_erase_of_mem hx] at h1
    have : 1 ≤ D.length := List.length_pos_of_mem hx
    simp only [List.length_cons]
    omega
theorem asc_of {bs : List Rule} (h1 : bs.Nodup) (h2 : bs.Pairwise fun x y => leD x y = true) : bs.Pairwise fun a b => DatumOrd.lt a b = true := by
  refine (List.Pairwise.and h1 h2).imp fun {x y} h => ?_
  cases hl : DatumOrd.lt x y with
  | true => rfl
  | false =>
    have h2 : DatumOrd.lt y x = false := by
      have := h.2
      unfold leD at this
      rwa [Bool.not_eq_true'] at this
    exact absurd (Tri.tri x y hl h2) h.1
/-- the end: tuple(sorted(set(found))) -/
theorem some_tell {r a pf : Addr} {ns : List Int} {H0 H : Hp} {found : List Rule} {n : Int} {σ : L2.St} {D : Ends} (h1 : 1 ≤ n) (h6 : n ≤ 6) (hσ : σ[3]? = some (some (.ref pf))) (S : SomeSt K r a ns H0 pf found H) (hok : ∀ u ∈ found, okR n u = true) (hz : found.length < 64)
    (k : ∀ v told H', Hd K H' v (Tup.mk told) → Good n told → told.length ≤ 64 → Bar r H0 H' → RowSt K a ns H' r → D.rt v H') : tSomeTell K w D σ H := by
  obtain ⟨wf, hf, hw⟩ := S.lst
  refine ⟨_, hσ, pf, wf, found, rfl, SqL.of hf, hw, hz, fun x L hx hL1 hL2 => ⟨x, L, rfl, upd_same, fun p hp => ?_, fun p ws' bs hp pm nd hws => ⟨p, ws', rfl, .inl ⟨SqL.of upd_same, fun l hl => ?_⟩⟩⟩⟩
  · have e1 : Same H (upd H x (SetRO w x L)) := fun b o hb => by rw [upd_ne (ne_of_none hb hx)]; exact hb
    exact (hL1 p hp).1.up e1
  · have e1 : Same H (upd H x (SetRO w x L)) := fun b o hb => by rw [upd_ne (ne_of_none hb hx)]; exact hb
    have e2 : Same (upd H x (SetRO w x L)) (upd (upd H x (SetRO w x L)) p (.lst ws')) := fun b o hb => by rw [upd_ne (ne_of_none hb hp)]; exact hb
    have e3 : Same (upd (upd H x (SetRO w x L)) p (.lst ws')) (upd (upd (upd H x (SetRO w x L)) p (.lst ws')) l (.tup ws')) := fun b o hb => by rw [upd_ne (ne_of_none hb hl)]; exact hb
    have e := (e1.trans e2).trans e3
    have mem : ∀ u ∈ bs, u ∈ found := fun u hu => by
      obtain ⟨p, hp, rfl⟩ := List.mem_map.mp (pm.mem_iff.mp hu)
      exact (hL1 p hp).2
    have hbl : bs.length ≤ found.length := nodup_few bs found nd mem
    have hms : (bs.mergeSort leD).Perm bs := List.mergeSort_perm _ _
    refine k _ (bs.mergeSort leD) _ (hd_tup (SqT.of upd_same) (hws.up (e2.trans e3))) ⟨h1, by omega, fun u hu => hok u (mem u (hms.mem_iff.mp hu)), ?_, ?_⟩ ?_ (S.bar.trans (Bar.of e)) (S.st.same e)
    · exact asc_of (hms.nodup_iff.mpr nd) (List.pairwise_mergeSort (fun x y z => leD_total.trans x y z) (fun x y => by rw [Bool.or_eq_true]; exact leD_total.total x y) _)
    · rw [List.length_mergeSort]; omega
    · rw [List.length_mergeSort]; omega
end
end K76
set_option Elab.async false
set_option linter.all false
set_option maxRecDepth 100000
set_option maxHeartbeats 4000000
/-! K76, part 6h: the def that draws rules, walked -/
namespace K76
open PySem PySem.Spec PyProof.Rows L2
open PySem.W (Tup Datum DatumOrd)
section
variable {P : Program} {w : World} {K : PySem.W.Frag} {mg : Str → Option Value} {base : Heap} {C : Addr}
abbrev eKeeps (K : PySem.W.Frag) : TT := tB (tCall (spLawKeeps K) [] E0 (tCons (tLst (tCons (tVar 9) tNil)) (tCons (tVar 5) tNil)))
abbrev lcSome (K : PySem.W.Frag) (tt : TT) : TE := tLc (iList K (tVar 2)) (gName 9) tt (tVar 9) [9]
abbrev eFirst (K : PySem.W.Frag) (i : Int) : TE := tSl (rSlL K) (tVar 2) tNoPart (tPart (tC (.int i)))
abbrev ttEven (K : PySem.W.Frag) : TT := tTest (tOp rEq (tOp (rI (fun _ j => 0 < j) fun i j => .int (i % j)) (tOp (rI0 fun i j => .int (i - j)) (eRu K 0 0) (eRu K 1 0)) (tC (.int 2))) (tC (.int 0)))
abbrev tS1 (K : PySem.W.Frag) : TS := tPar3 2 3 4 (tCons (tCall (spAllRules K) [] E0 (tCons (tVar 1) tNil)) (tCons (tLst tNil) (tCons (tCall (spTaken K) [] E0 (tCons (tVar 0) (tCons (tC (.int 7)) tNil))) tNil)))
abbrev tS2 (K : PySem.W.Frag) : TS := tAsg (tTup (tCons (tCall (spPick K) [] E0 (tCons (tVar 0) (tCons (tCall (spLawRows K) [] E0 (tCons (tVar 1) tNil)) tNil)))
  (tCons (tCall (spTaken K) [] E0 (tCons (tVar 0) (tCons (tOp (rI0 fun i j => .int (i + j)) (tOp (rI CMul fun i j => .int (i * j)) (tC (.int 2)) (tVar 1)) (tC (.int 3))) tNil))) tNil))) (gTup K 2 (gCons (gName 5) (gCons (gName 6) gNil)))
abbrev tWay (c : Int) (te : TE) : TS := tIfS (tTest (tOp rEq (tVar 4) (tC (.int c)))) (tAsg te (gName 2)) tNext
abbrev tFor1 (K : PySem.W.Frag) : TS := tFor (iRng1 (tCons (tOp (rI0 fun i j => .int (i + j)) (tVar 6) (tOp (rI CMul fun i j => .int (i * j)) (tC (.int 2)) (tCB rInt1 (tCons (tOp rEq (tVar 4) (tC (.int 5))) tNil)))) tNil)) (gName 7)
  (tDrop (tBM K "list" rAppend (tVar 3) (tCons (tCall (spPick K) [] E0 (tCons (tVar 0) (tCons (tVar 2) tNil))) tNil)))
abbrev eAt (K : PySem.W.Frag) : TE := tOp (rIxT K) (tVar 5) (tVar 8)
abbrev eNext : TE := tOp (rI0 fun i j => .int (i + j)) (tVar 8) (tC (.int 1))
abbrev eAtN (K : PySem.W.Frag) : TE := tOp (rIxT K) (tVar 5) eNext
abbrev eNot (te : TE) : TE := tOp (rI0 fun i j => .int (i - j)) (tC (.int 1)) te
abbrev ePair (ta tb : TE) : TE := tTup (tCons ta (tCons tb tNil))
abbrev tRing (K : PySem.W.Frag) : TS := tSeq (tDrop (tBM K "list" rAppend (tVar 3) (tCons (ePair (ePair (tVar 8) (eAt K)) (ePair eNext (eNot (eAtN K)))) tNil)))
  (tAsg (tOp rCat (tVar 3) (tOp rRep (tLst (tCons (ePair (ePair (tVar 8) (eNot (eAt K))) (ePair eNext (eAtN K))) tNil)) (tCB rInt1 (tCons (tOp (rI0 fun i j => .bl (decide (j < i))) (tCall (spTaken K) [] E0 (tCons (tVar 0) (tCons (tC (.int 3)) tNil))) (tC (.int 0))) tNil)))) (gName 3))
abbrev tFor2 (K : PySem.W.Frag) : TS := tIfS (tTest (tOp rEq (tVar 4) (tC (.int 6)))) (tFor (iRng1 (tCons (tOp (rI0 fun i j => .int (i - j)) (tVar 1) (tC (.int 1))) tNil)) (gName 8) (tRing K)) tNext
abbrev tSome (K : PySem.W.Frag) (w : World) : TS := tSeq (tS1 K) (tSeq (tS2 K) (Evl.tCut (tWay 1 (lcSome K (eKeeps K))) (Evl.tCut (tWay 2 (tOp rCat (lcSome K (tt2 K)) (eFirst K 2))) (Evl.tCut (tWay 3 (tOp rCat (lcSome K (tt3 K)) (eFirst K 1)))
  (Evl.tCut (tWay 4 (lcSome K (ttEven K))) (Evl.tCut (tFor1 K) (Evl.tCut (tFor2 K) (tSomeTell K w))))))))
set_option maxHeartbeats 8000000 in
theorem walk_some {f : Addr} {fd : FuncData} (T : Txt K mg C) (Gt : Callee P w K mg base 1 "_law_taken" ["_law_row", "_law_many"] (spTaken K)) (Gp : Callee P w K mg base 2 "_law_pick" ["_law_row", "_law_things"] (spPick K))
    (Ga : Callee P w K mg base 1 "_law_all_rules" ["_law_many"] (spAllRules K)) (Gr : Callee P w K mg base 1 "_law_rows" ["_law_many"] (spLawRows K)) (Gk : Callee P w K mg base 1 "_law_keeps" ["_law_rules", "_law_row"] (spLawKeeps K))
    {cdv : Value} {A : Around} {outer : List Env} {s : Shared} {H : Hp} {E : XK} (hr : Room 2 (A.deeper (envOfC "_law_some_rules" (defScope sSome) s.heap.objs.size f cdv))) :
    PSs (cxOf CX0 P w K mg base nSome "_law_some_rules" (defScope sSome) f cdv A outer s H E).nox (defBody sSome) (tSome K w) := by
  have hr1 := hr.mono (by decide : 1 ≤ 2)
  refine pss_cons (ps_par3 (i := 2) (j := 3) (l := 4) rfl scSome.nd rfl rfl rfl (by decide) (by decide) (by decide) rfl rfl rfl (pa_cons (pe_cal Ga hr1 (by rfl) (pa_cons (pv 1) pa_nil)) (pa_cons (pe_lst pa_nil) (pa_cons (pe_cal Gt hr1 (by rfl) (pa_cons (pv 0) (pa_cons pe_int pa_nil))) pa_nil))) (by rfl))
    (pss_cons (ps_asg (pe_tup (pa_cons (pe_cal Gp hr (by rfl) (pa_cons (pv 0) (pa_cons (pe_cal Gr hr1 (by rfl) (pa_cons (pv 1) pa_nil)) pa_nil))) (pa_cons (pe_cal Gt hr1 (by rfl) (pa_cons (pv 0) (pa_cons (pe_op op_add (pe_op op_mul pe_int (pv 1)) pe_int) pa_nil))) pa_nil)))
      (pg_tup rfl (pgs_cons (pg_name (i := 5) scSome.nd rfl (Or.inr rfl)) (pgs_cons (pg_name (i := 6) scSome.nd rfl (Or.inl rfl)) pgs_nil))))
    (Evl.pss_cut (ps_if (pt_cmpR op_eq (pv 4) pe_int (nomark _)) (pss_one (ps_setLc (i := 2) (own := [("_law_rule", 9)]) (g := gName 9) (tt := eKeeps K) (te := tVar 9) rfl scSome.nd rfl rfl (sw_true rfl rfl rfl (by decide +kernel)) (pi_list (pv 2)) (blkOk_by (N := nSome) (sc := defScope sSome) (by decide +kernel))
        (fun _ _ _ _ _ => pg_name (i := 9) scSome.nd rfl (Or.inl rfl)) (fun _ _ _ _ _ => pts_one (pt_val (pe_cal Gk hr1 (by rfl) (pa_cons (pe_lst (pa_cons (pv 9) pa_nil)) (pa_cons (pv 5) pa_nil))))) (fun _ _ _ _ _ => pv 9))) pss_nil)
    (Evl.pss_cut (ps_if (pt_cmpR op_eq (pv 4) pe_int (nomark _)) (pss_one (ps_set (i := 2) scSome.nd rfl (Or.inl rfl) (pe_op op_cat (pe_lc (own := [("_law_rule", 9)]) (g := gName 9) (tt := tt2 K) (te := tVar 9) rfl scSome.nd (pi_list (pv 2)) (blkOk_by (N := nSome) (sc := defScope sSome) (by decide +kernel))
        (fun _ _ _ _ _ => pg_name (i := 9) scSome.nd rfl (Or.inl rfl)) (fun _ _ _ _ _ => pts_one (PW.pt (pw_and (pt_cmpR op_ne (pe_ix ix_tup (pe_ix ix_tup (pv 9) pe_int (fun _ _ => rfl)) pe_int (fun _ _ => rfl)) (pe_ix ix_tup (pe_ix ix_tup (pv 9) pe_int (fun _ _ => rfl)) pe_int (fun _ _ => rfl)) (nomark _))
          (pw_and1 (pt_cmpR op_ne (pe_ix ix_tup (pe_ix ix_tup (pv 9) pe_int (fun _ _ => rfl)) pe_int (fun _ _ => rfl)) (pe_ix ix_tup (pe_ix ix_tup (pv 9) pe_int (fun _ _ => rfl)) pe_int (fun _ _ => rfl)) (nomark _)))))) (fun _ _ _ _ _ => pv 9)) (pe_slice sl_list (pv 2) po_none (po_some pe_int))))) pss_nil)
    (Evl.pss_cut (ps_if (pt_cmpR op_eq (pv 4) pe_int (nomark _)) (pss_one (ps_set (i := 2) scSome.nd rfl (Or.inl rfl) (pe_op op_cat (pe_lc (own := [("_law_rule", 9)]) (g := gName 9) (tt := tt3 K) (te := tVar 9) rfl scSome.nd (pi_list (pv 2)) (blkOk_by (N := nSome) (sc := defScope sSome) (by decide +kernel))
        (fun _ _ _ _ _ => pg_name (i := 9) scSome.nd rfl (Or.inl rfl)) (fun _ _ _ _ _ => pts_one (PW.pt (pw_and (pt_cmpR op_eq (pe_ix ix_tup (pe_ix ix_tup (pv 9) pe_int (fun _ _ => rfl)) pe_int (fun _ _ => rfl)) (pe_ix ix_tup (pe_ix ix_tup (pv 9) pe_int (fun _ _ => rfl)) pe_int (fun _ _ => rfl)) (nomark _))
          (pw_and1 (pt_cmpR op_ne (pe_ix ix_tup (pe_ix ix_tup (pv 9) pe_int (fun _ _ => rfl)) pe_int (fun _ _ => rfl)) (pe_ix ix_tup (pe_ix ix_tup (pv 9) pe_int (fun _ _ => rfl)) pe_int (fun _ _ => rfl)) (nomark _)))))) (fun _ _ _ _ _ => pv 9)) (pe_slice sl_list (pv 2) po_none (po_some pe_int))))) pss_nil)
    (Evl.pss_cut (ps_if (pt_cmpR op_eq (pv 4) pe_int (nomark _)) (pss_one (ps_setLc (i := 2) (own := [("_law_rule", 9)]) (g := gName 9) (tt := ttEven K) (te := tVar 9) rfl scSome.nd rfl rfl (sw_true rfl rfl rfl (by decide +kernel)) (pi_list (pv 2)) (blkOk_by (N := nSome) (sc := defScope sSome) (by decide +kernel))
        (fun _ _ _ _ _ => pg_name (i := 9) scSome.nd rfl (Or.inl rfl)) (fun _ _ _ _ _ => pts_one (pt_cmpR op_eq (pe_op op_mod (pe_op op_sub (pe_ix ix_tup (pe_ix ix_tup (pv 9) pe_int (fun _ _ => rfl)) pe_int (fun _ _ => rfl)) (pe_ix ix_tup (pe_ix ix_tup (pv 9) pe_int (fun _ _ => rfl)) pe_int (fun _ _ => rfl))) pe_int) pe_int (nomark _))) (fun _ _ _ _ _ => pv 9))) pss_nil)
    (Evl.pss_cut (ps_for PassesOwn.never rfl (pi_range1 (by rfl) T.range (pa_cons (pe_op op_add (pv 6) (pe_op op_mul pe_int (pe_callTy call_int1 (by rfl) T.int (by decide +kernel) (pa_cons (pe_cmpR op_eq (pv 4) pe_int (nomark _)) pa_nil)))) pa_nil)) (pg_name (i := 7) scSome.nd rfl (Or.inl rfl))
      (pss_one (ps_expr (pe_bm PySem.F.plainAttrs_list PySem.F.slot_list_append PySem.F.type_list_append mt_append (pv 3) (pa_cons (pe_cal Gp hr (by rfl) (pa_cons (pv 0) (pa_cons (pv 2) pa_nil))) pa_nil)))))
    (Evl.pss_cut (ps_if (pt_cmpR op_eq (pv 4) pe_int (nomark _)) (pss_one (ps_for PassesOwn.never rfl (pi_range1 (by rfl) T.range (pa_cons (pe_op op_sub (pv 1) pe_int) pa_nil)) (pg_name (i := 8) scSome.nd rfl (Or.inl rfl))
      (pss_cons (ps_expr (pe_bm PySem.F.plainAttrs_list PySem.F.slot_list_append PySem.F.type_list_append mt_append (pv 3) (pa_cons (pe_tup (pa_cons (pe_tup (pa_cons (pv 8) (pa_cons (pe_ix ix_tup (pv 5) (pv 8) (fun _ _ => rfl)) pa_nil)))
          (pa_cons (pe_tup (pa_cons (pe_op op_add (pv 8) pe_int) (pa_cons (pe_op op_sub pe_int (pe_ix ix_tup (pv 5) (pe_op op_add (pv 8) pe_int) (fun _ _ => rfl))) pa_nil))) pa_nil))) pa_nil)))
        (pss_one (ps_set (i := 3) scSome.nd rfl (Or.inl rfl) (pe_op op_cat (pv 3) (pe_op op_rep (pe_lst (pa_cons (pe_tup (pa_cons (pe_tup (pa_cons (pv 8) (pa_cons (pe_op op_sub pe_int (pe_ix ix_tup (pv 5) (pv 8) (fun _ _ => rfl))) pa_nil)))
          (pa_cons (pe_tup (pa_cons (pe_op op_add (pv 8) pe_int) (pa_cons (pe_ix ix_tup (pv 5) (pe_op op_add (pv 8) pe_int) (fun _ _ => rfl)) pa_nil))) pa_nil))) pa_nil))
          (pe_callTy call_int1 (by rfl) T.int (by decide +kernel) (pa_cons (pe_cmpR op_gt (pe_cal Gt hr1 (by rfl) (pa_cons (pv 0) (pa_cons pe_int pa_nil))) pe_int (nomark _)) pa_nil))))))))) pss_nil)
    (pss_one (ps_ret (pe_callTy call_tuple_of (by rfl) T.tup (by decide +kernel) (pa_cons (pe_callB (cr_sortedS rfl hr.units) (by rfl) T.sorted (by decide +kernel) (pa_cons (pe_callTy (cr_setR rfl hr.units) (by rfl) T.set (by decide +kernel) (pa_cons (pv 3) pa_nil)) pa_nil)) pa_nil)))))))))))
end
end K76
set_option Elab.async false
set_option linter.all false
set_option maxRecDepth 100000
set_option maxHeartbeats 4000000
/-! K76, part 6i: the def that draws rules, read -/
namespace K76
open PySem PySem.Spec PyProof.Rows L2
open PySem.W (Tup Datum DatumOrd)
theorem rep_one {α : Type} (x : α) : ∀ k, (List.replicate k [x]).flatten = List.replicate k x
  | 0 => rfl
  | k + 1 => by rw [List.replicate_succ, List.flatten_cons, rep_one x k, List.replicate_succ]; rfl
theorem hds_rep {α : Type} [DecidableEq α] [Datum α] {K : PySem.W.Frag} {H : Hp} {ws : List V} {xs : List α} (h : Hds K H ws xs) : ∀ k, Hds K H (List.replicate k ws).flatten (List.replicate k xs).flatten
  | 0 => hds_nil
  | k + 1 => by rw [List.replicate_succ, List.flatten_cons, List.replicate_succ, List.flatten_cons]; exact h.app (hds_rep h k)
section
variable {K : PySem.W.Frag} {r a pf pe : Addr} {ns : List Int} {H0 H H' : Hp} {found found' rs : List Rule} {v5 : V} {row : Row}
theorem EvSt.other (S : EvSt K r a ns H0 pf pe found rs v5 row H) {pg : Addr} {wg : List V} (e : Same H H') (hn : H pg = none) (h : H' pg = some (.lst wg)) (hd : Hds K H' wg found') : EvSt K r a ns H0 pg pe found' rs v5 row H' :=
  ⟨S.S.other e hn h hd, S.pl.up e, S.ne1, fun e2 => (by
    obtain ⟨we, h1, _⟩ := S.ls
    rw [e2, hn] at h1
    cases h1), let ⟨we, h1, h2⟩ := S.ls; ⟨we, e _ _ h1, h2.up e⟩⟩
end
/-- behind the first loop -/
def MidF (K : PySem.W.Frag) (r a : Addr) (ns : List Int) (H0 : Hp) (n y z : Int) (v5 : V) (row : Row) (m : Nat) (σ : L2.St) (H : Hp) : Prop :=
  ∃ pf pe rs fs u7 u8, σ = [some (.ref r), some (.int n), some (.ref pe), some (.ref pf), some (.int y), some v5, some (.int z), u7, u8, none] ∧ EvSt K r a ns H0 pf pe fs rs v5 row H ∧ 1 ≤ rs.length ∧ rs.length ≤ 1000 ∧ (∀ u ∈ rs, okR n u = true) ∧ (∀ u ∈ fs, okR n u = true) ∧ fs.length ≤ m
section
variable {K : PySem.W.Frag} {r a pf : Addr} {ns : List Int} {H0 H : Hp} {n y z : Int} {v5 : V} {row : Row} {σ : L2.St} {D : Ends}
theorem for1_go {q : Int → Bool} (hz0 : 0 ≤ z) (hz : z ≤ 14) (M : MidE K r a ns H0 pf n y z v5 row 203 q σ H) : tFor1 K { D with nx := MidF K r a ns H0 n y z v5 row 16 } σ H := by
  obtain ⟨pe, rs, rfl, S, g, _⟩ := M
  have hcnt : 0 ≤ z + 2 * (if decide (y = 5) then (1 : Int) else 0) ∧ z + 2 * (if decide (y = 5) then (1 : Int) else 0) ≤ 16 := by
    by_cases c : y = 5
    · rw [decide_eq_true c, if_pos rfl]; omega
    · rw [decide_eq_false c, if_neg (by decide)]; omega
  show tSeq (tFor1 K) (fun _ => MidF K r a ns H0 n y z v5 row 16) D _ H
  refine q_forR (K := K) (n := z + 2 * (if decide (y = 5) then (1 : Int) else 0)) (evd_I (g := fun i j => i + j) (evd_var (i := 6) rfl (hd_int z)) (evd_IC (C := CMul) (g := fun i j => i * j) evd_int (evd_intB (evd_eqI (evd_var (i := 4) rfl (hd_int y)) evd_int)) (.inl ⟨by decide, by decide⟩))) hcnt.1 (by omega)
    (fun i σ' H' => ∃ u7 fs, σ' = [some (.ref r), some (.int n), some (.ref pe), some (.ref pf), some (.int y), some v5, some (.int z), u7, none, none] ∧ EvSt K r a ns H0 pf pe fs rs v5 row H' ∧ (∀ u ∈ fs, okR n u = true) ∧ fs.length = i)
    (fun H1 e1 => ⟨none, [], rfl, S.same e1, fun u hu => (by cases hu), rfl⟩) ?_ ?_
  · rintro i σ' H' hi ⟨u7, fs, rfl, S1, hok, hl⟩
    obtain ⟨wf0, hf0, hwf0⟩ := S1.S.lst
    obtain ⟨we, hpe, hwe⟩ := S1.ls
    have hwel := hwe.len
    have g1 := g.2.1
    have g2 := g.2.2
    refine ⟨_, rfl, .inl ⟨rfl, _, .inl (.inl hf0)⟩, _, rfl, _, rfl, r, pe, a, ns, we, rfl, S1.S.st, SqL.of hpe, S1.ne1, by omega, by omega, fun y1 H2 hy1 b2 st2 => ?_⟩
    have S2 := S1.drawn b2 st2
    obtain ⟨u, hu, hyu⟩ := hwe.memW y1 hy1
    obtain ⟨wf, hf, hwf⟩ := S2.S.lst
    have hwfl := hwf.len
    have hline : (1000 : Nat) < sizeLine := by decide
    refine ⟨pf, wf, y1, rfl, rfl, hf, by omega, ?_⟩
    refine ⟨_, fs ++ [u], rfl, S2.put (KeepT.store hf) (fun p ws ne hp => by rw [upd_ne ne]; exact hp) (S2.S.put hf hwf (hyu.keep (S1.S.keepT b2))), fun x hx => ?_, by rw [List.length_append, hl]; rfl⟩
    rcases List.mem_append.mp hx with hx | hx
    · exact hok x hx
    · rw [List.mem_singleton.mp hx]
      exact g.1 u hu
  · rintro σ' H' ⟨u7, fs, rfl, S1, hok, hl⟩
    exact ⟨pf, pe, rs, fs, _, _, rfl, S1, g.2.1, by have := g.2.2; omega, g.1, hok, by omega⟩
theorem for2_go (h1 : 1 ≤ n) (h6 : n ≤ 6) (hrow : row ∈ rowsN n.toNat) (M : MidF K r a ns H0 n y z v5 row 16 σ H) : tFor2 K { D with nx := MidF K r a ns H0 n y z v5 row 30 } σ H := by
  obtain ⟨pf, pe, rs, fs, u7, u8, rfl, S, g1, g2, g3, hok, hl⟩ := M
  refine s_when (evb_test (K := K) (evd_eqI (evd_var (i := 4) rfl (hd_int y)) evd_int)) (fun _ H1 e1 => ?_) fun _ H1 e1 => ⟨pf, pe, rs, fs, u7, u8, rfl, S.same e1, g1, g2, g3, hok, by omega⟩
  have hrl : row.items.length = n.toNat := rowsN_len _ row hrow
  show tSeq (tFor (iRng1 (tCons (tOp (rI0 fun i j => .int (i - j)) (tVar 1) (tC (.int 1))) tNil)) (gName 8) (tRing K)) (fun _ => MidF K r a ns H0 n y z v5 row 30) D _ H1
  refine q_forR (K := K) (n := n - 1) (evd_I (g := fun i j => i - j) (evd_var (i := 1) rfl (hd_int n)) evd_int) (by omega) (by omega)
    (fun i σ' H' => ∃ pf u8 fs, σ' = [some (.ref r), some (.int n), some (.ref pe), some (.ref pf), some (.int y), some v5, some (.int z), u7, u8, none] ∧ EvSt K r a ns H0 pf pe fs rs v5 row H' ∧ (∀ u ∈ fs, okR n u = true) ∧ fs.length ≤ 16 + 2 * i)
    (fun H2 e2 => ⟨pf, u8, fs, rfl, S.same (e1.trans e2), hok, by omega⟩) ?_ ?_
  · rintro i σ' H' hi ⟨pf, u8, fs, rfl, S1, hok, hl⟩
    have hi1 : i < row.items.length := by omega
    have hi2 : i + 1 < row.items.length := by omega
    obtain ⟨p, hp⟩ : ∃ p, row.items[i]? = some p := ⟨_, List.getElem?_eq_getElem hi1⟩
    obtain ⟨q, hq⟩ : ∃ q, row.items[i + 1]? = some q := ⟨_, List.getElem?_eq_getElem hi2⟩
    have bp := row_bit (by omega) hrow hp
    have bq := row_bit (by omega) hrow hq
    have np : 1 - p = 0 ∨ 1 - p = 1 := by rcases bp with rfl | rfl <;> simp
    have nq : 1 - q = 0 ∨ 1 - q = 1 := by rcases bq with rfl | rfl <;> simp
    have at0 : ∀ {σ2 : L2.St} {H2 : Hp}, σ2[5]? = some (some v5) → σ2[8]? = some (some (.int (i : Int))) → Hd K H2 v5 row → EvD K (eAt K) σ2 H2 p := fun s5 s8 hr => evd_ixT (t := row) (evd_var s5 hr) (evd_var s8 (hd_int (i : Int))) rfl hp
    have nx0 : ∀ {σ2 : L2.St} {H2 : Hp}, σ2[8]? = some (some (.int (i : Int))) → EvD K eNext σ2 H2 ((i : Int) + 1) := fun s8 => evd_I (g := fun i j => i + j) (evd_var s8 (hd_int (i : Int))) evd_int
    have at1 : ∀ {σ2 : L2.St} {H2 : Hp}, σ2[5]? = some (some v5) → σ2[8]? = some (some (.int (i : Int))) → Hd K H2 v5 row → EvD K (eAtN K) σ2 H2 q := fun s5 s8 hr => evd_ixT (t := row) (j := i + 1) (evd_var s5 hr) (nx0 s8) (by omega) hq
    have neg : ∀ {σ2 : L2.St} {H2 : Hp} {te : TE} {x : Int}, EvD K te σ2 H2 x → EvD K (eNot te) σ2 H2 (1 - x) := fun h => evd_I (g := fun i j => i - j) evd_int h
    have oku : okR n (((i : Int), p), ((i : Int) + 1, 1 - q)) = true := okR_ring (by omega) (by omega) bp nq
    have oku2 : okR n (((i : Int), 1 - p), ((i : Int) + 1, q)) = true := okR_ring (by omega) (by omega) np bq
    show tDrop (tBM K "list" rAppend (tVar 3) (tCons (ePair (ePair (tVar 8) (eAt K)) (ePair eNext (eNot (eAtN K)))) tNil)) _ [some (.ref r), some (.int n), some (.ref pe), some (.ref pf), some (.int y), some v5, some (.int z), u7, some (.int (i : Int)), none] H'
    refine s_put (u := (((i : Int), p), ((i : Int) + 1, 1 - q))) S1.S (by omega) rfl (evd_pair (evd_pair (evd_var (i := 8) rfl (hd_int (i : Int))) (at0 rfl rfl S1.pl)) (evd_pair (nx0 rfl) (neg (at1 rfl rfl S1.pl)))) fun H1 H2 e k kl S2 => ?_
    have E2 : EvSt K r a ns H0 pf pe (fs ++ [(((i : Int), p), ((i : Int) + 1, 1 - q))]) rs v5 row H2 := (S1.same e).put k kl S2
    refine ⟨_, rfl, (evl_one (α := Rule) (a := (((i : Int), 1 - p), ((i : Int) + 1, q))) (evd_pair (evd_pair (evd_var (i := 8) rfl (hd_int (i : Int))) (neg (at0 rfl rfl E2.pl))) (evd_pair (nx0 rfl) (at1 rfl rfl E2.pl)))) H2 (Same.refl _) _ fun pl wl H3 hnl e3 hpl hwl => ?_⟩
    have E3 := E2.same e3
    refine ⟨_, rfl, r, 3, a, ns, rfl, E3.S.st, by decide, by decide, fun z1 H4 z10 z13 b4 st4 => ?_⟩
    have E4 := E3.drawn b4 st4
    have hplr : pl ≠ r := fun e2 => by
      obtain ⟨ws, h3⟩ := E2.S.st.lst
      rw [e2, h3] at hnl
      cases hnl
    have hpl4 := b4 _ _ hplr hpl
    have hwl4 := hwl.keep (E3.S.keepT b4)
    obtain ⟨wf, hf, hwf⟩ := E4.S.lst
    have hwfl := hwf.len
    have hwll := hwl.len
    have hline : (1000 : Nat) < sizeLine := by decide
    simp only [List.length_append, List.length_cons, List.length_nil] at hwfl hwll
    obtain ⟨m, hm, hm1⟩ : ∃ m : Nat, (if decide (0 < z1) then (1 : Int) else 0) = (m : Int) ∧ m ≤ 1 := by
      by_cases c : 0 < z1
      · exact ⟨1, by rw [decide_eq_true c]; rfl, Nat.le_refl _⟩
      · exact ⟨0, by rw [decide_eq_false c]; rfl, Nat.zero_le _⟩
    have hreplen : ∀ x : List V, x.length = 1 → ((List.replicate m x).flatten).length = m := fun x hx => by
      obtain ⟨v, rfl⟩ := List.length_eq_one_iff.mp hx
      rw [rep_one, List.length_replicate]
    refine ⟨z1, 0, rfl, rfl, .inr ⟨decide (0 < z1), rfl, ?_⟩⟩
    rw [hm]
    refine ⟨pl, m, wl, rfl, rfl, hpl4, by omega, by omega, ?_, fun p3 hp3 => ?_⟩
    · rw [hwll, Int.toNat_natCast]
      omega
    rw [Int.toNat_natCast]
    have e5 : Same H4 (upd H4 p3 (.lst (List.replicate m wl).flatten)) := fun b o hb => by rw [upd_ne (ne_of_none hb hp3)]; exact hb
    refine ⟨pf, p3, wf, _, rfl, rfl, e5 _ _ hf, upd_same, ?_, fun l hln => ?_⟩
    · rw [hreplen wl hwll]
      omega
    have e6 : Same (upd H4 p3 (.lst (List.replicate m wl).flatten)) (upd (upd H4 p3 (.lst (List.replicate m wl).flatten)) l (.lst (wf ++ (List.replicate m wl).flatten))) := fun b o hb => by rw [upd_ne (ne_of_none hb hln)]; exact hb
    refine ⟨l, _, (fs ++ [(((i : Int), p), ((i : Int) + 1, 1 - q))]) ++ (List.replicate m [(((i : Int), 1 - p), ((i : Int) + 1, q))]).flatten, rfl, E4.other (e5.trans e6) (e5.free hln) upd_same ((hwf.up (e5.trans e6)).app ((hds_rep hwl4 m).up (e5.trans e6))), fun u hu => ?_, ?_⟩
    · rw [rep_one] at hu
      rcases List.mem_append.mp hu with hu | hu
      · rcases List.mem_append.mp hu with hu | hu
        · exact hok u hu
        · rw [List.mem_singleton.mp hu]; exact oku
      · rw [List.eq_of_mem_replicate hu]; exact oku2
    · rw [rep_one]
      simp only [List.length_append, List.length_cons, List.length_nil, List.length_replicate]
      omega
  · rintro σ' H' ⟨pf, u8, fs, rfl, S1, hok, hl⟩
    exact ⟨pf, pe, rs, fs, _, _, rfl, S1, g1, g2, g3, hok, by omega⟩
end
end K76
set_option Elab.async false
set_option linter.all false
set_option maxRecDepth 100000
set_option maxHeartbeats 4000000
/-! K76, part 6j: the drawn rules -/
namespace K76
open PySem PySem.Spec PyProof.Rows L2
open PySem.W (Tup Datum DatumOrd)
section
variable {P : Program} {w : World} {K : PySem.W.Frag} {mg : Str → Option Value} {base : Heap} {C : Addr}
abbrev q4 : Int → Bool := fun x => decide (x = 4)
theorem ok_some {f : Addr} {fd : FuncData} (F : Fun K "_law_some_rules" "_law_some_rules" sSome f fd) (T : Txt K mg C) (Gt : Callee P w K mg base 1 "_law_taken" ["_law_row", "_law_many"] (spTaken K)) (Gp : Callee P w K mg base 2 "_law_pick" ["_law_row", "_law_things"] (spPick K))
    (Ga : Callee P w K mg base 1 "_law_all_rules" ["_law_many"] (spAllRules K)) (Gr : Callee P w K mg base 1 "_law_rows" ["_law_many"] (spLawRows K)) (Gk : Callee P w K mg base 1 "_law_keeps" ["_law_rules", "_law_row"] (spLawKeeps K)) :
    FnOk P w K mg base CX0 3 f fd ["_law_row", "_law_many"] (spSome K) := by
  refine F.ok scSome (fun vs H Q E h => ?_) (fun cdv A outer s H vs Q E hr h => ?_)
  · obtain ⟨r, n, a, ns, rfl, _⟩ := h
    rfl
  obtain ⟨r, n, a, ns, rfl, st, h1, h6, k⟩ := h
  refine ⟨_, walk_some (fd := fd) T Gt Gp Ga Gr Gk hr, ?_⟩
  have hnn : ((n.toNat : Nat) : Int) = n := by omega
  have facts := rulesN_facts n.toNat (by omega) (by omega)
  rw [hnn] at facts
  have g0 : GdR n 200 (rulesN n.toNat) := ⟨List.all_eq_true.mp facts.1, by omega, facts.2.2⟩
  have lst0 := st
  obtain ⟨c0, s0, z0, _, sq0, _, _⟩ := lst0
  refine (evl_call (K := K) (f := fun (x : Int) => rulesN x.toNat) (x := n) (eva1 (evd_var (i := 1) rfl (hd_int n))) ⟨h1, h6⟩) H (Same.refl _) _ fun pe we H1 hne e1 hpe hwe => ?_
  refine (evl_nil (K := K) (α := Rule)) H1 (Same.refl _) _ fun pf wf H2 hnf e2 hpf hwf => ?_
  have hnr : ∀ {p : Addr} {Hx : Hp}, Same H Hx → Hx p = none → p ≠ r := fun {p Hx} e hn e2 => by
    obtain ⟨ws, h3⟩ := st.lst
    have := e _ _ h3
    rw [e2, this] at hn
    cases hn
  have S2 : SomeSt K r a ns H pf [] H2 := ⟨st.same (e1.trans e2), Bar.of (e1.trans e2), e1.free hnf, sq0, hnr e1 hnf, wf, hpf, hwf⟩
  have hper : pe ≠ r := hnr (Same.refl H) hne
  have hpepf : pe ≠ pf := fun e => by rw [← e, hpe] at hnf; cases hnf
  refine ⟨_, rfl, r, 7, a, ns, rfl, S2.st, by decide, by decide, fun y H3 y0 y7 b3 st3 => ?_⟩
  have S3 := S2.drawn b3 st3
  refine ⟨_, _, _, rfl, ?_⟩
  have hpe3 := b3 _ _ hper (e2 _ _ hpe)
  have hwe3 := (hwe.up e2).keep (S2.keepT b3)
  refine ⟨_, rfl, ?_⟩
  refine (evl_call (K := K) (f := fun (x : Int) => rowsN x.toNat) (x := n) (eva1 (evd_var (i := 1) rfl (hd_int n))) ⟨h1, h6⟩) H3 (Same.refl _) _ fun pr wr H4 hnr4 e4 hpr hwr => ?_
  have S4 := S3.same e4
  have hprr : pr ≠ r := fun e => by
    obtain ⟨ws, h3⟩ := S3.st.lst
    rw [e, h3] at hnr4
    cases hnr4
  have hwrl := hwr.len
  have hcount := rowsN_count n.toNat
  have hpos : 0 < 2 ^ n.toNat := Nat.two_pow_pos _
  have hle : 2 ^ n.toNat ≤ 2 ^ 6 := Nat.pow_le_pow_right (by decide) (by omega)
  refine ⟨r, pr, a, ns, wr, rfl, S4.st, SqL.of hpr, hprr, by omega, by omega, fun v5 H5 hv5 b5 st5 => ?_⟩
  obtain ⟨row, hrow, hv5d⟩ := hwr.memW v5 hv5
  have E5 : EvSt K r a ns H pf pe [] (rulesN n.toNat) v5 row H5 := ⟨S4.drawn b5 st5, hv5d.keep (S4.keepT b5), hper, hpepf, we, b5 _ _ hper (e4 _ _ hpe3), (hwe3.up e4).keep (S4.keepT b5)⟩
  refine ⟨_, rfl, _, rfl, 2, n, rfl, rfl, .inl ⟨by decide, by decide⟩, 2 * n, 3, rfl, rfl, r, 2 * n + 3, a, ns, rfl, st5, by omega, by omega, fun z H6 z0 z1 b6 st6 => ?_⟩
  refine ⟨by show 2 ≤ sizeLine; decide, fun t ht => ⟨t, _, rfl, SqT.of upd_same, rfl, _, _, rfl, _, _, rfl, rfl, ?_⟩⟩
  have e7 : Same H6 (upd H6 t (.tup [v5, .int z])) := fun b o hb => by rw [upd_ne (ne_of_none hb ht)]; exact hb
  have E7 := (E5.drawn b6 st6).same e7
  have hrl : row.items.length = n.toNat := rowsN_len _ row hrow
  have gin : ∀ {b : Nat} {rs : List Rule}, GdR n b rs → ∀ u ∈ rs, inR row.items.length u := fun g u hu => by
    rw [hrl]
    exact okR_in (g.1 u hu) (by omega)
  have sub : ∀ {b : Nat} {rs : List Rule} (p : Rule → Bool), GdR n b rs → (∃ u ∈ rs, p u = true) → GdR n b (rs.filter p) := fun p g h => by
    refine ⟨fun u hu => g.1 u (List.mem_filter.mp hu).1, ?_, Nat.le_trans (List.length_filter_le _ _) g.2.2⟩
    obtain ⟨u, hu, hp⟩ := h
    exact List.length_pos_of_mem (List.mem_filter.mpr ⟨hu, hp⟩)
  have addT : ∀ {b : Nat} {rs : List Rule} (p : Rule → Bool) (j : Nat), 1 ≤ j → GdR n b rs → GdR n (b + j) (rs.filter p ++ rs.take j) := fun {b rs} p j hj g => by
    refine ⟨fun u hu => ?_, ?_, ?_⟩
    · rcases List.mem_append.mp hu with hu | hu
      · exact g.1 u (List.mem_filter.mp hu).1
      · exact g.1 u (List.mem_of_mem_take hu)
    · have h1 := g.2.1
      rw [List.length_append, List.length_take]
      omega
    · have h1 := g.2.2
      have h2 := List.length_filter_le p rs
      rw [List.length_append, List.length_take]
      omega
  have src : ∀ {pe : Addr} {rs : List Rule} {Hx : Hp} {σ : L2.St}, σ[2]? = some (some (.ref pe)) → (∃ we, Hx pe = some (.lst we) ∧ Hds K Hx we rs) → EvD K (tVar 2) σ Hx rs := fun hσ ⟨we, h1, h2⟩ => evd_var hσ (hd_list (SqL.of h1) h2)
  refine if_way (b := 200) (b' := 200) (q := fun _ => true) (q' := q4) ⟨pe, _, rfl, E7, g0, fun _ => rfl⟩ (Nat.le_refl _) (fun x hx => ⟨rfl, by have := of_decide_eq_true hx; omega⟩) (fun hy pe rs Hx S g gq => ?_) fun σ1 H8 M1 => ?_
  · refine ⟨rs.filter fun u => keptAll [u] row.items, sub _ g ?_, evl_filter (p := fun u => keptAll [u] row.items) (evi_list (src rfl S.ls)) (by have := g.2.2; omega) tg1 fun u σ2 H9 e9 hm ⟨v, hs, hv⟩ => ?_⟩
    · rw [gq rfl]
      have h := List.all_eq_true.mp (rulesN_row n.toNat (by omega) (by omega)) row hrow
      exact List.any_eq_true.mp h
    · subst hs
      exact ⟨rfl, evb_val (evd_call (x := ([u], row)) (eva2 (EvL.d (evl_one (evd_var (i := 9) rfl hv))) (evd_var (i := 5) rfl (S.pl.up e9))) (fun u' hu' => by
        rw [List.mem_singleton.mp hu']
        exact gin g u hm)), evd_var (i := 9) rfl hv⟩
  refine if_way (b' := 202) (q' := q4) M1 (by decide) (fun x hx => ⟨hx, by have := of_decide_eq_true hx; omega⟩) (fun hy pe rs Hx S g gq => ?_) fun σ2 H9 M2 => ?_
  · refine ⟨(rs.filter fun u => decide (u.1.2 ≠ u.2.2) && decide (u.1.1 ≠ u.2.1)) ++ rs.take 2, addT (b := 200) _ 2 (by decide) g, evl_cat (EvL.t (evl_filter (p := fun u : Rule => decide (u.1.2 ≠ u.2.2) && decide (u.1.1 ≠ u.2.1)) (evi_list (src rfl S.ls)) (by have := g.2.2; omega) tg1 fun u σ2 H9 e9 hm ⟨v, hs, hv⟩ => ?_))
      (EvL.t (evl_till (j := 2) (src rfl S.ls) evd_int rfl)) ?_⟩
    · subst hs
      exact ⟨rfl, evb_and (evb_test (evd_neI (eRu01 rfl hv) (eRu11 rfl hv))) fun _ => evb_test (evd_neI (eRu00 rfl hv) (eRu10 rfl hv)), evd_var (i := 9) rfl hv⟩
    · have h1 := g.2.2
      have h2 := List.length_filter_le (fun u : Rule => decide (u.1.2 ≠ u.2.2) && decide (u.1.1 ≠ u.2.1)) rs
      rw [List.length_take]
      omega
  refine if_way (b' := 203) (q' := q4) M2 (by decide) (fun x hx => ⟨hx, by have := of_decide_eq_true hx; omega⟩) (fun hy pe rs Hx S g gq => ?_) fun σ3 H10 M3 => ?_
  · refine ⟨(rs.filter fun u => decide (u.1.2 = u.2.2) && decide (u.1.1 ≠ u.2.1)) ++ rs.take 1, addT (b := 202) _ 1 (by decide) g, evl_cat (EvL.t (evl_filter (p := fun u : Rule => decide (u.1.2 = u.2.2) && decide (u.1.1 ≠ u.2.1)) (evi_list (src rfl S.ls)) (by have := g.2.2; omega) tg1 fun u σ2 H9 e9 hm ⟨v, hs, hv⟩ => ?_))
      (EvL.t (evl_till (j := 1) (src rfl S.ls) evd_int rfl)) ?_⟩
    · subst hs
      exact ⟨rfl, evb_and (evb_test (evd_eqI (eRu01 rfl hv) (eRu11 rfl hv))) fun _ => evb_test (evd_neI (eRu00 rfl hv) (eRu10 rfl hv)), evd_var (i := 9) rfl hv⟩
    · have h1 := g.2.2
      have h2 := List.length_filter_le (fun u : Rule => decide (u.1.2 = u.2.2) && decide (u.1.1 ≠ u.2.1)) rs
      rw [List.length_take]
      omega
  refine if_way (b' := 203) (q' := fun _ => false) M3 (by decide) (fun x hx => nomatch hx) (fun hy pe rs Hx S g gq => ?_) fun σ4 H11 M4 => ?_
  · refine ⟨rs.filter fun u => decide ((u.1.1 - u.2.1) % 2 = 0), sub _ g ?_, evl_filter (p := fun u : Rule => decide ((u.1.1 - u.2.1) % 2 = 0)) (evi_list (src rfl S.ls)) (by have := g.2.2; omega) tg1 fun u σ2 H9 e9 hm ⟨v, hs, hv⟩ => ?_⟩
    · rw [gq (by rw [hy]; rfl)]
      exact List.any_eq_true.mp (rulesN_even n.toNat (by omega) (by omega))
    · subst hs
      exact ⟨rfl, evb_test (evd_eqI (evd_IC (C := fun _ j => 0 < j) (g := fun i j => i % j) (evd_I (g := fun i j => i - j) (eRu00 rfl hv) (eRu10 rfl hv)) evd_int (by decide)) evd_int), evd_var (i := 9) rfl hv⟩
  refine ⟨_, for1_go z0 (by omega) M4, fun σ5 H12 M5 => ?_⟩
  refine ⟨_, for2_go h1 h6 hrow M5, fun σ6 H13 M6 => ?_⟩
  obtain ⟨pf', pe', rs', fs', u7, u8, rfl, S, _, _, _, hok, hl⟩ := M6
  exact some_tell h1 h6 rfl S.S hok (by omega) k
theorem scDrawn : FnScope ["_law_row", "_law_most", "_law_many"] ["_law_row", "_law_most"] (defScope sDrawn) := ⟨rfl, rfl, rfl, by decide +kernel, rfl, by decide +kernel, by decide +kernel⟩
def spDrawn (K : PySem.W.Frag) : Sp := fun vs H Q _ => ∃ (r a : Addr) (ns : List Int), vs = [.ref r, .int 6] ∧ RowSt K a ns H r ∧
  ∀ v (n : Int) (told : List Rule) H', Hd K H' v (n, Tup.mk told) → n ≤ 6 → Good n told → told.length ≤ 64 → Bar r H H' → RowSt K a ns H' r → Q v H'
theorem ok_drawn {f : Addr} {fd : FuncData} (F : Fun K "_law_drawn" "_law_drawn" sDrawn f fd) (T : Txt K mg C) (Gt : Callee P w K mg base 1 "_law_taken" ["_law_row", "_law_many"] (spTaken K)) (Gs : Callee P w K mg base 3 "_law_some_rules" ["_law_row", "_law_many"] (spSome K)) :
    FnOk P w K mg base CX0 4 f fd ["_law_row", "_law_most"] (spDrawn K) := by
  refine F.ok scDrawn (fun vs H Q E h => ?_) (fun cdv A outer s H vs Q E hr h => ?_)
  · obtain ⟨r, a, ns, rfl, _⟩ := h
    rfl
  obtain ⟨r, a, ns, rfl, st, k⟩ := h
  refine ⟨_, pss_cons (ps_set (i := 2) scDrawn.nd rfl (Or.inl rfl) (pe_op op_add pe_int (pe_cal Gt (hr.mono (by decide)) (by rfl) (pa_cons (pv 0) (pa_cons (pv 1) pa_nil)))))
    (pss_one (ps_ret (pe_tup (pa_cons (pv 2) (pa_cons (pe_cal Gs hr (by rfl) (pa_cons (pv 0) (pa_cons (pv 2) pa_nil))) pa_nil))))), ?_⟩
  refine ⟨_, rfl, _, rfl, r, 6, a, ns, rfl, st, by decide, by decide, fun y H1 y0 y6 b1 st1 => ?_⟩
  refine ⟨1, y, rfl, rfl, ?_⟩
  refine ⟨_, rfl, _, rfl, _, rfl, r, 1 + y, a, ns, rfl, st1, by omega, by omega, fun v told H2 hv g hl b2 st2 => ?_⟩
  refine ⟨by show 2 ≤ sizeLine; decide, fun t ht => ?_⟩
  have e3 : Same H2 (upd H2 t (.tup [.int (1 + y), v])) := fun b o hb => by rw [upd_ne (ne_of_none hb ht)]; exact hb
  exact k _ (1 + y) told _ (hd_pair (SqT.of upd_same) (hd_int _) (hv.up e3)) (by omega) g hl ((b1.trans b2).trans (Bar.of e3)) (st2.same e3)
end
end K76
set_option Elab.async false
set_option linter.all false
set_option maxRecDepth 100000
/-! K76, part 4: the law in plain words -/
namespace K76
open PySem PySem.Spec PyProof.Rows L2
open PySem.W (Tup Datum DatumOrd)
theorem keptAll_one (u : Rule) (r : List Int) : keptAll [u] r = keptR u r := by
  unfold keptAll
  simp
theorem brk_law (told : List Rule) (r : Row) : (told.filter fun u => !keptAll [u] r.items) = brk told r := by
  unfold brk
  congr 1
  funext u
  rw [keptAll_one]
def lens (n : Nat) (told : List Rule) : List Int := (rowsN n).map fun r => ((brk told r).length : Int)
theorem int_lt (a b : Int) : DatumOrd.lt a b = decide (a < b) := rfl
theorem min_fst (x : Int × Row) (xs : List (Int × Row)) : (PySem.W.minOf x xs).1 = PySem.W.minOf x.1 (xs.map (·.1)) := by
  unfold PySem.W.minOf
  induction xs generalizing x with
  | nil => rfl
  | cons y ys ih =>
    rw [List.foldl_cons, List.map_cons, List.foldl_cons, ih]
    congr 1
    have e : DatumOrd.lt y x = if y.1 = x.1 then DatumOrd.lt y.2 x.2 else DatumOrd.lt y.1 x.1 := rfl
    by_cases h : y.1 = x.1
    · have h2 : DatumOrd.lt y.1 x.1 = false := by
        rw [int_lt]
        exact decide_eq_false (by omega)
      have e2 : (if DatumOrd.lt y.1 x.1 = true then y.1 else x.1) = x.1 := by rw [h2]; rfl
      rw [e2]
      by_cases c : DatumOrd.lt y x = true
      · rw [if_pos c]; exact h
      · rw [if_neg c]
    · rw [e, if_neg h]
      by_cases c : DatumOrd.lt y.1 x.1 = true
      · rw [if_pos c, if_pos c]
      · rw [if_neg c, if_neg c]
theorem min_le (x : Int) (xs : List Int) : ∀ y ∈ x :: xs, PySem.W.minOf x xs ≤ y := by
  unfold PySem.W.minOf
  induction xs generalizing x with
  | nil =>
    intro y hy
    rw [List.mem_singleton.mp hy]
    exact Int.le_refl _
  | cons z zs ih =>
    intro y hy
    rw [List.foldl_cons]
    have h1 := ih (if DatumOrd.lt z x = true then z else x)
    have h2 := h1 _ List.mem_cons_self
    have h3 : (if DatumOrd.lt z x = true then z else x) ≤ x ∧ (if DatumOrd.lt z x = true then z else x) ≤ z := by
      rw [int_lt]
      by_cases c : z < x
      · rw [decide_eq_true c, if_pos rfl]; omega
      · rw [decide_eq_false c, if_neg (by decide)]; omega
    rcases List.mem_cons.mp hy with rfl | hy
    · exact Int.le_trans h2 h3.1
    rcases List.mem_cons.mp hy with rfl | hy
    · exact Int.le_trans h2 h3.2
    · exact h1 y (List.mem_cons_of_mem _ hy)
theorem counted_fst (n : Nat) (told : List Rule) : (counted n told).map (·.1) = lens n told := by
  unfold counted lens
  rw [List.map_map]
  rfl
theorem least_law (n : Nat) (told : List Rule) : ∃ x xs, lens n told = x :: xs ∧ PySem.W.minOf x xs = leastN n told := by
  cases h : counted n told with
  | nil => exact absurd h (counted_ne n told)
  | cons y ys =>
    refine ⟨y.1, ys.map (·.1), by rw [← counted_fst, h, List.map_cons], ?_⟩
    unfold leastN
    rw [h]
    exact (min_fst y ys).symm
theorem least_le (n : Nat) (told : List Rule) {r : Row} (h : r ∈ rowsN n) : leastN n told ≤ ((brk told r).length : Int) := by
  obtain ⟨x, xs, h1, h2⟩ := least_law n told
  rw [← h2]
  refine min_le x xs _ ?_
  rw [← h1]
  exact List.mem_map.mpr ⟨r, h, rfl⟩
theorem least_at (n : Nat) (told : List Rule) : ∃ r ∈ rowsN n, leastN n told = ((brk told r).length : Int) := by
  obtain ⟨x, xs, h1, h2⟩ := least_law n told
  have hm := minOf_mem x xs
  rw [h2, ← h1] at hm
  obtain ⟨r, hr, e⟩ := List.mem_map.mp hm
  exact ⟨r, hr, e.symm⟩
theorem due_law (n : Nat) (told : List Rule) : ((rowsN n).filter fun r => decide (((brk told r).length : Int) = leastN n told)) = fewestL n told := by
  unfold fewestL counted
  rw [List.filter_map, List.map_map]
  have e : ((fun p : Int × Row => p.2) ∘ fun r => (((brk told r).length : Int), r)) = (id : Row → Row) := rfl
  rw [e, List.map_id]
  rfl
/-- the least lot is what one row breaks -/
theorem out_law (n : Nat) (told : List Rule) : ∃ x xs, ((fewestL n told).map fun r => (Tup.mk (brk told r) : Tup Rule)) = x :: xs ∧ PySem.W.minOf x xs = outOf n told := by
  cases h : (fewestL n told).map fun r => (Tup.mk (brk told r) : Tup Rule) with
  | nil => exact absurd (List.map_eq_nil_iff.mp h) (fewest_ne n told)
  | cons y ys => exact ⟨y, ys, rfl, by unfold outOf; rw [h]; rfl⟩
theorem out_at (n : Nat) (told : List Rule) : ∃ r ∈ rowsN n, (outOf n told).items = brk told r := by
  obtain ⟨x, xs, h1, h2⟩ := out_law n told
  have hm := minOf_mem x xs
  rw [h2, ← h1] at hm
  obtain ⟨r, hr, e⟩ := List.mem_map.mp hm
  exact ⟨r, fewest_sub hr, by rw [← e]⟩
def restOf (n : Nat) (told : List Rule) : List Rule := told.filter fun u => decide (u ∉ (outOf n told).items)
theorem rest_good {n : Int} {told : List Rule} (g : Good n told) (m : Nat) : Good n (restOf m told) :=
  ⟨g.lo, g.hi, fun u hu => g.ok u (List.mem_filter.mp hu).1, g.asc.filter _, Nat.le_trans (List.length_filter_le _ _) g.few⟩
theorem rest_kept (n : Nat) (told : List Rule) : 0 < (keptRows n (restOf n told)).length := by
  obtain ⟨r, hr, e⟩ := out_at n told
  refine List.length_pos_of_mem (a := r) (List.mem_filter.mpr ⟨hr, ?_⟩)
  unfold keptAll
  rw [List.all_eq_true]
  intro b hb
  obtain ⟨u, hu, rfl⟩ := List.mem_map.mp hb
  obtain ⟨h1, h2⟩ := List.mem_filter.mp hu
  have h3 : u ∉ brk told r := by
    rw [← e]
    exact of_decide_eq_true h2
  show keptR u r.items = true
  cases c : keptR u r.items with
  | true => rfl
  | false => exact absurd (List.mem_filter.mpr ⟨h1, by rw [c]; rfl⟩) h3
theorem brk_nil {told : List Rule} {r : Row} : brk told r = [] ↔ keptAll told r.items = true := by
  unfold brk keptAll
  rw [List.filter_eq_nil_iff, List.all_eq_true]
  constructor
  · intro h b hb
    obtain ⟨u, hu, rfl⟩ := List.mem_map.mp hb
    have := h u hu
    show keptR u r.items = true
    simpa using this
  · intro h u hu
    have : keptR u r.items = true := h _ (List.mem_map.mpr ⟨u, hu, rfl⟩)
    simp [this]
theorem least_none (n : Nat) (told : List Rule) : decide (leastN n told = 0) = decide (0 < ((keptRows n told).length : Int)) := by
  refine decide_eq_decide.mpr ⟨fun h => ?_, fun h => ?_⟩
  · obtain ⟨r, hr, e⟩ := least_at n told
    rw [h] at e
    have h2 : brk told r = [] := List.length_eq_zero_iff.mp (by omega)
    have := List.length_pos_of_mem (a := r) (l := keptRows n told) (List.mem_filter.mpr ⟨hr, brk_nil.mp h2⟩)
    omega
  · obtain ⟨r, hr⟩ := List.exists_mem_of_length_pos (l := keptRows n told) (by omega)
    obtain ⟨h1, h2⟩ := List.mem_filter.mp hr
    have h3 := least_le n told h1
    rw [brk_nil.mpr h2] at h3
    obtain ⟨r', _, e⟩ := least_at n told
    simp only [List.length_nil] at h3
    omega
end K76
set_option Elab.async false
set_option linter.all false
set_option maxRecDepth 100000
set_option maxHeartbeats 2000000
/-! K76, part 6k: the dict of what each row breaks; an object of rules made -/
namespace K76
open PySem PySem.Spec PyProof.Rows L2
open PySem.W (Tup Datum DatumOrd)
/-- the dict at d: for each of the rows, what it breaks of told; none of its lists is r -/
def BrSt (K : PySem.W.Frag) (P : Program) (w : World) (r d : Addr) (rows : List Row) (told : List Rule) (H : Hp) : Prop :=
  ∃ es : List Ent, H d = some (DicO P w d es) ∧ es.map (·.2.1) = rows ∧ rows.Nodup ∧ ∀ e ∈ es, Hd K H (.ref e.1) e.2.1 ∧ ∃ l ws, e.2.2 = .ref l ∧ l ≠ r ∧ H l = some (.lst ws) ∧ Hds K H ws (brk told e.2.1)
section
variable {K : PySem.W.Frag} {P : Program} {w : World} {r d : Addr} {rows : List Row} {told : List Rule} {H H' : Hp} {σ : L2.St} {ta tb tk : TE} {mg : Str → Option Value} {C : Addr}
theorem BrSt.same (B : BrSt K P w r d rows told H) (e : Same H H') : BrSt K P w r d rows told H' := by
  obtain ⟨es, h1, h2, h3, h4⟩ := B
  refine ⟨es, e _ _ h1, h2, h3, fun x hx => ?_⟩
  obtain ⟨k1, l, ws, k2, k3, k4, k5⟩ := h4 x hx
  exact ⟨k1.up e, l, ws, k2, k3, e _ _ k4, k5.up e⟩
theorem BrSt.drawn {a : Addr} {ns : List Int} (B : BrSt K P w r d rows told H) (st : RowSt K a ns H r) (b : Bar r H H') : BrSt K P w r d rows told H' := by
  obtain ⟨es, h1, h2, h3, h4⟩ := B
  obtain ⟨ws0, h0⟩ := st.lst
  have kt : KeepT K H H' := b.tups h0
  refine ⟨es, b _ _ (ne_of h1 h0 (by intro z; cases z)) h1, h2, h3, fun x hx => ?_⟩
  obtain ⟨k1, l, ws, k2, k3, k4, k5⟩ := h4 x hx
  exact ⟨k1.keep kt, l, ws, k2, k3, b _ _ k3 k4, k5.keep kt⟩
/-- broken[row] -/
theorem evd_bro {i : Nat} {row : Row} (hσ : σ[i]? = some (some (.ref d))) (B : BrSt K P w r d rows told H) (hk : EvD K tk σ H row) (hr : row ∈ rows) : EvD K (tOp (rDixR K P w) (tVar i) tk) σ H (brk told row) := fun H1 e Q q => by
  refine ⟨_, hσ, hk H1 e _ fun v H2 e2 hv => ?_⟩
  obtain ⟨es, h1, h2, h3, h4⟩ := B.same (e.trans e2)
  rw [← h2] at hr
  obtain ⟨x, hx, hx2⟩ := List.mem_map.mp hr
  obtain ⟨k1, l, ws, k2, k3, k4, k5⟩ := h4 x hx
  refine ⟨d, es, row, .ref l, rfl, h1, fun e he => (h4 e he).1, by rw [h2]; exact h3, hv, ⟨x.1, ?_⟩, q _ H2 e2 ?_⟩
  · rw [← hx2, ← k2]
    exact hx
  · rw [hx2] at k5
    exact hd_list (SqL.of k4) k5
/-- Rules(n, told) -/
theorem evd_make {n : Int} (ha : EvD K ta σ H n) (hb : EvD K tb σ H (Tup.mk told)) (g : Good n told) : EvD K (tMake C (spInit K C) [] E0 (tCons ta (tCons tb tNil))) σ H (⟨n, told⟩ : RObj C) := fun H1 e Q q =>
  eva2 ha hb H1 e _ fun vs H2 e2 ⟨v, t, ev, hv, ht⟩ => by
    subst ev
    intro x dx nx ndx ne
    have s0 : Same H2 (upd (upd H2 dx (.own x)) x (.ins C dx [])) := fun b o h => by
      rw [upd_ne (ne_of_none h nx), upd_ne (ne_of_none h ndx)]
      exact h
    refine ⟨x, dx, v, t, n, told, rfl, upd_same, Rep.up s0 hv, Rep.up s0 ht, g, fun H3 hk hx => ⟨rfl, ?_⟩⟩
    have s3 : Same H2 H3 := fun b o h => hk b o (ne_of_none h nx) (s0 _ _ h)
    exact q _ H3 (e2.trans s3) ⟨x, dx, t, rfl, hx, Rep.up s3 ht⟩
/-- what one turn of the comprehension makes -/
def PairAtR (K : PySem.W.Frag) (told : List Rule) (H0 : Hp) (D : Addr) (x : Row) (v : V) (H : Hp) : Prop :=
  ∃ t q l ws, v = .ref t ∧ SqT K H t [.ref q, .ref l] ∧ Hd K H (.ref q) x ∧ H l = some (.lst ws) ∧ Hds K H ws (brk told x) ∧ l ≠ D ∧ H0 l = none
theorem PairAtR.up {H0 : Hp} {D : Addr} {x : Row} {v : V} (h : PairAtR K told H0 D x v H) (e : Same H H') : PairAtR K told H0 D x v H' := by
  obtain ⟨t, q, l, ws, h1, h2, h3, h4, h5, h6, h7⟩ := h
  exact ⟨t, q, l, ws, h1, sqT_up e h2, h3.up e, e _ _ h4, h5.up e, h6, h7⟩
theorem PairAtR.store {H0 : Hp} {D : Addr} {x : Row} {v : V} {acc acc' : List V} (hD : H D = some (.lst acc)) (h : PairAtR K told H0 D x v H) : PairAtR K told H0 D x v (upd H D (.lst acc')) := by
  obtain ⟨t, q, l, ws, h1, h2, h3, h4, h5, h6, h7⟩ := h
  exact ⟨t, q, l, ws, h1, sqT_store hD _ _ h2, h3.keep (sqT_store hD), by rw [upd_ne h6]; exact h4, h5.keep (sqT_store hD), h6, h7⟩
theorem ents_of {H0 : Hp} {D : Addr} : ∀ {acc : List V} {xs : List Row}, Paired (fun v x => PairAtR K told H0 D x v H) acc xs →
    ∃ es : List Ent, Paired (fun v e => ∃ t, v = V.ref t ∧ SqT K H t [.ref e.1, e.2.2] ∧ Hd K H (.ref e.1) e.2.1) acc es ∧ es.map (·.2.1) = xs ∧ ∀ e ∈ es, Hd K H (.ref e.1) e.2.1 ∧ ∃ l ws, e.2.2 = .ref l ∧ H0 l = none ∧ H l = some (.lst ws) ∧ Hds K H ws (brk told e.2.1)
  | _, _, .nil => ⟨[], .nil, rfl, fun e he => (by cases he)⟩
  | _, _, .cons h t => by
    obtain ⟨es, a1, a2, a3⟩ := ents_of t
    obtain ⟨b, q, l, ws, h1, h2, h3, h4, h5, h6, h7⟩ := h
    refine ⟨(q, _, .ref l) :: es, .cons ⟨b, h1, h2, h3⟩ a1, by rw [List.map_cons, a2], fun e he => ?_⟩
    rcases List.mem_cons.mp he with rfl | he
    · exact ⟨h3, l, ws, rfl, h7, h4, h5⟩
    · exact a3 e he
end
theorem rowsN_nodup : ∀ n, n < 7 → decide ((rowsN n).Nodup) = true := by decide +kernel
end K76
set_option Elab.async false
set_option linter.all false
set_option maxRecDepth 100000
set_option maxHeartbeats 8000000
/-! K76, part 6l: the law, walked -/
namespace K76
open PySem PySem.Spec PyProof.Rows L2
open PySem.W (Tup Datum DatumOrd)
abbrev nLaw : List Str := ["_law_script", "_law_row", "_law_many", "_law_told", "_law_rules", "_law_every", "_law_broken", "_law_least", "_law_due", "_law_some", "_law_out", "_law_rest", "_law_one", "_law_rule"]
theorem scLaw : FnScope nLaw ["_law_script"] (defScope sLaw) := ⟨rfl, rfl, rfl, by decide +kernel, rfl, by decide +kernel, by decide +kernel⟩
/-- the scope of the rows' comprehension -/
abbrev scOne : Scope := { kind := .function, names := [(Str.ofString ".0", .local), (Str.ofString "_law_one", .cell), (Str.ofString "_law_told", .cell)], isGenerator := false, isCoroutine := false, more := [] }
def spLaw (K : PySem.W.Frag) : Sp := fun vs H Q _ => ∃ (a : Addr) (ns : List Int), vs = [.ref a] ∧ SqL K H a (ns.map V.int) ∧ ns.length ≤ 63 ∧ ∀ H', Q (.bl true) H'
section
variable (P : Program) (w : World) (K : PySem.W.Frag) (C : Addr)
abbrev tL1 : TS := tAsg (tLst (tCons (tVar 0) (tCons (tC (.int 0)) (tCons (tC (.int 2776)) (tCons (tC (.int 0)) tNil))))) (gName 1)
abbrev tL2 : TS := tAsg (tCall (spDrawn K) [] E0 (tCons (tVar 1) (tCons (tC (.int 6)) tNil))) (gTup K 2 (gCons (gName 2) (gCons (gName 3) gNil)))
abbrev tL3 : TS := tPar 4 5 (tCons (tMake C (spInit K C) [] E0 (tCons (tVar 2) (tCons (tVar 3) tNil))) (tCons (tCall (spLawRows K) [] E0 (tCons (tVar 2) tNil)) tNil))
abbrev eBrk : TE := tLc (iTup K (tVar 3)) (gName 13) (tNot (tB (tCall (spLawKeeps K) [] E0 (tCons (tLst (tCons (tVar 13) tNil)) (tCons (tVar 12) tNil))))) (tVar 13) [13]
abbrev tL4 : TS := tAsg (tCB (rDictR K P w) (tCons (tLc (iList K (tVar 5)) (gName 12) tYes (tTup (tCons (tVar 12) (tCons (eBrk K) tNil))) [12]) tNil)) (gName 6)
abbrev eBro (i : Nat) : TE := tOp (rDixR K P w) (tVar 6) (tVar i)
abbrev eLen (te : TE) : TE := tCB (rLen K) (tCons te tNil)
abbrev tL5 : TS := tAsg (tCB (rMinT Int K) (tCons (tLc (iList K (tVar 5)) (gName 12) tYes (eLen K (eBro P w K 12)) [12]) tNil)) (gName 7)
abbrev tL6 : TS := tAsg (tLc (iList K (tVar 5)) (gName 12) (tTest (tOp rEq (eLen K (eBro P w K 12)) (tVar 7))) (tVar 12) [12]) (gName 8)
abbrev eAlike (ta tb : TE) : TE := tCall (spAlike K 8) [] E0 (tCons ta (tCons tb tNil))
abbrev tL7 : TS := tIfS (tOr (tNot (tB (eAlike K (tCall (spFewestBroken K C) [] E0 (tCons (tVar 4) tNil)) (tTup (tCons (tVar 7) (tCons (tOp (rIxL K) (tVar 8) (tC (.int 0))) tNil))))))
  (tNot (tB (eAlike K (tCall (spAllFewest K C) [] E0 (tCons (tVar 4) tNil)) (tVar 8))))) tNever tNext
abbrev tL8 : TS := tAsg (tCall (spPick K) [] E0 (tCons (tVar 1) (tCons (tVar 5) tNil))) (gName 9)
abbrev tL9 : TS := tIfS (tNot (tB (eAlike K (tCall (spBrokenBy K C) [] E0 (tCons (tVar 4) (tCons (tVar 9) tNil))) (eBro P w K 9)))) tNever tNext
abbrev tL10 : TS := tAsg (tCB (rMinT (Tup Rule) K) (tCons (tLc (iList K (tVar 8)) (gName 12) tYes (tCB (rTupOf K) (tCons (eBro P w K 12) tNil)) [12]) tNil)) (gName 10)
abbrev tL11 : TS := tIfS (tNot (tB (eAlike K (tCall (spLeast K C) [] E0 (tCons (tVar 4) tNil)) (tVar 10)))) tNever tNext
abbrev tL12 : TS := tAsg (tCB (rTupOf K) (tCons (tLc (iTup K (tVar 3)) (gName 13) (tTest (tOp (rNotInT Rule K) (tVar 13) (tVar 10))) (tVar 13) [13]) tNil)) (gName 11)
abbrev eGt (te : TE) : TE := tOp (rI0 fun i j => .bl (decide (j < i))) te (tC (.int 0))
abbrev tL13 : TS := tRet (tAndV (eGt (tCall (spCountRows K C) [] E0 (tCons (tMake C (spInit K C) [] E0 (tCons (tVar 2) (tCons (tVar 11) tNil))) tNil)))
  (tOp rEq (tOp rEq (tVar 7) (tC (.int 0))) (eGt (tCall (spCountRows K C) [] E0 (tCons (tVar 4) tNil)))))
abbrev tLaw : TS := tSeq tL1 (tSeq (tL2 K) (tSeq (tL3 K C) (tSeq (tL4 P w K) (tSeq (tL5 P w K) (tSeq (tL6 P w K) (tSeq (tL7 K C) (tSeq (tL8 K) (tSeq (tL9 P w K C) (tSeq (tL10 P w K) (tSeq (tL11 K C) (tSeq (tL12 K) (tL13 K C))))))))))))
end
section
variable {P : Program} {w : World} {K : PySem.W.Frag} {mg : Str → Option Value} {base : Heap} {C : Addr}
theorem walk_law {f fI : Addr} {fd fdI : FuncData} (T : Txt K mg C) (M : Mk K C fI) (FI : FnOk P w K mg base CX0 4 fI fdI ["self", "many", "rules"] (spInit K C)) (bI : Binds K fdI ["self", "many", "rules"] [])
    (Gd : Callee P w K mg base 4 "_law_drawn" ["_law_row", "_law_most"] (spDrawn K)) (Gr : Callee P w K mg base 1 "_law_rows" ["_law_many"] (spLawRows K)) (Gk : Callee P w K mg base 1 "_law_keeps" ["_law_rules", "_law_row"] (spLawKeeps K))
    (Ga : Callee P w K mg base 8 "_law_alike" ["_law_found", "_law_due"] (spAlike K 8)) (Gf : Callee P w K mg base 5 "fewest_broken" ["rules"] (spFewestBroken K C)) (Gaf : Callee P w K mg base 5 "all_fewest" ["rules"] (spAllFewest K C))
    (Gp : Callee P w K mg base 2 "_law_pick" ["_law_row", "_law_things"] (spPick K)) (Gb : Callee P w K mg base 4 "broken_by" ["rules", "row"] (spBrokenBy K C)) (Gl : Callee P w K mg base 5 "least_left_out" ["rules"] (spLeast K C)) (Gc : Callee P w K mg base 5 "count_rows" ["rules"] (spCountRows K C))
    {cdv : Value} {A : Around} {outer : List Env} {s : Shared} {H : Hp} {E : XK} (hr : Room 8 (A.deeper (envOfC "law" (defScope sLaw) s.heap.objs.size f cdv))) :
    PSs (cxOf CX0 P w K mg base nLaw "law" (defScope sLaw) f cdv A outer s H E).nox (defBody sLaw) (tLaw P w K C) := by
  have hu1 : (A.deeper (envOfC "law" (defScope sLaw) s.heap.objs.size f cdv)).units + 1 < cLine := by have := hr.units; omega
  have hr1 := hr.mono (by decide : 1 ≤ 8)
  have hr2 := hr.mono (by decide : 2 ≤ 8)
  have hr4 := hr.mono (by decide : 4 ≤ 8)
  have hr5 := hr.mono (by decide : 5 ≤ 8)
  refine pss_cons (ps_set (i := 1) scLaw.nd rfl (Or.inl rfl) (pe_lst (pa_cons (pv 0) (pa_cons pe_int (pa_cons pe_int (pa_cons pe_int pa_nil))))))
    (pss_cons (ps_asg (pe_cal Gd hr4 (by rfl) (pa_cons (pv 1) (pa_cons pe_int pa_nil))) (pg_tup rfl (pgs_cons (pg_name (i := 2) scLaw.nd rfl (Or.inl rfl)) (pgs_cons (pg_name (i := 3) scLaw.nd rfl (Or.inr rfl)) pgs_nil))))
    (pss_cons (ps_par (i := 4) (j := 5) rfl scLaw.nd rfl rfl (by decide) rfl rfl (pa_cons (pe_make M FI hr5 (by rfl) T.mgC bI .nil pass0 (pa_cons (pv 2) (pa_cons (pv 3) pa_nil))) (pa_cons (pe_cal Gr hr1 (by rfl) (pa_cons (pv 2) pa_nil)) pa_nil)) (by rfl))
    (pss_cons (ps_set (i := 6) scLaw.nd rfl (Or.inr rfl) (pe_callTy (cr_dictR rfl hr.units) (by rfl) T.dict (by decide +kernel) (pa_cons (pe_lc (own := [("_law_one", 12)]) (g := gName 12) (tt := tYes) (te := tTup (tCons (tVar 12) (tCons (eBrk K) tNil))) rfl scLaw.nd (pi_list (pv 5)) (blkOk_by (N := nLaw) (sc := defScope sLaw) (by decide +kernel))
      (fun _ _ _ _ _ => pg_name (i := 12) scLaw.nd rfl (Or.inr rfl)) (fun _ _ _ _ _ => pts_nil)
      (fun _ _ _ _ _ => pe_tup (pa_cons (pv 12) (pa_cons (pe_lc (own := [("_law_rule", 13)]) (g := gName 13) (tt := tNot (tB (tCall (spLawKeeps K) [] E0 (tCons (tLst (tCons (tVar 13) tNil)) (tCons (tVar 12) tNil))))) (te := tVar 13) rfl scLaw.nd (pi_tup (pv 3)) (blkOk_by (N := nLaw) (sc := scOne) (by decide +kernel))
        (fun _ _ _ _ _ => pg_name (i := 13) scLaw.nd rfl (Or.inl rfl)) (fun _ _ _ _ _ => pts_one (pt_not (pt_val (pe_cal Gk hr1 (by rfl) (pa_cons (pe_lst (pa_cons (pv 13) pa_nil)) (pa_cons (pv 12) pa_nil)))))) (fun _ _ _ _ _ => pv 13)) pa_nil)))) pa_nil)))
    (pss_cons (ps_set (i := 7) scLaw.nd rfl (Or.inr rfl) (pe_callB (cr_minT (α := Int) rfl hr.units (by decide)) (by rfl) T.min (by decide +kernel) (pa_cons (pe_lc (own := [("_law_one", 12)]) (g := gName 12) (tt := tYes) (te := eLen K (eBro P w K 12)) rfl scLaw.nd (pi_list (pv 5)) (blkOk_by (N := nLaw) (sc := defScope sLaw) (by decide +kernel))
      (fun _ _ _ _ _ => pg_name (i := 12) scLaw.nd rfl (Or.inl rfl)) (fun _ _ _ _ _ => pts_nil) (fun _ _ _ _ _ => pe_callB call_len_seq (by rfl) T.len PySem.boot_len (pa_cons (pe_dixR hu1 (pv 6) (pv 12) (fun _ _ => rfl)) pa_nil))) pa_nil)))
    (pss_cons (ps_setLc (i := 8) (own := [("_law_one", 12)]) (g := gName 12) (tt := tTest (tOp rEq (eLen K (eBro P w K 12)) (tVar 7))) (te := tVar 12) rfl scLaw.nd rfl rfl (sw_true rfl rfl rfl (by decide +kernel)) (pi_list (pv 5)) (blkOk_by (N := nLaw) (sc := defScope sLaw) (by decide +kernel))
      (fun _ _ _ _ _ => pg_name (i := 12) scLaw.nd rfl (Or.inl rfl)) (fun _ _ _ _ _ => pts_one (pt_cmpR op_eq (pe_callB call_len_seq (by rfl) T.len PySem.boot_len (pa_cons (pe_dixR hu1 (pv 6) (pv 12) (fun _ _ => rfl)) pa_nil)) (pv 7) (nomark _))) (fun _ _ _ _ _ => pv 12))
    (pss_cons (ps_if (PW.pt (pw_or (pt_not (pt_val (pe_cal Ga hr (by rfl) (pa_cons (pe_cal Gf hr5 (by rfl) (pa_cons (pv 4) pa_nil)) (pa_cons (pe_tup (pa_cons (pv 7) (pa_cons (pe_ix ix_list (pv 8) pe_int (fun _ _ => rfl)) pa_nil))) pa_nil)))))
      (pw_or1 (pt_not (pt_val (pe_cal Ga hr (by rfl) (pa_cons (pe_cal Gaf hr5 (by rfl) (pa_cons (pv 4) pa_nil)) (pa_cons (pv 8) pa_nil)))))))) pss_never pss_nil)
    (pss_cons (ps_set (i := 9) scLaw.nd rfl (Or.inl rfl) (pe_cal Gp hr2 (by rfl) (pa_cons (pv 1) (pa_cons (pv 5) pa_nil))))
    (pss_cons (ps_if (pt_not (pt_val (pe_cal Ga hr (by rfl) (pa_cons (pe_cal Gb hr4 (by rfl) (pa_cons (pv 4) (pa_cons (pv 9) pa_nil))) (pa_cons (pe_dixR hu1 (pv 6) (pv 9) (fun _ _ => rfl)) pa_nil))))) pss_never pss_nil)
    (pss_cons (ps_set (i := 10) scLaw.nd rfl (Or.inr rfl) (pe_callB (cr_minT (α := Tup Rule) rfl hr.units (by decide)) (by rfl) T.min (by decide +kernel) (pa_cons (pe_lc (own := [("_law_one", 12)]) (g := gName 12) (tt := tYes) (te := tCB (rTupOf K) (tCons (eBro P w K 12) tNil)) rfl scLaw.nd (pi_list (pv 8)) (blkOk_by (N := nLaw) (sc := defScope sLaw) (by decide +kernel))
      (fun _ _ _ _ _ => pg_name (i := 12) scLaw.nd rfl (Or.inl rfl)) (fun _ _ _ _ _ => pts_nil) (fun _ _ _ _ _ => pe_callTy call_tuple_of (by rfl) T.tup (by decide +kernel) (pa_cons (pe_dixR hu1 (pv 6) (pv 12) (fun _ _ => rfl)) pa_nil))) pa_nil)))
    (pss_cons (ps_if (pt_not (pt_val (pe_cal Ga hr (by rfl) (pa_cons (pe_cal Gl hr5 (by rfl) (pa_cons (pv 4) pa_nil)) (pa_cons (pv 10) pa_nil))))) pss_never pss_nil)
    (pss_cons (ps_set (i := 11) scLaw.nd rfl (Or.inl rfl) (pe_callTy call_tuple_of (by rfl) T.tup (by decide +kernel) (pa_cons (pe_lc (own := [("_law_rule", 13)]) (g := gName 13) (tt := tTest (tOp (rNotInT Rule K) (tVar 13) (tVar 10))) (te := tVar 13) rfl scLaw.nd (pi_tup (pv 3)) (blkOk_by (N := nLaw) (sc := defScope sLaw) (by decide +kernel))
      (fun _ _ _ _ _ => pg_name (i := 13) scLaw.nd rfl (Or.inl rfl)) (fun _ _ _ _ _ => pts_one (pt_cmpR (op_notInT (α := Rule) hr.units (by decide)) (pv 13) (pv 10) rfl)) (fun _ _ _ _ _ => pv 13)) pa_nil)))
    (pss_one (ps_ret (pe_and (pe_cmpR op_gt (pe_cal Gc hr5 (by rfl) (pa_cons (pe_make M FI hr5 (by rfl) T.mgC bI .nil pass0 (pa_cons (pv 2) (pa_cons (pv 11) pa_nil))) pa_nil)) pe_int (nomark _))
      (pe_one (pe_cmpR op_eq (pe_cmpR op_eq (pv 7) pe_int (nomark _)) (pe_cmpR op_gt (pe_cal Gc hr5 (by rfl) (pa_cons (pv 4) pa_nil)) pe_int (nomark _)) (nomark _)))))))))))))))))
end
end K76
set_option Elab.async false
set_option linter.all false
set_option maxRecDepth 100000
set_option maxHeartbeats 8000000
/-! K76, part 6m: the law, read -/
namespace K76
open PySem PySem.Spec PyProof.Rows L2
open PySem.W (Tup Datum DatumOrd)
section
variable {α : Type} [DecidableEq α] [Datum α] {K : PySem.W.Frag} {σ : L2.St} {H : Hp} {ta tb te : TE}
theorem evd_dat {x : α} (h : EvD K te σ H x) : EvD K te σ H (Datum.toD x) := h
theorem evd_alike {x : α} (ha : EvD K ta σ H x) (hb : EvD K tb σ H x) (hi : itl (Datum.toD x) = true) (hd : Datum.depth α ≤ 7) : EvD K (eAlike K ta tb) σ H true :=
  evd_call (x := Datum.toD x) (eva2 (evd_dat ha) (evd_dat hb)) ⟨hi, by have := Datum.depth_le x; omega⟩
theorem q_cb {r : List V → Hp → VK → Prop} {i : Nat} {D : Ends} {tU : TS} (h : te σ H fun v H1 => r [v] H1 fun u H2 => tU D (σ.set i (some u)) H2) : tSeq (tAsg (tCB r (tCons te tNil)) (gName i)) tU D σ H := h
theorem go_pairL {xs : List α} {i : Nat} {v : V} {Q : VK} (hσ : σ[i]? = some (some v)) (h : EvL K te σ H xs) (k : ∀ l ws H1 t, H l = none → Same H H1 → H1 l = some (.lst ws) → Hds K H1 ws xs → H1 t = none → Q (.ref t) (upd H1 t (.tup [v, .ref l]))) : tTup (tCons (tVar i) (tCons te tNil)) σ H Q :=
  ⟨v, hσ, h H (Same.refl H) _ fun l ws H1 hn e hl hw => ⟨by show 2 ≤ sizeLine; decide, fun t ht => k l ws H1 t hn e hl hw ht⟩⟩
/-- a, b = x, [..] with plain local names -/
theorem q_parL {τ : Type} [Rep τ] {x : τ} {xs : List α} {i j : Nat} {D : Ends} {tU : TS} (ha : EvD K ta σ H x) (hb : EvL K tb σ H xs) (k : ∀ v p ws H1 H2, Same H H1 → Rep.rep K H1 v x → H1 p = none → Same H1 H2 → H2 p = some (.lst ws) → Hds K H2 ws xs → tU D ((σ.set i (some v)).set j (some (.ref p))) H2) :
    tSeq (tPar i j (tCons ta (tCons tb tNil))) tU D σ H := ha H (Same.refl H) _ fun v H1 e1 hv => hb H1 e1 _ fun p ws H2 hn e2 hp hw => ⟨_, _, rfl, k v p ws H1 H2 e1 hv hn e2 hp hw⟩
theorem itl_row {r : Row} (h : r.items.length ≤ 1000) : itl (Datum.toD r) = true := itl_tup h fun x _ => itl_int x
theorem itl_rule (u : Rule) : itl (Datum.toD u) = true := itl_pair (itl_pair (itl_int _) (itl_int _)) (itl_pair (itl_int _) (itl_int _))
end
theorem brk_len (told : List Rule) (r : Row) : (brk told r).length ≤ told.length := List.length_filter_le _ _
theorem bits_all : ∀ n, n < 7 → ((rowsN n).all fun r => okRow n r) = true := by decide +kernel
section
variable {P : Program} {w : World} {K : PySem.W.Frag} {mg : Str → Option Value} {C : Addr}
theorem read_law {H : Hp} {Q : VK} {a : Addr} {ns : List Int} (T : Txt K mg C) (hS : SqL K H a (ns.map V.int)) (k : ∀ H', Q (.bl true) H') : tLaw P w K C { nx := fun _ H' => Q .non H', rt := Q } (start nLaw [.ref a]) H := by
  -- row = [script, 0, 2776, 0]
  refine ⟨_, rfl, by show 4 ≤ sizeLine; decide, fun r hr => ?_⟩
  have st1 : RowSt K a ns (upd H r (.lst [.ref a, .int 0, .int 2776, .int 0])) r := ⟨0, 2776, 0, upd_same, sqL_free hS hr hS, far_new hS hr, Int.le_refl _⟩
  generalize upd H r (.lst [.ref a, .int 0, .int 2776, .int 0]) = H1 at st1
  -- many, told = drawn(row, 6)
  refine ⟨_, rfl, r, a, ns, rfl, st1, fun v n told H2 hv hn6 g hl b2 st2 => ?_⟩
  obtain ⟨t0, v1, v2, rfl, s0, hv1, hv2⟩ := Hd.pair hv
  refine ⟨t0, [v1, v2], rfl, s0, rfl, v1, [v2], rfl, v2, [], rfl, rfl, ?_⟩
  rw [Hd.int hv1]
  have hn1 := g.lo
  have hnn : ((n.toNat : Nat) : Int) = n := by omega
  have hn7 : n.toNat < 7 := by omega
  -- rules, every = Rules(many, told), rows(many)
  show tSeq (tL3 K C) (tSeq (tL4 P w K) (tSeq (tL5 P w K) (tSeq (tL6 P w K) (tSeq (tL7 K C) (tSeq (tL8 K) (tSeq (tL9 P w K C) (tSeq (tL10 P w K) (tSeq (tL11 K C) (tSeq (tL12 K) (tL13 K C)))))))))) { nx := fun _ H' => Q .non H', rt := Q }
    [some (.ref a), some (.ref r), some (.int n), some v2, none, none, none, none, none, none, none, none, none, none] H2
  refine q_parL (K := K) (x := (⟨n, told⟩ : RObj C)) (xs := rowsN n.toNat) (evd_make (n := n) (told := told) (evd_var (i := 2) rfl (hd_int n)) (evd_var (i := 3) rfl hv2) g) (evl_call (f := fun (x : Int) => rowsN x.toNat) (x := n) (eva1 (evd_var (i := 2) rfl (hd_int n))) ⟨hn1, hn6⟩) fun vR pe we H3 H4 e3 hR hne e4 hpe hwe => ?_
  have st4 := (st2.same e3).same e4
  have hper : pe ≠ r := fun e => by
    obtain ⟨ws, h3⟩ := (st2.same e3).lst
    rw [e, h3] at hne
    cases hne
  have hv24 : Hd K H4 v2 (Tup.mk told) := (hv2.up e3).up e4
  have hR4 : Rep.rep K H4 vR (⟨n, told⟩ : RObj C) := Rep.up e4 hR
  have hcount : (rowsN n.toNat).length ≤ 256 := rowsN_le g
  have hrow : ∀ r ∈ rowsN n.toNat, r.items.length = n.toNat := rowsN_len n.toNat
  have hin : ∀ r ∈ rowsN n.toNat, ∀ u ∈ told, inR r.items.length u := fun r hr u hu => by rw [hrow r hr]; exact g.inR u hu
  have hnd : (rowsN n.toNat).Nodup := of_decide_eq_true (rowsN_nodup n.toNat hn7)
  -- broken = dict(..)
  refine q_cb ?_
  refine evl_lcP (K := K) (xs := rowsN n.toNat) (T := T1 K 12 (wipe [some (.ref a), some (.ref r), some (.int n), some v2, some vR, some (.ref pe), none, none, none, none, none, none, none, none] [12])) (p := fun _ => true) (PairAtR K told H4) (fun D x v Ha Hb e h => h.up e) (fun D x v Ha acc acc' hD h => h.store hD)
    (evi_list (evd_var (i := 5) rfl (hd_list (SqL.of hpe) hwe))) (by omega) tg1 (fun x σ2 H5 e5 hm ⟨v, hs, hv⟩ => ?_) fun D acc H5 hnD e5 hD hP => ?_
  · subst hs
    refine ⟨rfl, evb_yes, fun _ D acc hD H6 e6 Q' q' => ?_⟩
    have hbk : EvL K (eBrk K) [some (.ref a), some (.ref r), some (.int n), some v2, some vR, some (.ref pe), none, none, none, none, none, none, some v, none] H6 (told.filter fun u => !keptAll [u] x.items) := by
      refine evl_filter (p := fun u => !keptAll [u] x.items) (evi_tup (t := Tup.mk told) (evd_var (i := 3) rfl ((hv24.up e5).up e6))) (by omega) tg1 fun u σ3 H7 e7 hm2 ⟨v', hs', hv'⟩ => ?_
      subst hs'
      exact ⟨rfl, evb_not (evb_val (evd_call (x := ([u], x)) (eva2 (EvL.d (evl_one (evd_var (i := 13) rfl hv'))) (evd_var (i := 12) rfl ((hv.up e6).up e7))) (fun u' hu' => by
        rw [List.mem_singleton.mp hu']
        exact hin x hm u hm2))), evd_var (i := 13) rfl hv'⟩
    refine go_pairL rfl hbk fun l ws H7 t hnl e7 hl' hws ht => ?_
    obtain ⟨c0, vs0, hc, sq0, hi0⟩ := Hd.tup hv
    subst hc
    refine q' _ _ ?_ ⟨t, c0, l, ws, rfl, SqT.of upd_same, ?_, ?_, ?_, fun e => ?_, ?_⟩
    · exact e7.trans fun b o hb => by rw [upd_ne (ne_of_none hb ht)]; exact hb
    · exact ((hv.up e6).up e7).up fun b o hb => by rw [upd_ne (ne_of_none hb ht)]; exact hb
    · rw [upd_ne (ne_of_none hl' ht)]
      exact hl'
    · rw [brk_law] at hws
      exact hws.up fun b o hb => by rw [upd_ne (ne_of_none hb ht)]; exact hb
    · rw [e, e6 _ _ hD] at hnl
      cases hnl
    · exact (e5.trans e6).free hnl
  have hfil : (rowsN n.toNat).filter (fun _ => true) = rowsN n.toNat := List.filter_eq_self.mpr fun _ _ => rfl
  rw [hfil] at hP
  obtain ⟨es, a1, a2, a3⟩ := ents_of hP
  refine ⟨D, acc, es, rfl, SqL.of hD, a1, by rw [a2]; exact hnd, ?_, fun d hd => ?_⟩
  · have h1 : es.length = (rowsN n.toNat).length := by rw [← a2, List.length_map]
    omega
  have e6 : Same H5 (upd H5 d (DicO P w d es)) := fun b o hb => by rw [upd_ne (ne_of_none hb hd)]; exact hb
  have B6 : BrSt K P w r d (rowsN n.toNat) told (upd H5 d (DicO P w d es)) := by
    refine ⟨es, upd_same, a2, hnd, fun x hx => ?_⟩
    obtain ⟨k1, l, ws, k2, k3, k4, k5⟩ := a3 x hx
    refine ⟨k1.up e6, l, ws, k2, fun e => ?_, e6 _ _ k4, k5.up e6⟩
    obtain ⟨ws, h3⟩ := st4.lst
    rw [e, h3] at k3
    cases k3
  have st6 := (st4.same e5).same e6
  have hpe6 := e6 _ _ (e5 _ _ hpe)
  have hwe6 := (hwe.up e5).up e6
  have hv26 := (hv24.up e5).up e6
  have hR6 : Rep.rep K _ vR (⟨n, told⟩ : RObj C) := Rep.up e6 (Rep.up e5 hR4)
  generalize upd H5 d (DicO P w d es) = H6 at B6 st6 hpe6 hwe6 hv26 hR6
  -- least = min(..)
  obtain ⟨y0, ys0, hlens, hleast⟩ := least_law n.toNat told
  refine q_asg (K := K) (x := leastN n.toNat told) (EvD.cast (evd_min (γ := Int) (x := y0) (xs := ys0) (EvD.cast (EvL.d (evl_map (f := fun r : Row => ((brk told r).length : Int)) (evi_list (evd_var (i := 5) rfl (hd_list (SqL.of hpe6) hwe6))) (by omega) tg1 fun x σ2 H7 e7 hm ⟨v, hs, hv⟩ => ?_)) hlens)) hleast) fun vL H7 e7 hL => ?_
  · subst hs
    exact ⟨rfl, evd_lenL (evd_bro (i := 6) rfl (B6.same e7) (evd_var (i := 12) rfl hv) hm)⟩
  rw [Hd.int hL]
  have B7 := B6.same e7
  have st7 := st6.same e7
  have hpe7 := e7 _ _ hpe6
  have hwe7 := hwe6.up e7
  have hv27 := hv26.up e7
  have hR7 : Rep.rep K _ vR (⟨n, told⟩ : RObj C) := Rep.up e7 hR6
  -- due = [..]
  refine q_asgL (K := K) (EvL.cast (evl_filter (p := fun r : Row => decide (((brk told r).length : Int) = leastN n.toNat told)) (evi_list (evd_var (i := 5) rfl (hd_list (SqL.of hpe7) hwe7))) (by omega) tg1 fun x σ2 H8 e8 hm ⟨v, hs, hv⟩ => ?_) (due_law n.toNat told)) fun pd wd H8 hnd8 e8 hpd hwd => ?_
  · subst hs
    exact ⟨rfl, evb_test (evd_eqI (evd_lenL (evd_bro (i := 6) rfl (B7.same e8) (evd_var (i := 12) rfl hv) hm)) (evd_var (i := 7) rfl (hd_int _))), evd_var (i := 12) rfl hv⟩
  have B8 := B7.same e8
  have st8 := st7.same e8
  have hpe8 := e8 _ _ hpe7
  have hwe8 := hwe7.up e8
  have hv28 := hv27.up e8
  have hR8 : Rep.rep K _ vR (⟨n, told⟩ : RObj C) := Rep.up e8 hR7
  have hdue : Hd K H8 (.ref pd) (fewestL n.toNat told) := hd_list (SqL.of hpd) hwd
  obtain ⟨d0, ds0, hds⟩ : ∃ d0 ds0, fewestL n.toNat told = d0 :: ds0 := by
    cases h : fewestL n.toNat told with
    | nil => exact absurd h (fewest_ne _ _)
    | cons y ys => exact ⟨y, ys, rfl⟩
  have hd0 : (fewestL n.toNat told).getD 0 (Tup.mk []) = d0 := by rw [hds]; rfl
  have hd0' : (fewestL n.toNat told)[0]? = some d0 := by rw [hds]; rfl
  have hd0r : d0 ∈ rowsN n.toNat := fewest_sub (by rw [hds]; exact List.mem_cons_self)
  have hfl : (fewestL n.toNat told).length ≤ 256 := fewest_len g
  have small : ∀ r ∈ rowsN n.toNat, r.items.length ≤ 1000 := fun r hr => by rw [hrow r hr]; omega
  refine q_when (EvB.cast (b' := false) (evb_or (a := false) (b := false) (EvB.cast (evb_not (evb_val (evd_alike (x := ((leastN n.toNat told, d0) : Int × Row)) (EvD.cast (evd_call (x := (⟨n, told⟩ : RObj C)) (eva1 (evd_var (i := 4) rfl hR8)) g) (by rw [hd0]))
      (evd_pair (evd_var (i := 7) rfl (hd_int _)) (evd_ixL (j := 0) (evd_var (i := 8) rfl hdue) evd_int rfl hd0')) (itl_pair (itl_int _) (itl_row (small _ hd0r))) (by decide)))) rfl)
    fun _ => EvB.cast (evb_not (evb_val (evd_alike (x := fewestL n.toNat told) (evd_call (x := (⟨n, told⟩ : RObj C)) (eva1 (evd_var (i := 4) rfl hR8)) g) (evd_var (i := 8) rfl hdue) (itl_list (by omega) fun x hx => itl_row (small _ (fewest_sub hx))) (by decide)))) rfl) rfl) (fun h => nomatch h) fun _ H9 e9 => ?_
  have st9 := st8.same e9
  have hpdr : pd ≠ r := fun e => by
    obtain ⟨ws, h3⟩ := st7.lst
    rw [e, h3] at hnd8
    cases hnd8
  have hwel := hwe.len
  have hpos : 0 < (rowsN n.toNat).length := List.length_pos_of_mem hd0r
  -- some = pick(row, every)
  refine ⟨_, rfl, _, rfl, r, pe, a, ns, we, rfl, st9, SqL.of (e9 _ _ hpe8), hper, by omega, by omega, fun vs H10 hvs b10 st10 => ?_⟩
  obtain ⟨ws9, h9⟩ := st9.lst
  have kt : KeepT K H9 H10 := b10.tups h9
  obtain ⟨sm, hsm, hvsd⟩ := (hwe8.up e9).memW vs hvs
  have B10 := (B8.same e9).drawn st9 b10
  have hv210 := (hv28.up e9).keep kt
  have hdue10 : Hd K H10 (.ref pd) (fewestL n.toNat told) := hd_list (SqL.of (b10 _ _ hpdr (e9 _ _ hpd))) ((hwd.up e9).keep kt)
  have hR10 : Rep.rep K H10 vR (⟨n, told⟩ : RObj C) := by
    obtain ⟨x, dx, t, q1, q2, q3⟩ := Rep.up e9 hR8
    exact ⟨x, dx, t, q1, b10 _ _ (ne_of q2 h9 (by intro z; cases z)) q2, q3.keep kt⟩
  have hsm10 := hvsd.keep kt
  have hokr : okRow n sm = true := by
    have h := List.all_eq_true.mp (bits_all n.toNat hn7) sm hsm
    rw [hnn] at h
    exact h
  have itlB : ∀ r : Row, itl (Datum.toD (brk told r)) = true := fun r => itl_list (by have := brk_len told r; omega) fun u _ => itl_rule u
  have hbb : EvL K (tCall (spBrokenBy K C) [] E0 (tCons (tVar 4) (tCons (tVar 9) tNil))) [some (.ref a), some (.ref r), some (.int n), some v2, some vR, some (.ref pe), some (.ref d), some (.int (leastN n.toNat told)), some (.ref pd), some vs, none, none, none, none] H10 (brk told sm) :=
    evl_call (x := ((⟨n, told⟩ : RObj C), sm)) (eva2 (evd_var (i := 4) rfl hR10) (evd_var (i := 9) rfl hsm10)) ⟨g, hrow sm hsm, hokr⟩
  refine q_when (EvB.cast (b' := false) (evb_not (evb_val (evd_alike (x := brk told sm) (EvL.d hbb)
    (evd_bro (i := 6) rfl B10 (evd_var (i := 9) rfl hsm10) hsm) (itlB sm) (by decide)))) rfl) (fun h => nomatch h) fun _ H11 e11 => ?_
  -- out = min(..)
  obtain ⟨o0, os0, hos, hout⟩ := out_law n.toNat told
  refine q_asg (K := K) (x := outOf n.toNat told) (EvD.cast (evd_min (γ := Tup Rule) (x := o0) (xs := os0) (EvD.cast (EvL.d (evl_map (f := fun r : Row => (Tup.mk (brk told r) : Tup Rule)) (evi_list (evd_var (i := 8) rfl (hdue10.up e11))) (by omega) tg1 fun x σ2 H12 e12 hm ⟨v, hs, hv⟩ => ?_)) hos)) hout) fun vO H12 e12 hO => ?_
  · subst hs
    exact ⟨rfl, evd_tupOf (evd_bro (i := 6) rfl ((B10.same e11).same e12) (evd_var (i := 12) rfl hv) (fewest_sub hm))⟩
  have hR12 : Rep.rep K _ vR (⟨n, told⟩ : RObj C) := Rep.up e12 (Rep.up e11 hR10)
  have hv212 := (hv210.up e11).up e12
  obtain ⟨ro, hro, eo⟩ := out_at n.toNat told
  have hol : (outOf n.toNat told).items.length ≤ 1000 := by
    rw [eo]
    have := brk_len told ro
    omega
  refine q_when (EvB.cast (b' := false) (evb_not (evb_val (evd_alike (x := outOf n.toNat told) (evd_call (x := (⟨n, told⟩ : RObj C)) (eva1 (evd_var (i := 4) rfl hR12)) g) (evd_var (i := 10) rfl hO) (itl_tup hol fun u _ => itl_rule u) (by decide)))) rfl) (fun h => nomatch h) fun _ H13 e13 => ?_
  -- rest = tuple(..)
  have hO13 := Hd.up e13 hO
  have hv213 := hv212.up e13
  refine q_asg (K := K) (x := (Tup.mk (restOf n.toNat told) : Tup Rule)) (evd_tupOf (EvL.d (evl_filter (p := fun u : Rule => decide (u ∉ (outOf n.toNat told).items)) (evi_tup (t := Tup.mk told) (evd_var (i := 3) rfl hv213)) (by omega) tg1 fun u σ2 H14 e14 hm ⟨v, hs, hv⟩ => ?_))) fun vT H14 e14 hT => ?_
  · subst hs
    exact ⟨rfl, EvB.cast (evb_test (evd_notIn (evd_var (i := 13) rfl hv) (evd_var (i := 10) rfl (hO13.up e14)))) (decide_eq_decide.mpr Iff.rfl), evd_var (i := 13) rfl hv⟩
  have hR14 : Rep.rep K _ vR (⟨n, told⟩ : RObj C) := Rep.up e14 (Rep.up e13 hR12)
  have gr : Good n (restOf n.toNat told) := rest_good g n.toNat
  have hkept := rest_kept n.toNat told
  refine s_ret (EvD.cast (x' := true) (evd_and (evd_IB (g := fun i j => decide (j < i)) (evd_call (x := (⟨n, restOf n.toNat told⟩ : RObj C)) (eva1 (evd_make (evd_var (i := 2) rfl (hd_int n)) (evd_var (i := 11) rfl hT) gr)) gr) evd_int)
    fun _ => evd_eqB (evd_eqI (evd_var (i := 7) rfl (hd_int _)) evd_int) (evd_IB (g := fun i j => decide (j < i)) (evd_call (x := (⟨n, told⟩ : RObj C)) (eva1 (evd_var (i := 4) rfl hR14)) g) evd_int)) ?_) fun v H15 e15 hv => ?_
  · show (decide ((0 : Int) < ((keptRows n.toNat (restOf n.toNat told)).length : Int)) && decide (decide (leastN n.toNat told = 0) = decide ((0 : Int) < ((keptRows n.toNat told).length : Int)))) = true
    rw [least_none, decide_eq_true (show (0 : Int) < ((keptRows n.toNat (restOf n.toNat told)).length : Int) by omega), decide_eq_true rfl]
    rfl
  · rw [Hd.bool hv]
    exact k _
end
end K76
set_option Elab.async false
set_option linter.all false
set_option maxRecDepth 100000
set_option maxHeartbeats 2000000
/-! K76, part 6n: the law and all that it leans on -/
namespace K76
open PySem PySem.Spec PyProof.Rows L2
open PySem.W (Tup Datum DatumOrd)
/-- a def of the top, as the head has written it -/
structure Def (K : PySem.W.Frag) (x : Str) (st : Stmt) : Prop where
  ex : ∃ (f : Addr) (fd : FuncData), Fun K x x st f fd ∧ PySem.W.nsIn K mainGlobals x = some (some (.ref f))
theorem def_mk {K : PySem.W.Frag} {x : Str} {st : Stmt} {f : Addr} {oc : Value} {od an : Option Addr} {osl : Array (Option Value)} {kV doc pm cdv ct : Value} (a : PySem.W.nsIn K mainGlobals x = some (some (.ref f)))
    (l : K.lookup f = some ⟨oc, od, .func (PySem.W.fnOf x x (defArgs st) (defBody st) (defScope st) .none kV doc pm an cdv ct), osl⟩) (c : PySem.W.codeIn K cdv x = true) (k : PySem.W.keepIn K (.ref f) = true) : Def K x st := ⟨f, _, fun_mk l c k, a⟩
section
variable {P : Program} {w : World} {K : PySem.W.Frag} {mg : Str → Option Value} {base : Heap} {C : Addr}
theorem Def.cal {x : Str} {st : Stmt} {ps : List Str} {k : Nat} {sp : Sp} {h : Heap} (D : Def K x st) (X : K.In h) (G : h.Ns mainGlobals mg)
    (hb : ∀ (kV doc pm : Value) (an : Option Addr) (cdv ct : Value) (us : List Value), us.length = ps.length → bindArgs (PySem.W.fnOf x x (defArgs st) (defBody st) (defScope st) .none kV doc pm an cdv ct) ⟨us, []⟩ = pure (ps.zip us))
    (ok : ∀ (f : Addr) (fd : FuncData), Fun K x x st f fd → FnOk P w K mg base CX0 k f fd ps sp) : Callee P w K mg base k x ps sp := by
  obtain ⟨f, fd, F, a⟩ := D.ex
  exact ⟨f, fd, ok f fd F, PySem.W.mg_of X G a, F.kp, F.binds hb⟩
/-- the defs of the top -/
structure Defs (K : PySem.W.Frag) : Prop where
  isFrom : Def K "is_from" sIsFrom
  isWant : Def K "is_want_of" sIsWant
  off : Def K "off" sOff
  isRule : Def K "is_rule_of" sIsRule
  needRules : Def K "need_rules" sNeedRules
  isRow : Def K "is_row_of" sIsRow
  needRow : Def K "need_row" sNeedRow
  has : Def K "has" sHas
  isKept : Def K "is_kept" sIsKept
  areKept : Def K "are_kept" sAreKept
  allRows : Def K "all_rows" sAllRows
  keptRows : Def K "kept_rows" sKeptRows
  countRows : Def K "count_rows" sCountRows
  brokenOf : Def K "broken_of" sBrokenOf
  brokenBy : Def K "broken_by" sBrokenBy
  fewestRows : Def K "fewest_rows" sFewestRows
  fewestBroken : Def K "fewest_broken" sFewestBroken
  allFewest : Def K "all_fewest" sAllFewest
  least : Def K "least_left_out" sLeast
  taken : Def K "_law_taken" sTaken
  pick : Def K "_law_pick" sPick
  alike : Def K "_law_alike" sAlike
  allRules : Def K "_law_all_rules" sAllRules
  lawRows : Def K "_law_rows" sLawRows
  lawKeeps : Def K "_law_keeps" sLawKeeps
  some : Def K "_law_some_rules" sSome
  drawn : Def K "_law_drawn" sDrawn
theorem ok_law {h : Heap} {f fI : Addr} {fd fdI : FuncData} (X : K.In h) (G : h.Ns mainGlobals mg) (F : Fun K "law" "law" sLaw f fd) (D : Defs K) (T : Txt K mg C) (M : Mk K C fI) (FI : Fun K "__init__" "Rules.__init__" sInit fI fdI) : FnOk P w K mg base CX0 9 f fd ["_law_script"] (spLaw K) := by
  have bI : Binds K fdI ["self", "many", "rules"] [] := FI.binds fun _ _ _ _ _ _ us hl => match us, hl with | [_, _, _], _ => rfl
  have g_isFrom : Callee P w K mg base 1 "is_from" ["value", "low", "high"] (spIsFrom K) := D.isFrom.cal X G (fun _ _ _ _ _ _ us hl => match us, hl with | [_, _, _], _ => rfl) fun f fd F => ok_isFrom F T
  have g_isWant : Callee P w K mg base 2 "is_want_of" ["many", "value"] (spIsWant K) := D.isWant.cal X G (fun _ _ _ _ _ _ us hl => match us, hl with | [_, _], _ => rfl) fun f fd F => ok_isWant F T g_isFrom
  have g_off : Callee P w K mg base 1 "off" ["want"] (spOff K) := D.off.cal X G (fun _ _ _ _ _ _ us hl => match us, hl with | [_], _ => rfl) fun f fd F => ok_off F
  have g_isRule : Callee P w K mg base 3 "is_rule_of" ["many", "value"] (spIsRule K) := D.isRule.cal X G (fun _ _ _ _ _ _ us hl => match us, hl with | [_, _], _ => rfl) fun f fd F => ok_isRule F T g_isWant g_off
  have g_needRules : Callee P w K mg base 1 "need_rules" ["rules"] (spNeedRules K C) := D.needRules.cal X G (fun _ _ _ _ _ _ us hl => match us, hl with | [_], _ => rfl) fun f fd F => ok_needRules F T
  have g_isRow : Callee P w K mg base 2 "is_row_of" ["many", "value"] (spIsRow K) := D.isRow.cal X G (fun _ _ _ _ _ _ us hl => match us, hl with | [_, _], _ => rfl) fun f fd F => ok_isRow F T g_isFrom
  have g_needRow : Callee P w K mg base 3 "need_row" ["rules", "row"] (spNeedRow K C) := D.needRow.cal X G (fun _ _ _ _ _ _ us hl => match us, hl with | [_, _], _ => rfl) fun f fd F => ok_needRow F T g_isRow
  have g_has : Callee P w K mg base 1 "has" ["row", "want"] (spHas K) := D.has.cal X G (fun _ _ _ _ _ _ us hl => match us, hl with | [_, _], _ => rfl) fun f fd F => ok_has F
  have g_isKept : Callee P w K mg base 2 "is_kept" ["rule", "row"] (spIsKept K) := D.isKept.cal X G (fun _ _ _ _ _ _ us hl => match us, hl with | [_, _], _ => rfl) fun f fd F => ok_isKept F g_has
  have g_areKept : Callee P w K mg base 3 "are_kept" ["told", "row"] (spAreKept K) := D.areKept.cal X G (fun _ _ _ _ _ _ us hl => match us, hl with | [_, _], _ => rfl) fun f fd F => ok_areKept F T g_isKept
  have g_allRows : Callee P w K mg base 1 "all_rows" ["many"] (spAllRows K) := D.allRows.cal X G (fun _ _ _ _ _ _ us hl => match us, hl with | [_], _ => rfl) fun f fd F => ok_allRows F T
  have g_keptRows : Callee P w K mg base 4 "kept_rows" ["rules"] (spKeptRows K C) := D.keptRows.cal X G (fun _ _ _ _ _ _ us hl => match us, hl with | [_], _ => rfl) fun f fd F => ok_keptRows F T g_allRows g_areKept
  have g_countRows : Callee P w K mg base 5 "count_rows" ["rules"] (spCountRows K C) := D.countRows.cal X G (fun _ _ _ _ _ _ us hl => match us, hl with | [_], _ => rfl) fun f fd F => ok_countRows F T g_needRules g_keptRows
  have g_brokenOf : Callee P w K mg base 3 "broken_of" ["rules", "row"] (spBrokenOf K C) := D.brokenOf.cal X G (fun _ _ _ _ _ _ us hl => match us, hl with | [_, _], _ => rfl) fun f fd F => ok_brokenOf F T g_isKept
  have g_brokenBy : Callee P w K mg base 4 "broken_by" ["rules", "row"] (spBrokenBy K C) := D.brokenBy.cal X G (fun _ _ _ _ _ _ us hl => match us, hl with | [_, _], _ => rfl) fun f fd F => ok_brokenBy F T g_needRules g_needRow g_brokenOf
  have g_fewestRows : Callee P w K mg base 4 "fewest_rows" ["rules"] (spFewestRows K C) := D.fewestRows.cal X G (fun _ _ _ _ _ _ us hl => match us, hl with | [_], _ => rfl) fun f fd F => ok_fewestRows F T g_allRows g_brokenOf
  have g_fewestBroken : Callee P w K mg base 5 "fewest_broken" ["rules"] (spFewestBroken K C) := D.fewestBroken.cal X G (fun _ _ _ _ _ _ us hl => match us, hl with | [_], _ => rfl) fun f fd F => ok_fewestBroken F T g_needRules g_fewestRows
  have g_allFewest : Callee P w K mg base 5 "all_fewest" ["rules"] (spAllFewest K C) := D.allFewest.cal X G (fun _ _ _ _ _ _ us hl => match us, hl with | [_], _ => rfl) fun f fd F => ok_allFewest F T g_needRules g_fewestRows
  have g_least : Callee P w K mg base 5 "least_left_out" ["rules"] (spLeast K C) := D.least.cal X G (fun _ _ _ _ _ _ us hl => match us, hl with | [_], _ => rfl) fun f fd F => ok_least F T g_needRules g_fewestRows g_brokenOf
  have g_taken : Callee P w K mg base 1 "_law_taken" ["_law_row", "_law_many"] (spTaken K) := D.taken.cal X G (fun _ _ _ _ _ _ us hl => match us, hl with | [_, _], _ => rfl) fun f fd F => ok_taken F T
  have g_pick : Callee P w K mg base 2 "_law_pick" ["_law_row", "_law_things"] (spPick K) := D.pick.cal X G (fun _ _ _ _ _ _ us hl => match us, hl with | [_, _], _ => rfl) fun f fd F => ok_pick F T g_taken
  have g_alike : Callee P w K mg base 8 "_law_alike" ["_law_found", "_law_due"] (spAlike K 8) := by
    obtain ⟨f, fd, F, a⟩ := D.alike.ex
    have hm := PySem.W.mg_of X G a
    have hb : Binds K fd ["_law_found", "_law_due"] [] := F.binds fun _ _ _ _ _ _ us hl => match us, hl with | [_, _], _ => rfl
    exact ⟨f, fd, ok_alike F T hm hb 8, hm, F.kp, hb⟩
  have g_allRules : Callee P w K mg base 1 "_law_all_rules" ["_law_many"] (spAllRules K) := D.allRules.cal X G (fun _ _ _ _ _ _ us hl => match us, hl with | [_], _ => rfl) fun f fd F => ok_allRules F T
  have g_lawRows : Callee P w K mg base 1 "_law_rows" ["_law_many"] (spLawRows K) := D.lawRows.cal X G (fun _ _ _ _ _ _ us hl => match us, hl with | [_], _ => rfl) fun f fd F => ok_lawRows F T
  have g_lawKeeps : Callee P w K mg base 1 "_law_keeps" ["_law_rules", "_law_row"] (spLawKeeps K) := D.lawKeeps.cal X G (fun _ _ _ _ _ _ us hl => match us, hl with | [_, _], _ => rfl) fun f fd F => ok_lawKeeps F
  have g_some : Callee P w K mg base 3 "_law_some_rules" ["_law_row", "_law_many"] (spSome K) := D.some.cal X G (fun _ _ _ _ _ _ us hl => match us, hl with | [_, _], _ => rfl) fun f fd F => ok_some F T g_taken g_pick g_allRules g_lawRows g_lawKeeps
  have g_drawn : Callee P w K mg base 4 "_law_drawn" ["_law_row", "_law_most"] (spDrawn K) := D.drawn.cal X G (fun _ _ _ _ _ _ us hl => match us, hl with | [_, _], _ => rfl) fun f fd F => ok_drawn F T g_taken g_some
  have okI : FnOk P w K mg base CX0 4 fI fdI ["self", "many", "rules"] (spInit K C) := ok_init FI T g_isFrom g_isRule
  refine F.ok scLaw (fun vs H Q E h => ?_) (fun cdv A outer s H vs Q E hr h => ?_)
  · obtain ⟨a, ns, rfl, _⟩ := h
    rfl
  obtain ⟨a, ns, rfl, hS, _, k⟩ := h
  exact ⟨_, walk_law (fd := fd) T M okI bI g_drawn g_lawRows g_lawKeeps g_alike g_fewestBroken g_allFewest g_pick g_brokenBy g_least g_countRows hr, read_law T hS k⟩
end
end K76
set_option Elab.async false
set_option linter.all false
set_option maxRecDepth 100000
/-! K76, part 7: the end -/
namespace K76
open PySem PySem.Spec PyProof.Rows L2
open PySem.W (Tup Datum DatumOrd)
theorem all_mk {l : PySem.W.OpenLaw} {w : World} {K : PySem.W.Frag} {h : Heap} {mg : Str → Option Value} {fa C fI fL : Addr} {tm : Tok} (X : K.In h) (G : h.Ns mainGlobals mg) (hfa : mg "law" = some (.ref fa))
    {odI anI odL anL : Option Addr} {slI slL : Array (Option Value)} {ocI kVI dcI pmI cdI ctI ocL kVL dcL pmL cdL ctL : Value}
    (d_isFrom : Def K "is_from" sIsFrom)
    (d_isWant : Def K "is_want_of" sIsWant)
    (d_off : Def K "off" sOff)
    (d_isRule : Def K "is_rule_of" sIsRule)
    (d_needRules : Def K "need_rules" sNeedRules)
    (d_isRow : Def K "is_row_of" sIsRow)
    (d_needRow : Def K "need_row" sNeedRow)
    (d_has : Def K "has" sHas)
    (d_isKept : Def K "is_kept" sIsKept)
    (d_areKept : Def K "are_kept" sAreKept)
    (d_allRows : Def K "all_rows" sAllRows)
    (d_keptRows : Def K "kept_rows" sKeptRows)
    (d_countRows : Def K "count_rows" sCountRows)
    (d_brokenOf : Def K "broken_of" sBrokenOf)
    (d_brokenBy : Def K "broken_by" sBrokenBy)
    (d_fewestRows : Def K "fewest_rows" sFewestRows)
    (d_fewestBroken : Def K "fewest_broken" sFewestBroken)
    (d_allFewest : Def K "all_fewest" sAllFewest)
    (d_least : Def K "least_left_out" sLeast)
    (d_taken : Def K "_law_taken" sTaken)
    (d_pick : Def K "_law_pick" sPick)
    (d_alike : Def K "_law_alike" sAlike)
    (d_allRules : Def K "_law_all_rules" sAllRules)
    (d_lawRows : Def K "_law_rows" sLawRows)
    (d_lawKeeps : Def K "_law_keeps" sLawKeeps)
    (d_some : Def K "_law_some_rules" sSome)
    (d_drawn : Def K "_law_drawn" sDrawn)
    (aC : PySem.W.nsIn K mainGlobals "Rules" = some (some (.ref C)))
    (aI : PySem.W.findIn K (.ref C) "__init__" = some (some (.ref fI))) (iI : PySem.W.isFn K (.ref fI) = true) (lI : K.lookup fI = some ⟨ocI, odI, .func (PySem.W.fnOf "__init__" "Rules.__init__" (defArgs sInit) (defBody sInit) (defScope sInit) .none kVI dcI pmI anI cdI ctI), slI⟩) (cI : PySem.W.codeIn K cdI "Rules.__init__" = true) (kI : PySem.W.keepIn K (.ref fI) = true)
    (aL : PySem.W.nsIn K mainGlobals "law" = some (some (.ref fL))) (lL : K.lookup fL = some ⟨ocL, odL, .func (PySem.W.fnOf "law" "law" (defArgs sLaw) (defBody sLaw) (defScope sLaw) .none kVL dcL pmL anL cdL ctL), slL⟩) (cL : PySem.W.codeIn K cdL "law" = true) (kL : PySem.W.keepIn K (.ref fL) = true)
    (pg : PySem.W.plainGet K C Str.empty = true) (hd : PySem.W.hasDictIn K C = true) (po : PySem.W.plainOver K C = true) (sa : PySem.W.findIn K (.ref C) "__setattr__" = some (some (.builtin "object.__setattr__"))) (mk : PySem.W.makesIn K C = true) (kc : PySem.W.keepIn K (.ref C) = true)
    (nW : PySem.W.findIn K (.ref C) "wide" = some none) (nT : PySem.W.findIn K (.ref C) "told" = some none)
    (ca : PySem.W.findIn K (.ref C) "__class__" = some (some (.builtin "object.__class__")))
    (cn : PySem.W.specialIn K (.builtin "object.__class__") "__get__" = some (some (.builtin "getset_descriptor.__get__")))
    (ct : PySem.W.takesIn K (.builtin "object.__class__") = some true)
    (cm : PySem.W.mroIn K C (.type "object") = some true)
    (aM : PySem.W.nsIn K mainGlobals "MOST_PLACES" = some (some (.int 8 tm)))
    (z_isinstance : PySem.W.nsIn K mainGlobals "isinstance" = some none)
    (z_int : PySem.W.nsIn K mainGlobals "int" = some none)
    (z_bool : PySem.W.nsIn K mainGlobals "bool" = some none)
    (z_tuple : PySem.W.nsIn K mainGlobals "tuple" = some none)
    (z_list : PySem.W.nsIn K mainGlobals "list" = some none)
    (z_str : PySem.W.nsIn K mainGlobals "str" = some none)
    (z_len : PySem.W.nsIn K mainGlobals "len" = some none)
    (z_all : PySem.W.nsIn K mainGlobals "all" = some none)
    (z_range : PySem.W.nsIn K mainGlobals "range" = some none)
    (z_enumerate : PySem.W.nsIn K mainGlobals "enumerate" = some none)
    (z_min : PySem.W.nsIn K mainGlobals "min" = some none)
    (z_sorted : PySem.W.nsIn K mainGlobals "sorted" = some none)
    (z_set : PySem.W.nsIn K mainGlobals "set" = some none)
    (z_dict : PySem.W.nsIn K mainGlobals "dict" = some none)
    : ∃ fd : FuncData, (∀ (s : Shared) (v : Value), BindsTo s fd ⟨[v], []⟩ [("_law_script", v)]) ∧ ∀ base : Heap, K.In base → base.Ns mainGlobals mg → FnOk l.prog w K mg base CX0 9 fa fd ["_law_script"] (spLaw K) := by
  have e := hfa.symm.trans (PySem.W.mg_of X G aL)
  cases e
  have T : Txt K mg C := ⟨⟨pg, hd, po, sa⟩, nW, nT, PySem.W.mg_of X G aC, kc, ca, cn, ct, cm, if_pos (beq_self_eq_true _), ⟨tm, PySem.W.mg_of X G aM⟩, PySem.W.mg_none_of X G z_isinstance, PySem.W.mg_none_of X G z_int, PySem.W.mg_none_of X G z_bool, PySem.W.mg_none_of X G z_tuple, PySem.W.mg_none_of X G z_list, PySem.W.mg_none_of X G z_str, PySem.W.mg_none_of X G z_len, PySem.W.mg_none_of X G z_all, PySem.W.mg_none_of X G z_range, PySem.W.mg_none_of X G z_enumerate, PySem.W.mg_none_of X G z_min, PySem.W.mg_none_of X G z_sorted, PySem.W.mg_none_of X G z_set, PySem.W.mg_none_of X G z_dict⟩
  have D : Defs K := ⟨d_isFrom, d_isWant, d_off, d_isRule, d_needRules, d_isRow, d_needRow, d_has, d_isKept, d_areKept, d_allRows, d_keptRows, d_countRows, d_brokenOf, d_brokenBy, d_fewestRows, d_fewestBroken, d_allFewest, d_least, d_taken, d_pick, d_alike, d_allRules, d_lawRows, d_lawKeeps, d_some, d_drawn⟩
  exact ⟨_, fun s v => .of_eq rfl, fun base _ _ => ok_law X G (fun_mk (st := sLaw) lL cL kL) D T ⟨mk, aI, iI, kc⟩ (fun_mk (st := sInit) lI cI kI)⟩
theorem walk {l : PySem.W.OpenLaw} {q : Program} {loose : List Str} {XP : (Str → Option Value) → Heap → Prop} {YP : World → Heap → Prop} {d : DefRec} {K : Params → PySem.W.Frag} (hn : l.most = some 63) (hdf : d.params.defaults = [])
    (hY : ∀ (w : World) (h : Heap), YP w h → (K w.params).In h)
    (F : ∀ (w : World) (mg : Str → Option Value) (fa : Addr) (h : Heap), (K w.params).In h → h.Ns mainGlobals mg → mg d.name = some (.ref fa) →
      ∃ fd : FuncData, (∀ (s : Shared) (u : Value), BindsTo s fd ⟨[u], []⟩ [("_law_script", u)]) ∧ ∀ base : Heap, (K w.params).In base → base.Ns mainGlobals mg → FnOk l.prog w (K w.params) mg base CX0 9 fa fd ["_law_script"] (spLaw (K w.params))) :
    PySem.W.WalkO q loose XP YP l.row.toRowW d [] (fun f vs => PySem.call f vs) :=
  L2.walk_of (n := 63) (k := 9) (x := "_law_script") (CX := fun _ => CX0) (sp := fun w => spLaw (K w.params)) hn (by decide) hdf ⟨rfl, by decide, by decide⟩ hY F (fun _ _ a ns hl _ hS => ⟨a, ns, rfl, hS, hl, fun _ => rfl⟩) fun _ _ _ _ _ z => z
end K76

open PySem PySem.W PyProof.Rows in
set_option maxRecDepth 100000 in
set_option maxHeartbeats 0 in
theorem PySem.Challenge.cw_middlerows_k76_whole_fewest_broken_holds : PySem.Challenge.rw_middlerows_k76_whole_fewest_broken.Holds := by
  w_on; o_law; k_head; (case hw => w_witness2)
  k_fill
  refine K76.walk (l := PySem.Challenge.rw_middlerows_k76_whole_fewest_broken) rfl rfl (fun w h Y => PySem.W.kIn_of Y) ?F
  case F =>
    intro w mg fa h KX G hmg
    refine' K76.all_mk KX G hmg ?d_isFrom ?d_isWant ?d_off ?d_isRule ?d_needRules ?d_isRow ?d_needRow ?d_has ?d_isKept ?d_areKept ?d_allRows ?d_keptRows ?d_countRows ?d_brokenOf ?d_brokenBy ?d_fewestRows ?d_fewestBroken ?d_allFewest ?d_least ?d_taken ?d_pick ?d_alike ?d_allRules ?d_lawRows ?d_lawKeeps ?d_some ?d_drawn ?aC ?aI ?iI ?lI ?cI ?kI ?aL ?lL ?cL ?kL ?pg ?hd ?po ?sa ?mk ?kc ?nW ?nT ?ca ?cn ?ct ?cm ?aM ?z_isinstance ?z_int ?z_bool ?z_tuple ?z_list ?z_str ?z_len ?z_all ?z_range ?z_enumerate ?z_min ?z_sorted ?z_set ?z_dict
    (case d_isFrom => (refine' K76.def_mk ?a ?l ?c ?k; (case a => k_is); (case l => k_is); (case c => k_is); (case k => k_is)))
    (case d_isWant => (refine' K76.def_mk ?a ?l ?c ?k; (case a => k_is); (case l => k_is); (case c => k_is); (case k => k_is)))
    (case d_off => (refine' K76.def_mk ?a ?l ?c ?k; (case a => k_is); (case l => k_is); (case c => k_is); (case k => k_is)))
    (case d_isRule => (refine' K76.def_mk ?a ?l ?c ?k; (case a => k_is); (case l => k_is); (case c => k_is); (case k => k_is)))
    (case d_needRules => (refine' K76.def_mk ?a ?l ?c ?k; (case a => k_is); (case l => k_is); (case c => k_is); (case k => k_is)))
    (case d_isRow => (refine' K76.def_mk ?a ?l ?c ?k; (case a => k_is); (case l => k_is); (case c => k_is); (case k => k_is)))
    (case d_needRow => (refine' K76.def_mk ?a ?l ?c ?k; (case a => k_is); (case l => k_is); (case c => k_is); (case k => k_is)))
    (case d_has => (refine' K76.def_mk ?a ?l ?c ?k; (case a => k_is); (case l => k_is); (case c => k_is); (case k => k_is)))
    (case d_isKept => (refine' K76.def_mk ?a ?l ?c ?k; (case a => k_is); (case l => k_is); (case c => k_is); (case k => k_is)))
    (case d_areKept => (refine' K76.def_mk ?a ?l ?c ?k; (case a => k_is); (case l => k_is); (case c => k_is); (case k => k_is)))
    (case d_allRows => (refine' K76.def_mk ?a ?l ?c ?k; (case a => k_is); (case l => k_is); (case c => k_is); (case k => k_is)))
    (case d_keptRows => (refine' K76.def_mk ?a ?l ?c ?k; (case a => k_is); (case l => k_is); (case c => k_is); (case k => k_is)))
    (case d_countRows => (refine' K76.def_mk ?a ?l ?c ?k; (case a => k_is); (case l => k_is); (case c => k_is); (case k => k_is)))
    (case d_brokenOf => (refine' K76.def_mk ?a ?l ?c ?k; (case a => k_is); (case l => k_is); (case c => k_is); (case k => k_is)))
    (case d_brokenBy => (refine' K76.def_mk ?a ?l ?c ?k; (case a => k_is); (case l => k_is); (case c => k_is); (case k => k_is)))
    (case d_fewestRows => (refine' K76.def_mk ?a ?l ?c ?k; (case a => k_is); (case l => k_is); (case c => k_is); (case k => k_is)))
    (case d_fewestBroken => (refine' K76.def_mk ?a ?l ?c ?k; (case a => k_is); (case l => k_is); (case c => k_is); (case k => k_is)))
    (case d_allFewest => (refine' K76.def_mk ?a ?l ?c ?k; (case a => k_is); (case l => k_is); (case c => k_is); (case k => k_is)))
    (case d_least => (refine' K76.def_mk ?a ?l ?c ?k; (case a => k_is); (case l => k_is); (case c => k_is); (case k => k_is)))
    (case d_taken => (refine' K76.def_mk ?a ?l ?c ?k; (case a => k_is); (case l => k_is); (case c => k_is); (case k => k_is)))
    (case d_pick => (refine' K76.def_mk ?a ?l ?c ?k; (case a => k_is); (case l => k_is); (case c => k_is); (case k => k_is)))
    (case d_alike => (refine' K76.def_mk ?a ?l ?c ?k; (case a => k_is); (case l => k_is); (case c => k_is); (case k => k_is)))
    (case d_allRules => (refine' K76.def_mk ?a ?l ?c ?k; (case a => k_is); (case l => k_is); (case c => k_is); (case k => k_is)))
    (case d_lawRows => (refine' K76.def_mk ?a ?l ?c ?k; (case a => k_is); (case l => k_is); (case c => k_is); (case k => k_is)))
    (case d_lawKeeps => (refine' K76.def_mk ?a ?l ?c ?k; (case a => k_is); (case l => k_is); (case c => k_is); (case k => k_is)))
    (case d_some => (refine' K76.def_mk ?a ?l ?c ?k; (case a => k_is); (case l => k_is); (case c => k_is); (case k => k_is)))
    (case d_drawn => (refine' K76.def_mk ?a ?l ?c ?k; (case a => k_is); (case l => k_is); (case c => k_is); (case k => k_is)))
    (case aC => k_is)
    (case aI => k_is)
    (case iI => k_is)
    (case lI => k_is)
    (case cI => k_is)
    (case kI => k_is)
    (case aL => k_is)
    (case lL => k_is)
    (case cL => k_is)
    (case kL => k_is)
    (case pg => k_is)
    (case hd => k_is)
    (case po => k_is)
    (case sa => k_is)
    (case mk => k_is)
    (case kc => k_is)
    (case nW => k_is)
    (case nT => k_is)
    (case ca => k_is)
    (case cn => k_is)
    (case ct => k_is)
    (case cm => k_is)
    (case aM => k_is)
    (case z_isinstance => k_is)
    (case z_int => k_is)
    (case z_bool => k_is)
    (case z_tuple => k_is)
    (case z_list => k_is)
    (case z_str => k_is)
    (case z_len => k_is)
    (case z_all => k_is)
    (case z_range => k_is)
    (case z_enumerate => k_is)
    (case z_min => k_is)
    (case z_sorted => k_is)
    (case z_set => k_is)
    (case z_dict => k_is)
#print axioms PySem.Challenge.cw_middlerows_k76_whole_fewest_broken_holds
