import PyProof.Rows.All
import Wide.All
import OpenK.AllK
import Wide.FinOn
import HandS.ForMost
import HandS.Small
import HandS.Style
import HandS.Flow
import HandS.Deep
import HandS.IsInst
import HandS.More
import HandS.Star
import HandS.Ends
import PySem.Challenge.RW_partclones_k01_edits_lead_over
set_option Elab.async false
set_option linter.all false
set_option maxRecDepth 100000
namespace Qk
open PySem PySem.Spec PyProof.Rows L2

/-! ### heaps -/
abbrev Own := List (Addr × HO)
structure Has (F : Hp) (O : Own) (H : Hp) : Prop where
  same : Same F H
  own : ∀ p ∈ O, F p.1 = none ∧ H p.1 = some p.2
  nd : (O.map (·.1)).Nodup

/-- O with the object at a changed from o to o' -/
inductive Chg : Own → Addr → HO → HO → Own → Prop
  | hd {a : Addr} {o o' : HO} {O : Own} : Chg ((a, o) :: O) a o o' ((a, o') :: O)
  | tl {a : Addr} {o o' : HO} {O O' : Own} {x : Addr × HO} : Chg O a o o' O' → Chg (x :: O) a o o' (x :: O')
theorem Chg.mem {O O' : Own} {a : Addr} {o o' : HO} (c : Chg O a o o' O') : (a, o) ∈ O := by
  induction c with
  | hd => exact List.Mem.head _
  | tl _ ih => exact List.Mem.tail _ ih
theorem Chg.fst {O O' : Own} {a : Addr} {o o' : HO} (c : Chg O a o o' O') : O'.map (·.1) = O.map (·.1) := by
  induction c with
  | hd => rfl
  | tl _ ih => rw [List.map_cons, List.map_cons, ih]
theorem Chg.own {O O' : Own} {a : Addr} {o o' : HO} (c : Chg O a o o' O') (nd : (O.map (·.1)).Nodup) : ∀ p ∈ O', p = (a, o') ∨ (p ∈ O ∧ p.1 ≠ a) := by
  induction c with
  | @hd a o o' O =>
    intro p hp
    rw [List.map_cons] at nd
    have nm := (List.nodup_cons.mp nd).1
    rcases List.mem_cons.mp hp with e | hp
    · exact .inl e
    · refine .inr ⟨List.mem_cons_of_mem _ hp, fun e => nm ?_⟩
      exact List.mem_map.mpr ⟨p, hp, e⟩
  | @tl a o o' O O' x c ih =>
    intro p hp
    rw [List.map_cons] at nd
    have nm := List.nodup_cons.mp nd
    rcases List.mem_cons.mp hp with e | hp
    · subst e
      refine .inr ⟨List.mem_cons_self, fun e => nm.1 ?_⟩
      rw [e]
      exact List.mem_map.mpr ⟨_, c.mem, rfl⟩
    · rcases ih nm.2 p hp with e | ⟨e, ne⟩
      · exact .inl e
      · exact .inr ⟨List.mem_cons_of_mem _ e, ne⟩

section
variable {F F' : Hp} {O O' : Own} {H H' : Hp} {a p : Addr} {o o' : HO} {K : PySem.W.Frag} {xs : List V}
theorem Has.start (H : Hp) : Has H [] H := ⟨Same.refl H, fun _ h => (List.not_mem_nil h).elim, List.nodup_nil⟩
theorem Has.get (h : Has F O H) (m : (a, o) ∈ O) : H a = some o := (h.own _ m).2
theorem Has.but (h : Has F O H) (c : Chg O a o o' O') (s : ∀ b u, b ≠ a → H b = some u → H' b = some u) (e : H' a = some o') : Has F O' H' := by
  have fa : F a = none := (h.own _ c.mem).1
  refine ⟨fun b u q => s b u (fun z => by rw [z, fa] at q; cases q) (h.same b u q), fun q hq => ?_, by rw [c.fst]; exact h.nd⟩
  rcases c.own h.nd q hq with rfl | ⟨m, ne⟩
  · exact ⟨fa, e⟩
  · exact ⟨(h.own _ m).1, s _ _ ne (h.own _ m).2⟩
theorem Has.put (h : Has F O H) (c : Chg O a o o' O') : Has F O' (upd H a o') := h.but c (fun b u ne q => by rw [upd_ne ne]; exact q) upd_same
theorem Has.on (h : Has F O H) (s : Same H H') : Has F O H' := ⟨h.same.trans s, fun q hq => ⟨(h.own q hq).1, s _ _ (h.own q hq).2⟩, h.nd⟩
theorem Has.made (h : Has F O H) (n : H p = none) (s : Same H H') (e : H' p = some o) : Has F ((p, o) :: O) H' := by
  refine ⟨h.same.trans s, fun q hq => ?_, ?_⟩
  · rcases List.mem_cons.mp hq with rfl | hq
    · exact ⟨h.same.free n, e⟩
    · exact ⟨(h.own q hq).1, s _ _ (h.own q hq).2⟩
  · rw [List.map_cons]
    refine List.nodup_cons.mpr ⟨fun m => ?_, h.nd⟩
    obtain ⟨q, hq, e'⟩ := List.mem_map.mp m
    have z := (h.own q hq).2
    rw [e', n] at z
    cases z
theorem same_upd (n : H p = none) : Same H (upd H p o) := fun b u q => by
  rw [upd_ne (ne_of_none q n)]
  exact q
theorem Has.new (h : Has F O H) (n : H p = none) : Has F ((p, o) :: O) (upd H p o) := h.made n (same_upd n) upd_same
theorem Has.drop {x : Addr × HO} (h : Has F (x :: O) H) : Has F O H := ⟨h.same, fun q hq => h.own q (List.mem_cons_of_mem _ hq), (List.nodup_cons.mp (by have := h.nd; rw [List.map_cons] at this; exact this)).2⟩
theorem Has.sub (h : Has F O H) (s : O'.Sublist O) : Has F O' H := ⟨h.same, fun q hq => h.own q (s.subset hq), (s.map _).nodup h.nd⟩
theorem Has.perm (h : Has F O H) (s : O'.Perm O) : Has F O' H := ⟨h.same, fun q hq => h.own q (s.subset hq), (s.map _).nodup_iff.mpr h.nd⟩
/-- the first owned object stands still from now on -/
theorem Has.frz (h : Has F ((p, o) :: O) H) : Has (upd F p o) O H := by
  have hp := h.own (p, o) List.mem_cons_self
  have nd : p ∉ O.map (·.1) ∧ (O.map (·.1)).Nodup := List.nodup_cons.mp (by have := h.nd; rw [List.map_cons] at this; exact this)
  refine ⟨fun b u q => ?_, fun q hq => ⟨?_, (h.own q (List.mem_cons_of_mem _ hq)).2⟩, nd.2⟩
  · by_cases e : b = p
    · subst e
      rw [upd_same] at q
      cases q
      exact hp.2
    · rw [upd_ne e] at q
      exact h.same b u q
  · rw [upd_ne (fun z => nd.1 (List.mem_map.mpr ⟨q, hq, z⟩))]
    exact (h.own q (List.mem_cons_of_mem _ hq)).1
theorem Has.free (h : Has F ((p, o) :: O) H) : F p = none := (h.own _ List.mem_cons_self).1
theorem Has.grow (h : Has F ((p, o) :: O) H) : Same F (upd F p o) := same_upd h.free
/-- all stands still from now on -/
theorem Has.all (h : Has F O H) : Has H [] H := Has.start H
/-- F grown by what O knows nothing of -/
theorem Has.up (h : Has F O H) (s2 : Same F' H') (s : Same H H') (d : ∀ p ∈ O, F' p.1 = none) : Has F' O H' :=
  ⟨s2, fun q hq => ⟨d q hq, s _ _ (h.own q hq).2⟩, h.nd⟩
theorem Has.sqO (h : Has F O H) (m : (a, .lst xs) ∈ O) : SqL K H a xs := SqL.of (h.get m)
theorem Has.sqF (h : Has F O H) (m : SqL K F a xs) : SqL K H a xs := h.same.seq m
theorem Same.tup {K : PySem.W.Frag} (e : Same H H') (h : SqT K H a xs) : SqT K H' a xs := by
  rcases h with (h | ⟨o, h⟩) | h
  · exact .inl (.inl (e _ _ h))
  · exact .inl (.inr ⟨o, e _ _ h⟩)
  · exact .inr h
theorem Has.stF (h : Has F O H) (m : SqT K F a xs) : SqT K H a xs := Same.tup h.same m
theorem Has.stO (h : Has F O H) (m : (a, .tup xs) ∈ O) : SqT K H a xs := SqT.of (h.get m)
end

/-! ### data -/
mutual
inductive Dq (H : Hp) : V → PyData → Prop
  | non : Dq H .non .none
  | bl (b : Bool) : Dq H (.bl b) (.bool b)
  | int (i : Int) : Dq H (.int i) (.int i)
  | str (x : Str) : Dq H (.str x) (.str x)
  | lst {a : Addr} {xs : List V} {ds : List PyData} : H a = some (.lst xs) → DqAll H xs ds → Dq H (.ref a) (.list ds)
  | tup {a : Addr} {xs : List V} {ds : List PyData} : H a = some (.tup xs) → DqAll H xs ds → Dq H (.ref a) (.tuple ds)
inductive DqAll (H : Hp) : List V → List PyData → Prop
  | nil : DqAll H [] []
  | cons {v : V} {vs : List V} {d : PyData} {ds : List PyData} : Dq H v d → DqAll H vs ds → DqAll H (v :: vs) (d :: ds)
end
mutual
theorem Dq.up {H H' : Hp} (e : Same H H') : ∀ (d : PyData) (v : V), Dq H v d → Dq H' v d
  | _, _, .non => .non
  | _, _, .bl b => .bl b
  | _, _, .int i => .int i
  | _, _, .str x => .str x
  | .list ds, _, .lst s a => .lst (e _ _ s) (DqAll.up e ds _ a)
  | .tuple ds, _, .tup s a => .tup (e _ _ s) (DqAll.up e ds _ a)
theorem DqAll.up {H H' : Hp} (e : Same H H') : ∀ (ds : List PyData) (vs : List V), DqAll H vs ds → DqAll H' vs ds
  | _, _, .nil => .nil
  | d :: ds, _, .cons h t => .cons (Dq.up e d _ h) (DqAll.up e ds _ t)
end
mutual
theorem Dq.dp (K : PySem.W.Frag) {H : Hp} : ∀ (d : PyData) (v : V), Dq H v d → Dp K H v d
  | _, _, .non => .non
  | _, _, .bl b => .bl b
  | _, _, .int i => .int i
  | _, _, .str x => .str x
  | .list ds, _, .lst s a => .lst (SqL.of s) (DqAll.dp K ds _ a)
  | .tuple ds, _, .tup s a => .tup (SqT.of s) (DqAll.dp K ds _ a)
theorem DqAll.dp (K : PySem.W.Frag) {H : Hp} : ∀ (ds : List PyData) (vs : List V), DqAll H vs ds → DpAll K H vs ds
  | _, _, .nil => .nil
  | d :: ds, _, .cons h t => .cons (Dq.dp K d _ h) (DqAll.dp K ds _ t)
end
theorem DqAll.len {H : Hp} : ∀ {vs : List V} {ds : List PyData}, DqAll H vs ds → vs.length = ds.length
  | _, _, .nil => rfl
  | _, _, .cons _ t => by rw [List.length_cons, List.length_cons, t.len]
theorem DqAll.get {H : Hp} : ∀ {vs : List V} {ds : List PyData} {i : Nat} {v : V}, DqAll H vs ds → vs[i]? = some v → ∃ d, ds[i]? = some d ∧ Dq H v d
  | _, _, _, _, .nil, e => by simp at e
  | _, _, 0, _, .cons h _, e => ⟨_, rfl, by have e' := Option.some.inj e; rw [← e']; exact h⟩
  | _, _, i + 1, _, .cons _ t, e => t.get (i := i) e
theorem DqAll.snoc {H : Hp} : ∀ {vs : List V} {ds : List PyData} {v : V} {d : PyData}, DqAll H vs ds → Dq H v d → DqAll H (vs ++ [v]) (ds ++ [d])
  | _, _, _, _, .nil, h => .cons h .nil
  | _, _, _, _, .cons h t, h' => .cons h (t.snoc h')
theorem DqAll.app {H : Hp} : ∀ {vs ws : List V} {ds es : List PyData}, DqAll H vs ds → DqAll H ws es → DqAll H (vs ++ ws) (ds ++ es)
  | _, _, _, _, .nil, h => h
  | _, _, _, _, .cons h t, h' => .cons h (t.app h')
theorem DqAll.rev {H : Hp} : ∀ {vs : List V} {ds : List PyData}, DqAll H vs ds → DqAll H vs.reverse ds.reverse
  | _, _, .nil => .nil
  | _, _, .cons h t => by
    rw [List.reverse_cons, List.reverse_cons]
    exact t.rev.snoc h
theorem DqAll.strs {H : Hp} : ∀ (xs : List Str), DqAll H (xs.map V.str) (xs.map PyData.str)
  | [] => .nil
  | x :: xs => .cons (.str x) (DqAll.strs xs)
theorem DqAll.ints {H : Hp} : ∀ (xs : List Int), DqAll H (xs.map V.int) (xs.map PyData.int)
  | [] => .nil
  | x :: xs => .cons (.int x) (DqAll.ints xs)
theorem DqAll.of_strs {H : Hp} : ∀ {vs : List V} {xs : List Str}, DqAll H vs (xs.map PyData.str) → vs = xs.map V.str
  | _, [], .nil => rfl
  | _, x :: xs, .cons h t => by
    cases h
    rw [List.map_cons, t.of_strs]
theorem Dq.of_strs {H : Hp} {v : V} {xs : List Str} (h : Dq H v (.list (xs.map PyData.str))) : ∃ a, v = .ref a ∧ H a = some (.lst (xs.map V.str)) := by
  cases h with
  | lst s a =>
    rw [a.of_strs] at s
    exact ⟨_, rfl, s⟩
theorem Dq.strs {H : Hp} {a : Addr} {xs : List Str} (h : H a = some (.lst (xs.map V.str))) : Dq H (.ref a) (.list (xs.map PyData.str)) := .lst h (DqAll.strs xs)
theorem Dq.ints {H : Hp} {a : Addr} {xs : List Int} (h : H a = some (.lst (xs.map V.int))) : Dq H (.ref a) (.list (xs.map PyData.int)) := .lst h (DqAll.ints xs)
theorem Has.gF {F : Hp} {O : Own} {H : Hp} {a : Addr} {o : HO} (h : Has F O H) (e : F a = some o) : H a = some o := h.same _ _ e
theorem Has.dq {F : Hp} {O : Own} {H : Hp} (h : Has F O H) {v : V} {d : PyData} (p : Dq F v d) : Dq H v d := p.up h.same d v

/-! ### == of data -/
theorem eqvAll_strs : ∀ xs ys : List Str, PyData.eqvAll (xs.map PyData.str) (ys.map PyData.str) = decide (xs = ys)
  | [], [] => by simp [PyData.eqvAll]
  | [], y :: ys => by simp [PyData.eqvAll]
  | x :: xs, [] => by simp [PyData.eqvAll]
  | x :: xs, y :: ys => by
    rw [List.map_cons, List.map_cons, PyData.eqvAll, eqvAll_strs xs ys, PyData.eqv]
    by_cases h : x = y
    · subst h; simp
    · simp [h]
theorem eqv_strs (xs ys : List Str) : PyData.eqv (.list (xs.map PyData.str)) (.list (ys.map PyData.str)) = decide (xs = ys) := by
  rw [PyData.eqv, eqvAll_strs]
theorem eqvAll_ints : ∀ xs ys : List Int, PyData.eqvAll (xs.map PyData.int) (ys.map PyData.int) = decide (xs = ys)
  | [], [] => by simp [PyData.eqvAll]
  | [], y :: ys => by simp [PyData.eqvAll]
  | x :: xs, [] => by simp [PyData.eqvAll]
  | x :: xs, y :: ys => by
    rw [List.map_cons, List.map_cons, PyData.eqvAll, eqvAll_ints xs ys, PyData.eqv]
    by_cases h : x = y
    · subst h; simp
    · simp [h]
theorem eqv_ints (xs ys : List Int) : PyData.eqv (.list (xs.map PyData.int)) (.list (ys.map PyData.int)) = decide (xs = ys) := by
  rw [PyData.eqv, eqvAll_ints]
theorem canLayAll_mem : ∀ {ds : List PyData}, (∀ d ∈ ds, d.canLay0 = true) → PyData.canLayAll0 ds = true
  | [], _ => rfl
  | d :: ds, h => by
    rw [PyData.canLayAll0, h d List.mem_cons_self, canLayAll_mem fun x hx => h x (List.mem_cons_of_mem _ hx)]
    rfl
theorem depthAll_le {n : Nat} : ∀ {ds : List PyData}, (∀ d ∈ ds, d.depth ≤ n) → PyData.depthAll ds ≤ n
  | [], _ => Nat.zero_le _
  | d :: ds, h => by
    rw [PyData.depthAll]
    exact Nat.max_le.mpr ⟨h d List.mem_cons_self, depthAll_le fun x hx => h x (List.mem_cons_of_mem _ hx)⟩
/-- data of depth n that can be compared -/
def Sh (n : Nat) (d : PyData) : Prop := d.canLay0 = true ∧ d.depth ≤ n
theorem Sh.list {n : Nat} {ds : List PyData} (h : ∀ d ∈ ds, Sh n d) : Sh (n + 1) (.list ds) := by
  refine ⟨?_, ?_⟩
  · rw [PyData.canLay0]
    exact canLayAll_mem fun d hd => (h d hd).1
  · rw [PyData.depth]
    have := depthAll_le (n := n) fun d hd => (h d hd).2
    omega
theorem Sh.tuple {n : Nat} {ds : List PyData} (h : ∀ d ∈ ds, Sh n d) : Sh (n + 1) (.tuple ds) := by
  refine ⟨?_, ?_⟩
  · rw [PyData.canLay0]
    exact canLayAll_mem fun d hd => (h d hd).1
  · rw [PyData.depth]
    have := depthAll_le (n := n) fun d hd => (h d hd).2
    omega
theorem Sh.ok {n : Nat} {d : PyData} (h : Sh n d) (hn : n ≤ 64) : SeqAt.shaped d = true := by
  unfold SeqAt.shaped
  rw [h.1, Bool.true_and]
  exact decide_eq_true (Nat.le_trans h.2 hn)
theorem Sh.int {n : Nat} (i : Int) : Sh n (.int i) := ⟨rfl, Nat.zero_le _⟩
theorem Sh.non {n : Nat} : Sh n .none := ⟨rfl, Nat.zero_le _⟩
theorem Sh.bl {n : Nat} (b : Bool) : Sh n (.bool b) := ⟨rfl, Nat.zero_le _⟩
theorem Sh.str {n : Nat} {x : Str} (h : PyData.strOk x = true) : Sh n (.str x) := ⟨h, Nat.zero_le _⟩
theorem Sh.strs {n : Nat} {xs : List Str} (h : ∀ x ∈ xs, PyData.strOk x = true) : Sh (n + 1) (.list (xs.map PyData.str)) := Sh.list fun d hd => by
  obtain ⟨x, hx, rfl⟩ := List.mem_map.mp hd
  exact Sh.str (h x hx)
theorem Sh.ints {n : Nat} {xs : List Int} : Sh (n + 1) (.list (xs.map PyData.int)) := Sh.list fun d hd => by
  obtain ⟨x, hx, rfl⟩ := List.mem_map.mp hd
  exact Sh.int x

/-! ### readings, in order -/
def kB (x : V) (H : Hp) (R : Bool → Hp → Prop) : Prop := ∃ k, x = .bl k ∧ R k H
def kTup (xs : List V) (H : Hp) (Q : VK) : Prop := xs.length ≤ sizeLine ∧ ∀ p, H p = none → Q (.ref p) (upd H p (.tup xs))
def kLst (xs : List V) (H : Hp) (Q : VK) : Prop := xs.length ≤ sizeLine ∧ ∀ p, H p = none → Q (.ref p) (upd H p (.lst xs))
def kBM (K : PySem.W.Frag) (T : String) (r : V → List V → Hp → VK → Prop) (t : TA) (σ : L2.St) (x : V) (H : Hp) (Q : VK) : Prop := tyV K T x H ∧ t σ H fun xs H2 => r x xs H2 Q
section
variable {K : PySem.W.Frag} {σ : L2.St} {F : Hp} {O O' : Own} {H : Hp} {Q : VK} {ta tb tc te : TE} {x y v : V} {D : Ends} {t1 t2 : TS}
theorem g_var {i : Nat} (h : σ[i]? = some (some v)) (q : Q v H) : tVar i σ H Q := ⟨v, h, q⟩
theorem g_c (q : Q v H) : tC v σ H Q := q
theorem g_op {r : R2} (q : ta σ H fun x H1 => tb σ H1 fun y H2 => r x y H2 Q) : tOp r ta tb σ H Q := q
theorem g_un {r : V → Hp → VK → Prop} (q : ta σ H fun x H1 => r x H1 Q) : tUn r ta σ H Q := q
theorem g_cons {tr : TA} {QA : List V → Hp → Prop} (q : ta σ H fun x H1 => tr σ H1 fun xs H2 => QA (x :: xs) H2) : tCons ta tr σ H QA := q
theorem g_nil {QA : List V → Hp → Prop} (q : QA [] H) : tNil σ H QA := q
theorem g_cb {r : List V → Hp → VK → Prop} {t : TA} (q : t σ H fun vs H1 => r vs H1 Q) : tCB r t σ H Q := q
theorem g_call {sp : Sp} {E : XK} {t : TA} (q : t σ H fun vs H1 => sp vs H1 Q E) : tCall sp [] E t σ H Q := by
  unfold tCall
  simp only [List.append_nil]
  exact q
theorem g_tup {t : TA} (q : t σ H fun xs H1 => kTup xs H1 Q) : tTup t σ H Q := q
theorem g_lst {t : TA} (q : t σ H fun xs H1 => kLst xs H1 Q) : tLst t σ H Q := q
theorem g_bm {T : String} {r : V → List V → Hp → VK → Prop} {t : TA} (q : ta σ H fun x H1 => kBM K T r t σ x H1 Q) : tBM K T r ta t σ H Q := q
theorem g_bm0 {T : String} {r : V → List V → Hp → VK → Prop} (q : ta σ H fun x H1 => kBM K T r tNil σ x H1 Q) : tBM0 K T r ta σ H Q := q
theorem g_kbm {r : V → List V → Hp → VK → Prop} {t : TA} {a : Addr} {xs : List V} (h : H a = some (.lst xs)) (q : t σ H fun vs H2 => r (.ref a) vs H2 Q) : kBM K "list" r t σ (.ref a) H Q := ⟨.inl ⟨rfl, _, SqL.of h⟩, q⟩
theorem g_ktup {xs : List V} (hl : xs.length ≤ sizeLine) (hH : Has F O H) (q : ∀ p H', H p = none → Has F ((p, .tup xs) :: O) H' → Q (.ref p) H') : kTup xs H Q := ⟨hl, fun p n => q p _ n (hH.new n)⟩
theorem g_klst {xs : List V} (hl : xs.length ≤ sizeLine) (hH : Has F O H) (q : ∀ p H', H p = none → Has F ((p, .lst xs) :: O) H' → Q (.ref p) H') : kLst xs H Q := ⟨hl, fun p n => q p _ n (hH.new n)⟩
/-- a tuple that stands still at once -/
theorem g_ktupF {xs : List V} (hl : xs.length ≤ sizeLine) (hH : Has F O H) (q : ∀ p H' F', H p = none → Same F F' → F' p = some (.tup xs) → Has F' O H' → Q (.ref p) H') : kTup xs H Q :=
  ⟨hl, fun p n => q p _ (upd F p (.tup xs)) n (same_upd (hH.same.free n)) upd_same (hH.new n).frz⟩
theorem g_klstF {xs : List V} (hl : xs.length ≤ sizeLine) (hH : Has F O H) (q : ∀ p H' F', H p = none → Same F F' → F' p = some (.lst xs) → Has F' O H' → Q (.ref p) H') : kLst xs H Q :=
  ⟨hl, fun p n => q p _ (upd F p (.lst xs)) n (same_upd (hH.same.free n)) upd_same (hH.new n).frz⟩
theorem g_seq (h : t1 { D with nx := t2 D } σ H) : tSeq t1 t2 D σ H := h
theorem g_asg {g : TG} (q : te σ H fun x H1 => g x σ H1 D.nx) : tAsg te g D σ H := q
theorem g_name {i : Nat} {R : L2.St → Hp → Prop} (q : R (σ.set i (some v)) H) : gName i v σ H R := q
theorem g_drop (q : te σ H fun _ H1 => D.nx σ H1) : tDrop te D σ H := q
theorem g_ret (q : te σ H fun x H1 => D.rt x H1) : tRet te D σ H := q
theorem g_retN (q : D.rt .non H) : tRetN D σ H := q
theorem g_next (q : D.nx σ H) : tNext D σ H := q
theorem g_brk (q : D.bk σ H) : tBreak D σ H := q
theorem g_cont (q : D.ct σ H) : tCont D σ H := q
theorem g_if {c : TT} (q : c σ H fun b H1 => if b = true then t1 D σ H1 else t2 D σ H1) : tIfS c t1 t2 D σ H := q
theorem g_aug {i : Nat} {ti : TIp} (h : σ[i]? = some (some x)) (q : te σ H fun y H1 => ti x y H1 fun z H2 => D.nx (σ.set i (some z)) H2) : tAug i te ti D σ H := ⟨x, h, q⟩
theorem g_ipI {f : Int → Int → Int} {i j : Int} (q : Q (.int (f i j)) H) : ipI f (.int i) (.int j) H Q := ⟨i, j, rfl, rfl, q⟩
theorem g_test {R : Bool → Hp → Prop} (q : te σ H fun x H1 => kB x H1 R) : tTest te σ H R := q
theorem g_tB {R : Bool → Hp → Prop} (q : te σ H fun x H1 => kB x H1 R) : tB te σ H R := q
theorem g_kB {b : Bool} {R : Bool → Hp → Prop} (q : R b H) : kB (.bl b) H R := ⟨b, rfl, q⟩
theorem g_not {t : TT} {R : Bool → Hp → Prop} (q : t σ H fun c H1 => R (!c) H1) : tNot t σ H R := q
theorem g_and {t u : TT} {R : Bool → Hp → Prop} (q : t σ H fun c H1 => if c = true then u σ H1 R else R false H1) : tAnd t u σ H R := q
theorem g_or {t u : TT} {R : Bool → Hp → Prop} (q : t σ H fun c H1 => if c = true then R true H1 else u σ H1 R) : tOr t u σ H R := q
theorem g_andV (q : ta σ H fun x H1 => kB x H1 fun c H2 => if c = true then tb σ H2 Q else Q (.bl false) H2) : tAndV ta tb σ H Q := q
theorem g_orV (q : ta σ H fun x H1 => kB x H1 fun c H2 => if c = true then Q (.bl true) H2 else tb σ H2 Q) : tOrV ta tb σ H Q := q
theorem g_notV (q : ta σ H fun x H1 => kB x H1 fun c H2 => Q (.bl (!c)) H2) : tNotV ta σ H Q := q
theorem g_ifE {t : TT} (q : t σ H fun c H1 => if c = true then ta σ H1 Q else tb σ H1 Q) : tIf t ta tb σ H Q := q
theorem i_d {c A B : Prop} [Decidable c] (h1 : c → A) (h2 : ¬ c → B) : if decide c = true then A else B := by
  by_cases h : c
  · rw [if_pos (decide_eq_true h)]
    exact h1 h
  · rw [if_neg (by rw [decide_eq_false h]; exact Bool.false_ne_true)]
    exact h2 h
theorem i_n {c A B : Prop} [Decidable c] (h1 : ¬ c → A) (h2 : c → B) : if (!decide c) = true then A else B := by
  by_cases h : c
  · rw [decide_eq_true h, if_neg (by decide)]
    exact h2 h
  · rw [decide_eq_false h, if_pos (by decide)]
    exact h1 h
theorem i_b {b : Bool} {A B : Prop} (h1 : b = true → A) (h2 : b = false → B) : if b = true then A else B := by
  cases b with
  | true => rw [if_pos rfl]; exact h1 rfl
  | false => rw [if_neg Bool.false_ne_true]; exact h2 rfl
theorem i_nb {b : Bool} {A B : Prop} (h1 : b = false → A) (h2 : b = true → B) : if (!b) = true then A else B := by
  cases b with
  | false =>
    show (if true = true then A else B)
    rw [if_pos rfl]
    exact h1 rfl
  | true =>
    show (if false = true then A else B)
    rw [if_neg Bool.false_ne_true]
    exact h2 rfl
/-- a test by its answer -/
theorem g_bool {t : TT} {R : Bool → Hp → Prop} (b : Bool) (h : ∀ R : Bool → Hp → Prop, R b H → t σ H R) (q : R b H) : t σ H R := h R q

/-! ### operators -/
def rAdd (K : PySem.W.Frag) : R2 := fun x y H Q => (rI0 (fun i j => .int (i + j)) x y H Q ∨ ∃ i j, x = .str i ∧ y = .str j ∧ i.length + j.length ≤ sizeLine ∧ Q (.str (i ++ j)) H) ∨ rCat x y H Q ∨ rCatT K x y H Q
theorem g_addI {i j : Int} (q : Q (.int (i + j)) H) : rAdd K (.int i) (.int j) H Q := .inl (.inl ⟨i, j, rfl, rfl, q⟩)
theorem g_addS {i j : Str} (hl : i.length + j.length ≤ sizeLine) (q : Q (.str (i ++ j)) H) : rAdd K (.str i) (.str j) H Q := .inl (.inr ⟨i, j, rfl, rfl, hl, q⟩)
theorem g_addL {a b : Addr} {xs ys : List V} (h1 : H a = some (.lst xs)) (h2 : H b = some (.lst ys)) (hl : xs.length + ys.length ≤ sizeLine) (hH : Has F O H) (q : ∀ p H', H p = none → Has F ((p, .lst (xs ++ ys)) :: O) H' → Q (.ref p) H') : rAdd K (.ref a) (.ref b) H Q :=
  .inr (.inl ⟨a, b, xs, ys, rfl, rfl, h1, h2, hl, fun p n => q p _ n (hH.new n)⟩)
theorem g_rI0 {g : Int → Int → V} {i j : Int} (q : Q (g i j) H) : rI0 g (.int i) (.int j) H Q := ⟨i, j, rfl, rfl, q⟩
theorem g_rI {C : Int → Int → Prop} {g : Int → Int → V} {i j : Int} (hc : C i j) (q : Q (g i j) H) : rI C g (.int i) (.int j) H Q := ⟨i, j, rfl, rfl, hc, q⟩
theorem g_rU {g : Int → V} {i : Int} (q : Q (g i) H) : rU g (.int i) H Q := ⟨i, rfl, q⟩
def rMul : R2 := fun x y H Q => rI CMul (fun i j => .int (i * j)) x y H Q ∨ rRep x y H Q
theorem g_mulI {i j : Int} (hc : CMul i j) (q : Q (.int (i * j)) H) : rMul (.int i) (.int j) H Q := .inl ⟨i, j, rfl, rfl, hc, q⟩
theorem g_mulL {a : Addr} {k : Int} {xs : List V} (h : H a = some (.lst xs)) (h1 : -(2 ^ 63) ≤ k) (h2 : k < 2 ^ 63) (hl : xs.length * k.toNat ≤ sizeLine) (hH : Has F O H)
    (q : ∀ p H', H p = none → Has F ((p, .lst (List.replicate k.toNat xs).flatten) :: O) H' → Q (.ref p) H') : rMul (.ref a) (.int k) H Q := .inr ⟨a, k, xs, rfl, rfl, h, h1, h2, hl, fun p n => q p _ n (hH.new n)⟩
def rEqA (K : PySem.W.Frag) : R2 := fun x y H Q => rEq x y H Q ∨ rEqD K x y H Q
def rNeA (K : PySem.W.Frag) : R2 := fun x y H Q => rNe x y H Q ∨ rNeD K x y H Q
theorem g_eqI {i j : Int} (q : Q (.bl (decide (i = j))) H) : rEqA K (.int i) (.int j) H Q := .inl ⟨rfl, by rw [dec_int, Bool.beq_eq_decide_eq]; exact q⟩
theorem g_eqS {i j : Str} (q : Q (.bl (decide (i = j))) H) : rEqA K (.str i) (.str j) H Q := .inl ⟨rfl, by rw [dec_str, Bool.beq_eq_decide_eq]; exact q⟩
theorem g_neI {i j : Int} (q : Q (.bl (!decide (i = j))) H) : rNeA K (.int i) (.int j) H Q := .inl ⟨rfl, by rw [dec_int, Bool.beq_eq_decide_eq]; exact q⟩
theorem g_neS {i j : Str} (q : Q (.bl (!decide (i = j))) H) : rNeA K (.str i) (.str j) H Q := .inl ⟨rfl, by rw [dec_str, Bool.beq_eq_decide_eq]; exact q⟩
theorem g_eqD {d e : PyData} (hx : Dq H x d) (hy : Dq H y e) (sd : SeqAt.shaped d = true) (se : SeqAt.shaped e = true) (q : Q (.bl (PyData.eqv d e)) H) : rEqA K x y H Q := .inr ⟨d, e, hx.dp K d x, hy.dp K e y, sd, se, q⟩
theorem g_neD {d e : PyData} (hx : Dq H x d) (hy : Dq H y e) (sd : SeqAt.shaped d = true) (se : SeqAt.shaped e = true) (q : Q (.bl (!PyData.eqv d e)) H) : rNeA K x y H Q := .inr ⟨d, e, hx.dp K d x, hy.dp K e y, sd, se, q⟩
def rIsN : R2 := fun x y H Q => y = .non ∧ Q (.bl (decide (x = .non))) H
def rNotN : R2 := fun x y H Q => y = .non ∧ Q (.bl (!decide (x = .non))) H
theorem g_isN (q : Q (.bl (decide (x = .non))) H) : rIsN x .non H Q := ⟨rfl, q⟩
theorem g_notN (q : Q (.bl (!decide (x = .non))) H) : rNotN x .non H Q := ⟨rfl, q⟩
def rIxD : R2 := fun x y H Q => ∃ a v, x = .ref a ∧ DGet H a y (some v) ∧ Q v H
def rIxA (K : PySem.W.Frag) : R2 := fun x y H Q => rIx K x y H Q ∨ rIxD x y H Q
theorem g_ixL {a : Addr} {xs : List V} {i : Int} (h : H a = some (.lst xs)) (ha : atI xs i = some v) (q : Q v H) : rIxA K (.ref a) (.int i) H Q := .inl <| .inl ⟨a, xs, i, v, rfl, rfl, SqL.of h, ha, q⟩
theorem g_ixT {a : Addr} {xs : List V} {i : Int} (h : H a = some (.tup xs)) (ha : atI xs i = some v) (q : Q v H) : rIxA K (.ref a) (.int i) H Q := .inl (.inr (.inl ⟨a, xs, i, v, rfl, rfl, SqT.of h, ha, q⟩))
theorem g_ixS {z : Str} {i : Int} {c : Nat} (hl : z.length ≤ sizeLine) (ha : atI z.cps.toList i = some c) (q : Q (.str ⟨#[c]⟩) H) : rIxA K (.str z) (.int i) H Q := .inl (.inr (.inr ⟨z, i, c, rfl, rfl, hl, ha, q⟩))
theorem at_n {xs : List V} {i : Int} (h0 : 0 ≤ i) (h : xs[i.toNat]? = some v) : atI xs i = some v := by
  have e : i = (i.toNat : Int) := by omega
  rw [e]
  exact atI_nat h

/-! ### calls of what is built in -/
def rLen (K : PySem.W.Frag) : List V → Hp → VK → Prop := fun xs H Q => (∃ p ys, xs = [.ref p] ∧ (SqL K H p ys ∨ SqT K H p ys) ∧ Q (.int ys.length) H) ∨ ∃ z, xs = [.str z] ∧ z.length ≤ sizeLine ∧ Q (.int z.length) H
theorem g_lenL {a : Addr} {xs : List V} (h : H a = some (.lst xs)) (q : Q (.int (xs.length : Int)) H) : rLen K [.ref a] H Q := .inl ⟨a, xs, rfl, .inl (SqL.of h), q⟩
theorem g_lenT {a : Addr} {xs : List V} (h : H a = some (.tup xs)) (q : Q (.int (xs.length : Int)) H) : rLen K [.ref a] H Q := .inl ⟨a, xs, rfl, .inr (SqT.of h), q⟩
theorem g_lenS {z : Str} (h : z.length ≤ sizeLine) (q : Q (.int (z.length : Int)) H) : rLen K [.str z] H Q := .inr ⟨z, rfl, h, q⟩
def rInt1 : List V → Hp → VK → Prop := fun xs H Q => (∃ i, xs = [.int i] ∧ Q (.int i) H) ∨ ∃ k, xs = [.bl k] ∧ Q (.int (if k then 1 else 0)) H
theorem g_int {i : Int} (q : Q (.int i) H) : rInt1 [.int i] H Q := .inl ⟨i, rfl, q⟩
theorem g_intB {k : Bool} (q : Q (.int (if k then 1 else 0)) H) : rInt1 [.bl k] H Q := .inr ⟨k, rfl, q⟩
def rAbs1 : List V → Hp → VK → Prop := fun xs H Q => ∃ i, xs = [.int i] ∧ Q (.int (if i < 0 then -i else i)) H
theorem g_abs {i : Int} (q : ∀ j : Int, 0 ≤ j → Q (.int j) H) : rAbs1 [.int i] H Q := ⟨i, rfl, q _ (by split <;> omega)⟩
def rMax2 : List V → Hp → VK → Prop := fun xs H Q => ∃ i j, xs = [.int i, .int j] ∧ Q (.int (if j > i then j else i)) H
theorem g_max2 {i j : Int} (q : Q (.int (max i j)) H) : rMax2 [.int i, .int j] H Q := ⟨i, j, rfl, by
  have e : (if j > i then j else i) = max i j := by split <;> omega
  rw [e]
  exact q⟩
def rListOf (K : PySem.W.Frag) : List V → Hp → VK → Prop := fun xs H Q => ∃ p ys, xs = [.ref p] ∧ (SqL K H p ys ∨ SqT K H p ys) ∧ ∀ l, H l = none → Q (.ref l) (upd H l (.lst ys))
theorem g_listL {a : Addr} {xs : List V} (h : H a = some (.lst xs)) (hH : Has F O H) (q : ∀ p H', H p = none → Has F ((p, .lst xs) :: O) H' → Q (.ref p) H') : rListOf K [.ref a] H Q := ⟨a, xs, rfl, .inl (SqL.of h), fun p n => q p _ n (hH.new n)⟩
theorem g_listT {a : Addr} {xs : List V} (h : H a = some (.tup xs)) (hH : Has F O H) (q : ∀ p H', H p = none → Has F ((p, .lst xs) :: O) H' → Q (.ref p) H') : rListOf K [.ref a] H Q := ⟨a, xs, rfl, .inr (SqT.of h), fun p n => q p _ n (hH.new n)⟩
def rTupleOf (K : PySem.W.Frag) : List V → Hp → VK → Prop := fun xs H Q => ∃ p ys, xs = [.ref p] ∧ ((SqL K H p ys ∧ ∀ l, H l = none → Q (.ref l) (upd H l (.tup ys))) ∨ (SqT K H p ys ∧ Q (.ref p) H))
theorem g_tupleL {a : Addr} {xs : List V} (h : H a = some (.lst xs)) (hH : Has F O H) (q : ∀ p H' F', H p = none → Same F F' → F' p = some (.tup xs) → Has F' O H' → Q (.ref p) H') : rTupleOf K [.ref a] H Q :=
  ⟨a, xs, rfl, .inl ⟨SqL.of h, fun p n => q p _ (upd F p (.tup xs)) n (same_upd (hH.same.free n)) upd_same (hH.new n).frz⟩⟩
theorem g_tupleT {a : Addr} {xs : List V} (h : H a = some (.tup xs)) (q : Q (.ref a) H) : rTupleOf K [.ref a] H Q := ⟨a, xs, rfl, .inr ⟨SqT.of h, q⟩⟩

/-! ### methods of lists, stores -/
theorem g_append {a : Addr} {xs : List V} (hH : Has F O H) (c : Chg O a (.lst xs) (.lst (xs ++ [y])) O') (hl : xs.length < sizeLine) (q : ∀ H', Has F O' H' → Q .non H') : rAppend (.ref a) [y] H Q :=
  ⟨a, xs, y, rfl, rfl, hH.get c.mem, hl, q _ (hH.put c)⟩
theorem g_popAt {a : Addr} {xs : List V} {i : Int} {k : Nat} (hH : Has F O H) (c : Chg O a (.lst xs) (.lst (xs.eraseIdx k)) O') (h1 : -(2 ^ 63) ≤ i) (h2 : i < 2 ^ 63) (hk : seqIndex? i xs.length = some k) (hy : xs[k]? = some y)
    (q : ∀ H', Has F O' H' → Q y H') : rPopAt (.ref a) [.int i] H Q := ⟨a, xs, i, k, y, rfl, rfl, hH.get c.mem, h1, h2, hk, hy, q _ (hH.put c)⟩
theorem g_clear {a : Addr} {xs : List V} (hH : Has F O H) (c : Chg O a (.lst xs) (.lst []) O') (q : ∀ H', Has F O' H' → Q .non H') : rClear (.ref a) [] H Q := ⟨a, xs, rfl, rfl, hH.get c.mem, q _ (hH.put c)⟩
/-- o[i] = v -/
def kSet (t : TSet) (R : L2.St → Hp → Prop) (σ : L2.St) (o i v : V) (H : Hp) : Prop := t o i v H fun H3 => R σ H3
theorem g_sub {to ti : TE} {t : TSet} {R : L2.St → Hp → Prop} (q : to σ H fun o H1 => ti σ H1 fun i H2 => kSet t R σ o i v H2) : gSub to ti t v σ H R := q
theorem g_setL {R : L2.St → Hp → Prop} {a : Addr} {xs : List V} {k : Int} {j : Nat} (hH : Has F O H) (c : Chg O a (.lst xs) (.lst (xs.set j v)) O') (hj : ixN xs.length k = some j) (q : ∀ H', Has F O' H' → R σ H') : kSet rSetL R σ (.ref a) (.int k) v H :=
  ⟨a, xs, k, j, rfl, rfl, hH.get c.mem, hj, q _ (hH.put c)⟩
theorem ixN_nat {n : Nat} {k : Int} (h0 : 0 ≤ k) (h : k < n) : ixN n k = some k.toNat := by
  unfold ixN
  rw [if_pos h0, if_pos h]
/-- a, b = a tuple -/
theorem g_gtup {n : Nat} {t : TGs} {a : Addr} {xs : List V} {R : L2.St → Hp → Prop} (h : H a = some (.tup xs)) (hl : xs.length = n) (q : t xs σ H R) : gTup K n t (.ref a) σ H R := ⟨a, xs, rfl, SqT.of h, hl, q⟩
theorem g_gcons {t : TG} {u : TGs} {r : List V} {R : L2.St → Hp → Prop} (q : t v σ H fun σ' H' => u r σ' H' R) : gCons t u (v :: r) σ H R := ⟨v, r, rfl, q⟩
theorem g_gnil {R : L2.St → Hp → Prop} (q : R σ H) : gNil [] σ H R := ⟨rfl, q⟩
/-- slices -/
def kSl (r : V → Option Int → Option Int → Hp → VK → Prop) (tl th : TO) (σ : L2.St) (x : V) (H : Hp) (Q : VK) : Prop := tl σ H fun l H2 => th σ H2 fun u H3 => r x l u H3 Q
theorem g_sl {r : V → Option Int → Option Int → Hp → VK → Prop} {tl th : TO} (q : te σ H fun x H1 => kSl r tl th σ x H1 Q) : tSl r te tl th σ H Q := q
theorem g_kslN {r : V → Option Int → Option Int → Hp → VK → Prop} (q : r x none none H Q) : kSl r tNoPart tNoPart σ x H Q := q
theorem g_kslL {r : V → Option Int → Option Int → Hp → VK → Prop} {tl : TE} {i : Int} (q : tl σ H fun z H1 => ∃ i, z = .int i ∧ r x (some i) none H1 Q) : kSl r (tPart tl) tNoPart σ x H Q := q
theorem g_kslH {r : V → Option Int → Option Int → Hp → VK → Prop} {tl : TE} {i : Int} (q : tl σ H fun z H1 => ∃ i, z = .int i ∧ r x none (some i) H1 Q) : kSl r tNoPart (tPart tl) σ x H Q := q
def rRevL (K : PySem.W.Frag) (x : V) (H : Hp) (Q : VK) : Prop := ∃ a xs, x = .ref a ∧ SqL K H a xs ∧ ∀ p, H p = none → Q (.ref p) (upd H p (.lst xs.reverse))
end

/-! ### loops -/
def kW (J : It) (g : TG) (tb : TS) (D : Ends) (σ : L2.St) (H : Hp) : Prop := ∃ W : Nat → Nat → L2.St → Hp → Prop, (∃ m, W 0 m σ H) ∧ ∀ i m σ H, W i m σ H →
  (J.stop i H ∧ D.nx σ H) ∨ (J.go i H ∧ ∃ N : L2.St → Hp → Prop, (∀ σ' H', N σ' H' → ∃ m', m' < m ∧ W (i + 1) m' σ' H') ∧ ∀ x H', J.yld i H x H' → g x σ H' fun σ2 H2 => tb { D with nx := N, ct := N, bk := D.nx } σ2 H2)
def kForL (K : PySem.W.Frag) (g : TG) (tb : TS) (D : Ends) (σ : L2.St) (x : V) (H : Hp) : Prop := ∃ a, x = .ref a ∧ (∃ xs, SqL K H a xs) ∧ kW (Itl K a) g tb D σ H
def kForR1 (g : TG) (tb : TS) (D : Ends) (σ : L2.St) (vs : List V) (H : Hp) : Prop := ∃ j : Int, vs = [.int j] ∧ -(2 ^ 62) ≤ j ∧ j < 2 ^ 62 ∧ kW (Itr 0 j.toNat) g tb D σ H
def kForR2 (g : TG) (tb : TS) (D : Ends) (σ : L2.St) (vs : List V) (H : Hp) : Prop := ∃ i j : Int, vs = [.int i, .int j] ∧ (-(2 ^ 62) ≤ i ∧ i < 2 ^ 62 ∧ -(2 ^ 62) ≤ j ∧ j < 2 ^ 62) ∧ kW (Itr i (j - i).toNat) g tb D σ H
def kForR3 (g : TG) (tb : TS) (D : Ends) (σ : L2.St) (vs : List V) (H : Hp) : Prop := ∃ (i j c : Int) (n : Nat), vs = [.int i, .int j, .int c] ∧ RgC i j c n ∧ kW (Itc i c n) g tb D σ H
section
variable {K : PySem.W.Frag} {σ : L2.St} {F : Hp} {O O' : Own} {H : Hp} {Q : VK} {ta tb tc te : TE} {x y v : V} {D : Ends} {t1 t2 ts : TS} {g : TG}
theorem g_forL (q : te σ H fun x H1 => kForL K g ts D σ x H1) : tFor (iList K te) g ts D σ H := q
theorem g_forR1 {ta : TA} (q : ta σ H fun vs H1 => kForR1 g ts D σ vs H1) : tFor (iRng1 ta) g ts D σ H := q
theorem g_forR2 {ta : TA} (q : ta σ H fun vs H1 => kForR2 g ts D σ vs H1) : tFor (iRng2 ta) g ts D σ H := q
theorem g_forR3 {ta : TA} (q : ta σ H fun vs H1 => kForR3 g ts D σ vs H1) : tFor (iRng3 ta) g ts D σ H := q
theorem k_forL {a : Addr} {xs : List V} (h : H a = some (.lst xs)) (Pv : Nat → L2.St → Hp → Prop) (h0 : Pv 0 σ H) (hl : ∀ i σ H, i ≤ xs.length → Pv i σ H → H a = some (.lst xs))
    (hs : ∀ i x σ H, xs[i]? = some x → Pv i σ H → g x σ H fun σ2 H2 => ts { D with nx := Pv (i + 1), ct := Pv (i + 1), bk := D.nx } σ2 H2) (hd : ∀ σ H, Pv xs.length σ H → D.nx σ H) : kForL K g ts D σ (.ref a) H :=
  ⟨a, rfl, ⟨xs, SqL.of h⟩, for_list Pv h0 (fun i σ H hi p => SqL.of (hl i σ H hi p)) hs hd⟩
theorem k_forR1 {j : Int} (Pv : Nat → L2.St → Hp → Prop) (h1 : -(2 ^ 62) ≤ j) (h2 : j < 2 ^ 62) (h0 : Pv 0 σ H)
    (hs : ∀ i σ H, i < j.toNat → Pv i σ H → g (.int (i : Int)) σ H fun σ2 H2 => ts { D with nx := Pv (i + 1), ct := Pv (i + 1), bk := D.nx } σ2 H2) (hd : ∀ σ H, Pv j.toNat σ H → D.nx σ H) : kForR1 g ts D σ [.int j] H :=
  ⟨j, rfl, h1, h2, for_range Pv h0 (fun i σ H hi p => by rw [Int.zero_add]; exact hs i σ H hi p) hd⟩
/-- n - 1 down to 0 -/
theorem k_forDown {n : Nat} {j : Int} (hj : j = (n : Int) - 1) (hn : n < 2 ^ 60) (Pv : Nat → L2.St → Hp → Prop) (h0 : Pv n σ H)
    (hs : ∀ i σ H, i < n → Pv (i + 1) σ H → g (.int (i : Int)) σ H fun σ2 H2 => ts { D with nx := Pv i, ct := Pv i, bk := D.nx } σ2 H2) (hd : ∀ σ H, Pv 0 σ H → D.nx σ H) : kForR3 g ts D σ [.int j, .int (-1), .int (-1)] H := by
  subst hj
  have e : (((n : Int) - 1) - (-1)).toNat = n := by omega
  have rg := RgC.neg (i := (n : Int) - 1) (j := -1) (by omega) (by omega) (by decide) (by decide)
  rw [e] at rg
  refine ⟨_, _, _, n, rfl, rg, for_rangeC (fun i => Pv (n - i)) h0 (fun i σ H hi p => ?_) (fun σ H p => ?_)⟩
  · have e1 : (n : Int) - 1 + (i : Nat) * (-1) = ((n - (i + 1) : Nat) : Int) := by omega
    have e2 : n - i = (n - (i + 1)) + 1 := by omega
    rw [e1]
    have p' : Pv ((n - (i + 1)) + 1) σ H := by rw [← e2]; exact p
    exact hs _ σ H (by omega) p'
  · have p' : Pv (n - n) σ H := p
    rw [Nat.sub_self] at p'
    exact hd σ H p'
/-- while -/
def kWh (Pv : Nat → L2.St → Hp → Prop) (m : Nat) (tb : TS) (D : Ends) (σ : L2.St) (b : Bool) (H : Hp) : Prop := if b = true then ∃ N : L2.St → Hp → Prop, (∀ σ' H', N σ' H' → ∃ m', m' < m ∧ Pv m' σ' H') ∧ tb { D with nx := N, ct := N, bk := D.nx } σ H else D.nx σ H
theorem g_while {c : TT} (Pv : Nat → L2.St → Hp → Prop) (m : Nat) (h0 : Pv m σ H) (hs : ∀ m σ H, Pv m σ H → c σ H fun b H1 => kWh Pv m ts D σ b H1) : tWhile c ts D σ H := ⟨Pv, ⟨m, h0⟩, hs⟩
theorem kwh_t {Pv : Nat → L2.St → Hp → Prop} {m : Nat} (q : ts { D with nx := fun σ' H' => ∃ m', m' < m ∧ Pv m' σ' H', ct := fun σ' H' => ∃ m', m' < m ∧ Pv m' σ' H', bk := D.nx } σ H) : kWh Pv m ts D σ true H := by
  unfold kWh
  rw [if_pos rfl]
  exact ⟨_, fun _ _ h => h, q⟩
theorem kwh_f {Pv : Nat → L2.St → Hp → Prop} {m : Nat} (q : D.nx σ H) : kWh Pv m ts D σ false H := by
  unfold kWh
  rw [if_neg Bool.false_ne_true]
  exact q

/-! ### list comprehensions -/
def kLc (J : It) (g : TG) (tt : TT) (te : TE) (vs : List Nat) (σ : L2.St) (H1 : Hp) (Q : VK) : Prop := ∀ D, H1 D = none → ∃ W : Nat → Nat → Hp → Prop, (∃ m, W 0 m (upd H1 D (.lst []))) ∧ ∀ i m H, W i m H →
  (J.stop i H ∧ Q (.ref D) H) ∨ (J.go i H ∧ ∃ Nx : Hp → Prop, (∀ H', Nx H' → ∃ m', m' < m ∧ W (i + 1) m' H') ∧ ∀ x H', J.yld i H x H' → g x (wipe σ vs) H' fun σ2 H2 => wipe σ2 vs = wipe σ vs ∧ tt σ2 H2 fun b H3 =>
    if b = true then te σ2 H3 fun y H4 => ∃ acc, H4 D = some (.lst acc) ∧ acc.length < sizeLine ∧ Nx (upd H4 D (.lst (acc ++ [y]))) else Nx H3)
def kLcL (K : PySem.W.Frag) (g : TG) (tt : TT) (te : TE) (vs : List Nat) (σ : L2.St) (x : V) (H : Hp) (Q : VK) : Prop := ∃ a, x = .ref a ∧ (∃ xs, SqL K H a xs) ∧ kLc (Itl K a) g tt te vs σ H Q
def kLcR1 (g : TG) (tt : TT) (te : TE) (ws : List Nat) (σ : L2.St) (vs : List V) (H : Hp) (Q : VK) : Prop := ∃ j : Int, vs = [.int j] ∧ -(2 ^ 62) ≤ j ∧ j < 2 ^ 62 ∧ kLc (Itr 0 j.toNat) g tt te ws σ H Q
theorem g_lcL {tt : TT} {vs : List Nat} (q : ta σ H fun x H1 => kLcL K g tt te vs σ x H1 Q) : tLc (iList K ta) g tt te vs σ H Q := q
theorem g_lcR1 {ta : TA} {tt : TT} {vs : List Nat} (q : ta σ H fun xs H1 => kLcR1 g tt te vs σ xs H1 Q) : tLc (iRng1 ta) g tt te vs σ H Q := q
/-- what a turn is to leave -/
def kNx (S : Nat → List V → Hp → Own → Prop) (i : Nat) (D : Addr) (H : Hp) : Prop := ∃ acc F' O', S (i + 1) acc F' O' ∧ Has F' ((D, .lst acc) :: O') H
def kTurn (D : Addr) (Nx : Hp → Prop) (y : V) (H : Hp) : Prop := ∃ acc, H D = some (.lst acc) ∧ acc.length < sizeLine ∧ Nx (upd H D (.lst (acc ++ [y])))
theorem k_turn {S : Nat → List V → Hp → Own → Prop} {i : Nat} {D : Addr} {acc : List V} {y : V} {H : Hp} {F : Hp} {O : Own} (h : Has F ((D, .lst acc) :: O) H) (hl : acc.length ≤ 100000) (s : S (i + 1) (acc ++ [y]) F O) : kTurn D (kNx S i D) y H :=
  ⟨acc, h.get (List.Mem.head _), by rw [sizeLine_eq]; omega, _, F, O, s, h.put .hd⟩
theorem k_skip {S : Nat → List V → Hp → Own → Prop} {i : Nat} {D : Addr} {acc : List V} {H : Hp} {F : Hp} {O : Own} (h : Has F ((D, .lst acc) :: O) H) (s : S (i + 1) acc F O) : kNx S i D H := ⟨acc, F, O, s, h⟩
theorem k_lc {J : It} {tt : TT} {vs : List Nat} (hH : Has F O H) (n : Nat) (S : Nat → List V → Hp → Own → Prop) (h0 : S 0 [] F O)
    (go : ∀ i acc F O D H, i < n → S i acc F O → Has F ((D, .lst acc) :: O) H → J.go i H) (stop : ∀ acc F O D H, S n acc F O → Has F ((D, .lst acc) :: O) H → J.stop n H)
    (hs : ∀ i x acc F O D H H', i < n → J.yld i H x H' → S i acc F O → Has F ((D, .lst acc) :: O) H → g x (wipe σ vs) H' fun σ2 H2 => wipe σ2 vs = wipe σ vs ∧ tt σ2 H2 fun b H3 => if b = true then te σ2 H3 fun y H4 => kTurn D (kNx S i D) y H4 else kNx S i D H3)
    (hd : ∀ acc F O D H, S n acc F O → Has F ((D, .lst acc) :: O) H → Q (.ref D) H) : kLc J g tt te vs σ H Q := by
  intro D hD
  refine ⟨fun i m H => m = n - i ∧ i ≤ n ∧ ∃ acc F O, S i acc F O ∧ Has F ((D, .lst acc) :: O) H, ⟨n, by simp, Nat.zero_le _, [], F, O, h0, hH.new hD⟩, ?_⟩
  rintro i m H1 ⟨rfl, hi, acc, F1, O1, s1, hH1⟩
  by_cases hlt : i < n
  · exact .inr ⟨go i acc F1 O1 D H1 hlt s1 hH1, kNx S i D, fun H' p => ⟨n - (i + 1), by omega, rfl, hlt, p⟩, fun x H' y => hs i x acc F1 O1 D H1 H' hlt y s1 hH1⟩
  · have e : i = n := by omega
    subst e
    exact .inl ⟨stop acc F1 O1 D H1 s1 hH1, hd acc F1 O1 D H1 s1 hH1⟩
/-- over a list that stands still -/
theorem k_lcL {a : Addr} {xs : List V} {tt : TT} {vs : List Nat} (h : H a = some (.lst xs)) (hH : Has F O H) (S : Nat → List V → Hp → Own → Prop) (h0 : S 0 [] F O) (hl : ∀ i acc F O H, S i acc F O → Has F O H → H a = some (.lst xs))
    (hs : ∀ i x acc F O D H, xs[i]? = some x → S i acc F O → Has F ((D, .lst acc) :: O) H → g x (wipe σ vs) H fun σ2 H2 => wipe σ2 vs = wipe σ vs ∧ tt σ2 H2 fun b H3 => if b = true then te σ2 H3 fun y H4 => kTurn D (kNx S i D) y H4 else kNx S i D H3)
    (hd : ∀ acc F O D H, S xs.length acc F O → Has F ((D, .lst acc) :: O) H → Q (.ref D) H) : kLcL K g tt te vs σ (.ref a) H Q := by
  refine ⟨a, rfl, ⟨xs, SqL.of h⟩, k_lc hH xs.length S h0 (fun i acc F O D H hi s hh => ?_) (fun acc F O D H s hh => ?_) (fun i x acc F O D H H' hi y s hh => ?_) hd⟩
  · exact ⟨xs, xs[i], SqL.of (hl i acc F O H s hh.drop), List.getElem?_eq_getElem hi⟩
  · exact ⟨xs, SqL.of (hl _ acc F O H s hh.drop), Nat.le_refl _⟩
  · obtain ⟨e, y⟩ := y
    subst e
    exact hs i x acc F O D _ (y xs (SqL.of (hl i acc F O _ s hh.drop))) s hh
theorem k_lcR1 {j : Int} {tt : TT} {vs : List Nat} (h1 : -(2 ^ 62) ≤ j) (h2 : j < 2 ^ 62) (hH : Has F O H) (S : Nat → List V → Hp → Own → Prop) (h0 : S 0 [] F O)
    (hs : ∀ i acc F O D H, i < j.toNat → S i acc F O → Has F ((D, .lst acc) :: O) H → g (.int (i : Int)) (wipe σ vs) H fun σ2 H2 => wipe σ2 vs = wipe σ vs ∧ tt σ2 H2 fun b H3 => if b = true then te σ2 H3 fun y H4 => kTurn D (kNx S i D) y H4 else kNx S i D H3)
    (hd : ∀ acc F O D H, S j.toNat acc F O → Has F ((D, .lst acc) :: O) H → Q (.ref D) H) : kLcR1 g tt te vs σ [.int j] H Q := by
  refine ⟨j, rfl, h1, h2, k_lc hH j.toNat S h0 (fun i acc F O D H hi s hh => hi) (fun acc F O D H s hh => Nat.le_refl _) (fun i x acc F O D H H' hi y s hh => ?_) hd⟩
  obtain ⟨e, y⟩ := y
  subst e y
  rw [Int.zero_add]
  exact hs i acc F O D _ hi s hh
end

/-! ### the rules' own soundness: one operator for several kinds -/
section
variable {X : Cx}
theorem op_addA : OpR X (binaryOp .Add) (rAdd X.K) := by
  intro pins s σ H x y v u Q I rx ry h
  rcases h with (h | h) | h | h
  · exact op_add pins s σ H x y v u Q I rx ry h
  · exact op_add_str pins s σ H x y v u Q I rx ry h
  · exact op_cat pins s σ H x y v u Q I rx ry h
  · exact op_catT pins s σ H x y v u Q I rx ry h
theorem op_mulA : OpR X (binaryOp .Mult) rMul := by
  intro pins s σ H x y v u Q I rx ry h
  rcases h with h | h
  · exact op_mul pins s σ H x y v u Q I rx ry h
  · exact op_rep pins s σ H x y v u Q I rx ry h
theorem op_eqA (hu : X.A.units + 64 < cLine) : OpR X (compareOp .Eq) (rEqA X.K) := by
  intro pins s σ H x y v u Q I rx ry h
  rcases h with h | h
  · exact op_eq pins s σ H x y v u Q I rx ry h
  · exact op_eqD hu pins s σ H x y v u Q I rx ry h
theorem op_neA (hu : X.A.units + 64 < cLine) : OpR X (compareOp .NotEq) (rNeA X.K) := by
  intro pins s σ H x y v u Q I rx ry h
  rcases h with h | h
  · exact op_ne pins s σ H x y v u Q I rx ry h
  · exact op_neD hu pins s σ H x y v u Q I rx ry h
theorem op_isNA : OpR X (compareOp .Is) rIsN := op_isN
theorem op_notNA : OpR X (compareOp .IsNot) rNotN := op_notN
theorem cr_len : CallR X (.builtin "len") (rLen X.K) := by
  intro pins s σ H xs us Q I r h
  rcases h with h | h
  · exact call_len_seq pins s σ H xs us Q I r h
  · exact call_len_str pins s σ H xs us Q I r h
theorem cr_int1 : CallR X (.type "int") rInt1 := call_int1
theorem cr_abs1 : CallR X (.builtin "abs") rAbs1 := call_abs
theorem cr_max2 (hc : X.calm = true) : CallR X (.builtin "max") rMax2 := call_max2 hc
theorem cr_listOf : CallR X (.type "list") (rListOf X.K) := call_list_of
theorem cr_tupleOf : CallR X (.type "tuple") (rTupleOf X.K) := call_tuple_of
end

/-! ### dicts -/
def rInDc : R2 := fun x y H Q => ∃ a o, y = .ref a ∧ DGet H a x o ∧ Q (.bl o.isSome) H
def rNotInDc : R2 := fun x y H Q => ∃ a o, y = .ref a ∧ DGet H a x o ∧ Q (.bl (!o.isSome)) H
section
variable {X : Cx}
theorem op_inDc (hu : X.A.units + 1 < cLine) : OpR X (compareOp .In) rInDc := by
  intro pins s σ H x y v u Q I rx ry h
  obtain ⟨a, o, rfl, g, q⟩ := h
  cases ry
  exact d_in hu I g rx fun s' I' => ⟨.bl _, H, I', rfl, q⟩
theorem op_notinDc (hu : X.A.units + 1 < cLine) : OpR X (compareOp .NotIn) rNotInDc := by
  intro pins s σ H x y v u Q I rx ry h
  obtain ⟨a, o, rfl, g, q⟩ := h
  cases ry
  exact d_notIn hu I g rx fun s' I' => ⟨.bl _, H, I', rfl, q⟩
end
def kGet2 (ty tx : TE) (σ : L2.St) (x : V) (H : Hp) (Q : VK) : Prop := ∃ a, x = .ref a ∧ IsD H a ∧ ty σ H fun y H2 => tx σ H2 fun z H3 => ∃ o, DGet H3 a y o ∧ Q (o.getD z) H3
def kGot (a : Addr) (y z : V) (H : Hp) (Q : VK) : Prop := ∃ o, DGet H a y o ∧ Q (o.getD z) H
section
variable {K : PySem.W.Frag} {σ : L2.St} {F : Hp} {O O' : Own} {H : Hp} {Q : VK} {ta tb tc te : TE} {x y v : V} {D : Ends} {t1 t2 ts : TS} {g : TG}
theorem g_dnew (hH : Has F O H) (q : ∀ p H', H p = none → Has F ((p, .dK []) :: O) H' → Q (.ref p) H') : tDNewK σ H Q := fun p n => q p _ n (hH.new n)
theorem g_inDI {a : Addr} {kvs : List (Key × V)} {i : Int} (h : H a = some (.dK kvs)) (q : Q (.bl (valV kvs (.inl i)).isSome) H) : rInDc (.int i) (.ref a) H Q := ⟨a, _, rfl, DGet.k (k := .inl i) h, q⟩
theorem g_notinDI {a : Addr} {kvs : List (Key × V)} {i : Int} (h : H a = some (.dK kvs)) (q : Q (.bl (!(valV kvs (.inl i)).isSome)) H) : rNotInDc (.int i) (.ref a) H Q := ⟨a, _, rfl, DGet.k (k := .inl i) h, q⟩
theorem g_setDI {R : L2.St → Hp → Prop} {a : Addr} {kvs : List (Key × V)} {i : Int} (hH : Has F O H) (c : Chg O a (.dK kvs) (.dK (putK kvs (.inl i) v)) O') (hl : kvs.length < sizeLine) (q : ∀ H', Has F O' H' → R σ H') : kSet rSetD R σ (.ref a) (.int i) v H :=
  ⟨a, _, rfl, DPut.k (k := .inl i) (hH.get c.mem) hl, q _ (hH.put c)⟩
theorem g_get2 (q : ta σ H fun x H1 => kGet2 tb tc σ x H1 Q) : tDGet2 ta tb tc σ H Q := q
theorem g_kget2 {a : Addr} {kvs : List (Key × V)} (h : H a = some (.dK kvs)) (q : tb σ H fun y H2 => tc σ H2 fun z H3 => kGot a y z H3 Q) : kGet2 tb tc σ (.ref a) H Q := ⟨a, rfl, .inl ⟨kvs, .inl h⟩, q⟩
theorem g_kgotI {a : Addr} {kvs : List (Key × V)} {i : Int} {z : V} (h : H a = some (.dK kvs)) (q : Q ((valV kvs (.inl i)).getD z) H) : kGot a (.int i) z H Q := ⟨_, DGet.k (k := .inl i) h, q⟩
theorem g_kgotS {a : Addr} {kvs : List (Key × V)} {i : Str} {z : V} (h : H a = some (.dK kvs)) (q : Q ((valV kvs (.inr i)).getD z) H) : kGot a (.str i) z H Q := ⟨_, DGet.k (k := .inr i) h, q⟩
end

/-! ### in, not in; o[i] = v: any of the kinds -/
def rInA (K : PySem.W.Frag) : R2 := fun x y H Q => (rIn K false x y H Q ∨ rInDc x y H Q) ∨ (∃ i j, x = .str i ∧ y = .str j ∧ Q (.bl (!(Builtin.Str.occurrences j i 0 j.length 1).isEmpty)) H) ∨ rInD K x y H Q
def rNotInA (K : PySem.W.Frag) : R2 := fun x y H Q => (rIn K true x y H Q ∨ rNotInDc x y H Q) ∨ (∃ i j, x = .str i ∧ y = .str j ∧ Q (.bl (!(!(Builtin.Str.occurrences j i 0 j.length 1).isEmpty))) H) ∨ rNotInD K x y H Q
def rSetA : TSet := fun o i v H Q => rSetL o i v H Q ∨ rSetD o i v H Q
section
variable {X : Cx}
theorem op_inA (hu : X.A.units + 64 < cLine) (hu' : X.A.units + 65 < cLine) : OpR X (compareOp .In) (rInA X.K) := by
  intro pins s σ H x y v u Q I rx ry h
  rcases h with (h | h) | h | h
  · exact op_in_seq pins s σ H x y v u Q I rx ry h
  · exact op_inDc (by omega) pins s σ H x y v u Q I rx ry h
  · exact op_in_str pins s σ H x y v u Q I rx ry h
  · exact op_inD hu' pins s σ H x y v u Q I rx ry h
theorem op_notinA (hu : X.A.units + 64 < cLine) (hu' : X.A.units + 65 < cLine) : OpR X (compareOp .NotIn) (rNotInA X.K) := by
  intro pins s σ H x y v u Q I rx ry h
  rcases h with (h | h) | h | h
  · exact op_notIn_seq pins s σ H x y v u Q I rx ry h
  · exact op_notinDc (by omega) pins s σ H x y v u Q I rx ry h
  · exact L2.op_notIn_str pins s σ H x y v u Q I rx ry h
  · exact op_notInD hu' pins s σ H x y v u Q I rx ry h
theorem set_any (hu : X.A.units + 1 < cLine) : PSet X rSetA := by
  intro pins s σ H o i v ov iv u Q I ro ri rv h
  rcases h with h | h
  · exact set_list pins s σ H o i v ov iv u Q I ro ri rv h
  · exact set_dict hu pins s σ H o i v ov iv u Q I ro ri rv h
theorem u65 {k : Nat} {A : Around} (r : Room k A) : A.units + 65 < cLine := by have := r.un; omega
end
section
variable {K : PySem.W.Frag} {σ : L2.St} {F : Hp} {O O' : Own} {H : Hp} {Q : VK} {x y v : V}
theorem g_inFL {a : Addr} {xs : List V} (h : H a = some (.lst xs)) (hx : flatV x = true) (hf : xs.all flatV = true) (q : Q (.bl (inV x xs)) H) : rInA K x (.ref a) H Q := .inl (.inl ⟨a, xs, rfl, .inl (SqL.of h), hx, hf, q⟩)
theorem g_notinFL {a : Addr} {xs : List V} (h : H a = some (.lst xs)) (hx : flatV x = true) (hf : xs.all flatV = true) (q : Q (.bl (!inV x xs)) H) : rNotInA K x (.ref a) H Q := .inl (.inl ⟨a, xs, rfl, .inl (SqL.of h), hx, hf, q⟩)
theorem g_inI {a : Addr} {kvs : List (Key × V)} {i : Int} (h : H a = some (.dK kvs)) (q : Q (.bl (valV kvs (.inl i)).isSome) H) : rInA K (.int i) (.ref a) H Q := .inl (.inr ⟨a, _, rfl, DGet.k (k := .inl i) h, q⟩)
theorem g_notinI {a : Addr} {kvs : List (Key × V)} {i : Int} (h : H a = some (.dK kvs)) (q : Q (.bl (!(valV kvs (.inl i)).isSome)) H) : rNotInA K (.int i) (.ref a) H Q := .inl (.inr ⟨a, _, rfl, DGet.k (k := .inl i) h, q⟩)
theorem g_inS {a : Addr} {kvs : List (Key × V)} {i : Str} (h : H a = some (.dK kvs)) (q : Q (.bl (valV kvs (.inr i)).isSome) H) : rInA K (.str i) (.ref a) H Q := .inl (.inr ⟨a, _, rfl, DGet.k (k := .inr i) h, q⟩)
theorem g_notinS {a : Addr} {kvs : List (Key × V)} {i : Str} (h : H a = some (.dK kvs)) (q : Q (.bl (!(valV kvs (.inr i)).isSome)) H) : rNotInA K (.str i) (.ref a) H Q := .inl (.inr ⟨a, _, rfl, DGet.k (k := .inr i) h, q⟩)
theorem g_stL {R : L2.St → Hp → Prop} {a : Addr} {xs : List V} {k : Int} {j : Nat} (hH : Has F O H) (c : Chg O a (.lst xs) (.lst (xs.set j v)) O') (hj : ixN xs.length k = some j) (q : ∀ H', Has F O' H' → R σ H') : kSet rSetA R σ (.ref a) (.int k) v H :=
  .inl ⟨a, xs, k, j, rfl, rfl, hH.get c.mem, hj, q _ (hH.put c)⟩
theorem g_stD {R : L2.St → Hp → Prop} {a : Addr} {kvs : List (Key × V)} {k : Key} {z : V} (ez : z = kV k) (hH : Has F O H) (c : Chg O a (.dK kvs) (.dK (putK kvs k v)) O') (hl : kvs.length < sizeLine) (q : ∀ H', Has F O' H' → R σ H') : kSet rSetA R σ (.ref a) z v H := by
  subst ez
  exact .inr ⟨a, _, rfl, DPut.k (hH.get c.mem) hl, q _ (hH.put c)⟩
end

/-! ### an argument that is changed -/
def rm (H : Hp) (a : Addr) : Hp := fun b => if b = a then none else H b
/-- all but a stands as it stood -/
def But (a : Addr) (H H' : Hp) : Prop := ∀ b u, b ≠ a → H b = some u → H' b = some u
theorem rm_at {H : Hp} {a : Addr} : rm H a a = none := if_pos rfl
theorem rm_ne {H : Hp} {a b : Addr} (h : b ≠ a) : rm H a b = H b := if_neg h
theorem Has.arg {H : Hp} {a : Addr} {o : HO} (h : H a = some o) : Has (rm H a) [(a, o)] H := by
  refine ⟨fun b u q => ?_, fun p hp => ?_, by simp⟩
  · by_cases e : b = a
    · subst e; rw [rm_at] at q; cases q
    · rw [rm_ne e] at q; exact q
  · have e : p = (a, o) := by simpa using hp
    subst e
    exact ⟨rm_at, h⟩
theorem But.of {H H' : Hp} {a : Addr} (h : Same (rm H a) H') : But a H H' := fun b u ne q => h b u (by rw [rm_ne ne]; exact q)
theorem But.trans {a : Addr} {H H1 H2 : Hp} (x : But a H H1) (y : But a H1 H2) : But a H H2 := fun b u ne q => y b u ne (x b u ne q)
theorem But.same {a : Addr} {H H1 H2 : Hp} (x : But a H H1) (y : Same H1 H2) : But a H H2 := fun b u ne q => y b u (x b u ne q)
section
variable {K : PySem.W.Frag} {σ : L2.St} {F : Hp} {O O' : Own} {H : Hp} {Q : VK} {x y v : V}
/-- a test by a fact about its answer -/
theorem g_fact {t : TT} {R : Bool → Hp → Prop} (C : Bool → Prop) (h : ∀ R : Bool → Hp → Prop, (∀ b, C b → R b H) → t σ H R) (q : ∀ b, C b → R b H) : t σ H R := h R q
theorem g_ixV {a : Addr} {xs : List V} {i : Int} (h : H a = some (.lst xs)) (h0 : 0 ≤ i) (hl : i < xs.length) (q : ∀ v, xs[i.toNat]? = some v → Q v H) : rIxA K (.ref a) (.int i) H Q := by
  have e : i.toNat < xs.length := by omega
  exact g_ixL h (at_n h0 (List.getElem?_eq_getElem e)) (q _ (List.getElem?_eq_getElem e))
theorem g_ixI {a : Addr} {xs : List Int} {i : Int} (h : H a = some (.lst (xs.map V.int))) (h0 : 0 ≤ i) (hl : i < xs.length) (q : ∀ z, xs[i.toNat]? = some z → Q (.int z) H) : rIxA K (.ref a) (.int i) H Q := by
  have e : i.toNat < xs.length := by omega
  refine g_ixL h (at_n h0 (v := .int xs[i.toNat]) ?_) (q _ (List.getElem?_eq_getElem e))
  rw [List.getElem?_map, List.getElem?_eq_getElem e]
  rfl
theorem g_ixZ {a : Addr} {xs : List Str} {i : Int} (h : H a = some (.lst (xs.map V.str))) (h0 : 0 ≤ i) (hl : i < xs.length) (q : ∀ z, xs[i.toNat]? = some z → Q (.str z) H) : rIxA K (.ref a) (.int i) H Q := by
  have e : i.toNat < xs.length := by omega
  refine g_ixL h (at_n h0 (v := .str xs[i.toNat]) ?_) (q _ (List.getElem?_eq_getElem e))
  rw [List.getElem?_map, List.getElem?_eq_getElem e]
  rfl
theorem g_stI {R : L2.St → Hp → Prop} {a : Addr} {xs : List Int} {k z : Int} (hH : Has F O H) (c : Chg O a (.lst (xs.map V.int)) (.lst ((xs.set k.toNat z).map V.int)) O') (h0 : 0 ≤ k) (hl : k < xs.length) (q : ∀ H', Has F O' H' → R σ H') : kSet rSetA R σ (.ref a) (.int k) (.int z) H := by
  refine g_stL (xs := xs.map V.int) (j := k.toNat) hH ?_ (ixN_nat h0 (by rw [List.length_map]; exact hl)) q
  rw [← List.map_set]
  exact c
theorem g_popAtI {a : Addr} {xs : List Int} {i : Int} (hH : Has F O H) (c : Chg O a (.lst (xs.map V.int)) (.lst ((xs.eraseIdx i.toNat).map V.int)) O') (h0 : 0 ≤ i) (hl : i < xs.length) (h2 : xs.length ≤ 1000) (q : ∀ H' z, Has F O' H' → Q (.int z) H') : rPopAt (.ref a) [.int i] H Q := by
  have e : i.toNat < xs.length := by omega
  refine g_popAt (xs := xs.map V.int) (k := i.toNat) (y := .int xs[i.toNat]) hH ?_ (by omega) (by omega) ?_ ?_ (fun H' h => q H' _ h)
  · have : (xs.map V.int).eraseIdx i.toNat = (xs.eraseIdx i.toNat).map V.int := by
      rw [List.eraseIdx_eq_take_drop_succ, List.eraseIdx_eq_take_drop_succ, List.map_append, List.map_take, List.map_drop]
    rw [this]
    exact c
  · have := (ixN_seq (n := (xs.map V.int).length) (i := i) (j := i.toNat) (ixN_nat h0 (by rw [List.length_map]; exact hl))).1
    exact this
  · rw [List.getElem?_map, List.getElem?_eq_getElem e]
    rfl
end
theorem sz {n : Nat} (h : n ≤ 100000) : n ≤ sizeLine := by rw [sizeLine_eq]; omega
theorem szl {n : Nat} (h : n < 100000) : n < sizeLine := by rw [sizeLine_eq]; omega

section
variable {K : PySem.W.Frag} {σ : L2.St} {F : Hp} {O O' : Own} {H : Hp} {Q : VK} {x y v : V} {te ta : TE}
theorem g_yes {R : Bool → Hp → Prop} (q : R true H) : tYes σ H R := q
theorem g_wipe {σ1 σ2 : L2.St} {B : Prop} (e : σ1 = σ2) (q : B) : σ1 = σ2 ∧ B := ⟨e, q⟩
def kOI (x : V) (H : Hp) (R : Option Int → Hp → Prop) : Prop := ∃ i, x = .int i ∧ R (some i) H
theorem g_part {R : Option Int → Hp → Prop} (q : te σ H fun x H1 => kOI x H1 R) : tPart te σ H R := q
theorem g_kOI {R : Option Int → Hp → Prop} {i : Int} (q : R (some i) H) : kOI (.int i) H R := ⟨i, rfl, q⟩
theorem g_nopart {R : Option Int → Hp → Prop} (q : R none H) : tNoPart σ H R := q
theorem g_slice {r : V → Option Int → Option Int → Hp → VK → Prop} {tl th : TO} (q : te σ H fun x H1 => tl σ H1 fun l H2 => th σ H2 fun u H3 => r x l u H3 Q) : tSl r te tl th σ H Q := q
theorem g_slS {a : Addr} {xs : List V} {lo hi : Option Int} (h : SqL K H a xs) (hH : Has F O H) (q : ∀ p H', H p = none → Has F ((p, .lst (cutV xs lo hi)) :: O) H' → Q (.ref p) H') : rSlL K (.ref a) lo hi H Q := ⟨a, xs, rfl, h, fun p n => q p _ n (hH.new n)⟩
theorem g_slL {a : Addr} {xs : List V} {lo hi : Option Int} (h : H a = some (.lst xs)) (hH : Has F O H) (q : ∀ p H', H p = none → Has F ((p, .lst (cutV xs lo hi)) :: O) H' → Q (.ref p) H') : rSlL K (.ref a) lo hi H Q := g_slS (SqL.of h) hH q
theorem cutV_ints (ns : List Int) (lo hi : Option Int) : ∃ ms : List Int, cutV (ns.map V.int) lo hi = ms.map V.int ∧ ms.length ≤ ns.length := by
  refine ⟨(ns.drop (HT.sIx ns.length 0 lo)).take (HT.sIx ns.length ns.length hi - HT.sIx ns.length 0 lo), ?_, ?_⟩
  · unfold cutV
    rw [List.length_map, List.map_take, List.map_drop]
  · rw [List.length_take, List.length_drop]
    omega
theorem g_revL {a : Addr} {xs : List V} (h : H a = some (.lst xs)) (hH : Has F O H) (q : ∀ p H', H p = none → Has F ((p, .lst xs.reverse) :: O) H' → Q (.ref p) H') : (∃ b ys, V.ref a = .ref b ∧ SqL K H b ys ∧ ∀ p, H p = none → Q (.ref p) (upd H p (.lst ys.reverse))) :=
  ⟨a, xs, rfl, SqL.of h, fun p n => q p _ n (hH.new n)⟩
theorem g_tRev (q : te σ H fun x H1 => rRevL K x H1 Q) : tRevL K te σ H Q := q
theorem g_rRev {a : Addr} {xs : List V} (h : H a = some (.lst xs)) (hH : Has F O H) (q : ∀ p H', H p = none → Has F ((p, .lst xs.reverse) :: O) H' → Q (.ref p) H') : rRevL K (.ref a) H Q := ⟨a, xs, rfl, SqL.of h, fun p n => q p _ n (hH.new n)⟩
/-- an item of a list of texts that are in order, of ints from 0 to n -/
def okS : V → Bool
  | .str z => PyData.strOk z
  | _ => false
def okI (n : Int) : V → Bool
  | .int z => decide (0 ≤ z ∧ z ≤ n)
  | _ => false
theorem g_ixM {a : Addr} {xs : List V} {i : Int} (h : H a = some (.lst xs)) (ok : xs.all okS = true) (h0 : 0 ≤ i) (hl : i < xs.length) (q : ∀ z, PyData.strOk z = true → Q (.str z) H) : rIxA K (.ref a) (.int i) H Q := by
  refine g_ixV h h0 hl fun v hv => ?_
  have m := List.all_eq_true.mp ok v (List.mem_of_getElem? hv)
  cases v with
  | str z => exact q z m
  | _ => cases m
theorem g_ixN {n : Int} {a : Addr} {xs : List V} {i : Int} (h : H a = some (.lst xs)) (ok : xs.all (okI n) = true) (h0 : 0 ≤ i) (hl : i < xs.length) (q : ∀ z, 0 ≤ z → z ≤ n → Q (.int z) H) : rIxA K (.ref a) (.int i) H Q := by
  refine g_ixV h h0 hl fun v hv => ?_
  have m := List.all_eq_true.mp ok v (List.mem_of_getElem? hv)
  cases v with
  | int z =>
    have := of_decide_eq_true (show decide (0 ≤ z ∧ z ≤ n) = true from m)
    exact q z this.1 this.2
  | _ => cases m
end

/-! ### tables of ints: a list of rows -/
def rowO (r : Addr × List Int) : Addr × HO := (r.1, .lst (r.2.map V.int))
def tabO (t : Addr) (rows : List (Addr × List Int)) : Own := (t, .lst (rows.map fun r => V.ref r.1)) :: rows.map rowO
theorem Chg.row {r : Addr × List Int} {zs : List Int} {O : Own} : ∀ {rows : List (Addr × List Int)} {k : Nat}, rows[k]? = some r → Chg (rows.map rowO ++ O) r.1 (.lst (r.2.map V.int)) (.lst (zs.map V.int)) ((rows.set k (r.1, zs)).map rowO ++ O)
  | [], k, h => by simp at h
  | x :: rows, 0, h => by
    have e : x = r := Option.some.inj h
    subst e
    exact .hd
  | x :: rows, k + 1, h => .tl (Chg.row (rows := rows) (k := k) h)
theorem rows_ref {r : Addr × List Int} {zs : List Int} : ∀ {rows : List (Addr × List Int)} {k : Nat}, rows[k]? = some r → (rows.set k (r.1, zs)).map (fun r => V.ref r.1) = rows.map fun r => V.ref r.1
  | [], k, h => by simp at h
  | x :: rows, 0, h => by
    have e : x = r := Option.some.inj h
    subst e
    rfl
  | x :: rows, k + 1, h => by
    have := rows_ref (rows := rows) (k := k) (zs := zs) h
    show V.ref x.1 :: (rows.set k (r.1, zs)).map (fun r => V.ref r.1) = _
    rw [this]
    rfl
section
variable {K : PySem.W.Frag} {σ : L2.St} {F : Hp} {O O' : Own} {H : Hp} {Q : VK} {t : Addr} {rows : List (Addr × List Int)}
theorem Has.row {r : Addr × List Int} {k : Nat} (hH : Has F (tabO t rows ++ O) H) (hr : rows[k]? = some r) : H r.1 = some (.lst (r.2.map V.int)) :=
  hH.get (List.mem_append_left _ (List.mem_cons_of_mem _ (List.mem_map.mpr ⟨r, List.mem_of_getElem? hr, rfl⟩)))
theorem Has.tab (hH : Has F (tabO t rows ++ O) H) : H t = some (.lst (rows.map fun r => V.ref r.1)) := hH.get (List.mem_append_left _ List.mem_cons_self)
theorem g_ixRow {i : Int} (hH : Has F (tabO t rows ++ O) H) (h0 : 0 ≤ i) (hl : i < rows.length) (q : ∀ r, rows[i.toNat]? = some r → H r.1 = some (.lst (r.2.map V.int)) → Q (.ref r.1) H) : rIxA K (.ref t) (.int i) H Q := by
  have e : i.toNat < rows.length := by omega
  have hr := List.getElem?_eq_getElem e
  refine g_ixL hH.tab (at_n h0 (v := .ref rows[i.toNat].1) ?_) (q _ hr (hH.row hr))
  rw [List.getElem?_map, hr]
  rfl
theorem g_setRow {R : L2.St → Hp → Prop} {r : Addr × List Int} {k : Nat} {j z : Int} (hH : Has F (tabO t rows ++ O) H) (hr : rows[k]? = some r) (h0 : 0 ≤ j) (hl : j < r.2.length) (q : ∀ H', Has F (tabO t (rows.set k (r.1, r.2.set j.toNat z)) ++ O) H' → R σ H') :
    kSet rSetA R σ (.ref r.1) (.int j) (.int z) H := by
  refine g_stI hH (xs := r.2) ?_ h0 hl q
  have c := Chg.row (O := O) (zs := r.2.set j.toNat z) hr
  unfold tabO
  rw [List.cons_append, List.cons_append, rows_ref hr]
  exact .tl c
end

/-! ### the rules with the written part by its name -/
section
variable {X : Cx}
theorem op_addK (K : PySem.W.Frag) (e : X.K = K := by rfl) : OpR X (binaryOp .Add) (rAdd K) := by subst e; exact op_addA
theorem op_eqK (K : PySem.W.Frag) (hu : X.A.units + 64 < cLine) (e : X.K = K := by rfl) : OpR X (compareOp .Eq) (rEqA K) := by subst e; exact op_eqA hu
theorem op_neK (K : PySem.W.Frag) (hu : X.A.units + 64 < cLine) (e : X.K = K := by rfl) : OpR X (compareOp .NotEq) (rNeA K) := by subst e; exact op_neA hu
theorem op_inK (K : PySem.W.Frag) (hu : X.A.units + 64 < cLine) (hu' : X.A.units + 65 < cLine) (e : X.K = K := by rfl) : OpR X (compareOp .In) (rInA K) := by subst e; exact op_inA hu hu'
theorem op_notinK (K : PySem.W.Frag) (hu : X.A.units + 64 < cLine) (hu' : X.A.units + 65 < cLine) (e : X.K = K := by rfl) : OpR X (compareOp .NotIn) (rNotInA K) := by subst e; exact op_notinA hu hu'
theorem ix_dict (hu : X.A.units + 1 < cLine) : IxR X rIxD := by
  intro value slice pins s σ H x y v u Q I rx ry h hs
  obtain ⟨a, z, rfl, g, q⟩ := h
  cases rx
  have hT := dict_typeIs I g
  have fin : wpAny (model X.prog X.w) X.A (subscripted slice false (.ref a) u) (fun r s₃ => wpAny (model X.prog X.w) X.A (letTemporaryGo value (.ref a) r >>= fun _ => pure r) (EP X pins σ Q) X.xe s₃) X.xe s := by
    rw [hs]
    exact wpAny_operating (wpAny_mono (d_getItem hu I g ry (Q := fun r s' => EP X pins σ Q r s') fun w' s3 I3 rw' => ⟨z, H, I3, rw', q⟩) (fun r s₃ h₃ => wpAny_bind (wpAny_letTemporaryGo (wpAny_pure h₃))) fun _ _ x => x)
  unfold subscriptTail
  refine wpAny_bind ?_
  rw [getitemInPython_of_ne hT.not_modules]
  refine wpAny_bind (wpAny_specialOf hT PySem.F.slot_dict_getitem.lookup ?_)
  first
    | exact wpAny_pure (wpAny_bind fin)
    | exact wpAny_bind (wpAny_pure (wpAny_bind fin))
    | exact wpAny_bind fin
theorem ix_K (K : PySem.W.Frag) (hu : X.A.units + 1 < cLine) (e : X.K = K := by rfl) : IxR X (rIxA K) := by subst e; exact ix_seq.or (ix_dict hu)
theorem cr_lenK (K : PySem.W.Frag) (e : X.K = K := by rfl) : CallR X (.builtin "len") (rLen K) := by subst e; exact cr_len
theorem cr_listK (K : PySem.W.Frag) (e : X.K = K := by rfl) : CallR X (.type "list") (rListOf K) := by subst e; exact cr_listOf
theorem cr_tupleK (K : PySem.W.Frag) (e : X.K = K := by rfl) : CallR X (.type "tuple") (rTupleOf K) := by subst e; exact cr_tupleOf
theorem sl_K (K : PySem.W.Frag) (e : X.K = K := by rfl) : SlR X (rSlL K) := by subst e; exact sl_list
theorem k_bm {ex : Expr} {T : String} {r : V → List V → Hp → VK → Prop} {to : TE} {t : TA} (K : PySem.W.Frag) (h : PE X ex (tBM X.K T r to t)) (e : X.K = K := by rfl) : PE X ex (tBM K T r to t) := by subst e; exact h
theorem k_bm0 {ex : Expr} {T : String} {r : V → List V → Hp → VK → Prop} {to : TE} (K : PySem.W.Frag) (h : PE X ex (tBM0 X.K T r to)) (e : X.K = K := by rfl) : PE X ex (tBM0 K T r to) := by subst e; exact h
theorem k_rev {ex : Expr} {to : TE} (K : PySem.W.Frag) (h : PE X ex (tRevL X.K to)) (e : X.K = K := by rfl) : PE X ex (tRevL K to) := by subst e; exact h
theorem k_il {tg l : Expr} {tl : TE} (K : PySem.W.Frag) (h : PI X tg l (iList X.K tl)) (e : X.K = K := by rfl) : PI X tg l (iList K tl) := by subst e; exact h
theorem k_gt {tg : Expr} {n : Nat} {t : TGs} (K : PySem.W.Frag) (h : PG X tg (gTup X.K n t)) (e : X.K = K := by rfl) : PG X tg (gTup K n t) := by subst e; exact h
end
theorem g_start {t : TS} {D : Ends} {σ σ' : L2.St} {H : Hp} (e : σ = σ') (h : t D σ' H) : t D σ H := by subst e; exact h

theorem Has.argFree {H H' : Hp} {a D : Addr} {o : HO} {O : Own} (h : Has (rm H a) ((D, o) :: O) H') (m : a ∈ O.map (·.1)) : H D = none := by
  have nd : D ∉ O.map (·.1) ∧ (O.map (·.1)).Nodup := List.nodup_cons.mp (by have := h.nd; rw [List.map_cons] at this; exact this)
  have e := h.free
  rw [rm_ne (fun z => nd.1 (by rw [z]; exact m))] at e
  exact e

theorem Has.but2 {F H H' : Hp} {O O' : Own} {a p : Addr} {o o' op : HO} (h : Has F O H) (c : Chg O a o o' O') (hb : But a H H') (e : H' a = some o') (n : H p = none) (ep : H' p = some op) : Has F ((p, op) :: O') H' := by
  have h' := h.but c hb e
  refine ⟨h'.same, fun q hq => ?_, ?_⟩
  · rcases List.mem_cons.mp hq with rfl | hq
    · exact ⟨h.same.free n, ep⟩
    · exact h'.own q hq
  · rw [List.map_cons]
    refine List.nodup_cons.mpr ⟨fun m => ?_, h'.nd⟩
    rw [c.fst] at m
    obtain ⟨q, hq, e'⟩ := List.mem_map.mp m
    have z := (h.own q hq).2
    rw [e', n] at z
    cases z

theorem Has.mono {F F' H : Hp} {O : Own} (h : Has F O H) (s : Same F' F) : Has F' O H := ⟨s.trans h.same, fun q hq => ⟨s.free (h.own q hq).1, (h.own q hq).2⟩, h.nd⟩
theorem same_rm {F H : Hp} {a : Addr} (s : Same F H) (n : F a = none) : Same F (rm H a) := fun b u q => by
  rw [rm_ne (ne_of_none q n)]
  exact s b u q
theorem take_foldl {α β : Type} {f : β → α → β} {z : β} {l : List α} {i : Nat} {x : α} (h : l[i]? = some x) : (l.take (i + 1)).foldl f z = f ((l.take i).foldl f z) x := by
  rw [List.take_add_one, h, List.foldl_append]
  rfl

/-! ### isinstance -/
def rIsA (K : PySem.W.Frag) : List V → Hp → VK → Prop := fun xs H Q => rIsi K xs H Q ∨ rIsiT K xs H Q
theorem cr_isK {X : Cx} (K : PySem.W.Frag) (e : X.K = K := by rfl) : CallR X (.builtin "isinstance") (rIsA K) := by
  subst e
  intro pins s σ H xs us Q I r h
  rcases h with h | h
  · exact call_isi pins s σ H xs us Q I r h
  · exact call_isiT pins s σ H xs us Q I r h
theorem g_is {K : PySem.W.Frag} {H : Hp} {Q : VK} {x : V} {t n : String} {b : Bool} (ty : TyX K H x (.type t)) (e : kitB t n = some b) (q : Q (.bl b) H) : rIsA K [x, .ty n] H Q := .inl ⟨x, .ty n, _, _, b, rfl, .ty n, ty, kit_ty e, q⟩
theorem g_is2 {K : PySem.W.Frag} {H : Hp} {Q : VK} {x : V} {t n m : String} {a b : Bool} {tp : Addr} (h : H tp = some (.tup [.ty n, .ty m])) (ty : TyX K H x (.type t)) (ea : kitB t n = some a) (eb : kitB t m = some b) (q : Q (.bl (a || b)) H) : rIsA K [x, .ref tp] H Q := by
  refine .inr ⟨x, tp, _, _, _, a || b, rfl, h, .cons (.ty n) (.cons (.ty m) .nil), ty, ?_, q⟩
  refine kitAny_cons (kit_ty ea) (fun z => ?_) (fun z => by rw [z]; rfl)
  refine kitAny_cons (kit_ty eb) (fun y => ?_) (fun y => by rw [z, y]; rfl)
  rw [z, y]
  exact kitAny_nil
theorem kit_list_list : kitB "list" "list" = some true := by decide +kernel
theorem kit_list_tuple : kitB "list" "tuple" = some false := by decide +kernel
theorem kit_list_dict : kitB "list" "dict" = some false := by decide +kernel
theorem kit_list_int : kitB "list" "int" = some false := by decide +kernel
theorem kit_list_bool : kitB "list" "bool" = some false := by decide +kernel
theorem kit_list_str : kitB "list" "str" = some false := by decide +kernel
theorem kit_tuple_list : kitB "tuple" "list" = some false := by decide +kernel
theorem kit_tuple_tuple : kitB "tuple" "tuple" = some true := by decide +kernel
theorem kit_tuple_dict : kitB "tuple" "dict" = some false := by decide +kernel
theorem kit_tuple_int : kitB "tuple" "int" = some false := by decide +kernel
theorem kit_tuple_bool : kitB "tuple" "bool" = some false := by decide +kernel
theorem kit_tuple_str : kitB "tuple" "str" = some false := by decide +kernel
theorem kit_dict_list : kitB "dict" "list" = some false := by decide +kernel
theorem kit_dict_tuple : kitB "dict" "tuple" = some false := by decide +kernel
theorem kit_dict_dict : kitB "dict" "dict" = some true := by decide +kernel
theorem kit_dict_int : kitB "dict" "int" = some false := by decide +kernel
theorem kit_dict_bool : kitB "dict" "bool" = some false := by decide +kernel
theorem kit_dict_str : kitB "dict" "str" = some false := by decide +kernel
theorem kit_int_list : kitB "int" "list" = some false := by decide +kernel
theorem kit_int_tuple : kitB "int" "tuple" = some false := by decide +kernel
theorem kit_int_dict : kitB "int" "dict" = some false := by decide +kernel
theorem kit_int_int : kitB "int" "int" = some true := by decide +kernel
theorem kit_int_bool : kitB "int" "bool" = some false := by decide +kernel
theorem kit_int_str : kitB "int" "str" = some false := by decide +kernel
theorem kit_bool_list : kitB "bool" "list" = some false := by decide +kernel
theorem kit_bool_tuple : kitB "bool" "tuple" = some false := by decide +kernel
theorem kit_bool_dict : kitB "bool" "dict" = some false := by decide +kernel
theorem kit_bool_int : kitB "bool" "int" = some true := by decide +kernel
theorem kit_bool_bool : kitB "bool" "bool" = some true := by decide +kernel
theorem kit_bool_str : kitB "bool" "str" = some false := by decide +kernel
theorem kit_str_list : kitB "str" "list" = some false := by decide +kernel
theorem kit_str_tuple : kitB "str" "tuple" = some false := by decide +kernel
theorem kit_str_dict : kitB "str" "dict" = some false := by decide +kernel
theorem kit_str_int : kitB "str" "int" = some false := by decide +kernel
theorem kit_str_bool : kitB "str" "bool" = some false := by decide +kernel
theorem kit_str_str : kitB "str" "str" = some true := by decide +kernel
section
variable {K : PySem.W.Frag} {H : Hp} {Q : VK}
theorem is_list_list {a : Addr} {xs : List V} (h : H a = some (.lst xs)) (q : Q (.bl true) H) : rIsA K [.ref a, .ty "list"] H Q := g_is (.base (.lst h)) kit_list_list q
theorem is_list_tuple {a : Addr} {xs : List V} (h : H a = some (.lst xs)) (q : Q (.bl false) H) : rIsA K [.ref a, .ty "tuple"] H Q := g_is (.base (.lst h)) kit_list_tuple q
theorem is_list_dict {a : Addr} {xs : List V} (h : H a = some (.lst xs)) (q : Q (.bl false) H) : rIsA K [.ref a, .ty "dict"] H Q := g_is (.base (.lst h)) kit_list_dict q
theorem is_list_int {a : Addr} {xs : List V} (h : H a = some (.lst xs)) (q : Q (.bl false) H) : rIsA K [.ref a, .ty "int"] H Q := g_is (.base (.lst h)) kit_list_int q
theorem is_list_bool {a : Addr} {xs : List V} (h : H a = some (.lst xs)) (q : Q (.bl false) H) : rIsA K [.ref a, .ty "bool"] H Q := g_is (.base (.lst h)) kit_list_bool q
theorem is_list_str {a : Addr} {xs : List V} (h : H a = some (.lst xs)) (q : Q (.bl false) H) : rIsA K [.ref a, .ty "str"] H Q := g_is (.base (.lst h)) kit_list_str q
theorem is2_list {a : Addr} {xs : List V} (h : H a = some (.lst xs)) {tp : Addr} (hp : H tp = some (.tup [.ty "list", .ty "tuple"])) (q : Q (.bl true) H) : rIsA K [.ref a, .ref tp] H Q := g_is2 hp (.base (.lst h)) kit_list_list kit_list_tuple q
theorem is_tuple_list {a : Addr} {xs : List V} (h : H a = some (.tup xs)) (q : Q (.bl false) H) : rIsA K [.ref a, .ty "list"] H Q := g_is (.base (.tup h)) kit_tuple_list q
theorem is_tuple_tuple {a : Addr} {xs : List V} (h : H a = some (.tup xs)) (q : Q (.bl true) H) : rIsA K [.ref a, .ty "tuple"] H Q := g_is (.base (.tup h)) kit_tuple_tuple q
theorem is_tuple_dict {a : Addr} {xs : List V} (h : H a = some (.tup xs)) (q : Q (.bl false) H) : rIsA K [.ref a, .ty "dict"] H Q := g_is (.base (.tup h)) kit_tuple_dict q
theorem is_tuple_int {a : Addr} {xs : List V} (h : H a = some (.tup xs)) (q : Q (.bl false) H) : rIsA K [.ref a, .ty "int"] H Q := g_is (.base (.tup h)) kit_tuple_int q
theorem is_tuple_bool {a : Addr} {xs : List V} (h : H a = some (.tup xs)) (q : Q (.bl false) H) : rIsA K [.ref a, .ty "bool"] H Q := g_is (.base (.tup h)) kit_tuple_bool q
theorem is_tuple_str {a : Addr} {xs : List V} (h : H a = some (.tup xs)) (q : Q (.bl false) H) : rIsA K [.ref a, .ty "str"] H Q := g_is (.base (.tup h)) kit_tuple_str q
theorem is2_tuple {a : Addr} {xs : List V} (h : H a = some (.tup xs)) {tp : Addr} (hp : H tp = some (.tup [.ty "list", .ty "tuple"])) (q : Q (.bl true) H) : rIsA K [.ref a, .ref tp] H Q := g_is2 hp (.base (.tup h)) kit_tuple_list kit_tuple_tuple q
theorem is_dict_list {a : Addr} {kvs : List (Key × V)} (h : H a = some (.dK kvs)) (q : Q (.bl false) H) : rIsA K [.ref a, .ty "list"] H Q := g_is (.base (.dK h)) kit_dict_list q
theorem is_dict_tuple {a : Addr} {kvs : List (Key × V)} (h : H a = some (.dK kvs)) (q : Q (.bl false) H) : rIsA K [.ref a, .ty "tuple"] H Q := g_is (.base (.dK h)) kit_dict_tuple q
theorem is_dict_dict {a : Addr} {kvs : List (Key × V)} (h : H a = some (.dK kvs)) (q : Q (.bl true) H) : rIsA K [.ref a, .ty "dict"] H Q := g_is (.base (.dK h)) kit_dict_dict q
theorem is_dict_int {a : Addr} {kvs : List (Key × V)} (h : H a = some (.dK kvs)) (q : Q (.bl false) H) : rIsA K [.ref a, .ty "int"] H Q := g_is (.base (.dK h)) kit_dict_int q
theorem is_dict_bool {a : Addr} {kvs : List (Key × V)} (h : H a = some (.dK kvs)) (q : Q (.bl false) H) : rIsA K [.ref a, .ty "bool"] H Q := g_is (.base (.dK h)) kit_dict_bool q
theorem is_dict_str {a : Addr} {kvs : List (Key × V)} (h : H a = some (.dK kvs)) (q : Q (.bl false) H) : rIsA K [.ref a, .ty "str"] H Q := g_is (.base (.dK h)) kit_dict_str q
theorem is2_dict {a : Addr} {kvs : List (Key × V)} (h : H a = some (.dK kvs)) {tp : Addr} (hp : H tp = some (.tup [.ty "list", .ty "tuple"])) (q : Q (.bl false) H) : rIsA K [.ref a, .ref tp] H Q := g_is2 hp (.base (.dK h)) kit_dict_list kit_dict_tuple q
theorem is_int_list {i : Int} (q : Q (.bl false) H) : rIsA K [.int i, .ty "list"] H Q := g_is (.base (.int i)) kit_int_list q
theorem is_int_tuple {i : Int} (q : Q (.bl false) H) : rIsA K [.int i, .ty "tuple"] H Q := g_is (.base (.int i)) kit_int_tuple q
theorem is_int_dict {i : Int} (q : Q (.bl false) H) : rIsA K [.int i, .ty "dict"] H Q := g_is (.base (.int i)) kit_int_dict q
theorem is_int_int {i : Int} (q : Q (.bl true) H) : rIsA K [.int i, .ty "int"] H Q := g_is (.base (.int i)) kit_int_int q
theorem is_int_bool {i : Int} (q : Q (.bl false) H) : rIsA K [.int i, .ty "bool"] H Q := g_is (.base (.int i)) kit_int_bool q
theorem is_int_str {i : Int} (q : Q (.bl false) H) : rIsA K [.int i, .ty "str"] H Q := g_is (.base (.int i)) kit_int_str q
theorem is2_int {i : Int} {tp : Addr} (hp : H tp = some (.tup [.ty "list", .ty "tuple"])) (q : Q (.bl false) H) : rIsA K [.int i, .ref tp] H Q := g_is2 hp (.base (.int i)) kit_int_list kit_int_tuple q
theorem is_bool_list {b : Bool} (q : Q (.bl false) H) : rIsA K [.bl b, .ty "list"] H Q := g_is (.base (.bl b)) kit_bool_list q
theorem is_bool_tuple {b : Bool} (q : Q (.bl false) H) : rIsA K [.bl b, .ty "tuple"] H Q := g_is (.base (.bl b)) kit_bool_tuple q
theorem is_bool_dict {b : Bool} (q : Q (.bl false) H) : rIsA K [.bl b, .ty "dict"] H Q := g_is (.base (.bl b)) kit_bool_dict q
theorem is_bool_int {b : Bool} (q : Q (.bl true) H) : rIsA K [.bl b, .ty "int"] H Q := g_is (.base (.bl b)) kit_bool_int q
theorem is_bool_bool {b : Bool} (q : Q (.bl true) H) : rIsA K [.bl b, .ty "bool"] H Q := g_is (.base (.bl b)) kit_bool_bool q
theorem is_bool_str {b : Bool} (q : Q (.bl false) H) : rIsA K [.bl b, .ty "str"] H Q := g_is (.base (.bl b)) kit_bool_str q
theorem is2_bool {b : Bool} {tp : Addr} (hp : H tp = some (.tup [.ty "list", .ty "tuple"])) (q : Q (.bl false) H) : rIsA K [.bl b, .ref tp] H Q := g_is2 hp (.base (.bl b)) kit_bool_list kit_bool_tuple q
theorem is_str_list {z : Str} (q : Q (.bl false) H) : rIsA K [.str z, .ty "list"] H Q := g_is (.base (.str z)) kit_str_list q
theorem is_str_tuple {z : Str} (q : Q (.bl false) H) : rIsA K [.str z, .ty "tuple"] H Q := g_is (.base (.str z)) kit_str_tuple q
theorem is_str_dict {z : Str} (q : Q (.bl false) H) : rIsA K [.str z, .ty "dict"] H Q := g_is (.base (.str z)) kit_str_dict q
theorem is_str_int {z : Str} (q : Q (.bl false) H) : rIsA K [.str z, .ty "int"] H Q := g_is (.base (.str z)) kit_str_int q
theorem is_str_bool {z : Str} (q : Q (.bl false) H) : rIsA K [.str z, .ty "bool"] H Q := g_is (.base (.str z)) kit_str_bool q
theorem is_str_str {z : Str} (q : Q (.bl true) H) : rIsA K [.str z, .ty "str"] H Q := g_is (.base (.str z)) kit_str_str q
theorem is2_str {z : Str} {tp : Addr} (hp : H tp = some (.tup [.ty "list", .ty "tuple"])) (q : Q (.bl false) H) : rIsA K [.str z, .ref tp] H Q := g_is2 hp (.base (.str z)) kit_str_list kit_str_tuple q
end
section
variable {K : PySem.W.Frag} {σ : L2.St} {F : Hp} {O O' : Own} {H : Hp} {Q : VK} {x y v : V}
theorem g_neB {i j : Bool} (q : Q (.bl (!decide (i = j))) H) : rNeA K (.bl i) (.bl j) H Q := .inl ⟨rfl, by rw [dec_bl, Bool.beq_eq_decide_eq]; exact q⟩
theorem g_eqB {i j : Bool} (q : Q (.bl (decide (i = j))) H) : rEqA K (.bl i) (.bl j) H Q := .inl ⟨rfl, by rw [dec_bl, Bool.beq_eq_decide_eq]; exact q⟩
/-! ### insert, max, the last item -/
def rInsert : V → List V → Hp → VK → Prop := fun x vs H Q => ∃ (l : Addr) (xs : List V) (i : Int) (y : V), x = .ref l ∧ vs = [.int i, y] ∧ H l = some (.lst xs) ∧ xs.length < sizeLine ∧ 0 ≤ i ∧ i < 2 ^ 63 ∧ Q .non (upd H l (.lst (xs.take i.toNat ++ [y] ++ xs.drop i.toNat)))
theorem mt_insertA {X : Cx} : MtR X "list.insert" rInsert := mt_insert
theorem g_insert {a : Addr} {xs : List V} {i : Int} (hH : Has F O H) (c : Chg O a (.lst xs) (.lst (xs.take i.toNat ++ [y] ++ xs.drop i.toNat)) O') (hl : xs.length < sizeLine) (h0 : 0 ≤ i) (h1 : i < 2 ^ 63) (q : ∀ H', Has F O' H' → Q .non H') : rInsert (.ref a) [.int i, y] H Q :=
  ⟨a, xs, i, y, rfl, rfl, hH.get c.mem, hl, h0, h1, q _ (hH.put c)⟩
theorem cr_maxK {X : Cx} (K : PySem.W.Frag) (hc : X.calm = true) (e : X.K = K := by rfl) : CallR X (.builtin "max") (rMax K) := by subst e; exact cr_max hc
theorem g_max {a : Addr} {ns : List Int} (h : H a = some (.lst (ns.map V.int))) (hl : 0 < ns.length) (q : ∀ m, m ∈ ns → (∀ y, y ∈ ns → y ≤ m) → Q (.int m) H) : rMax K [.ref a] H Q := ⟨a, ns, rfl, SqL.of h, hl, q⟩
theorem g_ixLast {a : Addr} {xs : List V} {v : V} (h : H a = some (.lst xs)) (hl : xs.getLast? = some v) (q : Q v H) : rIxA K (.ref a) (.int (-1)) H Q := by
  obtain ⟨ys, rfl⟩ := List.getLast?_eq_some_iff.mp hl
  exact g_ixL h (atI_last ys v) q
end
theorem cutV_nat (xs : List V) (a b : Nat) : cutV xs (some (a : Int)) (some (b : Int)) = (xs.drop a).take (b - a) := by
  unfold cutV
  rw [HT.sIx_nat, HT.sIx_nat]
  by_cases h : a ≤ xs.length
  · rw [Nat.min_eq_left h]
    rcases Nat.le_total b xs.length with hb | hb
    · rw [Nat.min_eq_left hb]
    · rw [Nat.min_eq_right hb, List.take_of_length_le (by rw [List.length_drop]; omega), List.take_of_length_le (by rw [List.length_drop]; omega)]
  · rw [Nat.min_eq_right (show xs.length ≤ a by omega), List.drop_of_length_le (Nat.le_refl _), List.drop_of_length_le (show xs.length ≤ a by omega), List.take_nil, List.take_nil]
theorem cutV_from (xs : List V) (a : Nat) : cutV xs (some (a : Int)) none = xs.drop a := by
  unfold cutV
  rw [HT.sIx_nat, HT.sIx_none]
  by_cases h : a ≤ xs.length
  · rw [Nat.min_eq_left h, List.take_of_length_le (by rw [List.length_drop]; omega)]
  · rw [Nat.min_eq_right (show xs.length ≤ a by omega), List.drop_of_length_le (Nat.le_refl _), List.drop_of_length_le (show xs.length ≤ a by omega), List.take_nil]
theorem cutV_to (xs : List V) (b : Nat) : cutV xs none (some (b : Int)) = xs.take b := by
  unfold cutV
  rw [HT.sIx_none, HT.sIx_nat, List.drop_zero, Nat.sub_zero]
  rcases Nat.le_total b xs.length with hb | hb
  · rw [Nat.min_eq_left hb]
  · rw [Nat.min_eq_right hb, List.take_length, List.take_of_length_le hb]
/-! ### a def that adds to what stands still -/
def Grow (F H F' : Hp) : Prop := Same F F' ∧ ∀ b, H b ≠ none → F' b = F b
theorem Has.grown {F F' H H' : Hp} {O O' : Own} {a : Addr} {o o' : HO} (h : Has F O H) (c : Chg O a o o' O') (hb : But a H H') (g : Grow F H F') (s : Same F' H') (e : H' a = some o') : Has F' O' H' := by
  have h' := h.but c hb e
  refine ⟨s, fun q hq => ⟨?_, (h'.own q hq).2⟩, h'.nd⟩
  rcases c.own h.nd q hq with rfl | ⟨m, _⟩
  · rw [g.2 a (by rw [h.get c.mem]; exact fun z => by cases z)]
    exact (h.own _ c.mem).1
  · rw [g.2 q.1 (by rw [(h.own q m).2]; exact fun z => by cases z)]
    exact (h.own q m).1

section
variable {K : PySem.W.Frag} {H : Hp} {Q : VK}
theorem g_ixVT {a : Addr} {xs : List V} {i : Int} (h : H a = some (.tup xs)) (h0 : 0 ≤ i) (hl : i < xs.length) (q : ∀ v, xs[i.toNat]? = some v → Q v H) : rIxA K (.ref a) (.int i) H Q := by
  have e : i.toNat < xs.length := by omega
  exact g_ixT h (at_n h0 (List.getElem?_eq_getElem e)) (q _ (List.getElem?_eq_getElem e))
theorem is2_non {tp : Addr} (hp : H tp = some (.tup [.ty "list", .ty "tuple"])) (q : Q (.bl false) H) : rIsA K [.non, .ref tp] H Q := g_is2 hp (.base .non) (by decide +kernel : kitB "NoneType" "list" = some false) (by decide +kernel : kitB "NoneType" "tuple" = some false) q
end

theorem i_nf {A B : Prop} (h : A) : if (!false) = true then A else B := by
  show (if true = true then A else B)
  rw [if_pos rfl]
  exact h
theorem i_nt {A B : Prop} (h : B) : if (!true) = true then A else B := by
  show (if false = true then A else B)
  rw [if_neg Bool.false_ne_true]
  exact h

/-- ways that meet: what holds where they meet -/
theorem g_join {t : TS} {D : Ends} {σ : L2.St} {H : Hp} (M : L2.St → Hp → Prop) (h : ∀ σ' H', M σ' H' → D.nx σ' H') (q : (∀ σ' H', M σ' H' → D.nx σ' H') → t D σ H) : t D σ H := q h

/-! ### all that is not owned stands still from now on -/
def rmO (O : Own) (H : Hp) : Hp := fun b => if b ∈ O.map (·.1) then none else H b
section
variable {F H : Hp} {O : Own}
theorem Has.re (h : Has F O H) : Has (rmO O H) O H := by
  refine ⟨fun b u e => ?_, fun p hp => ⟨if_pos (List.mem_map.mpr ⟨p, hp, rfl⟩), (h.own p hp).2⟩, h.nd⟩
  unfold rmO at e
  split at e
  · cases e
  · exact e
theorem Has.reF (h : Has F O H) : Same F (rmO O H) := fun b u e => by
  unfold rmO
  rw [if_neg]
  · exact h.same b u e
  · intro m
    obtain ⟨p, hp, rfl⟩ := List.mem_map.mp m
    rw [(h.own p hp).1] at e
    cases e
theorem Has.re_of (h : Has F O H) {b : Addr} {u : HO} (e : H b = some u) (ne : ∀ p ∈ O, p.2 ≠ u) : rmO O H b = some u := by
  unfold rmO
  rw [if_neg]
  · exact e
  · intro m
    obtain ⟨p, hp, rfl⟩ := List.mem_map.mp m
    rw [(h.own p hp).2] at e
    exact ne p hp (Option.some.inj e)
end

section
variable {K : PySem.W.Frag} {σ : L2.St} {F : Hp} {O O' : Own} {H : Hp} {Q : VK} {x y v : V} {ta te : TE}
theorem g_ixDI {a : Addr} {kvs : List (Key × V)} {i : Int} (h : H a = some (.dK kvs)) (hv : valV kvs (.inl i) = some v) (q : Q v H) : rIxA K (.ref a) (.int i) H Q := .inr ⟨a, v, rfl, hv ▸ DGet.k (k := .inl i) h, q⟩
theorem g_ixDS {a : Addr} {kvs : List (Key × V)} {i : Str} (h : H a = some (.dK kvs)) (hv : valV kvs (.inr i) = some v) (q : Q v H) : rIxA K (.ref a) (.str i) H Q := .inr ⟨a, v, rfl, hv ▸ DGet.k (k := .inr i) h, q⟩
/-! ### [*xs, y]; if xs:; dict(pairs) -/
def kStar (K : PySem.W.Frag) (t : TA) (σ : L2.St) (x : V) (H : Hp) (Q : List V → Hp → Prop) : Prop := ∃ p xs, x = V.ref p ∧ (SqT K H p xs ∨ SqL K H p xs) ∧ t σ H fun ys H2 => Q (xs ++ ys) H2
theorem g_star {t : TA} {QA : List V → Hp → Prop} (q : te σ H fun x H1 => kStar K t σ x H1 QA) : StX.tStar K te t σ H QA := q
theorem g_kstarL {t : TA} {QA : List V → Hp → Prop} {a : Addr} {xs : List V} (h : H a = some (.lst xs)) (q : t σ H fun ys H2 => QA (xs ++ ys) H2) : kStar K t σ (.ref a) H QA := ⟨a, xs, rfl, .inr (SqL.of h), q⟩
theorem g_kstarT {t : TA} {QA : List V → Hp → Prop} {a : Addr} {xs : List V} (h : H a = some (.tup xs)) (q : t σ H fun ys H2 => QA (xs ++ ys) H2) : kStar K t σ (.ref a) H QA := ⟨a, xs, rfl, .inl (SqT.of h), q⟩
theorem k_star {X : Cx} {es : List Expr} {t : TA} {ex : Expr} {p : Pos} (K : PySem.W.Frag) (h : PA X (.Starred ex p :: es) (StX.tStar X.K te t)) (e : X.K = K := by rfl) : PA X (.Starred ex p :: es) (StX.tStar K te t) := by subst e; exact h
def kTru (K : PySem.W.Frag) (x : V) (H : Hp) (R : Bool → Hp → Prop) : Prop := ∃ k, TruV K x H k ∧ R k H
def tTru (K : PySem.W.Frag) (te : TE) : TT := fun σ H R => te σ H fun x H1 => kTru K x H1 R
theorem pt_tru {X : Cx} {a : Expr} (K : PySem.W.Frag) (ha : PE X a ta) (he : ∀ whole, isTrue a X.env whole = (do let v ← whole; standAt a.pos; holding [v] (truthy v)) := by intro _; rfl) (e : X.K = K := by rfl) : PT X a (tTru K ta) := by subst e; exact pt_truth ha he
theorem g_tru {R : Bool → Hp → Prop} (q : te σ H fun x H1 => kTru K x H1 R) : tTru K te σ H R := q
theorem g_truL {R : Bool → Hp → Prop} {a : Addr} {xs : List V} (h : H a = some (.lst xs)) (q : R (!xs.isEmpty) H) : kTru K (.ref a) H R := ⟨_, .inl ⟨xs, SqL.of h, rfl⟩, q⟩
def rDictP (K : PySem.W.Frag) : List V → Hp → VK → Prop := fun xs H Q => ∃ (a : Addr) (ps : List Addr) (kvs : List (Key × V)), xs = [.ref a] ∧ SqL K H a (ps.map V.ref) ∧ Paired (fun p kv => SqT K H p [kV kv.1, kv.2]) ps kvs ∧ ∀ p, H p = none → Q (.ref p) (upd H p (.dK (mergeK [] kvs)))
theorem cr_dictP {X : Cx} (K : PySem.W.Frag) (hc : X.calm = true) (e : X.K = K := by rfl) : CallR X (.type "dict") (rDictP K) := by subst e; exact call_dictP hc
theorem g_dictP {a : Addr} {ps : List Addr} {kvs : List (Key × V)} (h : H a = some (.lst (ps.map V.ref))) (hp : Paired (fun p kv => SqT K H p [kV kv.1, kv.2]) ps kvs) (hH : Has F O H) (q : ∀ p H', H p = none → Has F ((p, .dK (mergeK [] kvs)) :: O) H' → Q (.ref p) H') : rDictP K [.ref a] H Q :=
  ⟨a, ps, kvs, rfl, SqL.of h, hp, fun p n => q p _ n (hH.new n)⟩
end
/-! ### data without lists; tuples of ints; pairs to a dict -/
mutual
def noL : PyData → Bool
  | .list _ => false
  | .dict _ => false
  | .tuple ds => noLs ds
  | _ => true
def noLs : List PyData → Bool
  | [] => true
  | d :: ds => noL d && noLs ds
end
theorem noLs_mem : ∀ {ds : List PyData}, (∀ d ∈ ds, noL d = true) → noLs ds = true
  | [], _ => by rw [noLs]
  | d :: ds, h => by
    rw [noLs, h d List.mem_cons_self, noLs_mem fun x hx => h x (List.mem_cons_of_mem _ hx)]
    rfl
mutual
theorem Dq.keep {H H' : Hp} (e : ∀ b xs, H b = some (.tup xs) → H' b = some (.tup xs)) : ∀ (d : PyData) (v : V), noL d = true → Dq H v d → Dq H' v d
  | _, _, _, .non => .non
  | _, _, _, .bl b => .bl b
  | _, _, _, .int i => .int i
  | _, _, _, .str x => .str x
  | .list ds, _, n, .lst s a => by rw [noL] at n; cases n
  | .tuple ds, _, n, .tup s a => .tup (e _ _ s) (DqAll.keep e ds _ (by rw [noL] at n; exact n) a)
theorem DqAll.keep {H H' : Hp} (e : ∀ b xs, H b = some (.tup xs) → H' b = some (.tup xs)) : ∀ (ds : List PyData) (vs : List V), noLs ds = true → DqAll H vs ds → DqAll H' vs ds
  | _, _, _, .nil => .nil
  | d :: ds, _, n, .cons h t => by
    rw [noLs, Bool.and_eq_true] at n
    exact .cons (Dq.keep e d _ n.1 h) (DqAll.keep e ds _ n.2 t)
end
theorem Has.keep {F H : Hp} {O : Own} (h : Has F O H) (ho : ∀ p ∈ O, ∀ xs, p.2 ≠ .tup xs) {ds : List PyData} {vs : List V} (n : ∀ d ∈ ds, noL d = true) (d : DqAll H vs ds) : DqAll (rmO O H) vs ds :=
  d.keep (fun _ _ e => h.re_of e fun p hp => ho p hp _) _ _ (noLs_mem n)
theorem eqv_tints (xs ys : List Int) : PyData.eqv (.tuple (xs.map PyData.int)) (.tuple (ys.map PyData.int)) = decide (xs = ys) := by
  rw [PyData.eqv, eqvAll_ints]
theorem eqv_tstrs (xs ys : List Str) : PyData.eqv (.tuple (xs.map PyData.str)) (.tuple (ys.map PyData.str)) = decide (xs = ys) := by
  rw [PyData.eqv, eqvAll_strs]
theorem ixN_last (n : Nat) : ixN (n + 1) (-1) = some n := by
  unfold ixN
  rw [if_neg (by decide), if_pos (by omega)]
  congr 1
  omega
theorem valV_merge (i : Key) : ∀ (kvs acc : List (Key × V)), valV (mergeK acc kvs) i = (valV kvs.reverse i).or (valV acc i)
  | [], acc => by simp [mergeK, valV]
  | p :: r, acc => by
    show valV (mergeK (putK acc p.1 p.2) r) i = _
    rw [valV_merge i r, valV_put, List.reverse_cons]
    unfold valV
    rw [List.find?_append]
    cases h : r.reverse.find? fun kv => decide (kv.1 = i) with
    | some x => simp
    | none =>
      by_cases e : p.1 = i
      · simp [List.find?_cons, e]
      · rw [if_neg (fun z => e z.symm)]; simp [List.find?_cons, e]
def kLcR2 (g : TG) (tt : TT) (te : TE) (ws : List Nat) (σ : L2.St) (vs : List V) (H : Hp) (Q : VK) : Prop := ∃ i j : Int, vs = [.int i, .int j] ∧ (-(2 ^ 62) ≤ i ∧ i < 2 ^ 62 ∧ -(2 ^ 62) ≤ j ∧ j < 2 ^ 62) ∧ kLc (Itr i (j - i).toNat) g tt te ws σ H Q
section
variable {K : PySem.W.Frag} {σ : L2.St} {F : Hp} {O O' : Own} {H : Hp} {Q : VK} {x y v : V} {ta te : TE} {g : TG}
theorem g_lcR2 {ta : TA} {tt : TT} {vs : List Nat} (q : ta σ H fun xs H1 => kLcR2 g tt te vs σ xs H1 Q) : tLc (iRng2 ta) g tt te vs σ H Q := q
theorem k_lcR2 {lo j : Int} {tt : TT} {vs : List Nat} (h0 : -(2 ^ 62) ≤ lo ∧ lo < 2 ^ 62 ∧ -(2 ^ 62) ≤ j ∧ j < 2 ^ 62) (hH : Has F O H) (S : Nat → List V → Hp → Own → Prop) (h0 : S 0 [] F O)
    (hs : ∀ i acc F O D H, i < (j - lo).toNat → S i acc F O → Has F ((D, .lst acc) :: O) H → g (.int (lo + (i : Nat))) (wipe σ vs) H fun σ2 H2 => wipe σ2 vs = wipe σ vs ∧ tt σ2 H2 fun b H3 => if b = true then te σ2 H3 fun y H4 => kTurn D (kNx S i D) y H4 else kNx S i D H3)
    (hd : ∀ acc F O D H, S (j - lo).toNat acc F O → Has F ((D, .lst acc) :: O) H → Q (.ref D) H) : kLcR2 g tt te vs σ [.int lo, .int j] H Q := by
  refine ⟨lo, j, rfl, by assumption, k_lc hH (j - lo).toNat S h0 (fun i acc F O D H hi s hh => hi) (fun acc F O D H s hh => Nat.le_refl _) (fun i x acc F O D H H' hi y s hh => ?_) hd⟩
  obtain ⟨e, y⟩ := y
  subst e y
  exact hs i acc F O D _ hi s hh
theorem g_truT {R : Bool → Hp → Prop} {a : Addr} {xs : List V} (h : H a = some (.tup xs)) (q : R (!xs.isEmpty) H) : kTru K (.ref a) H R := ⟨_, .inr (.inl ⟨xs, SqT.of h, rfl⟩), q⟩
end
/-! ### list.extend by a list, by a tuple -/
theorem ext_tup (l : Addr) (items : Array Value) (n : Nat) (b : Addr) (items2 : Array Value) (n2 : Nat) (d0 : Option Addr) (sl : Array (Option Value)) (hs0 : ¬(!items.isEmpty && Builtin.List.listTooLong (items.size + items2.size)) = true) (hs1 : items.size ≤ sizeLine) (hs2 : items.size + items2.size ≤ sizeLine + 1) :
    Meets (Builtin.«list.extend» ⟨[.ref l, .ref b], []⟩) (fun _ R s => s.heap.get? l = some { cls := .type "list", dict := none, data := .seq items n, slots := #[] } ∧ s.heap.get? b = some { cls := .type "tuple", dict := d0, data := .seq items2 n2, slots := sl } ∧ R (.ok (.ret Value.none)) { s with heap := s.heap.update l (Obj.mapSeq fun x => x ++ items2), toks := s.toks }) :=
  .of_wp fun prog w A R s h => by
    obtain ⟨hp, g, d, tk, os⟩ := s
    obtain ⟨hl, hb, h⟩ := h
    have f1 := PySem.AutoSeq1.sub_tuple_tuple
    have f2 := PySem.AutoSeq1.sub_list_list
    have f3 := PySem.AutoSeq1.sub_tuple_list
    have f4 := PySem.AutoSeq1.sub_list_tuple
    have hz' : (items ++ items2).size ≤ sizeLine + 1 := by rw [Array.size_append]; exact hs2
    wp_walk using (wpAny_updateSeq hl rfl (hz := hs1) (_hz' := hz')), PySem.AutoSeq1.wpAny_loadPart' hl, PySem.AutoSeq1.wpAny_loadPart' hb
    exact ⟨_, rfl, h⟩
section
variable {X : Cx}
def rExtendT (K : PySem.W.Frag) : V → List V → Hp → VK → Prop := fun x vs H Q => ∃ l b xs zs, x = .ref l ∧ vs = [.ref b] ∧ H l = some (.lst xs) ∧ SqT K H b zs ∧ xs.length + zs.length ≤ sizeLine ∧ Q .non (upd H l (.lst (xs ++ zs)))
theorem mt_extendT : MtM X "list.extend" (rExtendT X.K) := by
  intro pins s σ H x vs v us Q I rx rv h
  obtain ⟨l, b, xs, zs, rfl, rfl, hH, hB, hz, q⟩ := h
  cases rx
  obtain ⟨u, rfl, ru⟩ := rv.one
  cases ru
  obtain ⟨z, its, n, r, hl, e⟩ := I.lstM hH
  obtain ⟨its2, r2, ⟨⟨cl, dc, da, so⟩, e2, hc, n2, hd⟩, z2⟩ := I.tuple hB
  have hc : cl = .type "tuple" := hc
  have hd : da = .seq its2.toArray n2 := hd
  subst hc hd
  have hl2 := r2.length
  have hsz : its.toArray.size + its2.toArray.size ≤ sizeLine := by rw [List.size_toArray, List.size_toArray]; omega
  have hlong : ¬ (!its.toArray.isEmpty && Builtin.List.listTooLong (its.toArray.size + its2.toArray.size)) = true := by
    rw [notLongL hsz, Bool.and_false]
    exact Bool.false_ne_true
  refine call_meets F.slot_list_extend ⟨_, e, rfl⟩ F.entry_list_extend (F.args_list_extend_2 _ _) (ext_tup l its.toArray n b its2.toArray n2 dc so hlong (by rw [List.size_toArray]; omega) (by omega)) ⟨e, e2, ?_⟩
  refine ⟨.non, _, I.lset (its' := its ++ its2) hH e (by simp) (r.append r2) ?_, rfl, q⟩
  rw [List.length_append]
  omega
def rExtendA (K : PySem.W.Frag) : V → List V → Hp → VK → Prop := fun x vs H Q => rExtend x vs H Q ∨ rExtendT K x vs H Q
theorem mt_extendA (K : PySem.W.Frag) (e : X.K = K := by rfl) : MtR X "list.extend" (rExtendA K) := by
  subst e
  intro pins s σ H x vs v us Q I rx rv h
  rcases h with h | h
  · exact mt_extend pins s σ H x vs v us Q I rx rv h
  · exact mt_extendT pins s σ H x vs v us Q I rx rv h
end
section
variable {K : PySem.W.Frag} {F : Hp} {O O' : Own} {H : Hp} {Q : VK}
theorem g_extL {a b : Addr} {xs zs : List V} (hH : Has F O H) (hb : H b = some (.lst zs)) (c : Chg O a (.lst xs) (.lst (xs ++ zs)) O') (hl : xs.length + zs.length ≤ sizeLine) (q : ∀ H', Has F O' H' → Q .non H') : rExtendA K (.ref a) [.ref b] H Q :=
  .inl ⟨a, b, xs, zs, rfl, rfl, hH.get c.mem, hb, hl, q _ (hH.put c)⟩
theorem g_extT {a b : Addr} {xs zs : List V} (hH : Has F O H) (hb : H b = some (.tup zs)) (c : Chg O a (.lst xs) (.lst (xs ++ zs)) O') (hl : xs.length + zs.length ≤ sizeLine) (q : ∀ H', Has F O' H' → Q .non H') : rExtendA K (.ref a) [.ref b] H Q :=
  .inr ⟨a, b, xs, zs, rfl, rfl, hH.get c.mem, SqT.of hb, hl, q _ (hH.put c)⟩
end
theorem Has.made2 {F H H' : Hp} {O : Own} {p l : Addr} {o u : HO} (h : Has F O H) (np : H p = none) (nl : H l = none) (s : Same H H') (ep : H' p = some o) (el : H' l = some u) (ne : p ≠ l) : Has F ((p, o) :: (l, u) :: O) H' := by
  have h1 := h.made nl s el
  refine ⟨h1.same, fun q hq => ?_, ?_⟩
  · rcases List.mem_cons.mp hq with rfl | hq
    · exact ⟨h.same.free np, ep⟩
    · exact h1.own q hq
  · rw [List.map_cons]
    refine List.nodup_cons.mpr ⟨fun m => ?_, h1.nd⟩
    obtain ⟨q, hq, e⟩ := List.mem_map.mp m
    rcases List.mem_cons.mp hq with rfl | hq
    · exact ne e.symm
    · have := (h.own q hq).2
      rw [e, np] at this
      cases this
end Qk

namespace K01
open PySem PySem.Spec PyProof.Rows L2 Qk
/-! ### the text -/
def topS (i : Nat) : Stmt := PySem.Challenge.pw_partclones_k01_edits_lead_over.main.body.getD i (.Pass ⟨0, 0, 0, 0⟩)
abbrev s_common_lengths : Stmt := topS 4
abbrev n_common_lengths : List Str := ["old", "new", "lengths", "i", "j", "_"]
theorem sc_common_lengths : FnScope n_common_lengths ["old", "new"] (defScope s_common_lengths) := ⟨rfl, rfl, rfl, by decide +kernel, rfl, by decide +kernel, by decide +kernel⟩
abbrev s_matched : Stmt := topS 5
abbrev n_matched : List Str := ["old", "new", "lengths", "pairs", "i", "j"]
theorem sc_matched : FnScope n_matched ["old", "new"] (defScope s_matched) := ⟨rfl, rfl, rfl, by decide +kernel, rfl, by decide +kernel, by decide +kernel⟩
abbrev s_text_edits : Stmt := topS 8
abbrev n_text_edits : List Str := ["old", "new", "edits", "start", "new_start", "i", "j", "removed", "added"]
theorem sc_text_edits : FnScope n_text_edits ["old", "new"] (defScope s_text_edits) := ⟨rfl, rfl, rfl, by decide +kernel, rfl, by decide +kernel, by decide +kernel⟩
abbrev s_follows : Stmt := topS 9
abbrev n_follows : List Str := ["item", "end", "place", "removed", "added"]
theorem sc_follows : FnScope n_follows ["item", "end"] (defScope s_follows) := ⟨rfl, rfl, rfl, by decide +kernel, rfl, by decide +kernel, by decide +kernel⟩
abbrev s_fits : Stmt := topS 10
abbrev n_fits : List Str := ["old", "edit", "place", "removed", "_"]
theorem sc_fits : FnScope n_fits ["old", "edit"] (defScope s_fits) := ⟨rfl, rfl, rfl, by decide +kernel, rfl, by decide +kernel, by decide +kernel⟩
abbrev s_end_of : Stmt := topS 11
abbrev n_end_of : List Str := ["edit"]
theorem sc_end_of : FnScope n_end_of ["edit"] (defScope s_end_of) := ⟨rfl, rfl, rfl, by decide +kernel, rfl, by decide +kernel, by decide +kernel⟩
abbrev s_apply_edits : Stmt := topS 12
abbrev n_apply_edits : List Str := ["old", "edits", "end", "at", "edit", "lines", "start", "place", "removed", "added"]
theorem sc_apply_edits : FnScope n_apply_edits ["old", "edits"] (defScope s_apply_edits) := ⟨rfl, rfl, rfl, by decide +kernel, rfl, by decide +kernel, by decide +kernel⟩
abbrev s_inverse_edits : Stmt := topS 13
abbrev n_inverse_edits : List Str := ["edits", "end", "at", "edit", "inverse", "shift", "place", "removed", "added"]
theorem sc_inverse_edits : FnScope n_inverse_edits ["edits"] (defScope s_inverse_edits) := ⟨rfl, rfl, rfl, by decide +kernel, rfl, by decide +kernel, by decide +kernel⟩
abbrev s_l_feed : Stmt := topS 15
abbrev n_l_feed : List Str := ["script", "cell"]
theorem sc_l_feed : FnScope n_l_feed ["script"] (defScope s_l_feed) := ⟨rfl, rfl, rfl, by decide +kernel, rfl, by decide +kernel, by decide +kernel⟩
abbrev s_l_next : Stmt := topS 16
abbrev n_l_next : List Str := ["cells", "many", "number"]
theorem sc_l_next : FnScope n_l_next ["cells", "many"] (defScope s_l_next) := ⟨rfl, rfl, rfl, by decide +kernel, rfl, by decide +kernel, by decide +kernel⟩
abbrev s_l_same : Stmt := topS 17
abbrev n_l_same : List Str := ["told", "due", "k"]
theorem sc_l_same : FnScope n_l_same ["told", "due"] (defScope s_l_same) := ⟨rfl, rfl, rfl, by decide +kernel, rfl, by decide +kernel, by decide +kernel⟩
abbrev s_l_menu : Stmt := topS 18
abbrev n_l_menu : List Str := ["place", "lines"]
theorem sc_l_menu : FnScope n_l_menu ["place"] (defScope s_l_menu) := ⟨rfl, rfl, rfl, by decide +kernel, rfl, by decide +kernel, by decide +kernel⟩
abbrev s_l_ends : Stmt := topS 19
abbrev n_l_ends : List Str := ["old", "new", "ends", "line", "last", "row", "k", "found", "j"]
theorem sc_l_ends : FnScope n_l_ends ["old", "new"] (defScope s_l_ends) := ⟨rfl, rfl, rfl, by decide +kernel, rfl, by decide +kernel, by decide +kernel⟩
abbrev s_l_common : Stmt := topS 20
abbrev n_l_common : List Str := ["ends", "i", "j", "row", "end"]
theorem sc_l_common : FnScope n_l_common ["ends", "i", "j"] (defScope s_l_common) := ⟨rfl, rfl, rfl, by decide +kernel, rfl, by decide +kernel, by decide +kernel⟩
abbrev s_l_walk : Stmt := topS 21
abbrev n_l_walk : List Str := ["old", "new", "ends", "pairs", "i", "j"]
theorem sc_l_walk : FnScope n_l_walk ["old", "new"] (defScope s_l_walk) := ⟨rfl, rfl, rfl, by decide +kernel, rfl, by decide +kernel, by decide +kernel⟩
abbrev s_l_cut : Stmt := topS 22
abbrev n_l_cut : List Str := ["old", "new", "edits", "i", "j", "pair"]
theorem sc_l_cut : FnScope n_l_cut ["old", "new"] (defScope s_l_cut) := ⟨rfl, rfl, rfl, by decide +kernel, rfl, by decide +kernel, by decide +kernel⟩
abbrev s_l_back : Stmt := topS 23
abbrev n_l_back : List Str := ["edits", "back", "shift", "edit"]
theorem sc_l_back : FnScope n_l_back ["edits"] (defScope s_l_back) := ⟨rfl, rfl, rfl, by decide +kernel, rfl, by decide +kernel, by decide +kernel⟩
abbrev s_l_leads : Stmt := topS 24
abbrev n_l_leads : List Str := ["old", "edits", "new", "passed", "told"]
theorem sc_l_leads : FnScope n_l_leads ["old", "edits", "new"] (defScope s_l_leads) := ⟨rfl, rfl, rfl, by decide +kernel, rfl, by decide +kernel, by decide +kernel⟩
abbrev s_l_turned : Stmt := topS 25
abbrev n_l_turned : List Str := ["edits", "back", "passed", "told"]
theorem sc_l_turned : FnScope n_l_turned ["edits", "back"] (defScope s_l_turned) := ⟨rfl, rfl, rfl, by decide +kernel, rfl, by decide +kernel, by decide +kernel⟩
abbrev s_l_holds : Stmt := topS 26
abbrev n_l_holds : List Str := ["old", "new", "due", "back", "passed", "told"]
theorem sc_l_holds : FnScope n_l_holds ["old", "new"] (defScope s_l_holds) := ⟨rfl, rfl, rfl, by decide +kernel, rfl, by decide +kernel, by decide +kernel⟩
abbrev s_law : Stmt := topS 27
abbrev n_law : List Str := ["script", "cells", "sizes", "lines", "old", "new", "k"]
theorem sc_law : FnScope n_law ["script"] (defScope s_law) := ⟨rfl, rfl, rfl, by decide +kernel, rfl, by decide +kernel, by decide +kernel⟩
structure Txt (K : PySem.W.Frag) (mg : Str → Option Value) where
  f_common_lengths : Addr
  fd_common_lengths : FuncData
  F_common_lengths : Fun K "_common_lengths" "_common_lengths" s_common_lengths f_common_lengths fd_common_lengths
  g_common_lengths : mg "_common_lengths" = some (.ref f_common_lengths)
  b_common_lengths : Binds K fd_common_lengths ["old", "new"] []
  f_matched : Addr
  fd_matched : FuncData
  F_matched : Fun K "matched" "matched" s_matched f_matched fd_matched
  g_matched : mg "matched" = some (.ref f_matched)
  b_matched : Binds K fd_matched ["old", "new"] []
  f_text_edits : Addr
  fd_text_edits : FuncData
  F_text_edits : Fun K "text_edits" "text_edits" s_text_edits f_text_edits fd_text_edits
  g_text_edits : mg "text_edits" = some (.ref f_text_edits)
  b_text_edits : Binds K fd_text_edits ["old", "new"] []
  f_follows : Addr
  fd_follows : FuncData
  F_follows : Fun K "_follows" "_follows" s_follows f_follows fd_follows
  g_follows : mg "_follows" = some (.ref f_follows)
  b_follows : Binds K fd_follows ["item", "end"] []
  f_fits : Addr
  fd_fits : FuncData
  F_fits : Fun K "_fits" "_fits" s_fits f_fits fd_fits
  g_fits : mg "_fits" = some (.ref f_fits)
  b_fits : Binds K fd_fits ["old", "edit"] []
  f_end_of : Addr
  fd_end_of : FuncData
  F_end_of : Fun K "_end_of" "_end_of" s_end_of f_end_of fd_end_of
  g_end_of : mg "_end_of" = some (.ref f_end_of)
  b_end_of : Binds K fd_end_of ["edit"] []
  f_apply_edits : Addr
  fd_apply_edits : FuncData
  F_apply_edits : Fun K "apply_edits" "apply_edits" s_apply_edits f_apply_edits fd_apply_edits
  g_apply_edits : mg "apply_edits" = some (.ref f_apply_edits)
  b_apply_edits : Binds K fd_apply_edits ["old", "edits"] []
  f_inverse_edits : Addr
  fd_inverse_edits : FuncData
  F_inverse_edits : Fun K "inverse_edits" "inverse_edits" s_inverse_edits f_inverse_edits fd_inverse_edits
  g_inverse_edits : mg "inverse_edits" = some (.ref f_inverse_edits)
  b_inverse_edits : Binds K fd_inverse_edits ["edits"] []
  f_l_feed : Addr
  fd_l_feed : FuncData
  F_l_feed : Fun K "_law_feed" "_law_feed" s_l_feed f_l_feed fd_l_feed
  g_l_feed : mg "_law_feed" = some (.ref f_l_feed)
  b_l_feed : Binds K fd_l_feed ["script"] []
  f_l_next : Addr
  fd_l_next : FuncData
  F_l_next : Fun K "_law_next" "_law_next" s_l_next f_l_next fd_l_next
  g_l_next : mg "_law_next" = some (.ref f_l_next)
  b_l_next : Binds K fd_l_next ["cells", "many"] []
  f_l_same : Addr
  fd_l_same : FuncData
  F_l_same : Fun K "_law_same" "_law_same" s_l_same f_l_same fd_l_same
  g_l_same : mg "_law_same" = some (.ref f_l_same)
  b_l_same : Binds K fd_l_same ["told", "due"] []
  f_l_menu : Addr
  fd_l_menu : FuncData
  F_l_menu : Fun K "_law_menu" "_law_menu" s_l_menu f_l_menu fd_l_menu
  g_l_menu : mg "_law_menu" = some (.ref f_l_menu)
  b_l_menu : Binds K fd_l_menu ["place"] []
  f_l_ends : Addr
  fd_l_ends : FuncData
  F_l_ends : Fun K "_law_ends" "_law_ends" s_l_ends f_l_ends fd_l_ends
  g_l_ends : mg "_law_ends" = some (.ref f_l_ends)
  b_l_ends : Binds K fd_l_ends ["old", "new"] []
  f_l_common : Addr
  fd_l_common : FuncData
  F_l_common : Fun K "_law_common" "_law_common" s_l_common f_l_common fd_l_common
  g_l_common : mg "_law_common" = some (.ref f_l_common)
  b_l_common : Binds K fd_l_common ["ends", "i", "j"] []
  f_l_walk : Addr
  fd_l_walk : FuncData
  F_l_walk : Fun K "_law_walk" "_law_walk" s_l_walk f_l_walk fd_l_walk
  g_l_walk : mg "_law_walk" = some (.ref f_l_walk)
  b_l_walk : Binds K fd_l_walk ["old", "new"] []
  f_l_cut : Addr
  fd_l_cut : FuncData
  F_l_cut : Fun K "_law_cut" "_law_cut" s_l_cut f_l_cut fd_l_cut
  g_l_cut : mg "_law_cut" = some (.ref f_l_cut)
  b_l_cut : Binds K fd_l_cut ["old", "new"] []
  f_l_back : Addr
  fd_l_back : FuncData
  F_l_back : Fun K "_law_back" "_law_back" s_l_back f_l_back fd_l_back
  g_l_back : mg "_law_back" = some (.ref f_l_back)
  b_l_back : Binds K fd_l_back ["edits"] []
  f_l_leads : Addr
  fd_l_leads : FuncData
  F_l_leads : Fun K "_law_leads" "_law_leads" s_l_leads f_l_leads fd_l_leads
  g_l_leads : mg "_law_leads" = some (.ref f_l_leads)
  b_l_leads : Binds K fd_l_leads ["old", "edits", "new"] []
  f_l_turned : Addr
  fd_l_turned : FuncData
  F_l_turned : Fun K "_law_turned" "_law_turned" s_l_turned f_l_turned fd_l_turned
  g_l_turned : mg "_law_turned" = some (.ref f_l_turned)
  b_l_turned : Binds K fd_l_turned ["edits", "back"] []
  f_l_holds : Addr
  fd_l_holds : FuncData
  F_l_holds : Fun K "_law_holds" "_law_holds" s_l_holds f_l_holds fd_l_holds
  g_l_holds : mg "_law_holds" = some (.ref f_l_holds)
  b_l_holds : Binds K fd_l_holds ["old", "new"] []
  f_law : Addr
  fd_law : FuncData
  F_law : Fun K "law" "law" s_law f_law fd_law
  g_law : mg "law" = some (.ref f_law)
  b_law : Binds K fd_law ["script"] []
  m_abs : mg "abs" = none
  m_bool : mg "bool" = none
  m_enumerate : mg "enumerate" = none
  m_int : mg "int" = none
  m_isinstance : mg "isinstance" = none
  m_len : mg "len" = none
  m_list : mg "list" = none
  m_max : mg "max" = none
  m_range : mg "range" = none
  m_str : mg "str" = none
  m_tuple : mg "tuple" = none
  k_LAST_PLACE : ∃ u, mg "LAST_PLACE" = some u ∧ RelV (.int 400) u
/-! ### the mathematics -/
def lc : List Str → List Str → Nat
  | [], _ => 0
  | _ :: _, [] => 0
  | x :: xs, y :: ys => if x = y then lc xs ys + 1 else max (lc xs (y :: ys)) (lc (x :: xs) ys)
termination_by xs ys => xs.length + ys.length
def mt : List Str → List Str → Nat → Nat → List (Nat × Nat)
  | [], _, _, _ => []
  | _ :: _, [], _, _ => []
  | x :: xs, y :: ys, i, j => if x = y then (i, j) :: mt xs ys (i + 1) (j + 1) else if lc xs (y :: ys) ≥ lc (x :: xs) ys then mt xs (y :: ys) (i + 1) j else mt (x :: xs) ys i (j + 1)
termination_by xs ys => xs.length + ys.length
theorem lc_nil (xs : List Str) : lc xs [] = 0 := by
  cases xs <;> rw [lc]
theorem mt_lt : ∀ (xs ys : List Str) (i j : Nat) (p : Nat × Nat), p ∈ mt xs ys i j → (i ≤ p.1 ∧ p.1 < i + xs.length) ∧ j ≤ p.2 ∧ p.2 < j + ys.length
  | [], _, _, _, _, h => by rw [mt] at h; cases h
  | _ :: _, [], _, _, _, h => by rw [mt] at h; cases h
  | x :: xs, y :: ys, i, j, p, h => by
    rw [mt] at h
    rw [List.length_cons, List.length_cons]
    split at h
    · rcases List.mem_cons.mp h with rfl | h
      · simp only; omega
      · have := mt_lt xs ys (i + 1) (j + 1) p h
        omega
    · split at h
      · have := mt_lt xs (y :: ys) (i + 1) j p h
        rw [List.length_cons] at this
        omega
      · have := mt_lt (x :: xs) ys i (j + 1) p h
        rw [List.length_cons] at this
        omega
termination_by xs ys => xs.length + ys.length
theorem lc_at {xs ys : List Str} {i j : Nat} {x y : Str} (hx : xs[i]? = some x) (hy : ys[j]? = some y) :
    lc (xs.drop i) (ys.drop j) = if x = y then lc (xs.drop (i + 1)) (ys.drop (j + 1)) + 1 else max (lc (xs.drop (i + 1)) (ys.drop j)) (lc (xs.drop i) (ys.drop (j + 1))) := by
  obtain ⟨h1, e1⟩ := List.getElem?_eq_some_iff.mp hx
  obtain ⟨h2, e2⟩ := List.getElem?_eq_some_iff.mp hy
  rw [List.drop_eq_getElem_cons h1, List.drop_eq_getElem_cons h2, e1, e2, lc]
theorem mt_at {xs ys : List Str} {i j : Nat} {x y : Str} (hx : xs[i]? = some x) (hy : ys[j]? = some y) :
    mt (xs.drop i) (ys.drop j) i j = if x = y then (i, j) :: mt (xs.drop (i + 1)) (ys.drop (j + 1)) (i + 1) (j + 1) else if lc (xs.drop (i + 1)) (ys.drop j) ≥ lc (xs.drop i) (ys.drop (j + 1)) then mt (xs.drop (i + 1)) (ys.drop j) (i + 1) j
      else mt (xs.drop i) (ys.drop (j + 1)) i (j + 1) := by
  obtain ⟨h1, e1⟩ := List.getElem?_eq_some_iff.mp hx
  obtain ⟨h2, e2⟩ := List.getElem?_eq_some_iff.mp hy
  rw [List.drop_eq_getElem_cons h1, List.drop_eq_getElem_cons h2, e1, e2, mt]
theorem mt_end {xs ys : List Str} {i j : Nat} (h : xs.length ≤ i ∨ ys.length ≤ j) : mt (xs.drop i) (ys.drop j) i j = [] := by
  rcases h with h | h
  · rw [List.drop_eq_nil_of_le h, mt]
  · rw [List.drop_eq_nil_of_le h]
    cases xs.drop i <;> rw [mt]


/-! ### longest common parts -/
theorem lc_bounds : ∀ (n : Nat) (xs ys : List Str), xs.length + ys.length ≤ n → (∀ y, lc xs ys ≤ lc xs (y :: ys) ∧ lc xs (y :: ys) ≤ lc xs ys + 1) ∧ ∀ x, lc xs ys ≤ lc (x :: xs) ys ∧ lc (x :: xs) ys ≤ lc xs ys + 1
  | 0, xs, ys, h => by
    have e1 : xs = [] := List.eq_nil_of_length_eq_zero (by omega)
    have e2 : ys = [] := List.eq_nil_of_length_eq_zero (by omega)
    subst e1 e2
    refine ⟨fun y => ?_, fun x => ?_⟩
    · rw [lc, lc]; omega
    · rw [lc, lc_nil]; omega
  | n + 1, xs, ys, h => by
    refine ⟨fun y => ?_, fun x => ?_⟩
    · cases xs with
      | nil => rw [lc, lc]; omega
      | cons a xs =>
        rw [List.length_cons] at h
        have ih := lc_bounds n xs ys (by omega)
        have i1 := ih.2 a
        have i2 := ih.1 y
        rw [lc]
        split <;> omega
    · cases ys with
      | nil => rw [lc_nil, lc_nil]; omega
      | cons b ys =>
        rw [List.length_cons] at h
        have ih := lc_bounds n xs ys (by omega)
        have i1 := ih.2 x
        have i2 := ih.1 b
        rw [lc.eq_3]
        split <;> omega
theorem lc_y (xs ys : List Str) (y : Str) : lc xs ys ≤ lc xs (y :: ys) ∧ lc xs (y :: ys) ≤ lc xs ys + 1 := (lc_bounds _ xs ys (Nat.le_refl _)).1 y
theorem lc_x (xs ys : List Str) (x : Str) : lc xs ys ≤ lc (x :: xs) ys ∧ lc (x :: xs) ys ≤ lc xs ys + 1 := (lc_bounds _ xs ys (Nat.le_refl _)).2 x
theorem lc_drop1 (xs ys : List Str) : ∀ j, lc xs (ys.drop (j + 1)) ≤ lc xs (ys.drop j) := fun j => by
  by_cases h : j < ys.length
  · rw [List.drop_eq_getElem_cons h]
    exact (lc_y _ _ _).1
  · rw [List.drop_eq_nil_of_le (by omega : ys.length ≤ j), List.drop_eq_nil_of_le (by omega : ys.length ≤ j + 1)]
    exact Nat.le_refl _
theorem lc_drop (xs ys : List Str) (j : Nat) : ∀ d, lc xs (ys.drop (j + d)) ≤ lc xs (ys.drop j)
  | 0 => Nat.le_refl _
  | d + 1 => Nat.le_trans (lc_drop1 xs ys (j + d)) (lc_drop xs ys j d)
theorem lc_mono {xs ys : List Str} {i j : Nat} (h : i ≤ j) : lc xs (ys.drop j) ≤ lc xs (ys.drop i) := by
  have := lc_drop xs ys i (j - i)
  rw [show i + (j - i) = j by omega] at this
  exact this
theorem lc_len : ∀ (xs ys : List Str), lc xs ys ≤ xs.length
  | [], _ => by rw [lc]; exact Nat.le_refl _
  | x :: xs, ys => by
    have := (lc_x xs ys x).2
    have := lc_len xs ys
    rw [List.length_cons]; omega
theorem lc_leny (xs : List Str) : ∀ (ys : List Str), lc xs ys ≤ ys.length
  | [] => by rw [lc_nil]; exact Nat.le_refl _
  | y :: ys => by
    have := (lc_y xs ys y).2
    have := lc_leny xs ys
    rw [List.length_cons]; omega
theorem lc_step (x : Str) (xs : List Str) (k : Nat) : ∀ l : List Str, k + 1 ≤ lc (x :: xs) l ↔ k + 1 ≤ lc xs l ∨ ∃ i : Nat, l[i]? = some x ∧ k ≤ lc xs (l.drop (i + 1))
  | [] => by
    rw [lc_nil, lc_nil]
    constructor
    · intro h; omega
    · rintro (h | ⟨i, h, _⟩)
      · omega
      · simp at h
  | y :: l => by
    have ih := lc_step x xs k l
    have m1 := (lc_y xs l y).1
    have m2 := (lc_y xs l y).2
    have m3 := lc_x xs (y :: l) x
    constructor
    · intro h
      rw [lc] at h
      split at h
      · rename_i e
        subst e
        exact .inr ⟨0, rfl, by show k ≤ lc xs l; omega⟩
      · by_cases h1 : k + 1 ≤ lc xs (y :: l)
        · exact .inl h1
        · have h2 : k + 1 ≤ lc (x :: xs) l := by omega
          rcases ih.mp h2 with h3 | ⟨i, h3, h4⟩
          · exact .inl (by omega)
          · exact .inr ⟨i + 1, h3, h4⟩
    · rintro (h | ⟨i, h1, h2⟩)
      · omega
      · cases i with
        | zero =>
          have e : y = x := Option.some.inj h1
          subst e
          rw [lc, if_pos rfl]
          have h2' : k ≤ lc xs l := h2
          omega
        | succ i =>
          have h3 := ih.mpr (.inr ⟨i, h1, h2⟩)
          have := (lc_y (x :: xs) l y).1
          omega
/-! ### the greatest place from which k lines are common -/
def gr (p : Nat → Bool) : Nat → Nat
  | 0 => 0
  | j + 1 => if p (j + 1) = true then j + 1 else gr p j
theorem gr_le (p : Nat → Bool) : ∀ m, gr p m ≤ m
  | 0 => Nat.le_refl _
  | m + 1 => by
    rw [gr]
    split
    · exact Nat.le_refl _
    · exact Nat.le_succ_of_le (gr_le p m)
theorem gr_ok {p : Nat → Bool} (h0 : p 0 = true) : ∀ m, p (gr p m) = true
  | 0 => h0
  | m + 1 => by
    rw [gr]
    split
    · assumption
    · exact gr_ok h0 m
theorem gr_ge {p : Nat → Bool} : ∀ {m j : Nat}, j ≤ m → p j = true → j ≤ gr p m
  | 0, j, h, _ => h
  | m + 1, j, h, hp => by
    rw [gr]
    split
    · exact h
    · rename_i hn
      rcases Nat.lt_or_ge m j with h1 | h1
      · have : j = m + 1 := by omega
        subst this
        exact (hn hp).elim
      · exact gr_ge h1 hp
def mx (xs ys : List Str) (k : Nat) : Nat := gr (fun j => decide (k ≤ lc xs (ys.drop j))) ys.length
theorem mx_le (xs ys : List Str) (k : Nat) : mx xs ys k ≤ ys.length := gr_le _ _
theorem mx_iff {xs ys : List Str} {k j : Nat} (hk : k ≤ lc xs ys) (hj : j ≤ ys.length) : j ≤ mx xs ys k ↔ k ≤ lc xs (ys.drop j) := by
  constructor
  · intro h
    have e : k ≤ lc xs (ys.drop (mx xs ys k)) := of_decide_eq_true (gr_ok (p := fun j => decide (k ≤ lc xs (ys.drop j))) (decide_eq_true hk) ys.length)
    exact Nat.le_trans e (lc_mono h)
  · intro h
    exact gr_ge (p := fun j => decide (k ≤ lc xs (ys.drop j))) hj (decide_eq_true h)
theorem mx_zero (xs ys : List Str) : mx xs ys 0 = ys.length := by
  have h := (mx_iff (xs := xs) (ys := ys) (k := 0) (j := ys.length) (Nat.zero_le _) (Nat.le_refl _)).mpr (Nat.zero_le _)
  have := mx_le xs ys 0
  omega
/-- the row of a part: the places for 0, 1, .. common lines -/
def eR (xs ys : List Str) : List Nat := (List.range (lc xs ys + 1)).map (mx xs ys)
/-- what a turn finds: M is its greatest -/
theorem mx_step {x : Str} {xs ys : List Str} {k : Nat} (hk : k ≤ lc xs ys) {M : Nat} (hin : (M < mx xs ys k ∧ ys[M]? = some x) ∨ (k + 1 ≤ lc xs ys ∧ M = mx xs ys (k + 1)))
    (hall : ∀ j, j < mx xs ys k → ys[j]? = some x → j ≤ M) (hlast : k + 1 ≤ lc xs ys → mx xs ys (k + 1) ≤ M) : k + 1 ≤ lc (x :: xs) ys ∧ M = mx (x :: xs) ys (k + 1) := by
  have key : ∀ j, j ≤ ys.length → (k + 1 ≤ lc (x :: xs) (ys.drop j) ↔ j ≤ M) := fun j hj => by
    rw [lc_step]
    constructor
    · rintro (h | ⟨i, h1, h2⟩)
      · have hk1 : k + 1 ≤ lc xs ys := Nat.le_trans h (by have := lc_mono (xs := xs) (ys := ys) (Nat.zero_le j); exact this)
        exact Nat.le_trans ((mx_iff hk1 hj).mpr h) (hlast hk1)
      · rw [List.getElem?_drop] at h1
        rw [List.drop_drop] at h2
        have hlt := (List.getElem?_eq_some_iff.mp h1).1
        have h3 : j + i < mx xs ys k := (mx_iff hk (show j + (i + 1) ≤ ys.length by omega)).mpr h2
        have := hall _ h3 h1
        omega
    · intro h
      rcases hin with ⟨h1, h2⟩ | ⟨h1, h2⟩
      · refine .inr ⟨M - j, ?_, ?_⟩
        · rw [List.getElem?_drop, show j + (M - j) = M by omega]
          exact h2
        · rw [List.drop_drop, show j + (M - j + 1) = M + 1 by omega]
          exact (mx_iff hk (by have := (List.getElem?_eq_some_iff.mp h2).1; omega)).mp h1
      · exact .inl ((mx_iff h1 hj).mp (by omega))
  have h0 : k + 1 ≤ lc (x :: xs) ys := (key 0 (Nat.zero_le _)).mpr (Nat.zero_le _)
  have hM : M ≤ ys.length := by
    rcases hin with ⟨_, h2⟩ | ⟨_, h2⟩
    · exact Nat.le_of_lt (List.getElem?_eq_some_iff.mp h2).1
    · rw [h2]; exact mx_le _ _ _
  refine ⟨h0, Nat.le_antisymm ((mx_iff h0 hM).mpr ((key M hM).mpr (Nat.le_refl _))) ?_⟩
  exact (key _ (mx_le _ _ _)).mp ((mx_iff h0 (mx_le _ _ _)).mp (Nat.le_refl _))
/-- nothing found: no more common lines -/
theorem mx_stop {x : Str} {xs ys : List Str} {k : Nat} (hk : k ≤ lc xs ys) (hno : ∀ j, j < mx xs ys k → ys[j]? ≠ some x) (hlast : ¬ k + 1 ≤ lc xs ys) : ¬ k + 1 ≤ lc (x :: xs) ys := by
  rw [lc_step]
  rintro (h | ⟨i, h1, h2⟩)
  · exact hlast h
  · have hlt := (List.getElem?_eq_some_iff.mp h1).1
    exact hno i ((mx_iff hk (show i + 1 ≤ ys.length by omega)).mpr h2) h1
theorem cnt_le (n j : Nat) (f : Nat → Nat) (p : Nat) (hp : p ≤ n) (h : ∀ k, 1 ≤ k → k ≤ n → (j ≤ f k ↔ k ≤ p)) : ((List.range n).filter fun k => decide (j ≤ f (k + 1))).length = p := by
  have e : (List.range n).filter (fun k => decide (j ≤ f (k + 1))) = (List.range n).filter (fun k => decide (k < p)) := by
    apply List.filter_congr
    intro k hk
    have hk' := List.mem_range.mp hk
    rw [decide_eq_decide]
    rw [h (k + 1) (by omega) (by omega)]
    omega
  rw [e]
  clear e h
  induction n with
  | zero =>
    have : p = 0 := by omega
    subst this
    rfl
  | succ n ih =>
    rw [List.range_succ, List.filter_append, List.length_append]
    by_cases hn : p ≤ n
    · rw [ih hn]
      have : decide (n < p) = false := decide_eq_false (by omega)
      simp [this]
    · have e2 : p = n + 1 := by omega
      subst e2
      have e3 : (List.range n).filter (fun k => decide (k < n + 1)) = List.range n := List.filter_eq_self.mpr fun k hk => decide_eq_true (by have := List.mem_range.mp hk; omega)
      rw [e3, List.length_range]
      simp
theorem eR_count {xs ys : List Str} {j : Nat} (hj : j ≤ ys.length) : (((eR xs ys).drop 1).filter fun e => decide (j ≤ e)).length = lc xs (ys.drop j) := by
  unfold eR
  rw [List.range_succ_eq_map, List.map_cons, List.drop_one, List.tail_cons, List.map_map, List.filter_map, List.length_map]
  exact cnt_le (lc xs ys) j (mx xs ys) (lc xs (ys.drop j)) (by have := lc_mono (xs := xs) (ys := ys) (Nat.zero_le j); exact this) fun k _ hk => mx_iff hk hj
/-! ### common parts -/
theorem lc_has : ∀ (xs ys : List Str), ∃ q : List Str, q.Sublist xs ∧ q.Sublist ys ∧ q.length = lc xs ys
  | [], ys => ⟨[], List.nil_sublist _, List.nil_sublist _, by rw [lc]; rfl⟩
  | x :: xs, [] => ⟨[], List.nil_sublist _, List.nil_sublist _, by rw [lc]; rfl⟩
  | x :: xs, y :: ys => by
    rw [lc]
    split
    · rename_i e
      subst e
      obtain ⟨q, h1, h2, h3⟩ := lc_has xs ys
      exact ⟨x :: q, h1.cons_cons _, h2.cons_cons _, by rw [List.length_cons, h3]⟩
    · rcases Nat.le_total (lc xs (y :: ys)) (lc (x :: xs) ys) with h | h
      · obtain ⟨q, h1, h2, h3⟩ := lc_has (x :: xs) ys
        exact ⟨q, h1, h2.cons _, by omega⟩
      · obtain ⟨q, h1, h2, h3⟩ := lc_has xs (y :: ys)
        exact ⟨q, h1.cons _, h2, by omega⟩
termination_by xs ys => xs.length + ys.length
theorem lc_most : ∀ (xs ys q : List Str), q.Sublist xs → q.Sublist ys → q.length ≤ lc xs ys
  | [], ys, q, h, _ => by rw [List.sublist_nil.mp h]; exact Nat.zero_le _
  | x :: xs, [], q, _, h => by rw [List.sublist_nil.mp h]; exact Nat.zero_le _
  | x :: xs, y :: ys, q, h1, h2 => by
    cases q with
    | nil => exact Nat.zero_le _
    | cons a q =>
      rw [List.length_cons, lc]
      have t1 : q.Sublist xs := List.cons_sublist_cons.mp (by
        cases h1 with
        | cons _ h => exact (List.Sublist.cons_cons x ((List.sublist_cons_self a q).trans h))
        | cons_cons _ h => exact List.Sublist.cons_cons x h)
      have t2 : q.Sublist ys := List.cons_sublist_cons.mp (by
        cases h2 with
        | cons _ h => exact (List.Sublist.cons_cons y ((List.sublist_cons_self a q).trans h))
        | cons_cons _ h => exact List.Sublist.cons_cons y h)
      split
      · have := lc_most xs ys q t1 t2
        omega
      · rename_i ne
        cases h1 with
        | cons _ h =>
          have := lc_most xs (y :: ys) (a :: q) h h2
          rw [List.length_cons] at this
          omega
        | cons_cons _ h =>
          cases h2 with
          | cons _ h' =>
            have := lc_most (x :: xs) ys (x :: q) (h.cons_cons _) h'
            rw [List.length_cons] at this
            omega
          | cons_cons _ h' => exact (ne rfl).elim
termination_by xs ys => xs.length + ys.length
theorem mt_length : ∀ (xs ys : List Str) (i j : Nat), (mt xs ys i j).length = lc xs ys
  | [], _, _, _ => by rw [mt, lc]; rfl
  | _ :: _, [], _, _ => by rw [mt, lc]; rfl
  | x :: xs, y :: ys, i, j => by
    rw [mt, lc]
    split
    · rw [List.length_cons, mt_length xs ys]
    · split
      · rw [mt_length xs (y :: ys)]; omega
      · rw [mt_length (x :: xs) ys]; omega
termination_by xs ys => xs.length + ys.length
theorem mt_self : ∀ (xs : List Str) (i : Nat), mt xs xs i i = (List.range xs.length).map fun k => (i + k, i + k)
  | [], i => by rw [mt]; rfl
  | x :: xs, i => by
    rw [mt, if_pos rfl, mt_self xs (i + 1), List.length_cons, List.range_succ_eq_map, List.map_cons, List.map_map]
    congr 1
    apply List.map_congr_left
    intro k _
    show (i + 1 + k, i + 1 + k) = (i + (k + 1), i + (k + 1))
    rw [show i + 1 + k = i + (k + 1) by omega]

local macro_rules | `(tactic| walk_at "m") => `(tactic| ((repeat (first | exact List.Mem.head _ | apply List.Mem.tail)); done))
local macro_rules | `(tactic| walk_at "h") => `(tactic| first | assumption | exact Has.gF (by assumption) (by assumption) | exact Has.get (by assumption) (by walk_at "m"))
local macro_rules | `(tactic| walk_at "c") => `(tactic| ((repeat (first | exact Chg.hd | apply Chg.tl)); done))
local macro_rules | `(tactic| walk_at "is") => `(tactic| first
  | ((with_reducible refine' is2_non ?gh ?_); (case gh => walk_at "h"))
  | (with_reducible refine is_int_list ?_)
  | (with_reducible refine is_int_tuple ?_)
  | (with_reducible refine is_int_dict ?_)
  | (with_reducible refine is_int_int ?_)
  | (with_reducible refine is_int_bool ?_)
  | (with_reducible refine is_int_str ?_)
  | ((with_reducible refine' is2_int ?gh ?_); (case gh => walk_at "h"))
  | (with_reducible refine is_str_list ?_)
  | (with_reducible refine is_str_tuple ?_)
  | (with_reducible refine is_str_dict ?_)
  | (with_reducible refine is_str_int ?_)
  | (with_reducible refine is_str_bool ?_)
  | (with_reducible refine is_str_str ?_)
  | ((with_reducible refine' is2_str ?gh ?_); (case gh => walk_at "h"))
  | (with_reducible refine is_bool_list ?_)
  | (with_reducible refine is_bool_tuple ?_)
  | (with_reducible refine is_bool_dict ?_)
  | (with_reducible refine is_bool_int ?_)
  | (with_reducible refine is_bool_bool ?_)
  | (with_reducible refine is_bool_str ?_)
  | ((with_reducible refine' is2_bool ?gh ?_); (case gh => walk_at "h"))
  | ((with_reducible refine' is_list_list ?gh ?_); (case gh => walk_at "h"))
  | ((with_reducible refine' is_list_tuple ?gh ?_); (case gh => walk_at "h"))
  | ((with_reducible refine' is_list_dict ?gh ?_); (case gh => walk_at "h"))
  | ((with_reducible refine' is_list_int ?gh ?_); (case gh => walk_at "h"))
  | ((with_reducible refine' is_list_bool ?gh ?_); (case gh => walk_at "h"))
  | ((with_reducible refine' is_list_str ?gh ?_); (case gh => walk_at "h"))
  | ((with_reducible refine' is2_list ?ga ?gb ?_); (case ga => walk_at "h"); (case gb => walk_at "h"))
  | ((with_reducible refine' is_tuple_list ?gh ?_); (case gh => walk_at "h"))
  | ((with_reducible refine' is_tuple_tuple ?gh ?_); (case gh => walk_at "h"))
  | ((with_reducible refine' is_tuple_dict ?gh ?_); (case gh => walk_at "h"))
  | ((with_reducible refine' is_tuple_int ?gh ?_); (case gh => walk_at "h"))
  | ((with_reducible refine' is_tuple_bool ?gh ?_); (case gh => walk_at "h"))
  | ((with_reducible refine' is_tuple_str ?gh ?_); (case gh => walk_at "h"))
  | ((with_reducible refine' is2_tuple ?ga ?gb ?_); (case ga => walk_at "h"); (case gb => walk_at "h"))
  | ((with_reducible refine' is_dict_list ?gh ?_); (case gh => walk_at "h"))
  | ((with_reducible refine' is_dict_tuple ?gh ?_); (case gh => walk_at "h"))
  | ((with_reducible refine' is_dict_dict ?gh ?_); (case gh => walk_at "h"))
  | ((with_reducible refine' is_dict_int ?gh ?_); (case gh => walk_at "h"))
  | ((with_reducible refine' is_dict_bool ?gh ?_); (case gh => walk_at "h"))
  | ((with_reducible refine' is_dict_str ?gh ?_); (case gh => walk_at "h"))
  | ((with_reducible refine' is2_dict ?ga ?gb ?_); (case ga => walk_at "h"); (case gb => walk_at "h")))
local macro_rules | `(tactic| walk_at "g") => `(tactic| first
  | (with_reducible refine g_seq ?_)
  | (with_reducible refine g_asg ?_)
  | ((with_reducible refine g_name ?_); dsimp only [List.set, wipe, List.map])
  | ((with_reducible refine' g_var ?gv ?_); (case gv => exact rfl))
  | (with_reducible refine g_c ?_)
  | (with_reducible refine g_op ?_)
  | (with_reducible refine g_cons ?_)
  | (with_reducible refine g_nil ?_)
  | (with_reducible refine g_cb ?_)
  | (with_reducible refine g_call ?_)
  | (with_reducible refine g_tup ?_)
  | (with_reducible refine g_lst ?_)
  | (with_reducible refine g_bm ?_)
  | (with_reducible refine g_bm0 ?_)
  | ((with_reducible refine' g_kbm ?gh ?_); (case gh => walk_at "h"))
  | (with_reducible refine g_drop ?_)
  | (with_reducible refine g_ret ?_)
  | (with_reducible refine g_retN ?_)
  | (with_reducible refine g_next ?_)
  | (with_reducible refine g_brk ?_)
  | (with_reducible refine g_cont ?_)
  | (with_reducible refine g_if ?_)
  | ((with_reducible refine' g_aug ?gv ?_); (case gv => exact rfl))
  | (with_reducible refine g_ipI ?_)
  | (with_reducible refine g_test ?_)
  | (with_reducible refine g_tB ?_)
  | (with_reducible refine g_kB ?_)
  | (with_reducible refine g_not ?_)
  | (with_reducible refine g_and ?_)
  | (with_reducible refine g_or ?_)
  | (with_reducible refine g_andV ?_)
  | (with_reducible refine g_orV ?_)
  | (with_reducible refine g_notV ?_)
  | (with_reducible refine g_ifE ?_)
  | (with_reducible refine g_addI ?_)
  | (with_reducible refine g_rI0 ?_)
  | (with_reducible refine g_eqI ?_)
  | (with_reducible refine g_eqS ?_)
  | (with_reducible refine g_neI ?_)
  | (with_reducible refine g_neS ?_)
  | (with_reducible refine g_isN ?_)
  | (with_reducible refine g_notN ?_)
  | (with_reducible refine g_int ?_)
  | (with_reducible refine g_max2 ?_)
  | ((with_reducible refine' g_lenL ?gh ?_); (case gh => walk_at "h"))
  | (with_reducible refine g_sub ?_)
  | (with_reducible refine g_gcons ?_)
  | (with_reducible refine g_gnil ?_)
  | (with_reducible refine g_un ?_)
  | (with_reducible refine g_rU ?_)
  | (with_reducible refine g_forL ?_)
  | (with_reducible refine g_forR1 ?_)
  | (with_reducible refine g_forR2 ?_)
  | (with_reducible refine g_forR3 ?_)
  | (with_reducible refine g_lcL ?_)
  | (with_reducible refine g_lcR1 ?_)
  | (with_reducible refine g_lcR2 ?_)
  | (with_reducible refine g_slice ?_)
  | (with_reducible refine g_part ?_)
  | (with_reducible refine g_kOI ?_)
  | (with_reducible refine g_nopart ?_)
  | (with_reducible refine g_yes ?_)
  | ((with_reducible refine' g_wipe ?gv ?_); (case gv => exact rfl))
  | (with_reducible refine iteT ?_)
  | (with_reducible refine iteF ?_)
  | (with_reducible refine i_nf ?_)
  | (with_reducible refine i_nt ?_)
  | ((with_reducible refine' g_gtup ?gh ?gl ?_); (case gh => walk_at "h"); (case gl => exact rfl))
  | ((with_reducible refine' g_notinI ?gh ?_); (case gh => walk_at "h"))
  | ((with_reducible refine' g_inI ?gh ?_); (case gh => walk_at "h"))
  | ((with_reducible refine' g_kget2 ?gh ?_); (case gh => walk_at "h"))
  | ((with_reducible refine' g_kgotI ?gh ?_); (case gh => walk_at "h"))
  | (with_reducible refine g_tRev ?_)
  | (with_reducible refine g_neB ?_)
  | (with_reducible refine g_eqB ?_)
  | ((with_reducible refine' g_lenT ?gh ?_); (case gh => walk_at "h"))
  | (with_reducible refine g_star ?_)
  | ((with_reducible refine' g_kstarL ?gh ?_); (case gh => walk_at "h"))
  | ((with_reducible refine' g_kstarT ?gh ?_); (case gh => walk_at "h"))
  | (with_reducible refine g_tru ?_)
  | ((with_reducible refine' g_truL ?gh ?_); (case gh => walk_at "h"))
  | (with_reducible refine g_get2 ?_)
  | walk_at "is")
local macro_rules | `(tactic| walk_at "gg") => `(tactic| repeat walk_at "g")
local macro_rules | `(tactic| walk_at "sz") => `(tactic| (refine sz ?_; simp only [List.length_cons, List.length_nil, List.length_map, List.length_append, List.length_replicate]; omega))

/-! ### tables -/
def tz (n m i j k l : Nat) : Prop := i < k ∨ (i = k ∧ j ≤ l) ∨ l = m ∨ k = n
/-- the rows from (i, j) on are right -/
structure Tb (xs ys : List Str) (i j : Nat) (rows : List (Addr × List Int)) : Prop where
  len : rows.length = xs.length + 1
  wid : ∀ (k : Nat) (r : Addr × List Int), rows[k]? = some r → r.2.length = ys.length + 1
  val : ∀ (k l : Nat) (r : Addr × List Int) (z : Int), rows[k]? = some r → r.2[l]? = some z → tz xs.length ys.length i j k l → z = (lc (xs.drop k) (ys.drop l) : Nat)
theorem Tb.start {xs ys : List Str} {rows : List (Addr × List Int)} (hl : rows.length = xs.length + 1) (h : ∀ r ∈ rows, r.2 = List.replicate (ys.length + 1) 0) : Tb xs ys xs.length 0 rows := by
  refine ⟨hl, fun k r hr => ?_, fun k l r z hr hz ht => ?_⟩
  · rw [h r (List.mem_of_getElem? hr), List.length_replicate]
  · have e := h r (List.mem_of_getElem? hr)
    rw [e, List.getElem?_replicate] at hz
    have hk : k < xs.length + 1 := by rw [← hl]; exact (List.getElem?_eq_some_iff.mp hr).1
    split at hz
    · have hz' : z = 0 := (Option.some.inj hz).symm
      subst hz'
      have e0 : lc (xs.drop k) (ys.drop l) = 0 := by
        rcases ht with ht | ht | ht | ht
        · omega
        · rw [← ht.1, List.drop_length, lc]
        · rw [ht, List.drop_length, lc_nil]
        · rw [ht, List.drop_length, lc]
      rw [e0]; rfl
    · cases hz
theorem Tb.row {xs ys : List Str} {i : Nat} {rows : List (Addr × List Int)} (h : Tb xs ys (i + 1) 0 rows) : Tb xs ys i ys.length rows := by
  refine ⟨h.len, h.wid, fun k l r z hr hz ht => h.val k l r z hr hz ?_⟩
  have hl : l < ys.length + 1 := by rw [← h.wid k r hr]; exact (List.getElem?_eq_some_iff.mp hz).1
  unfold tz at *
  omega
theorem Tb.set {xs ys : List Str} {i j : Nat} {rows : List (Addr × List Int)} {r : Addr × List Int} {z : Int} (h : Tb xs ys i (j + 1) rows) (hr : rows[i]? = some r) (hz : z = (lc (xs.drop i) (ys.drop j) : Nat)) (hj : j < ys.length + 1) :
    Tb xs ys i j (rows.set i (r.1, r.2.set j z)) := by
  have hi := (List.getElem?_eq_some_iff.mp hr).1
  have hw := h.wid i r hr
  refine ⟨by rw [List.length_set]; exact h.len, fun k q hq => ?_, fun k l q y hq hy ht => ?_⟩
  · by_cases e : i = k
    · subst e
      rw [List.getElem?_set_self hi] at hq
      rw [← Option.some.inj hq, List.length_set]
      exact hw
    · rw [List.getElem?_set_ne e] at hq
      exact h.wid k q hq
  · by_cases e : i = k
    · subst e
      rw [List.getElem?_set_self hi] at hq
      rw [← Option.some.inj hq] at hy
      by_cases e2 : j = l
      · subst e2
        rw [List.getElem?_set_self (by rw [hw]; exact hj)] at hy
        rw [← Option.some.inj hy]
        exact hz
      · rw [List.getElem?_set_ne e2] at hy
        refine h.val i l r y hr hy ?_
        unfold tz at *
        omega
    · rw [List.getElem?_set_ne e] at hq
      refine h.val k l q y hq hy ?_
      unfold tz at *
      omega
/-- the same place set to something first -/
theorem Tb.any {xs ys : List Str} {i j : Nat} {rows : List (Addr × List Int)} {r : Addr × List Int} {z : Int} (h : Tb xs ys i (j + 1) rows) (hr : rows[i]? = some r) (hj : j < ys.length) (hi' : i < xs.length) : Tb xs ys i (j + 1) (rows.set i (r.1, r.2.set j z)) := by
  have hi := (List.getElem?_eq_some_iff.mp hr).1
  have hw := h.wid i r hr
  refine ⟨by rw [List.length_set]; exact h.len, fun k q hq => ?_, fun k l q y hq hy ht => ?_⟩
  · by_cases e : i = k
    · subst e
      rw [List.getElem?_set_self hi] at hq
      rw [← Option.some.inj hq, List.length_set]
      exact hw
    · rw [List.getElem?_set_ne e] at hq
      exact h.wid k q hq
  · by_cases e : i = k
    · subst e
      rw [List.getElem?_set_self hi] at hq
      rw [← Option.some.inj hq] at hy
      have e2 : j ≠ l := by unfold tz at ht; omega
      rw [List.getElem?_set_ne e2] at hy
      exact h.val i l r y hr hy ht
    · rw [List.getElem?_set_ne e] at hq
      exact h.val k l q y hq hy ht
theorem Tb.get {xs ys : List Str} {i j k l : Nat} {rows : List (Addr × List Int)} {r : Addr × List Int} (h : Tb xs ys i j rows) (hr : rows[k]? = some r) (hl : l < ys.length + 1) (ht : tz xs.length ys.length i j k l) :
    r.2[l]? = some ((lc (xs.drop k) (ys.drop l) : Nat) : Int) := by
  have hw := h.wid k r hr
  have e : l < r.2.length := by omega
  have := h.val k l r _ hr (List.getElem?_eq_getElem e) ht
  rw [List.getElem?_eq_getElem e, this]
theorem flat_rep (k : Nat) (z : Int) : (List.replicate k [V.int z]).flatten = (List.replicate k z).map V.int := by
  induction k with
  | zero => rfl
  | succ k ih =>
    rw [List.replicate_succ, List.flatten_cons, ih, List.replicate_succ]
    rfl
/-- a table that stands in H -/
def Table (H : Hp) (t : Addr) (xs ys : List Str) : Prop := ∃ rows : List (Addr × List Int), Tb xs ys 0 0 rows ∧ H t = some (.lst (rows.map fun r => V.ref r.1)) ∧ ∀ r ∈ rows, H r.1 = some (.lst (r.2.map V.int))
def prd (p : Nat × Nat) : PyData := .tuple [.int p.1, .int p.2]
section
variable {P : Program} {w : World} {K : PySem.W.Frag} {mg : Str → Option Value} {base : Heap} {σ : L2.St} {F : Hp} {O O' : Own} {H : Hp} {Q : VK} {t : Addr} {xs ys : List Str}
/-- lengths[k][l] of a table that stands -/
theorem g_tabAt {i : Int} (h : Table H t xs ys) (hi : 0 ≤ i) (hi2 : i ≤ xs.length) (q : ∀ r, H r = some (.lst ((List.range (ys.length + 1)).map fun l => V.int (lc (xs.drop i.toNat) (ys.drop l) : Nat))) → Q (.ref r) H) : rIxA K (.ref t) (.int i) H Q := by
  obtain ⟨rows, tb, h1, h2⟩ := h
  have e : i.toNat < rows.length := by rw [tb.len]; omega
  have hr := List.getElem?_eq_getElem e
  refine g_ixL h1 (at_n hi (v := .ref rows[i.toNat].1) ?_) (q _ ?_)
  · rw [List.getElem?_map, hr]
    rfl
  · rw [h2 _ (List.getElem_mem e)]
    congr 1
    congr 1
    apply List.ext_getElem?
    intro l
    rw [List.getElem?_map, List.getElem?_map]
    by_cases hl : l < ys.length + 1
    · rw [tb.get hr hl (by unfold tz; omega), List.getElem?_range hl]
      rfl
    · rw [List.getElem?_eq_none (by rw [tb.wid _ _ hr]; omega), List.getElem?_eq_none (by rw [List.length_range]; omega)]
      rfl
def sp_common_lengths (K : PySem.W.Frag) : Sp := fun vs H Q _ => ∃ (a b : Addr) (xs ys : List Str), vs = [.ref a, .ref b] ∧ H a = some (.lst (xs.map V.str)) ∧ H b = some (.lst (ys.map V.str)) ∧ xs.length ≤ 1000 ∧ ys.length ≤ 1000 ∧
  ∀ t H', Same H H' → H t = none → Table H' t xs ys → Q (.ref t) H'
theorem sp_common_lengths_len {vs H Q E} (h : sp_common_lengths K vs H Q E) : vs.length = 2 := by
  obtain ⟨_, _, _, _, rfl, _⟩ := h
  rfl
theorem ok_common_lengths (T : Txt K mg) : FnOk P w K mg base CX0 1 T.f_common_lengths T.fd_common_lengths ["old", "new"] (sp_common_lengths K) := by
  refine T.F_common_lengths.ok sc_common_lengths (fun vs H Q E h => sp_common_lengths_len h) (fun cdv A outer s H vs Q E hr h => ?_)
  refine ⟨_, (pss_cons (ps_setLc (i := 2) (own := [("_", 5)]) (g := gName 5) (tt := tYes) rfl sc_common_lengths.nd rfl rfl (sw_true rfl rfl rfl (by decide +kernel)) (pi_range1 rfl T.m_range (pa_cons (pe_op (op_addK K) (pe_callB (cr_lenK K) (by rfl) T.m_len (by decide +kernel) (pa_cons (pv 0) pa_nil)) pe_int) pa_nil)) (blkOk_by (N := n_common_lengths) (sc := defScope s_common_lengths) (by decide +kernel)) (fun _ _ _ _ _ => (pg_name (i := 5) sc_common_lengths.nd rfl (.inl rfl))) (fun _ _ _ _ _ => pts_nil) (fun _ _ _ _ _ => (pe_op op_mulA (pe_lst (pa_cons pe_int pa_nil)) (pe_op (op_addK K) (pe_callB (cr_lenK K) (by rfl) T.m_len (by decide +kernel) (pa_cons (pv 1) pa_nil)) pe_int))))
      (pss_cons (ps_for PassesOwn.never rfl (pi_range3 rfl T.m_range (pa_cons (pe_op op_sub (pe_callB (cr_lenK K) (by rfl) T.m_len (by decide +kernel) (pa_cons (pv 0) pa_nil)) pe_int) (pa_cons (pe_un un_neg pe_int) (pa_cons (pe_un un_neg pe_int) pa_nil)))) (pg_name (i := 3) sc_common_lengths.nd rfl (.inl rfl)) (pss_one (ps_for PassesOwn.never rfl (pi_range3 rfl T.m_range (pa_cons (pe_op op_sub (pe_callB (cr_lenK K) (by rfl) T.m_len (by decide +kernel) (pa_cons (pv 1) pa_nil)) pe_int) (pa_cons (pe_un un_neg pe_int) (pa_cons (pe_un un_neg pe_int) pa_nil)))) (pg_name (i := 4) sc_common_lengths.nd rfl (.inl rfl)) (pss_one (ps_if (pt_cmpR (op_eqK K hr.units) (pe_ix (ix_K K (hu_of hr)) (pv 0) (pv 3) (fun _ _ => rfl)) (pe_ix (ix_K K (hu_of hr)) (pv 1) (pv 4) (fun _ _ => rfl)) (nomark _)) (pss_one (ps_asg (pe_op (op_addK K) (pe_ix (ix_K K (hu_of hr)) (pe_ix (ix_K K (hu_of hr)) (pv 2) (pe_op (op_addK K) (pv 3) pe_int) (fun _ _ => rfl)) (pe_op (op_addK K) (pv 4) pe_int) (fun _ _ => rfl)) pe_int) (pg_sub (pe_ix (ix_K K (hu_of hr)) (pv 2) (pv 3) (fun _ _ => rfl)) (pv 4) (set_any (hu_of hr))))) (pss_one (ps_asg (pe_callB (cr_max2 rfl) (by rfl) T.m_max (by decide +kernel) (pa_cons (pe_ix (ix_K K (hu_of hr)) (pe_ix (ix_K K (hu_of hr)) (pv 2) (pe_op (op_addK K) (pv 3) pe_int) (fun _ _ => rfl)) (pv 4) (fun _ _ => rfl)) (pa_cons (pe_ix (ix_K K (hu_of hr)) (pe_ix (ix_K K (hu_of hr)) (pv 2) (pv 3) (fun _ _ => rfl)) (pe_op (op_addK K) (pv 4) pe_int) (fun _ _ => rfl)) pa_nil))) (pg_sub (pe_ix (ix_K K (hu_of hr)) (pv 2) (pv 3) (fun _ _ => rfl)) (pv 4) (set_any (hu_of hr))))))))))
      (pss_one (ps_ret (pv 2))))), ?_⟩
  obtain ⟨a, b, xs, ys, rfl, ha, hb, hx, hy, q⟩ := h
  have hH := Has.start H
  refine g_start (σ' := [some (.ref a), some (.ref b), none, none, none, none]) rfl ?_
  walk_at "gg"
  rw [List.length_map]
  refine k_lcR1 (by omega) (by omega) hH (fun i acc F' O' => ∃ rows : List (Addr × List Int), acc = rows.map (fun r => V.ref r.1) ∧ rows.length = i ∧ (∀ r ∈ rows, r.2 = List.replicate (ys.length + 1) 0) ∧ H = F' ∧ O' = rows.map rowO) ⟨[], rfl, rfl, by simp, rfl, rfl⟩ ?_ ?_
  · rintro i acc F' O' D H1 hi ⟨rows, rfl, rfl, hr, rfl, rfl⟩ hh
    walk_at "gg"
    refine g_klst (by walk_at "sz") hh (fun p1 H2 n2 h2 => ?_)
    walk_at "gg"
    rw [List.length_map]
    refine g_mulL (by walk_at "h") (by omega) (by omega) (sz (by show 1 * _ ≤ _; omega)) h2 (fun p2 H3 n3 h3 => ?_)
    have e1 : ((ys.length : Int) + 1).toNat = ys.length + 1 := by omega
    rw [e1, flat_rep] at h3
    have h4 := h3.sub (.cons₂ _ (.cons _ (List.Sublist.refl _)))
    have h5 : Has H ((D, .lst (rows.map fun r => V.ref r.1)) :: (rows ++ [(p2, List.replicate (ys.length + 1) 0)]).map rowO) H3 := by
      refine h4.perm ?_
      rw [List.map_append]
      exact ((List.Perm.cons _ (List.perm_append_singleton _ _)).trans (List.Perm.swap _ _ _))
    refine k_turn h5 (by rw [List.length_map]; omega) ⟨rows ++ [(p2, List.replicate (ys.length + 1) 0)], by rw [List.map_append]; rfl, by rw [List.length_append]; rfl, fun r h => ?_, rfl, rfl⟩
    rcases List.mem_append.mp h with h | h
    · exact hr r h
    · rw [List.mem_singleton.mp h]
  · rintro acc F' O' D H1 ⟨rows, rfl, hk, hr, rfl, rfl⟩ hh
    have hk' : rows.length = xs.length + 1 := by omega
    have tb0 := Tb.start (xs := xs) (ys := ys) hk' hr
    have hh1 : Has H (tabO D rows ++ []) H1 := by rw [List.append_nil]; exact hh
    walk_at "gg"
    refine k_forDown (n := xs.length) (by rw [List.length_map]) (by omega) (fun i σ H' => ∃ (rows : List (Addr × List Int)) (y3 y4 : Option V), σ = [some (.ref a), some (.ref b), some (.ref D), y3, y4, none] ∧ Has H (tabO D rows ++ []) H' ∧ Tb xs ys i 0 rows) ⟨rows, none, none, rfl, hh1, tb0⟩ ?_ ?_
    · rintro i σ H2 hi ⟨rows, y3, y4, rfl, h2, tb⟩
      walk_at "gg"
      refine k_forDown (n := ys.length) (by rw [List.length_map]) (by omega) (fun j σ H' => ∃ (rows : List (Addr × List Int)) (y4 : Option V), σ = [some (.ref a), some (.ref b), some (.ref D), some (.int i), y4, none] ∧ Has H (tabO D rows ++ []) H' ∧ Tb xs ys i j rows) ⟨rows, y4, rfl, h2, tb.row⟩ ?_ ?_
      · rintro j σ H3 hj ⟨rows, y4, rfl, h3, tb⟩
        have hxi : xs[i]? = some xs[i] := List.getElem?_eq_getElem hi
        have hyj : ys[j]? = some ys[j] := List.getElem?_eq_getElem hj
        have hlen := tb.len
        have hrow : ∀ k, k < xs.length + 1 → ∃ r, rows[k]? = some r := fun k hk => ⟨rows[k], List.getElem?_eq_getElem (by omega)⟩
        walk_at "gg"
        refine g_ixZ (by walk_at "h") (by omega) (by omega) (fun x hx' => ?_)
        walk_at "gg"
        refine g_ixZ (by walk_at "h") (by omega) (by omega) (fun y hy' => ?_)
        have ex : x = xs[i] := Option.some.inj (hx'.symm.trans hxi)
        have ey : y = ys[j] := Option.some.inj (hy'.symm.trans hyj)
        subst ex ey
        have la := lc_at hxi hyj
        walk_at "gg"
        refine i_d (fun e => ?_) (fun e => ?_)
        · rw [if_pos e] at la
          walk_at "gg"
          refine g_ixRow h3 (by omega) (by omega) (fun r hr h5 => ?_)
          have e1 : ((i : Int) + 1).toNat = i + 1 := by omega
          have e2 : ((j : Int) + 1).toNat = j + 1 := by omega
          rw [e1] at hr
          have hw := tb.wid _ _ hr
          walk_at "gg"
          refine g_ixI h5 (by omega) (by omega) (fun z hz => ?_)
          rw [e2, tb.get hr (by omega) (by unfold tz; omega)] at hz
          have hz' := (Option.some.inj hz).symm
          walk_at "gg"
          refine g_ixRow h3 (by omega) (by omega) (fun r2 hr2 h6 => ?_)
          walk_at "gg"
          have hr2' : rows[i]? = some r2 := hr2
          have hw2 := tb.wid _ _ hr2'
          refine g_setRow h3 hr2' (by omega) (by omega) (fun H4 h4 => ?_)
          exact ⟨_, _, rfl, h4, tb.set hr2' (by rw [la, hz']; omega) (by omega)⟩
        · rw [if_neg e] at la
          walk_at "gg"
          refine g_ixRow h3 (by omega) (by omega) (fun r hr h5 => ?_)
          have e1 : ((i : Int) + 1).toNat = i + 1 := by omega
          have e2 : ((j : Int) + 1).toNat = j + 1 := by omega
          rw [e1] at hr
          have hw := tb.wid _ _ hr
          walk_at "gg"
          refine g_ixI h5 (by omega) (by omega) (fun z hz => ?_)
          rw [show ((j : Int)).toNat = j from rfl, tb.get hr (by omega) (by unfold tz; omega)] at hz
          have hz' := (Option.some.inj hz).symm
          walk_at "gg"
          refine g_ixRow h3 (by omega) (by omega) (fun r3 hr3 h7 => ?_)
          have hr3' : rows[i]? = some r3 := hr3
          have hw3 := tb.wid _ _ hr3'
          walk_at "gg"
          refine g_ixI h7 (by omega) (by omega) (fun z3 hz3 => ?_)
          rw [e2, tb.get hr3' (by omega) (by unfold tz; omega)] at hz3
          have hz3' := (Option.some.inj hz3).symm
          walk_at "gg"
          refine g_ixRow h3 (by omega) (by omega) (fun r2 hr2 h6 => ?_)
          walk_at "gg"
          have hr2' : rows[i]? = some r2 := hr2
          have hw2 := tb.wid _ _ hr2'
          refine g_setRow h3 hr2' (by omega) (by omega) (fun H4 h4 => ?_)
          exact ⟨_, _, rfl, h4, tb.set hr2' (by rw [la, hz', hz3']; omega) (by omega)⟩
      · rintro σ H3 ⟨rows, y4, rfl, h3, tb⟩
        exact ⟨rows, _, _, rfl, h3, tb⟩
    · rintro σ H2 ⟨rows, y3, y4, rfl, h2, tb⟩
      walk_at "gg"
      exact q D H2 h2.same (hh.free) ⟨rows, tb, h2.tab, fun r hr => h2.get (List.mem_append_left _ (List.mem_cons_of_mem _ (List.mem_map.mpr ⟨r, hr, rfl⟩)))⟩
theorem Table.up {H H' : Hp} (h : Table H t xs ys) (s : Same H H') : Table H' t xs ys := by
  obtain ⟨rows, tb, h1, h2⟩ := h
  exact ⟨rows, tb, s _ _ h1, fun r hr => s _ _ (h2 r hr)⟩
def sp_matched (K : PySem.W.Frag) : Sp := fun vs H Q _ => ∃ (a b : Addr) (xs ys : List Str), vs = [.ref a, .ref b] ∧ H a = some (.lst (xs.map V.str)) ∧ H b = some (.lst (ys.map V.str)) ∧ xs.length ≤ 1000 ∧ ys.length ≤ 1000 ∧
  ∀ p H' (vs : List V), Same H H' → H p = none → H' p = some (.lst vs) → DqAll H' vs ((mt xs ys 0 0).map prd) → Q (.ref p) H'
theorem sp_matched_len {vs H Q E} (h : sp_matched K vs H Q E) : vs.length = 2 := by
  obtain ⟨_, _, _, _, rfl, _⟩ := h
  rfl
theorem ok_matched (T : Txt K mg) : FnOk P w K mg base CX0 2 T.f_matched T.fd_matched ["old", "new"] (sp_matched K) := by
  refine T.F_matched.ok sc_matched (fun vs H Q E h => sp_matched_len h) (fun cdv A outer s H vs Q E hr h => ?_)
  refine ⟨_, (pss_cons (ps_set (i := 2) sc_matched.nd rfl (.inl rfl) (pe_call (ok_common_lengths T) (hr.mono (by decide)) (by rfl) T.g_common_lengths T.F_common_lengths.kp T.b_common_lengths .nil pass0 (pa_cons (pv 0) (pa_cons (pv 1) pa_nil))))
      (pss_cons (ps_set (i := 3) sc_matched.nd rfl (.inl rfl) (pe_lst pa_nil))
      (pss_cons (ps_set (i := 4) sc_matched.nd rfl (.inl rfl) pe_int)
      (pss_cons (ps_set (i := 5) sc_matched.nd rfl (.inl rfl) pe_int)
      (pss_cons (ps_while PassesOwn.never (PW.pt (pw_and (pt_cmpR op_lt (pv 4) (pe_callB (cr_lenK K) (by rfl) T.m_len (by decide +kernel) (pa_cons (pv 0) pa_nil)) (nomark _)) (pw_and1 (pt_cmpR op_lt (pv 5) (pe_callB (cr_lenK K) (by rfl) T.m_len (by decide +kernel) (pa_cons (pv 1) pa_nil)) (nomark _))))) (pss_one (ps_if (pt_cmpR (op_eqK K hr.units) (pe_ix (ix_K K (hu_of hr)) (pv 0) (pv 4) (fun _ _ => rfl)) (pe_ix (ix_K K (hu_of hr)) (pv 1) (pv 5) (fun _ _ => rfl)) (nomark _)) (pss_cons (ps_expr (k_bm K (pe_bm PySem.F.plainAttrs_list PySem.F.slot_list_append PySem.F.type_list_append mt_append (pv 3) (pa_cons (pe_tup (pa_cons (pv 4) (pa_cons (pv 5) pa_nil))) pa_nil))))
      (pss_cons (ps_aug (i := 4) sc_matched.nd rfl (.inl rfl) pe_int ip_add)
      (pss_one (ps_aug (i := 5) sc_matched.nd rfl (.inl rfl) pe_int ip_add)))) (pss_one (ps_if (pt_cmpR op_ge (pe_ix (ix_K K (hu_of hr)) (pe_ix (ix_K K (hu_of hr)) (pv 2) (pe_op (op_addK K) (pv 4) pe_int) (fun _ _ => rfl)) (pv 5) (fun _ _ => rfl)) (pe_ix (ix_K K (hu_of hr)) (pe_ix (ix_K K (hu_of hr)) (pv 2) (pv 4) (fun _ _ => rfl)) (pe_op (op_addK K) (pv 5) pe_int) (fun _ _ => rfl)) (nomark _)) (pss_one (ps_aug (i := 4) sc_matched.nd rfl (.inl rfl) pe_int ip_add)) (pss_one (ps_aug (i := 5) sc_matched.nd rfl (.inl rfl) pe_int ip_add)))))))
      (pss_one (ps_ret (pv 3)))))))), ?_⟩
  obtain ⟨a, b, xs, ys, rfl, ha, hb, hx, hy, q⟩ := h
  refine g_start (σ' := [some (.ref a), some (.ref b), none, none, none, none]) rfl ?_
  walk_at "gg"
  refine ⟨a, b, xs, ys, rfl, ha, hb, hx, hy, fun t H1 s0 n1 tab => ?_⟩
  have ha1 := s0 _ _ ha
  have hb1 := s0 _ _ hb
  have hH := Has.start H1
  walk_at "gg"
  refine g_klst (by walk_at "sz") hH (fun p H2 n2 h2 => ?_)
  walk_at "gg"
  refine g_while (fun k σ H' => ∃ (i j : Nat) (acc : List (Nat × Nat)) (vs : List V) (F : Hp), σ = [some (.ref a), some (.ref b), some (.ref t), some (.ref p), some (.int i), some (.int j)] ∧ Same H1 F ∧ Has F [(p, .lst vs)] H' ∧ DqAll F vs (acc.map prd) ∧ acc ++ mt (xs.drop i) (ys.drop j) i j = mt xs ys 0 0 ∧ i ≤ xs.length ∧ j ≤ ys.length ∧ acc.length ≤ i ∧ k = (xs.length - i) + (ys.length - j)) _ ⟨0, 0, [], [], H1, rfl, Same.refl _, h2, .nil, by simp, by omega, by omega, by simp, rfl⟩ ?_
  · rintro k σ H3 ⟨i, j, acc, vs, F, rfl, sF, h3, dq, ea, hi, hj, hac, rfl⟩
    have ha3 : F a = some (.lst (xs.map V.str)) := sF _ _ ha1
    have hb3 : F b = some (.lst (ys.map V.str)) := sF _ _ hb1
    have tab3 : Table H3 t xs ys := (tab.up sF).up h3.same
    refine g_fact (fun c => c = true ↔ (i < xs.length ∧ j < ys.length)) (fun R r => ?_) (fun c hc => ?_)
    · walk_at "gg"
      rw [List.length_map]
      refine i_d (fun l1 => ?_) (fun l1 => r _ ⟨fun z => (Bool.false_ne_true z).elim, fun z => by omega⟩)
      walk_at "gg"
      rw [List.length_map]
      exact r _ ⟨fun z => by have := of_decide_eq_true z; omega, fun z => decide_eq_true (by omega)⟩
    cases c with
    | true =>
      have hij := hc.mp rfl
      have hxi : xs[i]? = some xs[i] := List.getElem?_eq_getElem hij.1
      have hyj : ys[j]? = some ys[j] := List.getElem?_eq_getElem hij.2
      have ma := mt_at hxi hyj
      refine kwh_t ?_
      walk_at "gg"
      refine g_ixZ (by walk_at "h") (by omega) (by omega) (fun x hx' => ?_)
      walk_at "gg"
      refine g_ixZ (by walk_at "h") (by omega) (by omega) (fun y hy' => ?_)
      have ex : x = xs[i] := Option.some.inj (hx'.symm.trans hxi)
      have ey : y = ys[j] := Option.some.inj (hy'.symm.trans hyj)
      subst ex ey
      walk_at "gg"
      refine i_d (fun e => ?_) (fun e => ?_)
      · rw [if_pos e] at ma
        walk_at "gg"
        refine g_ktupF (by walk_at "sz") h3 (fun T H4 F' n4 s4 hT h4 => ?_)
        walk_at "gg"
        have hvl : vs.length = acc.length := by rw [dq.len, List.length_map]
        refine g_append h4 (by walk_at "c") (szl (by omega)) (fun H5 h5 => ?_)
        walk_at "gg"
        refine ⟨(xs.length - (i + 1)) + (ys.length - (j + 1)), by omega, i + 1, j + 1, acc ++ [(i, j)], _, F', rfl, sF.trans s4, h5, ?_, ?_, by omega, by omega, by rw [List.length_append]; show acc.length + 1 ≤ _; omega, rfl⟩
        · rw [List.map_append]
          exact (dq.up s4 _ _).snoc (.tup hT (.cons (.int _) (.cons (.int _) .nil)))
        · rw [← ea, ma, List.append_assoc]
          rfl
      · rw [if_neg e] at ma
        walk_at "gg"
        refine g_tabAt tab3 (by omega) (by omega) (fun r hr => ?_)
        walk_at "gg"
        refine g_ixV hr (by omega) (by rw [List.length_map, List.length_range]; omega) (fun v hv => ?_)
        rw [List.getElem?_map, List.getElem?_range (by omega)] at hv
        have hv' := (Option.some.inj hv).symm
        subst hv'
        walk_at "gg"
        refine g_tabAt tab3 (by omega) (by omega) (fun r hr => ?_)
        walk_at "gg"
        refine g_ixV hr (by omega) (by rw [List.length_map, List.length_range]; omega) (fun v hv => ?_)
        rw [List.getElem?_map, List.getElem?_range (by omega)] at hv
        have hv' := (Option.some.inj hv).symm
        subst hv'
        walk_at "gg"
        have e1 : ((i : Int) + 1).toNat = i + 1 := by omega
        have e2 : ((j : Int) + 1).toNat = j + 1 := by omega
        rw [e1, e2]
        refine i_d (fun g => ?_) (fun g => ?_)
        · have g' : lc (xs.drop (i + 1)) (ys.drop j) ≥ lc (xs.drop i) (ys.drop (j + 1)) := Int.ofNat_le.mp g
          rw [if_pos g'] at ma
          walk_at "gg"
          exact ⟨(xs.length - (i + 1)) + (ys.length - j), by omega, i + 1, j, acc, vs, F, rfl, sF, h3, dq, by rw [← ea, ma], by omega, hj, by omega, rfl⟩
        · have g' : ¬ lc (xs.drop (i + 1)) (ys.drop j) ≥ lc (xs.drop i) (ys.drop (j + 1)) := fun z => g (Int.ofNat_le.mpr z)
          rw [if_neg g'] at ma
          walk_at "gg"
          exact ⟨(xs.length - i) + (ys.length - (j + 1)), by omega, i, j + 1, acc, vs, F, rfl, sF, h3, dq, by rw [← ea, ma], hi, by omega, by omega, rfl⟩
    | false =>
      have hij : xs.length ≤ i ∨ ys.length ≤ j := by
        have : ¬ (i < xs.length ∧ j < ys.length) := fun z => Bool.false_ne_true (hc.mpr z)
        omega
      refine kwh_f ?_
      rw [mt_end hij, List.append_nil] at ea
      subst ea
      walk_at "gg"
      exact q p H3 vs (s0.trans (sF.trans h3.same)) (s0.free n2) (by walk_at "h") (dq.up h3.same _ _)

end

theorem prd_inv {F : Hp} {v : V} {p : Nat × Nat} (h : Dq F v (prd p)) : ∃ T, v = .ref T ∧ F T = some (.tup [.int p.1, .int p.2]) := by
  cases h with
  | tup hT hs =>
    cases hs with
    | cons h1 hs =>
      cases hs with
      | cons h2 hs =>
        cases hs
        cases h1
        cases h2
        exact ⟨_, rfl, hT⟩
theorem prd_rm {H : Hp} {a : Addr} {o : HO} (h : H a = some o) (ho : ∀ xs, o ≠ .tup xs) : ∀ {vs : List V} {ps : List (Nat × Nat)}, DqAll H vs (ps.map prd) → DqAll (rm H a) vs (ps.map prd)
  | _, [], .nil => .nil
  | _, p :: ps, .cons d t => by
    refine .cons ?_ (prd_rm h ho t)
    obtain ⟨T, rfl, hT⟩ := prd_inv d
    refine .tup ?_ (.cons (.int _) (.cons (.int _) .nil))
    rw [rm_ne (ne_of hT h (fun e => ho _ e.symm))]
    exact hT
theorem prd_re {F H : Hp} {O : Own} (h : Has F O H) (ho : ∀ p ∈ O, ∀ xs, p.2 ≠ .tup xs) : ∀ {vs : List V} {ps : List (Nat × Nat)}, DqAll H vs (ps.map prd) → DqAll (rmO O H) vs (ps.map prd)
  | _, [], .nil => .nil
  | _, p :: ps, .cons d t => by
    refine .cons ?_ (prd_re h ho t)
    obtain ⟨T, rfl, hT⟩ := prd_inv d
    exact .tup (h.re_of hT fun p hp => ho p hp _) (.cons (.int _) (.cons (.int _) .nil))

end K01

namespace K01
open PySem PySem.Spec PyProof.Rows L2 Qk
local macro_rules | `(tactic| walk_at "m") => `(tactic| ((repeat (first | exact List.Mem.head _ | apply List.Mem.tail)); done))
local macro_rules | `(tactic| walk_at "h") => `(tactic| first | assumption | exact Has.gF (by assumption) (by assumption) | exact Has.get (by assumption) (by walk_at "m"))
local macro_rules | `(tactic| walk_at "c") => `(tactic| ((repeat (first | exact Chg.hd | apply Chg.tl)); done))
local macro_rules | `(tactic| walk_at "is") => `(tactic| first
  | ((with_reducible refine' is2_non ?gh ?_); (case gh => walk_at "h"))
  | (with_reducible refine is_int_list ?_)
  | (with_reducible refine is_int_tuple ?_)
  | (with_reducible refine is_int_dict ?_)
  | (with_reducible refine is_int_int ?_)
  | (with_reducible refine is_int_bool ?_)
  | (with_reducible refine is_int_str ?_)
  | ((with_reducible refine' is2_int ?gh ?_); (case gh => walk_at "h"))
  | (with_reducible refine is_str_list ?_)
  | (with_reducible refine is_str_tuple ?_)
  | (with_reducible refine is_str_dict ?_)
  | (with_reducible refine is_str_int ?_)
  | (with_reducible refine is_str_bool ?_)
  | (with_reducible refine is_str_str ?_)
  | ((with_reducible refine' is2_str ?gh ?_); (case gh => walk_at "h"))
  | (with_reducible refine is_bool_list ?_)
  | (with_reducible refine is_bool_tuple ?_)
  | (with_reducible refine is_bool_dict ?_)
  | (with_reducible refine is_bool_int ?_)
  | (with_reducible refine is_bool_bool ?_)
  | (with_reducible refine is_bool_str ?_)
  | ((with_reducible refine' is2_bool ?gh ?_); (case gh => walk_at "h"))
  | ((with_reducible refine' is_list_list ?gh ?_); (case gh => walk_at "h"))
  | ((with_reducible refine' is_list_tuple ?gh ?_); (case gh => walk_at "h"))
  | ((with_reducible refine' is_list_dict ?gh ?_); (case gh => walk_at "h"))
  | ((with_reducible refine' is_list_int ?gh ?_); (case gh => walk_at "h"))
  | ((with_reducible refine' is_list_bool ?gh ?_); (case gh => walk_at "h"))
  | ((with_reducible refine' is_list_str ?gh ?_); (case gh => walk_at "h"))
  | ((with_reducible refine' is2_list ?ga ?gb ?_); (case ga => walk_at "h"); (case gb => walk_at "h"))
  | ((with_reducible refine' is_tuple_list ?gh ?_); (case gh => walk_at "h"))
  | ((with_reducible refine' is_tuple_tuple ?gh ?_); (case gh => walk_at "h"))
  | ((with_reducible refine' is_tuple_dict ?gh ?_); (case gh => walk_at "h"))
  | ((with_reducible refine' is_tuple_int ?gh ?_); (case gh => walk_at "h"))
  | ((with_reducible refine' is_tuple_bool ?gh ?_); (case gh => walk_at "h"))
  | ((with_reducible refine' is_tuple_str ?gh ?_); (case gh => walk_at "h"))
  | ((with_reducible refine' is2_tuple ?ga ?gb ?_); (case ga => walk_at "h"); (case gb => walk_at "h"))
  | ((with_reducible refine' is_dict_list ?gh ?_); (case gh => walk_at "h"))
  | ((with_reducible refine' is_dict_tuple ?gh ?_); (case gh => walk_at "h"))
  | ((with_reducible refine' is_dict_dict ?gh ?_); (case gh => walk_at "h"))
  | ((with_reducible refine' is_dict_int ?gh ?_); (case gh => walk_at "h"))
  | ((with_reducible refine' is_dict_bool ?gh ?_); (case gh => walk_at "h"))
  | ((with_reducible refine' is_dict_str ?gh ?_); (case gh => walk_at "h"))
  | ((with_reducible refine' is2_dict ?ga ?gb ?_); (case ga => walk_at "h"); (case gb => walk_at "h")))
local macro_rules | `(tactic| walk_at "g") => `(tactic| first
  | (with_reducible refine g_seq ?_)
  | (with_reducible refine g_asg ?_)
  | ((with_reducible refine g_name ?_); dsimp only [List.set, wipe, List.map])
  | ((with_reducible refine' g_var ?gv ?_); (case gv => exact rfl))
  | (with_reducible refine g_c ?_)
  | (with_reducible refine g_op ?_)
  | (with_reducible refine g_cons ?_)
  | (with_reducible refine g_nil ?_)
  | (with_reducible refine g_cb ?_)
  | (with_reducible refine g_call ?_)
  | (with_reducible refine g_tup ?_)
  | (with_reducible refine g_lst ?_)
  | (with_reducible refine g_bm ?_)
  | (with_reducible refine g_bm0 ?_)
  | ((with_reducible refine' g_kbm ?gh ?_); (case gh => walk_at "h"))
  | (with_reducible refine g_drop ?_)
  | (with_reducible refine g_ret ?_)
  | (with_reducible refine g_retN ?_)
  | (with_reducible refine g_next ?_)
  | (with_reducible refine g_brk ?_)
  | (with_reducible refine g_cont ?_)
  | (with_reducible refine g_if ?_)
  | ((with_reducible refine' g_aug ?gv ?_); (case gv => exact rfl))
  | (with_reducible refine g_ipI ?_)
  | (with_reducible refine g_test ?_)
  | (with_reducible refine g_tB ?_)
  | (with_reducible refine g_kB ?_)
  | (with_reducible refine g_not ?_)
  | (with_reducible refine g_and ?_)
  | (with_reducible refine g_or ?_)
  | (with_reducible refine g_andV ?_)
  | (with_reducible refine g_orV ?_)
  | (with_reducible refine g_notV ?_)
  | (with_reducible refine g_ifE ?_)
  | (with_reducible refine g_addI ?_)
  | (with_reducible refine g_rI0 ?_)
  | (with_reducible refine g_eqI ?_)
  | (with_reducible refine g_eqS ?_)
  | (with_reducible refine g_neI ?_)
  | (with_reducible refine g_neS ?_)
  | (with_reducible refine g_isN ?_)
  | (with_reducible refine g_notN ?_)
  | (with_reducible refine g_int ?_)
  | (with_reducible refine g_max2 ?_)
  | ((with_reducible refine' g_lenL ?gh ?_); (case gh => walk_at "h"))
  | (with_reducible refine g_sub ?_)
  | (with_reducible refine g_gcons ?_)
  | (with_reducible refine g_gnil ?_)
  | (with_reducible refine g_un ?_)
  | (with_reducible refine g_rU ?_)
  | (with_reducible refine g_forL ?_)
  | (with_reducible refine g_forR1 ?_)
  | (with_reducible refine g_forR2 ?_)
  | (with_reducible refine g_forR3 ?_)
  | (with_reducible refine g_lcL ?_)
  | (with_reducible refine g_lcR1 ?_)
  | (with_reducible refine g_lcR2 ?_)
  | (with_reducible refine g_slice ?_)
  | (with_reducible refine g_part ?_)
  | (with_reducible refine g_kOI ?_)
  | (with_reducible refine g_nopart ?_)
  | (with_reducible refine g_yes ?_)
  | ((with_reducible refine' g_wipe ?gv ?_); (case gv => exact rfl))
  | (with_reducible refine iteT ?_)
  | (with_reducible refine iteF ?_)
  | (with_reducible refine i_nf ?_)
  | (with_reducible refine i_nt ?_)
  | ((with_reducible refine' g_gtup ?gh ?gl ?_); (case gh => walk_at "h"); (case gl => exact rfl))
  | ((with_reducible refine' g_notinI ?gh ?_); (case gh => walk_at "h"))
  | ((with_reducible refine' g_inI ?gh ?_); (case gh => walk_at "h"))
  | ((with_reducible refine' g_kget2 ?gh ?_); (case gh => walk_at "h"))
  | ((with_reducible refine' g_kgotI ?gh ?_); (case gh => walk_at "h"))
  | (with_reducible refine g_tRev ?_)
  | (with_reducible refine g_neB ?_)
  | (with_reducible refine g_eqB ?_)
  | ((with_reducible refine' g_lenT ?gh ?_); (case gh => walk_at "h"))
  | (with_reducible refine g_star ?_)
  | ((with_reducible refine' g_kstarL ?gh ?_); (case gh => walk_at "h"))
  | ((with_reducible refine' g_kstarT ?gh ?_); (case gh => walk_at "h"))
  | (with_reducible refine g_tru ?_)
  | ((with_reducible refine' g_truL ?gh ?_); (case gh => walk_at "h"))
  | (with_reducible refine g_get2 ?_)
  | walk_at "is")
local macro_rules | `(tactic| walk_at "gg") => `(tactic| repeat walk_at "g")
local macro_rules | `(tactic| walk_at "sz") => `(tactic| (refine sz ?_; simp only [List.length_cons, List.length_nil, List.length_map, List.length_append, List.length_replicate]; omega))

/-! ### _law_same -/
/-- data that _law_same can go through, n deep -/
def so : Nat → PyData → Prop
  | 0, _ => False
  | n + 1, .list ds => ds.length ≤ 100000 ∧ ∀ d ∈ ds, so n d
  | n + 1, .tuple ds => ds.length ≤ 100000 ∧ ∀ d ∈ ds, so n d
  | _ + 1, .int _ => True
  | _ + 1, .str _ => True
  | _ + 1, .none => True
  | _ + 1, _ => False
section
variable {P : Program} {w : World} {K : PySem.W.Frag} {mg : Str → Option Value} {base : Heap}
def sp_l_same_n (K : PySem.W.Frag) (n : Nat) : Sp := fun vs H Q _ => ∃ (x y : V) (d : PyData), vs = [x, y] ∧ Dq H x d ∧ Dq H y d ∧ so n d ∧ ∀ H', Same H H' → Q (.bl true) H'
theorem sp_l_same_n_len {n vs H Q E} (h : sp_l_same_n K n vs H Q E) : vs.length = 2 := by
  obtain ⟨_, _, _, rfl, _⟩ := h
  rfl
theorem ok_l_same_n (T : Txt K mg) (n : Nat) : FnOk P w K mg base CX0 n T.f_l_same T.fd_l_same ["told", "due"] (sp_l_same_n K n) := by
  induction n with
  | zero =>
    refine ⟨fun _ _ _ _ h => sp_l_same_n_len h, fun _ _ _ _ _ _ _ _ _ _ _ _ _ h => ?_⟩
    obtain ⟨_, _, d, _, _, _, h, _⟩ := h
    cases d <;> exact h.elim
  | succ n GR =>
  refine T.F_l_same.ok sc_l_same (fun vs H Q E h => sp_l_same_n_len h) (fun cdv A outer s H vs Q E hr h => ?_)
  refine ⟨_, (pss_cons (ps_if (pt_val (pe_callB (cr_isK K) (by rfl) T.m_isinstance (by decide +kernel) (pa_cons (pv 1) (pa_cons (pe_tup (pa_cons (pe_bltn (v := .ty "list") (by rfl) T.m_list (by decide +kernel) rfl) (pa_cons (pe_bltn (v := .ty "tuple") (by rfl) T.m_tuple (by decide +kernel) rfl) pa_nil))) pa_nil)))) (pss_cons (ps_if (pt_cmpR (op_neK K hr.units) (pe_callB (cr_isK K) (by rfl) T.m_isinstance (by decide +kernel) (pa_cons (pv 0) (pa_cons (pe_bltn (v := .ty "list") (by rfl) T.m_list (by decide +kernel) rfl) pa_nil))) (pe_callB (cr_isK K) (by rfl) T.m_isinstance (by decide +kernel) (pa_cons (pv 1) (pa_cons (pe_bltn (v := .ty "list") (by rfl) T.m_list (by decide +kernel) rfl) pa_nil))) (nomark _)) (pss_one (ps_ret pe_bl)) pss_nil)
      (pss_cons (ps_if (PW.pt (pw_or (pt_cmpR (op_neK K hr.units) (pe_callB (cr_isK K) (by rfl) T.m_isinstance (by decide +kernel) (pa_cons (pv 0) (pa_cons (pe_bltn (v := .ty "tuple") (by rfl) T.m_tuple (by decide +kernel) rfl) pa_nil))) (pe_callB (cr_isK K) (by rfl) T.m_isinstance (by decide +kernel) (pa_cons (pv 1) (pa_cons (pe_bltn (v := .ty "tuple") (by rfl) T.m_tuple (by decide +kernel) rfl) pa_nil))) (nomark _)) (pw_or1 (pt_cmpR (op_neK K hr.units) (pe_callB (cr_lenK K) (by rfl) T.m_len (by decide +kernel) (pa_cons (pv 0) pa_nil)) (pe_callB (cr_lenK K) (by rfl) T.m_len (by decide +kernel) (pa_cons (pv 1) pa_nil)) (nomark _))))) (pss_one (ps_ret pe_bl)) pss_nil)
      (pss_cons (ps_for PassesOwn.never rfl (pi_range1 rfl T.m_range (pa_cons (pe_callB (cr_lenK K) (by rfl) T.m_len (by decide +kernel) (pa_cons (pv 1) pa_nil)) pa_nil)) (pg_name (i := 2) sc_l_same.nd rfl (.inl rfl)) (pss_one (ps_if (pt_not (pt_val (pe_call GR hr (by rfl) T.g_l_same T.F_l_same.kp T.b_l_same .nil pass0 (pa_cons (pe_ix (ix_K K (hu_of hr)) (pv 0) (pv 2) (fun _ _ => rfl)) (pa_cons (pe_ix (ix_K K (hu_of hr)) (pv 1) (pv 2) (fun _ _ => rfl)) pa_nil))))) (pss_one (ps_ret pe_bl)) pss_nil)))
      (pss_one (ps_ret pe_bl))))) pss_nil)
      (pss_cons (ps_if (pt_cmpR op_isNA (pv 1) pe_non (nomark _)) (pss_one (ps_ret (pe_cmpR op_isNA (pv 0) pe_non (nomark _)))) pss_nil)
      (pss_cons (ps_if (pt_val (pe_callB (cr_isK K) (by rfl) T.m_isinstance (by decide +kernel) (pa_cons (pv 1) (pa_cons (pe_bltn (v := .ty "int") (by rfl) T.m_int (by decide +kernel) rfl) pa_nil)))) (pss_one (ps_ret (pe_and (pe_callB (cr_isK K) (by rfl) T.m_isinstance (by decide +kernel) (pa_cons (pv 0) (pa_cons (pe_bltn (v := .ty "int") (by rfl) T.m_int (by decide +kernel) rfl) pa_nil))) (pe_and (pe_not (pe_callB (cr_isK K) (by rfl) T.m_isinstance (by decide +kernel) (pa_cons (pv 0) (pa_cons (pe_bltn (v := .ty "bool") (by rfl) T.m_bool (by decide +kernel) rfl) pa_nil)))) (pe_one (pe_cmpR (op_eqK K hr.units) (pv 0) (pv 1) (nomark _))))))) pss_nil)
      (pss_one (ps_ret (pe_and (pe_callB (cr_isK K) (by rfl) T.m_isinstance (by decide +kernel) (pa_cons (pv 0) (pa_cons (pe_bltn (v := .ty "str") (by rfl) T.m_str (by decide +kernel) rfl) pa_nil))) (pe_one (pe_cmpR (op_eqK K hr.units) (pv 0) (pv 1) (nomark _))))))))), ?_⟩
  obtain ⟨x, y, d, rfl, hx, hy, ho, q⟩ := h
  have hH := Has.start H
  refine g_start (σ' := [some (x), some (y), none]) rfl ?_
  cases d with
  | list ds =>
    cases hx with
    | @lst a xs _ ha dx =>
      cases hy with
      | @lst b ys _ hb dy =>
        walk_at "gg"
        refine g_ktupF (by walk_at "sz") hH (fun p1 H1 F1 n1 s1 f1 h1 => ?_)
        have ha1 := s1 _ _ ha
        have hb1 := s1 _ _ hb
        have dx1 := dx.up s1 _ _
        have dy1 := dy.up s1 _ _
        have lx : xs.length = ds.length := dx.len
        have ly : ys.length = ds.length := dy.len
        have lo : ds.length ≤ 100000 := ho.1
        walk_at "gg"
        refine i_n (fun z => (z rfl).elim) (fun _ => ?_)
        walk_at "gg"
        refine i_n (fun z => (z rfl).elim) (fun _ => ?_)
        walk_at "gg"
        refine i_n (fun z => (z (by rw [lx, ly])).elim) (fun _ => ?_)
        walk_at "gg"
        refine k_forR1 (fun i σ H' => ∃ y2, σ = [some (.ref a), some (.ref b), y2] ∧ Has F1 [] H') (by omega) (by omega) ⟨none, rfl, h1⟩ ?_ ?_
        · rintro i σ H2 hi ⟨y2, rfl, h2⟩
          walk_at "gg"
          refine g_ixV (by walk_at "h") (by omega) (by omega) (fun u hu => ?_)
          walk_at "gg"
          refine g_ixV (by walk_at "h") (by omega) (by omega) (fun v hv => ?_)
          walk_at "gg"
          obtain ⟨d1, e1, q1⟩ := dx1.get hu
          obtain ⟨d2, e2, q2⟩ := dy1.get hv
          have e3 : d1 = d2 := Option.some.inj (e1.symm.trans e2)
          subst e3
          refine ⟨u, v, d1, rfl, h2.dq q1, h2.dq q2, ho.2 d1 (List.mem_of_getElem? e1), fun H3 s3 => ?_⟩
          walk_at "gg"
          exact ⟨_, rfl, h2.on s3⟩
        · rintro σ H2 ⟨y2, rfl, h2⟩
          walk_at "gg"
          exact q H2 (s1.trans h2.same)
  | tuple ds =>
    cases hx with
    | @tup a xs _ ha dx =>
      cases hy with
      | @tup b ys _ hb dy =>
        walk_at "gg"
        refine g_ktupF (by walk_at "sz") hH (fun p1 H1 F1 n1 s1 f1 h1 => ?_)
        have ha1 := s1 _ _ ha
        have hb1 := s1 _ _ hb
        have dx1 := dx.up s1 _ _
        have dy1 := dy.up s1 _ _
        have lx : xs.length = ds.length := dx.len
        have ly : ys.length = ds.length := dy.len
        have lo : ds.length ≤ 100000 := ho.1
        walk_at "gg"
        refine i_n (fun z => (z rfl).elim) (fun _ => ?_)
        walk_at "gg"
        refine i_n (fun z => (z rfl).elim) (fun _ => ?_)
        walk_at "gg"
        refine i_n (fun z => (z (by rw [lx, ly])).elim) (fun _ => ?_)
        walk_at "gg"
        refine k_forR1 (fun i σ H' => ∃ y2, σ = [some (.ref a), some (.ref b), y2] ∧ Has F1 [] H') (by omega) (by omega) ⟨none, rfl, h1⟩ ?_ ?_
        · rintro i σ H2 hi ⟨y2, rfl, h2⟩
          walk_at "gg"
          refine g_ixVT (by walk_at "h") (by omega) (by omega) (fun u hu => ?_)
          walk_at "gg"
          refine g_ixVT (by walk_at "h") (by omega) (by omega) (fun v hv => ?_)
          walk_at "gg"
          obtain ⟨d1, e1, q1⟩ := dx1.get hu
          obtain ⟨d2, e2, q2⟩ := dy1.get hv
          have e3 : d1 = d2 := Option.some.inj (e1.symm.trans e2)
          subst e3
          refine ⟨u, v, d1, rfl, h2.dq q1, h2.dq q2, ho.2 d1 (List.mem_of_getElem? e1), fun H3 s3 => ?_⟩
          walk_at "gg"
          exact ⟨_, rfl, h2.on s3⟩
        · rintro σ H2 ⟨y2, rfl, h2⟩
          walk_at "gg"
          exact q H2 (s1.trans h2.same)
  | int i =>
    cases hx
    cases hy
    walk_at "gg"
    refine g_ktupF (by walk_at "sz") hH (fun p1 H1 F1 n1 s1 f1 h1 => ?_)
    walk_at "gg"
    refine i_d (fun z => by cases z) (fun _ => ?_)
    walk_at "gg"
    rw [decide_eq_true rfl]
    exact q H1 (s1.trans h1.same)
  | str z =>
    cases hx
    cases hy
    walk_at "gg"
    refine g_ktupF (by walk_at "sz") hH (fun p1 H1 F1 n1 s1 f1 h1 => ?_)
    walk_at "gg"
    refine i_d (fun z => by cases z) (fun _ => ?_)
    walk_at "gg"
    rw [decide_eq_true rfl]
    exact q H1 (s1.trans h1.same)
  | none =>
    cases hx
    cases hy
    walk_at "gg"
    refine g_ktupF (by walk_at "sz") hH (fun p1 H1 F1 n1 s1 f1 h1 => ?_)
    walk_at "gg"
    refine i_d (fun _ => ?_) (fun z => (z rfl).elim)
    walk_at "gg"
    rw [decide_eq_true rfl]
    exact q H1 (s1.trans h1.same)
  | bool b => exact ho.elim
  | dict kvs => exact ho.elim
def sp_l_same (K : PySem.W.Frag) : Sp := sp_l_same_n K 6
theorem ok_l_same (T : Txt K mg) : FnOk P w K mg base CX0 6 T.f_l_same T.fd_l_same ["told", "due"] (sp_l_same K) := ok_l_same_n T 6
end

end K01

namespace K01
open PySem PySem.Spec PyProof.Rows L2 Qk
local macro_rules | `(tactic| walk_at "m") => `(tactic| ((repeat (first | exact List.Mem.head _ | apply List.Mem.tail)); done))
local macro_rules | `(tactic| walk_at "h") => `(tactic| first | assumption | exact Has.gF (by assumption) (by assumption) | exact Has.get (by assumption) (by walk_at "m"))
local macro_rules | `(tactic| walk_at "c") => `(tactic| ((repeat (first | exact Chg.hd | apply Chg.tl)); done))
local macro_rules | `(tactic| walk_at "is") => `(tactic| first
  | ((with_reducible refine' is2_non ?gh ?_); (case gh => walk_at "h"))
  | (with_reducible refine is_int_list ?_)
  | (with_reducible refine is_int_tuple ?_)
  | (with_reducible refine is_int_dict ?_)
  | (with_reducible refine is_int_int ?_)
  | (with_reducible refine is_int_bool ?_)
  | (with_reducible refine is_int_str ?_)
  | ((with_reducible refine' is2_int ?gh ?_); (case gh => walk_at "h"))
  | (with_reducible refine is_str_list ?_)
  | (with_reducible refine is_str_tuple ?_)
  | (with_reducible refine is_str_dict ?_)
  | (with_reducible refine is_str_int ?_)
  | (with_reducible refine is_str_bool ?_)
  | (with_reducible refine is_str_str ?_)
  | ((with_reducible refine' is2_str ?gh ?_); (case gh => walk_at "h"))
  | (with_reducible refine is_bool_list ?_)
  | (with_reducible refine is_bool_tuple ?_)
  | (with_reducible refine is_bool_dict ?_)
  | (with_reducible refine is_bool_int ?_)
  | (with_reducible refine is_bool_bool ?_)
  | (with_reducible refine is_bool_str ?_)
  | ((with_reducible refine' is2_bool ?gh ?_); (case gh => walk_at "h"))
  | ((with_reducible refine' is_list_list ?gh ?_); (case gh => walk_at "h"))
  | ((with_reducible refine' is_list_tuple ?gh ?_); (case gh => walk_at "h"))
  | ((with_reducible refine' is_list_dict ?gh ?_); (case gh => walk_at "h"))
  | ((with_reducible refine' is_list_int ?gh ?_); (case gh => walk_at "h"))
  | ((with_reducible refine' is_list_bool ?gh ?_); (case gh => walk_at "h"))
  | ((with_reducible refine' is_list_str ?gh ?_); (case gh => walk_at "h"))
  | ((with_reducible refine' is2_list ?ga ?gb ?_); (case ga => walk_at "h"); (case gb => walk_at "h"))
  | ((with_reducible refine' is_tuple_list ?gh ?_); (case gh => walk_at "h"))
  | ((with_reducible refine' is_tuple_tuple ?gh ?_); (case gh => walk_at "h"))
  | ((with_reducible refine' is_tuple_dict ?gh ?_); (case gh => walk_at "h"))
  | ((with_reducible refine' is_tuple_int ?gh ?_); (case gh => walk_at "h"))
  | ((with_reducible refine' is_tuple_bool ?gh ?_); (case gh => walk_at "h"))
  | ((with_reducible refine' is_tuple_str ?gh ?_); (case gh => walk_at "h"))
  | ((with_reducible refine' is2_tuple ?ga ?gb ?_); (case ga => walk_at "h"); (case gb => walk_at "h"))
  | ((with_reducible refine' is_dict_list ?gh ?_); (case gh => walk_at "h"))
  | ((with_reducible refine' is_dict_tuple ?gh ?_); (case gh => walk_at "h"))
  | ((with_reducible refine' is_dict_dict ?gh ?_); (case gh => walk_at "h"))
  | ((with_reducible refine' is_dict_int ?gh ?_); (case gh => walk_at "h"))
  | ((with_reducible refine' is_dict_bool ?gh ?_); (case gh => walk_at "h"))
  | ((with_reducible refine' is_dict_str ?gh ?_); (case gh => walk_at "h"))
  | ((with_reducible refine' is2_dict ?ga ?gb ?_); (case ga => walk_at "h"); (case gb => walk_at "h")))
local macro_rules | `(tactic| walk_at "g") => `(tactic| first
  | (with_reducible refine g_seq ?_)
  | (with_reducible refine g_asg ?_)
  | ((with_reducible refine g_name ?_); dsimp only [List.set, wipe, List.map])
  | ((with_reducible refine' g_var ?gv ?_); (case gv => exact rfl))
  | (with_reducible refine g_c ?_)
  | (with_reducible refine g_op ?_)
  | (with_reducible refine g_cons ?_)
  | (with_reducible refine g_nil ?_)
  | (with_reducible refine g_cb ?_)
  | (with_reducible refine g_call ?_)
  | (with_reducible refine g_tup ?_)
  | (with_reducible refine g_lst ?_)
  | (with_reducible refine g_bm ?_)
  | (with_reducible refine g_bm0 ?_)
  | ((with_reducible refine' g_kbm ?gh ?_); (case gh => walk_at "h"))
  | (with_reducible refine g_drop ?_)
  | (with_reducible refine g_ret ?_)
  | (with_reducible refine g_retN ?_)
  | (with_reducible refine g_next ?_)
  | (with_reducible refine g_brk ?_)
  | (with_reducible refine g_cont ?_)
  | (with_reducible refine g_if ?_)
  | ((with_reducible refine' g_aug ?gv ?_); (case gv => exact rfl))
  | (with_reducible refine g_ipI ?_)
  | (with_reducible refine g_test ?_)
  | (with_reducible refine g_tB ?_)
  | (with_reducible refine g_kB ?_)
  | (with_reducible refine g_not ?_)
  | (with_reducible refine g_and ?_)
  | (with_reducible refine g_or ?_)
  | (with_reducible refine g_andV ?_)
  | (with_reducible refine g_orV ?_)
  | (with_reducible refine g_notV ?_)
  | (with_reducible refine g_ifE ?_)
  | (with_reducible refine g_addI ?_)
  | (with_reducible refine g_rI0 ?_)
  | (with_reducible refine g_eqI ?_)
  | (with_reducible refine g_eqS ?_)
  | (with_reducible refine g_neI ?_)
  | (with_reducible refine g_neS ?_)
  | (with_reducible refine g_isN ?_)
  | (with_reducible refine g_notN ?_)
  | (with_reducible refine g_int ?_)
  | (with_reducible refine g_max2 ?_)
  | ((with_reducible refine' g_lenL ?gh ?_); (case gh => walk_at "h"))
  | (with_reducible refine g_sub ?_)
  | (with_reducible refine g_gcons ?_)
  | (with_reducible refine g_gnil ?_)
  | (with_reducible refine g_un ?_)
  | (with_reducible refine g_rU ?_)
  | (with_reducible refine g_forL ?_)
  | (with_reducible refine g_forR1 ?_)
  | (with_reducible refine g_forR2 ?_)
  | (with_reducible refine g_forR3 ?_)
  | (with_reducible refine g_lcL ?_)
  | (with_reducible refine g_lcR1 ?_)
  | (with_reducible refine g_lcR2 ?_)
  | (with_reducible refine g_slice ?_)
  | (with_reducible refine g_part ?_)
  | (with_reducible refine g_kOI ?_)
  | (with_reducible refine g_nopart ?_)
  | (with_reducible refine g_yes ?_)
  | ((with_reducible refine' g_wipe ?gv ?_); (case gv => exact rfl))
  | (with_reducible refine iteT ?_)
  | (with_reducible refine iteF ?_)
  | (with_reducible refine i_nf ?_)
  | (with_reducible refine i_nt ?_)
  | ((with_reducible refine' g_gtup ?gh ?gl ?_); (case gh => walk_at "h"); (case gl => exact rfl))
  | ((with_reducible refine' g_notinI ?gh ?_); (case gh => walk_at "h"))
  | ((with_reducible refine' g_inI ?gh ?_); (case gh => walk_at "h"))
  | ((with_reducible refine' g_kget2 ?gh ?_); (case gh => walk_at "h"))
  | ((with_reducible refine' g_kgotI ?gh ?_); (case gh => walk_at "h"))
  | (with_reducible refine g_tRev ?_)
  | (with_reducible refine g_neB ?_)
  | (with_reducible refine g_eqB ?_)
  | ((with_reducible refine' g_lenT ?gh ?_); (case gh => walk_at "h"))
  | (with_reducible refine g_star ?_)
  | ((with_reducible refine' g_kstarL ?gh ?_); (case gh => walk_at "h"))
  | ((with_reducible refine' g_kstarT ?gh ?_); (case gh => walk_at "h"))
  | (with_reducible refine g_tru ?_)
  | ((with_reducible refine' g_truL ?gh ?_); (case gh => walk_at "h"))
  | (with_reducible refine g_get2 ?_)
  | walk_at "is")
local macro_rules | `(tactic| walk_at "gg") => `(tactic| repeat walk_at "g")
local macro_rules | `(tactic| walk_at "sz") => `(tactic| (refine sz ?_; simp only [List.length_cons, List.length_nil, List.length_map, List.length_append, List.length_replicate]; omega))

/-! ### the draws: a list of pairs -/
def cellD (p : Int × Int) : PyData := .list [.int p.1, .int p.2]
theorem cell_inv {F : Hp} {v : V} {p : Int × Int} (h : Dq F v (cellD p)) : ∃ r, v = .ref r ∧ F r = some (.lst [.int p.1, .int p.2]) := by
  cases h with
  | lst hT hs =>
    cases hs with
    | cons h1 hs =>
      cases hs with
      | cons h2 hs =>
        cases hs
        cases h1
        cases h2
        exact ⟨_, rfl, hT⟩
theorem cells_sh (rows : List (Int × Int)) : Sh 2 (.list (rows.map cellD)) := Sh.list fun d hd => by
  obtain ⟨p, _, rfl⟩ := List.mem_map.mp hd
  exact Sh.list fun d hd => by
    rcases List.mem_cons.mp hd with rfl | hd
    · exact Sh.int _
    · rw [List.mem_singleton.mp hd]
      exact Sh.int _
/-- the draws stand at c: what is left, each number with its count -/
structure Cells (F : Hp) (c : Addr) (H : Hp) (vs : List V) : Prop where
  at_ : H c = some (.lst vs)
  dq : ∃ rows : List (Int × Int), DqAll F vs (rows.map cellD) ∧ rows.length ≤ 100
section
variable {P : Program} {w : World} {K : PySem.W.Frag} {mg : Str → Option Value} {base : Heap}
def sp_l_feed (K : PySem.W.Frag) : Sp := fun vs H Q _ => ∃ (a : Addr) (ns : List Int), vs = [.ref a] ∧ SqL K H a (ns.map V.int) ∧ ns.length ≤ 63 ∧
  ∀ p H' F' (vs : List V) (rows : List (Int × Int)), H p = none → Same H F' → Has F' [(p, .lst vs)] H' → DqAll F' vs (rows.map cellD) → rows.length ≤ 100 → Q (.ref p) H'
theorem sp_l_feed_len {vs H Q E} (h : sp_l_feed K vs H Q E) : vs.length = 1 := by
  obtain ⟨_, _, rfl, _⟩ := h
  rfl
theorem ok_l_feed (T : Txt K mg) : FnOk P w K mg base CX0 1 T.f_l_feed T.fd_l_feed ["script"] (sp_l_feed K) := by
  refine T.F_l_feed.ok sc_l_feed (fun vs H Q E h => sp_l_feed_len h) (fun cdv A outer s H vs Q E hr h => ?_)
  refine ⟨_, (pss_one (ps_ret (pe_lc (own := [("cell", 1)]) (g := gName 1) (tt := tYes) rfl sc_l_feed.nd (k_il K (pi_list (pe_slice (sl_K K) (pv 0) po_none (po_some pe_int)))) (blkOk_by (N := n_l_feed) (sc := defScope s_l_feed) (by decide +kernel)) (fun _ _ _ _ _ => (pg_name (i := 1) sc_l_feed.nd rfl (.inl rfl))) (fun _ _ _ _ _ => pts_nil) (fun _ _ _ _ _ => (pe_lst (pa_cons (pe_callB cr_abs1 (by rfl) T.m_abs (by decide +kernel) (pa_cons (pe_callTy cr_int1 (by rfl) T.m_int (by decide +kernel) (pa_cons (pv 1) pa_nil)) pa_nil)) (pa_cons pe_int pa_nil))))))), ?_⟩
  obtain ⟨a, ns, rfl, ha, hn, q⟩ := h
  have hH := Has.start H
  refine g_start (σ' := [some (.ref a), none]) rfl ?_
  walk_at "gg"
  refine g_slS ha hH (fun p2 H2 n2 hH2 => ?_)
  obtain ⟨ms, em, lm⟩ := cutV_ints ns none (some 63)
  rw [em] at hH2
  refine k_lcL (by walk_at "h") hH2 (fun i acc F' O' => ∃ rows : List (Int × Int), DqAll F' acc (rows.map cellD) ∧ rows.length = i ∧ Same H F' ∧ O' = [(p2, .lst (ms.map V.int))]) ⟨[], .nil, rfl, Same.refl _, rfl⟩ ?_ ?_ ?_
  · rintro i acc F' O' H3 ⟨rows, dq, rfl, sF, rfl⟩ hh
    walk_at "h"
  · rintro i x acc F' O' D H3 hx ⟨rows, dq, rfl, sF, rfl⟩ hh
    rw [List.getElem?_map] at hx
    obtain ⟨z, hz, rfl⟩ := Option.map_eq_some_iff.mp hx
    have hl : rows.length < ms.length := (List.getElem?_eq_some_iff.mp hz).1
    have hal : acc.length = rows.length := by rw [dq.len, List.length_map]
    walk_at "gg"
    refine g_abs (fun j hj => ?_)
    walk_at "gg"
    refine g_klstF (by walk_at "sz") hh (fun r H4 F4 n4 s4 f4 h4 => ?_)
    refine k_turn h4 (by omega) ⟨rows ++ [(j, 0)], ?_, by rw [List.length_append]; rfl, sF.trans s4, rfl⟩
    rw [List.map_append]
    exact (dq.up s4 _ _).snoc (.lst f4 (.cons (.int _) (.cons (.int _) .nil)))
  · rintro acc F' O' D H3 ⟨rows, dq, hk, sF, rfl⟩ hh
    rw [List.length_map] at hk
    exact q D H3 F' acc rows (sF.free hh.free) sF (hh.sub (.cons_cons _ (.cons _ (List.Sublist.refl _)))) dq (by omega)
theorem Grow.refl (F H : Hp) : Grow F H F := ⟨Same.refl F, fun _ _ => rfl⟩
theorem Grow.new {F H : Hp} {p : Addr} {o : HO} (n : H p = none) (f : F p = none) : Grow F H (upd F p o) := ⟨same_upd f, fun b h => upd_ne (fun z => h (by rw [z]; exact n))⟩
theorem Grow.new2 {F H F1 : Hp} {p : Addr} {o : HO} (g : Grow F H F1) (n : H p = none) (f : F1 p = none) : Grow F H (upd F1 p o) := ⟨g.1.trans (same_upd f), fun b h => by rw [upd_ne (fun z => h (by rw [z]; exact n))]; exact g.2 b h⟩
def sp_l_next (K : PySem.W.Frag) : Sp := fun vs H Q _ => ∃ (c : Addr) (m : Int) (F : Hp) (ws : List V) (rows : List (Int × Int)), vs = [.ref c, .int m] ∧ Has F [(c, .lst ws)] H ∧ DqAll F ws (rows.map cellD) ∧ rows.length ≤ 100 ∧ 0 < m ∧ m < 1000000 ∧
  ∀ H' F' (ws' : List V) (rows' : List (Int × Int)) (r : Int), But c H H' → Grow F H F' → Has F' [(c, .lst ws')] H' → DqAll F' ws' (rows'.map cellD) → rows'.length ≤ 100 → 0 ≤ r → r < m → Q (.int r) H'
theorem sp_l_next_len {vs H Q E} (h : sp_l_next K vs H Q E) : vs.length = 2 := by
  obtain ⟨_, _, _, _, _, rfl, _⟩ := h
  rfl
theorem same_upd2 {F G : Hp} {p : Addr} {o : HO} (s : Same F G) : Same (upd F p o) (upd G p o) := fun b u q => by
  by_cases e : b = p
  · subst e
    rw [upd_same] at q ⊢
    exact q
  · rw [upd_ne e] at q ⊢
    exact s b u q
theorem ok_l_next (T : Txt K mg) : FnOk P w K mg base CX0 1 T.f_l_next T.fd_l_next ["cells", "many"] (sp_l_next K) := by
  refine T.F_l_next.ok sc_l_next (fun vs H Q E h => sp_l_next_len h) (fun cdv A outer s H vs Q E hr h => ?_)
  refine ⟨_, (pss_cons (ps_if (pt_cmpR (op_eqK K hr.units) (pv 0) (pe_lst pa_nil) (nomark _)) (pss_one (ps_ret pe_int)) pss_nil)
      (pss_cons (ps_set (i := 2) sc_l_next.nd rfl (.inl rfl) (pe_op op_mod (pe_callTy cr_int1 (by rfl) T.m_int (by decide +kernel) (pa_cons (pe_ix (ix_K K (hu_of hr)) (pe_ix (ix_K K (hu_of hr)) (pv 0) pe_int (fun _ _ => rfl)) pe_int (fun _ _ => rfl)) pa_nil)) (pv 1)))
      (pss_cons (ps_asg (pe_lst (pa_cons (pe_op op_fdiv (pe_ix (ix_K K (hu_of hr)) (pe_ix (ix_K K (hu_of hr)) (pv 0) pe_int (fun _ _ => rfl)) pe_int (fun _ _ => rfl)) (pv 1)) (pa_cons (pe_op (op_addK K) (pe_ix (ix_K K (hu_of hr)) (pe_ix (ix_K K (hu_of hr)) (pv 0) pe_int (fun _ _ => rfl)) pe_int (fun _ _ => rfl)) pe_int) pa_nil))) (pg_sub (pv 0) pe_int (set_any (hu_of hr))))
      (pss_cons (ps_if (PW.pt (pw_or (pt_cmpR (op_eqK K hr.units) (pe_ix (ix_K K (hu_of hr)) (pe_ix (ix_K K (hu_of hr)) (pv 0) pe_int (fun _ _ => rfl)) pe_int (fun _ _ => rfl)) pe_int (nomark _)) (pw_or1 (pt_cmpR (op_eqK K hr.units) (pe_ix (ix_K K (hu_of hr)) (pe_ix (ix_K K (hu_of hr)) (pv 0) pe_int (fun _ _ => rfl)) pe_int (fun _ _ => rfl)) pe_int (nomark _))))) (pss_one (ps_expr (k_bm K (pe_bm PySem.F.plainAttrs_list PySem.F.slot_list_pop PySem.F.type_list_pop mt_popAt (pv 0) (pa_cons pe_int pa_nil))))) pss_nil)
      (pss_one (ps_ret (pv 2))))))), ?_⟩
  obtain ⟨c, m, F, ws, rows, rfl, hH, dq0, hl, hm0, hm, q⟩ := h
  have sFG : Same F (rm H c) := same_rm hH.same hH.free
  have dq := dq0.up sFG _ _
  have hR := Has.arg (hH.get (List.Mem.head _))
  generalize hG : rm H c = G at *
  refine g_start (σ' := [some (.ref c), some (.int m), none]) rfl ?_
  walk_at "gg"
  refine g_klst (by walk_at "sz") hR (fun t H1 n1 hR1 => ?_)
  have hR1' := hR1.drop
  have hc1 := hR1'.get (List.Mem.head _)
  refine g_eqD (.lst hc1 (dq.up hR1'.same _ _)) (.lst (hR1.get (List.Mem.head _)) .nil) ((cells_sh rows).ok (by decide)) (by decide +kernel) ?_
  walk_at "gg"
  cases rows with
  | nil =>
    cases dq
    refine i_b (fun _ => ?_) (fun z => ?_)
    · walk_at "gg"
      exact q H1 F [] [] 0 (But.of (by rw [hG]; exact hR1.same)) (Grow.refl _ _) (hR1'.mono sFG) .nil (by simp) (by omega) hm0
    · rw [List.map_nil, PyData.eqv, PyData.eqvAll] at z
      cases z
  | cons row rows =>
    cases dq with
    | @cons v vs _ _ dv dvs =>
    cases dq0 with
    | cons dv0 dvs0 =>
    obtain ⟨r, rfl, hr⟩ := cell_inv dv
    refine i_b (fun z => ?_) (fun _ => ?_)
    · rw [List.map_cons, PyData.eqv, PyData.eqvAll] at z
      cases z
    have hr1 := hR1'.same _ _ hr
    walk_at "gg"
    refine g_ixL (v := .ref r) hc1 (atI_nat (j := 0) rfl) ?_
    walk_at "gg"
    refine g_ixL (v := .int row.1) hr1 (atI_nat (j := 0) rfl) ?_
    walk_at "gg"
    refine g_rI hm0 ?_
    walk_at "gg"
    refine g_ixL (v := .ref r) hc1 (atI_nat (j := 0) rfl) ?_
    walk_at "gg"
    refine g_ixL (v := .int row.1) hr1 (atI_nat (j := 0) rfl) ?_
    walk_at "gg"
    refine g_rI ⟨by omega, by omega⟩ ?_
    walk_at "gg"
    refine g_ixL (v := .ref r) hc1 (atI_nat (j := 0) rfl) ?_
    walk_at "gg"
    refine g_ixL (v := .int row.2) hr1 (atI_nat (j := 1) rfl) ?_
    walk_at "gg"
    refine g_klst (by walk_at "sz") hR1' (fun p H2 n2 hR2 => ?_)
    have fp : F p = none := sFG.free hR2.free
    have np : H p = none := by
      have nd : p ≠ c := by
        have := hR2.nd
        simp only [List.map_cons, List.map_nil, List.nodup_cons, List.mem_singleton] at this
        exact this.1
      have e := hR2.free
      rw [← hG, rm_ne nd] at e
      exact e
    have hR3 := hR2.frz
    have sG3 := hR2.grow
    have dv2 : Dq (upd F p (.lst [.int (row.1 / m), .int (row.2 + 1)])) (.ref p) (cellD (row.1 / m, row.2 + 1)) := .lst upd_same (.cons (.int _) (.cons (.int _) .nil))
    have dvs2 := dvs0.up (same_upd (o := .lst [.int (row.1 / m), .int (row.2 + 1)]) fp) _ _
    have gF : Grow F H (upd F p (.lst [.int (row.1 / m), .int (row.2 + 1)])) := Grow.new np fp
    have hp3 : upd G p (.lst [.int (row.1 / m), .int (row.2 + 1)]) p = some (.lst [.int (row.1 / m), .int (row.2 + 1)]) := upd_same
    walk_at "gg"
    refine g_stL (j := 0) hR3 (by walk_at "c") (ixN_nat (by decide) (by rw [List.length_cons]; omega)) (fun H4 hR4 => ?_)
    have fin : ∀ (H5 : Hp) (ws' : List V) (rows' : List (Int × Int)), Has (upd G p (.lst [.int (row.1 / m), .int (row.2 + 1)])) [(c, .lst ws')] H5 → DqAll (upd F p (.lst [.int (row.1 / m), .int (row.2 + 1)])) ws' (rows'.map cellD) → rows'.length ≤ 100 → Q (.int (row.1 % m)) H5 := fun H5 ws' rows' h5 d5 l5 =>
      q H5 _ ws' rows' _ (But.of (by rw [hG]; exact sG3.trans h5.same)) gF (h5.mono (same_upd2 sFG)) d5 l5 (Int.emod_nonneg _ (by omega)) (Int.emod_lt_of_pos _ hm0)
    have hc4 := hR4.get (List.Mem.head _)
    have hp4 := hR4.same _ _ hp3
    walk_at "g"
    walk_at "g"
    refine g_fact (fun _ => True) (fun R r => ?_) (fun b _ => ?_)
    · walk_at "gg"
      refine g_ixL (v := .ref p) hc4 (atI_nat (j := 0) rfl) ?_
      walk_at "gg"
      refine g_ixL (v := .int (row.1 / m)) hp4 (atI_nat (j := 0) rfl) ?_
      walk_at "gg"
      refine i_d (fun _ => r _ trivial) (fun _ => ?_)
      walk_at "gg"
      refine g_ixL (v := .ref p) hc4 (atI_nat (j := 0) rfl) ?_
      walk_at "gg"
      refine g_ixL (v := .int (row.2 + 1)) hp4 (atI_nat (j := 1) rfl) ?_
      walk_at "gg"
      exact r _ trivial
    refine i_b (fun _ => ?_) (fun _ => ?_)
    · walk_at "gg"
      refine g_popAt (k := 0) (y := .ref p) hR4 (by walk_at "c") (by omega) (by omega) (ixN_seq (ixN_nat (k := 0) (by decide) (by rw [List.length_set, List.length_cons]; omega))).1 rfl (fun H5 h5 => ?_)
      walk_at "gg"
      exact fin H5 vs rows h5 dvs2 (by rw [List.length_cons] at hl; omega)
    · walk_at "gg"
      exact fin H4 (.ref p :: vs) ((row.1 / m, row.2 + 1) :: rows) hR4 (.cons dv2 dvs2) hl
theorem Has.drawn {F F' H H' : Hp} {O : Own} {c : Addr} {ws ws' : List V} (h : Has F ((c, .lst ws) :: O) H) (hb : But c H H') (g : Grow F H F') (s : Has F' [(c, .lst ws')] H') : Has F' ((c, .lst ws') :: O) H' :=
  h.grown .hd hb g s.same (s.get (List.Mem.head _))
def sp_l_menu (K : PySem.W.Frag) : Sp := fun vs H Q _ => ∃ i : Int, vs = [.int i] ∧ ∀ H' z, Same H H' → PyData.strOk z = true → Q (.str z) H'
theorem sp_l_menu_len {vs H Q E} (h : sp_l_menu K vs H Q E) : vs.length = 1 := by
  obtain ⟨_, rfl, _⟩ := h
  rfl
theorem ok_l_menu (T : Txt K mg) : FnOk P w K mg base CX0 1 T.f_l_menu T.fd_l_menu ["place"] (sp_l_menu K) := by
  refine T.F_l_menu.ok sc_l_menu (fun vs H Q E h => sp_l_menu_len h) (fun cdv A outer s H vs Q E hr h => ?_)
  refine ⟨_, (pss_cons (ps_set (i := 1) sc_l_menu.nd rfl (.inl rfl) (pe_lst (pa_cons pe_str (pa_cons pe_str (pa_cons pe_str (pa_cons pe_str (pa_cons pe_str (pa_cons pe_str (pa_cons pe_str (pa_cons pe_str (pa_cons pe_str (pa_cons pe_str (pa_cons pe_str (pa_cons pe_str pa_nil))))))))))))))
      (pss_cons (ps_set (i := 1) sc_l_menu.nd rfl (.inl rfl) (pe_op (op_addK K) (pv 1) (pe_lst (pa_cons pe_str (pa_cons pe_str (pa_cons pe_str (pa_cons pe_str pa_nil)))))))
      (pss_one (ps_ret (pe_ix (ix_K K (hu_of hr)) (pv 1) (pe_op op_mod (pe_callTy cr_int1 (by rfl) T.m_int (by decide +kernel) (pa_cons (pv 0) pa_nil)) pe_int) (fun _ _ => rfl)))))), ?_⟩
  obtain ⟨i, rfl, q⟩ := h
  have hH := Has.start H
  refine g_start (σ' := [some (.int i), none]) rfl ?_
  walk_at "gg"
  refine g_klst (by walk_at "sz") hH (fun p1 H1 n1 hH1 => ?_)
  walk_at "gg"
  refine g_klst (by walk_at "sz") hH1 (fun p2 H2 n2 hH2 => ?_)
  refine g_addL (by walk_at "h") (by walk_at "h") (by walk_at "sz") hH2 (fun p3 H3 n3 hH3 => ?_)
  walk_at "gg"
  refine g_rI (by show (0 : Int) < 16; decide) ?_
  refine g_ixM (by walk_at "h") (by decide +kernel) (Int.emod_nonneg _ (by decide)) (by show _ < (16 : Int); exact Int.emod_lt_of_pos _ (by decide)) (fun z hz => ?_)
  exact q H3 z hH3.same hz
end

end K01

namespace K01
open PySem PySem.Spec PyProof.Rows L2 Qk
local macro_rules | `(tactic| walk_at "m") => `(tactic| ((repeat (first | exact List.Mem.head _ | apply List.Mem.tail)); done))
local macro_rules | `(tactic| walk_at "h") => `(tactic| first | assumption | exact Has.gF (by assumption) (by assumption) | exact Has.get (by assumption) (by walk_at "m"))
local macro_rules | `(tactic| walk_at "c") => `(tactic| ((repeat (first | exact Chg.hd | apply Chg.tl)); done))
local macro_rules | `(tactic| walk_at "is") => `(tactic| first
  | ((with_reducible refine' is2_non ?gh ?_); (case gh => walk_at "h"))
  | (with_reducible refine is_int_list ?_)
  | (with_reducible refine is_int_tuple ?_)
  | (with_reducible refine is_int_dict ?_)
  | (with_reducible refine is_int_int ?_)
  | (with_reducible refine is_int_bool ?_)
  | (with_reducible refine is_int_str ?_)
  | ((with_reducible refine' is2_int ?gh ?_); (case gh => walk_at "h"))
  | (with_reducible refine is_str_list ?_)
  | (with_reducible refine is_str_tuple ?_)
  | (with_reducible refine is_str_dict ?_)
  | (with_reducible refine is_str_int ?_)
  | (with_reducible refine is_str_bool ?_)
  | (with_reducible refine is_str_str ?_)
  | ((with_reducible refine' is2_str ?gh ?_); (case gh => walk_at "h"))
  | (with_reducible refine is_bool_list ?_)
  | (with_reducible refine is_bool_tuple ?_)
  | (with_reducible refine is_bool_dict ?_)
  | (with_reducible refine is_bool_int ?_)
  | (with_reducible refine is_bool_bool ?_)
  | (with_reducible refine is_bool_str ?_)
  | ((with_reducible refine' is2_bool ?gh ?_); (case gh => walk_at "h"))
  | ((with_reducible refine' is_list_list ?gh ?_); (case gh => walk_at "h"))
  | ((with_reducible refine' is_list_tuple ?gh ?_); (case gh => walk_at "h"))
  | ((with_reducible refine' is_list_dict ?gh ?_); (case gh => walk_at "h"))
  | ((with_reducible refine' is_list_int ?gh ?_); (case gh => walk_at "h"))
  | ((with_reducible refine' is_list_bool ?gh ?_); (case gh => walk_at "h"))
  | ((with_reducible refine' is_list_str ?gh ?_); (case gh => walk_at "h"))
  | ((with_reducible refine' is2_list ?ga ?gb ?_); (case ga => walk_at "h"); (case gb => walk_at "h"))
  | ((with_reducible refine' is_tuple_list ?gh ?_); (case gh => walk_at "h"))
  | ((with_reducible refine' is_tuple_tuple ?gh ?_); (case gh => walk_at "h"))
  | ((with_reducible refine' is_tuple_dict ?gh ?_); (case gh => walk_at "h"))
  | ((with_reducible refine' is_tuple_int ?gh ?_); (case gh => walk_at "h"))
  | ((with_reducible refine' is_tuple_bool ?gh ?_); (case gh => walk_at "h"))
  | ((with_reducible refine' is_tuple_str ?gh ?_); (case gh => walk_at "h"))
  | ((with_reducible refine' is2_tuple ?ga ?gb ?_); (case ga => walk_at "h"); (case gb => walk_at "h"))
  | ((with_reducible refine' is_dict_list ?gh ?_); (case gh => walk_at "h"))
  | ((with_reducible refine' is_dict_tuple ?gh ?_); (case gh => walk_at "h"))
  | ((with_reducible refine' is_dict_dict ?gh ?_); (case gh => walk_at "h"))
  | ((with_reducible refine' is_dict_int ?gh ?_); (case gh => walk_at "h"))
  | ((with_reducible refine' is_dict_bool ?gh ?_); (case gh => walk_at "h"))
  | ((with_reducible refine' is_dict_str ?gh ?_); (case gh => walk_at "h"))
  | ((with_reducible refine' is2_dict ?ga ?gb ?_); (case ga => walk_at "h"); (case gb => walk_at "h")))
local macro_rules | `(tactic| walk_at "g") => `(tactic| first
  | (with_reducible refine g_seq ?_)
  | (with_reducible refine g_asg ?_)
  | ((with_reducible refine g_name ?_); dsimp only [List.set, wipe, List.map])
  | ((with_reducible refine' g_var ?gv ?_); (case gv => exact rfl))
  | (with_reducible refine g_c ?_)
  | (with_reducible refine g_op ?_)
  | (with_reducible refine g_cons ?_)
  | (with_reducible refine g_nil ?_)
  | (with_reducible refine g_cb ?_)
  | (with_reducible refine g_call ?_)
  | (with_reducible refine g_tup ?_)
  | (with_reducible refine g_lst ?_)
  | (with_reducible refine g_bm ?_)
  | (with_reducible refine g_bm0 ?_)
  | ((with_reducible refine' g_kbm ?gh ?_); (case gh => walk_at "h"))
  | (with_reducible refine g_drop ?_)
  | (with_reducible refine g_ret ?_)
  | (with_reducible refine g_retN ?_)
  | (with_reducible refine g_next ?_)
  | (with_reducible refine g_brk ?_)
  | (with_reducible refine g_cont ?_)
  | (with_reducible refine g_if ?_)
  | ((with_reducible refine' g_aug ?gv ?_); (case gv => exact rfl))
  | (with_reducible refine g_ipI ?_)
  | (with_reducible refine g_test ?_)
  | (with_reducible refine g_tB ?_)
  | (with_reducible refine g_kB ?_)
  | (with_reducible refine g_not ?_)
  | (with_reducible refine g_and ?_)
  | (with_reducible refine g_or ?_)
  | (with_reducible refine g_andV ?_)
  | (with_reducible refine g_orV ?_)
  | (with_reducible refine g_notV ?_)
  | (with_reducible refine g_ifE ?_)
  | (with_reducible refine g_addI ?_)
  | (with_reducible refine g_rI0 ?_)
  | (with_reducible refine g_eqI ?_)
  | (with_reducible refine g_eqS ?_)
  | (with_reducible refine g_neI ?_)
  | (with_reducible refine g_neS ?_)
  | (with_reducible refine g_isN ?_)
  | (with_reducible refine g_notN ?_)
  | (with_reducible refine g_int ?_)
  | (with_reducible refine g_max2 ?_)
  | ((with_reducible refine' g_lenL ?gh ?_); (case gh => walk_at "h"))
  | (with_reducible refine g_sub ?_)
  | (with_reducible refine g_gcons ?_)
  | (with_reducible refine g_gnil ?_)
  | (with_reducible refine g_un ?_)
  | (with_reducible refine g_rU ?_)
  | (with_reducible refine g_forL ?_)
  | (with_reducible refine g_forR1 ?_)
  | (with_reducible refine g_forR2 ?_)
  | (with_reducible refine g_forR3 ?_)
  | (with_reducible refine g_lcL ?_)
  | (with_reducible refine g_lcR1 ?_)
  | (with_reducible refine g_lcR2 ?_)
  | (with_reducible refine g_slice ?_)
  | (with_reducible refine g_part ?_)
  | (with_reducible refine g_kOI ?_)
  | (with_reducible refine g_nopart ?_)
  | (with_reducible refine g_yes ?_)
  | ((with_reducible refine' g_wipe ?gv ?_); (case gv => exact rfl))
  | (with_reducible refine iteT ?_)
  | (with_reducible refine iteF ?_)
  | (with_reducible refine i_nf ?_)
  | (with_reducible refine i_nt ?_)
  | ((with_reducible refine' g_gtup ?gh ?gl ?_); (case gh => walk_at "h"); (case gl => exact rfl))
  | ((with_reducible refine' g_notinI ?gh ?_); (case gh => walk_at "h"))
  | ((with_reducible refine' g_inI ?gh ?_); (case gh => walk_at "h"))
  | ((with_reducible refine' g_kget2 ?gh ?_); (case gh => walk_at "h"))
  | ((with_reducible refine' g_kgotI ?gh ?_); (case gh => walk_at "h"))
  | (with_reducible refine g_tRev ?_)
  | (with_reducible refine g_neB ?_)
  | (with_reducible refine g_eqB ?_)
  | ((with_reducible refine' g_lenT ?gh ?_); (case gh => walk_at "h"))
  | (with_reducible refine g_star ?_)
  | ((with_reducible refine' g_kstarL ?gh ?_); (case gh => walk_at "h"))
  | ((with_reducible refine' g_kstarT ?gh ?_); (case gh => walk_at "h"))
  | (with_reducible refine g_tru ?_)
  | ((with_reducible refine' g_truL ?gh ?_); (case gh => walk_at "h"))
  | (with_reducible refine g_get2 ?_)
  | walk_at "is")
local macro_rules | `(tactic| walk_at "gg") => `(tactic| repeat walk_at "g")
local macro_rules | `(tactic| walk_at "sz") => `(tactic| (refine sz ?_; simp only [List.length_cons, List.length_nil, List.length_map, List.length_append, List.length_replicate]; omega))

/-! ### _law_ends, _law_common -/
def rowD (r : List Nat) : PyData := .list (r.map fun k => PyData.int (k : Nat))
theorem row_inv {F : Hp} {v : V} {r : List Nat} (h : Dq F v (rowD r)) : ∃ a, v = .ref a ∧ F a = some (.lst ((r.map fun k => ((k : Nat) : Int)).map V.int)) := by
  cases h with
  | @lst a xs _ hT hs =>
    refine ⟨a, rfl, ?_⟩
    have e : (r.map fun k => PyData.int (k : Nat)) = (r.map fun k => ((k : Nat) : Int)).map PyData.int := by rw [List.map_map]; rfl
    rw [e] at hs
    have : ∀ {vs : List V} {ns : List Int}, DqAll F vs (ns.map PyData.int) → vs = ns.map V.int := by
      intro vs ns
      induction ns generalizing vs with
      | nil => intro h; cases h; rfl
      | cons n ns ih =>
        intro h
        cases h with
        | cons h1 h2 =>
          cases h1
          rw [ih h2]
          rfl
    rw [this hs] at hT
    exact hT
/-- the rows for the last 0, 1, .. n lines -/
def endsD (xs ys : List Str) (n : Nat) : List PyData := (List.range (n + 1)).map fun s => rowD (eR (xs.drop (xs.length - s)) ys)
section
variable {P : Program} {w : World} {K : PySem.W.Frag} {mg : Str → Option Value} {base : Heap}
def sp_l_ends (K : PySem.W.Frag) : Sp := fun vs H Q _ => ∃ (a b : Addr) (xs ys : List Str), vs = [.ref a, .ref b] ∧ H a = some (.lst (xs.map V.str)) ∧ H b = some (.lst (ys.map V.str)) ∧ xs.length ≤ 1000 ∧ ys.length ≤ 1000 ∧
  ∀ p H' (vs : List V), Same H H' → H p = none → H' p = some (.lst vs) → DqAll H' vs (endsD xs ys xs.length) → Q (.ref p) H'
theorem sp_l_ends_len {vs H Q E} (h : sp_l_ends K vs H Q E) : vs.length = 2 := by
  obtain ⟨_, _, _, _, rfl, _⟩ := h
  rfl
theorem ok_l_ends (T : Txt K mg) : FnOk P w K mg base CX0 1 T.f_l_ends T.fd_l_ends ["old", "new"] (sp_l_ends K) := by
  refine T.F_l_ends.ok sc_l_ends (fun vs H Q E h => sp_l_ends_len h) (fun cdv A outer s H vs Q E hr h => ?_)
  refine ⟨_, (pss_cons (ps_set (i := 2) sc_l_ends.nd rfl (.inl rfl) (pe_lst (pa_cons (pe_lst (pa_cons (pe_callB (cr_lenK K) (by rfl) T.m_len (by decide +kernel) (pa_cons (pv 1) pa_nil)) pa_nil)) pa_nil)))
      (pss_cons (ps_for PassesOwn.never rfl (k_il K (pi_list (k_rev K (pe_revL (pv 0))))) (pg_name (i := 3) sc_l_ends.nd rfl (.inr rfl)) (pss_cons (ps_set (i := 4) sc_l_ends.nd rfl (.inl rfl) (pe_ix (ix_K K (hu_of hr)) (pv 2) (pe_un un_neg pe_int) (fun _ _ => rfl)))
      (pss_cons (ps_set (i := 5) sc_l_ends.nd rfl (.inl rfl) (pe_lst (pa_cons (pe_callB (cr_lenK K) (by rfl) T.m_len (by decide +kernel) (pa_cons (pv 1) pa_nil)) pa_nil)))
      (pss_cons (ps_for PassesOwn.never rfl (pi_range1 rfl T.m_range (pa_cons (pe_callB (cr_lenK K) (by rfl) T.m_len (by decide +kernel) (pa_cons (pv 4) pa_nil)) pa_nil)) (pg_name (i := 6) sc_l_ends.nd rfl (.inl rfl)) (pss_cons (ps_setLc (i := 7) (own := [("j", 8)]) (g := gName 8) rfl sc_l_ends.nd rfl rfl (sw_true rfl rfl rfl (by decide +kernel)) (pi_range1 rfl T.m_range (pa_cons (pe_ix (ix_K K (hu_of hr)) (pv 4) (pv 6) (fun _ _ => rfl)) pa_nil)) (blkOk_by (N := n_l_ends) (sc := defScope s_l_ends) (by decide +kernel)) (fun _ _ _ _ _ => (pg_name (i := 8) sc_l_ends.nd rfl (.inl rfl))) (fun _ _ _ _ _ => (pts_one (pt_cmpR (op_eqK K hr.units) (pe_ix (ix_K K (hu_of hr)) (pv 1) (pv 8) (fun _ _ => rfl)) (pv 3) (nomark _)))) (fun _ _ _ _ _ => (pv 8)))
      (pss_cons (ps_if (pt_cmpR op_lt (pe_op (op_addK K) (pv 6) pe_int) (pe_callB (cr_lenK K) (by rfl) T.m_len (by decide +kernel) (pa_cons (pv 4) pa_nil)) (nomark _)) (pss_one (ps_set (i := 7) sc_l_ends.nd rfl (.inl rfl) (pe_op (op_addK K) (pv 7) (pe_lst (pa_cons (pe_ix (ix_K K (hu_of hr)) (pv 4) (pe_op (op_addK K) (pv 6) pe_int) (fun _ _ => rfl)) pa_nil))))) pss_nil)
      (pss_one (ps_if (pt_cmpR (op_neK K hr.units) (pv 7) (pe_lst pa_nil) (nomark _)) (pss_one (ps_expr (k_bm K (pe_bm PySem.F.plainAttrs_list PySem.F.slot_list_append PySem.F.type_list_append mt_append (pv 5) (pa_cons (pe_callB (cr_maxK K rfl) (by rfl) T.m_max (by decide +kernel) (pa_cons (pv 7) pa_nil)) pa_nil))))) pss_nil)))))
      (pss_one (ps_expr (k_bm K (pe_bm PySem.F.plainAttrs_list PySem.F.slot_list_append PySem.F.type_list_append mt_append (pv 2) (pa_cons (pv 5) pa_nil)))))))))
      (pss_one (ps_ret (pv 2))))), ?_⟩
  obtain ⟨a, b, xs, ys, rfl, ha, hb, hx, hy, q⟩ := h
  have hH := Has.start H
  refine g_start (σ' := [some (.ref a), some (.ref b), none, none, none, none, none, none, none]) rfl ?_
  walk_at "gg"
  refine g_klst (by walk_at "sz") hH (fun r0 H1 n1 h1 => ?_)
  rw [List.length_map] at h1
  have h2 := h1.frz
  have s2 := h1.grow
  have d0 : Dq (upd H r0 (.lst [.int (ys.length : Int)])) (.ref r0) (rowD (eR (xs.drop (xs.length - 0)) ys)) := by
    have e : eR (xs.drop (xs.length - 0)) ys = [ys.length] := by
      rw [Nat.sub_zero, List.drop_length]
      unfold eR
      rw [lc]
      show [mx [] ys 0] = _
      rw [mx_zero]
    rw [e]
    exact .lst upd_same (.cons (.int _) .nil)
  generalize upd H r0 (.lst [.int (ys.length : Int)]) = F0 at h2 s2 d0
  walk_at "gg"
  refine g_klst (by walk_at "sz") h2 (fun e H2 n2 h3 => ?_)
  walk_at "gg"
  have ha3 : H2 a = some (.lst (xs.map V.str)) := h3.same _ _ (s2 _ _ ha)
  refine g_rRev ha3 h3 (fun rv H3 n3 h4 => ?_)
  walk_at "gg"
  have hbF := s2 _ _ hb
  have ernil : (xs.map V.str).reverse = xs.reverse.map V.str := by rw [List.map_reverse]
  rw [ernil] at h4
  refine k_forL (xs := xs.reverse.map V.str) (by walk_at "h") (fun t σ H' => ∃ (F : Hp) (vs : List V) (y3 y4 y5 y6 y7 : Option V), σ = [some (.ref a), some (.ref b), some (.ref e), y3, y4, y5, y6, y7, none] ∧ Same F0 F ∧
    Has F [(rv, .lst (xs.reverse.map V.str)), (e, .lst vs)] H' ∧ DqAll F vs (endsD xs ys t)) ⟨F0, [.ref r0], none, none, none, none, none, rfl, Same.refl _, h4, .cons d0 .nil⟩ ?_ ?_ ?_
  · rintro i σ H' hi ⟨F, vs, y3, y4, y5, y6, y7, rfl, sF, hA, dq⟩
    walk_at "h"
  · rintro t v σ H4 hv ⟨F, vs, y3, y4, y5, y6, y7, rfl, sF, hA, dq⟩
    rw [List.getElem?_map] at hv
    obtain ⟨x, hx2, rfl⟩ := Option.map_eq_some_iff.mp hv
    have htl : t < xs.length := by have := (List.getElem?_eq_some_iff.mp hx2).1; rw [List.length_reverse] at this; exact this
    have hx3 : xs[xs.length - 1 - t]? = some x := by rw [List.getElem?_reverse htl] at hx2; exact hx2
    have hbF2 := sF _ _ hbF
    generalize hxs' : xs.drop (xs.length - t) = xs' at *
    have hdrop : xs.drop (xs.length - (t + 1)) = x :: xs' := by
      have e1 : xs.length - (t + 1) < xs.length := by omega
      rw [List.drop_eq_getElem_cons e1, show xs.length - (t + 1) + 1 = xs.length - t by omega, hxs']
      congr 1
      rw [show xs.length - 1 - t = xs.length - (t + 1) by omega, List.getElem?_eq_getElem e1] at hx3
      exact Option.some.inj hx3
    have hlast : ∃ la, vs.getLast? = some (.ref la) ∧ F la = some (.lst (((eR xs' ys).map fun k => ((k : Nat) : Int)).map V.int)) := by
      have hvl : vs.length = t + 1 := by rw [dq.len]; unfold endsD; rw [List.length_map, List.length_range]
      have hlt : t < vs.length := by omega
      obtain ⟨d, hd, dv⟩ := dq.get (List.getElem?_eq_getElem hlt)
      unfold endsD at hd
      rw [List.getElem?_map, List.getElem?_range (by omega)] at hd
      have hd' := (Option.some.inj hd).symm
      subst hd'
      have dv : Dq F vs[t] (rowD (eR (xs.drop (xs.length - t)) ys)) := dv
      rw [hxs'] at dv
      obtain ⟨la, e1, e2⟩ := row_inv dv
      refine ⟨la, ?_, e2⟩
      rw [List.getLast?_eq_getElem?, hvl, Nat.add_sub_cancel, List.getElem?_eq_getElem hlt, e1]
    obtain ⟨la, hla, hlaF⟩ := hlast
    have hL : (eR xs' ys).length = lc xs' ys + 1 := by unfold eR; rw [List.length_map, List.length_range]
    have hLy := lc_leny xs' ys
    walk_at "gg"
    refine g_ixLast (hA.get (by walk_at "m")) hla ?_
    walk_at "gg"
    refine g_klst (by walk_at "sz") hA (fun rw_ H5 n5 h5 => ?_)
    rw [List.length_map] at h5
    walk_at "gg"
    have hbd := lc_x xs' ys x
    refine k_forR1 (fun k σ H' => ∃ (y6 y7 : Option V), σ = [some (.ref a), some (.ref b), some (.ref e), some (.str x), some (.ref la), some (.ref rw_), y6, y7, none] ∧
      Has F [(rw_, .lst (((List.range (min k (lc (x :: xs') ys) + 1)).map fun k => ((mx (x :: xs') ys k : Nat) : Int)).map V.int)), (rv, .lst (xs.reverse.map V.str)), (e, .lst vs)] H') (by rw [List.length_map, List.length_map, hL]; omega) (by rw [List.length_map, List.length_map, hL]; omega)
      ⟨_, _, rfl, by
        rw [Nat.zero_min]
        show Has F [(rw_, .lst [.int ((mx (x :: xs') ys 0 : Nat) : Int)]), _, _] H5
        rw [mx_zero]
        exact h5⟩ ?_ ?_
    · rintro k σ H6 hk ⟨y6, y7, rfl, h6⟩
      rw [List.length_map, List.length_map, hL] at hk
      have hkL : k ≤ lc xs' ys := by omega
      have hmk : min k (lc (x :: xs') ys) = k := by omega
      rw [hmk] at h6
      have hek : ∀ j, j ≤ lc xs' ys → (((eR xs' ys).map fun k => ((k : Nat) : Int)))[j]? = some ((mx xs' ys j : Nat) : Int) := fun j hj => by
        unfold eR
        rw [List.getElem?_map, List.getElem?_map, List.getElem?_range (by omega)]
        rfl
      walk_at "gg"
      refine g_ixI (xs := (eR xs' ys).map fun k => ((k : Nat) : Int)) (by walk_at "h") (by omega) (by rw [List.length_map, hL]; omega) (fun z hz => ?_)
      have hz2 : z = ((mx xs' ys k : Nat) : Int) := Option.some.inj (hz.symm.trans (hek k hkL))
      subst hz2
      have hmxle := mx_le xs' ys k
      walk_at "gg"
      generalize hbase : [(rw_, HO.lst (((List.range (k + 1)).map fun k => ((mx (x :: xs') ys k : Nat) : Int)).map V.int)), (rv, HO.lst (xs.reverse.map V.str)), (e, HO.lst vs)] = obs at *
      refine k_lcR1 (by omega) (by omega) h6 (fun i acc F' O' => acc = ((((List.range i).filter fun j => decide (ys[j]? = some x)).map fun j => ((j : Nat) : Int)).map V.int) ∧ F = F' ∧ obs = O') ⟨rfl, rfl, rfl⟩ ?_ ?_
      · rintro i acc F' O' D H7 hi ⟨rfl, rfl, rfl⟩ hh
        have hi' : i < mx xs' ys k := by omega
        walk_at "gg"
        refine g_ixZ (xs := ys) (by walk_at "h") (by omega) (by omega) (fun y hy => ?_)
        have hy' : ys[i]? = some y := hy
        walk_at "gg"
        have hlen : (((((List.range i).filter fun j => decide (ys[j]? = some x)).map fun j => ((j : Nat) : Int)).map V.int)).length ≤ 100000 := by
          rw [List.length_map, List.length_map]
          have := List.length_filter_le (fun j => decide (ys[j]? = some x)) (List.range i)
          rw [List.length_range] at this
          omega
        refine i_d (fun ey => ?_) (fun ey => ?_)
        · walk_at "gg"
          refine k_turn hh hlen ⟨?_, rfl, rfl⟩
          rw [List.range_succ, List.filter_append, List.map_append, List.map_append]
          congr 1
          rw [List.filter_cons, if_pos (decide_eq_true (by rw [hy', ey]))]
          rfl
        · refine k_skip hh ⟨?_, rfl, rfl⟩
          rw [List.range_succ, List.filter_append, List.map_append, List.map_append, List.filter_cons, if_neg (by rw [decide_eq_true_eq, hy']; exact fun z => ey (Option.some.inj z)), List.filter_nil, List.map_nil, List.map_nil, List.append_nil]
      · rintro acc F' O' f H7 ⟨rfl, rfl, rfl⟩ hh
        walk_at "g"
        walk_at "g"
        have hmem0 : ∀ M : Nat, M ∈ ((List.range ((mx xs' ys k : Nat) : Int).toNat).filter fun j => decide (ys[j]? = some x)) ↔ (M < mx xs' ys k ∧ ys[M]? = some x) := fun M => by
          rw [List.mem_filter, List.mem_range, decide_eq_true_eq]
          exact Iff.rfl
        generalize hns0 : ((List.range ((mx xs' ys k : Nat) : Int).toNat).filter fun j => decide (ys[j]? = some x)) = ns0 at *
        refine g_join (fun σ' H' => ∃ (ns : List Nat) (f : Addr), σ' = [some (.ref a), some (.ref b), some (.ref e), some (.str x), some (.ref la), some (.ref rw_), some (.int k), some (.ref f), none] ∧
          Has F ((f, .lst ((ns.map fun j => ((j : Nat) : Int)).map V.int)) :: obs) H' ∧ (∀ M ∈ ns, (M < mx xs' ys k ∧ ys[M]? = some x) ∨ (k + 1 ≤ lc xs' ys ∧ M = mx xs' ys (k + 1))) ∧ (∀ j, j < mx xs' ys k → ys[j]? = some x → j ∈ ns) ∧ (k + 1 ≤ lc xs' ys → mx xs' ys (k + 1) ∈ ns)) ?_ (fun key => ?_)
        · rintro σ' H8 ⟨ns, f, rfl, h8, p1, p2, p3⟩
          walk_at "gg"
          refine g_klst (by walk_at "sz") h8 (fun nl H9 n9 h9 => ?_)
          refine g_neD (.lst (h9.get (by walk_at "m")) (DqAll.ints _)) (.lst (h9.get (List.Mem.head _)) (DqAll.ints [])) ((Sh.ints (n := 0)).ok (by decide)) ((Sh.ints (n := 0) (xs := [])).ok (by decide)) ?_
          rw [eqv_ints]
          walk_at "gg"
          have h9' := h9.drop
          subst hbase
          refine i_n (fun ne => ?_) (fun e0 => ?_)
          · walk_at "gg"
            have nel : 0 < (ns.map fun j => ((j : Nat) : Int)).length := List.length_pos_iff.mpr ne
            refine g_max (h9'.get (List.Mem.head _)) nel (fun m hm hmx => ?_)
            obtain ⟨M, hM, rfl⟩ := List.mem_map.mp hm
            have hge : ∀ j ∈ ns, j ≤ M := fun j hj => Int.ofNat_le.mp (hmx _ (List.mem_map.mpr ⟨j, hj, rfl⟩))
            obtain ⟨g1, g2⟩ := mx_step hkL (p1 M hM) (fun j h1 h2 => hge j (p2 j h1 h2)) (fun h => hge _ (p3 h))
            walk_at "gg"
            refine g_append h9' (by walk_at "c") (szl (by rw [List.length_map, List.length_map, List.length_range]; omega)) (fun H10 h10 => ?_)
            refine ⟨_, _, rfl, ?_⟩
            subst g2
            rw [show min (k + 1) (lc (x :: xs') ys) = k + 1 by omega, List.range_succ, List.map_append, List.map_append]
            exact h10.drop
          · walk_at "gg"
            have ns0' : ns = [] := List.map_eq_nil_iff.mp e0
            subst ns0'
            have g1 := mx_stop (x := x) hkL (fun j h1 h2 => List.not_mem_nil (p2 j h1 h2)) (fun h => List.not_mem_nil (p3 h))
            refine ⟨_, _, rfl, ?_⟩
            rw [show min (k + 1) (lc (x :: xs') ys) = k by omega]
            exact h9'.drop
        · walk_at "gg"
          rw [List.length_map, List.length_map, hL]
          refine i_d (fun hk1 => ?_) (fun hk1 => ?_)
          · have hk2 : k + 1 ≤ lc xs' ys := by omega
            walk_at "gg"
            refine g_ixI (xs := (eR xs' ys).map fun k => ((k : Nat) : Int)) (by walk_at "h") (by omega) (by rw [List.length_map, hL]; omega) (fun z hz => ?_)
            have hz2 : z = ((mx xs' ys (k + 1) : Nat) : Int) := by
              rw [show ((k : Int) + 1).toNat = k + 1 by omega, hek (k + 1) hk2] at hz
              exact (Option.some.inj hz).symm
            subst hz2
            walk_at "gg"
            refine g_klst (by walk_at "sz") hh (fun t1 H8 n8 h8 => ?_)
            have lns : ns0.length ≤ 1000 := by
              rw [← hns0]
              refine Nat.le_trans (List.length_filter_le _ _) ?_
              rw [List.length_range]
              omega
            refine g_addL (h8.get (by walk_at "m")) (h8.get (List.Mem.head _)) (by walk_at "sz") h8 (fun f2 H9 n9 h9 => ?_)
            refine key _ _ ⟨ns0 ++ [mx xs' ys (k + 1)], f2, rfl, ?_, ?_, ?_, ?_⟩
            · rw [List.map_append, List.map_append]
              exact h9.sub (.cons_cons _ (.cons _ (.cons _ (List.Sublist.refl _))))
            · intro M hM
              rcases List.mem_append.mp hM with hM | hM
              · exact .inl ((hmem0 M).mp hM)
              · exact .inr ⟨hk2, List.mem_singleton.mp hM⟩
            · exact fun j h1 h2 => List.mem_append_left _ ((hmem0 j).mpr ⟨h1, h2⟩)
            · exact fun _ => List.mem_append_right _ (List.mem_singleton.mpr rfl)
          · walk_at "g"
            exact key _ _ ⟨ns0, f, rfl, hh, fun M hM => .inl ((hmem0 M).mp hM), fun j h1 h2 => (hmem0 j).mpr ⟨h1, h2⟩, fun h => absurd h (by omega)⟩
    · rintro σ H6 ⟨y6, y7, rfl, h6⟩
      rw [List.length_map, List.length_map, hL, show min ((lc xs' ys + 1 : Nat) : Int).toNat (lc (x :: xs') ys) = lc (x :: xs') ys by omega] at h6
      have h7 := h6.frz
      have s7 := h6.grow
      walk_at "gg"
      refine g_append h7 (by walk_at "c") (szl (by rw [dq.len]; unfold endsD; rw [List.length_map, List.length_range]; omega)) (fun H8 h8 => ?_)
      refine ⟨_, _, _, _, _, _, _, rfl, sF.trans s7, h8, ?_⟩
      have e2 : endsD xs ys (t + 1) = endsD xs ys t ++ [rowD (eR (x :: xs') ys)] := by
        unfold endsD
        rw [List.range_succ (n := t + 1), List.map_append, List.map_cons, List.map_nil, hdrop]
      rw [e2]
      refine (dq.up s7 _ _).snoc ?_
      refine .lst upd_same ?_
      have e3 : ((eR (x :: xs') ys).map fun k => PyData.int (k : Nat)) = ((List.range (lc (x :: xs') ys + 1)).map fun k => ((mx (x :: xs') ys k : Nat) : Int)).map PyData.int := by
        unfold eR
        rw [List.map_map, List.map_map]
        rfl
      rw [e3]
      exact DqAll.ints _
  · rintro σ H4 ⟨F, vs, y3, y4, y5, y6, y7, rfl, sF, hA, dq⟩
    rw [List.length_map, List.length_reverse] at dq
    walk_at "gg"
    exact q e H4 vs (s2.trans (sF.trans hA.same)) (s2.free (sF.free (hA.drop.free))) (hA.get (by walk_at "m")) (dq.up hA.same _ _)
end

end K01

namespace K01
open PySem PySem.Spec PyProof.Rows L2 Qk
local macro_rules | `(tactic| walk_at "m") => `(tactic| ((repeat (first | exact List.Mem.head _ | apply List.Mem.tail)); done))
local macro_rules | `(tactic| walk_at "h") => `(tactic| first | assumption | exact Has.gF (by assumption) (by assumption) | exact Has.get (by assumption) (by walk_at "m"))
local macro_rules | `(tactic| walk_at "c") => `(tactic| ((repeat (first | exact Chg.hd | apply Chg.tl)); done))
local macro_rules | `(tactic| walk_at "is") => `(tactic| first
  | ((with_reducible refine' is2_non ?gh ?_); (case gh => walk_at "h"))
  | (with_reducible refine is_int_list ?_)
  | (with_reducible refine is_int_tuple ?_)
  | (with_reducible refine is_int_dict ?_)
  | (with_reducible refine is_int_int ?_)
  | (with_reducible refine is_int_bool ?_)
  | (with_reducible refine is_int_str ?_)
  | ((with_reducible refine' is2_int ?gh ?_); (case gh => walk_at "h"))
  | (with_reducible refine is_str_list ?_)
  | (with_reducible refine is_str_tuple ?_)
  | (with_reducible refine is_str_dict ?_)
  | (with_reducible refine is_str_int ?_)
  | (with_reducible refine is_str_bool ?_)
  | (with_reducible refine is_str_str ?_)
  | ((with_reducible refine' is2_str ?gh ?_); (case gh => walk_at "h"))
  | (with_reducible refine is_bool_list ?_)
  | (with_reducible refine is_bool_tuple ?_)
  | (with_reducible refine is_bool_dict ?_)
  | (with_reducible refine is_bool_int ?_)
  | (with_reducible refine is_bool_bool ?_)
  | (with_reducible refine is_bool_str ?_)
  | ((with_reducible refine' is2_bool ?gh ?_); (case gh => walk_at "h"))
  | ((with_reducible refine' is_list_list ?gh ?_); (case gh => walk_at "h"))
  | ((with_reducible refine' is_list_tuple ?gh ?_); (case gh => walk_at "h"))
  | ((with_reducible refine' is_list_dict ?gh ?_); (case gh => walk_at "h"))
  | ((with_reducible refine' is_list_int ?gh ?_); (case gh => walk_at "h"))
  | ((with_reducible refine' is_list_bool ?gh ?_); (case gh => walk_at "h"))
  | ((with_reducible refine' is_list_str ?gh ?_); (case gh => walk_at "h"))
  | ((with_reducible refine' is2_list ?ga ?gb ?_); (case ga => walk_at "h"); (case gb => walk_at "h"))
  | ((with_reducible refine' is_tuple_list ?gh ?_); (case gh => walk_at "h"))
  | ((with_reducible refine' is_tuple_tuple ?gh ?_); (case gh => walk_at "h"))
  | ((with_reducible refine' is_tuple_dict ?gh ?_); (case gh => walk_at "h"))
  | ((with_reducible refine' is_tuple_int ?gh ?_); (case gh => walk_at "h"))
  | ((with_reducible refine' is_tuple_bool ?gh ?_); (case gh => walk_at "h"))
  | ((with_reducible refine' is_tuple_str ?gh ?_); (case gh => walk_at "h"))
  | ((with_reducible refine' is2_tuple ?ga ?gb ?_); (case ga => walk_at "h"); (case gb => walk_at "h"))
  | ((with_reducible refine' is_dict_list ?gh ?_); (case gh => walk_at "h"))
  | ((with_reducible refine' is_dict_tuple ?gh ?_); (case gh => walk_at "h"))
  | ((with_reducible refine' is_dict_dict ?gh ?_); (case gh => walk_at "h"))
  | ((with_reducible refine' is_dict_int ?gh ?_); (case gh => walk_at "h"))
  | ((with_reducible refine' is_dict_bool ?gh ?_); (case gh => walk_at "h"))
  | ((with_reducible refine' is_dict_str ?gh ?_); (case gh => walk_at "h"))
  | ((with_reducible refine' is2_dict ?ga ?gb ?_); (case ga => walk_at "h"); (case gb => walk_at "h")))
local macro_rules | `(tactic| walk_at "g") => `(tactic| first
  | (with_reducible refine g_seq ?_)
  | (with_reducible refine g_asg ?_)
  | ((with_reducible refine g_name ?_); dsimp only [List.set, wipe, List.map])
  | ((with_reducible refine' g_var ?gv ?_); (case gv => exact rfl))
  | (with_reducible refine g_c ?_)
  | (with_reducible refine g_op ?_)
  | (with_reducible refine g_cons ?_)
  | (with_reducible refine g_nil ?_)
  | (with_reducible refine g_cb ?_)
  | (with_reducible refine g_call ?_)
  | (with_reducible refine g_tup ?_)
  | (with_reducible refine g_lst ?_)
  | (with_reducible refine g_bm ?_)
  | (with_reducible refine g_bm0 ?_)
  | ((with_reducible refine' g_kbm ?gh ?_); (case gh => walk_at "h"))
  | (with_reducible refine g_drop ?_)
  | (with_reducible refine g_ret ?_)
  | (with_reducible refine g_retN ?_)
  | (with_reducible refine g_next ?_)
  | (with_reducible refine g_brk ?_)
  | (with_reducible refine g_cont ?_)
  | (with_reducible refine g_if ?_)
  | ((with_reducible refine' g_aug ?gv ?_); (case gv => exact rfl))
  | (with_reducible refine g_ipI ?_)
  | (with_reducible refine g_test ?_)
  | (with_reducible refine g_tB ?_)
  | (with_reducible refine g_kB ?_)
  | (with_reducible refine g_not ?_)
  | (with_reducible refine g_and ?_)
  | (with_reducible refine g_or ?_)
  | (with_reducible refine g_andV ?_)
  | (with_reducible refine g_orV ?_)
  | (with_reducible refine g_notV ?_)
  | (with_reducible refine g_ifE ?_)
  | (with_reducible refine g_addI ?_)
  | (with_reducible refine g_rI0 ?_)
  | (with_reducible refine g_eqI ?_)
  | (with_reducible refine g_eqS ?_)
  | (with_reducible refine g_neI ?_)
  | (with_reducible refine g_neS ?_)
  | (with_reducible refine g_isN ?_)
  | (with_reducible refine g_notN ?_)
  | (with_reducible refine g_int ?_)
  | (with_reducible refine g_max2 ?_)
  | ((with_reducible refine' g_lenL ?gh ?_); (case gh => walk_at "h"))
  | (with_reducible refine g_sub ?_)
  | (with_reducible refine g_gcons ?_)
  | (with_reducible refine g_gnil ?_)
  | (with_reducible refine g_un ?_)
  | (with_reducible refine g_rU ?_)
  | (with_reducible refine g_forL ?_)
  | (with_reducible refine g_forR1 ?_)
  | (with_reducible refine g_forR2 ?_)
  | (with_reducible refine g_forR3 ?_)
  | (with_reducible refine g_lcL ?_)
  | (with_reducible refine g_lcR1 ?_)
  | (with_reducible refine g_lcR2 ?_)
  | (with_reducible refine g_slice ?_)
  | (with_reducible refine g_part ?_)
  | (with_reducible refine g_kOI ?_)
  | (with_reducible refine g_nopart ?_)
  | (with_reducible refine g_yes ?_)
  | ((with_reducible refine' g_wipe ?gv ?_); (case gv => exact rfl))
  | (with_reducible refine iteT ?_)
  | (with_reducible refine iteF ?_)
  | (with_reducible refine i_nf ?_)
  | (with_reducible refine i_nt ?_)
  | ((with_reducible refine' g_gtup ?gh ?gl ?_); (case gh => walk_at "h"); (case gl => exact rfl))
  | ((with_reducible refine' g_notinI ?gh ?_); (case gh => walk_at "h"))
  | ((with_reducible refine' g_inI ?gh ?_); (case gh => walk_at "h"))
  | ((with_reducible refine' g_kget2 ?gh ?_); (case gh => walk_at "h"))
  | ((with_reducible refine' g_kgotI ?gh ?_); (case gh => walk_at "h"))
  | (with_reducible refine g_tRev ?_)
  | (with_reducible refine g_neB ?_)
  | (with_reducible refine g_eqB ?_)
  | ((with_reducible refine' g_lenT ?gh ?_); (case gh => walk_at "h"))
  | (with_reducible refine g_star ?_)
  | ((with_reducible refine' g_kstarL ?gh ?_); (case gh => walk_at "h"))
  | ((with_reducible refine' g_kstarT ?gh ?_); (case gh => walk_at "h"))
  | (with_reducible refine g_tru ?_)
  | ((with_reducible refine' g_truL ?gh ?_); (case gh => walk_at "h"))
  | (with_reducible refine g_get2 ?_)
  | walk_at "is")
local macro_rules | `(tactic| walk_at "gg") => `(tactic| repeat walk_at "g")
local macro_rules | `(tactic| walk_at "sz") => `(tactic| (refine sz ?_; simp only [List.length_cons, List.length_nil, List.length_map, List.length_append, List.length_replicate]; omega))

/-! ### _law_common, _law_walk -/
section
variable {P : Program} {w : World} {K : PySem.W.Frag} {mg : Str → Option Value} {base : Heap}
def sp_l_common (K : PySem.W.Frag) : Sp := fun vs H Q _ => ∃ (e : Addr) (i j : Int) (xs ys : List Str) (us : List V), vs = [.ref e, .int i, .int j] ∧ H e = some (.lst us) ∧ DqAll H us (endsD xs ys xs.length) ∧ 0 ≤ i ∧ i ≤ xs.length ∧ 0 ≤ j ∧ j ≤ ys.length ∧ xs.length ≤ 1000 ∧ ys.length ≤ 1000 ∧
  ∀ H', Same H H' → Q (.int (lc (xs.drop i.toNat) (ys.drop j.toNat) : Nat)) H'
theorem sp_l_common_len {vs H Q E} (h : sp_l_common K vs H Q E) : vs.length = 3 := by
  obtain ⟨_, _, _, _, _, _, rfl, _⟩ := h
  rfl
theorem ok_l_common (T : Txt K mg) : FnOk P w K mg base CX0 1 T.f_l_common T.fd_l_common ["ends", "i", "j"] (sp_l_common K) := by
  refine T.F_l_common.ok sc_l_common (fun vs H Q E h => sp_l_common_len h) (fun cdv A outer s H vs Q E hr h => ?_)
  refine ⟨_, (pss_cons (ps_set (i := 3) sc_l_common.nd rfl (.inl rfl) (pe_ix (ix_K K (hu_of hr)) (pv 0) (pe_op op_sub (pe_op op_sub (pe_callB (cr_lenK K) (by rfl) T.m_len (by decide +kernel) (pa_cons (pv 0) pa_nil)) pe_int) (pv 1)) (fun _ _ => rfl)))
      (pss_one (ps_ret (pe_callB (cr_lenK K) (by rfl) T.m_len (by decide +kernel) (pa_cons (pe_lc (own := [("end", 4)]) (g := gName 4) rfl sc_l_common.nd (k_il K (pi_list (pe_slice (sl_K K) (pv 3) (po_some pe_int) po_none))) (blkOk_by (N := n_l_common) (sc := defScope s_l_common) (by decide +kernel)) (fun _ _ _ _ _ => (pg_name (i := 4) sc_l_common.nd rfl (.inl rfl))) (fun _ _ _ _ _ => (pts_one (pt_cmpR op_ge (pv 4) (pv 2) (nomark _)))) (fun _ _ _ _ _ => (pv 4))) pa_nil))))), ?_⟩
  obtain ⟨e, i, j, xs, ys, us, rfl, he, dq, i0, i1, j0, j1, lx, ly, q⟩ := h
  have hH := Has.start H
  refine g_start (σ' := [some (.ref e), some (.int i), some (.int j), none, none]) rfl ?_
  have hul : us.length = xs.length + 1 := by rw [dq.len]; unfold endsD; rw [List.length_map, List.length_range]
  have hd : ∃ ra, us[((us.length : Int) - 1 - i).toNat]? = some (.ref ra) ∧ H ra = some (.lst (((eR (xs.drop i.toNat) ys).map fun k => ((k : Nat) : Int)).map V.int)) := by
    have e0 : ((us.length : Int) - 1 - i).toNat = xs.length - i.toNat := by omega
    rw [e0]
    have hlt : xs.length - i.toNat < us.length := by omega
    obtain ⟨d, hd, dv⟩ := dq.get (List.getElem?_eq_getElem hlt)
    unfold endsD at hd
    rw [List.getElem?_map, List.getElem?_range (by omega)] at hd
    have hd' := (Option.some.inj hd).symm
    subst hd'
    have dv : Dq H us[xs.length - i.toNat] (rowD (eR (xs.drop (xs.length - (xs.length - i.toNat))) ys)) := dv
    rw [show xs.length - (xs.length - i.toNat) = i.toNat by omega] at dv
    obtain ⟨la, e1, e2⟩ := row_inv dv
    exact ⟨la, by rw [List.getElem?_eq_getElem hlt, e1], e2⟩
  obtain ⟨ra, hra, hrH⟩ := hd
  walk_at "gg"
  refine g_ixL he (at_n (by omega) hra) ?_
  walk_at "gg"
  refine g_slL hrH hH (fun p H1 n1 h1 => ?_)
  rw [show (some (1 : Int)) = some ((1 : Nat) : Int) from rfl, cutV_from] at h1
  have hL := lc_leny (xs.drop i.toNat) ys
  have hcount := eR_count (xs := xs.drop i.toNat) (ys := ys) (j := j.toNat) (by omega)
  rw [← List.map_drop, ← List.map_drop] at h1
  have htail : ((eR (xs.drop i.toNat) ys).drop 1).length ≤ 1000 := by
    unfold eR
    rw [List.length_drop, List.length_map, List.length_range]
    omega
  generalize hns : (eR (xs.drop i.toNat) ys).drop 1 = ns at *
  refine k_lcL (xs := (ns.map fun k => ((k : Nat) : Int)).map V.int) (h1.get (List.Mem.head _)) h1 (fun t acc F' O' => acc = (((ns.take t).filter fun e => decide (j.toNat ≤ e)).map fun e => V.int ((e : Nat) : Int)) ∧ H = F' ∧ [(p, HO.lst ((ns.map fun k => ((k : Nat) : Int)).map V.int))] = O') ⟨rfl, rfl, rfl⟩ ?_ ?_ ?_
  · rintro t acc F' O' H3 ⟨rfl, rfl, rfl⟩ hh
    exact hh.get (List.Mem.head _)
  · rintro t x acc F' O' D H3 hx ⟨rfl, rfl, rfl⟩ hh
    rw [List.getElem?_map, List.getElem?_map] at hx
    obtain ⟨z, hz, rfl⟩ := Option.map_eq_some_iff.mp hx
    obtain ⟨m, hm, rfl⟩ := Option.map_eq_some_iff.mp hz
    have hlen : ((((ns.take t).filter fun e => decide (j.toNat ≤ e)).map fun e => V.int ((e : Nat) : Int))).length ≤ 100000 := by
      rw [List.length_map]
      have := List.length_filter_le (fun e => decide (j.toNat ≤ e)) (ns.take t)
      rw [List.length_take] at this
      omega
    walk_at "gg"
    refine i_d (fun g => ?_) (fun g => ?_)
    · walk_at "gg"
      refine k_turn hh hlen ⟨?_, rfl, rfl⟩
      rw [List.take_add_one, hm, List.filter_append, List.map_append]
      congr 1
      show _ = (List.filter _ [m]).map _
      rw [List.filter_cons, if_pos (decide_eq_true (by omega))]
      rfl
    · refine k_skip hh ⟨?_, rfl, rfl⟩
      rw [List.take_add_one, hm, List.filter_append, List.map_append]
      show _ = _ ++ (List.filter _ [m]).map _
      rw [List.filter_cons, if_neg (by rw [decide_eq_true_eq]; omega), List.filter_nil, List.map_nil, List.append_nil]
  · rintro acc F' O' D H3 ⟨rfl, rfl, rfl⟩ hh
    rw [List.length_map, List.length_map, List.take_length] at hh
    walk_at "gg"
    rw [List.length_map, hcount]
    exact q H3 hh.same
def sp_l_walk (K : PySem.W.Frag) : Sp := sp_matched K
theorem sp_l_walk_len {vs H Q E} (h : sp_l_walk K vs H Q E) : vs.length = 2 := sp_matched_len h
theorem ok_l_walk (T : Txt K mg) : FnOk P w K mg base CX0 2 T.f_l_walk T.fd_l_walk ["old", "new"] (sp_l_walk K) := by
  refine T.F_l_walk.ok sc_l_walk (fun vs H Q E h => sp_l_walk_len h) (fun cdv A outer s H vs Q E hr h => ?_)
  refine ⟨_, (pss_cons (ps_set (i := 2) sc_l_walk.nd rfl (.inl rfl) (pe_call (ok_l_ends T) (hr.mono (by decide)) (by rfl) T.g_l_ends T.F_l_ends.kp T.b_l_ends .nil pass0 (pa_cons (pv 0) (pa_cons (pv 1) pa_nil))))
      (pss_cons (ps_set (i := 3) sc_l_walk.nd rfl (.inl rfl) (pe_lst pa_nil))
      (pss_cons (ps_set (i := 4) sc_l_walk.nd rfl (.inl rfl) pe_int)
      (pss_cons (ps_set (i := 5) sc_l_walk.nd rfl (.inl rfl) pe_int)
      (pss_cons (ps_while PassesOwn.never (PW.pt (pw_and (pt_cmpR op_lt (pv 4) (pe_callB (cr_lenK K) (by rfl) T.m_len (by decide +kernel) (pa_cons (pv 0) pa_nil)) (nomark _)) (pw_and1 (pt_cmpR op_lt (pv 5) (pe_callB (cr_lenK K) (by rfl) T.m_len (by decide +kernel) (pa_cons (pv 1) pa_nil)) (nomark _))))) (pss_one (ps_if (pt_cmpR (op_eqK K hr.units) (pe_ix (ix_K K (hu_of hr)) (pv 0) (pv 4) (fun _ _ => rfl)) (pe_ix (ix_K K (hu_of hr)) (pv 1) (pv 5) (fun _ _ => rfl)) (nomark _)) (pss_cons (ps_expr (k_bm K (pe_bm PySem.F.plainAttrs_list PySem.F.slot_list_append PySem.F.type_list_append mt_append (pv 3) (pa_cons (pe_tup (pa_cons (pv 4) (pa_cons (pv 5) pa_nil))) pa_nil))))
      (pss_cons (ps_set (i := 4) sc_l_walk.nd rfl (.inl rfl) (pe_op (op_addK K) (pv 4) pe_int))
      (pss_one (ps_set (i := 5) sc_l_walk.nd rfl (.inl rfl) (pe_op (op_addK K) (pv 5) pe_int))))) (pss_one (ps_if (pt_cmpR op_ge (pe_call (ok_l_common T) (hr.mono (by decide)) (by rfl) T.g_l_common T.F_l_common.kp T.b_l_common .nil pass0 (pa_cons (pv 2) (pa_cons (pe_op (op_addK K) (pv 4) pe_int) (pa_cons (pv 5) pa_nil)))) (pe_call (ok_l_common T) (hr.mono (by decide)) (by rfl) T.g_l_common T.F_l_common.kp T.b_l_common .nil pass0 (pa_cons (pv 2) (pa_cons (pv 4) (pa_cons (pe_op (op_addK K) (pv 5) pe_int) pa_nil)))) (nomark _)) (pss_one (ps_set (i := 4) sc_l_walk.nd rfl (.inl rfl) (pe_op (op_addK K) (pv 4) pe_int))) (pss_one (ps_set (i := 5) sc_l_walk.nd rfl (.inl rfl) (pe_op (op_addK K) (pv 5) pe_int))))))))
      (pss_one (ps_ret (pv 3)))))))), ?_⟩
  obtain ⟨a, b, xs, ys, rfl, ha, hb, hx, hy, q⟩ := h
  refine g_start (σ' := [some (.ref a), some (.ref b), none, none, none, none]) rfl ?_
  walk_at "gg"
  refine ⟨a, b, xs, ys, rfl, ha, hb, hx, hy, fun t H1 us s0 n1 ht tab => ?_⟩
  have ha1 := s0 _ _ ha
  have hb1 := s0 _ _ hb
  have hH := Has.start H1
  walk_at "gg"
  refine g_klst (by walk_at "sz") hH (fun p H2 n2 h2 => ?_)
  walk_at "gg"
  refine g_while (fun k σ H' => ∃ (i j : Nat) (acc : List (Nat × Nat)) (vs : List V) (F : Hp), σ = [some (.ref a), some (.ref b), some (.ref t), some (.ref p), some (.int i), some (.int j)] ∧ Same H1 F ∧ Has F [(p, .lst vs)] H' ∧ DqAll F vs (acc.map prd) ∧ acc ++ mt (xs.drop i) (ys.drop j) i j = mt xs ys 0 0 ∧ i ≤ xs.length ∧ j ≤ ys.length ∧ acc.length ≤ i ∧ k = (xs.length - i) + (ys.length - j)) _ ⟨0, 0, [], [], H1, rfl, Same.refl _, h2, .nil, by simp, by omega, by omega, by simp, rfl⟩ ?_
  · rintro k σ H3 ⟨i, j, acc, vs, F, rfl, sF, h3, dq, ea, hi, hj, hac, rfl⟩
    have ha3 : F a = some (.lst (xs.map V.str)) := sF _ _ ha1
    have hb3 : F b = some (.lst (ys.map V.str)) := sF _ _ hb1
    have ht3 : H3 t = some (.lst us) := h3.same _ _ (sF _ _ ht)
    have tab3 : DqAll H3 us (endsD xs ys xs.length) := tab.up (sF.trans h3.same) _ _
    refine g_fact (fun c => c = true ↔ (i < xs.length ∧ j < ys.length)) (fun R r => ?_) (fun c hc => ?_)
    · walk_at "gg"
      rw [List.length_map]
      refine i_d (fun l1 => ?_) (fun l1 => r _ ⟨fun z => (Bool.false_ne_true z).elim, fun z => by omega⟩)
      walk_at "gg"
      rw [List.length_map]
      exact r _ ⟨fun z => by have := of_decide_eq_true z; omega, fun z => decide_eq_true (by omega)⟩
    cases c with
    | true =>
      have hij := hc.mp rfl
      have hxi : xs[i]? = some xs[i] := List.getElem?_eq_getElem hij.1
      have hyj : ys[j]? = some ys[j] := List.getElem?_eq_getElem hij.2
      have ma := mt_at hxi hyj
      refine kwh_t ?_
      walk_at "gg"
      refine g_ixZ (by walk_at "h") (by omega) (by omega) (fun x hx' => ?_)
      walk_at "gg"
      refine g_ixZ (by walk_at "h") (by omega) (by omega) (fun y hy' => ?_)
      have ex : x = xs[i] := Option.some.inj (hx'.symm.trans hxi)
      have ey : y = ys[j] := Option.some.inj (hy'.symm.trans hyj)
      subst ex ey
      walk_at "gg"
      refine i_d (fun e => ?_) (fun e => ?_)
      · rw [if_pos e] at ma
        walk_at "gg"
        refine g_ktupF (by walk_at "sz") h3 (fun T H4 F' n4 s4 hT h4 => ?_)
        walk_at "gg"
        have hvl : vs.length = acc.length := by rw [dq.len, List.length_map]
        refine g_append h4 (by walk_at "c") (szl (by omega)) (fun H5 h5 => ?_)
        walk_at "gg"
        refine ⟨(xs.length - (i + 1)) + (ys.length - (j + 1)), by omega, i + 1, j + 1, acc ++ [(i, j)], _, F', rfl, sF.trans s4, h5, ?_, ?_, by omega, by omega, by rw [List.length_append]; show acc.length + 1 ≤ _; omega, rfl⟩
        · rw [List.map_append]
          exact (dq.up s4 _ _).snoc (.tup hT (.cons (.int _) (.cons (.int _) .nil)))
        · rw [← ea, ma, List.append_assoc]
          rfl
      · rw [if_neg e] at ma
        walk_at "gg"
        refine ⟨t, _, _, xs, ys, us, rfl, ht3, tab3, by omega, by omega, by omega, by omega, hx, hy, fun H4 s4 => ?_⟩
        have h4 := h3.on s4
        walk_at "gg"
        refine ⟨t, _, _, xs, ys, us, rfl, s4 _ _ ht3, tab3.up s4 _ _, by omega, by omega, by omega, by omega, hx, hy, fun H5 s5 => ?_⟩
        have h5 := h4.on s5
        walk_at "gg"
        have e1 : ((i : Int) + 1).toNat = i + 1 := by omega
        have e2 : ((j : Int) + 1).toNat = j + 1 := by omega
        rw [e1, e2]
        refine i_d (fun g => ?_) (fun g => ?_)
        · have g' : lc (xs.drop (i + 1)) (ys.drop j) ≥ lc (xs.drop i) (ys.drop (j + 1)) := Int.ofNat_le.mp g
          rw [if_pos g'] at ma
          walk_at "gg"
          exact ⟨(xs.length - (i + 1)) + (ys.length - j), by omega, i + 1, j, acc, vs, F, rfl, sF, h5, dq, by rw [← ea, ma], by omega, hj, by omega, rfl⟩
        · have g' : ¬ lc (xs.drop (i + 1)) (ys.drop j) ≥ lc (xs.drop i) (ys.drop (j + 1)) := fun z => g (Int.ofNat_le.mpr z)
          rw [if_neg g'] at ma
          walk_at "gg"
          exact ⟨(xs.length - i) + (ys.length - (j + 1)), by omega, i, j + 1, acc, vs, F, rfl, sF, h5, dq, by rw [← ea, ma], hi, by omega, by omega, rfl⟩
    | false =>
      have hij : xs.length ≤ i ∨ ys.length ≤ j := by
        have : ¬ (i < xs.length ∧ j < ys.length) := fun z => Bool.false_ne_true (hc.mpr z)
        omega
      refine kwh_f ?_
      rw [mt_end hij, List.append_nil] at ea
      subst ea
      walk_at "gg"
      exact q p H3 vs (s0.trans (sF.trans h3.same)) (s0.free n2) (by walk_at "h") (dq.up h3.same _ _)
end

end K01

namespace K01
open PySem PySem.Spec PyProof.Rows L2 Qk
local macro_rules | `(tactic| walk_at "m") => `(tactic| ((repeat (first | exact List.Mem.head _ | apply List.Mem.tail)); done))
local macro_rules | `(tactic| walk_at "h") => `(tactic| first | assumption | exact Has.gF (by assumption) (by assumption) | exact Has.get (by assumption) (by walk_at "m"))
local macro_rules | `(tactic| walk_at "c") => `(tactic| ((repeat (first | exact Chg.hd | apply Chg.tl)); done))
local macro_rules | `(tactic| walk_at "is") => `(tactic| first
  | ((with_reducible refine' is2_non ?gh ?_); (case gh => walk_at "h"))
  | (with_reducible refine is_int_list ?_)
  | (with_reducible refine is_int_tuple ?_)
  | (with_reducible refine is_int_dict ?_)
  | (with_reducible refine is_int_int ?_)
  | (with_reducible refine is_int_bool ?_)
  | (with_reducible refine is_int_str ?_)
  | ((with_reducible refine' is2_int ?gh ?_); (case gh => walk_at "h"))
  | (with_reducible refine is_str_list ?_)
  | (with_reducible refine is_str_tuple ?_)
  | (with_reducible refine is_str_dict ?_)
  | (with_reducible refine is_str_int ?_)
  | (with_reducible refine is_str_bool ?_)
  | (with_reducible refine is_str_str ?_)
  | ((with_reducible refine' is2_str ?gh ?_); (case gh => walk_at "h"))
  | (with_reducible refine is_bool_list ?_)
  | (with_reducible refine is_bool_tuple ?_)
  | (with_reducible refine is_bool_dict ?_)
  | (with_reducible refine is_bool_int ?_)
  | (with_reducible refine is_bool_bool ?_)
  | (with_reducible refine is_bool_str ?_)
  | ((with_reducible refine' is2_bool ?gh ?_); (case gh => walk_at "h"))
  | ((with_reducible refine' is_list_list ?gh ?_); (case gh => walk_at "h"))
  | ((with_reducible refine' is_list_tuple ?gh ?_); (case gh => walk_at "h"))
  | ((with_reducible refine' is_list_dict ?gh ?_); (case gh => walk_at "h"))
  | ((with_reducible refine' is_list_int ?gh ?_); (case gh => walk_at "h"))
  | ((with_reducible refine' is_list_bool ?gh ?_); (case gh => walk_at "h"))
  | ((with_reducible refine' is_list_str ?gh ?_); (case gh => walk_at "h"))
  | ((with_reducible refine' is2_list ?ga ?gb ?_); (case ga => walk_at "h"); (case gb => walk_at "h"))
  | ((with_reducible refine' is_tuple_list ?gh ?_); (case gh => walk_at "h"))
  | ((with_reducible refine' is_tuple_tuple ?gh ?_); (case gh => walk_at "h"))
  | ((with_reducible refine' is_tuple_dict ?gh ?_); (case gh => walk_at "h"))
  | ((with_reducible refine' is_tuple_int ?gh ?_); (case gh => walk_at "h"))
  | ((with_reducible refine' is_tuple_bool ?gh ?_); (case gh => walk_at "h"))
  | ((with_reducible refine' is_tuple_str ?gh ?_); (case gh => walk_at "h"))
  | ((with_reducible refine' is2_tuple ?ga ?gb ?_); (case ga => walk_at "h"); (case gb => walk_at "h"))
  | ((with_reducible refine' is_dict_list ?gh ?_); (case gh => walk_at "h"))
  | ((with_reducible refine' is_dict_tuple ?gh ?_); (case gh => walk_at "h"))
  | ((with_reducible refine' is_dict_dict ?gh ?_); (case gh => walk_at "h"))
  | ((with_reducible refine' is_dict_int ?gh ?_); (case gh => walk_at "h"))
  | ((with_reducible refine' is_dict_bool ?gh ?_); (case gh => walk_at "h"))
  | ((with_reducible refine' is_dict_str ?gh ?_); (case gh => walk_at "h"))
  | ((with_reducible refine' is2_dict ?ga ?gb ?_); (case ga => walk_at "h"); (case gb => walk_at "h")))
local macro_rules | `(tactic| walk_at "g") => `(tactic| first
  | (with_reducible refine g_seq ?_)
  | (with_reducible refine g_asg ?_)
  | ((with_reducible refine g_name ?_); dsimp only [List.set, wipe, List.map])
  | ((with_reducible refine' g_var ?gv ?_); (case gv => exact rfl))
  | (with_reducible refine g_c ?_)
  | (with_reducible refine g_op ?_)
  | (with_reducible refine g_cons ?_)
  | (with_reducible refine g_nil ?_)
  | (with_reducible refine g_cb ?_)
  | (with_reducible refine g_call ?_)
  | (with_reducible refine g_tup ?_)
  | (with_reducible refine g_lst ?_)
  | (with_reducible refine g_bm ?_)
  | (with_reducible refine g_bm0 ?_)
  | ((with_reducible refine' g_kbm ?gh ?_); (case gh => walk_at "h"))
  | (with_reducible refine g_drop ?_)
  | (with_reducible refine g_ret ?_)
  | (with_reducible refine g_retN ?_)
  | (with_reducible refine g_next ?_)
  | (with_reducible refine g_brk ?_)
  | (with_reducible refine g_cont ?_)
  | (with_reducible refine g_if ?_)
  | ((with_reducible refine' g_aug ?gv ?_); (case gv => exact rfl))
  | (with_reducible refine g_ipI ?_)
  | (with_reducible refine g_test ?_)
  | (with_reducible refine g_tB ?_)
  | (with_reducible refine g_kB ?_)
  | (with_reducible refine g_not ?_)
  | (with_reducible refine g_and ?_)
  | (with_reducible refine g_or ?_)
  | (with_reducible refine g_andV ?_)
  | (with_reducible refine g_orV ?_)
  | (with_reducible refine g_notV ?_)
  | (with_reducible refine g_ifE ?_)
  | (with_reducible refine g_addI ?_)
  | (with_reducible refine g_rI0 ?_)
  | (with_reducible refine g_eqI ?_)
  | (with_reducible refine g_eqS ?_)
  | (with_reducible refine g_neI ?_)
  | (with_reducible refine g_neS ?_)
  | (with_reducible refine g_isN ?_)
  | (with_reducible refine g_notN ?_)
  | (with_reducible refine g_int ?_)
  | (with_reducible refine g_max2 ?_)
  | ((with_reducible refine' g_lenL ?gh ?_); (case gh => walk_at "h"))
  | (with_reducible refine g_sub ?_)
  | (with_reducible refine g_gcons ?_)
  | (with_reducible refine g_gnil ?_)
  | (with_reducible refine g_un ?_)
  | (with_reducible refine g_rU ?_)
  | (with_reducible refine g_forL ?_)
  | (with_reducible refine g_forR1 ?_)
  | (with_reducible refine g_forR2 ?_)
  | (with_reducible refine g_forR3 ?_)
  | (with_reducible refine g_lcL ?_)
  | (with_reducible refine g_lcR1 ?_)
  | (with_reducible refine g_lcR2 ?_)
  | (with_reducible refine g_slice ?_)
  | (with_reducible refine g_part ?_)
  | (with_reducible refine g_kOI ?_)
  | (with_reducible refine g_nopart ?_)
  | (with_reducible refine g_yes ?_)
  | ((with_reducible refine' g_wipe ?gv ?_); (case gv => exact rfl))
  | (with_reducible refine iteT ?_)
  | (with_reducible refine iteF ?_)
  | (with_reducible refine i_nf ?_)
  | (with_reducible refine i_nt ?_)
  | ((with_reducible refine' g_gtup ?gh ?gl ?_); (case gh => walk_at "h"); (case gl => exact rfl))
  | ((with_reducible refine' g_notinI ?gh ?_); (case gh => walk_at "h"))
  | ((with_reducible refine' g_inI ?gh ?_); (case gh => walk_at "h"))
  | ((with_reducible refine' g_kget2 ?gh ?_); (case gh => walk_at "h"))
  | ((with_reducible refine' g_kgotI ?gh ?_); (case gh => walk_at "h"))
  | (with_reducible refine g_tRev ?_)
  | (with_reducible refine g_neB ?_)
  | (with_reducible refine g_eqB ?_)
  | ((with_reducible refine' g_lenT ?gh ?_); (case gh => walk_at "h"))
  | (with_reducible refine g_star ?_)
  | ((with_reducible refine' g_kstarL ?gh ?_); (case gh => walk_at "h"))
  | ((with_reducible refine' g_kstarT ?gh ?_); (case gh => walk_at "h"))
  | (with_reducible refine g_tru ?_)
  | ((with_reducible refine' g_truL ?gh ?_); (case gh => walk_at "h"))
  | (with_reducible refine g_get2 ?_)
  | walk_at "is")
local macro_rules | `(tactic| walk_at "gg") => `(tactic| repeat walk_at "g")
local macro_rules | `(tactic| walk_at "sz") => `(tactic| (refine sz ?_; simp only [List.length_cons, List.length_nil, List.length_map, List.length_append, List.length_replicate]; omega))

/-- a constant of the program's text -/
theorem pe_gc {X : Cx} {x : Str} {pos : Pos} {v : V} (hg : Gl X x) (h : ∃ u, X.mg x = some u ∧ RelV v u) (hd : (x == ("__debug__" : Str)) = false := by decide) : PE X (.Name x pos) (tC v) := by
  obtain ⟨u, hm, r⟩ := h
  exact pe_glob hg hm r hd

def kForE (K : PySem.W.Frag) (g : TG) (tb : TS) (D : Ends) (σ : L2.St) (vs : List V) (H : Hp) : Prop := ∃ a xs, vs = [.ref a] ∧ SqL K H a xs ∧ kW (Ite K a) g tb D σ H
theorem g_forE {K : PySem.W.Frag} {σ : L2.St} {H : Hp} {D : Ends} {ts : TS} {g : TG} {ta : TA} (q : ta σ H fun vs H1 => kForE K g ts D σ vs H1) : tFor (iEnum K ta) g ts D σ H := by
  have e : (tFor (iEnum K ta) g ts D σ H) = (ta σ H fun vs H1 => kForE K g ts D σ vs H1) := rfl
  rw [e]
  exact q
theorem k_forE {K : PySem.W.Frag} {σ : L2.St} {H : Hp} {D : Ends} {ts : TS} {g : TG} {a : Addr} {xs : List V} (h : H a = some (.lst xs)) (Pv : Nat → L2.St → Hp → Prop) (h0 : Pv 0 σ H) (hl : ∀ i σ H, Pv i σ H → H a = some (.lst xs))
    (hs : ∀ i x σ H T, xs[i]? = some x → Pv i σ H → H T = none → g (.ref T) σ (upd H T (.tup [.int (i : Nat), x])) fun σ2 H2 => ts { D with nx := Pv (i + 1), ct := Pv (i + 1), bk := D.nx } σ2 H2) (hd : ∀ σ H, Pv xs.length σ H → D.nx σ H) : kForE K g ts D σ [.ref a] H := by
  refine ⟨a, xs, rfl, SqL.of h, fun i m σ H => m = xs.length - i ∧ i ≤ xs.length ∧ Pv i σ H, ⟨_, rfl, Nat.zero_le _, h0⟩, ?_⟩
  rintro i m σ H1 ⟨rfl, hi, p⟩
  have hq : SqL K H1 a xs := SqL.of (hl i σ H1 p)
  by_cases hlt : i < xs.length
  · refine .inr ⟨⟨xs, xs[i], hq, List.getElem?_eq_getElem hlt⟩, Pv (i + 1), fun σ' H' p' => ⟨xs.length - (i + 1), by omega, rfl, hlt, p'⟩, ?_⟩
    rintro x H' ⟨T, y, rfl, n, rfl, e⟩
    exact hs i y σ H1 T (e xs hq) p n
  · have e : i = xs.length := by omega
    subst e
    exact .inl ⟨⟨xs, hq, Nat.le_refl _⟩, hd σ H1 p⟩
local macro_rules | `(tactic| walk_at "g") => `(tactic| (with_reducible refine g_forE ?_))

/-! ### edits -/
def cut (L : List Str) (i a : Nat) : List Str := (L.drop i).take (a - i)
theorem cut_len (L : List Str) {i a : Nat} (h : a ≤ L.length) : (cut L i a).length = a - i := by
  unfold cut
  rw [List.length_take, List.length_drop]
  omega
theorem cut_le (L : List Str) (i a : Nat) : (cut L i a).length ≤ L.length := by
  unfold cut
  rw [List.length_take, List.length_drop]
  omega
theorem cut_mem {B : List Str} {i a : Nat} {x : Str} (h : x ∈ cut B i a) : x ∈ B := List.mem_of_mem_drop (List.mem_of_mem_take h)
theorem cutV_str (L : List Str) (i a : Nat) : cutV (L.map V.str) (some (i : Int)) (some (a : Int)) = (cut L i a).map V.str := by
  rw [cutV_nat, ← List.map_drop, ← List.map_take]
  rfl
def Inc : Nat → Nat → List (Nat × Nat) → Prop
  | _, _, [] => True
  | i, j, p :: ps => i ≤ p.1 ∧ j ≤ p.2 ∧ Inc (p.1 + 1) (p.2 + 1) ps
theorem Inc.mono {i j i' j' : Nat} : ∀ {ps : List (Nat × Nat)}, i' ≤ i → j' ≤ j → Inc i j ps → Inc i' j' ps
  | [], _, _, _ => trivial
  | _ :: _, h1, h2, h => ⟨Nat.le_trans h1 h.1, Nat.le_trans h2 h.2.1, h.2.2⟩
theorem mt_inc : ∀ (xs ys : List Str) (i j : Nat), Inc i j (mt xs ys i j)
  | [], _, _, _ => by rw [mt]; trivial
  | _ :: _, [], _, _ => by rw [mt]; trivial
  | x :: xs, y :: ys, i, j => by
    rw [mt]
    split
    · exact ⟨Nat.le_refl _, Nat.le_refl _, mt_inc xs ys (i + 1) (j + 1)⟩
    · split
      · exact (mt_inc xs (y :: ys) (i + 1) j).mono (Nat.le_succ _) (Nat.le_refl _)
      · exact (mt_inc (x :: xs) ys i (j + 1)).mono (Nat.le_refl _) (Nat.le_succ _)
termination_by xs ys => xs.length + ys.length
theorem mt_eq : ∀ (xs ys : List Str) (i j : Nat) (p : Nat × Nat), p ∈ mt xs ys i j → ∃ z, xs[p.1 - i]? = some z ∧ ys[p.2 - j]? = some z
  | [], _, _, _, _, h => by rw [mt] at h; cases h
  | _ :: _, [], _, _, _, h => by rw [mt] at h; cases h
  | x :: xs, y :: ys, i, j, p, h => by
    rw [mt] at h
    split at h
    · rename_i e
      rcases List.mem_cons.mp h with rfl | h
      · exact ⟨x, by simp, by simp [e]⟩
      · have hl := mt_lt _ _ _ _ _ h
        obtain ⟨z, h1, h2⟩ := mt_eq xs ys (i + 1) (j + 1) p h
        refine ⟨z, ?_, ?_⟩
        · rw [show p.1 - i = (p.1 - (i + 1)) + 1 by omega]; exact h1
        · rw [show p.2 - j = (p.2 - (j + 1)) + 1 by omega]; exact h2
    · split at h
      · have hl := mt_lt _ _ _ _ _ h
        obtain ⟨z, h1, h2⟩ := mt_eq xs (y :: ys) (i + 1) j p h
        refine ⟨z, ?_, h2⟩
        rw [show p.1 - i = (p.1 - (i + 1)) + 1 by omega]; exact h1
      · have hl := mt_lt _ _ _ _ _ h
        obtain ⟨z, h1, h2⟩ := mt_eq (x :: xs) ys i (j + 1) p h
        refine ⟨z, h1, ?_⟩
        rw [show p.2 - j = (p.2 - (j + 1)) + 1 by omega]; exact h2
termination_by xs ys => xs.length + ys.length
/-- place in the first text, in the second one, what goes, what comes -/
abbrev Ed := Nat × Nat × List Str × List Str
def edO (X Y : List Str) (s n i j : Nat) : List Ed := if (cut X s i).length + (cut Y n j).length > 0 then [(s, n, cut X s i, cut Y n j)] else []
def ed (X Y : List Str) : Nat → Nat → List (Nat × Nat) → List Ed
  | _, _, [] => []
  | s, n, p :: ps => edO X Y s n p.1 p.2 ++ ed X Y (p.1 + 1) (p.2 + 1) ps
theorem ed_take (X Y : List Str) : ∀ (ps : List (Nat × Nat)) (t : Nat) (p : Nat × Nat) (s n : Nat), ps[t]? = some p → True
  | _, _, _, _, _, _ => trivial
/-- the edits stand in order: from s, n on, with the texts' lines -/
def Ew (X Y : List Str) : Nat → Nat → List Ed → Prop
  | s, n, [] => X.drop s = Y.drop n
  | s, n, (a, b, r, d) :: es => s ≤ a ∧ n ≤ b ∧ a + n = b + s ∧ cut X s a = cut Y n b ∧ a ≤ X.length ∧ b ≤ Y.length ∧ a + r.length ≤ X.length ∧ b + d.length ≤ Y.length ∧ r = cut X a (a + r.length) ∧ d = cut Y b (b + d.length) ∧ r.length + d.length > 0 ∧ Ew X Y (a + r.length) (b + d.length) es
theorem cut_app (L : List Str) {i a c : Nat} (h1 : i ≤ a) (h2 : a ≤ c) : cut L i c = cut L i a ++ cut L a c := by
  unfold cut
  rw [show c - i = (a - i) + (c - a) by omega, List.take_add, List.drop_drop, show i + (a - i) = a by omega]
theorem cut_self (L : List Str) (i : Nat) : cut L i i = [] := by
  unfold cut
  rw [Nat.sub_self, List.take_zero]
theorem cut_full (L : List Str) (i : Nat) : cut L i L.length = L.drop i := by
  unfold cut
  exact List.take_of_length_le (by rw [List.length_drop]; exact Nat.le_refl _)
theorem cut_one {L : List Str} {i : Nat} {z : Str} (h : L[i]? = some z) : cut L i (i + 1) = [z] := by
  obtain ⟨l1, e1⟩ := List.getElem?_eq_some_iff.mp h
  unfold cut
  rw [show i + 1 - i = 1 by omega, List.drop_eq_getElem_cons l1, e1]
  rfl
theorem ed_w (X Y : List Str) : ∀ (ps : List (Nat × Nat)) (s n s0 n0 : Nat), Inc s n ps → (∀ p ∈ ps, p.1 < X.length ∧ p.2 < Y.length ∧ ∃ z, X[p.1]? = some z ∧ Y[p.2]? = some z) → s0 ≤ s → n0 ≤ n → s + n0 = n + s0 → cut X s0 s = cut Y n0 n → s ≤ X.length → n ≤ Y.length →
    Ew X Y s0 n0 (ed X Y s n (ps ++ [(X.length, Y.length)]))
  | [], s, n, s0, n0, _, _, h1, h2, h3, h4, h5, h6 => by
    show Ew X Y s0 n0 (edO X Y s n X.length Y.length ++ [])
    rw [List.append_nil]
    unfold edO
    rw [cut_len X (Nat.le_refl _), cut_len Y (Nat.le_refl _)]
    by_cases e : X.length - s + (Y.length - n) > 0
    · rw [if_pos e]
      refine ⟨h1, h2, h3, h4, h5, h6, ?_, ?_, ?_, ?_, ?_, ?_⟩
      · rw [cut_len X (Nat.le_refl _)]; omega
      · rw [cut_len Y (Nat.le_refl _)]; omega
      · rw [cut_len X (Nat.le_refl _), show s + (X.length - s) = X.length by omega]
      · rw [cut_len Y (Nat.le_refl _), show n + (Y.length - n) = Y.length by omega]
      · rw [cut_len X (Nat.le_refl _), cut_len Y (Nat.le_refl _)]; exact e
      · rw [cut_len X (Nat.le_refl _), cut_len Y (Nat.le_refl _)]
        show X.drop _ = Y.drop _
        rw [List.drop_of_length_le (by omega), List.drop_of_length_le (by omega)]
    · rw [if_neg e]
      show X.drop s0 = Y.drop n0
      have e1 : s = X.length := by omega
      have e2 : n = Y.length := by omega
      rw [← cut_full X s0, ← cut_full Y n0]
      rw [e1, e2] at h4
      exact h4
  | p :: ps, s, n, s0, n0, hi, hp, h1, h2, h3, h4, h5, h6 => by
    obtain ⟨i, j⟩ := p
    obtain ⟨g1, g2, g3⟩ := hi
    obtain ⟨b1, b2, z, e1, e2⟩ := hp (i, j) List.mem_cons_self
    have ih := ed_w X Y ps (i + 1) (j + 1)
    have hp' := fun q hq => hp q (List.mem_cons_of_mem _ hq)
    show Ew X Y s0 n0 (edO X Y s n i j ++ ed X Y (i + 1) (j + 1) (ps ++ [(X.length, Y.length)]))
    simp only at g1 g2 g3 b1 b2 e1 e2
    unfold edO
    rw [cut_len X (Nat.le_of_lt b1), cut_len Y (Nat.le_of_lt b2)]
    by_cases e : i - s + (j - n) > 0
    · rw [if_pos e]
      refine ⟨h1, h2, h3, h4, h5, h6, ?_, ?_, ?_, ?_, ?_, ?_⟩
      · rw [cut_len X (Nat.le_of_lt b1)]; omega
      · rw [cut_len Y (Nat.le_of_lt b2)]; omega
      · rw [cut_len X (Nat.le_of_lt b1), show s + (i - s) = i by omega]
      · rw [cut_len Y (Nat.le_of_lt b2), show n + (j - n) = j by omega]
      · rw [cut_len X (Nat.le_of_lt b1), cut_len Y (Nat.le_of_lt b2)]; exact e
      · rw [cut_len X (Nat.le_of_lt b1), cut_len Y (Nat.le_of_lt b2), show s + (i - s) = i by omega, show n + (j - n) = j by omega]
        exact ih i j g3 hp' (by omega) (by omega) (by omega) (by rw [cut_one e1, cut_one e2]) (by omega) (by omega)
    · rw [if_neg e]
      have q1 : s = i := by omega
      have q2 : n = j := by omega
      subst q1 q2
      refine ih s0 n0 g3 hp' (by omega) (by omega) (by omega) ?_ (by omega) (by omega)
      rw [cut_app X h1 (Nat.le_succ _), cut_app Y h2 (Nat.le_succ _), h4, cut_one e1, cut_one e2]
/-- the edits between two texts -/
def eds (X Y : List Str) : List Ed := ed X Y 0 0 (mt X Y 0 0 ++ [(X.length, Y.length)])
theorem eds_w (X Y : List Str) : Ew X Y 0 0 (eds X Y) := by
  refine ed_w X Y _ 0 0 0 0 (mt_inc X Y 0 0) (fun p hp => ?_) (Nat.le_refl _) (Nat.le_refl _) rfl rfl (Nat.zero_le _) (Nat.zero_le _)
  have h1 := mt_lt _ _ _ _ _ hp
  obtain ⟨z, e1, e2⟩ := mt_eq _ _ _ _ _ hp
  exact ⟨by omega, by omega, z, e1, e2⟩
def swE (e : Ed) : Ed := (e.2.1, e.1, e.2.2.2, e.2.2.1)
theorem Ew.sw {X Y : List Str} : ∀ {es : List Ed} {s n : Nat}, Ew X Y s n es → Ew Y X n s (es.map swE)
  | [], _, _, h => Eq.symm h
  | (a, b, r, d) :: es, s, n, h => by
    obtain ⟨h1, h2, h3, h4, h5, h6, h7, h8, h9, h10, h11, h12⟩ := h
    exact ⟨h2, h1, h3.symm, h4.symm, h6, h5, h8, h7, h10, h9, by show d.length + r.length > 0; omega, h12.sw⟩
theorem sw_sw (es : List Ed) : (es.map swE).map swE = es := by
  rw [List.map_map]
  exact List.map_id' es
def noE (es : List Ed) : Prop := ∀ e ∈ es, e.2.2.1.length ≤ 10 ∧ e.2.2.2.length ≤ 10
theorem Ew.bound {X Y : List Str} {k : Nat} (hX : X.length ≤ k) (hY : Y.length ≤ k) : ∀ {es : List Ed} {s n : Nat}, Ew X Y s n es → es.length + s + n ≤ 2 * k + s + n ∧ es.length ≤ (X.length - s) + (Y.length - n) ∧ ∀ e ∈ es, e.1 ≤ k ∧ e.2.1 ≤ k ∧ e.2.2.1.length ≤ k ∧ e.2.2.2.length ≤ k
  | [], _, _, _ => ⟨by show 0 + _ + _ ≤ _; omega, Nat.zero_le _, fun e he => (by cases he)⟩
  | (a, b, r, d) :: es, s, n, h => by
    obtain ⟨h1, h2, h3, h4, h5, h6, h7, h8, h9, h10, h11, h12⟩ := h
    obtain ⟨i1, i2, i3⟩ := h12.bound hX hY
    refine ⟨?_, ?_, fun e he => ?_⟩
    · rw [List.length_cons]; omega
    · rw [List.length_cons]; omega
    · rcases List.mem_cons.mp he with rfl | he
      · exact ⟨by show a ≤ k; omega, by show b ≤ k; omega, by show r.length ≤ k; omega, by show d.length ≤ k; omega⟩
      · exact i3 e he
/-- what the edits make of a text -/
def apE (X : List Str) : Nat → List Ed → List Str
  | s, [] => X.drop s
  | s, e :: es => cut X s e.1 ++ e.2.2.2 ++ apE X (e.1 + e.2.2.1.length) es
theorem Ew.app {X Y : List Str} : ∀ {es : List Ed} {s n : Nat}, Ew X Y s n es → apE X s es = Y.drop n
  | [], _, _, h => h
  | (a, b, r, d) :: es, s, n, h => by
    obtain ⟨h1, h2, h3, h4, h5, h6, h7, h8, h9, h10, h11, h12⟩ := h
    show cut X s a ++ d ++ apE X (a + r.length) es = Y.drop n
    rw [h12.app, h4, h10, List.append_assoc]
    rw [show (cut Y b (b + d.length)).length = d.length by rw [cut_len Y h8]; omega]
    have e1 : ∀ c, n ≤ c → cut Y n c ++ Y.drop c = Y.drop n := fun c hc => by
      unfold cut
      have := List.take_append_drop (c - n) (Y.drop n)
      rw [List.drop_drop, show n + (c - n) = c by omega] at this
      exact this
    rw [← e1 b h2]
    congr 1
    unfold cut
    have := List.take_append_drop (b + d.length - b) (Y.drop b)
    rw [List.drop_drop, show b + (b + d.length - b) = b + d.length by omega] at this
    exact this
theorem inc_snoc {a b : Nat} : ∀ {ps : List (Nat × Nat)} {i j : Nat}, Inc i j ps → (∀ p ∈ ps, p.1 < a ∧ p.2 < b) → i ≤ a → j ≤ b → Inc i j (ps ++ [(a, b)])
  | [], _, _, _, _, h1, h2 => ⟨h1, h2, trivial⟩
  | p :: ps, i, j, h, hp, _, _ => by
    have hb := hp p List.mem_cons_self
    exact ⟨h.1, h.2.1, inc_snoc h.2.2 (fun q hq => hp q (List.mem_cons_of_mem _ hq)) hb.1 hb.2⟩
theorem rows_inc (X Y : List Str) : Inc 0 0 (mt X Y 0 0 ++ [(X.length, Y.length)]) ∧ (∀ p ∈ mt X Y 0 0 ++ [(X.length, Y.length)], p.1 ≤ X.length ∧ p.2 ≤ Y.length) := by
  have hp : ∀ p ∈ mt X Y 0 0, p.1 < X.length ∧ p.2 < Y.length := fun p hp => by
    have := mt_lt _ _ _ _ _ hp
    omega
  refine ⟨inc_snoc (mt_inc X Y 0 0) hp (Nat.zero_le _) (Nat.zero_le _), fun p h => ?_⟩
  rcases List.mem_append.mp h with h | h
  · have := hp p h
    omega
  · rw [List.mem_singleton.mp h]
    exact ⟨Nat.le_refl _, Nat.le_refl _⟩
theorem edO_ne {X Y : List Str} {s n i j : Nat} (h1 : s ≤ i) (h2 : n ≤ j) (h3 : i ≤ X.length) (h4 : j ≤ Y.length) : edO X Y s n i j = if (i, j) ≠ (s, n) then [(s, n, cut X s i, cut Y n j)] else [] := by
  unfold edO
  rw [cut_len X h3, cut_len Y h4]
  by_cases e : ((i, j) : Nat × Nat) = (s, n)
  · have e' : ¬ i - s + (j - n) > 0 := by
      rw [Prod.mk.injEq] at e
      omega
    rw [if_neg e', if_neg (fun z => z e)]
  · have e' : i - s + (j - n) > 0 := by
      rcases Nat.lt_or_ge 0 (i - s + (j - n)) with h | h
      · exact h
      · exfalso
        apply e
        rw [Prod.mk.injEq]
        omega
    rw [if_pos e', if_pos e]
def tS (ls : List Str) : PyData := .tuple (ls.map PyData.str)
def fD (e : Ed) : PyData := .tuple [.int (e.1 : Int), tS e.2.2.1, tS e.2.2.2]
theorem dq_tS {H : Hp} {a : Addr} {xs : List Str} (h : H a = some (.tup (xs.map V.str))) : Dq H (.ref a) (tS xs) := .tup h (DqAll.strs xs)
theorem tS_inv {H : Hp} {v : V} {xs : List Str} (h : Dq H v (tS xs)) : ∃ a, v = .ref a ∧ H a = some (.tup (xs.map V.str)) := by
  cases h with
  | tup hT hs => exact ⟨_, rfl, by rw [hT, hs.of_strs]⟩
theorem fD_at {F : Hp} {v : V} {e : Ed} (h : Dq F v (fD e)) : ∃ T tr td, v = .ref T ∧ F T = some (.tup [.int (e.1 : Int), .ref tr, .ref td]) ∧ F tr = some (.tup (e.2.2.1.map V.str)) ∧ F td = some (.tup (e.2.2.2.map V.str)) := by
  cases h with
  | tup hT hs =>
    cases hs with
    | cons h1 hs =>
      cases hs with
      | cons h2 hs =>
        cases hs with
        | cons h3 hs =>
          cases hs
          cases h1
          obtain ⟨t2, rfl, e2⟩ := tS_inv h2
          obtain ⟨t3, rfl, e3⟩ := tS_inv h3
          exact ⟨_, _, _, rfl, hT, e2, e3⟩
theorem tS_noL (xs : List Str) : noL (tS xs) = true := by
  unfold tS
  rw [noL]
  refine noLs_mem fun d hd => ?_
  obtain ⟨x, _, rfl⟩ := List.mem_map.mp hd
  rfl
theorem fDs_noL {es : List Ed} : ∀ d ∈ es.map fD, noL d = true := fun d hd => by
  obtain ⟨c, _, rfl⟩ := List.mem_map.mp hd
  unfold fD
  rw [noL, noLs, noLs, noLs, noLs, tS_noL, tS_noL]
  rfl
theorem prd_noL {es : List (Nat × Nat)} : ∀ d ∈ es.map prd, noL d = true := fun d hd => by
  obtain ⟨c, _, rfl⟩ := List.mem_map.mp hd
  rfl
theorem so_str (n : Nat) (x : Str) : so (n + 1) (.str x) := trivial
theorem so_tS (n : Nat) {xs : List Str} (h : xs.length ≤ 100000) : so (n + 2) (tS xs) := ⟨by rw [List.length_map]; exact h, fun d hd => by
  obtain ⟨x, _, rfl⟩ := List.mem_map.mp hd
  exact so_str n x⟩
theorem so_strs (n : Nat) {xs : List Str} (h : xs.length ≤ 100000) : so (n + 2) (.list (xs.map PyData.str)) := ⟨by rw [List.length_map]; exact h, fun d hd => by
  obtain ⟨x, _, rfl⟩ := List.mem_map.mp hd
  exact so_str n x⟩
theorem so_fDs (n : Nat) {es : List Ed} (hl : es.length ≤ 100000) (h : ∀ e ∈ es, e.2.2.1.length ≤ 100000 ∧ e.2.2.2.length ≤ 100000) : so (n + 4) (.list (es.map fD)) := ⟨by rw [List.length_map]; exact hl, fun d hd => by
  obtain ⟨e, he, rfl⟩ := List.mem_map.mp hd
  refine ⟨by show 3 ≤ 100000; decide, fun d hd => ?_⟩
  simp only [List.mem_cons, List.not_mem_nil, or_false] at hd
  rcases hd with rfl | rfl | rfl
  · trivial
  · exact so_tS n (h e he).1
  · exact so_tS n (h e he).2⟩
def okL (xs : List Str) : Prop := ∀ x ∈ xs, PyData.strOk x = true
theorem sh_tS {n : Nat} {xs : List Str} (h : okL xs) : Sh (n + 1) (tS xs) := Sh.tuple fun d hd => by
  obtain ⟨x, hx, rfl⟩ := List.mem_map.mp hd
  exact Sh.str (h x hx)
theorem eqv_tS (xs ys : List Str) : PyData.eqv (tS xs) (tS ys) = decide (xs = ys) := eqv_tstrs xs ys
theorem Ew.ok {X Y : List Str} (hX : okL X) (hY : okL Y) : ∀ {es : List Ed} {s n : Nat}, Ew X Y s n es → ∀ e ∈ es, okL e.2.2.1 ∧ okL e.2.2.2
  | [], _, _, _, e, he => (by cases he)
  | (a, b, r, d) :: es, s, n, h, e, he => by
    obtain ⟨h1, h2, h3, h4, h5, h6, h7, h8, h9, h10, h11, h12⟩ := h
    rcases List.mem_cons.mp he with rfl | he
    · refine ⟨fun x hx => ?_, fun x hx => ?_⟩
      · have hx : x ∈ r := hx
        rw [h9] at hx
        exact hX x (cut_mem hx)
      · have hx : x ∈ d := hx
        rw [h10] at hx
        exact hY x (cut_mem hx)
    · exact Ew.ok hX hY h12 e he
theorem sh_fDs {es : List Ed} (h : ∀ e ∈ es, okL e.2.2.1 ∧ okL e.2.2.2) : Sh 3 (.list (es.map fD)) := Sh.list fun d hd => by
  obtain ⟨e, he, rfl⟩ := List.mem_map.mp hd
  refine Sh.tuple fun d hd => ?_
  simp only [List.mem_cons, List.not_mem_nil, or_false] at hd
  rcases hd with rfl | rfl | rfl
  · exact Sh.int _
  · exact sh_tS (h e he).1
  · exact sh_tS (h e he).2

/-! ### text_edits, _law_cut -/
section
variable {P : Program} {w : World} {K : PySem.W.Frag} {mg : Str → Option Value} {base : Heap}
def sp_text_edits (K : PySem.W.Frag) : Sp := fun vs H Q _ => ∃ (a b : Addr) (X Y : List Str), vs = [.ref a, .ref b] ∧ H a = some (.lst (X.map V.str)) ∧ H b = some (.lst (Y.map V.str)) ∧ X.length ≤ 100 ∧ Y.length ≤ 100 ∧
  ∀ p H' (vs : List V), Same H H' → H p = none → H' p = some (.lst vs) → DqAll H' vs ((eds X Y).map fD) → Q (.ref p) H'
theorem sp_text_edits_len {vs H Q E} (h : sp_text_edits K vs H Q E) : vs.length = 2 := by
  obtain ⟨_, _, _, _, rfl, _⟩ := h
  rfl
theorem ok_text_edits (T : Txt K mg) : FnOk P w K mg base CX0 3 T.f_text_edits T.fd_text_edits ["old", "new"] (sp_text_edits K) := by
  refine T.F_text_edits.ok sc_text_edits (fun vs H Q E h => sp_text_edits_len h) (fun cdv A outer s H vs Q E hr h => ?_)
  refine ⟨_, (pss_cons (ps_set (i := 2) sc_text_edits.nd rfl (.inl rfl) (pe_lst pa_nil))
      (pss_cons (ps_set (i := 3) sc_text_edits.nd rfl (.inl rfl) pe_int)
      (pss_cons (ps_set (i := 4) sc_text_edits.nd rfl (.inl rfl) pe_int)
      (pss_cons (ps_for PassesOwn.never rfl (k_il K (pi_list (pe_lst (k_star K (StX.pa_star (pe_call (ok_matched T) (hr.mono (by decide)) (by rfl) T.g_matched T.F_matched.kp T.b_matched .nil pass0 (pa_cons (pv 0) (pa_cons (pv 1) pa_nil))) (pa_cons (pe_tup (pa_cons (pe_callB (cr_lenK K) (by rfl) T.m_len (by decide +kernel) (pa_cons (pv 0) pa_nil)) (pa_cons (pe_callB (cr_lenK K) (by rfl) T.m_len (by decide +kernel) (pa_cons (pv 1) pa_nil)) pa_nil))) pa_nil)))))) (k_gt K (pg_tup (by rfl) (pgs_cons (pg_name (i := 5) sc_text_edits.nd rfl (.inl rfl)) (pgs_cons (pg_name (i := 6) sc_text_edits.nd rfl (.inl rfl)) pgs_nil)))) (pss_cons (ps_set (i := 7) sc_text_edits.nd rfl (.inl rfl) (pe_callTy (cr_tupleK K) (by rfl) T.m_tuple (by decide +kernel) (pa_cons (pe_slice (sl_K K) (pv 0) (po_some (pv 3)) (po_some (pv 5))) pa_nil)))
      (pss_cons (ps_set (i := 8) sc_text_edits.nd rfl (.inl rfl) (pe_callTy (cr_tupleK K) (by rfl) T.m_tuple (by decide +kernel) (pa_cons (pe_slice (sl_K K) (pv 1) (po_some (pv 4)) (po_some (pv 6))) pa_nil)))
      (pss_cons (ps_if (pt_cmpR op_gt (pe_op (op_addK K) (pe_callB (cr_lenK K) (by rfl) T.m_len (by decide +kernel) (pa_cons (pv 7) pa_nil)) (pe_callB (cr_lenK K) (by rfl) T.m_len (by decide +kernel) (pa_cons (pv 8) pa_nil))) pe_int (nomark _)) (pss_one (ps_expr (k_bm K (pe_bm PySem.F.plainAttrs_list PySem.F.slot_list_append PySem.F.type_list_append mt_append (pv 2) (pa_cons (pe_tup (pa_cons (pv 3) (pa_cons (pv 7) (pa_cons (pv 8) pa_nil)))) pa_nil))))) pss_nil)
      (pss_cons (ps_set (i := 3) sc_text_edits.nd rfl (.inl rfl) (pe_op (op_addK K) (pv 5) pe_int))
      (pss_one (ps_set (i := 4) sc_text_edits.nd rfl (.inl rfl) (pe_op (op_addK K) (pv 6) pe_int))))))))
      (pss_one (ps_ret (pv 2))))))), ?_⟩
  obtain ⟨a, b, X, Y, rfl, ha, hb, lX, lY, q⟩ := h
  have hH := Has.start H
  refine g_start (σ' := [some (.ref a), some (.ref b), none, none, none, none, none, none, none]) rfl ?_
  walk_at "gg"
  refine g_klst (by walk_at "sz") hH (fun pl H1 n1 h1 => ?_)
  walk_at "gg"
  refine ⟨a, b, X, Y, rfl, by walk_at "h", by walk_at "h", by omega, by omega, fun p3 H3 v3 s3 n3 hp3 dq3 => ?_⟩
  have hml : (mt X Y 0 0).length ≤ 100 := by rw [mt_length]; have := lc_len X Y; omega
  have hdef : ed X Y 0 0 (mt X Y 0 0 ++ [(X.length, Y.length)]) = eds X Y := rfl
  generalize mt X Y 0 0 = R at dq3 hml hdef
  have hvl : v3.length = R.length := by rw [dq3.len, List.length_map]
  have h3 := h1.on s3
  have hpp : pl ≠ p3 := fun z => by
    subst z
    rw [h1.get (List.Mem.head _)] at n3
    cases n3
  have dq3 : DqAll (rmO [(pl, HO.lst [])] H3) v3 (R.map prd) := by
    refine h3.keep (fun p hp xs z => ?_) prd_noL dq3
    rw [List.mem_singleton.mp hp] at z; cases z
  have hp3 : rmO [(pl, HO.lst [])] H3 p3 = some (.lst v3) := by
    unfold rmO
    rw [if_neg (by simpa using fun z => hpp z.symm)]
    exact hp3
  have sF0 := h3.reF
  have h3 := h3.re
  generalize rmO [(pl, HO.lst [])] H3 = F0 at h3 dq3 hp3 sF0
  have ha3 := sF0 _ _ ha
  have hb3 := sF0 _ _ hb
  walk_at "gg"
  refine g_ktupF (by walk_at "sz") h3 (fun pe H4 F4 n4 s4 f4 h4 => ?_)
  rw [List.length_map, List.length_map] at f4
  have dR : DqAll F4 (v3 ++ [.ref pe]) ((R ++ [(X.length, Y.length)]).map prd) := by
    rw [List.map_append]
    exact (dq3.up s4 _ _).snoc (.tup f4 (.cons (.int _) (.cons (.int _) .nil)))
  have ha4 := s4 _ _ ha3
  have hb4 := s4 _ _ hb3
  walk_at "gg"
  refine g_klst (sz (by rw [List.length_append]; show v3.length + 1 ≤ _; omega)) h4 (fun p4 H5 n5 h5 => ?_)
  generalize hR2 : R ++ [(X.length, Y.length)] = R2 at dR hdef
  have hR2l : R2.length ≤ 101 := by rw [← hR2, List.length_append]; show R.length + 1 ≤ _; omega
  generalize v3 ++ [V.ref pe] = v4 at dR h5
  have hv4 : v4.length = R2.length := by rw [dR.len, List.length_map]
  refine k_forL (by walk_at "h") (fun t σ H' => ∃ (s n : Nat) (acc : List V) (es : List Ed) (F : Hp) (y1 y2 y3 y4 : Option V), σ = [some (.ref a), some (.ref b), some (.ref pl), some (.int (s : Int)), some (.int (n : Int)), y1, y2, y3, y4] ∧ Same F4 F ∧ Has F [(p4, .lst v4), (pl, .lst acc)] H' ∧ DqAll F acc (es.map fD) ∧ es ++ ed X Y s n (R2.drop t) = eds X Y ∧ es.length ≤ t) ⟨0, 0, [], [], F4, _, _, _, _, rfl, Same.refl _, h5, .nil, by rw [List.drop_zero, List.nil_append]; exact hdef, Nat.le_refl _⟩ ?_ ?_ ?_
  · rintro t σ H6 _ ⟨s, n, acc, es, F, _, _, _, _, _, sF, h6, _⟩
    exact h6.get (List.Mem.head _)
  · rintro t x σ H6 hx ⟨s, n, acc, es, F, y1, y2, y3, y4, rfl, sF, h6, dq, ecs, lcs⟩
    obtain ⟨d, hd, dx⟩ := dR.get hx
    rw [List.getElem?_map] at hd
    obtain ⟨m, hm, rfl⟩ := Option.map_eq_some_iff.mp hd
    obtain ⟨i, j⟩ := m
    obtain ⟨T, rfl, hT⟩ := prd_inv (dx.up sF _ _)
    have ht : t < R2.length := (List.getElem?_eq_some_iff.mp hm).1
    have edr : R2.drop t = (i, j) :: R2.drop (t + 1) := by
      rw [List.drop_eq_getElem_cons ht, (List.getElem?_eq_some_iff.mp hm).2]
    have ha6 := sF _ _ ha4
    have hb6 := sF _ _ hb4
    have hal : acc.length = es.length := by rw [dq.len, List.length_map]
    rw [edr] at ecs
    have ecs : es ++ (edO X Y s n i j ++ ed X Y (i + 1) (j + 1) (R2.drop (t + 1))) = eds X Y := ecs
    walk_at "gg"
    refine g_slL (by walk_at "h") h6 (fun q1 H7 n7 h7 => ?_)
    rw [cutV_str] at h7
    walk_at "gg"
    refine g_tupleL (by walk_at "h") h7.frz (fun tb H8 F8 n8 s8 f8 h8 => ?_)
    have s8 := h7.grow.trans s8
    have hb8 := s8 _ _ hb6
    walk_at "gg"
    refine g_slL (by walk_at "h") h8 (fun q2 H9 n9 h9 => ?_)
    rw [cutV_str] at h9
    walk_at "gg"
    refine g_tupleL (by walk_at "h") h9.frz (fun tx H10 F10 n10 s10 f10 h10 => ?_)
    have s10 := h9.grow.trans s10
    have f8 := s10 _ _ f8
    have s610 := s8.trans s10
    have dq := dq.up s610 _ _
    walk_at "gg"
    rw [List.length_map, List.length_map]
    refine i_d (fun e => ?_) (fun e => ?_)
    · have e' : (cut X s i).length + (cut Y n j).length > 0 := Int.ofNat_lt.mp e
      walk_at "gg"
      refine g_ktupF (by walk_at "sz") h10 (fun tt H16 F16 n16 s16 f16 h16 => ?_)
      walk_at "gg"
      refine g_append h16 (by walk_at "c") (szl (by omega)) (fun H17 h17 => ?_)
      walk_at "gg"
      refine ⟨i + 1, j + 1, _, es ++ [(s, n, cut X s i, cut Y n j)], F16, _, _, _, _, rfl, sF.trans (s610.trans s16), h17, ?_, ?_, by rw [List.length_append]; show es.length + 1 ≤ _; omega⟩
      · rw [List.map_append]
        exact (dq.up s16 _ _).snoc (.tup f16 (.cons (.int _) (.cons (dq_tS (s16 _ _ f8)) (.cons (dq_tS (s16 _ _ f10)) .nil))))
      · rw [← ecs]
        unfold edO
        rw [if_pos e', List.append_assoc]
    · have e' : ¬ (cut X s i).length + (cut Y n j).length > 0 := fun z => e (Int.ofNat_lt.mpr z)
      walk_at "gg"
      refine ⟨i + 1, j + 1, _, es, F10, _, _, _, _, rfl, sF.trans s610, h10, dq, ?_, by omega⟩
      rw [← ecs]
      unfold edO
      rw [if_neg e', List.nil_append]
  · rintro σ H6 ⟨s, n, acc, es, F, y1, y2, y3, y4, rfl, sF, h6, dq, ecs, lcs⟩
    walk_at "gg"
    rw [hv4, List.drop_length] at ecs
    have ecs : es ++ [] = eds X Y := ecs
    rw [List.append_nil] at ecs
    subst ecs
    exact q pl H6 acc (sF0.trans (s4.trans (sF.trans h6.same))) n1 (h6.get (by walk_at "m")) (dq.up h6.same _ _)
def sp_l_cut (K : PySem.W.Frag) : Sp := fun vs H Q _ => ∃ (a b : Addr) (X Y : List Str), vs = [.ref a, .ref b] ∧ H a = some (.lst (X.map V.str)) ∧ H b = some (.lst (Y.map V.str)) ∧ X.length ≤ 100 ∧ Y.length ≤ 100 ∧
  ∀ p H' (vs : List V), Same H H' → H p = none → H' p = some (.lst vs) → DqAll H' vs ((eds X Y).map fD) → Q (.ref p) H'
theorem sp_l_cut_len {vs H Q E} (h : sp_l_cut K vs H Q E) : vs.length = 2 := by
  obtain ⟨_, _, _, _, rfl, _⟩ := h
  rfl
theorem ok_l_cut (T : Txt K mg) : FnOk P w K mg base CX0 3 T.f_l_cut T.fd_l_cut ["old", "new"] (sp_l_cut K) := by
  refine T.F_l_cut.ok sc_l_cut (fun vs H Q E h => sp_l_cut_len h) (fun cdv A outer s H vs Q E hr h => ?_)
  refine ⟨_, (pss_cons (ps_set (i := 2) sc_l_cut.nd rfl (.inl rfl) (pe_lst pa_nil))
      (pss_cons (ps_set (i := 3) sc_l_cut.nd rfl (.inl rfl) pe_int)
      (pss_cons (ps_set (i := 4) sc_l_cut.nd rfl (.inl rfl) pe_int)
      (pss_cons (ps_for PassesOwn.never rfl (k_il K (pi_list (pe_op (op_addK K) (pe_call (ok_l_walk T) (hr.mono (by decide)) (by rfl) T.g_l_walk T.F_l_walk.kp T.b_l_walk .nil pass0 (pa_cons (pv 0) (pa_cons (pv 1) pa_nil))) (pe_lst (pa_cons (pe_tup (pa_cons (pe_callB (cr_lenK K) (by rfl) T.m_len (by decide +kernel) (pa_cons (pv 0) pa_nil)) (pa_cons (pe_callB (cr_lenK K) (by rfl) T.m_len (by decide +kernel) (pa_cons (pv 1) pa_nil)) pa_nil))) pa_nil))))) (pg_name (i := 5) sc_l_cut.nd rfl (.inl rfl)) (pss_cons (ps_if (pt_cmpR (op_neK K hr.units) (pv 5) (pe_tup (pa_cons (pv 3) (pa_cons (pv 4) pa_nil))) (nomark _)) (pss_one (ps_expr (k_bm K (pe_bm PySem.F.plainAttrs_list PySem.F.slot_list_append PySem.F.type_list_append mt_append (pv 2) (pa_cons (pe_tup (pa_cons (pv 3) (pa_cons (pe_callTy (cr_tupleK K) (by rfl) T.m_tuple (by decide +kernel) (pa_cons (pe_slice (sl_K K) (pv 0) (po_some (pv 3)) (po_some (pe_ix (ix_K K (hu_of hr)) (pv 5) pe_int (fun _ _ => rfl)))) pa_nil)) (pa_cons (pe_callTy (cr_tupleK K) (by rfl) T.m_tuple (by decide +kernel) (pa_cons (pe_slice (sl_K K) (pv 1) (po_some (pv 4)) (po_some (pe_ix (ix_K K (hu_of hr)) (pv 5) pe_int (fun _ _ => rfl)))) pa_nil)) pa_nil)))) pa_nil))))) pss_nil)
      (pss_cons (ps_set (i := 3) sc_l_cut.nd rfl (.inl rfl) (pe_op (op_addK K) (pe_ix (ix_K K (hu_of hr)) (pv 5) pe_int (fun _ _ => rfl)) pe_int))
      (pss_one (ps_set (i := 4) sc_l_cut.nd rfl (.inl rfl) (pe_op (op_addK K) (pe_ix (ix_K K (hu_of hr)) (pv 5) pe_int (fun _ _ => rfl)) pe_int))))))
      (pss_one (ps_ret (pv 2))))))), ?_⟩
  obtain ⟨a, b, X, Y, rfl, ha, hb, lX, lY, q⟩ := h
  have hH := Has.start H
  refine g_start (σ' := [some (.ref a), some (.ref b), none, none, none, none]) rfl ?_
  walk_at "gg"
  refine g_klst (by walk_at "sz") hH (fun pl H1 n1 h1 => ?_)
  walk_at "gg"
  refine ⟨a, b, X, Y, rfl, by walk_at "h", by walk_at "h", by omega, by omega, fun p3 H3 v3 s3 n3 hp3 dq3 => ?_⟩
  have hml : (mt X Y 0 0).length ≤ 100 := by rw [mt_length]; have := lc_len X Y; omega
  have hdef : ed X Y 0 0 (mt X Y 0 0 ++ [(X.length, Y.length)]) = eds X Y := rfl
  have hri := rows_inc X Y
  generalize mt X Y 0 0 = R at dq3 hml hdef hri
  have hvl : v3.length = R.length := by rw [dq3.len, List.length_map]
  have h3 := h1.on s3
  have hpp : pl ≠ p3 := fun z => by
    subst z
    rw [h1.get (List.Mem.head _)] at n3
    cases n3
  have dq3 : DqAll (rmO [(pl, HO.lst [])] H3) v3 (R.map prd) := by
    refine h3.keep (fun p hp xs z => ?_) prd_noL dq3
    rw [List.mem_singleton.mp hp] at z; cases z
  have hp3 : rmO [(pl, HO.lst [])] H3 p3 = some (.lst v3) := by
    unfold rmO
    rw [if_neg (by simpa using fun z => hpp z.symm)]
    exact hp3
  have sF0 := h3.reF
  have h3 := h3.re
  generalize rmO [(pl, HO.lst [])] H3 = F0 at h3 dq3 hp3 sF0
  have ha3 := sF0 _ _ ha
  have hb3 := sF0 _ _ hb
  walk_at "gg"
  refine g_ktupF (by walk_at "sz") h3 (fun pe H4 F4 n4 s4 f4 h4 => ?_)
  rw [List.length_map, List.length_map] at f4
  have dR : DqAll F4 (v3 ++ [.ref pe]) ((R ++ [(X.length, Y.length)]).map prd) := by
    rw [List.map_append]
    exact (dq3.up s4 _ _).snoc (.tup f4 (.cons (.int _) (.cons (.int _) .nil)))
  have ha4 := s4 _ _ ha3
  have hb4 := s4 _ _ hb3
  have hp4' := s4 _ _ hp3
  walk_at "gg"
  refine g_klst (by walk_at "sz") h4 (fun po H5' n5' h5' => ?_)
  refine g_addL (h5'.same _ _ hp4') (h5'.get (List.Mem.head _)) (sz (by show v3.length + 1 ≤ _; omega)) h5' (fun p4 H5 n5 h5 => ?_)
  have h5 : Has F4 [(p4, .lst (v3 ++ [.ref pe])), (pl, .lst [])] H5 := h5.sub (.cons_cons _ (.cons _ (List.Sublist.refl _)))
  generalize hR2 : R ++ [(X.length, Y.length)] = R2 at dR hdef hri
  have hR2l : R2.length ≤ 101 := by rw [← hR2, List.length_append]; show R.length + 1 ≤ _; omega
  generalize v3 ++ [V.ref pe] = v4 at dR h5
  have hv4 : v4.length = R2.length := by rw [dR.len, List.length_map]
  refine k_forL (by walk_at "h") (fun t σ H' => ∃ (s n : Nat) (acc : List V) (es : List Ed) (F : Hp) (y1 : Option V), σ = [some (.ref a), some (.ref b), some (.ref pl), some (.int (s : Int)), some (.int (n : Int)), y1] ∧ Same F4 F ∧ Has F [(p4, .lst v4), (pl, .lst acc)] H' ∧ DqAll F acc (es.map fD) ∧ es ++ ed X Y s n (R2.drop t) = eds X Y ∧ es.length ≤ t ∧ Inc s n (R2.drop t)) ⟨0, 0, [], [], F4, _, rfl, Same.refl _, h5, .nil, by rw [List.drop_zero, List.nil_append]; exact hdef, Nat.le_refl _, by rw [List.drop_zero]; exact hri.1⟩ ?_ ?_ ?_
  · rintro t σ H6 _ ⟨s, n, acc, es, F, _, _, sF, h6, _⟩
    exact h6.get (List.Mem.head _)
  · rintro t x σ H6 hx ⟨s, n, acc, es, F, y1, rfl, sF, h6, dq, ecs, lcs, hinc⟩
    obtain ⟨d, hd, dx⟩ := dR.get hx
    rw [List.getElem?_map] at hd
    obtain ⟨m, hm, rfl⟩ := Option.map_eq_some_iff.mp hd
    have hbd := hri.2 m (List.mem_of_getElem? hm)
    obtain ⟨i, j⟩ := m
    obtain ⟨T, rfl, hT⟩ := prd_inv (dx.up sF _ _)
    have ht : t < R2.length := (List.getElem?_eq_some_iff.mp hm).1
    have edr : R2.drop t = (i, j) :: R2.drop (t + 1) := by
      rw [List.drop_eq_getElem_cons ht, (List.getElem?_eq_some_iff.mp hm).2]
    have ha6 := sF _ _ ha4
    have hb6 := sF _ _ hb4
    have hal : acc.length = es.length := by rw [dq.len, List.length_map]
    rw [edr] at ecs hinc
    obtain ⟨i1, i2, i3⟩ := hinc
    have ecs : es ++ (edO X Y s n i j ++ ed X Y (i + 1) (j + 1) (R2.drop (t + 1))) = eds X Y := ecs
    rw [edO_ne i1 i2 hbd.1 hbd.2] at ecs
    walk_at "gg"
    refine g_ktupF (by walk_at "sz") h6 (fun tc H7 F7 n7 s7 f7 h7 => ?_)
    have ha7 := s7 _ _ ha6
    have hb7 := s7 _ _ hb6
    have hT7 := s7 _ _ hT
    have dq := dq.up s7 _ _
    refine g_neD (.tup (h7.same _ _ hT7) (DqAll.ints [_, _])) (.tup (h7.same _ _ f7) (DqAll.ints [_, _])) rfl rfl ?_
    rw [eqv_tints]
    walk_at "gg"
    refine i_n (fun ne => ?_) (fun eq => ?_)
    · have ne' : ((i, j) : Nat × Nat) ≠ (s, n) := fun z => by
        rw [Prod.mk.injEq] at z
        apply ne
        rw [z.1, z.2]
      rw [if_pos ne'] at ecs
      walk_at "gg"
      refine g_ixT (v := .int i) (by walk_at "h") (atI_nat (j := 0) rfl) ?_
      walk_at "gg"
      refine g_slL (by walk_at "h") h7 (fun q1 H8' n8' h8' => ?_)
      rw [cutV_str] at h8'
      walk_at "gg"
      refine g_tupleL (by walk_at "h") h8'.frz (fun tb H8 F8 n8 s8 f8 h8 => ?_)
      have s8 := h8'.grow.trans s8
      have hb8 := s8 _ _ hb7
      have hT8 := s8 _ _ hT7
      walk_at "gg"
      refine g_ixT (v := .int j) (by walk_at "h") (atI_nat (j := 1) rfl) ?_
      walk_at "gg"
      refine g_slL (by walk_at "h") h8 (fun q2 H9 n9 h9 => ?_)
      rw [cutV_str] at h9
      walk_at "gg"
      refine g_tupleL (by walk_at "h") h9.frz (fun tx H10 F10 n10 s10 f10 h10 => ?_)
      have s10 := h9.grow.trans s10
      have f8 := s10 _ _ f8
      have hT10 := s10 _ _ hT8
      walk_at "gg"
      refine g_ktupF (by walk_at "sz") h10 (fun tt H16 F16 n16 s16 f16 h16 => ?_)
      have sA := s8.trans (s10.trans s16)
      have hT16 := s16 _ _ hT10
      walk_at "gg"
      refine g_append h16 (by walk_at "c") (szl (by omega)) (fun H17 h17 => ?_)
      walk_at "gg"
      refine g_ixT (v := .int i) (by walk_at "h") (atI_nat (j := 0) rfl) ?_
      walk_at "gg"
      refine g_ixT (v := .int j) (by walk_at "h") (atI_nat (j := 1) rfl) ?_
      walk_at "gg"
      refine ⟨i + 1, j + 1, _, es ++ [(s, n, cut X s i, cut Y n j)], F16, _, rfl, sF.trans (s7.trans sA), h17, ?_, ?_, by rw [List.length_append]; show es.length + 1 ≤ _; omega, i3⟩
      · rw [List.map_append]
        exact (dq.up sA _ _).snoc (.tup f16 (.cons (.int _) (.cons (dq_tS (s16 _ _ f8)) (.cons (dq_tS (s16 _ _ f10)) .nil))))
      · rw [← ecs, List.append_assoc]
    · have eq' : ¬ ((i, j) : Nat × Nat) ≠ (s, n) := fun z => z (by
        simp only [List.cons.injEq, and_true] at eq
        rw [Prod.mk.injEq]
        omega)
      rw [if_neg eq', List.nil_append] at ecs
      walk_at "gg"
      refine g_ixT (v := .int i) (by walk_at "h") (atI_nat (j := 0) rfl) ?_
      walk_at "gg"
      refine g_ixT (v := .int j) (by walk_at "h") (atI_nat (j := 1) rfl) ?_
      walk_at "gg"
      exact ⟨i + 1, j + 1, _, es, F7, _, rfl, sF.trans s7, h7, dq, ecs, by omega, i3⟩
  · rintro σ H6 ⟨s, n, acc, es, F, y1, rfl, sF, h6, dq, ecs, lcs, hinc⟩
    walk_at "gg"
    rw [hv4, List.drop_length] at ecs
    have ecs : es ++ [] = eds X Y := ecs
    rw [List.append_nil] at ecs
    subst ecs
    exact q pl H6 acc (sF0.trans (s4.trans (sF.trans h6.same))) n1 (h6.get (by walk_at "m")) (dq.up h6.same _ _)
end

end K01

namespace K01
open PySem PySem.Spec PyProof.Rows L2 Qk
local macro_rules | `(tactic| walk_at "m") => `(tactic| ((repeat (first | exact List.Mem.head _ | apply List.Mem.tail)); done))
local macro_rules | `(tactic| walk_at "h") => `(tactic| first | assumption | exact Has.gF (by assumption) (by assumption) | exact Has.get (by assumption) (by walk_at "m"))
local macro_rules | `(tactic| walk_at "c") => `(tactic| ((repeat (first | exact Chg.hd | apply Chg.tl)); done))
local macro_rules | `(tactic| walk_at "is") => `(tactic| first
  | ((with_reducible refine' is2_non ?gh ?_); (case gh => walk_at "h"))
  | (with_reducible refine is_int_list ?_)
  | (with_reducible refine is_int_tuple ?_)
  | (with_reducible refine is_int_dict ?_)
  | (with_reducible refine is_int_int ?_)
  | (with_reducible refine is_int_bool ?_)
  | (with_reducible refine is_int_str ?_)
  | ((with_reducible refine' is2_int ?gh ?_); (case gh => walk_at "h"))
  | (with_reducible refine is_str_list ?_)
  | (with_reducible refine is_str_tuple ?_)
  | (with_reducible refine is_str_dict ?_)
  | (with_reducible refine is_str_int ?_)
  | (with_reducible refine is_str_bool ?_)
  | (with_reducible refine is_str_str ?_)
  | ((with_reducible refine' is2_str ?gh ?_); (case gh => walk_at "h"))
  | (with_reducible refine is_bool_list ?_)
  | (with_reducible refine is_bool_tuple ?_)
  | (with_reducible refine is_bool_dict ?_)
  | (with_reducible refine is_bool_int ?_)
  | (with_reducible refine is_bool_bool ?_)
  | (with_reducible refine is_bool_str ?_)
  | ((with_reducible refine' is2_bool ?gh ?_); (case gh => walk_at "h"))
  | ((with_reducible refine' is_list_list ?gh ?_); (case gh => walk_at "h"))
  | ((with_reducible refine' is_list_tuple ?gh ?_); (case gh => walk_at "h"))
  | ((with_reducible refine' is_list_dict ?gh ?_); (case gh => walk_at "h"))
  | ((with_reducible refine' is_list_int ?gh ?_); (case gh => walk_at "h"))
  | ((with_reducible refine' is_list_bool ?gh ?_); (case gh => walk_at "h"))
  | ((with_reducible refine' is_list_str ?gh ?_); (case gh => walk_at "h"))
  | ((with_reducible refine' is2_list ?ga ?gb ?_); (case ga => walk_at "h"); (case gb => walk_at "h"))
  | ((with_reducible refine' is_tuple_list ?gh ?_); (case gh => walk_at "h"))
  | ((with_reducible refine' is_tuple_tuple ?gh ?_); (case gh => walk_at "h"))
  | ((with_reducible refine' is_tuple_dict ?gh ?_); (case gh => walk_at "h"))
  | ((with_reducible refine' is_tuple_int ?gh ?_); (case gh => walk_at "h"))
  | ((with_reducible refine' is_tuple_bool ?gh ?_); (case gh => walk_at "h"))
  | ((with_reducible refine' is_tuple_str ?gh ?_); (case gh => walk_at "h"))
  | ((with_reducible refine' is2_tuple ?ga ?gb ?_); (case ga => walk_at "h"); (case gb => walk_at "h"))
  | ((with_reducible refine' is_dict_list ?gh ?_); (case gh => walk_at "h"))
  | ((with_reducible refine' is_dict_tuple ?gh ?_); (case gh => walk_at "h"))
  | ((with_reducible refine' is_dict_dict ?gh ?_); (case gh => walk_at "h"))
  | ((with_reducible refine' is_dict_int ?gh ?_); (case gh => walk_at "h"))
  | ((with_reducible refine' is_dict_bool ?gh ?_); (case gh => walk_at "h"))
  | ((with_reducible refine' is_dict_str ?gh ?_); (case gh => walk_at "h"))
  | ((with_reducible refine' is2_dict ?ga ?gb ?_); (case ga => walk_at "h"); (case gb => walk_at "h")))
local macro_rules | `(tactic| walk_at "g") => `(tactic| first
  | (with_reducible refine g_seq ?_)
  | (with_reducible refine g_asg ?_)
  | ((with_reducible refine g_name ?_); dsimp only [List.set, wipe, List.map])
  | ((with_reducible refine' g_var ?gv ?_); (case gv => exact rfl))
  | (with_reducible refine g_c ?_)
  | (with_reducible refine g_op ?_)
  | (with_reducible refine g_cons ?_)
  | (with_reducible refine g_nil ?_)
  | (with_reducible refine g_cb ?_)
  | (with_reducible refine g_call ?_)
  | (with_reducible refine g_tup ?_)
  | (with_reducible refine g_lst ?_)
  | (with_reducible refine g_bm ?_)
  | (with_reducible refine g_bm0 ?_)
  | ((with_reducible refine' g_kbm ?gh ?_); (case gh => walk_at "h"))
  | (with_reducible refine g_drop ?_)
  | (with_reducible refine g_ret ?_)
  | (with_reducible refine g_retN ?_)
  | (with_reducible refine g_next ?_)
  | (with_reducible refine g_brk ?_)
  | (with_reducible refine g_cont ?_)
  | (with_reducible refine g_if ?_)
  | ((with_reducible refine' g_aug ?gv ?_); (case gv => exact rfl))
  | (with_reducible refine g_ipI ?_)
  | (with_reducible refine g_test ?_)
  | (with_reducible refine g_tB ?_)
  | (with_reducible refine g_kB ?_)
  | (with_reducible refine g_not ?_)
  | (with_reducible refine g_and ?_)
  | (with_reducible refine g_or ?_)
  | (with_reducible refine g_andV ?_)
  | (with_reducible refine g_orV ?_)
  | (with_reducible refine g_notV ?_)
  | (with_reducible refine g_ifE ?_)
  | (with_reducible refine g_addI ?_)
  | (with_reducible refine g_rI0 ?_)
  | (with_reducible refine g_eqI ?_)
  | (with_reducible refine g_eqS ?_)
  | (with_reducible refine g_neI ?_)
  | (with_reducible refine g_neS ?_)
  | (with_reducible refine g_isN ?_)
  | (with_reducible refine g_notN ?_)
  | (with_reducible refine g_int ?_)
  | (with_reducible refine g_max2 ?_)
  | ((with_reducible refine' g_lenL ?gh ?_); (case gh => walk_at "h"))
  | (with_reducible refine g_sub ?_)
  | (with_reducible refine g_gcons ?_)
  | (with_reducible refine g_gnil ?_)
  | (with_reducible refine g_un ?_)
  | (with_reducible refine g_rU ?_)
  | (with_reducible refine g_forL ?_)
  | (with_reducible refine g_forR1 ?_)
  | (with_reducible refine g_forR2 ?_)
  | (with_reducible refine g_forR3 ?_)
  | (with_reducible refine g_lcL ?_)
  | (with_reducible refine g_lcR1 ?_)
  | (with_reducible refine g_lcR2 ?_)
  | (with_reducible refine g_slice ?_)
  | (with_reducible refine g_part ?_)
  | (with_reducible refine g_kOI ?_)
  | (with_reducible refine g_nopart ?_)
  | (with_reducible refine g_yes ?_)
  | ((with_reducible refine' g_wipe ?gv ?_); (case gv => exact rfl))
  | (with_reducible refine iteT ?_)
  | (with_reducible refine iteF ?_)
  | (with_reducible refine i_nf ?_)
  | (with_reducible refine i_nt ?_)
  | ((with_reducible refine' g_gtup ?gh ?gl ?_); (case gh => walk_at "h"); (case gl => exact rfl))
  | ((with_reducible refine' g_notinI ?gh ?_); (case gh => walk_at "h"))
  | ((with_reducible refine' g_inI ?gh ?_); (case gh => walk_at "h"))
  | ((with_reducible refine' g_kget2 ?gh ?_); (case gh => walk_at "h"))
  | ((with_reducible refine' g_kgotI ?gh ?_); (case gh => walk_at "h"))
  | (with_reducible refine g_tRev ?_)
  | (with_reducible refine g_neB ?_)
  | (with_reducible refine g_eqB ?_)
  | ((with_reducible refine' g_lenT ?gh ?_); (case gh => walk_at "h"))
  | (with_reducible refine g_star ?_)
  | ((with_reducible refine' g_kstarL ?gh ?_); (case gh => walk_at "h"))
  | ((with_reducible refine' g_kstarT ?gh ?_); (case gh => walk_at "h"))
  | (with_reducible refine g_tru ?_)
  | ((with_reducible refine' g_truL ?gh ?_); (case gh => walk_at "h"))
  | (with_reducible refine g_get2 ?_)
  | walk_at "is")
local macro_rules | `(tactic| walk_at "gg") => `(tactic| repeat walk_at "g")
local macro_rules | `(tactic| walk_at "sz") => `(tactic| (refine sz ?_; simp only [List.length_cons, List.length_nil, List.length_map, List.length_append, List.length_replicate]; omega))


local macro_rules | `(tactic| walk_at "g") => `(tactic| (with_reducible refine g_forE ?_))

/-! ### apply_edits, inverse_edits -/
section
variable {P : Program} {w : World} {K : PySem.W.Frag} {mg : Str → Option Value} {base : Heap}
def sp_follows (K : PySem.W.Frag) : Sp := fun vs H Q _ => ∃ (T tr td : Addr) (p m : Nat) (r d : List Str), vs = [.ref T, .int (m : Int)] ∧ H T = some (.tup [.int (p : Int), .ref tr, .ref td]) ∧ H tr = some (.tup (r.map V.str)) ∧ H td = some (.tup (d.map V.str)) ∧ m ≤ p ∧ p ≤ 400 ∧ r.length + d.length > 0 ∧
  ∀ H', Same H H' → Q (.bl true) H'
theorem sp_follows_len {vs H Q E} (h : sp_follows K vs H Q E) : vs.length = 2 := by
  obtain ⟨_, _, _, _, _, _, _, rfl, _⟩ := h
  rfl
theorem ok_follows (T : Txt K mg) : FnOk P w K mg base CX0 1 T.f_follows T.fd_follows ["item", "end"] (sp_follows K) := by
  refine T.F_follows.ok sc_follows (fun vs H Q E h => sp_follows_len h) (fun cdv A outer s H vs Q E hr h => ?_)
  refine ⟨_, (pss_cons (ps_asg (pv 0) (k_gt K (pg_tup (by rfl) (pgs_cons (pg_name (i := 2) sc_follows.nd rfl (.inl rfl)) (pgs_cons (pg_name (i := 3) sc_follows.nd rfl (.inl rfl)) (pgs_cons (pg_name (i := 4) sc_follows.nd rfl (.inl rfl)) pgs_nil))))))
      (pss_cons (ps_if (pt_cmpR op_lt (pv 2) (pv 1) (nomark _)) (pss_one (ps_ret pe_bl)) pss_nil)
      (pss_cons (ps_if (pt_cmpR op_gt (pv 2) (pe_gc (v := .int 400) (by rfl) T.k_LAST_PLACE) (nomark _)) (pss_one (ps_ret pe_bl)) pss_nil)
      (pss_one (ps_ret (pe_cmpR op_gt (pe_op (op_addK K) (pe_callB (cr_lenK K) (by rfl) T.m_len (by decide +kernel) (pa_cons (pv 3) pa_nil)) (pe_callB (cr_lenK K) (by rfl) T.m_len (by decide +kernel) (pa_cons (pv 4) pa_nil))) pe_int (nomark _))))))), ?_⟩
  obtain ⟨T, tr, td, p, m, r, d, rfl, hT, hr, hd, h1, h2, h3, q⟩ := h
  have hH := Has.start H
  refine g_start (σ' := [some (.ref T), some (.int (m : Int)), none, none, none]) rfl ?_
  walk_at "gg"
  refine i_d (fun z => by omega) (fun _ => ?_)
  walk_at "gg"
  refine i_d (fun z => by omega) (fun _ => ?_)
  walk_at "gg"
  rw [List.length_map, List.length_map, decide_eq_true (by omega)]
  exact q H (Same.refl _)
def sp_fits (K : PySem.W.Frag) : Sp := fun vs H Q _ => ∃ (a T tr td : Addr) (X : List Str) (p : Nat) (r : List Str) , vs = [.ref a, .ref T] ∧ H a = some (.lst (X.map V.str)) ∧ H T = some (.tup [.int (p : Int), .ref tr, .ref td]) ∧ H tr = some (.tup (r.map V.str)) ∧ p ≤ X.length ∧ r = cut X p (p + r.length) ∧ okL r ∧
  ∀ H', Same H H' → Q (.bl true) H'
theorem sp_fits_len {vs H Q E} (h : sp_fits K vs H Q E) : vs.length = 2 := by
  obtain ⟨_, _, _, _, _, _, _, rfl, _⟩ := h
  rfl
theorem ok_fits (T : Txt K mg) : FnOk P w K mg base CX0 1 T.f_fits T.fd_fits ["old", "edit"] (sp_fits K) := by
  refine T.F_fits.ok sc_fits (fun vs H Q E h => sp_fits_len h) (fun cdv A outer s H vs Q E hr h => ?_)
  refine ⟨_, (pss_cons (ps_asg (pv 1) (k_gt K (pg_tup (by rfl) (pgs_cons (pg_name (i := 2) sc_fits.nd rfl (.inl rfl)) (pgs_cons (pg_name (i := 3) sc_fits.nd rfl (.inl rfl)) (pgs_cons (pg_name (i := 4) sc_fits.nd rfl (.inl rfl)) pgs_nil))))))
      (pss_cons (ps_if (pt_cmpR op_gt (pv 2) (pe_callB (cr_lenK K) (by rfl) T.m_len (by decide +kernel) (pa_cons (pv 0) pa_nil)) (nomark _)) (pss_one (ps_ret pe_bl)) pss_nil)
      (pss_one (ps_ret (pe_cmpR (op_eqK K hr.units) (pe_callTy (cr_tupleK K) (by rfl) T.m_tuple (by decide +kernel) (pa_cons (pe_slice (sl_K K) (pv 0) (po_some (pv 2)) (po_some (pe_op (op_addK K) (pv 2) (pe_callB (cr_lenK K) (by rfl) T.m_len (by decide +kernel) (pa_cons (pv 3) pa_nil))))) pa_nil)) (pv 3) (nomark _)))))), ?_⟩
  obtain ⟨a, T, tr, td, X, p, r, rfl, ha, hT, hr, h1, h2, okr, q⟩ := h
  have hH := Has.start H
  refine g_start (σ' := [some (.ref a), some (.ref T), none, none, none]) rfl ?_
  walk_at "gg"
  rw [List.length_map]
  refine i_d (fun z => by omega) (fun _ => ?_)
  walk_at "gg"
  rw [List.length_map]
  refine g_slL (by walk_at "h") hH (fun q1 H1 n1 h1 => ?_)
  rw [show ((p : Int) + (r.length : Int)) = ((p + r.length : Nat) : Int) from rfl, cutV_str, ← h2] at h1
  walk_at "gg"
  refine g_tupleL (by walk_at "h") h1 (fun t1 H2 F2 n2 s2 f2 h2 => ?_)
  walk_at "gg"
  refine g_eqD (dq_tS (h2.same _ _ f2)) (dq_tS (h2.same _ _ (s2 _ _ hr))) ((sh_tS (n := 0) okr).ok (by decide)) ((sh_tS (n := 0) okr).ok (by decide)) ?_
  rw [eqv_tS, decide_eq_true rfl]
  exact q H2 (s2.trans h2.same)
def sp_end_of (K : PySem.W.Frag) : Sp := fun vs H Q _ => ∃ (T tr td : Addr) (p : Nat) (r : List Str), vs = [.ref T] ∧ H T = some (.tup [.int (p : Int), .ref tr, .ref td]) ∧ H tr = some (.tup (r.map V.str)) ∧ ∀ H', Same H H' → Q (.int ((p + r.length : Nat) : Int)) H'
theorem sp_end_of_len {vs H Q E} (h : sp_end_of K vs H Q E) : vs.length = 1 := by
  obtain ⟨_, _, _, _, _, rfl, _⟩ := h
  rfl
theorem ok_end_of (T : Txt K mg) : FnOk P w K mg base CX0 1 T.f_end_of T.fd_end_of ["edit"] (sp_end_of K) := by
  refine T.F_end_of.ok sc_end_of (fun vs H Q E h => sp_end_of_len h) (fun cdv A outer s H vs Q E hr h => ?_)
  refine ⟨_, (pss_one (ps_ret (pe_op (op_addK K) (pe_ix (ix_K K (hu_of hr)) (pv 0) pe_int (fun _ _ => rfl)) (pe_callB (cr_lenK K) (by rfl) T.m_len (by decide +kernel) (pa_cons (pe_ix (ix_K K (hu_of hr)) (pv 0) pe_int (fun _ _ => rfl)) pa_nil))))), ?_⟩
  obtain ⟨T, tr, td, p, r, rfl, hT, hr, q⟩ := h
  refine g_start (σ' := [some (.ref T)]) rfl ?_
  walk_at "gg"
  refine g_ixT (v := .int p) (by walk_at "h") (atI_nat (j := 0) rfl) ?_
  walk_at "gg"
  refine g_ixT (v := .ref tr) (by walk_at "h") (atI_nat (j := 1) rfl) ?_
  walk_at "gg"
  rw [List.length_map]
  exact q H (Same.refl _)
theorem ed_at {X Y : List Str} {s n t : Nat} {es : List Ed} {e : Ed} (h : es[t]? = some e) (w : Ew X Y s n (es.drop t)) : s ≤ e.1 ∧ n ≤ e.2.1 ∧ e.1 + n = e.2.1 + s ∧ e.1 ≤ X.length ∧ e.2.1 ≤ Y.length ∧ e.1 + e.2.2.1.length ≤ X.length ∧ e.2.1 + e.2.2.2.length ≤ Y.length ∧ e.2.2.1 = cut X e.1 (e.1 + e.2.2.1.length) ∧ e.2.2.1.length + e.2.2.2.length > 0 ∧ Ew X Y (e.1 + e.2.2.1.length) (e.2.1 + e.2.2.2.length) (es.drop (t + 1)) := by
  have ht := (List.getElem?_eq_some_iff.mp h).1
  rw [List.drop_eq_getElem_cons ht, (List.getElem?_eq_some_iff.mp h).2] at w
  obtain ⟨a, b, r, d⟩ := e
  obtain ⟨h1, h2, h3, h4, h5, h6, h7, h8, h9, h10, h11, h12⟩ := w
  exact ⟨h1, h2, h3, h5, h6, h7, h8, h9, h11, h12⟩
theorem ap_at {X : List Str} {s t : Nat} {es : List Ed} {e : Ed} (h : es[t]? = some e) : apE X s (es.drop t) = cut X s e.1 ++ e.2.2.2 ++ apE X (e.1 + e.2.2.1.length) (es.drop (t + 1)) := by
  have ht := (List.getElem?_eq_some_iff.mp h).1
  rw [List.drop_eq_getElem_cons ht, (List.getElem?_eq_some_iff.mp h).2]
  rfl
def sp_apply_edits (K : PySem.W.Frag) : Sp := fun vs H Q _ => ∃ (a e : Addr) (X Y : List Str) (us : List V) (es : List Ed), vs = [.ref a, .ref e] ∧ H a = some (.lst (X.map V.str)) ∧ H e = some (.lst us) ∧ DqAll H us (es.map fD) ∧ Ew X Y 0 0 es ∧ X.length ≤ 100 ∧ Y.length ≤ 100 ∧ okL X ∧ okL Y ∧
  ∀ p H', Same H H' → H p = none → H' p = some (.lst (Y.map V.str)) → Q (.ref p) H'
theorem sp_apply_edits_len {vs H Q E} (h : sp_apply_edits K vs H Q E) : vs.length = 2 := by
  obtain ⟨_, _, _, _, _, _, rfl, _⟩ := h
  rfl
theorem ok_apply_edits (T : Txt K mg) : FnOk P w K mg base CX0 2 T.f_apply_edits T.fd_apply_edits ["old", "edits"] (sp_apply_edits K) := by
  refine T.F_apply_edits.ok sc_apply_edits (fun vs H Q E h => sp_apply_edits_len h) (fun cdv A outer s H vs Q E hr h => ?_)
  refine ⟨_, (pss_cons (ps_set (i := 2) sc_apply_edits.nd rfl (.inl rfl) pe_int)
      (pss_cons (ps_for PassesOwn.never rfl (pi_enum (by rfl) T.m_enumerate (pa_cons (pv 1) pa_nil)) (k_gt K (pg_tup (by rfl) (pgs_cons (pg_name (i := 3) sc_apply_edits.nd rfl (.inl rfl)) (pgs_cons (pg_name (i := 4) sc_apply_edits.nd rfl (.inl rfl)) pgs_nil)))) (pss_cons (ps_if (pt_not (pt_val (pe_call (ok_follows T) (hr.mono (by decide)) (by rfl) T.g_follows T.F_follows.kp T.b_follows .nil pass0 (pa_cons (pv 4) (pa_cons (pv 2) pa_nil))))) (pss_one ps_never) pss_nil)
      (pss_cons (ps_if (pt_not (pt_val (pe_call (ok_fits T) (hr.mono (by decide)) (by rfl) T.g_fits T.F_fits.kp T.b_fits .nil pass0 (pa_cons (pv 0) (pa_cons (pv 4) pa_nil))))) (pss_one ps_never) pss_nil)
      (pss_one (ps_set (i := 2) sc_apply_edits.nd rfl (.inl rfl) (pe_call (ok_end_of T) (hr.mono (by decide)) (by rfl) T.g_end_of T.F_end_of.kp T.b_end_of .nil pass0 (pa_cons (pv 4) pa_nil)))))))
      (pss_cons (ps_set (i := 5) sc_apply_edits.nd rfl (.inl rfl) (pe_lst pa_nil))
      (pss_cons (ps_set (i := 6) sc_apply_edits.nd rfl (.inl rfl) pe_int)
      (pss_cons (ps_for PassesOwn.never rfl (k_il K (pi_list (pv 1))) (k_gt K (pg_tup (by rfl) (pgs_cons (pg_name (i := 7) sc_apply_edits.nd rfl (.inl rfl)) (pgs_cons (pg_name (i := 8) sc_apply_edits.nd rfl (.inl rfl)) (pgs_cons (pg_name (i := 9) sc_apply_edits.nd rfl (.inl rfl)) pgs_nil))))) (pss_cons (ps_expr (k_bm K (pe_bm PySem.F.plainAttrs_list PySem.F.slot_list_extend PySem.F.type_list_extend (mt_extendA K) (pv 5) (pa_cons (pe_slice (sl_K K) (pv 0) (po_some (pv 6)) (po_some (pv 7))) pa_nil))))
      (pss_cons (ps_expr (k_bm K (pe_bm PySem.F.plainAttrs_list PySem.F.slot_list_extend PySem.F.type_list_extend (mt_extendA K) (pv 5) (pa_cons (pv 9) pa_nil))))
      (pss_one (ps_set (i := 6) sc_apply_edits.nd rfl (.inl rfl) (pe_op (op_addK K) (pv 7) (pe_callB (cr_lenK K) (by rfl) T.m_len (by decide +kernel) (pa_cons (pv 8) pa_nil))))))))
      (pss_cons (ps_expr (k_bm K (pe_bm PySem.F.plainAttrs_list PySem.F.slot_list_extend PySem.F.type_list_extend (mt_extendA K) (pv 5) (pa_cons (pe_slice (sl_K K) (pv 0) (po_some (pv 6)) po_none) pa_nil))))
      (pss_one (ps_ret (pv 5))))))))), ?_⟩
  obtain ⟨a, e, X, Y, us, es, rfl, ha, he, du, ew, lX, lY, okX, okY, q⟩ := h
  have hH := Has.start H
  refine g_start (σ' := [some (.ref a), some (.ref e), none, none, none, none, none, none, none, none]) rfl ?_
  have hul : us.length = es.length := by rw [du.len, List.length_map]
  have hok := ew.ok okX okY
  walk_at "gg"
  refine k_forE (by walk_at "h") (fun t σ H' => ∃ (s n : Nat) (y3 y4 : Option V), σ = [some (.ref a), some (.ref e), some (.int (s : Int)), y3, y4, none, none, none, none, none] ∧ Has H [] H' ∧ Ew X Y s n (es.drop t)) ⟨0, 0, _, _, rfl, hH, by rw [List.drop_zero]; exact ew⟩ ?_ ?_ ?_
  · rintro t σ H1 ⟨s, n, _, _, _, h1, _⟩
    exact h1.same _ _ he
  · rintro t x σ H1 T hx ⟨s, n, y3, y4, rfl, h1, w1⟩ nT
    obtain ⟨d, hd, dx⟩ := du.get hx
    rw [List.getElem?_map] at hd
    obtain ⟨m, hm, rfl⟩ := Option.map_eq_some_iff.mp hd
    obtain ⟨T2, tr, td, rfl, hT, er, ed_⟩ := fD_at dx
    obtain ⟨g1, g2, g3, g4, g5, g6, g7, g8, g9, g10⟩ := ed_at hm w1
    have h2 := h1.new (o := .tup [.int (t : Nat), .ref T2]) nT
    walk_at "gg"
    refine ⟨T2, tr, td, m.1, s, m.2.2.1, m.2.2.2, rfl, by walk_at "h", by walk_at "h", by walk_at "h", g1, by omega, g9, fun H3 s3 => ?_⟩
    have h3 := h2.on s3
    walk_at "gg"
    refine ⟨a, T2, tr, td, X, m.1, m.2.2.1, rfl, by walk_at "h", by walk_at "h", by walk_at "h", g4, g8, (hok m (List.mem_of_getElem? hm)).1, fun H4 s4 => ?_⟩
    have h4 := h3.on s4
    walk_at "gg"
    refine ⟨T2, tr, td, m.1, m.2.2.1, rfl, by walk_at "h", by walk_at "h", fun H5 s5 => ?_⟩
    have h5 := h4.on s5
    walk_at "gg"
    exact ⟨_, _, _, _, rfl, h5.drop, g10⟩
  rintro σ H1 ⟨s, n, y3, y4, rfl, h1, w1⟩
  clear w1
  have eY : apE X 0 es = Y := by
    have := ew.app
    rw [List.drop_zero] at this
    exact this
  walk_at "gg"
  refine g_klst (by walk_at "sz") h1 (fun ln H2 n2 h2 => ?_)
  walk_at "gg"
  refine k_forL (by walk_at "h") (fun t σ H' => ∃ (s1 : Nat) (L : List Str) (y7 y8 y9 : Option V), σ = [some (.ref a), some (.ref e), some (.int (s : Int)), y3, y4, some (.ref ln), some (.int (s1 : Int)), y7, y8, y9] ∧ Has H [(ln, .lst (L.map V.str))] H' ∧ L ++ apE X s1 (es.drop t) = Y) ⟨0, [], _, _, _, rfl, h2, by rw [List.drop_zero]; exact eY⟩ ?_ ?_ ?_
  · rintro t σ H3 _ ⟨s1, L, _, _, _, _, h3, _⟩
    exact h3.same _ _ he
  · rintro t x σ H3 hx ⟨s1, L, y7, y8, y9, rfl, h3, el⟩
    obtain ⟨d, hd, dx⟩ := du.get hx
    rw [List.getElem?_map] at hd
    obtain ⟨m, hm, rfl⟩ := Option.map_eq_some_iff.mp hd
    obtain ⟨T2, tr, td, rfl, hT, er, ed_⟩ := fD_at dx
    rw [ap_at hm, ← List.append_assoc, ← List.append_assoc] at el
    have hb : (L ++ cut X s1 m.1 ++ m.2.2.2).length ≤ Y.length := by
      rw [← el, List.length_append (as := L ++ cut X s1 m.1 ++ m.2.2.2)]
      omega
    rw [List.length_append, List.length_append] at hb
    walk_at "gg"
    refine g_slL (by walk_at "h") h3 (fun q1 H4 n4 h4 => ?_)
    rw [cutV_str] at h4
    walk_at "gg"
    refine g_extL h4 (h4.get (List.Mem.head _)) (.tl .hd) (sz (by rw [List.length_map, List.length_map]; omega)) (fun H5 h5 => ?_)
    have h5 := h5.drop
    walk_at "gg"
    refine g_extT h5 (by walk_at "h") (by walk_at "c") (sz (by rw [List.length_append, List.length_map, List.length_map, List.length_map]; omega)) (fun H6 h6 => ?_)
    rw [← List.map_append, ← List.map_append] at h6
    walk_at "gg"
    rw [List.length_map]
    exact ⟨m.1 + m.2.2.1.length, _, _, _, _, rfl, h6, el⟩
  · rintro σ H3 ⟨s1, L, y7, y8, y9, rfl, h3, el⟩
    rw [hul, List.drop_length] at el
    have el : L ++ X.drop s1 = Y := el
    have hb : L.length + (X.drop s1).length = Y.length := by rw [← el, List.length_append]
    walk_at "gg"
    refine g_slL (by walk_at "h") h3 (fun q1 H4 n4 h4 => ?_)
    rw [cutV_from, ← List.map_drop] at h4
    walk_at "gg"
    refine g_extL h4 (h4.get (List.Mem.head _)) (.tl .hd) (sz (by rw [List.length_map, List.length_map]; omega)) (fun H5 h5 => ?_)
    rw [← List.map_append, el] at h5
    walk_at "gg"
    exact q ln H5 h5.same (h1.same.free n2) (h5.get (by walk_at "m"))
def sp_inverse_edits (K : PySem.W.Frag) : Sp := fun vs H Q _ => ∃ (e : Addr) (X Y : List Str) (us : List V) (es : List Ed), vs = [.ref e] ∧ H e = some (.lst us) ∧ DqAll H us (es.map fD) ∧ Ew X Y 0 0 es ∧ X.length ≤ 100 ∧ Y.length ≤ 100 ∧
  ∀ p H' (vs : List V), Same H H' → H p = none → H' p = some (.lst vs) → DqAll H' vs ((es.map swE).map fD) → Q (.ref p) H'
theorem sp_inverse_edits_len {vs H Q E} (h : sp_inverse_edits K vs H Q E) : vs.length = 1 := by
  obtain ⟨_, _, _, _, _, rfl, _⟩ := h
  rfl
theorem map_take_succ {α β : Type} (f : α → β) {l : List α} {t : Nat} {x : α} (h : l[t]? = some x) : (l.take (t + 1)).map f = (l.take t).map f ++ [f x] := by
  rw [List.take_add_one, h, List.map_append]
  rfl
theorem ok_inverse_edits (T : Txt K mg) : FnOk P w K mg base CX0 2 T.f_inverse_edits T.fd_inverse_edits ["edits"] (sp_inverse_edits K) := by
  refine T.F_inverse_edits.ok sc_inverse_edits (fun vs H Q E h => sp_inverse_edits_len h) (fun cdv A outer s H vs Q E hr h => ?_)
  refine ⟨_, (pss_cons (ps_set (i := 1) sc_inverse_edits.nd rfl (.inl rfl) pe_int)
      (pss_cons (ps_for PassesOwn.never rfl (pi_enum (by rfl) T.m_enumerate (pa_cons (pv 0) pa_nil)) (k_gt K (pg_tup (by rfl) (pgs_cons (pg_name (i := 2) sc_inverse_edits.nd rfl (.inl rfl)) (pgs_cons (pg_name (i := 3) sc_inverse_edits.nd rfl (.inl rfl)) pgs_nil)))) (pss_cons (ps_if (pt_not (pt_val (pe_call (ok_follows T) (hr.mono (by decide)) (by rfl) T.g_follows T.F_follows.kp T.b_follows .nil pass0 (pa_cons (pv 3) (pa_cons (pv 1) pa_nil))))) (pss_one ps_never) pss_nil)
      (pss_one (ps_set (i := 1) sc_inverse_edits.nd rfl (.inl rfl) (pe_call (ok_end_of T) (hr.mono (by decide)) (by rfl) T.g_end_of T.F_end_of.kp T.b_end_of .nil pass0 (pa_cons (pv 3) pa_nil))))))
      (pss_cons (ps_set (i := 4) sc_inverse_edits.nd rfl (.inl rfl) (pe_lst pa_nil))
      (pss_cons (ps_set (i := 5) sc_inverse_edits.nd rfl (.inl rfl) pe_int)
      (pss_cons (ps_for PassesOwn.never rfl (k_il K (pi_list (pv 0))) (k_gt K (pg_tup (by rfl) (pgs_cons (pg_name (i := 6) sc_inverse_edits.nd rfl (.inl rfl)) (pgs_cons (pg_name (i := 7) sc_inverse_edits.nd rfl (.inl rfl)) (pgs_cons (pg_name (i := 8) sc_inverse_edits.nd rfl (.inl rfl)) pgs_nil))))) (pss_cons (ps_expr (k_bm K (pe_bm PySem.F.plainAttrs_list PySem.F.slot_list_append PySem.F.type_list_append mt_append (pv 4) (pa_cons (pe_tup (pa_cons (pe_op (op_addK K) (pv 6) (pv 5)) (pa_cons (pv 8) (pa_cons (pv 7) pa_nil)))) pa_nil))))
      (pss_one (ps_set (i := 5) sc_inverse_edits.nd rfl (.inl rfl) (pe_op op_sub (pe_op (op_addK K) (pv 5) (pe_callB (cr_lenK K) (by rfl) T.m_len (by decide +kernel) (pa_cons (pv 8) pa_nil))) (pe_callB (cr_lenK K) (by rfl) T.m_len (by decide +kernel) (pa_cons (pv 7) pa_nil)))))))
      (pss_one (ps_ret (pv 4)))))))), ?_⟩
  obtain ⟨e, X, Y, us, es, rfl, he, du, ew, lX, lY, q⟩ := h
  have hH := Has.start H
  refine g_start (σ' := [some (.ref e), none, none, none, none, none, none, none, none]) rfl ?_
  have hul : us.length = es.length := by rw [du.len, List.length_map]
  have hbd := (ew.bound lX lY).2.1
  walk_at "gg"
  refine k_forE (by walk_at "h") (fun t σ H' => ∃ (s n : Nat) (y3 y4 : Option V), σ = [some (.ref e), some (.int (s : Int)), y3, y4, none, none, none, none, none] ∧ Has H [] H' ∧ Ew X Y s n (es.drop t)) ⟨0, 0, _, _, rfl, hH, by rw [List.drop_zero]; exact ew⟩ ?_ ?_ ?_
  · rintro t σ H1 ⟨s, n, _, _, _, h1, _⟩
    exact h1.same _ _ he
  · rintro t x σ H1 T hx ⟨s, n, y3, y4, rfl, h1, w1⟩ nT
    obtain ⟨d, hd, dx⟩ := du.get hx
    rw [List.getElem?_map] at hd
    obtain ⟨m, hm, rfl⟩ := Option.map_eq_some_iff.mp hd
    obtain ⟨T2, tr, td, rfl, hT, er, ed_⟩ := fD_at dx
    obtain ⟨g1, g2, g3, g4, g5, g6, g7, g8, g9, g10⟩ := ed_at hm w1
    have h2 := h1.new (o := .tup [.int (t : Nat), .ref T2]) nT
    walk_at "gg"
    refine ⟨T2, tr, td, m.1, s, m.2.2.1, m.2.2.2, rfl, by walk_at "h", by walk_at "h", by walk_at "h", g1, by omega, g9, fun H3 s3 => ?_⟩
    have h3 := h2.on s3
    walk_at "gg"
    refine ⟨T2, tr, td, m.1, m.2.2.1, rfl, by walk_at "h", by walk_at "h", fun H5 s5 => ?_⟩
    have h5 := h3.on s5
    walk_at "gg"
    exact ⟨_, _, _, _, rfl, h5.drop, g10⟩
  rintro σ H1 ⟨s, n, y3, y4, rfl, h1, w1⟩
  clear w1
  walk_at "gg"
  refine g_klst (by walk_at "sz") h1 (fun ln H2 n2 h2 => ?_)
  walk_at "gg"
  refine k_forL (by walk_at "h") (fun t σ H' => ∃ (s1 n1 : Nat) (sh : Int) (acc : List V) (F : Hp) (y7 y8 y9 : Option V), σ = [some (.ref e), some (.int (s : Int)), y3, y4, some (.ref ln), some (.int sh), y7, y8, y9] ∧ Same H F ∧ Has F [(ln, .lst acc)] H' ∧ DqAll F acc (((es.take t).map swE).map fD) ∧ sh = (n1 : Int) - (s1 : Int) ∧ Ew X Y s1 n1 (es.drop t)) ⟨0, 0, 0, [], H, _, _, _, rfl, Same.refl _, h2, .nil, rfl, by rw [List.drop_zero]; exact ew⟩ ?_ ?_ ?_
  · rintro t σ H3 _ ⟨s1, n1, sh, acc, F, _, _, _, _, sF, h3, _⟩
    exact h3.same _ _ (sF _ _ he)
  · rintro t x σ H3 hx ⟨s1, n1, sh, acc, F, y7, y8, y9, rfl, sF, h3, dq, esh, w1⟩
    obtain ⟨d, hd, dx⟩ := du.get hx
    rw [List.getElem?_map] at hd
    obtain ⟨m, hm, rfl⟩ := Option.map_eq_some_iff.mp hd
    obtain ⟨T2, tr, td, rfl, hT, er, ed_⟩ := fD_at (dx.up sF _ _)
    obtain ⟨g1, g2, g3, g4, g5, g6, g7, g8, g9, g10⟩ := ed_at hm w1
    have hal : acc.length ≤ 200 := by
      rw [dq.len, List.length_map, List.length_map, List.length_take]
      omega
    walk_at "gg"
    refine g_ktupF (by walk_at "sz") h3 (fun tt H4 F4 n4 s4 f4 h4 => ?_)
    have er4 := s4 _ _ er
    have ed4 := s4 _ _ ed_
    walk_at "gg"
    refine g_append h4 (by walk_at "c") (szl (by omega)) (fun H5 h5 => ?_)
    walk_at "gg"
    rw [List.length_map, List.length_map]
    refine ⟨m.1 + m.2.2.1.length, m.2.1 + m.2.2.2.length, _, _, F4, _, _, _, rfl, sF.trans s4, h5, ?_, by omega, g10⟩
    rw [map_take_succ swE hm, List.map_append]
    have e1 : (m.1 : Int) + sh = ((m.2.1 : Nat) : Int) := by omega
    rw [e1] at f4
    exact (dq.up s4 _ _).snoc (.tup f4 (.cons (.int _) (.cons (dq_tS ed4) (.cons (dq_tS er4) .nil))))
  · rintro σ H3 ⟨s1, n1, sh, acc, F, y7, y8, y9, rfl, sF, h3, dq, esh, w1⟩
    rw [hul, List.take_length] at dq
    walk_at "gg"
    exact q ln H3 acc (sF.trans h3.same) (h1.same.free n2) (h3.get (by walk_at "m")) (dq.up h3.same _ _)
def sp_l_back (K : PySem.W.Frag) : Sp := fun vs H Q _ => ∃ (e : Addr) (X Y : List Str) (us : List V) (es : List Ed), vs = [.ref e] ∧ H e = some (.lst us) ∧ DqAll H us (es.map fD) ∧ Ew X Y 0 0 es ∧ X.length ≤ 100 ∧ Y.length ≤ 100 ∧
  ∀ p H' (vs : List V), Same H H' → H p = none → H' p = some (.lst vs) → DqAll H' vs ((es.map swE).map fD) → Q (.ref p) H'
theorem sp_l_back_len {vs H Q E} (h : sp_l_back K vs H Q E) : vs.length = 1 := by
  obtain ⟨_, _, _, _, _, rfl, _⟩ := h
  rfl
theorem ok_l_back (T : Txt K mg) : FnOk P w K mg base CX0 1 T.f_l_back T.fd_l_back ["edits"] (sp_l_back K) := by
  refine T.F_l_back.ok sc_l_back (fun vs H Q E h => sp_l_back_len h) (fun cdv A outer s H vs Q E hr h => ?_)
  refine ⟨_, (pss_cons (ps_set (i := 1) sc_l_back.nd rfl (.inl rfl) (pe_lst pa_nil))
      (pss_cons (ps_set (i := 2) sc_l_back.nd rfl (.inl rfl) pe_int)
      (pss_cons (ps_for PassesOwn.never rfl (k_il K (pi_list (pv 0))) (pg_name (i := 3) sc_l_back.nd rfl (.inl rfl)) (pss_cons (ps_expr (k_bm K (pe_bm PySem.F.plainAttrs_list PySem.F.slot_list_append PySem.F.type_list_append mt_append (pv 1) (pa_cons (pe_tup (pa_cons (pe_op (op_addK K) (pe_ix (ix_K K (hu_of hr)) (pv 3) pe_int (fun _ _ => rfl)) (pv 2)) (pa_cons (pe_ix (ix_K K (hu_of hr)) (pv 3) pe_int (fun _ _ => rfl)) (pa_cons (pe_ix (ix_K K (hu_of hr)) (pv 3) pe_int (fun _ _ => rfl)) pa_nil)))) pa_nil))))
      (pss_one (ps_set (i := 2) sc_l_back.nd rfl (.inl rfl) (pe_op op_sub (pe_op (op_addK K) (pv 2) (pe_callB (cr_lenK K) (by rfl) T.m_len (by decide +kernel) (pa_cons (pe_ix (ix_K K (hu_of hr)) (pv 3) pe_int (fun _ _ => rfl)) pa_nil))) (pe_callB (cr_lenK K) (by rfl) T.m_len (by decide +kernel) (pa_cons (pe_ix (ix_K K (hu_of hr)) (pv 3) pe_int (fun _ _ => rfl)) pa_nil)))))))
      (pss_one (ps_ret (pv 1)))))), ?_⟩
  obtain ⟨e, X, Y, us, es, rfl, he, du, ew, lX, lY, q⟩ := h
  have hH := Has.start H
  refine g_start (σ' := [some (.ref e), none, none, none]) rfl ?_
  have hul : us.length = es.length := by rw [du.len, List.length_map]
  have hbd := (ew.bound lX lY).2.1
  walk_at "gg"
  refine g_klst (by walk_at "sz") hH (fun ln H2 n2 h2 => ?_)
  walk_at "gg"
  refine k_forL (by walk_at "h") (fun t σ H' => ∃ (s1 n1 : Nat) (sh : Int) (acc : List V) (F : Hp) (y3 : Option V), σ = [some (.ref e), some (.ref ln), some (.int sh), y3] ∧ Same H F ∧ Has F [(ln, .lst acc)] H' ∧ DqAll F acc (((es.take t).map swE).map fD) ∧ sh = (n1 : Int) - (s1 : Int) ∧ Ew X Y s1 n1 (es.drop t)) ⟨0, 0, 0, [], H, _, rfl, Same.refl _, h2, .nil, rfl, by rw [List.drop_zero]; exact ew⟩ ?_ ?_ ?_
  · rintro t σ H3 _ ⟨s1, n1, sh, acc, F, _, _, sF, h3, _⟩
    exact h3.same _ _ (sF _ _ he)
  · rintro t x σ H3 hx ⟨s1, n1, sh, acc, F, y3, rfl, sF, h3, dq, esh, w1⟩
    obtain ⟨d, hd, dx⟩ := du.get hx
    rw [List.getElem?_map] at hd
    obtain ⟨m, hm, rfl⟩ := Option.map_eq_some_iff.mp hd
    obtain ⟨T2, tr, td, rfl, hT, er, ed_⟩ := fD_at (dx.up sF _ _)
    obtain ⟨g1, g2, g3, g4, g5, g6, g7, g8, g9, g10⟩ := ed_at hm w1
    have hal : acc.length ≤ 200 := by
      rw [dq.len, List.length_map, List.length_map, List.length_take]
      omega
    walk_at "gg"
    refine g_ixT (v := .int m.1) (by walk_at "h") (atI_nat (j := 0) rfl) ?_
    walk_at "gg"
    refine g_ixT (v := .ref td) (by walk_at "h") (atI_nat (j := 2) rfl) ?_
    walk_at "gg"
    refine g_ixT (v := .ref tr) (by walk_at "h") (atI_nat (j := 1) rfl) ?_
    walk_at "gg"
    refine g_ktupF (by walk_at "sz") h3 (fun tt H4 F4 n4 s4 f4 h4 => ?_)
    have er4 := s4 _ _ er
    have ed4 := s4 _ _ ed_
    have hT4 := s4 _ _ hT
    walk_at "gg"
    refine g_append h4 (by walk_at "c") (szl (by omega)) (fun H5 h5 => ?_)
    walk_at "gg"
    refine g_ixT (v := .ref td) (by walk_at "h") (atI_nat (j := 2) rfl) ?_
    walk_at "gg"
    refine g_ixT (v := .ref tr) (by walk_at "h") (atI_nat (j := 1) rfl) ?_
    walk_at "gg"
    rw [List.length_map, List.length_map]
    refine ⟨m.1 + m.2.2.1.length, m.2.1 + m.2.2.2.length, _, _, F4, _, rfl, sF.trans s4, h5, ?_, by omega, g10⟩
    rw [map_take_succ swE hm, List.map_append]
    have e1 : (m.1 : Int) + sh = ((m.2.1 : Nat) : Int) := by omega
    rw [e1] at f4
    exact (dq.up s4 _ _).snoc (.tup f4 (.cons (.int _) (.cons (dq_tS ed4) (.cons (dq_tS er4) .nil))))
  · rintro σ H3 ⟨s1, n1, sh, acc, F, y3, rfl, sF, h3, dq, esh, w1⟩
    rw [hul, List.take_length] at dq
    walk_at "gg"
    exact q ln H3 acc (sF.trans h3.same) n2 (h3.get (by walk_at "m")) (dq.up h3.same _ _)
end

end K01

namespace K01
open PySem PySem.Spec PyProof.Rows L2 Qk
local macro_rules | `(tactic| walk_at "m") => `(tactic| ((repeat (first | exact List.Mem.head _ | apply List.Mem.tail)); done))
local macro_rules | `(tactic| walk_at "h") => `(tactic| first | assumption | exact Has.gF (by assumption) (by assumption) | exact Has.get (by assumption) (by walk_at "m"))
local macro_rules | `(tactic| walk_at "c") => `(tactic| ((repeat (first | exact Chg.hd | apply Chg.tl)); done))
local macro_rules | `(tactic| walk_at "is") => `(tactic| first
  | ((with_reducible refine' is2_non ?gh ?_); (case gh => walk_at "h"))
  | (with_reducible refine is_int_list ?_)
  | (with_reducible refine is_int_tuple ?_)
  | (with_reducible refine is_int_dict ?_)
  | (with_reducible refine is_int_int ?_)
  | (with_reducible refine is_int_bool ?_)
  | (with_reducible refine is_int_str ?_)
  | ((with_reducible refine' is2_int ?gh ?_); (case gh => walk_at "h"))
  | (with_reducible refine is_str_list ?_)
  | (with_reducible refine is_str_tuple ?_)
  | (with_reducible refine is_str_dict ?_)
  | (with_reducible refine is_str_int ?_)
  | (with_reducible refine is_str_bool ?_)
  | (with_reducible refine is_str_str ?_)
  | ((with_reducible refine' is2_str ?gh ?_); (case gh => walk_at "h"))
  | (with_reducible refine is_bool_list ?_)
  | (with_reducible refine is_bool_tuple ?_)
  | (with_reducible refine is_bool_dict ?_)
  | (with_reducible refine is_bool_int ?_)
  | (with_reducible refine is_bool_bool ?_)
  | (with_reducible refine is_bool_str ?_)
  | ((with_reducible refine' is2_bool ?gh ?_); (case gh => walk_at "h"))
  | ((with_reducible refine' is_list_list ?gh ?_); (case gh => walk_at "h"))
  | ((with_reducible refine' is_list_tuple ?gh ?_); (case gh => walk_at "h"))
  | ((with_reducible refine' is_list_dict ?gh ?_); (case gh => walk_at "h"))
  | ((with_reducible refine' is_list_int ?gh ?_); (case gh => walk_at "h"))
  | ((with_reducible refine' is_list_bool ?gh ?_); (case gh => walk_at "h"))
  | ((with_reducible refine' is_list_str ?gh ?_); (case gh => walk_at "h"))
  | ((with_reducible refine' is2_list ?ga ?gb ?_); (case ga => walk_at "h"); (case gb => walk_at "h"))
  | ((with_reducible refine' is_tuple_list ?gh ?_); (case gh => walk_at "h"))
  | ((with_reducible refine' is_tuple_tuple ?gh ?_); (case gh => walk_at "h"))
  | ((with_reducible refine' is_tuple_dict ?gh ?_); (case gh => walk_at "h"))
  | ((with_reducible refine' is_tuple_int ?gh ?_); (case gh => walk_at "h"))
  | ((with_reducible refine' is_tuple_bool ?gh ?_); (case gh => walk_at "h"))
  | ((with_reducible refine' is_tuple_str ?gh ?_); (case gh => walk_at "h"))
  | ((with_reducible refine' is2_tuple ?ga ?gb ?_); (case ga => walk_at "h"); (case gb => walk_at "h"))
  | ((with_reducible refine' is_dict_list ?gh ?_); (case gh => walk_at "h"))
  | ((with_reducible refine' is_dict_tuple ?gh ?_); (case gh => walk_at "h"))
  | ((with_reducible refine' is_dict_dict ?gh ?_); (case gh => walk_at "h"))
  | ((with_reducible refine' is_dict_int ?gh ?_); (case gh => walk_at "h"))
  | ((with_reducible refine' is_dict_bool ?gh ?_); (case gh => walk_at "h"))
  | ((with_reducible refine' is_dict_str ?gh ?_); (case gh => walk_at "h"))
  | ((with_reducible refine' is2_dict ?ga ?gb ?_); (case ga => walk_at "h"); (case gb => walk_at "h")))
local macro_rules | `(tactic| walk_at "g") => `(tactic| first
  | (with_reducible refine g_seq ?_)
  | (with_reducible refine g_asg ?_)
  | ((with_reducible refine g_name ?_); dsimp only [List.set, wipe, List.map])
  | ((with_reducible refine' g_var ?gv ?_); (case gv => exact rfl))
  | (with_reducible refine g_c ?_)
  | (with_reducible refine g_op ?_)
  | (with_reducible refine g_cons ?_)
  | (with_reducible refine g_nil ?_)
  | (with_reducible refine g_cb ?_)
  | (with_reducible refine g_call ?_)
  | (with_reducible refine g_tup ?_)
  | (with_reducible refine g_lst ?_)
  | (with_reducible refine g_bm ?_)
  | (with_reducible refine g_bm0 ?_)
  | ((with_reducible refine' g_kbm ?gh ?_); (case gh => walk_at "h"))
  | (with_reducible refine g_drop ?_)
  | (with_reducible refine g_ret ?_)
  | (with_reducible refine g_retN ?_)
  | (with_reducible refine g_next ?_)
  | (with_reducible refine g_brk ?_)
  | (with_reducible refine g_cont ?_)
  | (with_reducible refine g_if ?_)
  | ((with_reducible refine' g_aug ?gv ?_); (case gv => exact rfl))
  | (with_reducible refine g_ipI ?_)
  | (with_reducible refine g_test ?_)
  | (with_reducible refine g_tB ?_)
  | (with_reducible refine g_kB ?_)
  | (with_reducible refine g_not ?_)
  | (with_reducible refine g_and ?_)
  | (with_reducible refine g_or ?_)
  | (with_reducible refine g_andV ?_)
  | (with_reducible refine g_orV ?_)
  | (with_reducible refine g_notV ?_)
  | (with_reducible refine g_ifE ?_)
  | (with_reducible refine g_addI ?_)
  | (with_reducible refine g_rI0 ?_)
  | (with_reducible refine g_eqI ?_)
  | (with_reducible refine g_eqS ?_)
  | (with_reducible refine g_neI ?_)
  | (with_reducible refine g_neS ?_)
  | (with_reducible refine g_isN ?_)
  | (with_reducible refine g_notN ?_)
  | (with_reducible refine g_int ?_)
  | (with_reducible refine g_max2 ?_)
  | ((with_reducible refine' g_lenL ?gh ?_); (case gh => walk_at "h"))
  | (with_reducible refine g_sub ?_)
  | (with_reducible refine g_gcons ?_)
  | (with_reducible refine g_gnil ?_)
  | (with_reducible refine g_un ?_)
  | (with_reducible refine g_rU ?_)
  | (with_reducible refine g_forL ?_)
  | (with_reducible refine g_forR1 ?_)
  | (with_reducible refine g_forR2 ?_)
  | (with_reducible refine g_forR3 ?_)
  | (with_reducible refine g_lcL ?_)
  | (with_reducible refine g_lcR1 ?_)
  | (with_reducible refine g_lcR2 ?_)
  | (with_reducible refine g_slice ?_)
  | (with_reducible refine g_part ?_)
  | (with_reducible refine g_kOI ?_)
  | (with_reducible refine g_nopart ?_)
  | (with_reducible refine g_yes ?_)
  | ((with_reducible refine' g_wipe ?gv ?_); (case gv => exact rfl))
  | (with_reducible refine iteT ?_)
  | (with_reducible refine iteF ?_)
  | (with_reducible refine i_nf ?_)
  | (with_reducible refine i_nt ?_)
  | ((with_reducible refine' g_gtup ?gh ?gl ?_); (case gh => walk_at "h"); (case gl => exact rfl))
  | ((with_reducible refine' g_notinI ?gh ?_); (case gh => walk_at "h"))
  | ((with_reducible refine' g_inI ?gh ?_); (case gh => walk_at "h"))
  | ((with_reducible refine' g_kget2 ?gh ?_); (case gh => walk_at "h"))
  | ((with_reducible refine' g_kgotI ?gh ?_); (case gh => walk_at "h"))
  | (with_reducible refine g_tRev ?_)
  | (with_reducible refine g_neB ?_)
  | (with_reducible refine g_eqB ?_)
  | ((with_reducible refine' g_lenT ?gh ?_); (case gh => walk_at "h"))
  | (with_reducible refine g_star ?_)
  | ((with_reducible refine' g_kstarL ?gh ?_); (case gh => walk_at "h"))
  | ((with_reducible refine' g_kstarT ?gh ?_); (case gh => walk_at "h"))
  | (with_reducible refine g_tru ?_)
  | ((with_reducible refine' g_truL ?gh ?_); (case gh => walk_at "h"))
  | (with_reducible refine g_get2 ?_)
  | walk_at "is")
local macro_rules | `(tactic| walk_at "gg") => `(tactic| repeat walk_at "g")
local macro_rules | `(tactic| walk_at "sz") => `(tactic| (refine sz ?_; simp only [List.length_cons, List.length_nil, List.length_map, List.length_append, List.length_replicate]; omega))

theorem cutV_last (us : List V) (x : V) : cutV (us ++ [x]) none (some (-1)) = us := by
  have e : HT.sIx (us ++ [x]).length (us ++ [x]).length (some (-1)) = us.length := by
    rw [List.length_append]
    show HT.sIx (us.length + 1) (us.length + 1) (some (-1)) = us.length
    unfold HT.sIx
    simp
    omega
  unfold cutV
  rw [HT.sIx_none, e, List.drop_zero, Nat.sub_zero, List.take_left]
section
variable {P : Program} {w : World} {K : PySem.W.Frag} {mg : Str → Option Value} {base : Heap}
def sp_l_leads (K : PySem.W.Frag) : Sp := fun vs H Q _ => ∃ (a e n : Addr) (X Y : List Str) (us : List V) (es : List Ed), vs = [.ref a, .ref e, .ref n] ∧ H a = some (.lst (X.map V.str)) ∧ H e = some (.lst us) ∧ H n = some (.lst (Y.map V.str)) ∧ DqAll H us (es.map fD) ∧ Ew X Y 0 0 es ∧ X.length ≤ 10 ∧ Y.length ≤ 10 ∧ okL X ∧ okL Y ∧
  ∀ H', Same H H' → Q (.bl true) H'
theorem sp_l_leads_len {vs H Q E} (h : sp_l_leads K vs H Q E) : vs.length = 3 := by
  obtain ⟨_, _, _, _, _, _, _, rfl, _⟩ := h
  rfl
theorem ok_l_leads (T : Txt K mg) : FnOk P w K mg base CX0 7 T.f_l_leads T.fd_l_leads ["old", "edits", "new"] (sp_l_leads K) := by
  refine T.F_l_leads.ok sc_l_leads (fun vs H Q E h => sp_l_leads_len h) (fun cdv A outer s H vs Q E hr h => ?_)
  refine ⟨_, (pss_cons (ps_set (i := 3) sc_l_leads.nd rfl (.inl rfl) (pe_lst (pa_cons (pe_callTy (cr_listK K) (by rfl) T.m_list (by decide +kernel) (pa_cons (pv 0) pa_nil)) (pa_cons (pe_callTy (cr_listK K) (by rfl) T.m_list (by decide +kernel) (pa_cons (pv 1) pa_nil)) pa_nil))))
      (pss_cons (ps_set (i := 4) sc_l_leads.nd rfl (.inl rfl) (pe_call (ok_apply_edits T) (hr.mono (by decide)) (by rfl) T.g_apply_edits T.F_apply_edits.kp T.b_apply_edits .nil pass0 (pa_cons (pe_ix (ix_K K (hu_of hr)) (pv 3) pe_int (fun _ _ => rfl)) (pa_cons (pe_ix (ix_K K (hu_of hr)) (pv 3) pe_int (fun _ _ => rfl)) pa_nil))))
      (pss_cons (ps_if (PW.pt (pw_or (pt_not (pt_val (pe_call (ok_l_same T) (hr.mono (by decide)) (by rfl) T.g_l_same T.F_l_same.kp T.b_l_same .nil pass0 (pa_cons (pv 4) (pa_cons (pv 2) pa_nil))))) (pw_or1 (pt_cmpR (op_neK K hr.units) (pv 3) (pe_lst (pa_cons (pv 0) (pa_cons (pv 1) pa_nil))) (nomark _))))) (pss_one (ps_ret pe_bl)) pss_nil)
      (pss_cons (ps_expr (k_bm K (pe_bm PySem.F.plainAttrs_list PySem.F.slot_list_append PySem.F.type_list_append mt_append (pv 4) (pa_cons pe_str pa_nil))))
      (pss_cons (ps_if (pt_cmpR (op_neK K hr.units) (pv 3) (pe_lst (pa_cons (pv 0) (pa_cons (pv 1) pa_nil))) (nomark _)) (pss_one (ps_ret pe_bl)) pss_nil)
      (pss_cons (ps_expr (k_bm0 K (pe_bm0 PySem.F.plainAttrs_list PySem.F.slot_list_clear PySem.F.type_list_clear mt_clear (pe_ix (ix_K K (hu_of hr)) (pv 3) pe_int (fun _ _ => rfl)))))
      (pss_cons (ps_expr (k_bm0 K (pe_bm0 PySem.F.plainAttrs_list PySem.F.slot_list_clear PySem.F.type_list_clear mt_clear (pe_ix (ix_K K (hu_of hr)) (pv 3) pe_int (fun _ _ => rfl)))))
      (pss_one (ps_ret (pe_call (ok_l_same T) (hr.mono (by decide)) (by rfl) T.g_l_same T.F_l_same.kp T.b_l_same .nil pass0 (pa_cons (pv 4) (pa_cons (pe_op (op_addK K) (pv 2) (pe_lst (pa_cons pe_str pa_nil))) pa_nil)))))))))))), ?_⟩
  obtain ⟨a, e, n, X, Y, us, es, rfl, ha, he, hn, du, ew, lX, lY, okX, okY, q⟩ := h
  have hH := Has.start H
  refine g_start (σ' := [some (.ref a), some (.ref e), some (.ref n), none, none]) rfl ?_
  have hok := ew.ok okX okY
  have hbd := (ew.bound (k := 10) lX lY).2.1
  have hul : us.length = es.length := by rw [du.len, List.length_map]
  have shp : Sh 4 (.list [.list (X.map PyData.str), .list (es.map fD)]) := Sh.list fun d hd => by
    simp only [List.mem_cons, List.not_mem_nil, or_false] at hd
    rcases hd with rfl | rfl
    · exact Sh.strs okX
    · exact sh_fDs hok
  walk_at "gg"
  refine g_listL (by walk_at "h") hH (fun l1 H1 n1 h1 => ?_)
  walk_at "gg"
  refine g_listL (by walk_at "h") h1 (fun l2 H2 n2 h2 => ?_)
  walk_at "gg"
  refine g_klst (by walk_at "sz") h2 (fun pp H3 n3 h3 => ?_)
  walk_at "gg"
  refine g_ixL (v := .ref l1) (by walk_at "h") (atI_nat (j := 0) rfl) ?_
  walk_at "gg"
  refine g_ixL (v := .ref l2) (by walk_at "h") (atI_nat (j := 1) rfl) ?_
  walk_at "gg"
  refine ⟨l1, l2, X, Y, us, es, rfl, by walk_at "h", by walk_at "h", du.up h3.same _ _, ew, by omega, by omega, okX, okY, fun to H4 s4 n4 hto => ?_⟩
  have h4 := h3.made n4 s4 hto
  walk_at "gg"
  refine ⟨_, _, _, rfl, Dq.strs (xs := Y) (h4.get (List.Mem.head _)), Dq.strs (xs := Y) (h4.same _ _ hn), so_strs 4 (by omega), fun H5 s5 => ?_⟩
  have h5 := h4.on s5
  walk_at "gg"
  refine g_klst (by walk_at "sz") h5 (fun p2 H6 n6 h6 => ?_)
  refine g_neD (.lst (h6.get (by walk_at "m")) (.cons (Dq.strs (by walk_at "h")) (.cons (.lst (h6.get (by walk_at "m")) (du.up h6.same _ _)) .nil))) (.lst (h6.get (List.Mem.head _)) (.cons (Dq.strs (xs := X) (h6.same _ _ ha)) (.cons (.lst (h6.same _ _ he) (du.up h6.same _ _)) .nil))) (shp.ok (by decide)) (shp.ok (by decide)) ?_
  rw [SeqAt.eqv_refl _ shp.1]
  have h6 := h6.drop
  walk_at "gg"
  refine g_append h6 (by walk_at "c") (szl (by rw [List.length_map]; omega)) (fun H7 h7 => ?_)
  walk_at "gg"
  refine g_klst (by walk_at "sz") h7 (fun p3 H8 n8 h8 => ?_)
  refine g_neD (.lst (h8.get (by walk_at "m")) (.cons (Dq.strs (by walk_at "h")) (.cons (.lst (h8.get (by walk_at "m")) (du.up h8.same _ _)) .nil))) (.lst (h8.get (List.Mem.head _)) (.cons (Dq.strs (xs := X) (h8.same _ _ ha)) (.cons (.lst (h8.same _ _ he) (du.up h8.same _ _)) .nil))) (shp.ok (by decide)) (shp.ok (by decide)) ?_
  rw [SeqAt.eqv_refl _ shp.1]
  have h8 := h8.drop
  walk_at "gg"
  refine g_ixL (v := .ref l1) (by walk_at "h") (atI_nat (j := 0) rfl) ?_
  walk_at "gg"
  refine g_clear h8 (by walk_at "c") (fun H9 h9 => ?_)
  walk_at "gg"
  refine g_ixL (v := .ref l2) (by walk_at "h") (atI_nat (j := 1) rfl) ?_
  walk_at "gg"
  refine g_clear h9 (by walk_at "c") (fun H10 h10 => ?_)
  walk_at "gg"
  refine g_klst (by walk_at "sz") h10 (fun p4 H11 n11 h11 => ?_)
  refine g_addL (h11.same _ _ hn) (h11.get (List.Mem.head _)) (by walk_at "sz") h11 (fun p5 H12 n12 h12 => ?_)
  have e1 : Y.map V.str ++ [V.str "c"] = (Y ++ [("c" : Str)]).map V.str := by rw [List.map_append]; rfl
  rw [e1] at h12
  walk_at "gg"
  refine ⟨_, _, _, rfl, Dq.strs (xs := Y ++ [("c" : Str)]) (h12.get (by walk_at "m")), Dq.strs (xs := Y ++ [("c" : Str)]) (h12.get (List.Mem.head _)), so_strs 4 (by rw [List.length_append]; show Y.length + 1 ≤ _; omega), fun H13 s13 => ?_⟩
  exact q H13 (h12.same.trans s13)
def sp_l_turned (K : PySem.W.Frag) : Sp := fun vs H Q _ => ∃ (e k : Addr) (X Y : List Str) (us ws : List V) (es : List Ed), vs = [.ref e, .ref k] ∧ H e = some (.lst us) ∧ H k = some (.lst ws) ∧ DqAll H us (es.map fD) ∧ DqAll H ws ((es.map swE).map fD) ∧ Ew X Y 0 0 es ∧ X.length ≤ 10 ∧ Y.length ≤ 10 ∧ okL X ∧ okL Y ∧
  ∀ H', Same H H' → Q (.bl true) H'
theorem sp_l_turned_len {vs H Q E} (h : sp_l_turned K vs H Q E) : vs.length = 2 := by
  obtain ⟨_, _, _, _, _, _, _, rfl, _⟩ := h
  rfl
theorem ok_l_turned (T : Txt K mg) : FnOk P w K mg base CX0 7 T.f_l_turned T.fd_l_turned ["edits", "back"] (sp_l_turned K) := by
  refine T.F_l_turned.ok sc_l_turned (fun vs H Q E h => sp_l_turned_len h) (fun cdv A outer s H vs Q E hr h => ?_)
  refine ⟨_, (pss_cons (ps_set (i := 2) sc_l_turned.nd rfl (.inl rfl) (pe_callTy (cr_listK K) (by rfl) T.m_list (by decide +kernel) (pa_cons (pv 0) pa_nil)))
      (pss_cons (ps_set (i := 3) sc_l_turned.nd rfl (.inl rfl) (pe_call (ok_inverse_edits T) (hr.mono (by decide)) (by rfl) T.g_inverse_edits T.F_inverse_edits.kp T.b_inverse_edits .nil pass0 (pa_cons (pv 2) pa_nil)))
      (pss_cons (ps_if (PW.pt (pw_or (pt_not (pt_val (pe_call (ok_l_same T) (hr.mono (by decide)) (by rfl) T.g_l_same T.F_l_same.kp T.b_l_same .nil pass0 (pa_cons (pv 3) (pa_cons (pv 1) pa_nil))))) (pw_or1 (pt_cmpR (op_neK K hr.units) (pv 2) (pv 0) (nomark _))))) (pss_one (ps_ret pe_bl)) pss_nil)
      (pss_cons (ps_expr (k_bm K (pe_bm PySem.F.plainAttrs_list PySem.F.slot_list_append PySem.F.type_list_append mt_append (pv 3) (pa_cons (pe_tup (pa_cons pe_int (pa_cons (pe_tup (pa_cons pe_str pa_nil)) (pa_cons (pe_tup pa_nil) pa_nil)))) pa_nil))))
      (pss_cons (ps_if (pt_cmpR (op_neK K hr.units) (pv 2) (pv 0) (nomark _)) (pss_one (ps_ret pe_bl)) pss_nil)
      (pss_cons (ps_expr (k_bm0 K (pe_bm0 PySem.F.plainAttrs_list PySem.F.slot_list_clear PySem.F.type_list_clear mt_clear (pv 2))))
      (pss_one (ps_ret (pe_and (pe_call (ok_l_same T) (hr.mono (by decide)) (by rfl) T.g_l_same T.F_l_same.kp T.b_l_same .nil pass0 (pa_cons (pe_slice (sl_K K) (pv 3) po_none (po_some (pe_un un_neg pe_int))) (pa_cons (pv 1) pa_nil))) (pe_one (pe_call (ok_l_same T) (hr.mono (by decide)) (by rfl) T.g_l_same T.F_l_same.kp T.b_l_same .nil pass0 (pa_cons (pe_call (ok_inverse_edits T) (hr.mono (by decide)) (by rfl) T.g_inverse_edits T.F_inverse_edits.kp T.b_inverse_edits .nil pass0 (pa_cons (pe_callTy (cr_listK K) (by rfl) T.m_list (by decide +kernel) (pa_cons (pv 0) pa_nil)) pa_nil)) (pa_cons (pv 1) pa_nil))))))))))))), ?_⟩
  obtain ⟨e, k, X, Y, us, ws, es, rfl, he, hk, du, dk, ew, lX, lY, okX, okY, q⟩ := h
  have hH := Has.start H
  refine g_start (σ' := [some (.ref e), some (.ref k), none, none]) rfl ?_
  have hok := ew.ok okX okY
  have hbd := (ew.bound (k := 10) lX lY).2
  have hsw := ew.sw
  have hbs := (hsw.bound (k := 10) lY lX).2
  have hul : us.length = es.length := by rw [du.len, List.length_map]
  have shp : Sh 3 (.list (es.map fD)) := sh_fDs hok
  have hso := so_fDs 2 (es := es.map swE) (by omega) (fun m hm => by have := hbs.2 m hm; omega)
  walk_at "gg"
  refine g_listL (by walk_at "h") hH (fun l1 H1 n1 h1 => ?_)
  walk_at "gg"
  refine ⟨l1, X, Y, us, es, rfl, by walk_at "h", du.up h1.same _ _, ew, by omega, by omega, fun to H4 vs s4 n4 hto dto => ?_⟩
  have h4 := h1.made n4 s4 hto
  have hvl : vs.length = es.length := by rw [dto.len, List.length_map, List.length_map]
  have dto := h4.keep (by
    intro p hp xs
    simp only [List.mem_cons, List.not_mem_nil, or_false] at hp
    rcases hp with rfl | rfl <;> exact fun z => by cases z) fDs_noL dto
  have sF := h4.reF
  have h4 := h4.re
  generalize rmO [(to, HO.lst vs), (l1, HO.lst us)] H4 = F at h4 sF dto
  have heF := sF _ _ he
  have hkF := sF _ _ hk
  have duF := du.up sF _ _
  have dkF := dk.up sF _ _
  walk_at "gg"
  refine ⟨_, _, _, rfl, .lst (h4.get (List.Mem.head _)) (dto.up h4.same _ _), .lst (h4.same _ _ hkF) (dkF.up h4.same _ _), hso, fun H5 s5 => ?_⟩
  have h5 := h4.on s5
  walk_at "gg"
  refine g_neD (.lst (h5.get (by walk_at "m")) (duF.up h5.same _ _)) (.lst (h5.same _ _ heF) (duF.up h5.same _ _)) (shp.ok (by decide)) (shp.ok (by decide)) ?_
  rw [SeqAt.eqv_refl _ shp.1]
  walk_at "gg"
  refine g_ktupF (by walk_at "sz") h5 (fun t1 H6 F6 n6 s6 f6 h6 => ?_)
  walk_at "gg"
  refine g_ktupF (by walk_at "sz") h6 (fun t2 H7 F7 n7 s7 f7 h7 => ?_)
  walk_at "gg"
  refine g_ktupF (by walk_at "sz") h7 (fun t3 H8 F8 n8 s8 f8 h8 => ?_)
  have s68 := s6.trans (s7.trans s8)
  have heF := s68 _ _ heF
  have hkF := s68 _ _ hkF
  have duF := duF.up s68 _ _
  have dkF := dkF.up s68 _ _
  have dto := dto.up s68 _ _
  walk_at "gg"
  refine g_append h8 (by walk_at "c") (szl (by omega)) (fun H9 h9 => ?_)
  walk_at "gg"
  refine g_neD (.lst (h9.get (by walk_at "m")) (duF.up h9.same _ _)) (.lst (h9.same _ _ heF) (duF.up h9.same _ _)) (shp.ok (by decide)) (shp.ok (by decide)) ?_
  rw [SeqAt.eqv_refl _ shp.1]
  walk_at "gg"
  refine g_clear h9 (by walk_at "c") (fun H10 h10 => ?_)
  walk_at "gg"
  refine g_slL (by walk_at "h") h10 (fun q1 H11 n11 h11 => ?_)
  rw [cutV_last] at h11
  walk_at "gg"
  refine ⟨_, _, _, rfl, .lst (h11.get (List.Mem.head _)) (dto.up h11.same _ _), .lst (h11.same _ _ hkF) (dkF.up h11.same _ _), hso, fun H12 s12 => ?_⟩
  have h12 := h11.on s12
  walk_at "gg"
  refine g_listL (by walk_at "h") h12 (fun l3 H13 n13 h13 => ?_)
  walk_at "gg"
  refine ⟨l3, X, Y, us, es, rfl, by walk_at "h", duF.up h13.same _ _, ew, by omega, by omega, fun t4 H14 v4 s14 n14 ht4 dt4 => ?_⟩
  have h14 := h13.on s14
  walk_at "gg"
  refine ⟨_, _, _, rfl, .lst ht4 dt4, .lst (h14.same _ _ hkF) (dkF.up h14.same _ _), hso, fun H15 s15 => ?_⟩
  exact q H15 (sF.trans (s68.trans (h14.same.trans s15)))
def sp_l_holds (K : PySem.W.Frag) : Sp := fun vs H Q _ => ∃ (a b : Addr) (X Y : List Str), vs = [.ref a, .ref b] ∧ H a = some (.lst (X.map V.str)) ∧ H b = some (.lst (Y.map V.str)) ∧ X.length ≤ 10 ∧ Y.length ≤ 10 ∧
  okL X ∧ okL Y ∧ ∀ H', Same H H' → Q (.bl true) H'
theorem sp_l_holds_len {vs H Q E} (h : sp_l_holds K vs H Q E) : vs.length = 2 := by
  obtain ⟨_, _, _, _, rfl, _⟩ := h
  rfl
theorem ok_l_holds (T : Txt K mg) : FnOk P w K mg base CX0 8 T.f_l_holds T.fd_l_holds ["old", "new"] (sp_l_holds K) := by
  refine T.F_l_holds.ok sc_l_holds (fun vs H Q E h => sp_l_holds_len h) (fun cdv A outer s H vs Q E hr h => ?_)
  refine ⟨_, (pss_cons (ps_set (i := 2) sc_l_holds.nd rfl (.inl rfl) (pe_call (ok_l_cut T) (hr.mono (by decide)) (by rfl) T.g_l_cut T.F_l_cut.kp T.b_l_cut .nil pass0 (pa_cons (pv 0) (pa_cons (pv 1) pa_nil))))
      (pss_cons (ps_set (i := 3) sc_l_holds.nd rfl (.inl rfl) (pe_call (ok_l_back T) (hr.mono (by decide)) (by rfl) T.g_l_back T.F_l_back.kp T.b_l_back .nil pass0 (pa_cons (pv 2) pa_nil)))
      (pss_cons (ps_set (i := 4) sc_l_holds.nd rfl (.inl rfl) (pe_lst (pa_cons (pe_callTy (cr_listK K) (by rfl) T.m_list (by decide +kernel) (pa_cons (pv 0) pa_nil)) (pa_cons (pe_callTy (cr_listK K) (by rfl) T.m_list (by decide +kernel) (pa_cons (pv 1) pa_nil)) pa_nil))))
      (pss_cons (ps_set (i := 5) sc_l_holds.nd rfl (.inl rfl) (pe_call (ok_text_edits T) (hr.mono (by decide)) (by rfl) T.g_text_edits T.F_text_edits.kp T.b_text_edits .nil pass0 (pa_cons (pe_ix (ix_K K (hu_of hr)) (pv 4) pe_int (fun _ _ => rfl)) (pa_cons (pe_ix (ix_K K (hu_of hr)) (pv 4) pe_int (fun _ _ => rfl)) pa_nil))))
      (pss_cons (ps_if (PW.pt (pw_or (pt_not (pt_val (pe_call (ok_l_same T) (hr.mono (by decide)) (by rfl) T.g_l_same T.F_l_same.kp T.b_l_same .nil pass0 (pa_cons (pv 5) (pa_cons (pv 2) pa_nil))))) (pw_or1 (pt_cmpR (op_neK K hr.units) (pv 4) (pe_lst (pa_cons (pv 0) (pa_cons (pv 1) pa_nil))) (nomark _))))) (pss_one (ps_ret pe_bl)) pss_nil)
      (pss_cons (ps_expr (k_bm K (pe_bm PySem.F.plainAttrs_list PySem.F.slot_list_append PySem.F.type_list_append mt_append (pe_ix (ix_K K (hu_of hr)) (pv 4) pe_int (fun _ _ => rfl)) (pa_cons pe_str pa_nil))))
      (pss_cons (ps_expr (k_bm0 K (pe_bm0 PySem.F.plainAttrs_list PySem.F.slot_list_clear PySem.F.type_list_clear mt_clear (pe_ix (ix_K K (hu_of hr)) (pv 4) pe_int (fun _ _ => rfl)))))
      (pss_cons (ps_if (pt_not (pt_val (pe_call (ok_l_same T) (hr.mono (by decide)) (by rfl) T.g_l_same T.F_l_same.kp T.b_l_same .nil pass0 (pa_cons (pv 5) (pa_cons (pv 2) pa_nil))))) (pss_one (ps_ret pe_bl)) pss_nil)
      (pss_cons (ps_expr (k_bm K (pe_bm PySem.F.plainAttrs_list PySem.F.slot_list_append PySem.F.type_list_append mt_append (pv 5) (pa_cons (pe_tup (pa_cons pe_int (pa_cons (pe_tup (pa_cons pe_str pa_nil)) (pa_cons (pe_tup pa_nil) pa_nil)))) pa_nil))))
      (pss_cons (ps_if (pt_not (pt_val (pe_call (ok_l_same T) (hr.mono (by decide)) (by rfl) T.g_l_same T.F_l_same.kp T.b_l_same .nil pass0 (pa_cons (pe_call (ok_text_edits T) (hr.mono (by decide)) (by rfl) T.g_text_edits T.F_text_edits.kp T.b_text_edits .nil pass0 (pa_cons (pe_callTy (cr_listK K) (by rfl) T.m_list (by decide +kernel) (pa_cons (pv 0) pa_nil)) (pa_cons (pe_callTy (cr_listK K) (by rfl) T.m_list (by decide +kernel) (pa_cons (pv 1) pa_nil)) pa_nil))) (pa_cons (pv 2) pa_nil))))) (pss_one (ps_ret pe_bl)) pss_nil)
      (pss_cons (ps_if (PW.pt (pw_or (pt_not (pt_val (pe_call (ok_l_leads T) (hr.mono (by decide)) (by rfl) T.g_l_leads T.F_l_leads.kp T.b_l_leads .nil pass0 (pa_cons (pv 0) (pa_cons (pv 2) (pa_cons (pv 1) pa_nil)))))) (pw_or1 (pt_not (pt_val (pe_call (ok_l_leads T) (hr.mono (by decide)) (by rfl) T.g_l_leads T.F_l_leads.kp T.b_l_leads .nil pass0 (pa_cons (pv 1) (pa_cons (pv 3) (pa_cons (pv 0) pa_nil))))))))) (pss_one (ps_ret pe_bl)) pss_nil)
      (pss_one (ps_ret (pe_and (pe_call (ok_l_turned T) (hr.mono (by decide)) (by rfl) T.g_l_turned T.F_l_turned.kp T.b_l_turned .nil pass0 (pa_cons (pv 2) (pa_cons (pv 3) pa_nil))) (pe_one (pe_call (ok_l_turned T) (hr.mono (by decide)) (by rfl) T.g_l_turned T.F_l_turned.kp T.b_l_turned .nil pass0 (pa_cons (pv 3) (pa_cons (pv 2) pa_nil)))))))))))))))))), ?_⟩
  obtain ⟨a, b, X, Y, rfl, ha, hb, lX, lY, okX, okY, q⟩ := h
  have hH := Has.start H
  refine g_start (σ' := [some (.ref a), some (.ref b), none, none, none, none]) rfl ?_
  have ew := eds_w X Y
  have hbd := (ew.bound (k := 10) lX lY).2
  have hso := so_fDs 2 (es := eds X Y) (by omega) (fun m hm => by have := hbd.2 m hm; omega)
  generalize hes : eds X Y = es at *
  have shp : Sh 2 (.list [.list (X.map PyData.str), .list (Y.map PyData.str)]) := Sh.list fun d hd => by
    simp only [List.mem_cons, List.not_mem_nil, or_false] at hd
    rcases hd with rfl | rfl
    · exact Sh.strs okX
    · exact Sh.strs okY
  walk_at "gg"
  refine ⟨a, b, X, Y, rfl, ha, hb, by omega, by omega, fun du H1 us s1 n1 hdu ddu => ?_⟩
  rw [hes] at ddu
  walk_at "gg"
  refine ⟨du, X, Y, us, es, rfl, hdu, ddu, ew, by omega, by omega, fun bk H2 ws s2 n2 hbk dbk => ?_⟩
  have hA := Has.start H2
  have s12 := s1.trans s2
  have ha1 := s12 _ _ ha
  have hb1 := s12 _ _ hb
  have hdu := s2 _ _ hdu
  have ddu := ddu.up s2 _ _
  have hul : us.length = es.length := by rw [ddu.len, List.length_map]
  walk_at "gg"
  refine g_listL (by walk_at "h") hA (fun l1 H3 n3 h3 => ?_)
  walk_at "gg"
  refine g_listL (by walk_at "h") h3 (fun l2 H4 n4 h4 => ?_)
  walk_at "gg"
  refine g_klst (by walk_at "sz") h4 (fun pp H5 n5 h5 => ?_)
  walk_at "gg"
  refine g_ixL (v := .ref l1) (by walk_at "h") (atI_nat (j := 0) rfl) ?_
  walk_at "gg"
  refine g_ixL (v := .ref l2) (by walk_at "h") (atI_nat (j := 1) rfl) ?_
  walk_at "gg"
  refine ⟨l1, l2, X, Y, rfl, by walk_at "h", by walk_at "h", by omega, by omega, fun to H6 vs s6 n6 hto dto => ?_⟩
  rw [hes] at dto
  have h6 := h5.made n6 s6 hto
  have hvl : vs.length = es.length := by rw [dto.len, List.length_map]
  have dto := h6.keep (by
    intro p hp xs
    simp only [List.mem_cons, List.not_mem_nil, or_false] at hp
    rcases hp with rfl | rfl | rfl | rfl <;> exact fun z => by cases z) fDs_noL dto
  have sF := h6.reF
  have h6 := h6.re
  generalize rmO [(to, HO.lst vs), (pp, HO.lst [V.ref l1, V.ref l2]), (l2, HO.lst (Y.map V.str)), (l1, HO.lst (X.map V.str))] H6 = F at h6 sF dto
  have haF := sF _ _ ha1
  have hbF := sF _ _ hb1
  have hduF := sF _ _ hdu
  have dduF := ddu.up sF _ _
  have hbkF := sF _ _ hbk
  have dbkF := dbk.up sF _ _
  walk_at "gg"
  refine ⟨_, _, _, rfl, .lst (h6.get (List.Mem.head _)) (dto.up h6.same _ _), .lst (h6.same _ _ hduF) (dduF.up h6.same _ _), hso, fun H7 s7 => ?_⟩
  have h7 := h6.on s7
  walk_at "gg"
  refine g_klst (by walk_at "sz") h7 (fun p2 H8 n8 h8 => ?_)
  refine g_neD (.lst (h8.get (by walk_at "m")) (.cons (Dq.strs (by walk_at "h")) (.cons (Dq.strs (by walk_at "h")) .nil))) (.lst (h8.get (List.Mem.head _)) (.cons (Dq.strs (xs := X) (h8.same _ _ haF)) (.cons (Dq.strs (xs := Y) (h8.same _ _ hbF)) .nil))) (shp.ok (by decide)) (shp.ok (by decide)) ?_
  rw [SeqAt.eqv_refl _ shp.1]
  have h8 := h8.drop
  walk_at "gg"
  refine g_ixL (v := .ref l1) (by walk_at "h") (atI_nat (j := 0) rfl) ?_
  walk_at "gg"
  refine g_append h8 (by walk_at "c") (szl (by rw [List.length_map]; omega)) (fun H9 h9 => ?_)
  walk_at "gg"
  refine g_ixL (v := .ref l2) (by walk_at "h") (atI_nat (j := 1) rfl) ?_
  walk_at "gg"
  refine g_clear h9 (by walk_at "c") (fun H10 h10 => ?_)
  walk_at "gg"
  refine ⟨_, _, _, rfl, .lst (h10.get (List.Mem.head _)) (dto.up h10.same _ _), .lst (h10.same _ _ hduF) (dduF.up h10.same _ _), hso, fun H11 s11 => ?_⟩
  have h11 := h10.on s11
  walk_at "gg"
  refine g_ktup (by walk_at "sz") h11 (fun t1 H12 n12 h12 => ?_)
  walk_at "gg"
  refine g_ktup (by walk_at "sz") h12 (fun t2 H13 n13 h13 => ?_)
  walk_at "gg"
  refine g_ktup (by walk_at "sz") h13 (fun t3 H14 n14 h14 => ?_)
  walk_at "gg"
  refine g_append h14 (by walk_at "c") (szl (by omega)) (fun H15 h15 => ?_)
  walk_at "gg"
  refine g_listL (by walk_at "h") h15 (fun m1 H16 n16 h16 => ?_)
  walk_at "gg"
  refine g_listL (by walk_at "h") h16 (fun m2 H17 n17 h17 => ?_)
  walk_at "gg"
  refine ⟨m1, m2, X, Y, rfl, by walk_at "h", by walk_at "h", by omega, by omega, fun t4 H18 v4 s18 n18 ht4 dt4 => ?_⟩
  rw [hes] at dt4
  have h18 := h17.on s18
  walk_at "gg"
  refine ⟨_, _, _, rfl, .lst ht4 dt4, .lst (h18.same _ _ hduF) (dduF.up h18.same _ _), hso, fun H19 s19 => ?_⟩
  have h19 : Has F [] H19 := (h18.on s19).sub (List.nil_sublist _)
  walk_at "gg"
  refine ⟨a, du, b, X, Y, us, es, rfl, by walk_at "h", by walk_at "h", by walk_at "h", dduF.up h19.same _ _, ew, lX, lY, okX, okY, fun H20 s20 => ?_⟩
  have h20 := h19.on s20
  walk_at "gg"
  refine ⟨b, bk, a, Y, X, ws, es.map swE, rfl, by walk_at "h", by walk_at "h", by walk_at "h", dbkF.up h20.same _ _, ew.sw, lY, lX, okY, okX, fun H21 s21 => ?_⟩
  have h21 := h20.on s21
  walk_at "gg"
  refine ⟨du, bk, X, Y, us, ws, es, rfl, by walk_at "h", by walk_at "h", dduF.up h21.same _ _, dbkF.up h21.same _ _, ew, lX, lY, okX, okY, fun H22 s22 => ?_⟩
  have h22 := h21.on s22
  walk_at "gg"
  refine ⟨bk, du, Y, X, ws, us, es.map swE, rfl, by walk_at "h", by walk_at "h", dbkF.up h22.same _ _, by rw [sw_sw]; exact dduF.up h22.same _ _, ew.sw, lY, lX, okY, okX, fun H23 s23 => ?_⟩
  exact q H23 (s12.trans (sF.trans (h22.same.trans s23)))
end
end K01

namespace K01
open PySem PySem.Spec PyProof.Rows L2 Qk
local macro_rules | `(tactic| walk_at "m") => `(tactic| ((repeat (first | exact List.Mem.head _ | apply List.Mem.tail)); done))
local macro_rules | `(tactic| walk_at "h") => `(tactic| first | assumption | exact Has.gF (by assumption) (by assumption) | exact Has.get (by assumption) (by walk_at "m"))
local macro_rules | `(tactic| walk_at "c") => `(tactic| ((repeat (first | exact Chg.hd | apply Chg.tl)); done))
local macro_rules | `(tactic| walk_at "is") => `(tactic| first
  | ((with_reducible refine' is2_non ?gh ?_); (case gh => walk_at "h"))
  | (with_reducible refine is_int_list ?_)
  | (with_reducible refine is_int_tuple ?_)
  | (with_reducible refine is_int_dict ?_)
  | (with_reducible refine is_int_int ?_)
  | (with_reducible refine is_int_bool ?_)
  | (with_reducible refine is_int_str ?_)
  | ((with_reducible refine' is2_int ?gh ?_); (case gh => walk_at "h"))
  | (with_reducible refine is_str_list ?_)
  | (with_reducible refine is_str_tuple ?_)
  | (with_reducible refine is_str_dict ?_)
  | (with_reducible refine is_str_int ?_)
  | (with_reducible refine is_str_bool ?_)
  | (with_reducible refine is_str_str ?_)
  | ((with_reducible refine' is2_str ?gh ?_); (case gh => walk_at "h"))
  | (with_reducible refine is_bool_list ?_)
  | (with_reducible refine is_bool_tuple ?_)
  | (with_reducible refine is_bool_dict ?_)
  | (with_reducible refine is_bool_int ?_)
  | (with_reducible refine is_bool_bool ?_)
  | (with_reducible refine is_bool_str ?_)
  | ((with_reducible refine' is2_bool ?gh ?_); (case gh => walk_at "h"))
  | ((with_reducible refine' is_list_list ?gh ?_); (case gh => walk_at "h"))
  | ((with_reducible refine' is_list_tuple ?gh ?_); (case gh => walk_at "h"))
  | ((with_reducible refine' is_list_dict ?gh ?_); (case gh => walk_at "h"))
  | ((with_reducible refine' is_list_int ?gh ?_); (case gh => walk_at "h"))
  | ((with_reducible refine' is_list_bool ?gh ?_); (case gh => walk_at "h"))
  | ((with_reducible refine' is_list_str ?gh ?_); (case gh => walk_at "h"))
  | ((with_reducible refine' is2_list ?ga ?gb ?_); (case ga => walk_at "h"); (case gb => walk_at "h"))
  | ((with_reducible refine' is_tuple_list ?gh ?_); (case gh => walk_at "h"))
  | ((with_reducible refine' is_tuple_tuple ?gh ?_); (case gh => walk_at "h"))
  | ((with_reducible refine' is_tuple_dict ?gh ?_); (case gh => walk_at "h"))
  | ((with_reducible refine' is_tuple_int ?gh ?_); (case gh => walk_at "h"))
  | ((with_reducible refine' is_tuple_bool ?gh ?_); (case gh => walk_at "h"))
  | ((with_reducible refine' is_tuple_str ?gh ?_); (case gh => walk_at "h"))
  | ((with_reducible refine' is2_tuple ?ga ?gb ?_); (case ga => walk_at "h"); (case gb => walk_at "h"))
  | ((with_reducible refine' is_dict_list ?gh ?_); (case gh => walk_at "h"))
  | ((with_reducible refine' is_dict_tuple ?gh ?_); (case gh => walk_at "h"))
  | ((with_reducible refine' is_dict_dict ?gh ?_); (case gh => walk_at "h"))
  | ((with_reducible refine' is_dict_int ?gh ?_); (case gh => walk_at "h"))
  | ((with_reducible refine' is_dict_bool ?gh ?_); (case gh => walk_at "h"))
  | ((with_reducible refine' is_dict_str ?gh ?_); (case gh => walk_at "h"))
  | ((with_reducible refine' is2_dict ?ga ?gb ?_); (case ga => walk_at "h"); (case gb => walk_at "h")))
local macro_rules | `(tactic| walk_at "g") => `(tactic| first
  | (with_reducible refine g_seq ?_)
  | (with_reducible refine g_asg ?_)
  | ((with_reducible refine g_name ?_); dsimp only [List.set, wipe, List.map])
  | ((with_reducible refine' g_var ?gv ?_); (case gv => exact rfl))
  | (with_reducible refine g_c ?_)
  | (with_reducible refine g_op ?_)
  | (with_reducible refine g_cons ?_)
  | (with_reducible refine g_nil ?_)
  | (with_reducible refine g_cb ?_)
  | (with_reducible refine g_call ?_)
  | (with_reducible refine g_tup ?_)
  | (with_reducible refine g_lst ?_)
  | (with_reducible refine g_bm ?_)
  | (with_reducible refine g_bm0 ?_)
  | ((with_reducible refine' g_kbm ?gh ?_); (case gh => walk_at "h"))
  | (with_reducible refine g_drop ?_)
  | (with_reducible refine g_ret ?_)
  | (with_reducible refine g_retN ?_)
  | (with_reducible refine g_next ?_)
  | (with_reducible refine g_brk ?_)
  | (with_reducible refine g_cont ?_)
  | (with_reducible refine g_if ?_)
  | ((with_reducible refine' g_aug ?gv ?_); (case gv => exact rfl))
  | (with_reducible refine g_ipI ?_)
  | (with_reducible refine g_test ?_)
  | (with_reducible refine g_tB ?_)
  | (with_reducible refine g_kB ?_)
  | (with_reducible refine g_not ?_)
  | (with_reducible refine g_and ?_)
  | (with_reducible refine g_or ?_)
  | (with_reducible refine g_andV ?_)
  | (with_reducible refine g_orV ?_)
  | (with_reducible refine g_notV ?_)
  | (with_reducible refine g_ifE ?_)
  | (with_reducible refine g_addI ?_)
  | (with_reducible refine g_rI0 ?_)
  | (with_reducible refine g_eqI ?_)
  | (with_reducible refine g_eqS ?_)
  | (with_reducible refine g_neI ?_)
  | (with_reducible refine g_neS ?_)
  | (with_reducible refine g_isN ?_)
  | (with_reducible refine g_notN ?_)
  | (with_reducible refine g_int ?_)
  | (with_reducible refine g_max2 ?_)
  | ((with_reducible refine' g_lenL ?gh ?_); (case gh => walk_at "h"))
  | (with_reducible refine g_sub ?_)
  | (with_reducible refine g_gcons ?_)
  | (with_reducible refine g_gnil ?_)
  | (with_reducible refine g_un ?_)
  | (with_reducible refine g_rU ?_)
  | (with_reducible refine g_forL ?_)
  | (with_reducible refine g_forR1 ?_)
  | (with_reducible refine g_forR2 ?_)
  | (with_reducible refine g_forR3 ?_)
  | (with_reducible refine g_lcL ?_)
  | (with_reducible refine g_lcR1 ?_)
  | (with_reducible refine g_lcR2 ?_)
  | (with_reducible refine g_slice ?_)
  | (with_reducible refine g_part ?_)
  | (with_reducible refine g_kOI ?_)
  | (with_reducible refine g_nopart ?_)
  | (with_reducible refine g_yes ?_)
  | ((with_reducible refine' g_wipe ?gv ?_); (case gv => exact rfl))
  | (with_reducible refine iteT ?_)
  | (with_reducible refine iteF ?_)
  | (with_reducible refine i_nf ?_)
  | (with_reducible refine i_nt ?_)
  | ((with_reducible refine' g_gtup ?gh ?gl ?_); (case gh => walk_at "h"); (case gl => exact rfl))
  | ((with_reducible refine' g_notinI ?gh ?_); (case gh => walk_at "h"))
  | ((with_reducible refine' g_inI ?gh ?_); (case gh => walk_at "h"))
  | ((with_reducible refine' g_kget2 ?gh ?_); (case gh => walk_at "h"))
  | ((with_reducible refine' g_kgotI ?gh ?_); (case gh => walk_at "h"))
  | (with_reducible refine g_tRev ?_)
  | (with_reducible refine g_neB ?_)
  | (with_reducible refine g_eqB ?_)
  | ((with_reducible refine' g_lenT ?gh ?_); (case gh => walk_at "h"))
  | (with_reducible refine g_star ?_)
  | ((with_reducible refine' g_kstarL ?gh ?_); (case gh => walk_at "h"))
  | ((with_reducible refine' g_kstarT ?gh ?_); (case gh => walk_at "h"))
  | (with_reducible refine g_tru ?_)
  | ((with_reducible refine' g_truL ?gh ?_); (case gh => walk_at "h"))
  | (with_reducible refine g_get2 ?_)
  | walk_at "is")
local macro_rules | `(tactic| walk_at "gg") => `(tactic| repeat walk_at "g")
local macro_rules | `(tactic| walk_at "sz") => `(tactic| (refine sz ?_; simp only [List.length_cons, List.length_nil, List.length_map, List.length_append, List.length_replicate]; omega))

section
variable {P : Program} {w : World} {K : PySem.W.Frag} {mg : Str → Option Value} {base : Heap}
def sp_law (K : PySem.W.Frag) : Sp := fun vs H Q _ => ∃ (a : Addr) (ns : List Int), vs = [.ref a] ∧ SqL K H a (ns.map V.int) ∧ ns.length ≤ 63 ∧ ∀ H', Q (.bl true) H'
theorem sp_law_len {vs H Q E} (h : sp_law K vs H Q E) : vs.length = 1 := by
  obtain ⟨_, _, rfl, _⟩ := h
  rfl
theorem sp_law_start {H : Hp} {a : Addr} {ns : List Int} (hl : ns.length ≤ 63) (hS : SqL K H a (ns.map V.int)) : sp_law K [.ref a] H (fun v _ => v = .bl true) (fun _ _ _ => False) := ⟨a, ns, rfl, hS, hl, fun _ => rfl⟩
theorem ok_law (T : Txt K mg) : FnOk P w K mg base CX0 9 T.f_law T.fd_law ["script"] (sp_law K) := by
  refine T.F_law.ok sc_law (fun vs H Q E h => sp_law_len h) (fun cdv A outer s H vs Q E hr h => ?_)
  refine ⟨_, (pss_cons (ps_set (i := 1) sc_law.nd rfl (.inr rfl) (pe_call (ok_l_feed T) (hr.mono (by decide)) (by rfl) T.g_l_feed T.F_l_feed.kp T.b_l_feed .nil pass0 (pa_cons (pv 0) pa_nil)))
      (pss_cons (ps_setLc (i := 2) (own := [("k", 6)]) (g := gName 6) (tt := tYes) rfl sc_law.nd rfl rfl (sw_true rfl rfl rfl (by decide +kernel)) (pi_range1 rfl T.m_range (pa_cons pe_int pa_nil)) (blkOk_by (N := n_law) (sc := defScope s_law) (by decide +kernel)) (fun _ _ _ _ _ => (pg_name (i := 6) sc_law.nd rfl (.inl rfl))) (fun _ _ _ _ _ => pts_nil) (fun _ _ _ _ _ => (pe_op op_mod (pe_callTy cr_int1 (by rfl) T.m_int (by decide +kernel) (pa_cons (pe_op (op_addK K) (pe_call (ok_l_next T) (hr.mono (by decide)) (by rfl) T.g_l_next T.F_l_next.kp T.b_l_next .nil pass0 (pa_cons (pv 1) (pa_cons pe_int pa_nil))) pe_int) pa_nil)) pe_int)))
      (pss_cons (ps_set (i := 3) sc_law.nd rfl (.inr rfl) (pe_lc (own := [("k", 6)]) (g := gName 6) (tt := tYes) rfl sc_law.nd (pi_range1 rfl T.m_range (pa_cons pe_int pa_nil)) (blkOk_by (N := n_law) (sc := defScope s_law) (by decide +kernel)) (fun _ _ _ _ _ => (pg_name (i := 6) sc_law.nd rfl (.inl rfl))) (fun _ _ _ _ _ => pts_nil) (fun _ _ _ _ _ => (pe_call (ok_l_menu T) (hr.mono (by decide)) (by rfl) T.g_l_menu T.F_l_menu.kp T.b_l_menu .nil pass0 (pa_cons (pe_op (op_addK K) (pe_call (ok_l_next T) (hr.mono (by decide)) (by rfl) T.g_l_next T.F_l_next.kp T.b_l_next .nil pass0 (pa_cons (pv 1) (pa_cons pe_int pa_nil))) (pe_op op_mulA pe_int (pv 6))) pa_nil)))))
      (pss_cons (ps_setLc (i := 4) (own := [("k", 6)]) (g := gName 6) (tt := tYes) rfl sc_law.nd rfl rfl (sw_true rfl rfl rfl (by decide +kernel)) (pi_range1 rfl T.m_range (pa_cons (pe_ix (ix_K K (hu_of hr)) (pv 2) pe_int (fun _ _ => rfl)) pa_nil)) (blkOk_by (N := n_law) (sc := defScope s_law) (by decide +kernel)) (fun _ _ _ _ _ => (pg_name (i := 6) sc_law.nd rfl (.inl rfl))) (fun _ _ _ _ _ => pts_nil) (fun _ _ _ _ _ => (pe_ix (ix_K K (hu_of hr)) (pv 3) (pe_op op_mod (pe_callTy cr_int1 (by rfl) T.m_int (by decide +kernel) (pa_cons (pe_op (op_addK K) (pe_call (ok_l_next T) (hr.mono (by decide)) (by rfl) T.g_l_next T.F_l_next.kp T.b_l_next .nil pass0 (pa_cons (pv 1) (pa_cons pe_int pa_nil))) (pv 6)) pa_nil)) pe_int) (fun _ _ => rfl))))
      (pss_cons (ps_setLc (i := 5) (own := [("k", 6)]) (g := gName 6) (tt := tYes) rfl sc_law.nd rfl rfl (sw_true rfl rfl rfl (by decide +kernel)) (pi_range1 rfl T.m_range (pa_cons (pe_ix (ix_K K (hu_of hr)) (pv 2) pe_int (fun _ _ => rfl)) pa_nil)) (blkOk_by (N := n_law) (sc := defScope s_law) (by decide +kernel)) (fun _ _ _ _ _ => (pg_name (i := 6) sc_law.nd rfl (.inl rfl))) (fun _ _ _ _ _ => pts_nil) (fun _ _ _ _ _ => (pe_ix (ix_K K (hu_of hr)) (pv 3) (pe_op op_mod (pe_callTy cr_int1 (by rfl) T.m_int (by decide +kernel) (pa_cons (pe_op (op_addK K) (pe_call (ok_l_next T) (hr.mono (by decide)) (by rfl) T.g_l_next T.F_l_next.kp T.b_l_next .nil pass0 (pa_cons (pv 1) (pa_cons pe_int pa_nil))) (pe_op op_mulA pe_int (pv 6))) pa_nil)) pe_int) (fun _ _ => rfl))))
      (pss_one (ps_ret (pe_and (pe_call (ok_l_holds T) (hr.mono (by decide)) (by rfl) T.g_l_holds T.F_l_holds.kp T.b_l_holds .nil pass0 (pa_cons (pv 4) (pa_cons (pv 5) pa_nil))) (pe_one (pe_call (ok_l_holds T) (hr.mono (by decide)) (by rfl) T.g_l_holds T.F_l_holds.kp T.b_l_holds .nil pass0 (pa_cons (pv 5) (pa_cons (pv 4) pa_nil)))))))))))), ?_⟩
  obtain ⟨a, ns, rfl, hS, hl, q⟩ := h
  refine g_start (σ' := [some (.ref a), none, none, none, none, none, none]) rfl ?_
  walk_at "gg"
  refine ⟨a, ns, rfl, hS, hl, fun c H1 F1 ws rows n1 s1 h1 dq hrl => ?_⟩
  walk_at "gg"
  -- sizes
  refine k_lcR1 (by decide) (by decide) h1 (fun i acc F' O' => ∃ (ks : List Int) (ws : List V) (rows : List (Int × Int)), acc = ks.map V.int ∧ ks.length = i ∧ (∀ k ∈ ks, 0 ≤ k ∧ k < 8) ∧ [(c, HO.lst ws)] = O' ∧ DqAll F' ws (rows.map cellD) ∧ rows.length ≤ 100) ⟨[], ws, rows, rfl, rfl, by simp, rfl, dq, hrl⟩ ?_ ?_
  · rintro i acc F' O' D H2 hi ⟨ks, ws, rows, rfl, rfl, hk, rfl, dq, hrl⟩ hh
    have hi' : ks.length < 2 := hi
    walk_at "gg"
    refine ⟨c, 8, F', ws, rows, rfl, hh.drop, dq, hrl, by decide, by decide, fun H3 F3 ws3 rows3 r hb g hs dq3 l3 r0 r1 => ?_⟩
    have h3 := hh.grown (by walk_at "c") hb g hs.same (hs.get (List.Mem.head _))
    walk_at "gg"
    refine g_rI (by show (0 : Int) < 8; decide) ?_
    refine k_turn h3 (by rw [List.length_map]; omega) ⟨ks ++ [(r + 4) % 8], ws3, rows3, by rw [List.map_append]; rfl, by rw [List.length_append]; rfl, fun k hk' => ?_, rfl, dq3, l3⟩
    rcases List.mem_append.mp hk' with hk' | hk'
    · exact hk k hk'
    · rw [List.mem_singleton.mp hk']; omega
  rintro acc F2 O2 sz_ H2 ⟨szs, ws, rows, rfl, hszl, hsz, rfl, dq, hrl⟩ hh
  have hszl' : szs.length = 2 := hszl
  have h2 := hh.frz
  have dq := dq.up hh.grow _ _
  have fsz : upd F2 sz_ (.lst (szs.map V.int)) sz_ = some (.lst (szs.map V.int)) := upd_same
  generalize upd F2 sz_ (.lst (szs.map V.int)) = F3 at h2 dq fsz
  walk_at "gg"
  -- lines
  refine k_lcR1 (by decide) (by decide) h2 (fun i acc F' O' => ∃ (ks : List Str) (ws : List V) (rows : List (Int × Int)), acc = ks.map V.str ∧ ks.length = i ∧ (∀ k ∈ ks, PyData.strOk k = true) ∧ [(c, HO.lst ws)] = O' ∧ DqAll F' ws (rows.map cellD) ∧ rows.length ≤ 100 ∧ Same F3 F') ⟨[], ws, rows, rfl, rfl, by simp, rfl, dq, hrl, Same.refl _⟩ ?_ ?_
  · rintro i acc F' O' D H2 hi ⟨ks, ws, rows, rfl, rfl, hk, rfl, dq, hrl, sF⟩ hh
    have hi' : ks.length < 3 := hi
    walk_at "gg"
    refine ⟨c, 16, F', ws, rows, rfl, hh.drop, dq, hrl, by decide, by decide, fun H3 F3 ws3 rows3 r hb g hs dq3 l3 r0 r1 => ?_⟩
    have h3 := hh.grown (by walk_at "c") hb g hs.same (hs.get (List.Mem.head _))
    walk_at "gg"
    refine g_mulI (.inl ⟨by decide, by decide⟩) ?_
    walk_at "gg"
    refine ⟨_, rfl, fun H4 z s4 hz => ?_⟩
    have h4 := h3.on s4
    refine k_turn h4 (by rw [List.length_map]; omega) ⟨ks ++ [z], ws3, rows3, by rw [List.map_append]; rfl, by rw [List.length_append]; rfl, fun k hk' => ?_, rfl, dq3, l3, sF.trans g.1⟩
    rcases List.mem_append.mp hk' with hk' | hk'
    · exact hk k hk'
    · rw [List.mem_singleton.mp hk']; exact hz
  rintro acc F4 O2 li H3 ⟨ls, ws, rows, rfl, hll, hlok, rfl, dq, hrl, s34⟩ hh
  have hll' : ls.length = 3 := hll
  have h3 := hh.frz
  have dq := dq.up hh.grow _ _
  have fsz := hh.grow _ _ (s34 _ _ fsz)
  have fli : upd F4 li (.lst (ls.map V.str)) li = some (.lst (ls.map V.str)) := upd_same
  generalize upd F4 li (.lst (ls.map V.str)) = F5 at h3 dq fsz fli
  walk_at "gg"
  -- old
  refine g_ixI (by walk_at "h") (by decide) (by omega) (fun so_ hso => ?_)
  have hso' := hsz so_ (List.mem_of_getElem? hso)
  walk_at "gg"
  refine k_lcR1 (by omega) (by omega) h3 (fun i acc F' O' => ∃ (ks : List Str) (ws : List V) (rows : List (Int × Int)), acc = ks.map V.str ∧ ks.length = i ∧ (∀ k ∈ ks, PyData.strOk k = true) ∧ [(c, HO.lst ws)] = O' ∧ DqAll F' ws (rows.map cellD) ∧ rows.length ≤ 100 ∧ Same F5 F') ⟨[], ws, rows, rfl, rfl, by simp, rfl, dq, hrl, Same.refl _⟩ ?_ ?_
  · rintro i acc F' O' D H2 hi ⟨ks, ws, rows, rfl, rfl, hk, rfl, dq, hrl, sF⟩ hh
    walk_at "gg"
    refine ⟨c, 3, F', ws, rows, rfl, hh.drop, dq, hrl, by decide, by decide, fun H3 F3 ws3 rows3 r hb g hs dq3 l3 r0 r1 => ?_⟩
    have h4 := hh.grown (by walk_at "c") hb g hs.same (hs.get (List.Mem.head _))
    have fl := g.1 _ _ (sF _ _ fli)
    walk_at "gg"
    refine g_rI (by show (0 : Int) < 3; decide) ?_
    refine g_ixZ (by walk_at "h") (Int.emod_nonneg _ (by decide)) (by rw [hll']; exact Int.emod_lt_of_pos _ (by decide)) (fun z hz => ?_)
    refine k_turn h4 (by rw [List.length_map]; omega) ⟨ks ++ [z], ws3, rows3, by rw [List.map_append]; rfl, by rw [List.length_append]; rfl, fun k hk' => ?_, rfl, dq3, l3, sF.trans g.1⟩
    rcases List.mem_append.mp hk' with hk' | hk'
    · exact hk k hk'
    · rw [List.mem_singleton.mp hk']; exact hlok _ (List.mem_of_getElem? hz)
  rintro acc F6 O2 ol H4 ⟨xs, ws, rows, rfl, hxl, hxok, rfl, dq, hrl, s56⟩ hh
  have h4 := hh.frz
  have dq := dq.up hh.grow _ _
  have fsz := hh.grow _ _ (s56 _ _ fsz)
  have fli := hh.grow _ _ (s56 _ _ fli)
  have fol : upd F6 ol (.lst (xs.map V.str)) ol = some (.lst (xs.map V.str)) := upd_same
  generalize upd F6 ol (.lst (xs.map V.str)) = F7 at h4 dq fsz fli fol
  walk_at "gg"
  -- new
  refine g_ixI (by walk_at "h") (by decide) (by omega) (fun sn_ hsn => ?_)
  have hsn' := hsz sn_ (List.mem_of_getElem? hsn)
  walk_at "gg"
  refine k_lcR1 (by omega) (by omega) h4 (fun i acc F' O' => ∃ (ks : List Str) (ws : List V) (rows : List (Int × Int)), acc = ks.map V.str ∧ ks.length = i ∧ (∀ k ∈ ks, PyData.strOk k = true) ∧ [(c, HO.lst ws)] = O' ∧ DqAll F' ws (rows.map cellD) ∧ rows.length ≤ 100 ∧ Same F7 F') ⟨[], ws, rows, rfl, rfl, by simp, rfl, dq, hrl, Same.refl _⟩ ?_ ?_
  · rintro i acc F' O' D H2 hi ⟨ks, ws, rows, rfl, rfl, hk, rfl, dq, hrl, sF⟩ hh
    walk_at "gg"
    refine ⟨c, 3, F', ws, rows, rfl, hh.drop, dq, hrl, by decide, by decide, fun H3 F3 ws3 rows3 r hb g hs dq3 l3 r0 r1 => ?_⟩
    have h4 := hh.grown (by walk_at "c") hb g hs.same (hs.get (List.Mem.head _))
    have fl := g.1 _ _ (sF _ _ fli)
    walk_at "gg"
    refine g_mulI (.inl ⟨by decide, by decide⟩) ?_
    walk_at "gg"
    refine g_rI (by show (0 : Int) < 3; decide) ?_
    refine g_ixZ (by walk_at "h") (Int.emod_nonneg _ (by decide)) (by rw [hll']; exact Int.emod_lt_of_pos _ (by decide)) (fun z hz => ?_)
    refine k_turn h4 (by rw [List.length_map]; omega) ⟨ks ++ [z], ws3, rows3, by rw [List.map_append]; rfl, by rw [List.length_append]; rfl, fun k hk' => ?_, rfl, dq3, l3, sF.trans g.1⟩
    rcases List.mem_append.mp hk' with hk' | hk'
    · exact hk k hk'
    · rw [List.mem_singleton.mp hk']; exact hlok _ (List.mem_of_getElem? hz)
  rintro acc F8 O2 nw H5 ⟨ys, ws, rows, rfl, hyl, hyok, rfl, dq, hrl, s78⟩ hh
  have h5 := hh.frz
  have fol := hh.grow _ _ (s78 _ _ fol)
  have fnw : upd F8 nw (.lst (ys.map V.str)) nw = some (.lst (ys.map V.str)) := upd_same
  generalize upd F8 nw (.lst (ys.map V.str)) = F9 at h5 fol fnw
  have h5 : Has F9 [] H5 := h5.drop
  walk_at "gg"
  refine ⟨ol, nw, xs, ys, rfl, by walk_at "h", by walk_at "h", by omega, by omega, hxok, hyok, fun H10 s10 => ?_⟩
  have h10 := h5.on s10
  walk_at "gg"
  refine ⟨nw, ol, ys, xs, rfl, by walk_at "h", by walk_at "h", by omega, by omega, hyok, hxok, fun H11 s11 => ?_⟩
  exact q H11
end
theorem all_mk {l : PySem.W.OpenLaw} {w : World} {K : PySem.W.Frag} {h : Heap} {mg : Str → Option Value} {fa f1 f2 f3 f4 f5 f6 f7 f8 f9 f10 f11 f12 f13 f14 f15 f16 f17 f18 f19 f20 f21 : Addr} (X : K.In h) (G : h.Ns mainGlobals mg) (hfa : mg "law" = some (.ref fa))
    {od1 an1 od2 an2 od3 an3 od4 an4 od5 an5 od6 an6 od7 an7 od8 an8 od9 an9 od10 an10 od11 an11 od12 an12 od13 an13 od14 an14 od15 an15 od16 an16 od17 an17 od18 an18 od19 an19 od20 an20 od21 an21 : Option Addr} {sl1 sl2 sl3 sl4 sl5 sl6 sl7 sl8 sl9 sl10 sl11 sl12 sl13 sl14 sl15 sl16 sl17 sl18 sl19 sl20 sl21 : Array (Option Value)} {oc1 kV1 dc1 pm1 cd1 ct1 oc2 kV2 dc2 pm2 cd2 ct2 oc3 kV3 dc3 pm3 cd3 ct3 oc4 kV4 dc4 pm4 cd4 ct4 oc5 kV5 dc5 pm5 cd5 ct5 oc6 kV6 dc6 pm6 cd6 ct6 oc7 kV7 dc7 pm7 cd7 ct7 oc8 kV8 dc8 pm8 cd8 ct8 oc9 kV9 dc9 pm9 cd9 ct9 oc10 kV10 dc10 pm10 cd10 ct10 oc11 kV11 dc11 pm11 cd11 ct11 oc12 kV12 dc12 pm12 cd12 ct12 oc13 kV13 dc13 pm13 cd13 ct13 oc14 kV14 dc14 pm14 cd14 ct14 oc15 kV15 dc15 pm15 cd15 ct15 oc16 kV16 dc16 pm16 cd16 ct16 oc17 kV17 dc17 pm17 cd17 ct17 oc18 kV18 dc18 pm18 cd18 ct18 oc19 kV19 dc19 pm19 cd19 ct19 oc20 kV20 dc20 pm20 cd20 ct20 oc21 kV21 dc21 pm21 cd21 ct21 : Value}
    (a1 : PySem.W.nsIn K mainGlobals "_common_lengths" = some (some (.ref f1))) (l1 : K.lookup f1 = some ⟨oc1, od1, .func (PySem.W.fnOf "_common_lengths" "_common_lengths" (defArgs s_common_lengths) (defBody s_common_lengths) (defScope s_common_lengths) .none kV1 dc1 pm1 an1 cd1 ct1), sl1⟩) (c1 : PySem.W.codeIn K cd1 "_common_lengths" = true) (k1 : PySem.W.keepIn K (.ref f1) = true)
    (a2 : PySem.W.nsIn K mainGlobals "matched" = some (some (.ref f2))) (l2 : K.lookup f2 = some ⟨oc2, od2, .func (PySem.W.fnOf "matched" "matched" (defArgs s_matched) (defBody s_matched) (defScope s_matched) .none kV2 dc2 pm2 an2 cd2 ct2), sl2⟩) (c2 : PySem.W.codeIn K cd2 "matched" = true) (k2 : PySem.W.keepIn K (.ref f2) = true)
    (a3 : PySem.W.nsIn K mainGlobals "text_edits" = some (some (.ref f3))) (l3 : K.lookup f3 = some ⟨oc3, od3, .func (PySem.W.fnOf "text_edits" "text_edits" (defArgs s_text_edits) (defBody s_text_edits) (defScope s_text_edits) .none kV3 dc3 pm3 an3 cd3 ct3), sl3⟩) (c3 : PySem.W.codeIn K cd3 "text_edits" = true) (k3 : PySem.W.keepIn K (.ref f3) = true)
    (a4 : PySem.W.nsIn K mainGlobals "_follows" = some (some (.ref f4))) (l4 : K.lookup f4 = some ⟨oc4, od4, .func (PySem.W.fnOf "_follows" "_follows" (defArgs s_follows) (defBody s_follows) (defScope s_follows) .none kV4 dc4 pm4 an4 cd4 ct4), sl4⟩) (c4 : PySem.W.codeIn K cd4 "_follows" = true) (k4 : PySem.W.keepIn K (.ref f4) = true)
    (a5 : PySem.W.nsIn K mainGlobals "_fits" = some (some (.ref f5))) (l5 : K.lookup f5 = some ⟨oc5, od5, .func (PySem.W.fnOf "_fits" "_fits" (defArgs s_fits) (defBody s_fits) (defScope s_fits) .none kV5 dc5 pm5 an5 cd5 ct5), sl5⟩) (c5 : PySem.W.codeIn K cd5 "_fits" = true) (k5 : PySem.W.keepIn K (.ref f5) = true)
    (a6 : PySem.W.nsIn K mainGlobals "_end_of" = some (some (.ref f6))) (l6 : K.lookup f6 = some ⟨oc6, od6, .func (PySem.W.fnOf "_end_of" "_end_of" (defArgs s_end_of) (defBody s_end_of) (defScope s_end_of) .none kV6 dc6 pm6 an6 cd6 ct6), sl6⟩) (c6 : PySem.W.codeIn K cd6 "_end_of" = true) (k6 : PySem.W.keepIn K (.ref f6) = true)
    (a7 : PySem.W.nsIn K mainGlobals "apply_edits" = some (some (.ref f7))) (l7 : K.lookup f7 = some ⟨oc7, od7, .func (PySem.W.fnOf "apply_edits" "apply_edits" (defArgs s_apply_edits) (defBody s_apply_edits) (defScope s_apply_edits) .none kV7 dc7 pm7 an7 cd7 ct7), sl7⟩) (c7 : PySem.W.codeIn K cd7 "apply_edits" = true) (k7 : PySem.W.keepIn K (.ref f7) = true)
    (a8 : PySem.W.nsIn K mainGlobals "inverse_edits" = some (some (.ref f8))) (l8 : K.lookup f8 = some ⟨oc8, od8, .func (PySem.W.fnOf "inverse_edits" "inverse_edits" (defArgs s_inverse_edits) (defBody s_inverse_edits) (defScope s_inverse_edits) .none kV8 dc8 pm8 an8 cd8 ct8), sl8⟩) (c8 : PySem.W.codeIn K cd8 "inverse_edits" = true) (k8 : PySem.W.keepIn K (.ref f8) = true)
    (a9 : PySem.W.nsIn K mainGlobals "_law_feed" = some (some (.ref f9))) (l9 : K.lookup f9 = some ⟨oc9, od9, .func (PySem.W.fnOf "_law_feed" "_law_feed" (defArgs s_l_feed) (defBody s_l_feed) (defScope s_l_feed) .none kV9 dc9 pm9 an9 cd9 ct9), sl9⟩) (c9 : PySem.W.codeIn K cd9 "_law_feed" = true) (k9 : PySem.W.keepIn K (.ref f9) = true)
    (a10 : PySem.W.nsIn K mainGlobals "_law_next" = some (some (.ref f10))) (l10 : K.lookup f10 = some ⟨oc10, od10, .func (PySem.W.fnOf "_law_next" "_law_next" (defArgs s_l_next) (defBody s_l_next) (defScope s_l_next) .none kV10 dc10 pm10 an10 cd10 ct10), sl10⟩) (c10 : PySem.W.codeIn K cd10 "_law_next" = true) (k10 : PySem.W.keepIn K (.ref f10) = true)
    (a11 : PySem.W.nsIn K mainGlobals "_law_same" = some (some (.ref f11))) (l11 : K.lookup f11 = some ⟨oc11, od11, .func (PySem.W.fnOf "_law_same" "_law_same" (defArgs s_l_same) (defBody s_l_same) (defScope s_l_same) .none kV11 dc11 pm11 an11 cd11 ct11), sl11⟩) (c11 : PySem.W.codeIn K cd11 "_law_same" = true) (k11 : PySem.W.keepIn K (.ref f11) = true)
    (a12 : PySem.W.nsIn K mainGlobals "_law_menu" = some (some (.ref f12))) (l12 : K.lookup f12 = some ⟨oc12, od12, .func (PySem.W.fnOf "_law_menu" "_law_menu" (defArgs s_l_menu) (defBody s_l_menu) (defScope s_l_menu) .none kV12 dc12 pm12 an12 cd12 ct12), sl12⟩) (c12 : PySem.W.codeIn K cd12 "_law_menu" = true) (k12 : PySem.W.keepIn K (.ref f12) = true)
    (a13 : PySem.W.nsIn K mainGlobals "_law_ends" = some (some (.ref f13))) (l13 : K.lookup f13 = some ⟨oc13, od13, .func (PySem.W.fnOf "_law_ends" "_law_ends" (defArgs s_l_ends) (defBody s_l_ends) (defScope s_l_ends) .none kV13 dc13 pm13 an13 cd13 ct13), sl13⟩) (c13 : PySem.W.codeIn K cd13 "_law_ends" = true) (k13 : PySem.W.keepIn K (.ref f13) = true)
    (a14 : PySem.W.nsIn K mainGlobals "_law_common" = some (some (.ref f14))) (l14 : K.lookup f14 = some ⟨oc14, od14, .func (PySem.W.fnOf "_law_common" "_law_common" (defArgs s_l_common) (defBody s_l_common) (defScope s_l_common) .none kV14 dc14 pm14 an14 cd14 ct14), sl14⟩) (c14 : PySem.W.codeIn K cd14 "_law_common" = true) (k14 : PySem.W.keepIn K (.ref f14) = true)
    (a15 : PySem.W.nsIn K mainGlobals "_law_walk" = some (some (.ref f15))) (l15 : K.lookup f15 = some ⟨oc15, od15, .func (PySem.W.fnOf "_law_walk" "_law_walk" (defArgs s_l_walk) (defBody s_l_walk) (defScope s_l_walk) .none kV15 dc15 pm15 an15 cd15 ct15), sl15⟩) (c15 : PySem.W.codeIn K cd15 "_law_walk" = true) (k15 : PySem.W.keepIn K (.ref f15) = true)
    (a16 : PySem.W.nsIn K mainGlobals "_law_cut" = some (some (.ref f16))) (l16 : K.lookup f16 = some ⟨oc16, od16, .func (PySem.W.fnOf "_law_cut" "_law_cut" (defArgs s_l_cut) (defBody s_l_cut) (defScope s_l_cut) .none kV16 dc16 pm16 an16 cd16 ct16), sl16⟩) (c16 : PySem.W.codeIn K cd16 "_law_cut" = true) (k16 : PySem.W.keepIn K (.ref f16) = true)
    (a17 : PySem.W.nsIn K mainGlobals "_law_back" = some (some (.ref f17))) (l17 : K.lookup f17 = some ⟨oc17, od17, .func (PySem.W.fnOf "_law_back" "_law_back" (defArgs s_l_back) (defBody s_l_back) (defScope s_l_back) .none kV17 dc17 pm17 an17 cd17 ct17), sl17⟩) (c17 : PySem.W.codeIn K cd17 "_law_back" = true) (k17 : PySem.W.keepIn K (.ref f17) = true)
    (a18 : PySem.W.nsIn K mainGlobals "_law_leads" = some (some (.ref f18))) (l18 : K.lookup f18 = some ⟨oc18, od18, .func (PySem.W.fnOf "_law_leads" "_law_leads" (defArgs s_l_leads) (defBody s_l_leads) (defScope s_l_leads) .none kV18 dc18 pm18 an18 cd18 ct18), sl18⟩) (c18 : PySem.W.codeIn K cd18 "_law_leads" = true) (k18 : PySem.W.keepIn K (.ref f18) = true)
    (a19 : PySem.W.nsIn K mainGlobals "_law_turned" = some (some (.ref f19))) (l19 : K.lookup f19 = some ⟨oc19, od19, .func (PySem.W.fnOf "_law_turned" "_law_turned" (defArgs s_l_turned) (defBody s_l_turned) (defScope s_l_turned) .none kV19 dc19 pm19 an19 cd19 ct19), sl19⟩) (c19 : PySem.W.codeIn K cd19 "_law_turned" = true) (k19 : PySem.W.keepIn K (.ref f19) = true)
    (a20 : PySem.W.nsIn K mainGlobals "_law_holds" = some (some (.ref f20))) (l20 : K.lookup f20 = some ⟨oc20, od20, .func (PySem.W.fnOf "_law_holds" "_law_holds" (defArgs s_l_holds) (defBody s_l_holds) (defScope s_l_holds) .none kV20 dc20 pm20 an20 cd20 ct20), sl20⟩) (c20 : PySem.W.codeIn K cd20 "_law_holds" = true) (k20 : PySem.W.keepIn K (.ref f20) = true)
    (a21 : PySem.W.nsIn K mainGlobals "law" = some (some (.ref f21))) (l21 : K.lookup f21 = some ⟨oc21, od21, .func (PySem.W.fnOf "law" "law" (defArgs s_law) (defBody s_law) (defScope s_law) .none kV21 dc21 pm21 an21 cd21 ct21), sl21⟩) (c21 : PySem.W.codeIn K cd21 "law" = true) (k21 : PySem.W.keepIn K (.ref f21) = true)
    (z_abs : PySem.W.nsIn K mainGlobals "abs" = some none)
    (z_bool : PySem.W.nsIn K mainGlobals "bool" = some none)
    (z_enumerate : PySem.W.nsIn K mainGlobals "enumerate" = some none)
    (z_int : PySem.W.nsIn K mainGlobals "int" = some none)
    (z_isinstance : PySem.W.nsIn K mainGlobals "isinstance" = some none)
    (z_len : PySem.W.nsIn K mainGlobals "len" = some none)
    (z_list : PySem.W.nsIn K mainGlobals "list" = some none)
    (z_max : PySem.W.nsIn K mainGlobals "max" = some none)
    (z_range : PySem.W.nsIn K mainGlobals "range" = some none)
    (z_str : PySem.W.nsIn K mainGlobals "str" = some none)
    (z_tuple : PySem.W.nsIn K mainGlobals "tuple" = some none)
    {ut_LAST_PLACE : Tok} (y_LAST_PLACE : PySem.W.nsIn K mainGlobals "LAST_PLACE" = some (some (.int 400 ut_LAST_PLACE))) :
    ∃ fd : FuncData, (∀ (s : Shared) (v : Value), BindsTo s fd ⟨[v], []⟩ [("script", v)]) ∧ ∀ base : Heap, K.In base → base.Ns mainGlobals mg → FnOk l.prog w K mg base CX0 9 fa fd ["script"] (sp_law K) := by
  have e := hfa.symm.trans (PySem.W.mg_of X G a21)
  cases e
  have F1 := fun_mk (st := s_common_lengths) l1 c1 k1
  have b1 := F1.binds (ps := ["old", "new"]) fun _ _ _ _ _ _ us hl => match us, hl with | [_, _], _ => rfl
  have F2 := fun_mk (st := s_matched) l2 c2 k2
  have b2 := F2.binds (ps := ["old", "new"]) fun _ _ _ _ _ _ us hl => match us, hl with | [_, _], _ => rfl
  have F3 := fun_mk (st := s_text_edits) l3 c3 k3
  have b3 := F3.binds (ps := ["old", "new"]) fun _ _ _ _ _ _ us hl => match us, hl with | [_, _], _ => rfl
  have F4 := fun_mk (st := s_follows) l4 c4 k4
  have b4 := F4.binds (ps := ["item", "end"]) fun _ _ _ _ _ _ us hl => match us, hl with | [_, _], _ => rfl
  have F5 := fun_mk (st := s_fits) l5 c5 k5
  have b5 := F5.binds (ps := ["old", "edit"]) fun _ _ _ _ _ _ us hl => match us, hl with | [_, _], _ => rfl
  have F6 := fun_mk (st := s_end_of) l6 c6 k6
  have b6 := F6.binds (ps := ["edit"]) fun _ _ _ _ _ _ us hl => match us, hl with | [_], _ => rfl
  have F7 := fun_mk (st := s_apply_edits) l7 c7 k7
  have b7 := F7.binds (ps := ["old", "edits"]) fun _ _ _ _ _ _ us hl => match us, hl with | [_, _], _ => rfl
  have F8 := fun_mk (st := s_inverse_edits) l8 c8 k8
  have b8 := F8.binds (ps := ["edits"]) fun _ _ _ _ _ _ us hl => match us, hl with | [_], _ => rfl
  have F9 := fun_mk (st := s_l_feed) l9 c9 k9
  have b9 := F9.binds (ps := ["script"]) fun _ _ _ _ _ _ us hl => match us, hl with | [_], _ => rfl
  have F10 := fun_mk (st := s_l_next) l10 c10 k10
  have b10 := F10.binds (ps := ["cells", "many"]) fun _ _ _ _ _ _ us hl => match us, hl with | [_, _], _ => rfl
  have F11 := fun_mk (st := s_l_same) l11 c11 k11
  have b11 := F11.binds (ps := ["told", "due"]) fun _ _ _ _ _ _ us hl => match us, hl with | [_, _], _ => rfl
  have F12 := fun_mk (st := s_l_menu) l12 c12 k12
  have b12 := F12.binds (ps := ["place"]) fun _ _ _ _ _ _ us hl => match us, hl with | [_], _ => rfl
  have F13 := fun_mk (st := s_l_ends) l13 c13 k13
  have b13 := F13.binds (ps := ["old", "new"]) fun _ _ _ _ _ _ us hl => match us, hl with | [_, _], _ => rfl
  have F14 := fun_mk (st := s_l_common) l14 c14 k14
  have b14 := F14.binds (ps := ["ends", "i", "j"]) fun _ _ _ _ _ _ us hl => match us, hl with | [_, _, _], _ => rfl
  have F15 := fun_mk (st := s_l_walk) l15 c15 k15
  have b15 := F15.binds (ps := ["old", "new"]) fun _ _ _ _ _ _ us hl => match us, hl with | [_, _], _ => rfl
  have F16 := fun_mk (st := s_l_cut) l16 c16 k16
  have b16 := F16.binds (ps := ["old", "new"]) fun _ _ _ _ _ _ us hl => match us, hl with | [_, _], _ => rfl
  have F17 := fun_mk (st := s_l_back) l17 c17 k17
  have b17 := F17.binds (ps := ["edits"]) fun _ _ _ _ _ _ us hl => match us, hl with | [_], _ => rfl
  have F18 := fun_mk (st := s_l_leads) l18 c18 k18
  have b18 := F18.binds (ps := ["old", "edits", "new"]) fun _ _ _ _ _ _ us hl => match us, hl with | [_, _, _], _ => rfl
  have F19 := fun_mk (st := s_l_turned) l19 c19 k19
  have b19 := F19.binds (ps := ["edits", "back"]) fun _ _ _ _ _ _ us hl => match us, hl with | [_, _], _ => rfl
  have F20 := fun_mk (st := s_l_holds) l20 c20 k20
  have b20 := F20.binds (ps := ["old", "new"]) fun _ _ _ _ _ _ us hl => match us, hl with | [_, _], _ => rfl
  have F21 := fun_mk (st := s_law) l21 c21 k21
  have b21 := F21.binds (ps := ["script"]) fun _ _ _ _ _ _ us hl => match us, hl with | [_], _ => rfl
  exact ⟨_, fun s v => .of_eq rfl, fun base _ _ => ok_law ⟨_, _, F1, PySem.W.mg_of X G a1, b1, _, _, F2, PySem.W.mg_of X G a2, b2, _, _, F3, PySem.W.mg_of X G a3, b3, _, _, F4, PySem.W.mg_of X G a4, b4, _, _, F5, PySem.W.mg_of X G a5, b5, _, _, F6, PySem.W.mg_of X G a6, b6, _, _, F7, PySem.W.mg_of X G a7, b7, _, _, F8, PySem.W.mg_of X G a8, b8, _, _, F9, PySem.W.mg_of X G a9, b9, _, _, F10, PySem.W.mg_of X G a10, b10, _, _, F11, PySem.W.mg_of X G a11, b11, _, _, F12, PySem.W.mg_of X G a12, b12, _, _, F13, PySem.W.mg_of X G a13, b13, _, _, F14, PySem.W.mg_of X G a14, b14, _, _, F15, PySem.W.mg_of X G a15, b15, _, _, F16, PySem.W.mg_of X G a16, b16, _, _, F17, PySem.W.mg_of X G a17, b17, _, _, F18, PySem.W.mg_of X G a18, b18, _, _, F19, PySem.W.mg_of X G a19, b19, _, _, F20, PySem.W.mg_of X G a20, b20, _, _, F21, PySem.W.mg_of X G a21, b21, PySem.W.mg_none_of X G z_abs, PySem.W.mg_none_of X G z_bool, PySem.W.mg_none_of X G z_enumerate, PySem.W.mg_none_of X G z_int, PySem.W.mg_none_of X G z_isinstance, PySem.W.mg_none_of X G z_len, PySem.W.mg_none_of X G z_list, PySem.W.mg_none_of X G z_max, PySem.W.mg_none_of X G z_range, PySem.W.mg_none_of X G z_str, PySem.W.mg_none_of X G z_tuple, ⟨_, PySem.W.mg_of X G y_LAST_PLACE, _, rfl⟩⟩⟩
end K01
open PySem PySem.W PyProof.Rows
set_option maxHeartbeats 0 in
theorem PySem.Challenge.cw_partclones_k01_edits_lead_over_holds : PySem.Challenge.rw_partclones_k01_edits_lead_over.Holds := by
  w_on; o_law; k_head; (case hw => w_witness2)
  k_fill
  refine L2.walk_of (l := PySem.Challenge.rw_partclones_k01_edits_lead_over) (n := 63) (k := 9) (x := "script") (CX := fun _ => L2.CX0) (sp := fun w => K01.sp_law _) rfl (by decide) rfl ⟨rfl, by decide, by decide⟩ (fun w h Y => PySem.W.kIn_of Y) ?F (fun _ H a ns hl _ hS => K01.sp_law_start hl hS) (fun _ _ _ _ _ h => h)
  case F =>
    intro w mg fa h KX G hmg
    refine' K01.all_mk KX G hmg ?a1 ?l1 ?c1 ?k1 ?a2 ?l2 ?c2 ?k2 ?a3 ?l3 ?c3 ?k3 ?a4 ?l4 ?c4 ?k4 ?a5 ?l5 ?c5 ?k5 ?a6 ?l6 ?c6 ?k6 ?a7 ?l7 ?c7 ?k7 ?a8 ?l8 ?c8 ?k8 ?a9 ?l9 ?c9 ?k9 ?a10 ?l10 ?c10 ?k10 ?a11 ?l11 ?c11 ?k11 ?a12 ?l12 ?c12 ?k12 ?a13 ?l13 ?c13 ?k13 ?a14 ?l14 ?c14 ?k14 ?a15 ?l15 ?c15 ?k15 ?a16 ?l16 ?c16 ?k16 ?a17 ?l17 ?c17 ?k17 ?a18 ?l18 ?c18 ?k18 ?a19 ?l19 ?c19 ?k19 ?a20 ?l20 ?c20 ?k20 ?a21 ?l21 ?c21 ?k21 ?z_abs ?z_bool ?z_enumerate ?z_int ?z_isinstance ?z_len ?z_list ?z_max ?z_range ?z_str ?z_tuple ?y_LAST_PLACE
    (case a1 => k_is)
    (case l1 => k_is)
    (case c1 => k_is)
    (case k1 => k_is)
    (case a2 => k_is)
    (case l2 => k_is)
    (case c2 => k_is)
    (case k2 => k_is)
    (case a3 => k_is)
    (case l3 => k_is)
    (case c3 => k_is)
    (case k3 => k_is)
    (case a4 => k_is)
    (case l4 => k_is)
    (case c4 => k_is)
    (case k4 => k_is)
    (case a5 => k_is)
    (case l5 => k_is)
    (case c5 => k_is)
    (case k5 => k_is)
    (case a6 => k_is)
    (case l6 => k_is)
    (case c6 => k_is)
    (case k6 => k_is)
    (case a7 => k_is)
    (case l7 => k_is)
    (case c7 => k_is)
    (case k7 => k_is)
    (case a8 => k_is)
    (case l8 => k_is)
    (case c8 => k_is)
    (case k8 => k_is)
    (case a9 => k_is)
    (case l9 => k_is)
    (case c9 => k_is)
    (case k9 => k_is)
    (case a10 => k_is)
    (case l10 => k_is)
    (case c10 => k_is)
    (case k10 => k_is)
    (case a11 => k_is)
    (case l11 => k_is)
    (case c11 => k_is)
    (case k11 => k_is)
    (case a12 => k_is)
    (case l12 => k_is)
    (case c12 => k_is)
    (case k12 => k_is)
    (case a13 => k_is)
    (case l13 => k_is)
    (case c13 => k_is)
    (case k13 => k_is)
    (case a14 => k_is)
    (case l14 => k_is)
    (case c14 => k_is)
    (case k14 => k_is)
    (case a15 => k_is)
    (case l15 => k_is)
    (case c15 => k_is)
    (case k15 => k_is)
    (case a16 => k_is)
    (case l16 => k_is)
    (case c16 => k_is)
    (case k16 => k_is)
    (case a17 => k_is)
    (case l17 => k_is)
    (case c17 => k_is)
    (case k17 => k_is)
    (case a18 => k_is)
    (case l18 => k_is)
    (case c18 => k_is)
    (case k18 => k_is)
    (case a19 => k_is)
    (case l19 => k_is)
    (case c19 => k_is)
    (case k19 => k_is)
    (case a20 => k_is)
    (case l20 => k_is)
    (case c20 => k_is)
    (case k20 => k_is)
    (case a21 => k_is)
    (case l21 => k_is)
    (case c21 => k_is)
    (case k21 => k_is)
    (case z_abs => k_is)
    (case z_bool => k_is)
    (case z_enumerate => k_is)
    (case z_int => k_is)
    (case z_isinstance => k_is)
    (case z_len => k_is)
    (case z_list => k_is)
    (case z_max => k_is)
    (case z_range => k_is)
    (case z_str => k_is)
    (case z_tuple => k_is)
    (case y_LAST_PLACE => k_is)

