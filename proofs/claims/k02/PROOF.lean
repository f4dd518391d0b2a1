import PyProof.Rows.All
import Wide.All
import OpenK.AllK
import Wide.FinOn
import HandS.ForMost
import HandS.Small
import HandS.Style
import HandS.Flow
import HandS.Deep
import HandS.IsInst
import HandS.More
import HandS.Star
import HandS.TupAny
import KE.KExcIs
import HandS.ExcCtx
import HandS.ExcInit
import HandS.ExcField
import HandS.HotCalls
import HandS.Ends
import PySem.Challenge.RW_partclones_k02_edits_refused
set_option Elab.async false
set_option linter.all false
set_option maxRecDepth 100000
namespace Qk
open PySem PySem.Spec PyProof.Rows L2

/-! ### heaps -/
abbrev Own := List (Addr × HO)
structure Has (F : Hp) (O : Own) (H : Hp) : Prop where
  same : Same F H
  own : ∀ p ∈ O, F p.1 = none ∧ H p.1 = some p.2
  nd : (O.map (·.1)).Nodup

/-- O with the object at a changed from o to o' -/
inductive Chg : Own → Addr → HO → HO → Own → Prop
  | hd {a : Addr} {o o' : HO} {O : Own} : Chg ((a, o) :: O) a o o' ((a, o') :: O)
  | tl {a : Addr} {o o' : HO} {O O' : Own} {x : Addr × HO} : Chg O a o o' O' → Chg (x :: O) a o o' (x :: O')
theorem Chg.mem {O O' : Own} {a : Addr} {o o' : HO} (c : Chg O a o o' O') : (a, o) ∈ O := by
  induction c with
  | hd => exact List.Mem.head _
  | tl _ ih => exact List.Mem.tail _ ih
theorem Chg.fst {O O' : Own} {a : Addr} {o o' : HO} (c : Chg O a o o' O') : O'.map (·.1) = O.map (·.1) := by
  induction c with
  | hd => rfl
  | tl _ ih => rw [List.map_cons, List.map_cons, ih]
theorem Chg.own {O O' : Own} {a : Addr} {o o' : HO} (c : Chg O a o o' O') (nd : (O.map (·.1)).Nodup) : ∀ p ∈ O', p = (a, o') ∨ (p ∈ O ∧ p.1 ≠ a) := by
  induction c with
  | @hd a o o' O =>
    intro p hp
    rw [List.map_cons] at nd
    have nm := (List.nodup_cons.mp nd).1
    rcases List.mem_cons.mp hp with e | hp
    · exact .inl e
    · refine .inr ⟨List.mem_cons_of_mem _ hp, fun e => nm ?_⟩
      exact List.mem_map.mpr ⟨p, hp, e⟩
  | @tl a o o' O O' x c ih =>
    intro p hp
    rw [List.map_cons] at nd
    have nm := List.nodup_cons.mp nd
    rcases List.mem_cons.mp hp with e | hp
    · subst e
      refine .inr ⟨List.mem_cons_self, fun e => nm.1 ?_⟩
      rw [e]
      exact List.mem_map.mpr ⟨_, c.mem, rfl⟩
    · rcases ih nm.2 p hp with e | ⟨e, ne⟩
      · exact .inl e
      · exact .inr ⟨List.mem_cons_of_mem _ e, ne⟩

section
variable {F F' : Hp} {O O' : Own} {H H' : Hp} {a p : Addr} {o o' : HO} {K : PySem.W.Frag} {xs : List V}
theorem Has.start (H : Hp) : Has H [] H := ⟨Same.refl H, fun _ h => (List.not_mem_nil h).elim, List.nodup_nil⟩
theorem Has.get (h : Has F O H) (m : (a, o) ∈ O) : H a = some o := (h.own _ m).2
theorem Has.but (h : Has F O H) (c : Chg O a o o' O') (s : ∀ b u, b ≠ a → H b = some u → H' b = some u) (e : H' a = some o') : Has F O' H' := by
  have fa : F a = none := (h.own _ c.mem).1
  refine ⟨fun b u q => s b u (fun z => by rw [z, fa] at q; cases q) (h.same b u q), fun q hq => ?_, by rw [c.fst]; exact h.nd⟩
  rcases c.own h.nd q hq with rfl | ⟨m, ne⟩
  · exact ⟨fa, e⟩
  · exact ⟨(h.own _ m).1, s _ _ ne (h.own _ m).2⟩
theorem Has.put (h : Has F O H) (c : Chg O a o o' O') : Has F O' (upd H a o') := h.but c (fun b u ne q => by rw [upd_ne ne]; exact q) upd_same
theorem Has.on (h : Has F O H) (s : Same H H') : Has F O H' := ⟨h.same.trans s, fun q hq => ⟨(h.own q hq).1, s _ _ (h.own q hq).2⟩, h.nd⟩
theorem Has.made (h : Has F O H) (n : H p = none) (s : Same H H') (e : H' p = some o) : Has F ((p, o) :: O) H' := by
  refine ⟨h.same.trans s, fun q hq => ?_, ?_⟩
  · rcases List.mem_cons.mp hq with rfl | hq
    · exact ⟨h.same.free n, e⟩
    · exact ⟨(h.own q hq).1, s _ _ (h.own q hq).2⟩
  · rw [List.map_cons]
    refine List.nodup_cons.mpr ⟨fun m => ?_, h.nd⟩
    obtain ⟨q, hq, e'⟩ := List.mem_map.mp m
    have z := (h.own q hq).2
    rw [e', n] at z
    cases z
theorem same_upd (n : H p = none) : Same H (upd H p o) := fun b u q => by
  rw [upd_ne (ne_of_none q n)]
  exact q
theorem Has.new (h : Has F O H) (n : H p = none) : Has F ((p, o) :: O) (upd H p o) := h.made n (same_upd n) upd_same
theorem Has.drop {x : Addr × HO} (h : Has F (x :: O) H) : Has F O H := ⟨h.same, fun q hq => h.own q (List.mem_cons_of_mem _ hq), (List.nodup_cons.mp (by have := h.nd; rw [List.map_cons] at this; exact this)).2⟩
theorem Has.sub (h : Has F O H) (s : O'.Sublist O) : Has F O' H := ⟨h.same, fun q hq => h.own q (s.subset hq), (s.map _).nodup h.nd⟩
theorem Has.perm (h : Has F O H) (s : O'.Perm O) : Has F O' H := ⟨h.same, fun q hq => h.own q (s.subset hq), (s.map _).nodup_iff.mpr h.nd⟩
/-- the first owned object stands still from now on -/
theorem Has.frz (h : Has F ((p, o) :: O) H) : Has (upd F p o) O H := by
  have hp := h.own (p, o) List.mem_cons_self
  have nd : p ∉ O.map (·.1) ∧ (O.map (·.1)).Nodup := List.nodup_cons.mp (by have := h.nd; rw [List.map_cons] at this; exact this)
  refine ⟨fun b u q => ?_, fun q hq => ⟨?_, (h.own q (List.mem_cons_of_mem _ hq)).2⟩, nd.2⟩
  · by_cases e : b = p
    · subst e
      rw [upd_same] at q
      cases q
      exact hp.2
    · rw [upd_ne e] at q
      exact h.same b u q
  · rw [upd_ne (fun z => nd.1 (List.mem_map.mpr ⟨q, hq, z⟩))]
    exact (h.own q (List.mem_cons_of_mem _ hq)).1
theorem Has.free (h : Has F ((p, o) :: O) H) : F p = none := (h.own _ List.mem_cons_self).1
theorem Has.grow (h : Has F ((p, o) :: O) H) : Same F (upd F p o) := same_upd h.free
/-- all stands still from now on -/
theorem Has.all (h : Has F O H) : Has H [] H := Has.start H
/-- F grown by what O knows nothing of -/
theorem Has.up (h : Has F O H) (s2 : Same F' H') (s : Same H H') (d : ∀ p ∈ O, F' p.1 = none) : Has F' O H' :=
  ⟨s2, fun q hq => ⟨d q hq, s _ _ (h.own q hq).2⟩, h.nd⟩
theorem Has.sqO (h : Has F O H) (m : (a, .lst xs) ∈ O) : SqL K H a xs := SqL.of (h.get m)
theorem Has.sqF (h : Has F O H) (m : SqL K F a xs) : SqL K H a xs := h.same.seq m
theorem Same.tup {K : PySem.W.Frag} (e : Same H H') (h : SqT K H a xs) : SqT K H' a xs := by
  rcases h with (h | ⟨o, h⟩) | h
  · exact .inl (.inl (e _ _ h))
  · exact .inl (.inr ⟨o, e _ _ h⟩)
  · exact .inr h
theorem Has.stF (h : Has F O H) (m : SqT K F a xs) : SqT K H a xs := Same.tup h.same m
theorem Has.stO (h : Has F O H) (m : (a, .tup xs) ∈ O) : SqT K H a xs := SqT.of (h.get m)
end

/-! ### data -/
mutual
inductive Dq (H : Hp) : V → PyData → Prop
  | non : Dq H .non .none
  | bl (b : Bool) : Dq H (.bl b) (.bool b)
  | int (i : Int) : Dq H (.int i) (.int i)
  | str (x : Str) : Dq H (.str x) (.str x)
  | lst {a : Addr} {xs : List V} {ds : List PyData} : H a = some (.lst xs) → DqAll H xs ds → Dq H (.ref a) (.list ds)
  | tup {a : Addr} {xs : List V} {ds : List PyData} : H a = some (.tup xs) → DqAll H xs ds → Dq H (.ref a) (.tuple ds)
inductive DqAll (H : Hp) : List V → List PyData → Prop
  | nil : DqAll H [] []
  | cons {v : V} {vs : List V} {d : PyData} {ds : List PyData} : Dq H v d → DqAll H vs ds → DqAll H (v :: vs) (d :: ds)
end
mutual
theorem Dq.up {H H' : Hp} (e : Same H H') : ∀ (d : PyData) (v : V), Dq H v d → Dq H' v d
  | _, _, .non => .non
  | _, _, .bl b => .bl b
  | _, _, .int i => .int i
  | _, _, .str x => .str x
  | .list ds, _, .lst s a => .lst (e _ _ s) (DqAll.up e ds _ a)
  | .tuple ds, _, .tup s a => .tup (e _ _ s) (DqAll.up e ds _ a)
theorem DqAll.up {H H' : Hp} (e : Same H H') : ∀ (ds : List PyData) (vs : List V), DqAll H vs ds → DqAll H' vs ds
  | _, _, .nil => .nil
  | d :: ds, _, .cons h t => .cons (Dq.up e d _ h) (DqAll.up e ds _ t)
end
mutual
theorem Dq.dp (K : PySem.W.Frag) {H : Hp} : ∀ (d : PyData) (v : V), Dq H v d → Dp K H v d
  | _, _, .non => .non
  | _, _, .bl b => .bl b
  | _, _, .int i => .int i
  | _, _, .str x => .str x
  | .list ds, _, .lst s a => .lst (SqL.of s) (DqAll.dp K ds _ a)
  | .tuple ds, _, .tup s a => .tup (SqT.of s) (DqAll.dp K ds _ a)
theorem DqAll.dp (K : PySem.W.Frag) {H : Hp} : ∀ (ds : List PyData) (vs : List V), DqAll H vs ds → DpAll K H vs ds
  | _, _, .nil => .nil
  | d :: ds, _, .cons h t => .cons (Dq.dp K d _ h) (DqAll.dp K ds _ t)
end
theorem DqAll.len {H : Hp} : ∀ {vs : List V} {ds : List PyData}, DqAll H vs ds → vs.length = ds.length
  | _, _, .nil => rfl
  | _, _, .cons _ t => by rw [List.length_cons, List.length_cons, t.len]
theorem DqAll.get {H : Hp} : ∀ {vs : List V} {ds : List PyData} {i : Nat} {v : V}, DqAll H vs ds → vs[i]? = some v → ∃ d, ds[i]? = some d ∧ Dq H v d
  | _, _, _, _, .nil, e => by simp at e
  | _, _, 0, _, .cons h _, e => ⟨_, rfl, by have e' := Option.some.inj e; rw [← e']; exact h⟩
  | _, _, i + 1, _, .cons _ t, e => t.get (i := i) e
theorem DqAll.snoc {H : Hp} : ∀ {vs : List V} {ds : List PyData} {v : V} {d : PyData}, DqAll H vs ds → Dq H v d → DqAll H (vs ++ [v]) (ds ++ [d])
  | _, _, _, _, .nil, h => .cons h .nil
  | _, _, _, _, .cons h t, h' => .cons h (t.snoc h')
theorem DqAll.app {H : Hp} : ∀ {vs ws : List V} {ds es : List PyData}, DqAll H vs ds → DqAll H ws es → DqAll H (vs ++ ws) (ds ++ es)
  | _, _, _, _, .nil, h => h
  | _, _, _, _, .cons h t, h' => .cons h (t.app h')
theorem DqAll.rev {H : Hp} : ∀ {vs : List V} {ds : List PyData}, DqAll H vs ds → DqAll H vs.reverse ds.reverse
  | _, _, .nil => .nil
  | _, _, .cons h t => by
    rw [List.reverse_cons, List.reverse_cons]
    exact t.rev.snoc h
theorem DqAll.strs {H : Hp} : ∀ (xs : List Str), DqAll H (xs.map V.str) (xs.map PyData.str)
  | [] => .nil
  | x :: xs => .cons (.str x) (DqAll.strs xs)
theorem DqAll.ints {H : Hp} : ∀ (xs : List Int), DqAll H (xs.map V.int) (xs.map PyData.int)
  | [] => .nil
  | x :: xs => .cons (.int x) (DqAll.ints xs)
theorem DqAll.of_strs {H : Hp} : ∀ {vs : List V} {xs : List Str}, DqAll H vs (xs.map PyData.str) → vs = xs.map V.str
  | _, [], .nil => rfl
  | _, x :: xs, .cons h t => by
    cases h
    rw [List.map_cons, t.of_strs]
theorem Dq.of_strs {H : Hp} {v : V} {xs : List Str} (h : Dq H v (.list (xs.map PyData.str))) : ∃ a, v = .ref a ∧ H a = some (.lst (xs.map V.str)) := by
  cases h with
  | lst s a =>
    rw [a.of_strs] at s
    exact ⟨_, rfl, s⟩
theorem Dq.strs {H : Hp} {a : Addr} {xs : List Str} (h : H a = some (.lst (xs.map V.str))) : Dq H (.ref a) (.list (xs.map PyData.str)) := .lst h (DqAll.strs xs)
theorem Dq.ints {H : Hp} {a : Addr} {xs : List Int} (h : H a = some (.lst (xs.map V.int))) : Dq H (.ref a) (.list (xs.map PyData.int)) := .lst h (DqAll.ints xs)
theorem Has.gF {F : Hp} {O : Own} {H : Hp} {a : Addr} {o : HO} (h : Has F O H) (e : F a = some o) : H a = some o := h.same _ _ e
theorem Has.dq {F : Hp} {O : Own} {H : Hp} (h : Has F O H) {v : V} {d : PyData} (p : Dq F v d) : Dq H v d := p.up h.same d v

/-! ### == of data -/
theorem eqvAll_strs : ∀ xs ys : List Str, PyData.eqvAll (xs.map PyData.str) (ys.map PyData.str) = decide (xs = ys)
  | [], [] => by simp [PyData.eqvAll]
  | [], y :: ys => by simp [PyData.eqvAll]
  | x :: xs, [] => by simp [PyData.eqvAll]
  | x :: xs, y :: ys => by
    rw [List.map_cons, List.map_cons, PyData.eqvAll, eqvAll_strs xs ys, PyData.eqv]
    by_cases h : x = y
    · subst h; simp
    · simp [h]
theorem eqv_strs (xs ys : List Str) : PyData.eqv (.list (xs.map PyData.str)) (.list (ys.map PyData.str)) = decide (xs = ys) := by
  rw [PyData.eqv, eqvAll_strs]
theorem eqvAll_ints : ∀ xs ys : List Int, PyData.eqvAll (xs.map PyData.int) (ys.map PyData.int) = decide (xs = ys)
  | [], [] => by simp [PyData.eqvAll]
  | [], y :: ys => by simp [PyData.eqvAll]
  | x :: xs, [] => by simp [PyData.eqvAll]
  | x :: xs, y :: ys => by
    rw [List.map_cons, List.map_cons, PyData.eqvAll, eqvAll_ints xs ys, PyData.eqv]
    by_cases h : x = y
    · subst h; simp
    · simp [h]
theorem eqv_ints (xs ys : List Int) : PyData.eqv (.list (xs.map PyData.int)) (.list (ys.map PyData.int)) = decide (xs = ys) := by
  rw [PyData.eqv, eqvAll_ints]
theorem canLayAll_mem : ∀ {ds : List PyData}, (∀ d ∈ ds, d.canLay0 = true) → PyData.canLayAll0 ds = true
  | [], _ => rfl
  | d :: ds, h => by
    rw [PyData.canLayAll0, h d List.mem_cons_self, canLayAll_mem fun x hx => h x (List.mem_cons_of_mem _ hx)]
    rfl
theorem depthAll_le {n : Nat} : ∀ {ds : List PyData}, (∀ d ∈ ds, d.depth ≤ n) → PyData.depthAll ds ≤ n
  | [], _ => Nat.zero_le _
  | d :: ds, h => by
    rw [PyData.depthAll]
    exact Nat.max_le.mpr ⟨h d List.mem_cons_self, depthAll_le fun x hx => h x (List.mem_cons_of_mem _ hx)⟩
/-- data of depth n that can be compared -/
def Sh (n : Nat) (d : PyData) : Prop := d.canLay0 = true ∧ d.depth ≤ n
theorem Sh.list {n : Nat} {ds : List PyData} (h : ∀ d ∈ ds, Sh n d) : Sh (n + 1) (.list ds) := by
  refine ⟨?_, ?_⟩
  · rw [PyData.canLay0]
    exact canLayAll_mem fun d hd => (h d hd).1
  · rw [PyData.depth]
    have := depthAll_le (n := n) fun d hd => (h d hd).2
    omega
theorem Sh.tuple {n : Nat} {ds : List PyData} (h : ∀ d ∈ ds, Sh n d) : Sh (n + 1) (.tuple ds) := by
  refine ⟨?_, ?_⟩
  · rw [PyData.canLay0]
    exact canLayAll_mem fun d hd => (h d hd).1
  · rw [PyData.depth]
    have := depthAll_le (n := n) fun d hd => (h d hd).2
    omega
theorem Sh.ok {n : Nat} {d : PyData} (h : Sh n d) (hn : n ≤ 64) : SeqAt.shaped d = true := by
  unfold SeqAt.shaped
  rw [h.1, Bool.true_and]
  exact decide_eq_true (Nat.le_trans h.2 hn)
theorem Sh.int {n : Nat} (i : Int) : Sh n (.int i) := ⟨rfl, Nat.zero_le _⟩
theorem Sh.non {n : Nat} : Sh n .none := ⟨rfl, Nat.zero_le _⟩
theorem Sh.bl {n : Nat} (b : Bool) : Sh n (.bool b) := ⟨rfl, Nat.zero_le _⟩
theorem Sh.str {n : Nat} {x : Str} (h : PyData.strOk x = true) : Sh n (.str x) := ⟨h, Nat.zero_le _⟩
theorem Sh.strs {n : Nat} {xs : List Str} (h : ∀ x ∈ xs, PyData.strOk x = true) : Sh (n + 1) (.list (xs.map PyData.str)) := Sh.list fun d hd => by
  obtain ⟨x, hx, rfl⟩ := List.mem_map.mp hd
  exact Sh.str (h x hx)
theorem Sh.ints {n : Nat} {xs : List Int} : Sh (n + 1) (.list (xs.map PyData.int)) := Sh.list fun d hd => by
  obtain ⟨x, hx, rfl⟩ := List.mem_map.mp hd
  exact Sh.int x

/-! ### readings, in order -/
def kB (x : V) (H : Hp) (R : Bool → Hp → Prop) : Prop := ∃ k, x = .bl k ∧ R k H
def kTup (xs : List V) (H : Hp) (Q : VK) : Prop := xs.length ≤ sizeLine ∧ ∀ p, H p = none → Q (.ref p) (upd H p (.tup xs))
def kLst (xs : List V) (H : Hp) (Q : VK) : Prop := xs.length ≤ sizeLine ∧ ∀ p, H p = none → Q (.ref p) (upd H p (.lst xs))
def kBM (K : PySem.W.Frag) (T : String) (r : V → List V → Hp → VK → Prop) (t : TA) (σ : L2.St) (x : V) (H : Hp) (Q : VK) : Prop := tyV K T x H ∧ t σ H fun xs H2 => r x xs H2 Q
section
variable {K : PySem.W.Frag} {σ : L2.St} {F : Hp} {O O' : Own} {H : Hp} {Q : VK} {ta tb tc te : TE} {x y v : V} {D : Ends} {t1 t2 : TS}
theorem g_var {i : Nat} (h : σ[i]? = some (some v)) (q : Q v H) : tVar i σ H Q := ⟨v, h, q⟩
theorem g_c (q : Q v H) : tC v σ H Q := q
theorem g_op {r : R2} (q : ta σ H fun x H1 => tb σ H1 fun y H2 => r x y H2 Q) : tOp r ta tb σ H Q := q
theorem g_un {r : V → Hp → VK → Prop} (q : ta σ H fun x H1 => r x H1 Q) : tUn r ta σ H Q := q
theorem g_cons {tr : TA} {QA : List V → Hp → Prop} (q : ta σ H fun x H1 => tr σ H1 fun xs H2 => QA (x :: xs) H2) : tCons ta tr σ H QA := q
theorem g_nil {QA : List V → Hp → Prop} (q : QA [] H) : tNil σ H QA := q
theorem g_cb {r : List V → Hp → VK → Prop} {t : TA} (q : t σ H fun vs H1 => r vs H1 Q) : tCB r t σ H Q := q
theorem g_call {sp : Sp} {E : XK} {t : TA} (q : t σ H fun vs H1 => sp vs H1 Q E) : tCall sp [] E t σ H Q := by
  unfold tCall
  simp only [List.append_nil]
  exact q
theorem g_tup {t : TA} (q : t σ H fun xs H1 => kTup xs H1 Q) : tTup t σ H Q := q
theorem g_lst {t : TA} (q : t σ H fun xs H1 => kLst xs H1 Q) : tLst t σ H Q := q
theorem g_bm {T : String} {r : V → List V → Hp → VK → Prop} {t : TA} (q : ta σ H fun x H1 => kBM K T r t σ x H1 Q) : tBM K T r ta t σ H Q := q
theorem g_bm0 {T : String} {r : V → List V → Hp → VK → Prop} (q : ta σ H fun x H1 => kBM K T r tNil σ x H1 Q) : tBM0 K T r ta σ H Q := q
theorem g_kbm {r : V → List V → Hp → VK → Prop} {t : TA} {a : Addr} {xs : List V} (h : H a = some (.lst xs)) (q : t σ H fun vs H2 => r (.ref a) vs H2 Q) : kBM K "list" r t σ (.ref a) H Q := ⟨.inl ⟨rfl, _, SqL.of h⟩, q⟩
theorem g_ktup {xs : List V} (hl : xs.length ≤ sizeLine) (hH : Has F O H) (q : ∀ p H', H p = none → Has F ((p, .tup xs) :: O) H' → Q (.ref p) H') : kTup xs H Q := ⟨hl, fun p n => q p _ n (hH.new n)⟩
theorem g_klst {xs : List V} (hl : xs.length ≤ sizeLine) (hH : Has F O H) (q : ∀ p H', H p = none → Has F ((p, .lst xs) :: O) H' → Q (.ref p) H') : kLst xs H Q := ⟨hl, fun p n => q p _ n (hH.new n)⟩
/-- a tuple that stands still at once -/
theorem g_ktupF {xs : List V} (hl : xs.length ≤ sizeLine) (hH : Has F O H) (q : ∀ p H' F', H p = none → Same F F' → F' p = some (.tup xs) → Has F' O H' → Q (.ref p) H') : kTup xs H Q :=
  ⟨hl, fun p n => q p _ (upd F p (.tup xs)) n (same_upd (hH.same.free n)) upd_same (hH.new n).frz⟩
theorem g_klstF {xs : List V} (hl : xs.length ≤ sizeLine) (hH : Has F O H) (q : ∀ p H' F', H p = none → Same F F' → F' p = some (.lst xs) → Has F' O H' → Q (.ref p) H') : kLst xs H Q :=
  ⟨hl, fun p n => q p _ (upd F p (.lst xs)) n (same_upd (hH.same.free n)) upd_same (hH.new n).frz⟩
theorem g_seq (h : t1 { D with nx := t2 D } σ H) : tSeq t1 t2 D σ H := h
theorem g_asg {g : TG} (q : te σ H fun x H1 => g x σ H1 D.nx) : tAsg te g D σ H := q
theorem g_name {i : Nat} {R : L2.St → Hp → Prop} (q : R (σ.set i (some v)) H) : gName i v σ H R := q
theorem g_drop (q : te σ H fun _ H1 => D.nx σ H1) : tDrop te D σ H := q
theorem g_ret (q : te σ H fun x H1 => D.rt x H1) : tRet te D σ H := q
theorem g_retN (q : D.rt .non H) : tRetN D σ H := q
theorem g_next (q : D.nx σ H) : tNext D σ H := q
theorem g_brk (q : D.bk σ H) : tBreak D σ H := q
theorem g_cont (q : D.ct σ H) : tCont D σ H := q
theorem g_if {c : TT} (q : c σ H fun b H1 => if b = true then t1 D σ H1 else t2 D σ H1) : tIfS c t1 t2 D σ H := q
theorem g_aug {i : Nat} {ti : TIp} (h : σ[i]? = some (some x)) (q : te σ H fun y H1 => ti x y H1 fun z H2 => D.nx (σ.set i (some z)) H2) : tAug i te ti D σ H := ⟨x, h, q⟩
theorem g_ipI {f : Int → Int → Int} {i j : Int} (q : Q (.int (f i j)) H) : ipI f (.int i) (.int j) H Q := ⟨i, j, rfl, rfl, q⟩
theorem g_test {R : Bool → Hp → Prop} (q : te σ H fun x H1 => kB x H1 R) : tTest te σ H R := q
theorem g_tB {R : Bool → Hp → Prop} (q : te σ H fun x H1 => kB x H1 R) : tB te σ H R := q
theorem g_kB {b : Bool} {R : Bool → Hp → Prop} (q : R b H) : kB (.bl b) H R := ⟨b, rfl, q⟩
theorem g_not {t : TT} {R : Bool → Hp → Prop} (q : t σ H fun c H1 => R (!c) H1) : tNot t σ H R := q
theorem g_and {t u : TT} {R : Bool → Hp → Prop} (q : t σ H fun c H1 => if c = true then u σ H1 R else R false H1) : tAnd t u σ H R := q
theorem g_or {t u : TT} {R : Bool → Hp → Prop} (q : t σ H fun c H1 => if c = true then R true H1 else u σ H1 R) : tOr t u σ H R := q
theorem g_andV (q : ta σ H fun x H1 => kB x H1 fun c H2 => if c = true then tb σ H2 Q else Q (.bl false) H2) : tAndV ta tb σ H Q := q
theorem g_orV (q : ta σ H fun x H1 => kB x H1 fun c H2 => if c = true then Q (.bl true) H2 else tb σ H2 Q) : tOrV ta tb σ H Q := q
theorem g_notV (q : ta σ H fun x H1 => kB x H1 fun c H2 => Q (.bl (!c)) H2) : tNotV ta σ H Q := q
theorem g_ifE {t : TT} (q : t σ H fun c H1 => if c = true then ta σ H1 Q else tb σ H1 Q) : tIf t ta tb σ H Q := q
theorem i_d {c A B : Prop} [Decidable c] (h1 : c → A) (h2 : ¬ c → B) : if decide c = true then A else B := by
  by_cases h : c
  · rw [if_pos (decide_eq_true h)]
    exact h1 h
  · rw [if_neg (by rw [decide_eq_false h]; exact Bool.false_ne_true)]
    exact h2 h
theorem i_n {c A B : Prop} [Decidable c] (h1 : ¬ c → A) (h2 : c → B) : if (!decide c) = true then A else B := by
  by_cases h : c
  · rw [decide_eq_true h, if_neg (by decide)]
    exact h2 h
  · rw [decide_eq_false h, if_pos (by decide)]
    exact h1 h
theorem i_b {b : Bool} {A B : Prop} (h1 : b = true → A) (h2 : b = false → B) : if b = true then A else B := by
  cases b with
  | true => rw [if_pos rfl]; exact h1 rfl
  | false => rw [if_neg Bool.false_ne_true]; exact h2 rfl
theorem i_nb {b : Bool} {A B : Prop} (h1 : b = false → A) (h2 : b = true → B) : if (!b) = true then A else B := by
  cases b with
  | false =>
    show (if true = true then A else B)
    rw [if_pos rfl]
    exact h1 rfl
  | true =>
    show (if false = true then A else B)
    rw [if_neg Bool.false_ne_true]
    exact h2 rfl
/-- a test by its answer -/
theorem g_bool {t : TT} {R : Bool → Hp → Prop} (b : Bool) (h : ∀ R : Bool → Hp → Prop, R b H → t σ H R) (q : R b H) : t σ H R := h R q

/-! ### operators -/
def rAdd (K : PySem.W.Frag) : R2 := fun x y H Q => (rI0 (fun i j => .int (i + j)) x y H Q ∨ ∃ i j, x = .str i ∧ y = .str j ∧ i.length + j.length ≤ sizeLine ∧ Q (.str (i ++ j)) H) ∨ rCat x y H Q ∨ rCatA K x y H Q
theorem g_addI {i j : Int} (q : Q (.int (i + j)) H) : rAdd K (.int i) (.int j) H Q := .inl (.inl ⟨i, j, rfl, rfl, q⟩)
theorem g_addS {i j : Str} (hl : i.length + j.length ≤ sizeLine) (q : Q (.str (i ++ j)) H) : rAdd K (.str i) (.str j) H Q := .inl (.inr ⟨i, j, rfl, rfl, hl, q⟩)
theorem g_addL {a b : Addr} {xs ys : List V} (h1 : H a = some (.lst xs)) (h2 : H b = some (.lst ys)) (hl : xs.length + ys.length ≤ sizeLine) (hH : Has F O H) (q : ∀ p H', H p = none → Has F ((p, .lst (xs ++ ys)) :: O) H' → Q (.ref p) H') : rAdd K (.ref a) (.ref b) H Q :=
  .inr (.inl ⟨a, b, xs, ys, rfl, rfl, h1, h2, hl, fun p n => q p _ n (hH.new n)⟩)
theorem g_rI0 {g : Int → Int → V} {i j : Int} (q : Q (g i j) H) : rI0 g (.int i) (.int j) H Q := ⟨i, j, rfl, rfl, q⟩
theorem g_rI {C : Int → Int → Prop} {g : Int → Int → V} {i j : Int} (hc : C i j) (q : Q (g i j) H) : rI C g (.int i) (.int j) H Q := ⟨i, j, rfl, rfl, hc, q⟩
theorem g_rU {g : Int → V} {i : Int} (q : Q (g i) H) : rU g (.int i) H Q := ⟨i, rfl, q⟩
def rMul : R2 := fun x y H Q => rI CMul (fun i j => .int (i * j)) x y H Q ∨ rRep x y H Q
theorem g_mulI {i j : Int} (hc : CMul i j) (q : Q (.int (i * j)) H) : rMul (.int i) (.int j) H Q := .inl ⟨i, j, rfl, rfl, hc, q⟩
theorem g_mulL {a : Addr} {k : Int} {xs : List V} (h : H a = some (.lst xs)) (h1 : -(2 ^ 63) ≤ k) (h2 : k < 2 ^ 63) (hl : xs.length * k.toNat ≤ sizeLine) (hH : Has F O H)
    (q : ∀ p H', H p = none → Has F ((p, .lst (List.replicate k.toNat xs).flatten) :: O) H' → Q (.ref p) H') : rMul (.ref a) (.int k) H Q := .inr ⟨a, k, xs, rfl, rfl, h, h1, h2, hl, fun p n => q p _ n (hH.new n)⟩
def rEqA (K : PySem.W.Frag) : R2 := fun x y H Q => rEq x y H Q ∨ rEqD K x y H Q
def rNeA (K : PySem.W.Frag) : R2 := fun x y H Q => rNe x y H Q ∨ rNeD K x y H Q
theorem g_eqI {i j : Int} (q : Q (.bl (decide (i = j))) H) : rEqA K (.int i) (.int j) H Q := .inl ⟨rfl, by rw [dec_int, Bool.beq_eq_decide_eq]; exact q⟩
theorem g_eqS {i j : Str} (q : Q (.bl (decide (i = j))) H) : rEqA K (.str i) (.str j) H Q := .inl ⟨rfl, by rw [dec_str, Bool.beq_eq_decide_eq]; exact q⟩
theorem g_neI {i j : Int} (q : Q (.bl (!decide (i = j))) H) : rNeA K (.int i) (.int j) H Q := .inl ⟨rfl, by rw [dec_int, Bool.beq_eq_decide_eq]; exact q⟩
theorem g_neS {i j : Str} (q : Q (.bl (!decide (i = j))) H) : rNeA K (.str i) (.str j) H Q := .inl ⟨rfl, by rw [dec_str, Bool.beq_eq_decide_eq]; exact q⟩
theorem g_eqD {d e : PyData} (hx : Dq H x d) (hy : Dq H y e) (sd : SeqAt.shaped d = true) (se : SeqAt.shaped e = true) (q : Q (.bl (PyData.eqv d e)) H) : rEqA K x y H Q := .inr ⟨d, e, hx.dp K d x, hy.dp K e y, sd, se, q⟩
theorem g_neD {d e : PyData} (hx : Dq H x d) (hy : Dq H y e) (sd : SeqAt.shaped d = true) (se : SeqAt.shaped e = true) (q : Q (.bl (!PyData.eqv d e)) H) : rNeA K x y H Q := .inr ⟨d, e, hx.dp K d x, hy.dp K e y, sd, se, q⟩
def rIsN : R2 := fun x y H Q => y = .non ∧ Q (.bl (decide (x = .non))) H
def rNotN : R2 := fun x y H Q => y = .non ∧ Q (.bl (!decide (x = .non))) H
theorem g_isN (q : Q (.bl (decide (x = .non))) H) : rIsN x .non H Q := ⟨rfl, q⟩
theorem g_notN (q : Q (.bl (!decide (x = .non))) H) : rNotN x .non H Q := ⟨rfl, q⟩
def rIxD : R2 := fun x y H Q => ∃ a v, x = .ref a ∧ DGet H a y (some v) ∧ Q v H
def rIxA (K : PySem.W.Frag) : R2 := fun x y H Q => rIx K x y H Q ∨ rIxD x y H Q
theorem g_ixL {a : Addr} {xs : List V} {i : Int} (h : H a = some (.lst xs)) (ha : atI xs i = some v) (q : Q v H) : rIxA K (.ref a) (.int i) H Q := .inl <| .inl ⟨a, xs, i, v, rfl, rfl, SqL.of h, ha, q⟩
theorem g_ixT {a : Addr} {xs : List V} {i : Int} (h : H a = some (.tup xs)) (ha : atI xs i = some v) (q : Q v H) : rIxA K (.ref a) (.int i) H Q := .inl (.inr (.inl ⟨a, xs, i, v, rfl, rfl, SqT.of h, ha, q⟩))
theorem g_ixS {z : Str} {i : Int} {c : Nat} (hl : z.length ≤ sizeLine) (ha : atI z.cps.toList i = some c) (q : Q (.str ⟨#[c]⟩) H) : rIxA K (.str z) (.int i) H Q := .inl (.inr (.inr ⟨z, i, c, rfl, rfl, hl, ha, q⟩))
theorem at_n {xs : List V} {i : Int} (h0 : 0 ≤ i) (h : xs[i.toNat]? = some v) : atI xs i = some v := by
  have e : i = (i.toNat : Int) := by omega
  rw [e]
  exact atI_nat h

/-! ### calls of what is built in -/
def rLen (K : PySem.W.Frag) : List V → Hp → VK → Prop := fun xs H Q => (∃ p ys, xs = [.ref p] ∧ (SqL K H p ys ∨ SqT K H p ys) ∧ Q (.int ys.length) H) ∨ ∃ z, xs = [.str z] ∧ z.length ≤ sizeLine ∧ Q (.int z.length) H
theorem g_lenL {a : Addr} {xs : List V} (h : H a = some (.lst xs)) (q : Q (.int (xs.length : Int)) H) : rLen K [.ref a] H Q := .inl ⟨a, xs, rfl, .inl (SqL.of h), q⟩
theorem g_lenT {a : Addr} {xs : List V} (h : H a = some (.tup xs)) (q : Q (.int (xs.length : Int)) H) : rLen K [.ref a] H Q := .inl ⟨a, xs, rfl, .inr (SqT.of h), q⟩
theorem g_lenS {z : Str} (h : z.length ≤ sizeLine) (q : Q (.int (z.length : Int)) H) : rLen K [.str z] H Q := .inr ⟨z, rfl, h, q⟩
def rInt1 : List V → Hp → VK → Prop := fun xs H Q => (∃ i, xs = [.int i] ∧ Q (.int i) H) ∨ ∃ k, xs = [.bl k] ∧ Q (.int (if k then 1 else 0)) H
theorem g_int {i : Int} (q : Q (.int i) H) : rInt1 [.int i] H Q := .inl ⟨i, rfl, q⟩
theorem g_intB {k : Bool} (q : Q (.int (if k then 1 else 0)) H) : rInt1 [.bl k] H Q := .inr ⟨k, rfl, q⟩
def rAbs1 : List V → Hp → VK → Prop := fun xs H Q => ∃ i, xs = [.int i] ∧ Q (.int (if i < 0 then -i else i)) H
theorem g_abs {i : Int} (q : ∀ j : Int, 0 ≤ j → Q (.int j) H) : rAbs1 [.int i] H Q := ⟨i, rfl, q _ (by split <;> omega)⟩
def rMax2 : List V → Hp → VK → Prop := fun xs H Q => ∃ i j, xs = [.int i, .int j] ∧ Q (.int (if j > i then j else i)) H
theorem g_max2 {i j : Int} (q : Q (.int (max i j)) H) : rMax2 [.int i, .int j] H Q := ⟨i, j, rfl, by
  have e : (if j > i then j else i) = max i j := by split <;> omega
  rw [e]
  exact q⟩
def rListOf (K : PySem.W.Frag) : List V → Hp → VK → Prop := fun xs H Q => ∃ p ys, xs = [.ref p] ∧ (SqL K H p ys ∨ SqT K H p ys) ∧ ∀ l, H l = none → Q (.ref l) (upd H l (.lst ys))
theorem g_listL {a : Addr} {xs : List V} (h : H a = some (.lst xs)) (hH : Has F O H) (q : ∀ p H', H p = none → Has F ((p, .lst xs) :: O) H' → Q (.ref p) H') : rListOf K [.ref a] H Q := ⟨a, xs, rfl, .inl (SqL.of h), fun p n => q p _ n (hH.new n)⟩
theorem g_listT {a : Addr} {xs : List V} (h : H a = some (.tup xs)) (hH : Has F O H) (q : ∀ p H', H p = none → Has F ((p, .lst xs) :: O) H' → Q (.ref p) H') : rListOf K [.ref a] H Q := ⟨a, xs, rfl, .inr (SqT.of h), fun p n => q p _ n (hH.new n)⟩
def rTupleOf (K : PySem.W.Frag) : List V → Hp → VK → Prop := fun xs H Q => ∃ p ys, xs = [.ref p] ∧ ((SqL K H p ys ∧ ∀ l, H l = none → Q (.ref l) (upd H l (.tup ys))) ∨ (SqT K H p ys ∧ Q (.ref p) H))
theorem g_tupleL {a : Addr} {xs : List V} (h : H a = some (.lst xs)) (hH : Has F O H) (q : ∀ p H' F', H p = none → Same F F' → F' p = some (.tup xs) → Has F' O H' → Q (.ref p) H') : rTupleOf K [.ref a] H Q :=
  ⟨a, xs, rfl, .inl ⟨SqL.of h, fun p n => q p _ (upd F p (.tup xs)) n (same_upd (hH.same.free n)) upd_same (hH.new n).frz⟩⟩
theorem g_tupleT {a : Addr} {xs : List V} (h : H a = some (.tup xs)) (q : Q (.ref a) H) : rTupleOf K [.ref a] H Q := ⟨a, xs, rfl, .inr ⟨SqT.of h, q⟩⟩

/-! ### methods of lists, stores -/
theorem g_append {a : Addr} {xs : List V} (hH : Has F O H) (c : Chg O a (.lst xs) (.lst (xs ++ [y])) O') (hl : xs.length < sizeLine) (q : ∀ H', Has F O' H' → Q .non H') : rAppend (.ref a) [y] H Q :=
  ⟨a, xs, y, rfl, rfl, hH.get c.mem, hl, q _ (hH.put c)⟩
theorem g_popAt {a : Addr} {xs : List V} {i : Int} {k : Nat} (hH : Has F O H) (c : Chg O a (.lst xs) (.lst (xs.eraseIdx k)) O') (h1 : -(2 ^ 63) ≤ i) (h2 : i < 2 ^ 63) (hk : seqIndex? i xs.length = some k) (hy : xs[k]? = some y)
    (q : ∀ H', Has F O' H' → Q y H') : rPopAt (.ref a) [.int i] H Q := ⟨a, xs, i, k, y, rfl, rfl, hH.get c.mem, h1, h2, hk, hy, q _ (hH.put c)⟩
theorem g_clear {a : Addr} {xs : List V} (hH : Has F O H) (c : Chg O a (.lst xs) (.lst []) O') (q : ∀ H', Has F O' H' → Q .non H') : rClear (.ref a) [] H Q := ⟨a, xs, rfl, rfl, hH.get c.mem, q _ (hH.put c)⟩
/-- o[i] = v -/
def kSet (t : TSet) (R : L2.St → Hp → Prop) (σ : L2.St) (o i v : V) (H : Hp) : Prop := t o i v H fun H3 => R σ H3
theorem g_sub {to ti : TE} {t : TSet} {R : L2.St → Hp → Prop} (q : to σ H fun o H1 => ti σ H1 fun i H2 => kSet t R σ o i v H2) : gSub to ti t v σ H R := q
theorem g_setL {R : L2.St → Hp → Prop} {a : Addr} {xs : List V} {k : Int} {j : Nat} (hH : Has F O H) (c : Chg O a (.lst xs) (.lst (xs.set j v)) O') (hj : ixN xs.length k = some j) (q : ∀ H', Has F O' H' → R σ H') : kSet rSetL R σ (.ref a) (.int k) v H :=
  ⟨a, xs, k, j, rfl, rfl, hH.get c.mem, hj, q _ (hH.put c)⟩
theorem ixN_nat {n : Nat} {k : Int} (h0 : 0 ≤ k) (h : k < n) : ixN n k = some k.toNat := by
  unfold ixN
  rw [if_pos h0, if_pos h]
/-- a, b = a tuple -/
theorem g_gtup {n : Nat} {t : TGs} {a : Addr} {xs : List V} {R : L2.St → Hp → Prop} (h : H a = some (.tup xs)) (hl : xs.length = n) (q : t xs σ H R) : gTup K n t (.ref a) σ H R := ⟨a, xs, rfl, SqT.of h, hl, q⟩
theorem g_gcons {t : TG} {u : TGs} {r : List V} {R : L2.St → Hp → Prop} (q : t v σ H fun σ' H' => u r σ' H' R) : gCons t u (v :: r) σ H R := ⟨v, r, rfl, q⟩
theorem g_gnil {R : L2.St → Hp → Prop} (q : R σ H) : gNil [] σ H R := ⟨rfl, q⟩
/-- slices -/
def kSl (r : V → Option Int → Option Int → Hp → VK → Prop) (tl th : TO) (σ : L2.St) (x : V) (H : Hp) (Q : VK) : Prop := tl σ H fun l H2 => th σ H2 fun u H3 => r x l u H3 Q
theorem g_sl {r : V → Option Int → Option Int → Hp → VK → Prop} {tl th : TO} (q : te σ H fun x H1 => kSl r tl th σ x H1 Q) : tSl r te tl th σ H Q := q
theorem g_kslN {r : V → Option Int → Option Int → Hp → VK → Prop} (q : r x none none H Q) : kSl r tNoPart tNoPart σ x H Q := q
theorem g_kslL {r : V → Option Int → Option Int → Hp → VK → Prop} {tl : TE} {i : Int} (q : tl σ H fun z H1 => ∃ i, z = .int i ∧ r x (some i) none H1 Q) : kSl r (tPart tl) tNoPart σ x H Q := q
theorem g_kslH {r : V → Option Int → Option Int → Hp → VK → Prop} {tl : TE} {i : Int} (q : tl σ H fun z H1 => ∃ i, z = .int i ∧ r x none (some i) H1 Q) : kSl r tNoPart (tPart tl) σ x H Q := q
def rRevL (K : PySem.W.Frag) (x : V) (H : Hp) (Q : VK) : Prop := ∃ a xs, x = .ref a ∧ SqL K H a xs ∧ ∀ p, H p = none → Q (.ref p) (upd H p (.lst xs.reverse))
end

/-! ### loops -/
def kW (J : It) (g : TG) (tb : TS) (D : Ends) (σ : L2.St) (H : Hp) : Prop := ∃ W : Nat → Nat → L2.St → Hp → Prop, (∃ m, W 0 m σ H) ∧ ∀ i m σ H, W i m σ H →
  (J.stop i H ∧ D.nx σ H) ∨ (J.go i H ∧ ∃ N : L2.St → Hp → Prop, (∀ σ' H', N σ' H' → ∃ m', m' < m ∧ W (i + 1) m' σ' H') ∧ ∀ x H', J.yld i H x H' → g x σ H' fun σ2 H2 => tb { D with nx := N, ct := N, bk := D.nx } σ2 H2)
def kForL (K : PySem.W.Frag) (g : TG) (tb : TS) (D : Ends) (σ : L2.St) (x : V) (H : Hp) : Prop := ∃ a, x = .ref a ∧ (∃ xs, SqL K H a xs) ∧ kW (Itl K a) g tb D σ H
def kForR1 (g : TG) (tb : TS) (D : Ends) (σ : L2.St) (vs : List V) (H : Hp) : Prop := ∃ j : Int, vs = [.int j] ∧ -(2 ^ 62) ≤ j ∧ j < 2 ^ 62 ∧ kW (Itr 0 j.toNat) g tb D σ H
def kForR2 (g : TG) (tb : TS) (D : Ends) (σ : L2.St) (vs : List V) (H : Hp) : Prop := ∃ i j : Int, vs = [.int i, .int j] ∧ (-(2 ^ 62) ≤ i ∧ i < 2 ^ 62 ∧ -(2 ^ 62) ≤ j ∧ j < 2 ^ 62) ∧ kW (Itr i (j - i).toNat) g tb D σ H
def kForR3 (g : TG) (tb : TS) (D : Ends) (σ : L2.St) (vs : List V) (H : Hp) : Prop := ∃ (i j c : Int) (n : Nat), vs = [.int i, .int j, .int c] ∧ RgC i j c n ∧ kW (Itc i c n) g tb D σ H
section
variable {K : PySem.W.Frag} {σ : L2.St} {F : Hp} {O O' : Own} {H : Hp} {Q : VK} {ta tb tc te : TE} {x y v : V} {D : Ends} {t1 t2 ts : TS} {g : TG}
theorem g_forL (q : te σ H fun x H1 => kForL K g ts D σ x H1) : tFor (iList K te) g ts D σ H := q
theorem g_forR1 {ta : TA} (q : ta σ H fun vs H1 => kForR1 g ts D σ vs H1) : tFor (iRng1 ta) g ts D σ H := q
theorem g_forR2 {ta : TA} (q : ta σ H fun vs H1 => kForR2 g ts D σ vs H1) : tFor (iRng2 ta) g ts D σ H := q
theorem g_forR3 {ta : TA} (q : ta σ H fun vs H1 => kForR3 g ts D σ vs H1) : tFor (iRng3 ta) g ts D σ H := q
theorem k_forL {a : Addr} {xs : List V} (h : H a = some (.lst xs)) (Pv : Nat → L2.St → Hp → Prop) (h0 : Pv 0 σ H) (hl : ∀ i σ H, i ≤ xs.length → Pv i σ H → H a = some (.lst xs))
    (hs : ∀ i x σ H, xs[i]? = some x → Pv i σ H → g x σ H fun σ2 H2 => ts { D with nx := Pv (i + 1), ct := Pv (i + 1), bk := D.nx } σ2 H2) (hd : ∀ σ H, Pv xs.length σ H → D.nx σ H) : kForL K g ts D σ (.ref a) H :=
  ⟨a, rfl, ⟨xs, SqL.of h⟩, for_list Pv h0 (fun i σ H hi p => SqL.of (hl i σ H hi p)) hs hd⟩
theorem k_forR1 {j : Int} (Pv : Nat → L2.St → Hp → Prop) (h1 : -(2 ^ 62) ≤ j) (h2 : j < 2 ^ 62) (h0 : Pv 0 σ H)
    (hs : ∀ i σ H, i < j.toNat → Pv i σ H → g (.int (i : Int)) σ H fun σ2 H2 => ts { D with nx := Pv (i + 1), ct := Pv (i + 1), bk := D.nx } σ2 H2) (hd : ∀ σ H, Pv j.toNat σ H → D.nx σ H) : kForR1 g ts D σ [.int j] H :=
  ⟨j, rfl, h1, h2, for_range Pv h0 (fun i σ H hi p => by rw [Int.zero_add]; exact hs i σ H hi p) hd⟩
/-- n - 1 down to 0 -/
theorem k_forDown {n : Nat} {j : Int} (hj : j = (n : Int) - 1) (hn : n < 2 ^ 60) (Pv : Nat → L2.St → Hp → Prop) (h0 : Pv n σ H)
    (hs : ∀ i σ H, i < n → Pv (i + 1) σ H → g (.int (i : Int)) σ H fun σ2 H2 => ts { D with nx := Pv i, ct := Pv i, bk := D.nx } σ2 H2) (hd : ∀ σ H, Pv 0 σ H → D.nx σ H) : kForR3 g ts D σ [.int j, .int (-1), .int (-1)] H := by
  subst hj
  have e : (((n : Int) - 1) - (-1)).toNat = n := by omega
  have rg := RgC.neg (i := (n : Int) - 1) (j := -1) (by omega) (by omega) (by decide) (by decide)
  rw [e] at rg
  refine ⟨_, _, _, n, rfl, rg, for_rangeC (fun i => Pv (n - i)) h0 (fun i σ H hi p => ?_) (fun σ H p => ?_)⟩
  · have e1 : (n : Int) - 1 + (i : Nat) * (-1) = ((n - (i + 1) : Nat) : Int) := by omega
    have e2 : n - i = (n - (i + 1)) + 1 := by omega
    rw [e1]
    have p' : Pv ((n - (i + 1)) + 1) σ H := by rw [← e2]; exact p
    exact hs _ σ H (by omega) p'
  · have p' : Pv (n - n) σ H := p
    rw [Nat.sub_self] at p'
    exact hd σ H p'
/-- while -/
def kWh (Pv : Nat → L2.St → Hp → Prop) (m : Nat) (tb : TS) (D : Ends) (σ : L2.St) (b : Bool) (H : Hp) : Prop := if b = true then ∃ N : L2.St → Hp → Prop, (∀ σ' H', N σ' H' → ∃ m', m' < m ∧ Pv m' σ' H') ∧ tb { D with nx := N, ct := N, bk := D.nx } σ H else D.nx σ H
theorem g_while {c : TT} (Pv : Nat → L2.St → Hp → Prop) (m : Nat) (h0 : Pv m σ H) (hs : ∀ m σ H, Pv m σ H → c σ H fun b H1 => kWh Pv m ts D σ b H1) : tWhile c ts D σ H := ⟨Pv, ⟨m, h0⟩, hs⟩
theorem kwh_t {Pv : Nat → L2.St → Hp → Prop} {m : Nat} (q : ts { D with nx := fun σ' H' => ∃ m', m' < m ∧ Pv m' σ' H', ct := fun σ' H' => ∃ m', m' < m ∧ Pv m' σ' H', bk := D.nx } σ H) : kWh Pv m ts D σ true H := by
  unfold kWh
  rw [if_pos rfl]
  exact ⟨_, fun _ _ h => h, q⟩
theorem kwh_f {Pv : Nat → L2.St → Hp → Prop} {m : Nat} (q : D.nx σ H) : kWh Pv m ts D σ false H := by
  unfold kWh
  rw [if_neg Bool.false_ne_true]
  exact q

/-! ### list comprehensions -/
def kLc (J : It) (g : TG) (tt : TT) (te : TE) (vs : List Nat) (σ : L2.St) (H1 : Hp) (Q : VK) : Prop := ∀ D, H1 D = none → ∃ W : Nat → Nat → Hp → Prop, (∃ m, W 0 m (upd H1 D (.lst []))) ∧ ∀ i m H, W i m H →
  (J.stop i H ∧ Q (.ref D) H) ∨ (J.go i H ∧ ∃ Nx : Hp → Prop, (∀ H', Nx H' → ∃ m', m' < m ∧ W (i + 1) m' H') ∧ ∀ x H', J.yld i H x H' → g x (wipe σ vs) H' fun σ2 H2 => wipe σ2 vs = wipe σ vs ∧ tt σ2 H2 fun b H3 =>
    if b = true then te σ2 H3 fun y H4 => ∃ acc, H4 D = some (.lst acc) ∧ acc.length < sizeLine ∧ Nx (upd H4 D (.lst (acc ++ [y]))) else Nx H3)
def kLcL (K : PySem.W.Frag) (g : TG) (tt : TT) (te : TE) (vs : List Nat) (σ : L2.St) (x : V) (H : Hp) (Q : VK) : Prop := ∃ a, x = .ref a ∧ (∃ xs, SqL K H a xs) ∧ kLc (Itl K a) g tt te vs σ H Q
def kLcR1 (g : TG) (tt : TT) (te : TE) (ws : List Nat) (σ : L2.St) (vs : List V) (H : Hp) (Q : VK) : Prop := ∃ j : Int, vs = [.int j] ∧ -(2 ^ 62) ≤ j ∧ j < 2 ^ 62 ∧ kLc (Itr 0 j.toNat) g tt te ws σ H Q
theorem g_lcL {tt : TT} {vs : List Nat} (q : ta σ H fun x H1 => kLcL K g tt te vs σ x H1 Q) : tLc (iList K ta) g tt te vs σ H Q := q
theorem g_lcR1 {ta : TA} {tt : TT} {vs : List Nat} (q : ta σ H fun xs H1 => kLcR1 g tt te vs σ xs H1 Q) : tLc (iRng1 ta) g tt te vs σ H Q := q
/-- what a turn is to leave -/
def kNx (S : Nat → List V → Hp → Own → Prop) (i : Nat) (D : Addr) (H : Hp) : Prop := ∃ acc F' O', S (i + 1) acc F' O' ∧ Has F' ((D, .lst acc) :: O') H
def kTurn (D : Addr) (Nx : Hp → Prop) (y : V) (H : Hp) : Prop := ∃ acc, H D = some (.lst acc) ∧ acc.length < sizeLine ∧ Nx (upd H D (.lst (acc ++ [y])))
theorem k_turn {S : Nat → List V → Hp → Own → Prop} {i : Nat} {D : Addr} {acc : List V} {y : V} {H : Hp} {F : Hp} {O : Own} (h : Has F ((D, .lst acc) :: O) H) (hl : acc.length ≤ 100000) (s : S (i + 1) (acc ++ [y]) F O) : kTurn D (kNx S i D) y H :=
  ⟨acc, h.get (List.Mem.head _), by rw [sizeLine_eq]; omega, _, F, O, s, h.put .hd⟩
theorem k_skip {S : Nat → List V → Hp → Own → Prop} {i : Nat} {D : Addr} {acc : List V} {H : Hp} {F : Hp} {O : Own} (h : Has F ((D, .lst acc) :: O) H) (s : S (i + 1) acc F O) : kNx S i D H := ⟨acc, F, O, s, h⟩
theorem k_lc {J : It} {tt : TT} {vs : List Nat} (hH : Has F O H) (n : Nat) (S : Nat → List V → Hp → Own → Prop) (h0 : S 0 [] F O)
    (go : ∀ i acc F O D H, i < n → S i acc F O → Has F ((D, .lst acc) :: O) H → J.go i H) (stop : ∀ acc F O D H, S n acc F O → Has F ((D, .lst acc) :: O) H → J.stop n H)
    (hs : ∀ i x acc F O D H H', i < n → J.yld i H x H' → S i acc F O → Has F ((D, .lst acc) :: O) H → g x (wipe σ vs) H' fun σ2 H2 => wipe σ2 vs = wipe σ vs ∧ tt σ2 H2 fun b H3 => if b = true then te σ2 H3 fun y H4 => kTurn D (kNx S i D) y H4 else kNx S i D H3)
    (hd : ∀ acc F O D H, S n acc F O → Has F ((D, .lst acc) :: O) H → Q (.ref D) H) : kLc J g tt te vs σ H Q := by
  intro D hD
  refine ⟨fun i m H => m = n - i ∧ i ≤ n ∧ ∃ acc F O, S i acc F O ∧ Has F ((D, .lst acc) :: O) H, ⟨n, by simp, Nat.zero_le _, [], F, O, h0, hH.new hD⟩, ?_⟩
  rintro i m H1 ⟨rfl, hi, acc, F1, O1, s1, hH1⟩
  by_cases hlt : i < n
  · exact .inr ⟨go i acc F1 O1 D H1 hlt s1 hH1, kNx S i D, fun H' p => ⟨n - (i + 1), by omega, rfl, hlt, p⟩, fun x H' y => hs i x acc F1 O1 D H1 H' hlt y s1 hH1⟩
  · have e : i = n := by omega
    subst e
    exact .inl ⟨stop acc F1 O1 D H1 s1 hH1, hd acc F1 O1 D H1 s1 hH1⟩
/-- over a list that stands still -/
theorem k_lcL {a : Addr} {xs : List V} {tt : TT} {vs : List Nat} (h : H a = some (.lst xs)) (hH : Has F O H) (S : Nat → List V → Hp → Own → Prop) (h0 : S 0 [] F O) (hl : ∀ i acc F O H, S i acc F O → Has F O H → H a = some (.lst xs))
    (hs : ∀ i x acc F O D H, xs[i]? = some x → S i acc F O → Has F ((D, .lst acc) :: O) H → g x (wipe σ vs) H fun σ2 H2 => wipe σ2 vs = wipe σ vs ∧ tt σ2 H2 fun b H3 => if b = true then te σ2 H3 fun y H4 => kTurn D (kNx S i D) y H4 else kNx S i D H3)
    (hd : ∀ acc F O D H, S xs.length acc F O → Has F ((D, .lst acc) :: O) H → Q (.ref D) H) : kLcL K g tt te vs σ (.ref a) H Q := by
  refine ⟨a, rfl, ⟨xs, SqL.of h⟩, k_lc hH xs.length S h0 (fun i acc F O D H hi s hh => ?_) (fun acc F O D H s hh => ?_) (fun i x acc F O D H H' hi y s hh => ?_) hd⟩
  · exact ⟨xs, xs[i], SqL.of (hl i acc F O H s hh.drop), List.getElem?_eq_getElem hi⟩
  · exact ⟨xs, SqL.of (hl _ acc F O H s hh.drop), Nat.le_refl _⟩
  · obtain ⟨e, y⟩ := y
    subst e
    exact hs i x acc F O D _ (y xs (SqL.of (hl i acc F O _ s hh.drop))) s hh
theorem k_lcR1 {j : Int} {tt : TT} {vs : List Nat} (h1 : -(2 ^ 62) ≤ j) (h2 : j < 2 ^ 62) (hH : Has F O H) (S : Nat → List V → Hp → Own → Prop) (h0 : S 0 [] F O)
    (hs : ∀ i acc F O D H, i < j.toNat → S i acc F O → Has F ((D, .lst acc) :: O) H → g (.int (i : Int)) (wipe σ vs) H fun σ2 H2 => wipe σ2 vs = wipe σ vs ∧ tt σ2 H2 fun b H3 => if b = true then te σ2 H3 fun y H4 => kTurn D (kNx S i D) y H4 else kNx S i D H3)
    (hd : ∀ acc F O D H, S j.toNat acc F O → Has F ((D, .lst acc) :: O) H → Q (.ref D) H) : kLcR1 g tt te vs σ [.int j] H Q := by
  refine ⟨j, rfl, h1, h2, k_lc hH j.toNat S h0 (fun i acc F O D H hi s hh => hi) (fun acc F O D H s hh => Nat.le_refl _) (fun i x acc F O D H H' hi y s hh => ?_) hd⟩
  obtain ⟨e, y⟩ := y
  subst e y
  rw [Int.zero_add]
  exact hs i acc F O D _ hi s hh
end

/-! ### the rules' own soundness: one operator for several kinds -/
section
variable {X : Cx}
theorem op_addA : OpR X (binaryOp .Add) (rAdd X.K) := by
  intro pins s σ H x y v u Q I rx ry h
  rcases h with (h | h) | h | h
  · exact op_add pins s σ H x y v u Q I rx ry h
  · exact op_add_str pins s σ H x y v u Q I rx ry h
  · exact op_cat pins s σ H x y v u Q I rx ry h
  · exact op_catA pins s σ H x y v u Q I rx ry h
theorem op_mulA : OpR X (binaryOp .Mult) rMul := by
  intro pins s σ H x y v u Q I rx ry h
  rcases h with h | h
  · exact op_mul pins s σ H x y v u Q I rx ry h
  · exact op_rep pins s σ H x y v u Q I rx ry h
theorem op_eqA (hu : X.A.units + 64 < cLine) : OpR X (compareOp .Eq) (rEqA X.K) := by
  intro pins s σ H x y v u Q I rx ry h
  rcases h with h | h
  · exact op_eq pins s σ H x y v u Q I rx ry h
  · exact op_eqD hu pins s σ H x y v u Q I rx ry h
theorem op_neA (hu : X.A.units + 64 < cLine) : OpR X (compareOp .NotEq) (rNeA X.K) := by
  intro pins s σ H x y v u Q I rx ry h
  rcases h with h | h
  · exact op_ne pins s σ H x y v u Q I rx ry h
  · exact op_neD hu pins s σ H x y v u Q I rx ry h
theorem op_isNA : OpR X (compareOp .Is) rIsN := op_isN
theorem op_notNA : OpR X (compareOp .IsNot) rNotN := op_notN
theorem cr_len : CallR X (.builtin "len") (rLen X.K) := by
  intro pins s σ H xs us Q I r h
  rcases h with h | h
  · exact call_len_seq pins s σ H xs us Q I r h
  · exact call_len_str pins s σ H xs us Q I r h
theorem cr_int1 : CallR X (.type "int") rInt1 := call_int1
theorem cr_abs1 : CallR X (.builtin "abs") rAbs1 := call_abs
theorem cr_max2 (hc : X.calm = true) : CallR X (.builtin "max") rMax2 := call_max2 hc
theorem cr_listOf : CallR X (.type "list") (rListOf X.K) := call_list_of
theorem cr_tupleOf : CallR X (.type "tuple") (rTupleOf X.K) := call_tuple_of
end

/-! ### dicts -/
def rInDc : R2 := fun x y H Q => ∃ a o, y = .ref a ∧ DGet H a x o ∧ Q (.bl o.isSome) H
def rNotInDc : R2 := fun x y H Q => ∃ a o, y = .ref a ∧ DGet H a x o ∧ Q (.bl (!o.isSome)) H
section
variable {X : Cx}
theorem op_inDc (hu : X.A.units + 1 < cLine) : OpR X (compareOp .In) rInDc := by
  intro pins s σ H x y v u Q I rx ry h
  obtain ⟨a, o, rfl, g, q⟩ := h
  cases ry
  exact d_in hu I g rx fun s' I' => ⟨.bl _, H, I', rfl, q⟩
theorem op_notinDc (hu : X.A.units + 1 < cLine) : OpR X (compareOp .NotIn) rNotInDc := by
  intro pins s σ H x y v u Q I rx ry h
  obtain ⟨a, o, rfl, g, q⟩ := h
  cases ry
  exact d_notIn hu I g rx fun s' I' => ⟨.bl _, H, I', rfl, q⟩
end
def kGet2 (ty tx : TE) (σ : L2.St) (x : V) (H : Hp) (Q : VK) : Prop := ∃ a, x = .ref a ∧ IsD H a ∧ ty σ H fun y H2 => tx σ H2 fun z H3 => ∃ o, DGet H3 a y o ∧ Q (o.getD z) H3
def kGot (a : Addr) (y z : V) (H : Hp) (Q : VK) : Prop := ∃ o, DGet H a y o ∧ Q (o.getD z) H
section
variable {K : PySem.W.Frag} {σ : L2.St} {F : Hp} {O O' : Own} {H : Hp} {Q : VK} {ta tb tc te : TE} {x y v : V} {D : Ends} {t1 t2 ts : TS} {g : TG}
theorem g_dnew (hH : Has F O H) (q : ∀ p H', H p = none → Has F ((p, .dK []) :: O) H' → Q (.ref p) H') : tDNewK σ H Q := fun p n => q p _ n (hH.new n)
theorem g_inDI {a : Addr} {kvs : List (Key × V)} {i : Int} (h : H a = some (.dK kvs)) (q : Q (.bl (valV kvs (.inl i)).isSome) H) : rInDc (.int i) (.ref a) H Q := ⟨a, _, rfl, DGet.k (k := .inl i) h, q⟩
theorem g_notinDI {a : Addr} {kvs : List (Key × V)} {i : Int} (h : H a = some (.dK kvs)) (q : Q (.bl (!(valV kvs (.inl i)).isSome)) H) : rNotInDc (.int i) (.ref a) H Q := ⟨a, _, rfl, DGet.k (k := .inl i) h, q⟩
theorem g_setDI {R : L2.St → Hp → Prop} {a : Addr} {kvs : List (Key × V)} {i : Int} (hH : Has F O H) (c : Chg O a (.dK kvs) (.dK (putK kvs (.inl i) v)) O') (hl : kvs.length < sizeLine) (q : ∀ H', Has F O' H' → R σ H') : kSet rSetD R σ (.ref a) (.int i) v H :=
  ⟨a, _, rfl, DPut.k (k := .inl i) (hH.get c.mem) hl, q _ (hH.put c)⟩
theorem g_get2 (q : ta σ H fun x H1 => kGet2 tb tc σ x H1 Q) : tDGet2 ta tb tc σ H Q := q
theorem g_kget2 {a : Addr} {kvs : List (Key × V)} (h : H a = some (.dK kvs)) (q : tb σ H fun y H2 => tc σ H2 fun z H3 => kGot a y z H3 Q) : kGet2 tb tc σ (.ref a) H Q := ⟨a, rfl, .inl ⟨kvs, .inl h⟩, q⟩
theorem g_kgotI {a : Addr} {kvs : List (Key × V)} {i : Int} {z : V} (h : H a = some (.dK kvs)) (q : Q ((valV kvs (.inl i)).getD z) H) : kGot a (.int i) z H Q := ⟨_, DGet.k (k := .inl i) h, q⟩
theorem g_kgotS {a : Addr} {kvs : List (Key × V)} {i : Str} {z : V} (h : H a = some (.dK kvs)) (q : Q ((valV kvs (.inr i)).getD z) H) : kGot a (.str i) z H Q := ⟨_, DGet.k (k := .inr i) h, q⟩
end

/-! ### in, not in; o[i] = v: any of the kinds -/
def rInA (K : PySem.W.Frag) : R2 := fun x y H Q => (rIn K false x y H Q ∨ rInDc x y H Q) ∨ (∃ i j, x = .str i ∧ y = .str j ∧ Q (.bl (!(Builtin.Str.occurrences j i 0 j.length 1).isEmpty)) H) ∨ rInD K x y H Q
def rNotInA (K : PySem.W.Frag) : R2 := fun x y H Q => (rIn K true x y H Q ∨ rNotInDc x y H Q) ∨ (∃ i j, x = .str i ∧ y = .str j ∧ Q (.bl (!(!(Builtin.Str.occurrences j i 0 j.length 1).isEmpty))) H) ∨ rNotInD K x y H Q
def rSetA : TSet := fun o i v H Q => rSetL o i v H Q ∨ rSetD o i v H Q
section
variable {X : Cx}
theorem op_inA (hu : X.A.units + 64 < cLine) (hu' : X.A.units + 65 < cLine) : OpR X (compareOp .In) (rInA X.K) := by
  intro pins s σ H x y v u Q I rx ry h
  rcases h with (h | h) | h | h
  · exact op_in_seq pins s σ H x y v u Q I rx ry h
  · exact op_inDc (by omega) pins s σ H x y v u Q I rx ry h
  · exact op_in_str pins s σ H x y v u Q I rx ry h
  · exact op_inD hu' pins s σ H x y v u Q I rx ry h
theorem op_notinA (hu : X.A.units + 64 < cLine) (hu' : X.A.units + 65 < cLine) : OpR X (compareOp .NotIn) (rNotInA X.K) := by
  intro pins s σ H x y v u Q I rx ry h
  rcases h with (h | h) | h | h
  · exact op_notIn_seq pins s σ H x y v u Q I rx ry h
  · exact op_notinDc (by omega) pins s σ H x y v u Q I rx ry h
  · exact L2.op_notIn_str pins s σ H x y v u Q I rx ry h
  · exact op_notInD hu' pins s σ H x y v u Q I rx ry h
theorem set_any (hu : X.A.units + 1 < cLine) : PSet X rSetA := by
  intro pins s σ H o i v ov iv u Q I ro ri rv h
  rcases h with h | h
  · exact set_list pins s σ H o i v ov iv u Q I ro ri rv h
  · exact set_dict hu pins s σ H o i v ov iv u Q I ro ri rv h
theorem u65 {k : Nat} {A : Around} (r : Room k A) : A.units + 65 < cLine := by have := r.un; omega
end
section
variable {K : PySem.W.Frag} {σ : L2.St} {F : Hp} {O O' : Own} {H : Hp} {Q : VK} {x y v : V}
theorem g_inFL {a : Addr} {xs : List V} (h : H a = some (.lst xs)) (hx : flatV x = true) (hf : xs.all flatV = true) (q : Q (.bl (inV x xs)) H) : rInA K x (.ref a) H Q := .inl (.inl ⟨a, xs, rfl, .inl (SqL.of h), hx, hf, q⟩)
theorem g_notinFL {a : Addr} {xs : List V} (h : H a = some (.lst xs)) (hx : flatV x = true) (hf : xs.all flatV = true) (q : Q (.bl (!inV x xs)) H) : rNotInA K x (.ref a) H Q := .inl (.inl ⟨a, xs, rfl, .inl (SqL.of h), hx, hf, q⟩)
theorem g_inI {a : Addr} {kvs : List (Key × V)} {i : Int} (h : H a = some (.dK kvs)) (q : Q (.bl (valV kvs (.inl i)).isSome) H) : rInA K (.int i) (.ref a) H Q := .inl (.inr ⟨a, _, rfl, DGet.k (k := .inl i) h, q⟩)
theorem g_notinI {a : Addr} {kvs : List (Key × V)} {i : Int} (h : H a = some (.dK kvs)) (q : Q (.bl (!(valV kvs (.inl i)).isSome)) H) : rNotInA K (.int i) (.ref a) H Q := .inl (.inr ⟨a, _, rfl, DGet.k (k := .inl i) h, q⟩)
theorem g_inS {a : Addr} {kvs : List (Key × V)} {i : Str} (h : H a = some (.dK kvs)) (q : Q (.bl (valV kvs (.inr i)).isSome) H) : rInA K (.str i) (.ref a) H Q := .inl (.inr ⟨a, _, rfl, DGet.k (k := .inr i) h, q⟩)
theorem g_notinS {a : Addr} {kvs : List (Key × V)} {i : Str} (h : H a = some (.dK kvs)) (q : Q (.bl (!(valV kvs (.inr i)).isSome)) H) : rNotInA K (.str i) (.ref a) H Q := .inl (.inr ⟨a, _, rfl, DGet.k (k := .inr i) h, q⟩)
theorem g_stL {R : L2.St → Hp → Prop} {a : Addr} {xs : List V} {k : Int} {j : Nat} (hH : Has F O H) (c : Chg O a (.lst xs) (.lst (xs.set j v)) O') (hj : ixN xs.length k = some j) (q : ∀ H', Has F O' H' → R σ H') : kSet rSetA R σ (.ref a) (.int k) v H :=
  .inl ⟨a, xs, k, j, rfl, rfl, hH.get c.mem, hj, q _ (hH.put c)⟩
theorem g_stD {R : L2.St → Hp → Prop} {a : Addr} {kvs : List (Key × V)} {k : Key} {z : V} (ez : z = kV k) (hH : Has F O H) (c : Chg O a (.dK kvs) (.dK (putK kvs k v)) O') (hl : kvs.length < sizeLine) (q : ∀ H', Has F O' H' → R σ H') : kSet rSetA R σ (.ref a) z v H := by
  subst ez
  exact .inr ⟨a, _, rfl, DPut.k (hH.get c.mem) hl, q _ (hH.put c)⟩
end

/-! ### an argument that is changed -/
def rm (H : Hp) (a : Addr) : Hp := fun b => if b = a then none else H b
/-- all but a stands as it stood -/
def But (a : Addr) (H H' : Hp) : Prop := ∀ b u, b ≠ a → H b = some u → H' b = some u
theorem rm_at {H : Hp} {a : Addr} : rm H a a = none := if_pos rfl
theorem rm_ne {H : Hp} {a b : Addr} (h : b ≠ a) : rm H a b = H b := if_neg h
theorem Has.arg {H : Hp} {a : Addr} {o : HO} (h : H a = some o) : Has (rm H a) [(a, o)] H := by
  refine ⟨fun b u q => ?_, fun p hp => ?_, by simp⟩
  · by_cases e : b = a
    · subst e; rw [rm_at] at q; cases q
    · rw [rm_ne e] at q; exact q
  · have e : p = (a, o) := by simpa using hp
    subst e
    exact ⟨rm_at, h⟩
theorem But.of {H H' : Hp} {a : Addr} (h : Same (rm H a) H') : But a H H' := fun b u ne q => h b u (by rw [rm_ne ne]; exact q)
theorem But.trans {a : Addr} {H H1 H2 : Hp} (x : But a H H1) (y : But a H1 H2) : But a H H2 := fun b u ne q => y b u ne (x b u ne q)
theorem But.same {a : Addr} {H H1 H2 : Hp} (x : But a H H1) (y : Same H1 H2) : But a H H2 := fun b u ne q => y b u (x b u ne q)
section
variable {K : PySem.W.Frag} {σ : L2.St} {F : Hp} {O O' : Own} {H : Hp} {Q : VK} {x y v : V}
/-- a test by a fact about its answer -/
theorem g_fact {t : TT} {R : Bool → Hp → Prop} (C : Bool → Prop) (h : ∀ R : Bool → Hp → Prop, (∀ b, C b → R b H) → t σ H R) (q : ∀ b, C b → R b H) : t σ H R := h R q
theorem g_ixV {a : Addr} {xs : List V} {i : Int} (h : H a = some (.lst xs)) (h0 : 0 ≤ i) (hl : i < xs.length) (q : ∀ v, xs[i.toNat]? = some v → Q v H) : rIxA K (.ref a) (.int i) H Q := by
  have e : i.toNat < xs.length := by omega
  exact g_ixL h (at_n h0 (List.getElem?_eq_getElem e)) (q _ (List.getElem?_eq_getElem e))
theorem g_ixI {a : Addr} {xs : List Int} {i : Int} (h : H a = some (.lst (xs.map V.int))) (h0 : 0 ≤ i) (hl : i < xs.length) (q : ∀ z, xs[i.toNat]? = some z → Q (.int z) H) : rIxA K (.ref a) (.int i) H Q := by
  have e : i.toNat < xs.length := by omega
  refine g_ixL h (at_n h0 (v := .int xs[i.toNat]) ?_) (q _ (List.getElem?_eq_getElem e))
  rw [List.getElem?_map, List.getElem?_eq_getElem e]
  rfl
theorem g_ixZ {a : Addr} {xs : List Str} {i : Int} (h : H a = some (.lst (xs.map V.str))) (h0 : 0 ≤ i) (hl : i < xs.length) (q : ∀ z, xs[i.toNat]? = some z → Q (.str z) H) : rIxA K (.ref a) (.int i) H Q := by
  have e : i.toNat < xs.length := by omega
  refine g_ixL h (at_n h0 (v := .str xs[i.toNat]) ?_) (q _ (List.getElem?_eq_getElem e))
  rw [List.getElem?_map, List.getElem?_eq_getElem e]
  rfl
theorem g_stI {R : L2.St → Hp → Prop} {a : Addr} {xs : List Int} {k z : Int} (hH : Has F O H) (c : Chg O a (.lst (xs.map V.int)) (.lst ((xs.set k.toNat z).map V.int)) O') (h0 : 0 ≤ k) (hl : k < xs.length) (q : ∀ H', Has F O' H' → R σ H') : kSet rSetA R σ (.ref a) (.int k) (.int z) H := by
  refine g_stL (xs := xs.map V.int) (j := k.toNat) hH ?_ (ixN_nat h0 (by rw [List.length_map]; exact hl)) q
  rw [← List.map_set]
  exact c
theorem g_popAtI {a : Addr} {xs : List Int} {i : Int} (hH : Has F O H) (c : Chg O a (.lst (xs.map V.int)) (.lst ((xs.eraseIdx i.toNat).map V.int)) O') (h0 : 0 ≤ i) (hl : i < xs.length) (h2 : xs.length ≤ 1000) (q : ∀ H' z, Has F O' H' → Q (.int z) H') : rPopAt (.ref a) [.int i] H Q := by
  have e : i.toNat < xs.length := by omega
  refine g_popAt (xs := xs.map V.int) (k := i.toNat) (y := .int xs[i.toNat]) hH ?_ (by omega) (by omega) ?_ ?_ (fun H' h => q H' _ h)
  · have : (xs.map V.int).eraseIdx i.toNat = (xs.eraseIdx i.toNat).map V.int := by
      rw [List.eraseIdx_eq_take_drop_succ, List.eraseIdx_eq_take_drop_succ, List.map_append, List.map_take, List.map_drop]
    rw [this]
    exact c
  · have := (ixN_seq (n := (xs.map V.int).length) (i := i) (j := i.toNat) (ixN_nat h0 (by rw [List.length_map]; exact hl))).1
    exact this
  · rw [List.getElem?_map, List.getElem?_eq_getElem e]
    rfl
end
theorem sz {n : Nat} (h : n ≤ 100000) : n ≤ sizeLine := by rw [sizeLine_eq]; omega
theorem szl {n : Nat} (h : n < 100000) : n < sizeLine := by rw [sizeLine_eq]; omega

section
variable {K : PySem.W.Frag} {σ : L2.St} {F : Hp} {O O' : Own} {H : Hp} {Q : VK} {x y v : V} {te ta : TE}
theorem g_yes {R : Bool → Hp → Prop} (q : R true H) : tYes σ H R := q
theorem g_wipe {σ1 σ2 : L2.St} {B : Prop} (e : σ1 = σ2) (q : B) : σ1 = σ2 ∧ B := ⟨e, q⟩
def kOI (x : V) (H : Hp) (R : Option Int → Hp → Prop) : Prop := ∃ i, x = .int i ∧ R (some i) H
theorem g_part {R : Option Int → Hp → Prop} (q : te σ H fun x H1 => kOI x H1 R) : tPart te σ H R := q
theorem g_kOI {R : Option Int → Hp → Prop} {i : Int} (q : R (some i) H) : kOI (.int i) H R := ⟨i, rfl, q⟩
theorem g_nopart {R : Option Int → Hp → Prop} (q : R none H) : tNoPart σ H R := q
theorem g_slice {r : V → Option Int → Option Int → Hp → VK → Prop} {tl th : TO} (q : te σ H fun x H1 => tl σ H1 fun l H2 => th σ H2 fun u H3 => r x l u H3 Q) : tSl r te tl th σ H Q := q
def rSlB (K : PySem.W.Frag) : V → Option Int → Option Int → Hp → VK → Prop := fun x lo hi H Q => rSlL K x lo hi H Q ∨ rSlA K x lo hi H Q
theorem g_slS {a : Addr} {xs : List V} {lo hi : Option Int} (h : SqL K H a xs) (hH : Has F O H) (q : ∀ p H', H p = none → Has F ((p, .lst (cutV xs lo hi)) :: O) H' → Q (.ref p) H') : rSlB K (.ref a) lo hi H Q := .inl ⟨a, xs, rfl, h, fun p n => q p _ n (hH.new n)⟩
theorem g_slTF {a : Addr} {xs : List V} {lo hi : Option Int} (h : F a = some (.tup xs)) (hH : Has F O H) (q : ∀ p H' F', Same F F' → F' p = some (.tup (cutV xs lo hi)) → Has F' O H' → Q (.ref p) H') : rSlB K (.ref a) lo hi H Q :=
  .inr ⟨a, xs, rfl, SqT.of (hH.same _ _ h), fun w => q a H F (Same.refl _) (by
    have e : cutV xs lo hi = xs := by
      unfold cutV
      rw [w.1, w.2, List.drop_zero, Nat.sub_zero, List.take_length]
    rw [e]; exact h) hH, fun _ p n => q p _ (upd F p (.tup (cutV xs lo hi))) (same_upd (hH.same.free n)) upd_same (hH.new n).frz⟩
theorem g_addTF {a b : Addr} {xs ys : List V} (h1 : F a = some (.tup xs)) (h2 : F b = some (.tup ys)) (hl : xs.length + ys.length ≤ sizeLine) (hH : Has F O H) (q : ∀ p H' F', Same F F' → F' p = some (.tup (xs ++ ys)) → Has F' O H' → Q (.ref p) H') : rAdd K (.ref a) (.ref b) H Q :=
  .inr (.inr ⟨a, b, xs, ys, rfl, rfl, SqT.of (hH.same _ _ h1), SqT.of (hH.same _ _ h2), hl, fun e => q b H F (Same.refl _) (by rw [e]; exact h2) hH, fun _ e => q a H F (Same.refl _) (by rw [e, List.append_nil]; exact h1) hH,
    fun _ _ p n => q p _ (upd F p (.tup (xs ++ ys))) (same_upd (hH.same.free n)) upd_same (hH.new n).frz⟩)
theorem g_slL {a : Addr} {xs : List V} {lo hi : Option Int} (h : H a = some (.lst xs)) (hH : Has F O H) (q : ∀ p H', H p = none → Has F ((p, .lst (cutV xs lo hi)) :: O) H' → Q (.ref p) H') : rSlB K (.ref a) lo hi H Q := g_slS (SqL.of h) hH q
theorem cutV_ints (ns : List Int) (lo hi : Option Int) : ∃ ms : List Int, cutV (ns.map V.int) lo hi = ms.map V.int ∧ ms.length ≤ ns.length := by
  refine ⟨(ns.drop (HT.sIx ns.length 0 lo)).take (HT.sIx ns.length ns.length hi - HT.sIx ns.length 0 lo), ?_, ?_⟩
  · unfold cutV
    rw [List.length_map, List.map_take, List.map_drop]
  · rw [List.length_take, List.length_drop]
    omega
theorem g_revL {a : Addr} {xs : List V} (h : H a = some (.lst xs)) (hH : Has F O H) (q : ∀ p H', H p = none → Has F ((p, .lst xs.reverse) :: O) H' → Q (.ref p) H') : (∃ b ys, V.ref a = .ref b ∧ SqL K H b ys ∧ ∀ p, H p = none → Q (.ref p) (upd H p (.lst ys.reverse))) :=
  ⟨a, xs, rfl, SqL.of h, fun p n => q p _ n (hH.new n)⟩
theorem g_tRev (q : te σ H fun x H1 => rRevL K x H1 Q) : tRevL K te σ H Q := q
theorem g_rRev {a : Addr} {xs : List V} (h : H a = some (.lst xs)) (hH : Has F O H) (q : ∀ p H', H p = none → Has F ((p, .lst xs.reverse) :: O) H' → Q (.ref p) H') : rRevL K (.ref a) H Q := ⟨a, xs, rfl, SqL.of h, fun p n => q p _ n (hH.new n)⟩
/-- an item of a list of texts that are in order, of ints from 0 to n -/
def okS : V → Bool
  | .str z => PyData.strOk z
  | _ => false
def okI (n : Int) : V → Bool
  | .int z => decide (0 ≤ z ∧ z ≤ n)
  | _ => false
theorem g_ixM {a : Addr} {xs : List V} {i : Int} (h : H a = some (.lst xs)) (ok : xs.all okS = true) (h0 : 0 ≤ i) (hl : i < xs.length) (q : ∀ z, PyData.strOk z = true → Q (.str z) H) : rIxA K (.ref a) (.int i) H Q := by
  refine g_ixV h h0 hl fun v hv => ?_
  have m := List.all_eq_true.mp ok v (List.mem_of_getElem? hv)
  cases v with
  | str z => exact q z m
  | _ => cases m
theorem g_ixN {n : Int} {a : Addr} {xs : List V} {i : Int} (h : H a = some (.lst xs)) (ok : xs.all (okI n) = true) (h0 : 0 ≤ i) (hl : i < xs.length) (q : ∀ z, 0 ≤ z → z ≤ n → Q (.int z) H) : rIxA K (.ref a) (.int i) H Q := by
  refine g_ixV h h0 hl fun v hv => ?_
  have m := List.all_eq_true.mp ok v (List.mem_of_getElem? hv)
  cases v with
  | int z =>
    have := of_decide_eq_true (show decide (0 ≤ z ∧ z ≤ n) = true from m)
    exact q z this.1 this.2
  | _ => cases m
end

/-! ### tables of ints: a list of rows -/
def rowO (r : Addr × List Int) : Addr × HO := (r.1, .lst (r.2.map V.int))
def tabO (t : Addr) (rows : List (Addr × List Int)) : Own := (t, .lst (rows.map fun r => V.ref r.1)) :: rows.map rowO
theorem Chg.row {r : Addr × List Int} {zs : List Int} {O : Own} : ∀ {rows : List (Addr × List Int)} {k : Nat}, rows[k]? = some r → Chg (rows.map rowO ++ O) r.1 (.lst (r.2.map V.int)) (.lst (zs.map V.int)) ((rows.set k (r.1, zs)).map rowO ++ O)
  | [], k, h => by simp at h
  | x :: rows, 0, h => by
    have e : x = r := Option.some.inj h
    subst e
    exact .hd
  | x :: rows, k + 1, h => .tl (Chg.row (rows := rows) (k := k) h)
theorem rows_ref {r : Addr × List Int} {zs : List Int} : ∀ {rows : List (Addr × List Int)} {k : Nat}, rows[k]? = some r → (rows.set k (r.1, zs)).map (fun r => V.ref r.1) = rows.map fun r => V.ref r.1
  | [], k, h => by simp at h
  | x :: rows, 0, h => by
    have e : x = r := Option.some.inj h
    subst e
    rfl
  | x :: rows, k + 1, h => by
    have := rows_ref (rows := rows) (k := k) (zs := zs) h
    show V.ref x.1 :: (rows.set k (r.1, zs)).map (fun r => V.ref r.1) = _
    rw [this]
    rfl
section
variable {K : PySem.W.Frag} {σ : L2.St} {F : Hp} {O O' : Own} {H : Hp} {Q : VK} {t : Addr} {rows : List (Addr × List Int)}
theorem Has.row {r : Addr × List Int} {k : Nat} (hH : Has F (tabO t rows ++ O) H) (hr : rows[k]? = some r) : H r.1 = some (.lst (r.2.map V.int)) :=
  hH.get (List.mem_append_left _ (List.mem_cons_of_mem _ (List.mem_map.mpr ⟨r, List.mem_of_getElem? hr, rfl⟩)))
theorem Has.tab (hH : Has F (tabO t rows ++ O) H) : H t = some (.lst (rows.map fun r => V.ref r.1)) := hH.get (List.mem_append_left _ List.mem_cons_self)
theorem g_ixRow {i : Int} (hH : Has F (tabO t rows ++ O) H) (h0 : 0 ≤ i) (hl : i < rows.length) (q : ∀ r, rows[i.toNat]? = some r → H r.1 = some (.lst (r.2.map V.int)) → Q (.ref r.1) H) : rIxA K (.ref t) (.int i) H Q := by
  have e : i.toNat < rows.length := by omega
  have hr := List.getElem?_eq_getElem e
  refine g_ixL hH.tab (at_n h0 (v := .ref rows[i.toNat].1) ?_) (q _ hr (hH.row hr))
  rw [List.getElem?_map, hr]
  rfl
theorem g_setRow {R : L2.St → Hp → Prop} {r : Addr × List Int} {k : Nat} {j z : Int} (hH : Has F (tabO t rows ++ O) H) (hr : rows[k]? = some r) (h0 : 0 ≤ j) (hl : j < r.2.length) (q : ∀ H', Has F (tabO t (rows.set k (r.1, r.2.set j.toNat z)) ++ O) H' → R σ H') :
    kSet rSetA R σ (.ref r.1) (.int j) (.int z) H := by
  refine g_stI hH (xs := r.2) ?_ h0 hl q
  have c := Chg.row (O := O) (zs := r.2.set j.toNat z) hr
  unfold tabO
  rw [List.cons_append, List.cons_append, rows_ref hr]
  exact .tl c
end

/-! ### the rules with the written part by its name -/
section
variable {X : Cx}
theorem op_addK (K : PySem.W.Frag) (e : X.K = K := by rfl) : OpR X (binaryOp .Add) (rAdd K) := by subst e; exact op_addA
theorem op_eqK (K : PySem.W.Frag) (hu : X.A.units + 64 < cLine) (e : X.K = K := by rfl) : OpR X (compareOp .Eq) (rEqA K) := by subst e; exact op_eqA hu
theorem op_neK (K : PySem.W.Frag) (hu : X.A.units + 64 < cLine) (e : X.K = K := by rfl) : OpR X (compareOp .NotEq) (rNeA K) := by subst e; exact op_neA hu
theorem op_inK (K : PySem.W.Frag) (hu : X.A.units + 64 < cLine) (hu' : X.A.units + 65 < cLine) (e : X.K = K := by rfl) : OpR X (compareOp .In) (rInA K) := by subst e; exact op_inA hu hu'
theorem op_notinK (K : PySem.W.Frag) (hu : X.A.units + 64 < cLine) (hu' : X.A.units + 65 < cLine) (e : X.K = K := by rfl) : OpR X (compareOp .NotIn) (rNotInA K) := by subst e; exact op_notinA hu hu'
theorem ix_dict (hu : X.A.units + 1 < cLine) : IxR X rIxD := by
  intro value slice pins s σ H x y v u Q I rx ry h hs
  obtain ⟨a, z, rfl, g, q⟩ := h
  cases rx
  have hT := dict_typeIs I g
  have fin : wpAny (model X.prog X.w) X.A (subscripted slice false (.ref a) u) (fun r s₃ => wpAny (model X.prog X.w) X.A (letTemporaryGo value (.ref a) r >>= fun _ => pure r) (EP X pins σ Q) X.xe s₃) X.xe s := by
    rw [hs]
    exact wpAny_operating (wpAny_mono (d_getItem hu I g ry (Q := fun r s' => EP X pins σ Q r s') fun w' s3 I3 rw' => ⟨z, H, I3, rw', q⟩) (fun r s₃ h₃ => wpAny_bind (wpAny_letTemporaryGo (wpAny_pure h₃))) fun _ _ x => x)
  unfold subscriptTail
  refine wpAny_bind ?_
  rw [getitemInPython_of_ne hT.not_modules]
  refine wpAny_bind (wpAny_specialOf hT PySem.F.slot_dict_getitem.lookup ?_)
  first
    | exact wpAny_pure (wpAny_bind fin)
    | exact wpAny_bind (wpAny_pure (wpAny_bind fin))
    | exact wpAny_bind fin
theorem ix_K (K : PySem.W.Frag) (hu : X.A.units + 1 < cLine) (e : X.K = K := by rfl) : IxR X (rIxA K) := by subst e; exact ix_seq.or (ix_dict hu)
theorem cr_lenK (K : PySem.W.Frag) (e : X.K = K := by rfl) : CallR X (.builtin "len") (rLen K) := by subst e; exact cr_len
theorem cr_listK (K : PySem.W.Frag) (e : X.K = K := by rfl) : CallR X (.type "list") (rListOf K) := by subst e; exact cr_listOf
theorem cr_tupleK (K : PySem.W.Frag) (e : X.K = K := by rfl) : CallR X (.type "tuple") (rTupleOf K) := by subst e; exact cr_tupleOf
theorem sl_all : SlR X (rSlB X.K) := by
  intro pins s σ H x v vl vu lo hi sl Q I rx hs pl pu h
  rcases h with h | h
  · exact sl_list pins s σ H x v vl vu lo hi sl Q I rx hs pl pu h
  · exact sl_tupA pins s σ H x v vl vu lo hi sl Q I rx hs pl pu h
theorem sl_K (K : PySem.W.Frag) (e : X.K = K := by rfl) : SlR X (rSlB K) := by subst e; exact sl_all
theorem k_bm {ex : Expr} {T : String} {r : V → List V → Hp → VK → Prop} {to : TE} {t : TA} (K : PySem.W.Frag) (h : PE X ex (tBM X.K T r to t)) (e : X.K = K := by rfl) : PE X ex (tBM K T r to t) := by subst e; exact h
theorem k_bm0 {ex : Expr} {T : String} {r : V → List V → Hp → VK → Prop} {to : TE} (K : PySem.W.Frag) (h : PE X ex (tBM0 X.K T r to)) (e : X.K = K := by rfl) : PE X ex (tBM0 K T r to) := by subst e; exact h
theorem k_rev {ex : Expr} {to : TE} (K : PySem.W.Frag) (h : PE X ex (tRevL X.K to)) (e : X.K = K := by rfl) : PE X ex (tRevL K to) := by subst e; exact h
theorem k_il {tg l : Expr} {tl : TE} (K : PySem.W.Frag) (h : PI X tg l (iList X.K tl)) (e : X.K = K := by rfl) : PI X tg l (iList K tl) := by subst e; exact h
theorem k_gt {tg : Expr} {n : Nat} {t : TGs} (K : PySem.W.Frag) (h : PG X tg (gTup X.K n t)) (e : X.K = K := by rfl) : PG X tg (gTup K n t) := by subst e; exact h
end
theorem g_start {t : TS} {D : Ends} {σ σ' : L2.St} {H : Hp} (e : σ = σ') (h : t D σ' H) : t D σ H := by subst e; exact h

theorem Has.argFree {H H' : Hp} {a D : Addr} {o : HO} {O : Own} (h : Has (rm H a) ((D, o) :: O) H') (m : a ∈ O.map (·.1)) : H D = none := by
  have nd : D ∉ O.map (·.1) ∧ (O.map (·.1)).Nodup := List.nodup_cons.mp (by have := h.nd; rw [List.map_cons] at this; exact this)
  have e := h.free
  rw [rm_ne (fun z => nd.1 (by rw [z]; exact m))] at e
  exact e

theorem Has.but2 {F H H' : Hp} {O O' : Own} {a p : Addr} {o o' op : HO} (h : Has F O H) (c : Chg O a o o' O') (hb : But a H H') (e : H' a = some o') (n : H p = none) (ep : H' p = some op) : Has F ((p, op) :: O') H' := by
  have h' := h.but c hb e
  refine ⟨h'.same, fun q hq => ?_, ?_⟩
  · rcases List.mem_cons.mp hq with rfl | hq
    · exact ⟨h.same.free n, ep⟩
    · exact h'.own q hq
  · rw [List.map_cons]
    refine List.nodup_cons.mpr ⟨fun m => ?_, h'.nd⟩
    rw [c.fst] at m
    obtain ⟨q, hq, e'⟩ := List.mem_map.mp m
    have z := (h.own q hq).2
    rw [e', n] at z
    cases z

theorem Has.mono {F F' H : Hp} {O : Own} (h : Has F O H) (s : Same F' F) : Has F' O H := ⟨s.trans h.same, fun q hq => ⟨s.free (h.own q hq).1, (h.own q hq).2⟩, h.nd⟩
theorem same_rm {F H : Hp} {a : Addr} (s : Same F H) (n : F a = none) : Same F (rm H a) := fun b u q => by
  rw [rm_ne (ne_of_none q n)]
  exact s b u q
theorem take_foldl {α β : Type} {f : β → α → β} {z : β} {l : List α} {i : Nat} {x : α} (h : l[i]? = some x) : (l.take (i + 1)).foldl f z = f ((l.take i).foldl f z) x := by
  rw [List.take_add_one, h, List.foldl_append]
  rfl

/-! ### isinstance -/
def rIsA (K : PySem.W.Frag) : List V → Hp → VK → Prop := fun xs H Q => rIsi K xs H Q ∨ rIsiT K xs H Q
theorem cr_isK {X : Cx} (K : PySem.W.Frag) (e : X.K = K := by rfl) : CallR X (.builtin "isinstance") (rIsA K) := by
  subst e
  intro pins s σ H xs us Q I r h
  rcases h with h | h
  · exact call_isi pins s σ H xs us Q I r h
  · exact call_isiT pins s σ H xs us Q I r h
theorem g_is {K : PySem.W.Frag} {H : Hp} {Q : VK} {x : V} {t n : String} {b : Bool} (ty : TyX K H x (.type t)) (e : kitB t n = some b) (q : Q (.bl b) H) : rIsA K [x, .ty n] H Q := .inl ⟨x, .ty n, _, _, b, rfl, .ty n, ty, kit_ty e, q⟩
theorem g_is2 {K : PySem.W.Frag} {H : Hp} {Q : VK} {x : V} {t n m : String} {a b : Bool} {tp : Addr} (h : H tp = some (.tup [.ty n, .ty m])) (ty : TyX K H x (.type t)) (ea : kitB t n = some a) (eb : kitB t m = some b) (q : Q (.bl (a || b)) H) : rIsA K [x, .ref tp] H Q := by
  refine .inr ⟨x, tp, _, _, _, a || b, rfl, h, .cons (.ty n) (.cons (.ty m) .nil), ty, ?_, q⟩
  refine kitAny_cons (kit_ty ea) (fun z => ?_) (fun z => by rw [z]; rfl)
  refine kitAny_cons (kit_ty eb) (fun y => ?_) (fun y => by rw [z, y]; rfl)
  rw [z, y]
  exact kitAny_nil
theorem kit_list_list : kitB "list" "list" = some true := by decide +kernel
theorem kit_list_tuple : kitB "list" "tuple" = some false := by decide +kernel
theorem kit_list_dict : kitB "list" "dict" = some false := by decide +kernel
theorem kit_list_int : kitB "list" "int" = some false := by decide +kernel
theorem kit_list_bool : kitB "list" "bool" = some false := by decide +kernel
theorem kit_list_str : kitB "list" "str" = some false := by decide +kernel
theorem kit_tuple_list : kitB "tuple" "list" = some false := by decide +kernel
theorem kit_tuple_tuple : kitB "tuple" "tuple" = some true := by decide +kernel
theorem kit_tuple_dict : kitB "tuple" "dict" = some false := by decide +kernel
theorem kit_tuple_int : kitB "tuple" "int" = some false := by decide +kernel
theorem kit_tuple_bool : kitB "tuple" "bool" = some false := by decide +kernel
theorem kit_tuple_str : kitB "tuple" "str" = some false := by decide +kernel
theorem kit_dict_list : kitB "dict" "list" = some false := by decide +kernel
theorem kit_dict_tuple : kitB "dict" "tuple" = some false := by decide +kernel
theorem kit_dict_dict : kitB "dict" "dict" = some true := by decide +kernel
theorem kit_dict_int : kitB "dict" "int" = some false := by decide +kernel
theorem kit_dict_bool : kitB "dict" "bool" = some false := by decide +kernel
theorem kit_dict_str : kitB "dict" "str" = some false := by decide +kernel
theorem kit_int_list : kitB "int" "list" = some false := by decide +kernel
theorem kit_int_tuple : kitB "int" "tuple" = some false := by decide +kernel
theorem kit_int_dict : kitB "int" "dict" = some false := by decide +kernel
theorem kit_int_int : kitB "int" "int" = some true := by decide +kernel
theorem kit_int_bool : kitB "int" "bool" = some false := by decide +kernel
theorem kit_int_str : kitB "int" "str" = some false := by decide +kernel
theorem kit_bool_list : kitB "bool" "list" = some false := by decide +kernel
theorem kit_bool_tuple : kitB "bool" "tuple" = some false := by decide +kernel
theorem kit_bool_dict : kitB "bool" "dict" = some false := by decide +kernel
theorem kit_bool_int : kitB "bool" "int" = some true := by decide +kernel
theorem kit_bool_bool : kitB "bool" "bool" = some true := by decide +kernel
theorem kit_bool_str : kitB "bool" "str" = some false := by decide +kernel
theorem kit_str_list : kitB "str" "list" = some false := by decide +kernel
theorem kit_str_tuple : kitB "str" "tuple" = some false := by decide +kernel
theorem kit_str_dict : kitB "str" "dict" = some false := by decide +kernel
theorem kit_str_int : kitB "str" "int" = some false := by decide +kernel
theorem kit_str_bool : kitB "str" "bool" = some false := by decide +kernel
theorem kit_str_str : kitB "str" "str" = some true := by decide +kernel
section
variable {K : PySem.W.Frag} {H : Hp} {Q : VK}
theorem is_list_list {a : Addr} {xs : List V} (h : H a = some (.lst xs)) (q : Q (.bl true) H) : rIsA K [.ref a, .ty "list"] H Q := g_is (.base (.lst h)) kit_list_list q
theorem is_list_tuple {a : Addr} {xs : List V} (h : H a = some (.lst xs)) (q : Q (.bl false) H) : rIsA K [.ref a, .ty "tuple"] H Q := g_is (.base (.lst h)) kit_list_tuple q
theorem is_list_dict {a : Addr} {xs : List V} (h : H a = some (.lst xs)) (q : Q (.bl false) H) : rIsA K [.ref a, .ty "dict"] H Q := g_is (.base (.lst h)) kit_list_dict q
theorem is_list_int {a : Addr} {xs : List V} (h : H a = some (.lst xs)) (q : Q (.bl false) H) : rIsA K [.ref a, .ty "int"] H Q := g_is (.base (.lst h)) kit_list_int q
theorem is_list_bool {a : Addr} {xs : List V} (h : H a = some (.lst xs)) (q : Q (.bl false) H) : rIsA K [.ref a, .ty "bool"] H Q := g_is (.base (.lst h)) kit_list_bool q
theorem is_list_str {a : Addr} {xs : List V} (h : H a = some (.lst xs)) (q : Q (.bl false) H) : rIsA K [.ref a, .ty "str"] H Q := g_is (.base (.lst h)) kit_list_str q
theorem is2_list {a : Addr} {xs : List V} (h : H a = some (.lst xs)) {tp : Addr} (hp : H tp = some (.tup [.ty "list", .ty "tuple"])) (q : Q (.bl true) H) : rIsA K [.ref a, .ref tp] H Q := g_is2 hp (.base (.lst h)) kit_list_list kit_list_tuple q
theorem is_tuple_list {a : Addr} {xs : List V} (h : H a = some (.tup xs)) (q : Q (.bl false) H) : rIsA K [.ref a, .ty "list"] H Q := g_is (.base (.tup h)) kit_tuple_list q
theorem is_tuple_tuple {a : Addr} {xs : List V} (h : H a = some (.tup xs)) (q : Q (.bl true) H) : rIsA K [.ref a, .ty "tuple"] H Q := g_is (.base (.tup h)) kit_tuple_tuple q
theorem is_tuple_dict {a : Addr} {xs : List V} (h : H a = some (.tup xs)) (q : Q (.bl false) H) : rIsA K [.ref a, .ty "dict"] H Q := g_is (.base (.tup h)) kit_tuple_dict q
theorem is_tuple_int {a : Addr} {xs : List V} (h : H a = some (.tup xs)) (q : Q (.bl false) H) : rIsA K [.ref a, .ty "int"] H Q := g_is (.base (.tup h)) kit_tuple_int q
theorem is_tuple_bool {a : Addr} {xs : List V} (h : H a = some (.tup xs)) (q : Q (.bl false) H) : rIsA K [.ref a, .ty "bool"] H Q := g_is (.base (.tup h)) kit_tuple_bool q
theorem is_tuple_str {a : Addr} {xs : List V} (h : H a = some (.tup xs)) (q : Q (.bl false) H) : rIsA K [.ref a, .ty "str"] H Q := g_is (.base (.tup h)) kit_tuple_str q
theorem is2_tuple {a : Addr} {xs : List V} (h : H a = some (.tup xs)) {tp : Addr} (hp : H tp = some (.tup [.ty "list", .ty "tuple"])) (q : Q (.bl true) H) : rIsA K [.ref a, .ref tp] H Q := g_is2 hp (.base (.tup h)) kit_tuple_list kit_tuple_tuple q
theorem is_dict_list {a : Addr} {kvs : List (Key × V)} (h : H a = some (.dK kvs)) (q : Q (.bl false) H) : rIsA K [.ref a, .ty "list"] H Q := g_is (.base (.dK h)) kit_dict_list q
theorem is_dict_tuple {a : Addr} {kvs : List (Key × V)} (h : H a = some (.dK kvs)) (q : Q (.bl false) H) : rIsA K [.ref a, .ty "tuple"] H Q := g_is (.base (.dK h)) kit_dict_tuple q
theorem is_dict_dict {a : Addr} {kvs : List (Key × V)} (h : H a = some (.dK kvs)) (q : Q (.bl true) H) : rIsA K [.ref a, .ty "dict"] H Q := g_is (.base (.dK h)) kit_dict_dict q
theorem is_dict_int {a : Addr} {kvs : List (Key × V)} (h : H a = some (.dK kvs)) (q : Q (.bl false) H) : rIsA K [.ref a, .ty "int"] H Q := g_is (.base (.dK h)) kit_dict_int q
theorem is_dict_bool {a : Addr} {kvs : List (Key × V)} (h : H a = some (.dK kvs)) (q : Q (.bl false) H) : rIsA K [.ref a, .ty "bool"] H Q := g_is (.base (.dK h)) kit_dict_bool q
theorem is_dict_str {a : Addr} {kvs : List (Key × V)} (h : H a = some (.dK kvs)) (q : Q (.bl false) H) : rIsA K [.ref a, .ty "str"] H Q := g_is (.base (.dK h)) kit_dict_str q
theorem is2_dict {a : Addr} {kvs : List (Key × V)} (h : H a = some (.dK kvs)) {tp : Addr} (hp : H tp = some (.tup [.ty "list", .ty "tuple"])) (q : Q (.bl false) H) : rIsA K [.ref a, .ref tp] H Q := g_is2 hp (.base (.dK h)) kit_dict_list kit_dict_tuple q
theorem is_int_list {i : Int} (q : Q (.bl false) H) : rIsA K [.int i, .ty "list"] H Q := g_is (.base (.int i)) kit_int_list q
theorem is_int_tuple {i : Int} (q : Q (.bl false) H) : rIsA K [.int i, .ty "tuple"] H Q := g_is (.base (.int i)) kit_int_tuple q
theorem is_int_dict {i : Int} (q : Q (.bl false) H) : rIsA K [.int i, .ty "dict"] H Q := g_is (.base (.int i)) kit_int_dict q
theorem is_int_int {i : Int} (q : Q (.bl true) H) : rIsA K [.int i, .ty "int"] H Q := g_is (.base (.int i)) kit_int_int q
theorem is_int_bool {i : Int} (q : Q (.bl false) H) : rIsA K [.int i, .ty "bool"] H Q := g_is (.base (.int i)) kit_int_bool q
theorem is_int_str {i : Int} (q : Q (.bl false) H) : rIsA K [.int i, .ty "str"] H Q := g_is (.base (.int i)) kit_int_str q
theorem is2_int {i : Int} {tp : Addr} (hp : H tp = some (.tup [.ty "list", .ty "tuple"])) (q : Q (.bl false) H) : rIsA K [.int i, .ref tp] H Q := g_is2 hp (.base (.int i)) kit_int_list kit_int_tuple q
theorem is_bool_list {b : Bool} (q : Q (.bl false) H) : rIsA K [.bl b, .ty "list"] H Q := g_is (.base (.bl b)) kit_bool_list q
theorem is_bool_tuple {b : Bool} (q : Q (.bl false) H) : rIsA K [.bl b, .ty "tuple"] H Q := g_is (.base (.bl b)) kit_bool_tuple q
theorem is_bool_dict {b : Bool} (q : Q (.bl false) H) : rIsA K [.bl b, .ty "dict"] H Q := g_is (.base (.bl b)) kit_bool_dict q
theorem is_bool_int {b : Bool} (q : Q (.bl true) H) : rIsA K [.bl b, .ty "int"] H Q := g_is (.base (.bl b)) kit_bool_int q
theorem is_bool_bool {b : Bool} (q : Q (.bl true) H) : rIsA K [.bl b, .ty "bool"] H Q := g_is (.base (.bl b)) kit_bool_bool q
theorem is_bool_str {b : Bool} (q : Q (.bl false) H) : rIsA K [.bl b, .ty "str"] H Q := g_is (.base (.bl b)) kit_bool_str q
theorem is2_bool {b : Bool} {tp : Addr} (hp : H tp = some (.tup [.ty "list", .ty "tuple"])) (q : Q (.bl false) H) : rIsA K [.bl b, .ref tp] H Q := g_is2 hp (.base (.bl b)) kit_bool_list kit_bool_tuple q
theorem is_str_list {z : Str} (q : Q (.bl false) H) : rIsA K [.str z, .ty "list"] H Q := g_is (.base (.str z)) kit_str_list q
theorem is_str_tuple {z : Str} (q : Q (.bl false) H) : rIsA K [.str z, .ty "tuple"] H Q := g_is (.base (.str z)) kit_str_tuple q
theorem is_str_dict {z : Str} (q : Q (.bl false) H) : rIsA K [.str z, .ty "dict"] H Q := g_is (.base (.str z)) kit_str_dict q
theorem is_str_int {z : Str} (q : Q (.bl false) H) : rIsA K [.str z, .ty "int"] H Q := g_is (.base (.str z)) kit_str_int q
theorem is_str_bool {z : Str} (q : Q (.bl false) H) : rIsA K [.str z, .ty "bool"] H Q := g_is (.base (.str z)) kit_str_bool q
theorem is_str_str {z : Str} (q : Q (.bl true) H) : rIsA K [.str z, .ty "str"] H Q := g_is (.base (.str z)) kit_str_str q
theorem is2_str {z : Str} {tp : Addr} (hp : H tp = some (.tup [.ty "list", .ty "tuple"])) (q : Q (.bl false) H) : rIsA K [.str z, .ref tp] H Q := g_is2 hp (.base (.str z)) kit_str_list kit_str_tuple q
end
section
variable {K : PySem.W.Frag} {σ : L2.St} {F : Hp} {O O' : Own} {H : Hp} {Q : VK} {x y v : V}
theorem g_neB {i j : Bool} (q : Q (.bl (!decide (i = j))) H) : rNeA K (.bl i) (.bl j) H Q := .inl ⟨rfl, by rw [dec_bl, Bool.beq_eq_decide_eq]; exact q⟩
theorem g_eqB {i j : Bool} (q : Q (.bl (decide (i = j))) H) : rEqA K (.bl i) (.bl j) H Q := .inl ⟨rfl, by rw [dec_bl, Bool.beq_eq_decide_eq]; exact q⟩
/-! ### insert, max, the last item -/
def rInsert : V → List V → Hp → VK → Prop := fun x vs H Q => ∃ (l : Addr) (xs : List V) (i : Int) (y : V), x = .ref l ∧ vs = [.int i, y] ∧ H l = some (.lst xs) ∧ xs.length < sizeLine ∧ 0 ≤ i ∧ i < 2 ^ 63 ∧ Q .non (upd H l (.lst (xs.take i.toNat ++ [y] ++ xs.drop i.toNat)))
theorem mt_insertA {X : Cx} : MtR X "list.insert" rInsert := mt_insert
theorem g_insert {a : Addr} {xs : List V} {i : Int} (hH : Has F O H) (c : Chg O a (.lst xs) (.lst (xs.take i.toNat ++ [y] ++ xs.drop i.toNat)) O') (hl : xs.length < sizeLine) (h0 : 0 ≤ i) (h1 : i < 2 ^ 63) (q : ∀ H', Has F O' H' → Q .non H') : rInsert (.ref a) [.int i, y] H Q :=
  ⟨a, xs, i, y, rfl, rfl, hH.get c.mem, hl, h0, h1, q _ (hH.put c)⟩
theorem cr_maxK {X : Cx} (K : PySem.W.Frag) (hc : X.calm = true) (e : X.K = K := by rfl) : CallR X (.builtin "max") (rMax K) := by subst e; exact cr_max hc
theorem g_max {a : Addr} {ns : List Int} (h : H a = some (.lst (ns.map V.int))) (hl : 0 < ns.length) (q : ∀ m, m ∈ ns → (∀ y, y ∈ ns → y ≤ m) → Q (.int m) H) : rMax K [.ref a] H Q := ⟨a, ns, rfl, SqL.of h, hl, q⟩
theorem g_ixLast {a : Addr} {xs : List V} {v : V} (h : H a = some (.lst xs)) (hl : xs.getLast? = some v) (q : Q v H) : rIxA K (.ref a) (.int (-1)) H Q := by
  obtain ⟨ys, rfl⟩ := List.getLast?_eq_some_iff.mp hl
  exact g_ixL h (atI_last ys v) q
end
theorem cutV_nat (xs : List V) (a b : Nat) : cutV xs (some (a : Int)) (some (b : Int)) = (xs.drop a).take (b - a) := by
  unfold cutV
  rw [HT.sIx_nat, HT.sIx_nat]
  by_cases h : a ≤ xs.length
  · rw [Nat.min_eq_left h]
    rcases Nat.le_total b xs.length with hb | hb
    · rw [Nat.min_eq_left hb]
    · rw [Nat.min_eq_right hb, List.take_of_length_le (by rw [List.length_drop]; omega), List.take_of_length_le (by rw [List.length_drop]; omega)]
  · rw [Nat.min_eq_right (show xs.length ≤ a by omega), List.drop_of_length_le (Nat.le_refl _), List.drop_of_length_le (show xs.length ≤ a by omega), List.take_nil, List.take_nil]
theorem cutV_from (xs : List V) (a : Nat) : cutV xs (some (a : Int)) none = xs.drop a := by
  unfold cutV
  rw [HT.sIx_nat, HT.sIx_none]
  by_cases h : a ≤ xs.length
  · rw [Nat.min_eq_left h, List.take_of_length_le (by rw [List.length_drop]; omega)]
  · rw [Nat.min_eq_right (show xs.length ≤ a by omega), List.drop_of_length_le (Nat.le_refl _), List.drop_of_length_le (show xs.length ≤ a by omega), List.take_nil]
theorem cutV_to (xs : List V) (b : Nat) : cutV xs none (some (b : Int)) = xs.take b := by
  unfold cutV
  rw [HT.sIx_none, HT.sIx_nat, List.drop_zero, Nat.sub_zero]
  rcases Nat.le_total b xs.length with hb | hb
  · rw [Nat.min_eq_left hb]
  · rw [Nat.min_eq_right hb, List.take_length, List.take_of_length_le hb]
/-! ### a def that adds to what stands still -/
def Grow (F H F' : Hp) : Prop := Same F F' ∧ ∀ b, H b ≠ none → F' b = F b
theorem Has.grown {F F' H H' : Hp} {O O' : Own} {a : Addr} {o o' : HO} (h : Has F O H) (c : Chg O a o o' O') (hb : But a H H') (g : Grow F H F') (s : Same F' H') (e : H' a = some o') : Has F' O' H' := by
  have h' := h.but c hb e
  refine ⟨s, fun q hq => ⟨?_, (h'.own q hq).2⟩, h'.nd⟩
  rcases c.own h.nd q hq with rfl | ⟨m, _⟩
  · rw [g.2 a (by rw [h.get c.mem]; exact fun z => by cases z)]
    exact (h.own _ c.mem).1
  · rw [g.2 q.1 (by rw [(h.own q m).2]; exact fun z => by cases z)]
    exact (h.own q m).1

section
variable {K : PySem.W.Frag} {H : Hp} {Q : VK}
theorem g_ixVT {a : Addr} {xs : List V} {i : Int} (h : H a = some (.tup xs)) (h0 : 0 ≤ i) (hl : i < xs.length) (q : ∀ v, xs[i.toNat]? = some v → Q v H) : rIxA K (.ref a) (.int i) H Q := by
  have e : i.toNat < xs.length := by omega
  exact g_ixT h (at_n h0 (List.getElem?_eq_getElem e)) (q _ (List.getElem?_eq_getElem e))
theorem is2_non {tp : Addr} (hp : H tp = some (.tup [.ty "list", .ty "tuple"])) (q : Q (.bl false) H) : rIsA K [.non, .ref tp] H Q := g_is2 hp (.base .non) (by decide +kernel : kitB "NoneType" "list" = some false) (by decide +kernel : kitB "NoneType" "tuple" = some false) q
end

theorem i_nf {A B : Prop} (h : A) : if (!false) = true then A else B := by
  show (if true = true then A else B)
  rw [if_pos rfl]
  exact h
theorem i_nt {A B : Prop} (h : B) : if (!true) = true then A else B := by
  show (if false = true then A else B)
  rw [if_neg Bool.false_ne_true]
  exact h

/-- ways that meet: what holds where they meet -/
theorem g_join {t : TS} {D : Ends} {σ : L2.St} {H : Hp} (M : L2.St → Hp → Prop) (h : ∀ σ' H', M σ' H' → D.nx σ' H') (q : (∀ σ' H', M σ' H' → D.nx σ' H') → t D σ H) : t D σ H := q h

/-! ### all that is not owned stands still from now on -/
def rmO (O : Own) (H : Hp) : Hp := fun b => if b ∈ O.map (·.1) then none else H b
section
variable {F H : Hp} {O : Own}
theorem Has.re (h : Has F O H) : Has (rmO O H) O H := by
  refine ⟨fun b u e => ?_, fun p hp => ⟨if_pos (List.mem_map.mpr ⟨p, hp, rfl⟩), (h.own p hp).2⟩, h.nd⟩
  unfold rmO at e
  split at e
  · cases e
  · exact e
theorem Has.reF (h : Has F O H) : Same F (rmO O H) := fun b u e => by
  unfold rmO
  rw [if_neg]
  · exact h.same b u e
  · intro m
    obtain ⟨p, hp, rfl⟩ := List.mem_map.mp m
    rw [(h.own p hp).1] at e
    cases e
theorem Has.re_of (h : Has F O H) {b : Addr} {u : HO} (e : H b = some u) (ne : ∀ p ∈ O, p.2 ≠ u) : rmO O H b = some u := by
  unfold rmO
  rw [if_neg]
  · exact e
  · intro m
    obtain ⟨p, hp, rfl⟩ := List.mem_map.mp m
    rw [(h.own p hp).2] at e
    exact ne p hp (Option.some.inj e)
end

section
variable {K : PySem.W.Frag} {σ : L2.St} {F : Hp} {O O' : Own} {H : Hp} {Q : VK} {x y v : V} {ta te : TE}
theorem g_ixDI {a : Addr} {kvs : List (Key × V)} {i : Int} (h : H a = some (.dK kvs)) (hv : valV kvs (.inl i) = some v) (q : Q v H) : rIxA K (.ref a) (.int i) H Q := .inr ⟨a, v, rfl, hv ▸ DGet.k (k := .inl i) h, q⟩
theorem g_ixDS {a : Addr} {kvs : List (Key × V)} {i : Str} (h : H a = some (.dK kvs)) (hv : valV kvs (.inr i) = some v) (q : Q v H) : rIxA K (.ref a) (.str i) H Q := .inr ⟨a, v, rfl, hv ▸ DGet.k (k := .inr i) h, q⟩
/-! ### [*xs, y]; if xs:; dict(pairs) -/
def kStar (K : PySem.W.Frag) (t : TA) (σ : L2.St) (x : V) (H : Hp) (Q : List V → Hp → Prop) : Prop := ∃ p xs, x = V.ref p ∧ (SqT K H p xs ∨ SqL K H p xs) ∧ t σ H fun ys H2 => Q (xs ++ ys) H2
theorem g_star {t : TA} {QA : List V → Hp → Prop} (q : te σ H fun x H1 => kStar K t σ x H1 QA) : StX.tStar K te t σ H QA := q
theorem g_kstarL {t : TA} {QA : List V → Hp → Prop} {a : Addr} {xs : List V} (h : H a = some (.lst xs)) (q : t σ H fun ys H2 => QA (xs ++ ys) H2) : kStar K t σ (.ref a) H QA := ⟨a, xs, rfl, .inr (SqL.of h), q⟩
theorem g_kstarT {t : TA} {QA : List V → Hp → Prop} {a : Addr} {xs : List V} (h : H a = some (.tup xs)) (q : t σ H fun ys H2 => QA (xs ++ ys) H2) : kStar K t σ (.ref a) H QA := ⟨a, xs, rfl, .inl (SqT.of h), q⟩
theorem k_star {X : Cx} {es : List Expr} {t : TA} {ex : Expr} {p : Pos} (K : PySem.W.Frag) (h : PA X (.Starred ex p :: es) (StX.tStar X.K te t)) (e : X.K = K := by rfl) : PA X (.Starred ex p :: es) (StX.tStar K te t) := by subst e; exact h
def kTru (K : PySem.W.Frag) (x : V) (H : Hp) (R : Bool → Hp → Prop) : Prop := ∃ k, TruV K x H k ∧ R k H
def tTru (K : PySem.W.Frag) (te : TE) : TT := fun σ H R => te σ H fun x H1 => kTru K x H1 R
theorem pt_tru {X : Cx} {a : Expr} (K : PySem.W.Frag) (ha : PE X a ta) (he : ∀ whole, isTrue a X.env whole = (do let v ← whole; standAt a.pos; holding [v] (truthy v)) := by intro _; rfl) (e : X.K = K := by rfl) : PT X a (tTru K ta) := by subst e; exact pt_truth ha he
theorem g_tru {R : Bool → Hp → Prop} (q : te σ H fun x H1 => kTru K x H1 R) : tTru K te σ H R := q
theorem g_truL {R : Bool → Hp → Prop} {a : Addr} {xs : List V} (h : H a = some (.lst xs)) (q : R (!xs.isEmpty) H) : kTru K (.ref a) H R := ⟨_, .inl ⟨xs, SqL.of h, rfl⟩, q⟩
def rDictP (K : PySem.W.Frag) : List V → Hp → VK → Prop := fun xs H Q => ∃ (a : Addr) (ps : List Addr) (kvs : List (Key × V)), xs = [.ref a] ∧ SqL K H a (ps.map V.ref) ∧ Paired (fun p kv => SqT K H p [kV kv.1, kv.2]) ps kvs ∧ ∀ p, H p = none → Q (.ref p) (upd H p (.dK (mergeK [] kvs)))
theorem cr_dictP {X : Cx} (K : PySem.W.Frag) (hc : X.calm = true) (e : X.K = K := by rfl) : CallR X (.type "dict") (rDictP K) := by subst e; exact call_dictP hc
theorem g_dictP {a : Addr} {ps : List Addr} {kvs : List (Key × V)} (h : H a = some (.lst (ps.map V.ref))) (hp : Paired (fun p kv => SqT K H p [kV kv.1, kv.2]) ps kvs) (hH : Has F O H) (q : ∀ p H', H p = none → Has F ((p, .dK (mergeK [] kvs)) :: O) H' → Q (.ref p) H') : rDictP K [.ref a] H Q :=
  ⟨a, ps, kvs, rfl, SqL.of h, hp, fun p n => q p _ n (hH.new n)⟩
end
/-! ### data without lists; tuples of ints; pairs to a dict -/
mutual
def noL : PyData → Bool
  | .list _ => false
  | .dict _ => false
  | .tuple ds => noLs ds
  | _ => true
def noLs : List PyData → Bool
  | [] => true
  | d :: ds => noL d && noLs ds
end
theorem noLs_mem : ∀ {ds : List PyData}, (∀ d ∈ ds, noL d = true) → noLs ds = true
  | [], _ => by rw [noLs]
  | d :: ds, h => by
    rw [noLs, h d List.mem_cons_self, noLs_mem fun x hx => h x (List.mem_cons_of_mem _ hx)]
    rfl
mutual
theorem Dq.keep {H H' : Hp} (e : ∀ b xs, H b = some (.tup xs) → H' b = some (.tup xs)) : ∀ (d : PyData) (v : V), noL d = true → Dq H v d → Dq H' v d
  | _, _, _, .non => .non
  | _, _, _, .bl b => .bl b
  | _, _, _, .int i => .int i
  | _, _, _, .str x => .str x
  | .list ds, _, n, .lst s a => by rw [noL] at n; cases n
  | .tuple ds, _, n, .tup s a => .tup (e _ _ s) (DqAll.keep e ds _ (by rw [noL] at n; exact n) a)
theorem DqAll.keep {H H' : Hp} (e : ∀ b xs, H b = some (.tup xs) → H' b = some (.tup xs)) : ∀ (ds : List PyData) (vs : List V), noLs ds = true → DqAll H vs ds → DqAll H' vs ds
  | _, _, _, .nil => .nil
  | d :: ds, _, n, .cons h t => by
    rw [noLs, Bool.and_eq_true] at n
    exact .cons (Dq.keep e d _ n.1 h) (DqAll.keep e ds _ n.2 t)
end
theorem Has.keep {F H : Hp} {O : Own} (h : Has F O H) (ho : ∀ p ∈ O, ∀ xs, p.2 ≠ .tup xs) {ds : List PyData} {vs : List V} (n : ∀ d ∈ ds, noL d = true) (d : DqAll H vs ds) : DqAll (rmO O H) vs ds :=
  d.keep (fun _ _ e => h.re_of e fun p hp => ho p hp _) _ _ (noLs_mem n)
theorem eqv_tints (xs ys : List Int) : PyData.eqv (.tuple (xs.map PyData.int)) (.tuple (ys.map PyData.int)) = decide (xs = ys) := by
  rw [PyData.eqv, eqvAll_ints]
theorem eqv_tstrs (xs ys : List Str) : PyData.eqv (.tuple (xs.map PyData.str)) (.tuple (ys.map PyData.str)) = decide (xs = ys) := by
  rw [PyData.eqv, eqvAll_strs]
theorem ixN_last (n : Nat) : ixN (n + 1) (-1) = some n := by
  unfold ixN
  rw [if_neg (by decide), if_pos (by omega)]
  congr 1
  omega
theorem valV_merge (i : Key) : ∀ (kvs acc : List (Key × V)), valV (mergeK acc kvs) i = (valV kvs.reverse i).or (valV acc i)
  | [], acc => by simp [mergeK, valV]
  | p :: r, acc => by
    show valV (mergeK (putK acc p.1 p.2) r) i = _
    rw [valV_merge i r, valV_put, List.reverse_cons]
    unfold valV
    rw [List.find?_append]
    cases h : r.reverse.find? fun kv => decide (kv.1 = i) with
    | some x => simp
    | none =>
      by_cases e : p.1 = i
      · simp [List.find?_cons, e]
      · rw [if_neg (fun z => e z.symm)]; simp [List.find?_cons, e]
def kLcR2 (g : TG) (tt : TT) (te : TE) (ws : List Nat) (σ : L2.St) (vs : List V) (H : Hp) (Q : VK) : Prop := ∃ i j : Int, vs = [.int i, .int j] ∧ (-(2 ^ 62) ≤ i ∧ i < 2 ^ 62 ∧ -(2 ^ 62) ≤ j ∧ j < 2 ^ 62) ∧ kLc (Itr i (j - i).toNat) g tt te ws σ H Q
section
variable {K : PySem.W.Frag} {σ : L2.St} {F : Hp} {O O' : Own} {H : Hp} {Q : VK} {x y v : V} {ta te : TE} {g : TG}
theorem g_lcR2 {ta : TA} {tt : TT} {vs : List Nat} (q : ta σ H fun xs H1 => kLcR2 g tt te vs σ xs H1 Q) : tLc (iRng2 ta) g tt te vs σ H Q := q
theorem k_lcR2 {lo j : Int} {tt : TT} {vs : List Nat} (h0 : -(2 ^ 62) ≤ lo ∧ lo < 2 ^ 62 ∧ -(2 ^ 62) ≤ j ∧ j < 2 ^ 62) (hH : Has F O H) (S : Nat → List V → Hp → Own → Prop) (h0 : S 0 [] F O)
    (hs : ∀ i acc F O D H, i < (j - lo).toNat → S i acc F O → Has F ((D, .lst acc) :: O) H → g (.int (lo + (i : Nat))) (wipe σ vs) H fun σ2 H2 => wipe σ2 vs = wipe σ vs ∧ tt σ2 H2 fun b H3 => if b = true then te σ2 H3 fun y H4 => kTurn D (kNx S i D) y H4 else kNx S i D H3)
    (hd : ∀ acc F O D H, S (j - lo).toNat acc F O → Has F ((D, .lst acc) :: O) H → Q (.ref D) H) : kLcR2 g tt te vs σ [.int lo, .int j] H Q := by
  refine ⟨lo, j, rfl, by assumption, k_lc hH (j - lo).toNat S h0 (fun i acc F O D H hi s hh => hi) (fun acc F O D H s hh => Nat.le_refl _) (fun i x acc F O D H H' hi y s hh => ?_) hd⟩
  obtain ⟨e, y⟩ := y
  subst e y
  exact hs i acc F O D _ hi s hh
theorem g_truT {R : Bool → Hp → Prop} {a : Addr} {xs : List V} (h : H a = some (.tup xs)) (q : R (!xs.isEmpty) H) : kTru K (.ref a) H R := ⟨_, .inr (.inl ⟨xs, SqT.of h, rfl⟩), q⟩
end
/-! ### list.extend by a list, by a tuple -/
theorem ext_tup (l : Addr) (items : Array Value) (n : Nat) (b : Addr) (items2 : Array Value) (n2 : Nat) (d0 : Option Addr) (sl : Array (Option Value)) (hs0 : ¬(!items.isEmpty && Builtin.List.listTooLong (items.size + items2.size)) = true) (hs1 : items.size ≤ sizeLine) (hs2 : items.size + items2.size ≤ sizeLine + 1) :
    Meets (Builtin.«list.extend» ⟨[.ref l, .ref b], []⟩) (fun _ R s => s.heap.get? l = some { cls := .type "list", dict := none, data := .seq items n, slots := #[] } ∧ s.heap.get? b = some { cls := .type "tuple", dict := d0, data := .seq items2 n2, slots := sl } ∧ R (.ok (.ret Value.none)) { s with heap := s.heap.update l (Obj.mapSeq fun x => x ++ items2), toks := s.toks }) :=
  .of_wp fun prog w A R s h => by
    obtain ⟨hp, g, d, tk, os⟩ := s
    obtain ⟨hl, hb, h⟩ := h
    have f1 := PySem.AutoSeq1.sub_tuple_tuple
    have f2 := PySem.AutoSeq1.sub_list_list
    have f3 := PySem.AutoSeq1.sub_tuple_list
    have f4 := PySem.AutoSeq1.sub_list_tuple
    have hz' : (items ++ items2).size ≤ sizeLine + 1 := by rw [Array.size_append]; exact hs2
    wp_walk using (wpAny_updateSeq hl rfl (hz := hs1) (_hz' := hz')), PySem.AutoSeq1.wpAny_loadPart' hl, PySem.AutoSeq1.wpAny_loadPart' hb
    exact ⟨_, rfl, h⟩
section
variable {X : Cx}
def rExtendT (K : PySem.W.Frag) : V → List V → Hp → VK → Prop := fun x vs H Q => ∃ l b xs zs, x = .ref l ∧ vs = [.ref b] ∧ H l = some (.lst xs) ∧ SqT K H b zs ∧ xs.length + zs.length ≤ sizeLine ∧ Q .non (upd H l (.lst (xs ++ zs)))
theorem mt_extendT : MtM X "list.extend" (rExtendT X.K) := by
  intro pins s σ H x vs v us Q I rx rv h
  obtain ⟨l, b, xs, zs, rfl, rfl, hH, hB, hz, q⟩ := h
  cases rx
  obtain ⟨u, rfl, ru⟩ := rv.one
  cases ru
  obtain ⟨z, its, n, r, hl, e⟩ := I.lstM hH
  obtain ⟨its2, r2, ⟨⟨cl, dc, da, so⟩, e2, hc, n2, hd⟩, z2⟩ := I.tuple hB
  have hc : cl = .type "tuple" := hc
  have hd : da = .seq its2.toArray n2 := hd
  subst hc hd
  have hl2 := r2.length
  have hsz : its.toArray.size + its2.toArray.size ≤ sizeLine := by rw [List.size_toArray, List.size_toArray]; omega
  have hlong : ¬ (!its.toArray.isEmpty && Builtin.List.listTooLong (its.toArray.size + its2.toArray.size)) = true := by
    rw [notLongL hsz, Bool.and_false]
    exact Bool.false_ne_true
  refine call_meets F.slot_list_extend ⟨_, e, rfl⟩ F.entry_list_extend (F.args_list_extend_2 _ _) (ext_tup l its.toArray n b its2.toArray n2 dc so hlong (by rw [List.size_toArray]; omega) (by omega)) ⟨e, e2, ?_⟩
  refine ⟨.non, _, I.lset (its' := its ++ its2) hH e (by simp) (r.append r2) ?_, rfl, q⟩
  rw [List.length_append]
  omega
def rExtendA (K : PySem.W.Frag) : V → List V → Hp → VK → Prop := fun x vs H Q => rExtend x vs H Q ∨ rExtendT K x vs H Q
theorem mt_extendA (K : PySem.W.Frag) (e : X.K = K := by rfl) : MtR X "list.extend" (rExtendA K) := by
  subst e
  intro pins s σ H x vs v us Q I rx rv h
  rcases h with h | h
  · exact mt_extend pins s σ H x vs v us Q I rx rv h
  · exact mt_extendT pins s σ H x vs v us Q I rx rv h
end
section
variable {K : PySem.W.Frag} {F : Hp} {O O' : Own} {H : Hp} {Q : VK}
theorem g_extL {a b : Addr} {xs zs : List V} (hH : Has F O H) (hb : H b = some (.lst zs)) (c : Chg O a (.lst xs) (.lst (xs ++ zs)) O') (hl : xs.length + zs.length ≤ sizeLine) (q : ∀ H', Has F O' H' → Q .non H') : rExtendA K (.ref a) [.ref b] H Q :=
  .inl ⟨a, b, xs, zs, rfl, rfl, hH.get c.mem, hb, hl, q _ (hH.put c)⟩
theorem g_extT {a b : Addr} {xs zs : List V} (hH : Has F O H) (hb : H b = some (.tup zs)) (c : Chg O a (.lst xs) (.lst (xs ++ zs)) O') (hl : xs.length + zs.length ≤ sizeLine) (q : ∀ H', Has F O' H' → Q .non H') : rExtendA K (.ref a) [.ref b] H Q :=
  .inr ⟨a, b, xs, zs, rfl, rfl, hH.get c.mem, SqT.of hb, hl, q _ (hH.put c)⟩
end
theorem Has.made2 {F H H' : Hp} {O : Own} {p l : Addr} {o u : HO} (h : Has F O H) (np : H p = none) (nl : H l = none) (s : Same H H') (ep : H' p = some o) (el : H' l = some u) (ne : p ≠ l) : Has F ((p, o) :: (l, u) :: O) H' := by
  have h1 := h.made nl s el
  refine ⟨h1.same, fun q hq => ?_, ?_⟩
  · rcases List.mem_cons.mp hq with rfl | hq
    · exact ⟨h.same.free np, ep⟩
    · exact h1.own q hq
  · rw [List.map_cons]
    refine List.nodup_cons.mpr ⟨fun m => ?_, h1.nd⟩
    obtain ⟨q, hq, e⟩ := List.mem_map.mp m
    rcases List.mem_cons.mp hq with rfl | hq
    · exact ne e.symm
    · have := (h.own q hq).2
      rw [e, np] at this
      cases this
end Qk

namespace Qk
open PySem PySem.Spec PyProof.Rows L2

/-! ### defs that raise -/
section
variable {P : Program} {w : World} {K : PySem.W.Frag} {mg : Str → Option Value} {base : Heap}
theorem Fun.okN {x qual : Str} {st : Stmt} {f : Addr} {fd : FuncData} {N ps : List Str} {k : Nat} {sp : Sp} (F : Fun K x qual st f fd) (S : FnScope N ps (defScope st)) (len : ∀ vs H Q E, sp vs H Q E → vs.length = ps.length)
    (hbody : ∀ (cdv : Value) (A : Around) (outer : List Env) (s : Shared) (H : Hp) (vs : List V) (Q : VK) (E : XK), Room k (A.deeper (envOfC qual (defScope st) s.heap.objs.size f cdv)) → sp vs H Q E →
      ∃ t, PSs (cxOf (L2N.CX P w) P w K mg base N qual (defScope st) f cdv A outer s H E) (defBody st) t ∧ t { nx := fun _ H' => Q .non H', rt := Q } (start N vs) H) : FnOk P w K mg base (L2N.CX P w) (k + 1) f fd ps sp := by
  obtain ⟨oc, od, kV, doc, pm, an, cdv, ct, osl, rfl, lk, hcd⟩ := F.ex
  exact fn_of lk hcd S len fun A outer s H vs Q E hr hsp => hbody cdv A outer s H vs Q E hr hsp
/-- a def that is called in a suite -/
theorem Fun.okH {x qual : Str} {st : Stmt} {f : Addr} {fd : FuncData} {N ps : List Str} {k : Nat} {sp : Sp} (F : Fun K x qual st f fd) (S : FnScope N ps (defScope st)) (len : ∀ vs H Q E, sp vs H Q E → vs.length = ps.length)
    (hbody : ∀ (cdv : Value) (A : Around) (outer : List Env) (s : Shared) (H : Hp) (vs : List V) (Q : VK) (E : XK) (p : Addr × Obj), L2H.Hot1 A p → L2H.RoomH k (A.deeper (envOfC qual (defScope st) s.heap.objs.size f cdv)) → sp vs H Q E →
      ∃ t, PSs (L2H.cxH CX0 P w K mg base N qual (defScope st) f cdv A outer s H E p) (defBody st) t ∧ t { nx := fun _ H' => Q .non H', rt := Q } (start N vs) H) : L2H.FnH P w K mg base CX0 (k + 1) f fd ps sp := by
  obtain ⟨oc, od, kV, doc, pm, an, cdv, ct, osl, rfl, lk, hcd⟩ := F.ex
  exact L2H.fn_ofH lk hcd S len fun A outer s H vs Q E p hot hr hsp => hbody cdv A outer s H vs Q E p hot hr hsp
end
theorem passN {X : Cx} : Passes (L2N.CX X.prog X.w) X E0 := fun _ _ _ _ _ _ _ h => by
  obtain ⟨_, _, _, _, _, _, _, _, _, _, _, _, z⟩ := h
  exact z.elim
theorem takesN {X : Cx} : L2N.Takes X (fun _ _ _ _ => False) := fun _ _ x => by
  obtain ⟨_, _, _, _, _, _, _, _, _, _, _, _, _, _, _, _, z⟩ := x
  exact z.elim

theorem _root_.L2H.RoomH.units {k : Nat} {A : Around} (r : L2H.RoomH k A) : A.units + 64 < cLine := by
  have := r.un
  omega
theorem roomS {k j : Nat} {A : Around} {h : Option Value} (r : Room k A) (e : j ≤ k) : L2H.RoomH j (A.mark h) := by
  have h1 := r.dp
  have h2 := r.un
  exact ⟨by show A.depth + 3 * j + 5 < _; omega, by show A.units + 16 * j + 200 < _; omega⟩
theorem huH {k : Nat} {A : Around} (r : L2H.RoomH k A) : A.units + 1 < cLine := by
  have := r.un
  omega
theorem u65H {k : Nat} {A : Around} (r : L2H.RoomH k A) : A.units + 65 < cLine := by
  have := r.un
  omega
/-- ways that meet in one heap fact: refine' g_merge (F := F) (O := O) (R := _) ?a ?b -/
theorem g_merge {F : Hp} {O : Own} {G : Prop} {R : Hp → Prop} (h1 : (∀ H', Has F O H' → R H') → G) (h2 : ∀ H', Has F O H' → R H') : G := h1 h2
theorem g_merge2 {α : Type} {G : Prop} {R : α → Hp → Prop} (P : α → Hp → Prop) (h1 : (∀ x H', P x H' → R x H') → G) (h2 : ∀ x H', P x H' → R x H') : G := h1 h2
theorem g_mergeP {F : Hp} {O : Own} {P G : Prop} {R : Hp → Prop} (h1 : (∀ H', Has F O H' → P → R H') → G) (h2 : ∀ H', Has F O H' → P → R H') : G := h1 h2
/-! ### raise C(e, ..) -/
section
variable {X : Cx} {pins : List (Addr × Obj)} {σ : L2.St} {H : Hp} {hp : Heap} {g : Array GenState} {dr : Drawn} {tk : Nat} {os : OsState} {C : Addr}
/-- the tuple of the arguments and the bare exception laid behind the heap -/
abbrev barePut (hp : Heap) (C : Addr) (us : List Value) : Heap := (hp.push (PySem.W.kdv_tup us)).push (PySem.HandSPX.excO C hp.objs.size)
theorem barePut_keeps {us : List Value} (b : Addr) (o : Obj) (e : hp.get? b = some o) : (barePut hp C us).get? b = some o := Heap.get?_push_of_some _ (Heap.get?_push_of_some _ e)
theorem barePut_inv (I : Inv X pins σ H ⟨hp, g, dr, tk, os⟩) (us : List Value) : Inv X pins σ (upd H (hp.objs.size + 1) (exo (hp.objs.size + 1) C none)) ⟨barePut hp C us, g, dr, tk, os⟩ := by
  refine I.laid (t' := tk) barePut_keeps (Nat.le_succ _) (exo_ok (t1 := hp.objs.size) ?_)
  unfold barePut
  heap_get
/-- what an __init__ leaves, as an exception in hand -/
theorem in_hand {H2 : Hp} {Q : XK} {us : List Value} {s' : Shared} {d : Addr} {fs : List (Str × V)} (T : OexC X.K C) (I : Inv X pins σ H ⟨hp, g, dr, tk, os⟩) (un : Un (frs X.stack) [] (upd H (hp.objs.size + 1) (exo (hp.objs.size + 1) C none)) H2 (barePut hp C us) s'.heap)
    (ok : HOk X.prog X.w H2 s'.heap) (eo : s'.os = os) (bare : AllBare s'.gens) (ea : H2 (hp.objs.size + 1) = some (exo (hp.objs.size + 1) C (some d))) (ed : H2 d = some (exd d fs)) (nd : H d = none)
    (q : Q (.ref C) (some d) (upd (del H2 (hp.objs.size + 1)) d (.xd fs))) : L2N.MkP X pins σ Q (.ref (hp.objs.size + 1)) s' := by
  obtain ⟨h2, g2, d2, t2, o2⟩ := s'
  obtain ⟨tt, G, J, kG, gone, there, free⟩ := mk_end0 (t2 := t2) (d2 := d2) I (Nat.le_succ _) barePut_keeps un ok eo bare ea ed nd
  have zn : L2N.Zn (.ref C) (some d) ({ cls := .ref C, dict := some d, data := .fields #[.ref tt, .none, .none, .none, .bool false, .none] } : Obj) := ⟨rfl, rfl, fun vs hv => by cases hv; rfl⟩
  exact ⟨_, _, _, ⟨G, g2, d2, t2, o2⟩, _, _, some d, rfl, J, kG, gone, there, zn, rfl, rfl, free, rfl, bare, raises_own T.exC T.tyC, q⟩
end
theorem pmk_oexN {X : Cx} {e : Expr} {es : List Expr} {ta : TA} {p pos : Pos} {CX : CXT} {x : Str} {C fI : Addr} {k : Nat} {fd : FuncData} {ps : List Str} {sp : Sp} (T : OexC X.K C) (iC : PySem.W.findIn X.K (.ref C) "__init__" = some (some (.ref fI))) (tI : PySem.W.typeIn X.K (.ref fI) = some (.type "function"))
    (Fi : FnOk X.prog X.w X.K X.mg X.base CX k fI fd ps sp) (room : Room (k + 1) X.A) (binds : Binds X.K fd ps []) (pass : Passes CX X (fun _ _ _ => False)) (gl : Gl X x) (gm : X.mg x = some (.ref C)) (args : PA X (e :: es) ta)
    (dbg : (x == ("__debug__" : Str)) = false := by decide) (star : starEach (e :: es) X.env = (false, eval e X.env) :: starEach es X.env := by rfl) (plain : (backTo pos (starEach es X.env)).any (·.1) = false := by rfl) :
    L2N.PMk X (.Call (.Name x p) (e :: es) [] pos) (tMkO C sp [] ta) := fun pins s σ H Q I h => by
  obtain ⟨_, _, _, _, bm, _, _, _, _, _, _, _, _, _, _, cl, rf⟩ := T.cls
  refine wpAny_Call_Name_kw (ld_glob I gl gm (PySem.W.callWith_K (h₀ := X.base) I.ok.mod.kin T.kC (thn (args.run pos pins s σ H _ I h) fun us s1 hs => ?_) star plain) dbg)
  obtain ⟨vs, H1, J, rel, few, spq⟩ := hs
  refine ⟨J.kIn, ?_⟩
  obtain ⟨hp, g, dr, tk, os⟩ := s1
  have J2 := barePut_inv (C := C) J us
  have start := spq (hp.objs.size + 1) (J.hok.fresh (Nat.le_succ _))
  rw [List.append_nil] at start
  have vals : Vals (V.ref (hp.objs.size + 1) :: vs) (Value.ref (hp.objs.size + 1) :: us) := .cons rfl rel
  have many : (Value.ref (hp.objs.size + 1) :: us).length = ps.length := vals.length.symm.trans (Fi.len _ _ _ _ start)
  have bd := binds _ (Value.ref (hp.objs.size + 1) :: us) J2.kIn (by rw [List.append_nil]; exact many)
  rw [List.append_nil] at bd
  have room2 : us.length ≤ sizeLine := sz (by have := Paired.length rel; omega)
  have run := Fi.run _ X.stack _ _ ⟨Value.ref (hp.objs.size + 1) :: us, []⟩ (Value.ref (hp.objs.size + 1) :: us) _ _ (fun _ _ _ => False) (room.make C us []) (J2.env0.make C us []) bd vals start
  show wpAny (model X.prog X.w) X.A (call (.ref C) us) _ _ _
  refine wpAny_call (PySem.HandSPX.call_own F.excBase_ValueError (fun Y => PySem.HandSPX.refsVE_contains Y bm rf) (J.kIn _ _ cl) (PySem.W.looks_findIn J.kIn iC) (fun self => PySem.W.bind_fn J.kIn self tI) room2 (codeAny_mono run fun r s' end_ => ?_))
  match r, end_ with
  | .error er, end_ => exact pass pins σ _ _ er s' J2 end_
  | .ok (.ret u), ⟨v, H2, eo, bare, un, ok, ru, ev, d, fs, ea, ed, nd, q⟩ =>
    subst ev
    exact ⟨ru, in_hand T J un ok eo bare ea ed nd q⟩
  | .ok .next, end_ => exact end_.elim
  | .ok .brk, end_ => exact end_.elim
  | .ok .cont, end_ => exact end_.elim

/-! ### readings in order -/
/-- raise C(vs) -/
def kMk (C : Addr) (sp : Sp) (vs : List V) (H : Hp) (Q : XK) : Prop := vs.length ≤ 1000 ∧ ∀ a, H a = none → sp (.ref a :: (vs ++ [])) (upd H a (exo a C none))
  (fun v H2 => v = .non ∧ ∃ (d : Addr) (fs : List (Str × V)), H2 a = some (exo a C (some d)) ∧ H2 d = some (exd d fs) ∧ H d = none ∧ Q (.ref C) (some d) (upd (del H2 a) d (.xd fs))) (fun _ _ _ => False)
def tRaise (W : WX) (C : Addr) (sp : Sp) (ta : TA) : TS := fun _ σ H => tMkO C sp [] ta σ H fun cls d H' => W cls d σ H'
theorem k_raise {X : Cx} {W : WX} {e : Expr} {C : Addr} {sp : Sp} {ta : TA} {pos : Pos} (hc : X.calm = true) (tk : L2N.Takes X W) (he : L2N.PMk X e (tMkO C sp [] ta)) : PS X (.Raise (some e) none pos) (tRaise W C sp ta) := L2N.ps_raise hc tk he
theorem g_raise {W : WX} {C : Addr} {sp : Sp} {ta : TA} {D : Ends} {σ : L2.St} {H : Hp} (q : ta σ H fun vs H1 => kMk C sp vs H1 fun cls d H' => W cls d σ H') : tRaise W C sp ta D σ H := q
/-- try: body, except c as i: suite -/
def tTry (K : PySem.W.Frag) (c : Value) (i : Nat) (tb : WX → TS) (ts : Addr → Value → Option Addr → TS) (Wout : WX) : TS := fun D σ H => tb (wAs K c i ts Wout D) D σ H
theorem k_try {X : Cx} {x n : Str} {c : Value} {i : Nat} {body suite : List Stmt} {b₀ : Stmt} {np pos pos' : Pos} {tb : WX → TS} {ts : Addr → Value → Option Addr → TS} {Wout : WX} (K : PySem.W.Frag)
    (hs : X.stack = X.env :: X.outer) (hf : X.env.frame = some X.env.locals) (hN : X.N.Nodup) (hi : X.N[i]? = some n) (hln : X.env.kindOf n = some .local) (hc : Names X x c) (tk : L2N.Takes X Wout)
    (hb : ∀ (W : WX) (pn : List (Addr × Obj)) (xe : Value → Shared → Prop), L2N.Takes (X.tr pn xe) W → PassesOwn (model X.prog X.w) X.A X.env xe → PSs (X.tr pn xe) body (tb W))
    (hsu : ∀ (a : Addr) (oe : Obj) (cls : Value) (d : Option Addr) (pn : List (Addr × Obj)), L2N.Zn cls d oe → (∃ vs, oe.data = .fields vs) → PSs (X.suite a ((a, oe) :: pn)) (b₀ :: suite) (ts a cls d)) (e : X.K = K := by rfl) :
    PS X (.Try body [.ExceptHandler (some (.Name x np)) (some n) (b₀ :: suite) pos'] [] [] pos) (tTry K c i tb ts Wout) := by subst e; exact L2N.ps_try_as hs hf hN hi hln hc tk hb hsu
/-- the way into the suite -/
theorem g_caught {K : PySem.W.Frag} {c cls : Value} {i : Nat} {ts : Addr → Value → Option Addr → TS} {Wout : WX} {D : Ends} {d : Option Addr} {σ : L2.St} {H : Hp} (m : PySem.W.exmOne K cls c = some true)
    (q : ∀ a, H a = none → ts a cls d { nx := fun σ' H' => D.nx (σ'.set i none) H', rt := D.rt, bk := fun σ' H' => D.bk (σ'.set i none) H', ct := fun σ' H' => D.ct (σ'.set i none) H' } (σ.set i (some (.ref a))) H) : wAs K c i ts Wout D cls d σ H :=
  ⟨true, m, fun _ => q, fun z => by cases z⟩
theorem g_try {K : PySem.W.Frag} {c : Value} {i : Nat} {tb : WX → TS} {ts : Addr → Value → Option Addr → TS} {Wout : WX} {D : Ends} {σ : L2.St} {H : Hp} (q : tb (wAs K c i ts Wout D) D σ H) : tTry K c i tb ts Wout D σ H := q
theorem g_callS {sp : Sp} {E : L2.St → XK} {t : TA} {σ : L2.St} {H : Hp} {Q : VK} (q : t σ H fun vs H1 => sp vs H1 Q (E σ)) : tCallS sp E t σ H Q := q

theorem g_ost {K : PySem.W.Frag} {f : Str} {to te : TE} {D : Ends} {σ : L2.St} {H : Hp} (q : tOst K f to te D σ H) : tOst K f to te D σ H := q
theorem upd_over {H : Hp} {dx a : Addr} {e1 e2 x : HO} (ne : dx ≠ a) : upd (upd (upd H dx e1) a x) dx e2 = upd (upd H dx e2) a x := by
  funext b
  by_cases h1 : b = dx
  · subst h1
    rw [upd_same, upd_ne ne, upd_same]
  · rw [upd_ne h1]
    by_cases h2 : b = a
    · subst h2
      rw [upd_same, upd_same]
    · rw [upd_ne h2, upd_ne h2, upd_ne h1, upd_ne h1]
/-- __init__ that keeps each argument in a field of its name -/
def sp_oinit (C : Addr) (names : List Str) : Sp := fun vs H Q _ => ∃ (a : Addr) (ws : List V), vs = .ref a :: ws ∧ ws.length = names.length ∧ H a = some (exo a C none) ∧
  ∀ dx, H dx = none → dx ≠ a → Q .non (upd (upd H dx (exd dx (names.zip ws).reverse)) a (exo a C (some dx)))
theorem sp_oinit_len {C : Addr} {names : List Str} {vs H Q E} (h : sp_oinit C names vs H Q E) : vs.length = names.length + 1 := by
  obtain ⟨a, ws, rfl, hl, _⟩ := h
  rw [List.length_cons, hl]
theorem g_mk {C : Addr} {names : List Str} {vs : List V} {F H : Hp} {O : Own} {Q : XK} (hl : vs.length = names.length) (hs : names.length ≤ 1000) (hH : Has F O H) (q : ∀ d H', H d = none → Has F ((d, .xd (names.zip vs).reverse) :: O) H' → Q (.ref C) (some d) H') : kMk C (sp_oinit C names) vs H Q := by
  refine ⟨by omega, fun a n => ⟨a, vs ++ [], rfl, by rw [List.append_nil]; exact hl, upd_same, fun dx n1 ne => ⟨rfl, dx, (names.zip vs).reverse, upd_same, ?_, ?_, ?_⟩⟩⟩
  · rw [upd_ne ne, upd_same, List.append_nil]
  · rw [upd_ne ne] at n1
    exact n1
  · rw [upd_ne ne] at n1
    have e : upd (del (upd (upd (upd H a (exo a C none)) dx (exd dx (names.zip (vs ++ [])).reverse)) a (exo a C (some dx))) a) dx (.xd (names.zip vs).reverse) = upd H dx (.xd (names.zip vs).reverse) := by
      funext b
      by_cases h1 : b = dx
      · subst h1
        rw [upd_same, upd_same]
      · rw [upd_ne h1, upd_ne h1]
        by_cases h2 : b = a
        · subst h2
          rw [del_same, n]
        · rw [del_ne h2, upd_ne h2, upd_ne h1, upd_ne h2]
    rw [e]
    exact q dx _ n1 (hH.new n1)
/-! ### in a suite: isinstance, a field, a call -/
structure IsC (K : PySem.W.Frag) (D : Addr) : Prop where
  cl : (PySem.W.clsIn K D).isSome = true
  hg : PySem.W.findIn K (.ref D) "__getattribute__" = some (some (.builtin "BaseException.__getattribute__"))
  hk : PySem.W.findIn K (.ref D) "__getattr__" = some none
  hs : PySem.W.subIn K (.ref D) (.type "BaseException") = some true
  hd : PySem.W.hasDictIn K D = true
  ha : PySem.W.findIn K (.ref D) "__class__" = some (some (.builtin "object.__class__"))
  hn : PySem.W.specialIn K (.builtin "object.__class__") "__get__" = some (some (.builtin "getset_descriptor.__get__"))
  ht : PySem.W.takesIn K (.builtin "object.__class__") = some true
  hm : PySem.W.mroIn K D (.type "object") = some true
/-- isinstance(e, c) for the caught e: a is where it stands -/
def rIsX (K : PySem.W.Frag) (a : Addr) (cls : Value) (d : Option Addr) : List V → Hp → VK → Prop := fun xs H Q => ∃ (D : Addr) (c : V) (cv : Value) (b : Bool), cls = .ref D ∧ IsC K D ∧ (d = none ∨ ∃ dd fs, d = some dd ∧ H dd = some (.xd fs)) ∧ xs = [.ref a, c] ∧ (∀ u, RelV c u → u = cv) ∧ PySem.W.kitOne K (.ref D) cv = some b ∧ Q (.bl b) H
def rIsY (K : PySem.W.Frag) (a : Addr) (cls : Value) (d : Option Addr) : List V → Hp → VK → Prop := fun xs H Q => rIsX K a cls d xs H Q ∨ rIsA K xs H Q
theorem cr_isX {X : Cx} {a : Addr} {oe : Obj} {cls : Value} {d : Option Addr} {pn : List (Addr × Obj)} (K : PySem.W.Frag) (hz : L2N.Zn cls d oe) (hf : ∃ vs, oe.data = .fields vs) (e : X.K = K := by rfl) : CallR (X.suite a ((a, oe) :: pn)) (.builtin "isinstance") (rIsY K a cls d) := by
  subst e
  intro pins s σ H xs us Q I r h
  rcases h with h | h
  · obtain ⟨D, c, cv, b, ecl, C, hd, rfl, hcv, e, q⟩ := h
    cases r with
    | cons rx rr =>
      cases rr with
      | cons rt rr =>
        cases rr
        cases rx
        have ec := hcv _ rt
        subst ec
        obtain ⟨hget, _⟩ := I.pin (a, oe) (List.mem_append.mpr (.inl List.mem_cons_self))
        obtain ⟨vs, hv⟩ := hf
        have hcl : oe.cls = .ref D := hz.1.trans ecl
        have hdx := hz.2.1
        have key : ∀ od, PySem.W.InstAt s.heap a oe D od → wpAny (model X.prog X.w) (X.suite a ((a, oe) :: pn)).A (call (.builtin "isinstance") [.ref a, _]) (EP (X.suite a ((a, oe) :: pn)) pins σ Q) (X.suite a ((a, oe) :: pn)).xe s := fun od J =>
          PySem.W.kia_one (PySem.W.kitx_exc C.cl C.hg C.hk C.hs C.ha C.hn C.ht C.hm) I.kIn J e (fun z => nomatch z) fun tk => ⟨.bl b, H, I.kept (t' := tk) fun _ _ z => z, rfl, q⟩
        rcases hd with hd | ⟨dd, fs, hd, ea⟩
        · refine key none ?_
          rw [hd] at hdx
          exact ⟨hget, hcl, by unfold PySem.W.notCls; rw [hv] <;> rfl, by rw [hdx]; trivial⟩
        · have hx : ObjOk X.prog X.w H s.heap dd (.xd fs) := I.hok dd _ ea
          obtain ⟨mA, hns, hr⟩ := hx
          obtain ⟨od, ho, hl⟩ := lookIn_ns hns
          refine key (some od) ?_
          rw [hd] at hdx
          exact ⟨hget, hcl, by unfold PySem.W.notCls; rw [hv] <;> rfl, by rw [hdx]; exact ho⟩
  · exact cr_isK X.K (X := X.suite a ((a, oe) :: pn)) rfl pins s σ H xs us Q I r h
/-- e.f for the caught e -/
def tXfA (K : PySem.W.Frag) (a : Addr) (cls : Value) (d : Option Addr) (f : Str) (te : TE) : TE := fun σ H Q => te σ H fun x H1 => x = .ref a ∧ ∃ (C dd : Addr) (fs : List (Str × V)) (v : V), cls = .ref C ∧ XfC K C ∧ PySem.W.findIn K (.ref C) f = some none ∧ d = some dd ∧ H1 dd = some (.xd fs) ∧ fs.lookup f = some v ∧ Q v H1
theorem pe_xfA {X : Cx} {a : Addr} {oe : Obj} {cls : Value} {d : Option Addr} {pn : List (Addr × Obj)} {e : Expr} {te : TE} {pos : Pos} {n : Str} (K : PySem.W.Frag) (hz : L2N.Zn cls d oe) (hf : ∃ vs, oe.data = .fields vs) (he : PE (X.suite a ((a, oe) :: pn)) e te) (ek : X.K = K := by rfl) (hb : attributeBase e n X.env (eval e X.env) = eval e X.env := by rfl) :
    PE (X.suite a ((a, oe) :: pn)) (.Attribute e n pos) (tXfA K a cls d n te) := by
  subst ek
  refine ⟨fun pins s σ H Q I h => ?_⟩
  refine attr_of hb (thn (he.run pins s σ H _ I h) fun u s1 hh => ?_)
  obtain ⟨x, H1, I1, rx, ex, C, dd, fs, v, ec, T, hno, ed, ea, l, q⟩ := hh
  subst ex
  obtain rfl : u = Value.ref a := rx
  subst ec
  subst ed
  obtain ⟨ha, _⟩ := I1.pin (a, oe) (List.mem_append_left _ List.mem_cons_self)
  obtain ⟨vs, hd⟩ := hf
  have hx : ObjOk X.prog X.w H1 s1.heap dd (.xd fs) := I1.hok dd _ ea
  obtain ⟨mA, hns, hr⟩ := hx
  obtain ⟨od, ho, hl⟩ := lookIn_ns hns
  obtain ⟨u, hu, ru⟩ := RelO.some_of (v := v) (o := mA n) (by rw [← l]; exact hr n)
  have J : PySem.W.InstAt s1.heap a oe C (some od) := ⟨ha, hz.1, by unfold PySem.W.notCls; rw [hd] <;> rfl, by rw [hz.2.1]; exact ho⟩
  exact HandSPX.exc_get I1.kIn J T.ga T.gg T.exC (PySem.W.findObj_own T.hdC hno rfl (by rw [hl, hu])) (handed_of ru) ⟨v, H1, I1.tok _, ru, q⟩
def kXf (K : PySem.W.Frag) (a : Addr) (cls : Value) (d : Option Addr) (f : Str) (x : V) (H1 : Hp) (Q : VK) : Prop := x = .ref a ∧ ∃ (C dd : Addr) (fs : List (Str × V)) (v : V), cls = .ref C ∧ XfC K C ∧ PySem.W.findIn K (.ref C) f = some none ∧ d = some dd ∧ H1 dd = some (.xd fs) ∧ fs.lookup f = some v ∧ Q v H1
theorem g_xf {K : PySem.W.Frag} {a : Addr} {cls : Value} {d : Option Addr} {f : Str} {te : TE} {σ : L2.St} {H : Hp} {Q : VK} (q : te σ H fun x H1 => kXf K a cls d f x H1 Q) : tXfA K a cls d f te σ H Q := q
theorem g_kxf {K : PySem.W.Frag} {a C dd : Addr} {f : Str} {fs : List (Str × V)} {v : V} {H : Hp} {Q : VK} (X : XfC K C) (n : PySem.W.findIn K (.ref C) f = some none) (hd : H dd = some (.xd fs)) (l : fs.lookup f = some v) (q : Q v H) : kXf K a (.ref C) (some dd) f (.ref a) H Q :=
  ⟨rfl, C, dd, fs, v, rfl, X, n, rfl, hd, l, q⟩
theorem g_isX {K : PySem.W.Frag} {a D C dd : Addr} {fs : List (Str × V)} {b : Bool} {H : Hp} {Q : VK} (I : IsC K D) (hd : H dd = some (.xd fs)) (k : PySem.W.kitOne K (.ref D) (.ref C) = some b) (q : Q (.bl b) H) : rIsY K a (.ref D) (some dd) [.ref a, .ref C] H Q :=
  .inl ⟨D, .ref C, .ref C, b, rfl, I, .inr ⟨dd, fs, rfl, hd⟩, rfl, fun u r => r, k, q⟩
theorem g_isXT {K : PySem.W.Frag} {a D dd : Addr} {n : String} {fs : List (Str × V)} {b : Bool} {H : Hp} {Q : VK} (I : IsC K D) (hd : H dd = some (.xd fs)) (k : PySem.W.kitOne K (.ref D) (.type n) = some b) (q : Q (.bl b) H) : rIsY K a (.ref D) (some dd) [.ref a, .ty n] H Q :=
  .inl ⟨D, .ty n, .type n, b, rfl, I, .inr ⟨dd, fs, rfl, hd⟩, rfl, fun u r => r, k, q⟩
theorem exm_own {K : PySem.W.Frag} {C : Addr} {cls : Value} {b : Bool} (h1 : PySem.W.subIn K (.ref C) (.type "BaseException") = some true) (hc : PySem.W.isClsIn K C = true) (ht : PySem.W.typeIn K (.ref C) = some (.type "type")) (h4 : PySem.W.subIn K cls (.ref C) = some b) : PySem.W.exmOne K cls (.ref C) = some b := by
  have hc' : (PySem.W.clsIn K C).isSome = true := hc
  have e1 : (PySem.W.subIn K (.ref C) (.type "BaseException") == some true) = true := by rw [h1] <;> rfl
  have e2 : ((PySem.W.clsIn K C).isSome && PySem.W.typeIn K (.ref C) == some (.type "type")) = true := by rw [hc', ht] <;> rfl
  show (if (PySem.W.subIn K (.ref C) (.type "BaseException") == some true) = true then (if ((PySem.W.clsIn K C).isSome && PySem.W.typeIn K (.ref C) == some (.type "type")) = true then PySem.W.subIn K cls (.ref C) else none) else none) = some b
  rw [if_pos e1, if_pos e2]
  exact h4
theorem kit_own {K : PySem.W.Frag} {D C : Addr} {b : Bool} (hs : PySem.W.subIn K (.ref D) (.ref D) = some true) (h4 : PySem.W.subIn K (.ref D) (.ref C) = some b) (hc : PySem.W.isClsIn K C = true) (ht : PySem.W.typeIn K (.ref C) = some (.type "type")) : PySem.W.kitOne K (.ref D) (.ref C) = some b := by
  have hc' : (PySem.W.clsIn K C).isSome = true := hc
  unfold PySem.W.kitOne
  by_cases e : (Value.ref D == Value.ref C) = true
  · rw [if_pos e]
    have e2 : D = C := Value.ref.inj (beq_iff_eq.mp e)
    subst e2
    rw [hs] at h4
    exact h4
  · rw [if_neg e]
    have e2 : ((PySem.W.clsIn K C).isSome && PySem.W.typeIn K (.ref C) == some (.type "type")) = true := by rw [hc', ht] <;> rfl
    show (if ((PySem.W.clsIn K C).isSome && PySem.W.typeIn K (.ref C) == some (.type "type")) = true then PySem.W.subIn K (.ref D) (.ref C) else none) = some b
    rw [if_pos e2]
    exact h4
theorem kit_ve {K : PySem.W.Frag} {D : Addr} (h : PySem.W.subIn K (.ref D) (.type "ValueError") = some true) : PySem.W.kitOne K (.ref D) (.type "ValueError") = some true := by
  have e : ¬ (Value.ref D == Value.type "ValueError") = true := by
    intro z
    cases (beq_iff_eq.mp z)
  unfold PySem.W.kitOne
  rw [if_neg e]
  show (if PySem.W.kitMeta "ValueError" = true then PySem.W.subIn K (.ref D) (.type "ValueError") else none) = some true
  rw [if_pos (by decide +kernel)]
  exact h
theorem hot_suite {X : Cx} {a : Addr} {oe : Obj} {cls : Value} {d : Option Addr} {pn : List (Addr × Obj)} (hz : L2N.Zn cls d oe) (hf : ∃ vs, oe.data = .fields vs) : L2H.HotC (X.suite a ((a, oe) :: pn)) := by
  obtain ⟨vs, hv⟩ := hf
  exact ⟨(a, oe), ⟨rfl, vs, hv, hz.2.2 vs hv⟩, List.mem_cons_self⟩
end Qk

namespace K02
open PySem PySem.Spec PyProof.Rows L2 Qk
/-! ### the text -/
def topS (i : Nat) : Stmt := PySem.Challenge.pw_partclones_k02_edits_refused.main.body.getD i (.Pass ⟨0, 0, 0, 0⟩)
abbrev s_follows : Stmt := topS 7
abbrev n_follows : List Str := ["item", "end", "place", "removed", "added"]
theorem sc_follows : FnScope n_follows ["item", "end"] (defScope s_follows) := ⟨rfl, rfl, rfl, by decide +kernel, rfl, by decide +kernel, by decide +kernel⟩
abbrev s_fits : Stmt := topS 8
abbrev n_fits : List Str := ["old", "edit", "place", "removed", "_"]
theorem sc_fits : FnScope n_fits ["old", "edit"] (defScope s_fits) := ⟨rfl, rfl, rfl, by decide +kernel, rfl, by decide +kernel, by decide +kernel⟩
abbrev s_end_of : Stmt := topS 9
abbrev n_end_of : List Str := ["edit"]
theorem sc_end_of : FnScope n_end_of ["edit"] (defScope s_end_of) := ⟨rfl, rfl, rfl, by decide +kernel, rfl, by decide +kernel, by decide +kernel⟩
abbrev s_apply_edits : Stmt := topS 10
abbrev n_apply_edits : List Str := ["old", "edits", "end", "at", "edit", "lines", "start", "place", "removed", "added"]
theorem sc_apply_edits : FnScope n_apply_edits ["old", "edits"] (defScope s_apply_edits) := ⟨rfl, rfl, rfl, by decide +kernel, rfl, by decide +kernel, by decide +kernel⟩
abbrev s_inverse_edits : Stmt := topS 11
abbrev n_inverse_edits : List Str := ["edits", "end", "at", "edit", "inverse", "shift", "place", "removed", "added"]
theorem sc_inverse_edits : FnScope n_inverse_edits ["edits"] (defScope s_inverse_edits) := ⟨rfl, rfl, rfl, by decide +kernel, rfl, by decide +kernel, by decide +kernel⟩
abbrev s_l_feed : Stmt := topS 13
abbrev n_l_feed : List Str := ["script", "cell"]
theorem sc_l_feed : FnScope n_l_feed ["script"] (defScope s_l_feed) := ⟨rfl, rfl, rfl, by decide +kernel, rfl, by decide +kernel, by decide +kernel⟩
abbrev s_l_next : Stmt := topS 14
abbrev n_l_next : List Str := ["cells", "many", "number"]
theorem sc_l_next : FnScope n_l_next ["cells", "many"] (defScope s_l_next) := ⟨rfl, rfl, rfl, by decide +kernel, rfl, by decide +kernel, by decide +kernel⟩
abbrev s_l_same : Stmt := topS 15
abbrev n_l_same : List Str := ["told", "due", "k"]
theorem sc_l_same : FnScope n_l_same ["told", "due"] (defScope s_l_same) := ⟨rfl, rfl, rfl, by decide +kernel, rfl, by decide +kernel, by decide +kernel⟩
abbrev s_l_menu : Stmt := topS 16
abbrev n_l_menu : List Str := ["place", "lines"]
theorem sc_l_menu : FnScope n_l_menu ["place"] (defScope s_l_menu) := ⟨rfl, rfl, rfl, by decide +kernel, rfl, by decide +kernel, by decide +kernel⟩
abbrev s_l_good : Stmt := topS 17
abbrev n_l_good : List Str := ["cells", "text", "lines", "edits", "end", "k", "place", "many", "removed", "picks", "added", "j", "pick"]
theorem sc_l_good : FnScope n_l_good ["cells", "text", "lines"] (defScope s_l_good) := ⟨rfl, rfl, rfl, by decide +kernel, rfl, by decide +kernel, by decide +kernel⟩
abbrev s_l_bent : Stmt := topS 18
abbrev n_l_bent : List Str := ["cells", "text", "lines", "good", "bent", "end", "k", "place", "removed", "added", "kind", "line", "places", "odd", "elder", "at"]
theorem sc_l_bent : FnScope n_l_bent ["cells", "text", "lines", "good"] (defScope s_l_bent) := ⟨rfl, rfl, rfl, by decide +kernel, rfl, by decide +kernel, by decide +kernel⟩
abbrev s_l_first_bad : Stmt := topS 19
abbrev n_l_first_bad : List Str := ["text", "edits", "end", "k", "place", "removed"]
theorem sc_l_first_bad : FnScope n_l_first_bad ["text", "edits"] (defScope s_l_first_bad) := ⟨rfl, rfl, rfl, by decide +kernel, rfl, by decide +kernel, by decide +kernel⟩
abbrev s_l_replaced : Stmt := topS 20
abbrev n_l_replaced : List Str := ["text", "edits", "lines", "edit"]
theorem sc_l_replaced : FnScope n_l_replaced ["text", "edits"] (defScope s_l_replaced) := ⟨rfl, rfl, rfl, by decide +kernel, rfl, by decide +kernel, by decide +kernel⟩
abbrev s_l_back : Stmt := topS 21
abbrev n_l_back : List Str := ["edits", "back", "shift", "edit"]
theorem sc_l_back : FnScope n_l_back ["edits"] (defScope s_l_back) := ⟨rfl, rfl, rfl, by decide +kernel, rfl, by decide +kernel, by decide +kernel⟩
abbrev s_l_applies : Stmt := topS 22
abbrev n_l_applies : List Str := ["text", "edits", "bad", "passed", "told", "e", "kinds"]
theorem sc_l_applies : FnScope n_l_applies ["text", "edits"] (defScope s_l_applies) := ⟨rfl, rfl, rfl, by decide +kernel, rfl, by decide +kernel, by decide +kernel⟩
abbrev s_l_turns : Stmt := topS 23
abbrev n_l_turns : List Str := ["edits", "bad", "passed", "told", "e", "kinds"]
theorem sc_l_turns : FnScope n_l_turns ["edits"] (defScope s_l_turns) := ⟨rfl, rfl, rfl, by decide +kernel, rfl, by decide +kernel, by decide +kernel⟩
abbrev s_law : Stmt := topS 24
abbrev n_law : List Str := ["script", "cells", "lines", "size", "text", "good", "bent", "edits", "k"]
theorem sc_law : FnScope n_law ["script"] (defScope s_law) := ⟨rfl, rfl, rfl, by decide +kernel, rfl, by decide +kernel, by decide +kernel⟩
structure Txt (K : PySem.W.Frag) (mg : Str → Option Value) where
  f_follows : Addr
  fd_follows : FuncData
  F_follows : Fun K "_follows" "_follows" s_follows f_follows fd_follows
  g_follows : mg "_follows" = some (.ref f_follows)
  b_follows : Binds K fd_follows ["item", "end"] []
  f_fits : Addr
  fd_fits : FuncData
  F_fits : Fun K "_fits" "_fits" s_fits f_fits fd_fits
  g_fits : mg "_fits" = some (.ref f_fits)
  b_fits : Binds K fd_fits ["old", "edit"] []
  f_end_of : Addr
  fd_end_of : FuncData
  F_end_of : Fun K "_end_of" "_end_of" s_end_of f_end_of fd_end_of
  g_end_of : mg "_end_of" = some (.ref f_end_of)
  b_end_of : Binds K fd_end_of ["edit"] []
  f_apply_edits : Addr
  fd_apply_edits : FuncData
  F_apply_edits : Fun K "apply_edits" "apply_edits" s_apply_edits f_apply_edits fd_apply_edits
  g_apply_edits : mg "apply_edits" = some (.ref f_apply_edits)
  b_apply_edits : Binds K fd_apply_edits ["old", "edits"] []
  f_inverse_edits : Addr
  fd_inverse_edits : FuncData
  F_inverse_edits : Fun K "inverse_edits" "inverse_edits" s_inverse_edits f_inverse_edits fd_inverse_edits
  g_inverse_edits : mg "inverse_edits" = some (.ref f_inverse_edits)
  b_inverse_edits : Binds K fd_inverse_edits ["edits"] []
  f_l_feed : Addr
  fd_l_feed : FuncData
  F_l_feed : Fun K "_law_feed" "_law_feed" s_l_feed f_l_feed fd_l_feed
  g_l_feed : mg "_law_feed" = some (.ref f_l_feed)
  b_l_feed : Binds K fd_l_feed ["script"] []
  f_l_next : Addr
  fd_l_next : FuncData
  F_l_next : Fun K "_law_next" "_law_next" s_l_next f_l_next fd_l_next
  g_l_next : mg "_law_next" = some (.ref f_l_next)
  b_l_next : Binds K fd_l_next ["cells", "many"] []
  f_l_same : Addr
  fd_l_same : FuncData
  F_l_same : Fun K "_law_same" "_law_same" s_l_same f_l_same fd_l_same
  g_l_same : mg "_law_same" = some (.ref f_l_same)
  b_l_same : Binds K fd_l_same ["told", "due"] []
  f_l_menu : Addr
  fd_l_menu : FuncData
  F_l_menu : Fun K "_law_menu" "_law_menu" s_l_menu f_l_menu fd_l_menu
  g_l_menu : mg "_law_menu" = some (.ref f_l_menu)
  b_l_menu : Binds K fd_l_menu ["place"] []
  f_l_good : Addr
  fd_l_good : FuncData
  F_l_good : Fun K "_law_good" "_law_good" s_l_good f_l_good fd_l_good
  g_l_good : mg "_law_good" = some (.ref f_l_good)
  b_l_good : Binds K fd_l_good ["cells", "text", "lines"] []
  f_l_bent : Addr
  fd_l_bent : FuncData
  F_l_bent : Fun K "_law_bent" "_law_bent" s_l_bent f_l_bent fd_l_bent
  g_l_bent : mg "_law_bent" = some (.ref f_l_bent)
  b_l_bent : Binds K fd_l_bent ["cells", "text", "lines", "good"] []
  f_l_first_bad : Addr
  fd_l_first_bad : FuncData
  F_l_first_bad : Fun K "_law_first_bad" "_law_first_bad" s_l_first_bad f_l_first_bad fd_l_first_bad
  g_l_first_bad : mg "_law_first_bad" = some (.ref f_l_first_bad)
  b_l_first_bad : Binds K fd_l_first_bad ["text", "edits"] []
  f_l_replaced : Addr
  fd_l_replaced : FuncData
  F_l_replaced : Fun K "_law_replaced" "_law_replaced" s_l_replaced f_l_replaced fd_l_replaced
  g_l_replaced : mg "_law_replaced" = some (.ref f_l_replaced)
  b_l_replaced : Binds K fd_l_replaced ["text", "edits"] []
  f_l_back : Addr
  fd_l_back : FuncData
  F_l_back : Fun K "_law_back" "_law_back" s_l_back f_l_back fd_l_back
  g_l_back : mg "_law_back" = some (.ref f_l_back)
  b_l_back : Binds K fd_l_back ["edits"] []
  f_l_applies : Addr
  fd_l_applies : FuncData
  F_l_applies : Fun K "_law_applies" "_law_applies" s_l_applies f_l_applies fd_l_applies
  g_l_applies : mg "_law_applies" = some (.ref f_l_applies)
  b_l_applies : Binds K fd_l_applies ["text", "edits"] []
  f_l_turns : Addr
  fd_l_turns : FuncData
  F_l_turns : Fun K "_law_turns" "_law_turns" s_l_turns f_l_turns fd_l_turns
  g_l_turns : mg "_law_turns" = some (.ref f_l_turns)
  b_l_turns : Binds K fd_l_turns ["edits"] []
  f_law : Addr
  fd_law : FuncData
  F_law : Fun K "law" "law" s_law f_law fd_law
  g_law : mg "law" = some (.ref f_law)
  b_law : Binds K fd_law ["script"] []
  C_PartError : Addr
  g_PartError : mg "PartError" = some (.ref C_PartError)
  C_BadText : Addr
  g_BadText : mg "BadText" = some (.ref C_BadText)
  C_BadEdit : Addr
  g_BadEdit : mg "BadEdit" = some (.ref C_BadEdit)
  fi_BadEdit : Addr
  fdi_BadEdit : FuncData
  Fi_BadEdit : Fun K "__init__" "BadEdit.__init__" (inClass (topS 3) 0) fi_BadEdit fdi_BadEdit
  bi_BadEdit : Binds K fdi_BadEdit ["self", "place"] []
  O_BadEdit : OexC K C_BadEdit
  iC_BadEdit : PySem.W.findIn K (.ref C_BadEdit) "__init__" = some (some (.ref fi_BadEdit))
  tI_BadEdit : PySem.W.typeIn K (.ref fi_BadEdit) = some (.type "function")
  N_BadEdit_place : PySem.W.findIn K (.ref C_BadEdit) "place" = some none
  XF_BadEdit : XfC K C_BadEdit
  IS_BadEdit : IsC K C_BadEdit
  C_Misfit : Addr
  g_Misfit : mg "Misfit" = some (.ref C_Misfit)
  M_BadEdit_BadEdit : PySem.W.exmOne K (.ref C_BadEdit) (.ref C_BadEdit) = some true
  K_BadEdit_BadText : PySem.W.kitOne K (.ref C_BadEdit) (.ref C_BadText) = some false
  K_BadEdit_Misfit : PySem.W.kitOne K (.ref C_BadEdit) (.ref C_Misfit) = some false
  K_BadEdit_PartError : PySem.W.kitOne K (.ref C_BadEdit) (.ref C_PartError) = some true
  K_BadEdit_ValueError : PySem.W.kitOne K (.ref C_BadEdit) (.type "ValueError") = some true
  m_ValueError : mg "ValueError" = none
  m_abs : mg "abs" = none
  m_bool : mg "bool" = none
  m_enumerate : mg "enumerate" = none
  m_int : mg "int" = none
  m_isinstance : mg "isinstance" = none
  m_len : mg "len" = none
  m_list : mg "list" = none
  m_max : mg "max" = none
  m_range : mg "range" = none
  m_str : mg "str" = none
  m_tuple : mg "tuple" = none
  k_LAST_PLACE : ∃ u, mg "LAST_PLACE" = some u ∧ RelV (.int 400) u
section
variable {P : Program} {w : World} {K : PySem.W.Frag} {mg : Str → Option Value} {base : Heap}
theorem sc_init_BadEdit : FnScope ["self", "place"] ["self", "place"] (defScope (inClass (topS 3) 0)) := ⟨rfl, rfl, rfl, by decide +kernel, rfl, by decide +kernel, by decide +kernel⟩
theorem ok_init_BadEdit (T : Txt K mg) : FnOk P w K mg base CX0 1 T.fi_BadEdit T.fdi_BadEdit ["self", "place"] (sp_oinit T.C_BadEdit ["place"]) := by
  refine T.Fi_BadEdit.ok sc_init_BadEdit (fun vs H Q E h => sp_oinit_len h) (fun cdv A outer s H vs Q E hr h => ?_)
  refine ⟨_, (pss_one (ps_ost (pv 0) (pv 1))), ?_⟩
  obtain ⟨a, ws, rfl, hl, ha, q⟩ := h
  match ws, hl with
  | [v1], _ =>
  refine ⟨_, rfl, _, rfl, a, T.C_BadEdit, rfl, T.O_BadEdit, T.N_BadEdit_place, .inl ⟨ha, fun dx n ne => ?_⟩⟩
  have z := q dx n ne
  first | exact z | (rw [upd_over ne]; exact z) | (rw [upd_over ne, upd_over ne]; exact z)
end
local macro_rules | `(tactic| walk_at "m") => `(tactic| ((repeat (first | exact List.Mem.head _ | apply List.Mem.tail)); done))
local macro_rules | `(tactic| walk_at "h") => `(tactic| first | assumption | exact Has.gF (by assumption) (by assumption) | exact Has.get (by assumption) (by walk_at "m"))
local macro_rules | `(tactic| walk_at "c") => `(tactic| ((repeat (first | exact Chg.hd | apply Chg.tl)); done))
local macro_rules | `(tactic| walk_at "is") => `(tactic| first
  | ((with_reducible refine' is2_non ?gh ?_); (case gh => walk_at "h"))
  | (with_reducible refine is_int_list ?_)
  | (with_reducible refine is_int_tuple ?_)
  | (with_reducible refine is_int_dict ?_)
  | (with_reducible refine is_int_int ?_)
  | (with_reducible refine is_int_bool ?_)
  | (with_reducible refine is_int_str ?_)
  | ((with_reducible refine' is2_int ?gh ?_); (case gh => walk_at "h"))
  | (with_reducible refine is_str_list ?_)
  | (with_reducible refine is_str_tuple ?_)
  | (with_reducible refine is_str_dict ?_)
  | (with_reducible refine is_str_int ?_)
  | (with_reducible refine is_str_bool ?_)
  | (with_reducible refine is_str_str ?_)
  | ((with_reducible refine' is2_str ?gh ?_); (case gh => walk_at "h"))
  | (with_reducible refine is_bool_list ?_)
  | (with_reducible refine is_bool_tuple ?_)
  | (with_reducible refine is_bool_dict ?_)
  | (with_reducible refine is_bool_int ?_)
  | (with_reducible refine is_bool_bool ?_)
  | (with_reducible refine is_bool_str ?_)
  | ((with_reducible refine' is2_bool ?gh ?_); (case gh => walk_at "h"))
  | ((with_reducible refine' is_list_list ?gh ?_); (case gh => walk_at "h"))
  | ((with_reducible refine' is_list_tuple ?gh ?_); (case gh => walk_at "h"))
  | ((with_reducible refine' is_list_dict ?gh ?_); (case gh => walk_at "h"))
  | ((with_reducible refine' is_list_int ?gh ?_); (case gh => walk_at "h"))
  | ((with_reducible refine' is_list_bool ?gh ?_); (case gh => walk_at "h"))
  | ((with_reducible refine' is_list_str ?gh ?_); (case gh => walk_at "h"))
  | ((with_reducible refine' is2_list ?ga ?gb ?_); (case ga => walk_at "h"); (case gb => walk_at "h"))
  | ((with_reducible refine' is_tuple_list ?gh ?_); (case gh => walk_at "h"))
  | ((with_reducible refine' is_tuple_tuple ?gh ?_); (case gh => walk_at "h"))
  | ((with_reducible refine' is_tuple_dict ?gh ?_); (case gh => walk_at "h"))
  | ((with_reducible refine' is_tuple_int ?gh ?_); (case gh => walk_at "h"))
  | ((with_reducible refine' is_tuple_bool ?gh ?_); (case gh => walk_at "h"))
  | ((with_reducible refine' is_tuple_str ?gh ?_); (case gh => walk_at "h"))
  | ((with_reducible refine' is2_tuple ?ga ?gb ?_); (case ga => walk_at "h"); (case gb => walk_at "h"))
  | ((with_reducible refine' is_dict_list ?gh ?_); (case gh => walk_at "h"))
  | ((with_reducible refine' is_dict_tuple ?gh ?_); (case gh => walk_at "h"))
  | ((with_reducible refine' is_dict_dict ?gh ?_); (case gh => walk_at "h"))
  | ((with_reducible refine' is_dict_int ?gh ?_); (case gh => walk_at "h"))
  | ((with_reducible refine' is_dict_bool ?gh ?_); (case gh => walk_at "h"))
  | ((with_reducible refine' is_dict_str ?gh ?_); (case gh => walk_at "h"))
  | ((with_reducible refine' is2_dict ?ga ?gb ?_); (case ga => walk_at "h"); (case gb => walk_at "h")))
local macro_rules | `(tactic| walk_at "g") => `(tactic| first
  | (with_reducible refine g_seq ?_)
  | (with_reducible refine g_asg ?_)
  | ((with_reducible refine g_name ?_); dsimp only [List.set, wipe, List.map])
  | ((with_reducible refine' g_var ?gv ?_); (case gv => exact rfl))
  | (with_reducible refine g_c ?_)
  | (with_reducible refine g_op ?_)
  | (with_reducible refine g_cons ?_)
  | (with_reducible refine g_nil ?_)
  | (with_reducible refine g_cb ?_)
  | (with_reducible refine g_call ?_)
  | (with_reducible refine g_tup ?_)
  | (with_reducible refine g_lst ?_)
  | (with_reducible refine g_bm ?_)
  | (with_reducible refine g_bm0 ?_)
  | ((with_reducible refine' g_kbm ?gh ?_); (case gh => walk_at "h"))
  | (with_reducible refine g_drop ?_)
  | (with_reducible refine g_ret ?_)
  | (with_reducible refine g_retN ?_)
  | (with_reducible refine g_next ?_)
  | (with_reducible refine g_brk ?_)
  | (with_reducible refine g_cont ?_)
  | (with_reducible refine g_if ?_)
  | ((with_reducible refine' g_aug ?gv ?_); (case gv => exact rfl))
  | (with_reducible refine g_ipI ?_)
  | (with_reducible refine g_test ?_)
  | (with_reducible refine g_tB ?_)
  | (with_reducible refine g_kB ?_)
  | (with_reducible refine g_not ?_)
  | (with_reducible refine g_and ?_)
  | (with_reducible refine g_or ?_)
  | (with_reducible refine g_andV ?_)
  | (with_reducible refine g_orV ?_)
  | (with_reducible refine g_notV ?_)
  | (with_reducible refine g_ifE ?_)
  | (with_reducible refine g_addI ?_)
  | (with_reducible refine g_rI0 ?_)
  | (with_reducible refine g_eqI ?_)
  | (with_reducible refine g_eqS ?_)
  | (with_reducible refine g_neI ?_)
  | (with_reducible refine g_neS ?_)
  | (with_reducible refine g_isN ?_)
  | (with_reducible refine g_notN ?_)
  | (with_reducible refine g_int ?_)
  | (with_reducible refine g_max2 ?_)
  | ((with_reducible refine' g_lenL ?gh ?_); (case gh => walk_at "h"))
  | (with_reducible refine g_sub ?_)
  | (with_reducible refine g_gcons ?_)
  | (with_reducible refine g_gnil ?_)
  | (with_reducible refine g_un ?_)
  | (with_reducible refine g_rU ?_)
  | (with_reducible refine g_forL ?_)
  | (with_reducible refine g_forR1 ?_)
  | (with_reducible refine g_forR2 ?_)
  | (with_reducible refine g_forR3 ?_)
  | (with_reducible refine g_lcL ?_)
  | (with_reducible refine g_lcR1 ?_)
  | (with_reducible refine g_lcR2 ?_)
  | (with_reducible refine g_slice ?_)
  | (with_reducible refine g_part ?_)
  | (with_reducible refine g_kOI ?_)
  | (with_reducible refine g_nopart ?_)
  | (with_reducible refine g_yes ?_)
  | ((with_reducible refine' g_wipe ?gv ?_); (case gv => exact rfl))
  | (with_reducible refine iteT ?_)
  | (with_reducible refine iteF ?_)
  | (with_reducible refine i_nf ?_)
  | (with_reducible refine i_nt ?_)
  | ((with_reducible refine' g_gtup ?gh ?gl ?_); (case gh => walk_at "h"); (case gl => exact rfl))
  | ((with_reducible refine' g_notinI ?gh ?_); (case gh => walk_at "h"))
  | ((with_reducible refine' g_inI ?gh ?_); (case gh => walk_at "h"))
  | ((with_reducible refine' g_kget2 ?gh ?_); (case gh => walk_at "h"))
  | ((with_reducible refine' g_kgotI ?gh ?_); (case gh => walk_at "h"))
  | (with_reducible refine g_tRev ?_)
  | (with_reducible refine g_neB ?_)
  | (with_reducible refine g_eqB ?_)
  | ((with_reducible refine' g_lenT ?gh ?_); (case gh => walk_at "h"))
  | (with_reducible refine g_star ?_)
  | ((with_reducible refine' g_kstarL ?gh ?_); (case gh => walk_at "h"))
  | ((with_reducible refine' g_kstarT ?gh ?_); (case gh => walk_at "h"))
  | (with_reducible refine g_tru ?_)
  | ((with_reducible refine' g_truL ?gh ?_); (case gh => walk_at "h"))
  | (with_reducible refine g_get2 ?_)
  | (with_reducible refine g_try ?_)
  | (with_reducible refine g_callS ?_)
  | (with_reducible refine g_raise ?_)
  | (with_reducible refine g_xf ?_)
  | walk_at "is")
local macro_rules | `(tactic| walk_at "gg") => `(tactic| repeat walk_at "g")
local macro_rules | `(tactic| walk_at "sz") => `(tactic| (refine sz ?_; simp only [List.length_cons, List.length_nil, List.length_map, List.length_append, List.length_replicate]; omega))
local macro_rules | `(tactic| walk_at "sub") => `(tactic| ((repeat (first | exact List.Sublist.slnil | with_reducible apply List.Sublist.cons_cons | with_reducible apply List.Sublist.cons)); done))

/-- a constant of the program's text -/
theorem pe_gc {X : Cx} {x : Str} {pos : Pos} {v : V} (hg : Gl X x) (h : ∃ u, X.mg x = some u ∧ RelV v u) (hd : (x == ("__debug__" : Str)) = false := by decide) : PE X (.Name x pos) (tC v) := by
  obtain ⟨u, hm, r⟩ := h
  exact pe_glob hg hm r hd

def kForE (K : PySem.W.Frag) (g : TG) (tb : TS) (D : Ends) (σ : L2.St) (vs : List V) (H : Hp) : Prop := ∃ a xs, vs = [.ref a] ∧ SqL K H a xs ∧ kW (Ite K a) g tb D σ H
theorem g_forE {K : PySem.W.Frag} {σ : L2.St} {H : Hp} {D : Ends} {ts : TS} {g : TG} {ta : TA} (q : ta σ H fun vs H1 => kForE K g ts D σ vs H1) : tFor (iEnum K ta) g ts D σ H := by
  have e : (tFor (iEnum K ta) g ts D σ H) = (ta σ H fun vs H1 => kForE K g ts D σ vs H1) := rfl
  rw [e]
  exact q
theorem k_forE {K : PySem.W.Frag} {σ : L2.St} {H : Hp} {D : Ends} {ts : TS} {g : TG} {a : Addr} {xs : List V} (h : H a = some (.lst xs)) (Pv : Nat → L2.St → Hp → Prop) (h0 : Pv 0 σ H) (hl : ∀ i σ H, Pv i σ H → H a = some (.lst xs))
    (hs : ∀ i x σ H T, xs[i]? = some x → Pv i σ H → H T = none → g (.ref T) σ (upd H T (.tup [.int (i : Nat), x])) fun σ2 H2 => ts { D with nx := Pv (i + 1), ct := Pv (i + 1), bk := D.nx } σ2 H2) (hd : ∀ σ H, Pv xs.length σ H → D.nx σ H) : kForE K g ts D σ [.ref a] H := by
  refine ⟨a, xs, rfl, SqL.of h, fun i m σ H => m = xs.length - i ∧ i ≤ xs.length ∧ Pv i σ H, ⟨_, rfl, Nat.zero_le _, h0⟩, ?_⟩
  rintro i m σ H1 ⟨rfl, hi, p⟩
  have hq : SqL K H1 a xs := SqL.of (hl i σ H1 p)
  by_cases hlt : i < xs.length
  · refine .inr ⟨⟨xs, xs[i], hq, List.getElem?_eq_getElem hlt⟩, Pv (i + 1), fun σ' H' p' => ⟨xs.length - (i + 1), by omega, rfl, hlt, p'⟩, ?_⟩
    rintro x H' ⟨T, y, rfl, n, rfl, e⟩
    exact hs i y σ H1 T (e xs hq) p n
  · have e : i = xs.length := by omega
    subst e
    exact .inl ⟨⟨xs, hq, Nat.le_refl _⟩, hd σ H1 p⟩
local macro_rules | `(tactic| walk_at "g") => `(tactic| (with_reducible refine g_forE ?_))

/-! ### edits with any place; the first one that is none -/
def cut (L : List Str) (i a : Nat) : List Str := (L.drop i).take (a - i)
theorem cut_len (L : List Str) {i a : Nat} (h : a ≤ L.length) : (cut L i a).length = a - i := by
  unfold cut
  rw [List.length_take, List.length_drop]
  omega
theorem cut_le (L : List Str) (i a : Nat) : (cut L i a).length ≤ L.length ∧ (cut L i a).length ≤ a - i ∧ i ≤ L.length → (cut L i a).length ≤ L.length := fun h => h.1
theorem cut_leA (L : List Str) (i a : Nat) : (cut L i a).length ≤ L.length := by
  unfold cut
  rw [List.length_take, List.length_drop]
  omega
theorem cut_mem {B : List Str} {i a : Nat} {x : Str} (h : x ∈ cut B i a) : x ∈ B := List.mem_of_mem_drop (List.mem_of_mem_take h)
theorem cutV_str (L : List Str) (i a : Nat) : cutV (L.map V.str) (some (i : Int)) (some (a : Int)) = (cut L i a).map V.str := by
  rw [cutV_nat, ← List.map_drop, ← List.map_take]
  rfl
def okL (xs : List Str) : Prop := ∀ x ∈ xs, PyData.strOk x = true
def tS (ls : List Str) : PyData := .tuple (ls.map PyData.str)
theorem dq_tS {H : Hp} {a : Addr} {xs : List Str} (h : H a = some (.tup (xs.map V.str))) : Dq H (.ref a) (tS xs) := .tup h (DqAll.strs xs)
theorem tS_inv {H : Hp} {v : V} {xs : List Str} (h : Dq H v (tS xs)) : ∃ a, v = .ref a ∧ H a = some (.tup (xs.map V.str)) := by
  cases h with
  | tup s a =>
    rw [a.of_strs] at s
    exact ⟨_, rfl, s⟩
theorem tS_noL (xs : List Str) : noL (tS xs) = true := by
  unfold tS
  rw [noL]
  exact noLs_mem fun d hd => by
    obtain ⟨x, _, rfl⟩ := List.mem_map.mp hd
    rfl
theorem sh_tS {n : Nat} {xs : List Str} (h : okL xs) : Sh (n + 1) (tS xs) := Sh.tuple fun d hd => by
  obtain ⟨x, hx, rfl⟩ := List.mem_map.mp hd
  exact Sh.str (h x hx)
theorem eqv_tS (xs ys : List Str) : PyData.eqv (tS xs) (tS ys) = decide (xs = ys) := eqv_tstrs xs ys
abbrev E2 := Int × List Str × List Str
def e2D (e : E2) : PyData := .tuple [.int e.1, tS e.2.1, tS e.2.2]
theorem e2_at {F : Hp} {v : V} {e : E2} (h : Dq F v (e2D e)) : ∃ T tr td, v = .ref T ∧ F T = some (.tup [.int e.1, .ref tr, .ref td]) ∧ F tr = some (.tup (e.2.1.map V.str)) ∧ F td = some (.tup (e.2.2.map V.str)) := by
  cases h with
  | @tup T _ _ hT hs =>
    cases hs with
    | cons h1 hs =>
      cases hs with
      | cons h2 hs =>
        cases hs with
        | cons h3 hs =>
          cases hs
          cases h1
          obtain ⟨tr, rfl, er⟩ := tS_inv h2
          obtain ⟨td, rfl, ed⟩ := tS_inv h3
          exact ⟨T, tr, td, rfl, hT, er, ed⟩
theorem e2_mk {F : Hp} {T tr td : Addr} {e : E2} (hT : F T = some (.tup [.int e.1, .ref tr, .ref td])) (er : F tr = some (.tup (e.2.1.map V.str))) (ed : F td = some (.tup (e.2.2.map V.str))) : Dq F (.ref T) (e2D e) :=
  .tup hT (.cons (.int _) (.cons (dq_tS er) (.cons (dq_tS ed) .nil)))
theorem e2_noL (e : E2) : noL (e2D e) = true := by
  unfold e2D
  rw [noL]
  refine noLs_mem fun d hd => ?_
  simp only [List.mem_cons, List.not_mem_nil, or_false] at hd
  rcases hd with rfl | rfl | rfl
  · rfl
  · exact tS_noL _
  · exact tS_noL _
theorem e2s_noL {es : List E2} : ∀ d ∈ es.map e2D, noL d = true := fun d hd => by
  obtain ⟨e, _, rfl⟩ := List.mem_map.mp hd
  exact e2_noL e
/-- what is known of each edit -/
def e2ok (e : E2) : Prop := okL e.2.1 ∧ okL e.2.2 ∧ e.2.1.length ≤ 20 ∧ e.2.2.length ≤ 20
theorem sh_e2 {e : E2} (h : e2ok e) : Sh 2 (e2D e) := Sh.tuple fun d hd => by
  simp only [List.mem_cons, List.not_mem_nil, or_false] at hd
  rcases hd with rfl | rfl | rfl
  · exact Sh.int _
  · exact sh_tS h.1
  · exact sh_tS h.2.1
theorem sh_e2s {es : List E2} (h : ∀ e ∈ es, e2ok e) : Sh 3 (.list (es.map e2D)) := Sh.list fun d hd => by
  obtain ⟨e, he, rfl⟩ := List.mem_map.mp hd
  exact sh_e2 (h e he)
/-- the end of the edit before the k-th one -/
def endK (es : List E2) : Nat → Int
  | 0 => 0
  | k + 1 => match es[k]? with
    | some e => e.1 + (e.2.1.length : Int)
    | none => 0
def okE (T : Option (List Str)) (m : Int) (e : E2) : Prop := m ≤ e.1 ∧ e.1 ≤ 400 ∧ e.2.1.length + e.2.2.length > 0 ∧ ∀ t, T = some t → e.1 ≤ t.length ∧ cut t e.1.toNat (e.1.toNat + e.2.1.length) = e.2.1
def okK (T : Option (List Str)) (es : List E2) (k : Nat) : Prop := ∀ e, es[k]? = some e → okE T (endK es k) e
theorem endK_succ {es : List E2} {k : Nat} {e : E2} (h : es[k]? = some e) : endK es (k + 1) = e.1 + (e.2.1.length : Int) := by
  show (match es[k]? with
    | some e => e.1 + (e.2.1.length : Int)
    | none => 0) = _
  rw [h]
theorem endK_nn {T : Option (List Str)} {es : List E2} : ∀ {k : Nat}, k ≤ es.length → (∀ j, j < k → okK T es j) → 0 ≤ endK es k
  | 0, _, _ => Int.le_refl _
  | k + 1, h, ok => by
    have hk : k < es.length := h
    have e := List.getElem?_eq_getElem hk
    rw [endK_succ e]
    have := (ok k (by omega) _ e).1
    have := endK_nn (T := T) (es := es) (k := k) (by omega) fun j hj => ok j (by omega)
    omega
/-- the first one that is none: at most one -/
theorem first_one {T : Option (List Str)} {es : List E2} {j k : Nat} (hj : ∀ i, i < j → okK T es i) (nj : ¬ okK T es j) (hk : ∀ i, i < k → okK T es i) (nk : ¬ okK T es k) : j = k := by
  rcases Nat.lt_trichotomy j k with h | h | h
  · exact (nj (hk j h)).elim
  · exact h
  · exact (nk (hj k h)).elim
theorem nok_lt {T : Option (List Str)} {es : List E2} {k : Nat} (n : ¬ okK T es k) : k < es.length := by
  rcases Nat.lt_or_ge k es.length with h | h
  · exact h
  · exact (n fun e he => by rw [List.getElem?_eq_none h] at he; cases he).elim
/-! what the edits make -/
def ap2 (t : List Str) : Nat → List E2 → List Str
  | s, [] => t.drop s
  | s, e :: es => cut t s e.1.toNat ++ e.2.2 ++ ap2 t (e.1.toNat + e.2.1.length) es
def step2 (ls : List Str) (e : E2) : List Str := ls.take e.1.toNat ++ e.2.2 ++ ls.drop (e.1.toNat + e.2.1.length)
def Gd (t : List Str) : Nat → List E2 → Prop
  | _, [] => True
  | s, e :: es => s ≤ e.1.toNat ∧ 0 ≤ e.1 ∧ e.1.toNat + e.2.1.length ≤ t.length ∧ Gd t (e.1.toNat + e.2.1.length) es
theorem gd_of {t : List Str} {es : List E2} (ok : ∀ j, okK (some t) es j) : ∀ (n k : Nat), k + n = es.length → Gd t (endK es k).toNat (es.drop k)
  | 0, k, h => by
    rw [List.drop_of_length_le (by omega)]
    trivial
  | n + 1, k, h => by
    have hk : k < es.length := by omega
    have e := List.getElem?_eq_getElem hk
    rw [List.drop_eq_getElem_cons hk]
    obtain ⟨h1, h2, h3, h4⟩ := ok k _ e
    obtain ⟨h5, h6⟩ := h4 t rfl
    have h0 := endK_nn (T := some t) (es := es) (k := k) (by omega) fun j _ => ok j
    have l := congrArg List.length h6
    have lc := cut_len t (i := (es[k]).1.toNat) (a := (es[k]).1.toNat)
    have ih := gd_of ok n (k + 1) (by omega)
    rw [endK_succ e] at ih
    have e2 : ((es[k]).1 + ((es[k]).2.1.length : Int)).toNat = (es[k]).1.toNat + (es[k]).2.1.length := by omega
    rw [e2] at ih
    refine ⟨by omega, by omega, ?_, ih⟩
    unfold cut at l
    rw [List.length_take, List.length_drop] at l
    omega
theorem rp_ap {t : List Str} : ∀ (es : List E2) (s : Nat), s ≤ t.length → Gd t s es → es.foldr (fun e ls => step2 ls e) t = t.take s ++ ap2 t s es
  | [], s, h, _ => by
    show t = t.take s ++ t.drop s
    rw [List.take_append_drop]
  | e :: es, s, h, ⟨h1, h2, h3, h4⟩ => by
    rw [List.foldr_cons, rp_ap es _ h3 h4]
    unfold step2
    have l1 : (t.take (e.1.toNat + e.2.1.length)).length = e.1.toNat + e.2.1.length := by rw [List.length_take]; omega
    have a1 : (t.take (e.1.toNat + e.2.1.length) ++ ap2 t (e.1.toNat + e.2.1.length) es).take e.1.toNat = t.take e.1.toNat := by
      rw [List.take_append_of_le_length (by omega), List.take_take, Nat.min_eq_left (by omega)]
    have a2 : (t.take (e.1.toNat + e.2.1.length) ++ ap2 t (e.1.toNat + e.2.1.length) es).drop (e.1.toNat + e.2.1.length) = ap2 t (e.1.toNat + e.2.1.length) es := by
      rw [List.drop_append_of_le_length (by omega), List.drop_of_length_le (by omega), List.nil_append]
    rw [a1, a2]
    show _ = t.take s ++ (cut t s e.1.toNat ++ e.2.2 ++ ap2 t (e.1.toNat + e.2.1.length) es)
    have a3 : t.take e.1.toNat = t.take s ++ cut t s e.1.toNat := by
      unfold cut
      have : e.1.toNat = s + (e.1.toNat - s) := by omega
      conv => lhs; rw [this]
      rw [List.take_add]
    rw [a3, List.append_assoc, List.append_assoc, List.append_assoc]
theorem ap2_len {t : List Str} : ∀ (es : List E2) (s : Nat), (∀ e ∈ es, e.2.2.length ≤ 20) → (ap2 t s es).length ≤ (es.length + 1) * t.length + 20 * es.length
  | [], s, _ => by
    show (t.drop s).length ≤ _
    rw [List.length_drop, List.length_nil]
    omega
  | e :: es, s, h => by
    show (cut t s e.1.toNat ++ e.2.2 ++ ap2 t (e.1.toNat + e.2.1.length) es).length ≤ _
    rw [List.length_append, List.length_append, List.length_cons]
    have h1 := cut_leA t s e.1.toNat
    have h2 := h e List.mem_cons_self
    have h3 := ap2_len (t := t) es (e.1.toNat + e.2.1.length) fun x hx => h x (List.mem_cons_of_mem _ hx)
    have e1 : (es.length + 1 + 1) * t.length = (es.length + 1) * t.length + t.length := by rw [Nat.succ_mul]
    omega
theorem ap2_at {t : List Str} {s i : Nat} {es : List E2} {e : E2} (h : es[i]? = some e) : ap2 t s (es.drop i) = cut t s e.1.toNat ++ e.2.2 ++ ap2 t (e.1.toNat + e.2.1.length) (es.drop (i + 1)) := by
  have ht := (List.getElem?_eq_some_iff.mp h).1
  rw [List.drop_eq_getElem_cons ht, (List.getElem?_eq_some_iff.mp h).2]
  rfl
theorem step2_len (ls : List Str) (e : E2) (h : e.2.2.length ≤ 20) : (step2 ls e).length ≤ ls.length + 20 := by
  unfold step2
  rw [List.length_append, List.length_append, List.length_take, List.length_drop]
  omega
theorem fold2_len : ∀ (es : List E2) (ls : List Str), (∀ e ∈ es, e.2.2.length ≤ 20) → (es.foldl step2 ls).length ≤ ls.length + 20 * es.length
  | [], _, _ => Nat.le_refl _
  | e :: es, ls, h => by
    rw [List.foldl_cons, List.length_cons]
    have h1 := step2_len ls e (h e List.mem_cons_self)
    have h2 := fold2_len es (step2 ls e) fun x hx => h x (List.mem_cons_of_mem _ hx)
    omega
/-! the way back -/
def inv2 : Int → List E2 → List E2
  | _, [] => []
  | s, e :: es => (e.1 + s, e.2.2, e.2.1) :: inv2 (s + (e.2.2.length : Int) - (e.2.1.length : Int)) es
theorem inv2_at {s : Int} {i : Nat} {es : List E2} {e : E2} (h : es[i]? = some e) : inv2 s (es.drop i) = (e.1 + s, e.2.2, e.2.1) :: inv2 (s + (e.2.2.length : Int) - (e.2.1.length : Int)) (es.drop (i + 1)) := by
  have ht := (List.getElem?_eq_some_iff.mp h).1
  rw [List.drop_eq_getElem_cons ht, (List.getElem?_eq_some_iff.mp h).2]
  rfl
theorem inv2_len : ∀ (s : Int) (es : List E2), (inv2 s es).length = es.length
  | _, [] => rfl
  | s, e :: es => by
    show (inv2 _ es).length + 1 = es.length + 1
    rw [inv2_len]
theorem inv2_ok : ∀ {s : Int} {es : List E2}, (∀ e ∈ es, e2ok e) → ∀ e ∈ inv2 s es, e2ok e
  | _, [], _, e, he => by cases he
  | s, x :: es, h, e, he => by
    rcases List.mem_cons.mp he with rfl | he
    · obtain ⟨h1, h2, h3, h4⟩ := h x List.mem_cons_self
      exact ⟨h2, h1, h4, h3⟩
    · exact inv2_ok (fun y hy => h y (List.mem_cons_of_mem _ hy)) e he

/-! ### apply_edits, inverse_edits, with their error -/
section
variable {P : Program} {w : World} {K : PySem.W.Frag} {mg : Str → Option Value} {base : Heap}
def sp_follows (K : PySem.W.Frag) : Sp := fun vs H Q _ => ∃ (T tr td : Addr) (m : Int) (e : E2), vs = [.ref T, .int m] ∧ H T = some (.tup [.int e.1, .ref tr, .ref td]) ∧ H tr = some (.tup (e.2.1.map V.str)) ∧ H td = some (.tup (e.2.2.map V.str)) ∧
  ∀ b, (b = true ↔ m ≤ e.1 ∧ e.1 ≤ 400 ∧ e.2.1.length + e.2.2.length > 0) → Q (.bl b) H
theorem sp_follows_len {vs H Q E} (h : sp_follows K vs H Q E) : vs.length = 2 := by
  obtain ⟨_, _, _, _, _, rfl, _⟩ := h
  rfl
theorem ok_follows (T : Txt K mg) : FnOk P w K mg base CX0 1 T.f_follows T.fd_follows ["item", "end"] (sp_follows K) := by
  refine T.F_follows.ok sc_follows (fun vs H Q E h => sp_follows_len h) (fun cdv A outer s H vs Q E hr h => ?_)
  refine ⟨_, (pss_cons (ps_asg (pv 0) (k_gt K (pg_tup (by rfl) (pgs_cons (pg_name (i := 2) sc_follows.nd rfl (.inl rfl)) (pgs_cons (pg_name (i := 3) sc_follows.nd rfl (.inl rfl)) (pgs_cons (pg_name (i := 4) sc_follows.nd rfl (.inl rfl)) pgs_nil))))))
      (pss_cons (ps_if (pt_cmpR op_lt (pv 2) (pv 1) (nomark _)) (pss_one (ps_ret pe_bl)) pss_nil)
      (pss_cons (ps_if (pt_cmpR op_gt (pv 2) (pe_gc (v := .int 400) (by rfl) T.k_LAST_PLACE) (nomark _)) (pss_one (ps_ret pe_bl)) pss_nil)
      (pss_one (ps_ret (pe_cmpR op_gt (pe_op (op_addK K) (pe_callB (cr_lenK K) (by rfl) T.m_len (by decide +kernel) (pa_cons (pv 3) pa_nil)) (pe_callB (cr_lenK K) (by rfl) T.m_len (by decide +kernel) (pa_cons (pv 4) pa_nil))) pe_int (nomark _))))))), ?_⟩
  obtain ⟨T, tr, td, m, e, rfl, hT, hr, hd, q⟩ := h
  have hH := Has.start H
  refine g_start (σ' := [some (.ref T), some (.int m), none, none, none]) rfl ?_
  walk_at "gg"
  refine i_d (fun z => ?_) (fun z1 => ?_)
  · walk_at "gg"
    exact q false ⟨fun y => (by cases y), fun y => (by omega)⟩
  walk_at "gg"
  refine i_d (fun z => ?_) (fun z2 => ?_)
  · walk_at "gg"
    exact q false ⟨fun y => (by cases y), fun y => (by omega)⟩
  walk_at "gg"
  rw [List.length_map, List.length_map]
  exact q _ ⟨fun y => by have := of_decide_eq_true y; omega, fun y => decide_eq_true (by omega)⟩
def sp_fits (K : PySem.W.Frag) : Sp := fun vs H Q _ => ∃ (a T tr td : Addr) (t : List Str) (e : E2), vs = [.ref a, .ref T] ∧ H a = some (.lst (t.map V.str)) ∧ H T = some (.tup [.int e.1, .ref tr, .ref td]) ∧ H tr = some (.tup (e.2.1.map V.str)) ∧ 0 ≤ e.1 ∧ okL t ∧ okL e.2.1 ∧
  ∀ b H', Same H H' → (b = true ↔ e.1 ≤ t.length ∧ cut t e.1.toNat (e.1.toNat + e.2.1.length) = e.2.1) → Q (.bl b) H'
theorem sp_fits_len {vs H Q E} (h : sp_fits K vs H Q E) : vs.length = 2 := by
  obtain ⟨_, _, _, _, _, _, rfl, _⟩ := h
  rfl
theorem ok_fits (T : Txt K mg) : FnOk P w K mg base CX0 1 T.f_fits T.fd_fits ["old", "edit"] (sp_fits K) := by
  refine T.F_fits.ok sc_fits (fun vs H Q E h => sp_fits_len h) (fun cdv A outer s H vs Q E hr h => ?_)
  refine ⟨_, (pss_cons (ps_asg (pv 1) (k_gt K (pg_tup (by rfl) (pgs_cons (pg_name (i := 2) sc_fits.nd rfl (.inl rfl)) (pgs_cons (pg_name (i := 3) sc_fits.nd rfl (.inl rfl)) (pgs_cons (pg_name (i := 4) sc_fits.nd rfl (.inl rfl)) pgs_nil))))))
      (pss_cons (ps_if (pt_cmpR op_gt (pv 2) (pe_callB (cr_lenK K) (by rfl) T.m_len (by decide +kernel) (pa_cons (pv 0) pa_nil)) (nomark _)) (pss_one (ps_ret pe_bl)) pss_nil)
      (pss_one (ps_ret (pe_cmpR (op_eqK K hr.units) (pe_callTy (cr_tupleK K) (by rfl) T.m_tuple (by decide +kernel) (pa_cons (pe_slice (sl_K K) (pv 0) (po_some (pv 2)) (po_some (pe_op (op_addK K) (pv 2) (pe_callB (cr_lenK K) (by rfl) T.m_len (by decide +kernel) (pa_cons (pv 3) pa_nil))))) pa_nil)) (pv 3) (nomark _)))))), ?_⟩
  obtain ⟨a, T, tr, td, t, e, rfl, ha, hT, hr, h0, okt, okr, q⟩ := h
  have hH := Has.start H
  refine g_start (σ' := [some (.ref a), some (.ref T), none, none, none]) rfl ?_
  walk_at "gg"
  rw [List.length_map]
  refine i_d (fun z => ?_) (fun z1 => ?_)
  · walk_at "gg"
    exact q false H (Same.refl _) ⟨fun y => (by cases y), fun y => (by omega)⟩
  walk_at "gg"
  rw [List.length_map]
  refine g_slL (by walk_at "h") hH (fun q1 H1 n1 h1 => ?_)
  have e1 : e.1 = (e.1.toNat : Int) := by omega
  rw [e1, show ((e.1.toNat : Int) + (e.2.1.length : Int)) = ((e.1.toNat + e.2.1.length : Nat) : Int) from rfl, cutV_str] at h1
  walk_at "gg"
  refine g_tupleL (by walk_at "h") h1 (fun t1 H2 F2 n2 s2 f2 h2 => ?_)
  walk_at "gg"
  refine g_eqD (dq_tS (h2.same _ _ f2)) (dq_tS (h2.same _ _ (s2 _ _ hr))) ((sh_tS (n := 0) (fun x hx => okt x (cut_mem hx))).ok (by decide)) ((sh_tS (n := 0) okr).ok (by decide)) ?_
  rw [eqv_tS]
  exact q _ H2 (s2.trans h2.same) ⟨fun y => ⟨by omega, of_decide_eq_true y⟩, fun y => decide_eq_true y.2⟩
def sp_end_of (K : PySem.W.Frag) : Sp := fun vs H Q _ => ∃ (T tr td : Addr) (e : E2), vs = [.ref T] ∧ H T = some (.tup [.int e.1, .ref tr, .ref td]) ∧ H tr = some (.tup (e.2.1.map V.str)) ∧ Q (.int (e.1 + (e.2.1.length : Int))) H
theorem sp_end_of_len {vs H Q E} (h : sp_end_of K vs H Q E) : vs.length = 1 := by
  obtain ⟨_, _, _, _, rfl, _⟩ := h
  rfl
theorem ok_end_of (T : Txt K mg) : FnOk P w K mg base CX0 1 T.f_end_of T.fd_end_of ["edit"] (sp_end_of K) := by
  refine T.F_end_of.ok sc_end_of (fun vs H Q E h => sp_end_of_len h) (fun cdv A outer s H vs Q E hr h => ?_)
  refine ⟨_, (pss_one (ps_ret (pe_op (op_addK K) (pe_ix (ix_K K (hu_of hr)) (pv 0) pe_int (fun _ _ => rfl)) (pe_callB (cr_lenK K) (by rfl) T.m_len (by decide +kernel) (pa_cons (pe_ix (ix_K K (hu_of hr)) (pv 0) pe_int (fun _ _ => rfl)) pa_nil))))), ?_⟩
  obtain ⟨T, tr, td, e, rfl, hT, hr, q⟩ := h
  refine g_start (σ' := [some (.ref T)]) rfl ?_
  walk_at "gg"
  refine g_ixT (v := .int e.1) (by walk_at "h") (atI_nat (j := 0) rfl) ?_
  walk_at "gg"
  refine g_ixT (v := .ref tr) (by walk_at "h") (atI_nat (j := 1) rfl) ?_
  walk_at "gg"
  rw [List.length_map]
  exact q
/-- the error at k -/
def bad_at (C : Addr) (H : Hp) (E : XK) (k : Nat) : Prop := ∀ d H', Same H H' → H d = none → H' d = some (.xd [("place", .int (k : Nat))]) → E (.ref C) (some d) H'
def sp_apply_edits (T : Txt K mg) : Sp := fun vs H Q E => ∃ (a e : Addr) (t : List Str) (us : List V) (es : List E2), vs = [.ref a, .ref e] ∧ H a = some (.lst (t.map V.str)) ∧ H e = some (.lst us) ∧ DqAll H us (es.map e2D) ∧ t.length ≤ 10 ∧ es.length ≤ 10 ∧ okL t ∧ (∀ x ∈ es, e2ok x) ∧
  (∀ p H', (∀ j, okK (some t) es j) → Same H H' → H p = none → H' p = some (.lst ((ap2 t 0 es).map V.str)) → Q (.ref p) H') ∧
  ∀ k, (∀ i, i < k → okK (some t) es i) → ¬ okK (some t) es k → bad_at T.C_BadEdit H E k
theorem sp_apply_edits_len {T : Txt K mg} {vs H Q E} (h : sp_apply_edits T vs H Q E) : vs.length = 2 := by
  obtain ⟨_, _, _, _, _, rfl, _⟩ := h
  rfl
theorem ok_apply_edits (T : Txt K mg) : FnOk P w K mg base (L2N.CX P w) 3 T.f_apply_edits T.fd_apply_edits ["old", "edits"] (sp_apply_edits T) := by
  refine Fun.okN T.F_apply_edits sc_apply_edits (fun vs H Q E h => sp_apply_edits_len h) (fun cdv A outer s H vs Q E hr h => ?_)
  refine ⟨_, (pss_cons (ps_set (i := 2) sc_apply_edits.nd rfl (.inl rfl) pe_int)
      (pss_cons (ps_for (L2.passes_of rfl) rfl (pi_enum (by rfl) T.m_enumerate (pa_cons (pv 1) pa_nil)) (k_gt K (pg_tup (by rfl) (pgs_cons (pg_name (i := 3) sc_apply_edits.nd rfl (.inl rfl)) (pgs_cons (pg_name (i := 4) sc_apply_edits.nd rfl (.inl rfl)) pgs_nil)))) (pss_cons (ps_if (pt_not (pt_val (pe_call (ok_follows T) (hr.mono (by decide)) (by rfl) T.g_follows T.F_follows.kp T.b_follows .nil pass0 (pa_cons (pv 4) (pa_cons (pv 2) pa_nil))))) (pss_one (k_raise rfl (L2N.takes_of rfl rfl rfl rfl) (pmk_oexN T.O_BadEdit T.iC_BadEdit T.tI_BadEdit (ok_init_BadEdit T) (hr.mono (by decide)) T.bi_BadEdit pass0 (by rfl) T.g_BadEdit (pa_cons (pv 3) pa_nil)))) pss_nil)
      (pss_cons (ps_if (pt_not (pt_val (pe_call (ok_fits T) (hr.mono (by decide)) (by rfl) T.g_fits T.F_fits.kp T.b_fits .nil pass0 (pa_cons (pv 0) (pa_cons (pv 4) pa_nil))))) (pss_one (k_raise rfl (L2N.takes_of rfl rfl rfl rfl) (pmk_oexN T.O_BadEdit T.iC_BadEdit T.tI_BadEdit (ok_init_BadEdit T) (hr.mono (by decide)) T.bi_BadEdit pass0 (by rfl) T.g_BadEdit (pa_cons (pv 3) pa_nil)))) pss_nil)
      (pss_one (ps_set (i := 2) sc_apply_edits.nd rfl (.inl rfl) (pe_call (ok_end_of T) (hr.mono (by decide)) (by rfl) T.g_end_of T.F_end_of.kp T.b_end_of .nil pass0 (pa_cons (pv 4) pa_nil)))))))
      (pss_cons (ps_set (i := 5) sc_apply_edits.nd rfl (.inl rfl) (pe_lst pa_nil))
      (pss_cons (ps_set (i := 6) sc_apply_edits.nd rfl (.inl rfl) pe_int)
      (pss_cons (ps_for (L2.passes_of rfl) rfl (k_il K (pi_list (pv 1))) (k_gt K (pg_tup (by rfl) (pgs_cons (pg_name (i := 7) sc_apply_edits.nd rfl (.inl rfl)) (pgs_cons (pg_name (i := 8) sc_apply_edits.nd rfl (.inl rfl)) (pgs_cons (pg_name (i := 9) sc_apply_edits.nd rfl (.inl rfl)) pgs_nil))))) (pss_cons (ps_expr (k_bm K (pe_bm PySem.F.plainAttrs_list PySem.F.slot_list_extend PySem.F.type_list_extend (mt_extendA K) (pv 5) (pa_cons (pe_slice (sl_K K) (pv 0) (po_some (pv 6)) (po_some (pv 7))) pa_nil))))
      (pss_cons (ps_expr (k_bm K (pe_bm PySem.F.plainAttrs_list PySem.F.slot_list_extend PySem.F.type_list_extend (mt_extendA K) (pv 5) (pa_cons (pv 9) pa_nil))))
      (pss_one (ps_set (i := 6) sc_apply_edits.nd rfl (.inl rfl) (pe_op (op_addK K) (pv 7) (pe_callB (cr_lenK K) (by rfl) T.m_len (by decide +kernel) (pa_cons (pv 8) pa_nil))))))))
      (pss_cons (ps_expr (k_bm K (pe_bm PySem.F.plainAttrs_list PySem.F.slot_list_extend PySem.F.type_list_extend (mt_extendA K) (pv 5) (pa_cons (pe_slice (sl_K K) (pv 0) (po_some (pv 6)) po_none) pa_nil))))
      (pss_one (ps_ret (pv 5))))))))), ?_⟩
  obtain ⟨a, e, t, us, es, rfl, ha, he, du, lt, le, okt, oke, q, qe⟩ := h
  have hH := Has.start H
  refine g_start (σ' := [some (.ref a), some (.ref e), none, none, none, none, none, none, none, none]) rfl ?_
  have hul : us.length = es.length := by rw [du.len, List.length_map]
  walk_at "gg"
  refine k_forE (by walk_at "h") (fun i σ H' => ∃ (y3 y4 : Option V), σ = [some (.ref a), some (.ref e), some (.int (endK es i)), y3, y4, none, none, none, none, none] ∧ Has H [] H' ∧ ∀ j, j < i → okK (some t) es j) ⟨_, _, rfl, hH, fun j hj => by omega⟩ ?_ ?_ ?_
  · rintro i σ H1 ⟨_, _, _, h1, _⟩
    exact h1.same _ _ he
  · rintro i x σ H1 A hx ⟨y3, y4, rfl, h1, ok⟩ nA
    obtain ⟨d, hd, dx⟩ := du.get hx
    rw [List.getElem?_map] at hd
    obtain ⟨m, hm, rfl⟩ := Option.map_eq_some_iff.mp hd
    obtain ⟨T2, tr, td, rfl, hT, er, ed_⟩ := e2_at dx
    have hi : i < es.length := (List.getElem?_eq_some_iff.mp hm).1
    have h2 := h1.new (o := .tup [.int (i : Nat), .ref T2]) nA
    have oki := oke m (List.mem_of_getElem? hm)
    have e0 := endK_nn (T := some t) (es := es) (k := i) (by omega) ok
    walk_at "gg"
    refine ⟨T2, tr, td, endK es i, m, rfl, by walk_at "h", by walk_at "h", by walk_at "h", fun b hb => ?_⟩
    walk_at "gg"
    have err : ¬ okK (some t) es i → ∀ d H', H d = none → Has H [(d, .xd (([("place" : Str)].zip [V.int (i : Nat)]).reverse)), (A, .tup [.int (i : Nat), .ref T2])] H' → E (.ref T.C_BadEdit) (some d) H' := fun no d H' n h' => qe i ok no d H' h'.same n (h'.get (List.Mem.head _))
    refine i_nb (fun hb0 => ?_) (fun hb1 => ?_)
    · refine g_raise ?_
      walk_at "gg"
      refine g_mk rfl (by decide) h2 (fun d H' n h' => err (fun no => ?_) d H' (h2.same.free n) h')
      obtain ⟨g1, g2, g3, _⟩ := no m hm
      exact absurd (hb.mpr ⟨g1, g2, g3⟩) (by rw [hb0]; decide)
    obtain ⟨g1, g2, g3⟩ := hb.mp hb1
    walk_at "gg"
    refine ⟨a, T2, tr, td, t, m, rfl, by walk_at "h", by walk_at "h", by walk_at "h", by omega, okt, oki.1, fun b2 H3 s3 hb2 => ?_⟩
    have h3 := h2.on s3
    walk_at "gg"
    refine i_nb (fun hb0 => ?_) (fun hb3 => ?_)
    · refine g_raise ?_
      walk_at "gg"
      refine g_mk rfl (by decide) h3 (fun d H' n h' => err (fun no => ?_) d H' (h3.same.free n) h')
      obtain ⟨_, _, _, g4⟩ := no m hm
      exact absurd (hb2.mpr (g4 t rfl)) (by rw [hb0]; decide)
    obtain ⟨g4, g5⟩ := hb2.mp hb3
    walk_at "gg"
    refine ⟨T2, tr, td, m, rfl, by walk_at "h", by walk_at "h", ?_⟩
    walk_at "gg"
    refine ⟨_, _, by rw [endK_succ hm], h3.drop, fun j hj => ?_⟩
    rcases Nat.lt_or_eq_of_le (show j ≤ i by omega) with hj | rfl
    · exact ok j hj
    · exact fun y hy => by
        rw [hm] at hy
        cases hy
        exact ⟨g1, g2, g3, fun t' ht' => by cases ht'; exact ⟨g4, g5⟩⟩
  rintro σ H1 ⟨y3, y4, rfl, h1, ok⟩
  have okA : ∀ j, okK (some t) es j := fun j y hy => ok j (by rw [hul]; exact (List.getElem?_eq_some_iff.mp hy).1) y hy
  clear ok
  have hb := ap2_len (t := t) es 0 fun x hx => (oke x hx).2.2.2
  have hb2 : (ap2 t 0 es).length ≤ 1000 := by
    have : (es.length + 1) * t.length ≤ 11 * 10 := Nat.mul_le_mul (by omega) lt
    omega
  walk_at "gg"
  refine g_klst (by walk_at "sz") h1 (fun ln H2 n2 h2 => ?_)
  walk_at "gg"
  refine k_forL (by walk_at "h") (fun i σ H' => ∃ (s1 : Nat) (L : List Str) (y3 y4 y7 y8 y9 : Option V) (z : Int), σ = [some (.ref a), some (.ref e), some (.int z), y3, y4, some (.ref ln), some (.int (s1 : Int)), y7, y8, y9] ∧ Has H [(ln, .lst (L.map V.str))] H' ∧ L ++ ap2 t s1 (es.drop i) = ap2 t 0 es) ⟨0, [], _, _, _, _, _, _, rfl, h2, by rw [List.drop_zero]; rfl⟩ ?_ ?_ ?_
  · rintro i σ H3 _ ⟨s1, L, _, _, _, _, _, _, _, h3, _⟩
    exact h3.same _ _ he
  · rintro i x σ H3 hx ⟨s1, L, y3, y4, y7, y8, y9, z, rfl, h3, el⟩
    obtain ⟨d, hd, dx⟩ := du.get hx
    rw [List.getElem?_map] at hd
    obtain ⟨m, hm, rfl⟩ := Option.map_eq_some_iff.mp hd
    obtain ⟨T2, tr, td, rfl, hT, er, ed_⟩ := e2_at dx
    have hi : i < es.length := (List.getElem?_eq_some_iff.mp hm).1
    have e0 := endK_nn (T := some t) (es := es) (k := i) (by omega) fun j _ => okA j
    have g1 := (okA i m hm).1
    rw [ap2_at hm, ← List.append_assoc, ← List.append_assoc] at el
    have hb : (L ++ cut t s1 m.1.toNat ++ m.2.2).length ≤ 1000 := by
      have := congrArg List.length el
      rw [List.length_append] at this
      omega
    rw [List.length_append, List.length_append] at hb
    have em : m.1 = (m.1.toNat : Int) := by omega
    walk_at "gg"
    refine g_slL (by walk_at "h") h3 (fun q1 H4 n4 h4 => ?_)
    rw [em, cutV_str] at h4
    walk_at "gg"
    refine g_extL h4 (h4.get (List.Mem.head _)) (.tl .hd) (sz (by rw [List.length_map, List.length_map]; omega)) (fun H5 h5 => ?_)
    have h5 := h5.drop
    walk_at "gg"
    refine g_extT h5 (by walk_at "h") (by walk_at "c") (sz (by rw [List.length_append, List.length_map, List.length_map, List.length_map]; omega)) (fun H6 h6 => ?_)
    rw [← List.map_append, ← List.map_append] at h6
    walk_at "gg"
    rw [List.length_map, show m.1 + (m.2.1.length : Int) = ((m.1.toNat + m.2.1.length : Nat) : Int) by omega]
    exact ⟨_, _, _, _, _, _, _, _, rfl, h6, el⟩
  · rintro σ H3 ⟨s1, L, y3, y4, y7, y8, y9, z, rfl, h3, el⟩
    rw [hul, List.drop_length] at el
    have el : L ++ t.drop s1 = ap2 t 0 es := el
    have hb : L.length + (t.drop s1).length ≤ 1000 := by rw [← List.length_append, el]; exact hb2
    walk_at "gg"
    refine g_slL (by walk_at "h") h3 (fun q1 H4 n4 h4 => ?_)
    rw [cutV_from, ← List.map_drop] at h4
    walk_at "gg"
    refine g_extL h4 (h4.get (List.Mem.head _)) (.tl .hd) (sz (by rw [List.length_map, List.length_map]; omega)) (fun H5 h5 => ?_)
    rw [← List.map_append, el] at h5
    walk_at "gg"
    exact q ln H5 okA h5.same (h1.same.free n2) (h5.get (by walk_at "m"))
def sp_inverse_edits (T : Txt K mg) : Sp := fun vs H Q E => ∃ (e : Addr) (us : List V) (es : List E2), vs = [.ref e] ∧ H e = some (.lst us) ∧ DqAll H us (es.map e2D) ∧ es.length ≤ 10 ∧ (∀ x ∈ es, e2ok x) ∧
  (∀ p H' (vs : List V), (∀ j, okK none es j) → Same H H' → H p = none → H' p = some (.lst vs) → DqAll H' vs ((inv2 0 es).map e2D) → Q (.ref p) H') ∧
  ∀ k, (∀ i, i < k → okK none es i) → ¬ okK none es k → bad_at T.C_BadEdit H E k
theorem sp_inverse_edits_len {T : Txt K mg} {vs H Q E} (h : sp_inverse_edits T vs H Q E) : vs.length = 1 := by
  obtain ⟨_, _, _, rfl, _⟩ := h
  rfl
theorem inv_loop {s : Int} {i : Nat} {es A : List E2} {m : E2} (h : es[i]? = some m) (el : A ++ inv2 s (es.drop i) = inv2 0 es) : (A ++ [(m.1 + s, m.2.2, m.2.1)]) ++ inv2 (s + (m.2.2.length : Int) - (m.2.1.length : Int)) (es.drop (i + 1)) = inv2 0 es := by
  rw [inv2_at h] at el
  rw [List.append_assoc]
  exact el
theorem ok_inverse_edits (T : Txt K mg) : FnOk P w K mg base (L2N.CX P w) 3 T.f_inverse_edits T.fd_inverse_edits ["edits"] (sp_inverse_edits T) := by
  refine Fun.okN T.F_inverse_edits sc_inverse_edits (fun vs H Q E h => sp_inverse_edits_len h) (fun cdv A outer s H vs Q E hr h => ?_)
  refine ⟨_, (pss_cons (ps_set (i := 1) sc_inverse_edits.nd rfl (.inl rfl) pe_int)
      (pss_cons (ps_for (L2.passes_of rfl) rfl (pi_enum (by rfl) T.m_enumerate (pa_cons (pv 0) pa_nil)) (k_gt K (pg_tup (by rfl) (pgs_cons (pg_name (i := 2) sc_inverse_edits.nd rfl (.inl rfl)) (pgs_cons (pg_name (i := 3) sc_inverse_edits.nd rfl (.inl rfl)) pgs_nil)))) (pss_cons (ps_if (pt_not (pt_val (pe_call (ok_follows T) (hr.mono (by decide)) (by rfl) T.g_follows T.F_follows.kp T.b_follows .nil pass0 (pa_cons (pv 3) (pa_cons (pv 1) pa_nil))))) (pss_one (k_raise rfl (L2N.takes_of rfl rfl rfl rfl) (pmk_oexN T.O_BadEdit T.iC_BadEdit T.tI_BadEdit (ok_init_BadEdit T) (hr.mono (by decide)) T.bi_BadEdit pass0 (by rfl) T.g_BadEdit (pa_cons (pv 2) pa_nil)))) pss_nil)
      (pss_one (ps_set (i := 1) sc_inverse_edits.nd rfl (.inl rfl) (pe_call (ok_end_of T) (hr.mono (by decide)) (by rfl) T.g_end_of T.F_end_of.kp T.b_end_of .nil pass0 (pa_cons (pv 3) pa_nil))))))
      (pss_cons (ps_set (i := 4) sc_inverse_edits.nd rfl (.inl rfl) (pe_lst pa_nil))
      (pss_cons (ps_set (i := 5) sc_inverse_edits.nd rfl (.inl rfl) pe_int)
      (pss_cons (ps_for (L2.passes_of rfl) rfl (k_il K (pi_list (pv 0))) (k_gt K (pg_tup (by rfl) (pgs_cons (pg_name (i := 6) sc_inverse_edits.nd rfl (.inl rfl)) (pgs_cons (pg_name (i := 7) sc_inverse_edits.nd rfl (.inl rfl)) (pgs_cons (pg_name (i := 8) sc_inverse_edits.nd rfl (.inl rfl)) pgs_nil))))) (pss_cons (ps_expr (k_bm K (pe_bm PySem.F.plainAttrs_list PySem.F.slot_list_append PySem.F.type_list_append mt_append (pv 4) (pa_cons (pe_tup (pa_cons (pe_op (op_addK K) (pv 6) (pv 5)) (pa_cons (pv 8) (pa_cons (pv 7) pa_nil)))) pa_nil))))
      (pss_one (ps_set (i := 5) sc_inverse_edits.nd rfl (.inl rfl) (pe_op op_sub (pe_op (op_addK K) (pv 5) (pe_callB (cr_lenK K) (by rfl) T.m_len (by decide +kernel) (pa_cons (pv 8) pa_nil))) (pe_callB (cr_lenK K) (by rfl) T.m_len (by decide +kernel) (pa_cons (pv 7) pa_nil)))))))
      (pss_one (ps_ret (pv 4)))))))), ?_⟩
  obtain ⟨e, us, es, rfl, he, du, le, oke, q, qe⟩ := h
  have hH := Has.start H
  refine g_start (σ' := [some (.ref e), none, none, none, none, none, none, none, none]) rfl ?_
  have hul : us.length = es.length := by rw [du.len, List.length_map]
  walk_at "gg"
  refine k_forE (by walk_at "h") (fun i σ H' => ∃ (y3 y4 : Option V), σ = [some (.ref e), some (.int (endK es i)), y3, y4, none, none, none, none, none] ∧ Has H [] H' ∧ ∀ j, j < i → okK none es j) ⟨_, _, rfl, hH, fun j hj => by omega⟩ ?_ ?_ ?_
  · rintro i σ H1 ⟨_, _, _, h1, _⟩
    exact h1.same _ _ he
  · rintro i x σ H1 A hx ⟨y3, y4, rfl, h1, ok⟩ nA
    obtain ⟨d, hd, dx⟩ := du.get hx
    rw [List.getElem?_map] at hd
    obtain ⟨m, hm, rfl⟩ := Option.map_eq_some_iff.mp hd
    obtain ⟨T2, tr, td, rfl, hT, er, ed_⟩ := e2_at dx
    have h2 := h1.new (o := .tup [.int (i : Nat), .ref T2]) nA
    walk_at "gg"
    refine ⟨T2, tr, td, endK es i, m, rfl, by walk_at "h", by walk_at "h", by walk_at "h", fun b hb => ?_⟩
    walk_at "gg"
    refine i_nb (fun hb0 => ?_) (fun hb1 => ?_)
    · refine g_raise ?_
      walk_at "gg"
      refine g_mk rfl (by decide) h2 (fun d H' n h' => qe i ok (fun no => ?_) d H' h'.same (h2.same.free n) (h'.get (List.Mem.head _)))
      obtain ⟨g1, g2, g3, _⟩ := no m hm
      exact absurd (hb.mpr ⟨g1, g2, g3⟩) (by rw [hb0]; decide)
    obtain ⟨g1, g2, g3⟩ := hb.mp hb1
    walk_at "gg"
    refine ⟨T2, tr, td, m, rfl, by walk_at "h", by walk_at "h", ?_⟩
    walk_at "gg"
    refine ⟨_, _, by rw [endK_succ hm], h2.drop, fun j hj => ?_⟩
    rcases Nat.lt_or_eq_of_le (show j ≤ i by omega) with hj | rfl
    · exact ok j hj
    · exact fun y hy => by
        rw [hm] at hy
        cases hy
        exact ⟨g1, g2, g3, fun t' ht' => by cases ht'⟩
  rintro σ H1 ⟨y3, y4, rfl, h1, ok⟩
  have okA : ∀ j, okK none es j := fun j y hy => ok j (by rw [hul]; exact (List.getElem?_eq_some_iff.mp hy).1) y hy
  clear ok
  walk_at "gg"
  refine g_klst (by walk_at "sz") h1 (fun ln H2 n2 h2 => ?_)
  walk_at "gg"
  refine k_forL (by walk_at "h") (fun i σ H' => ∃ (A : List E2) (sh : Int) (acc : List V) (F : Hp) (y3 y4 y7 y8 y9 : Option V) (z : Int), σ = [some (.ref e), some (.int z), y3, y4, some (.ref ln), some (.int sh), y7, y8, y9] ∧ Same H F ∧ Has F [(ln, .lst acc)] H' ∧ DqAll F acc (A.map e2D) ∧ A ++ inv2 sh (es.drop i) = inv2 0 es) ⟨[], 0, [], H, _, _, _, _, _, _, rfl, Same.refl _, h2, .nil, by rw [List.drop_zero]; rfl⟩ ?_ ?_ ?_
  · rintro i σ H3 _ ⟨A, sh, acc, F, _, _, _, _, _, _, _, sF, h3, _⟩
    exact h3.same _ _ (sF _ _ he)
  · rintro i x σ H3 hx ⟨A, sh, acc, F, y3, y4, y7, y8, y9, z, rfl, sF, h3, dq, el⟩
    obtain ⟨d, hd, dx⟩ := du.get hx
    rw [List.getElem?_map] at hd
    obtain ⟨m, hm, rfl⟩ := Option.map_eq_some_iff.mp hd
    obtain ⟨T2, tr, td, rfl, hT, er, ed_⟩ := e2_at (dx.up sF _ _)
    have hal : acc.length ≤ 10 := by
      have := congrArg List.length el
      rw [List.length_append, inv2_len, inv2_len, List.length_drop] at this
      rw [dq.len, List.length_map]
      omega
    have el := inv_loop hm el
    walk_at "gg"
    refine g_ktupF (by walk_at "sz") h3 (fun tt H4 F4 n4 s4 f4 h4 => ?_)
    have er4 := s4 _ _ er
    have ed4 := s4 _ _ ed_
    walk_at "gg"
    refine g_append h4 (by walk_at "c") (szl (by omega)) (fun H5 h5 => ?_)
    walk_at "gg"
    rw [List.length_map, List.length_map]
    refine ⟨A ++ [(m.1 + sh, m.2.2, m.2.1)], _, _, F4, _, _, _, _, _, _, rfl, sF.trans s4, h5, ?_, el⟩
    rw [List.map_append]
    exact (dq.up s4 _ _).snoc (e2_mk (e := (m.1 + sh, m.2.2, m.2.1)) f4 ed4 er4)
  · rintro σ H3 ⟨A, sh, acc, F, y3, y4, y7, y8, y9, z, rfl, sF, h3, dq, el⟩
    rw [hul, List.drop_length] at el
    have el : A = inv2 0 es := by
      rw [← el]
      show A = A ++ []
      rw [List.append_nil]
    rw [el] at dq
    walk_at "gg"
    exact q ln H3 acc okA (sF.trans h3.same) (h1.same.free n2) (h3.get (by walk_at "m")) (dq.up h3.same _ _)
end

end K02

namespace K02
open PySem PySem.Spec PyProof.Rows L2 Qk
local macro_rules | `(tactic| walk_at "m") => `(tactic| ((repeat (first | exact List.Mem.head _ | apply List.Mem.tail)); done))
local macro_rules | `(tactic| walk_at "h") => `(tactic| first | assumption | exact Has.gF (by assumption) (by assumption) | exact Has.get (by assumption) (by walk_at "m"))
local macro_rules | `(tactic| walk_at "c") => `(tactic| ((repeat (first | exact Chg.hd | apply Chg.tl)); done))
local macro_rules | `(tactic| walk_at "is") => `(tactic| first
  | ((with_reducible refine' is2_non ?gh ?_); (case gh => walk_at "h"))
  | (with_reducible refine is_int_list ?_)
  | (with_reducible refine is_int_tuple ?_)
  | (with_reducible refine is_int_dict ?_)
  | (with_reducible refine is_int_int ?_)
  | (with_reducible refine is_int_bool ?_)
  | (with_reducible refine is_int_str ?_)
  | ((with_reducible refine' is2_int ?gh ?_); (case gh => walk_at "h"))
  | (with_reducible refine is_str_list ?_)
  | (with_reducible refine is_str_tuple ?_)
  | (with_reducible refine is_str_dict ?_)
  | (with_reducible refine is_str_int ?_)
  | (with_reducible refine is_str_bool ?_)
  | (with_reducible refine is_str_str ?_)
  | ((with_reducible refine' is2_str ?gh ?_); (case gh => walk_at "h"))
  | (with_reducible refine is_bool_list ?_)
  | (with_reducible refine is_bool_tuple ?_)
  | (with_reducible refine is_bool_dict ?_)
  | (with_reducible refine is_bool_int ?_)
  | (with_reducible refine is_bool_bool ?_)
  | (with_reducible refine is_bool_str ?_)
  | ((with_reducible refine' is2_bool ?gh ?_); (case gh => walk_at "h"))
  | ((with_reducible refine' is_list_list ?gh ?_); (case gh => walk_at "h"))
  | ((with_reducible refine' is_list_tuple ?gh ?_); (case gh => walk_at "h"))
  | ((with_reducible refine' is_list_dict ?gh ?_); (case gh => walk_at "h"))
  | ((with_reducible refine' is_list_int ?gh ?_); (case gh => walk_at "h"))
  | ((with_reducible refine' is_list_bool ?gh ?_); (case gh => walk_at "h"))
  | ((with_reducible refine' is_list_str ?gh ?_); (case gh => walk_at "h"))
  | ((with_reducible refine' is2_list ?ga ?gb ?_); (case ga => walk_at "h"); (case gb => walk_at "h"))
  | ((with_reducible refine' is_tuple_list ?gh ?_); (case gh => walk_at "h"))
  | ((with_reducible refine' is_tuple_tuple ?gh ?_); (case gh => walk_at "h"))
  | ((with_reducible refine' is_tuple_dict ?gh ?_); (case gh => walk_at "h"))
  | ((with_reducible refine' is_tuple_int ?gh ?_); (case gh => walk_at "h"))
  | ((with_reducible refine' is_tuple_bool ?gh ?_); (case gh => walk_at "h"))
  | ((with_reducible refine' is_tuple_str ?gh ?_); (case gh => walk_at "h"))
  | ((with_reducible refine' is2_tuple ?ga ?gb ?_); (case ga => walk_at "h"); (case gb => walk_at "h"))
  | ((with_reducible refine' is_dict_list ?gh ?_); (case gh => walk_at "h"))
  | ((with_reducible refine' is_dict_tuple ?gh ?_); (case gh => walk_at "h"))
  | ((with_reducible refine' is_dict_dict ?gh ?_); (case gh => walk_at "h"))
  | ((with_reducible refine' is_dict_int ?gh ?_); (case gh => walk_at "h"))
  | ((with_reducible refine' is_dict_bool ?gh ?_); (case gh => walk_at "h"))
  | ((with_reducible refine' is_dict_str ?gh ?_); (case gh => walk_at "h"))
  | ((with_reducible refine' is2_dict ?ga ?gb ?_); (case ga => walk_at "h"); (case gb => walk_at "h")))
local macro_rules | `(tactic| walk_at "g") => `(tactic| first
  | (with_reducible refine g_seq ?_)
  | (with_reducible refine g_asg ?_)
  | ((with_reducible refine g_name ?_); dsimp only [List.set, wipe, List.map])
  | ((with_reducible refine' g_var ?gv ?_); (case gv => exact rfl))
  | (with_reducible refine g_c ?_)
  | (with_reducible refine g_op ?_)
  | (with_reducible refine g_cons ?_)
  | (with_reducible refine g_nil ?_)
  | (with_reducible refine g_cb ?_)
  | (with_reducible refine g_call ?_)
  | (with_reducible refine g_tup ?_)
  | (with_reducible refine g_lst ?_)
  | (with_reducible refine g_bm ?_)
  | (with_reducible refine g_bm0 ?_)
  | ((with_reducible refine' g_kbm ?gh ?_); (case gh => walk_at "h"))
  | (with_reducible refine g_drop ?_)
  | (with_reducible refine g_ret ?_)
  | (with_reducible refine g_retN ?_)
  | (with_reducible refine g_next ?_)
  | (with_reducible refine g_brk ?_)
  | (with_reducible refine g_cont ?_)
  | (with_reducible refine g_if ?_)
  | ((with_reducible refine' g_aug ?gv ?_); (case gv => exact rfl))
  | (with_reducible refine g_ipI ?_)
  | (with_reducible refine g_test ?_)
  | (with_reducible refine g_tB ?_)
  | (with_reducible refine g_kB ?_)
  | (with_reducible refine g_not ?_)
  | (with_reducible refine g_and ?_)
  | (with_reducible refine g_or ?_)
  | (with_reducible refine g_andV ?_)
  | (with_reducible refine g_orV ?_)
  | (with_reducible refine g_notV ?_)
  | (with_reducible refine g_ifE ?_)
  | (with_reducible refine g_addI ?_)
  | (with_reducible refine g_rI0 ?_)
  | (with_reducible refine g_eqI ?_)
  | (with_reducible refine g_eqS ?_)
  | (with_reducible refine g_neI ?_)
  | (with_reducible refine g_neS ?_)
  | (with_reducible refine g_isN ?_)
  | (with_reducible refine g_notN ?_)
  | (with_reducible refine g_int ?_)
  | (with_reducible refine g_max2 ?_)
  | ((with_reducible refine' g_lenL ?gh ?_); (case gh => walk_at "h"))
  | (with_reducible refine g_sub ?_)
  | (with_reducible refine g_gcons ?_)
  | (with_reducible refine g_gnil ?_)
  | (with_reducible refine g_un ?_)
  | (with_reducible refine g_rU ?_)
  | (with_reducible refine g_forL ?_)
  | (with_reducible refine g_forR1 ?_)
  | (with_reducible refine g_forR2 ?_)
  | (with_reducible refine g_forR3 ?_)
  | (with_reducible refine g_lcL ?_)
  | (with_reducible refine g_lcR1 ?_)
  | (with_reducible refine g_lcR2 ?_)
  | (with_reducible refine g_slice ?_)
  | (with_reducible refine g_part ?_)
  | (with_reducible refine g_kOI ?_)
  | (with_reducible refine g_nopart ?_)
  | (with_reducible refine g_yes ?_)
  | ((with_reducible refine' g_wipe ?gv ?_); (case gv => exact rfl))
  | (with_reducible refine iteT ?_)
  | (with_reducible refine iteF ?_)
  | (with_reducible refine i_nf ?_)
  | (with_reducible refine i_nt ?_)
  | ((with_reducible refine' g_gtup ?gh ?gl ?_); (case gh => walk_at "h"); (case gl => exact rfl))
  | ((with_reducible refine' g_notinI ?gh ?_); (case gh => walk_at "h"))
  | ((with_reducible refine' g_inI ?gh ?_); (case gh => walk_at "h"))
  | ((with_reducible refine' g_kget2 ?gh ?_); (case gh => walk_at "h"))
  | ((with_reducible refine' g_kgotI ?gh ?_); (case gh => walk_at "h"))
  | (with_reducible refine g_tRev ?_)
  | (with_reducible refine g_neB ?_)
  | (with_reducible refine g_eqB ?_)
  | ((with_reducible refine' g_lenT ?gh ?_); (case gh => walk_at "h"))
  | (with_reducible refine g_star ?_)
  | ((with_reducible refine' g_kstarL ?gh ?_); (case gh => walk_at "h"))
  | ((with_reducible refine' g_kstarT ?gh ?_); (case gh => walk_at "h"))
  | (with_reducible refine g_tru ?_)
  | ((with_reducible refine' g_truL ?gh ?_); (case gh => walk_at "h"))
  | (with_reducible refine g_get2 ?_)
  | (with_reducible refine g_try ?_)
  | (with_reducible refine g_callS ?_)
  | (with_reducible refine g_raise ?_)
  | (with_reducible refine g_xf ?_)
  | walk_at "is")
local macro_rules | `(tactic| walk_at "gg") => `(tactic| repeat walk_at "g")
local macro_rules | `(tactic| walk_at "sz") => `(tactic| (refine sz ?_; simp only [List.length_cons, List.length_nil, List.length_map, List.length_append, List.length_replicate]; omega))
local macro_rules | `(tactic| walk_at "sub") => `(tactic| ((repeat (first | exact List.Sublist.slnil | with_reducible apply List.Sublist.cons_cons | with_reducible apply List.Sublist.cons)); done))

/-! ### _law_same -/
/-- data that _law_same can go through, n deep -/
def so : Nat → PyData → Prop
  | 0, _ => False
  | n + 1, .list ds => ds.length ≤ 100000 ∧ ∀ d ∈ ds, so n d
  | n + 1, .tuple ds => ds.length ≤ 100000 ∧ ∀ d ∈ ds, so n d
  | _ + 1, .int _ => True
  | _ + 1, .str _ => True
  | _ + 1, .none => True
  | _ + 1, _ => False
section
variable {P : Program} {w : World} {K : PySem.W.Frag} {mg : Str → Option Value} {base : Heap}
def sp_l_same_n (K : PySem.W.Frag) (n : Nat) : Sp := fun vs H Q _ => ∃ (x y : V) (d : PyData), vs = [x, y] ∧ Dq H x d ∧ Dq H y d ∧ so n d ∧ ∀ H', Same H H' → Q (.bl true) H'
theorem sp_l_same_n_len {n vs H Q E} (h : sp_l_same_n K n vs H Q E) : vs.length = 2 := by
  obtain ⟨_, _, _, rfl, _⟩ := h
  rfl
theorem ok_l_same_n (T : Txt K mg) (n : Nat) : FnOk P w K mg base CX0 n T.f_l_same T.fd_l_same ["told", "due"] (sp_l_same_n K n) := by
  induction n with
  | zero =>
    refine ⟨fun _ _ _ _ h => sp_l_same_n_len h, fun _ _ _ _ _ _ _ _ _ _ _ _ _ h => ?_⟩
    obtain ⟨_, _, d, _, _, _, h, _⟩ := h
    cases d <;> exact h.elim
  | succ n GR =>
  refine T.F_l_same.ok sc_l_same (fun vs H Q E h => sp_l_same_n_len h) (fun cdv A outer s H vs Q E hr h => ?_)
  refine ⟨_, (pss_cons (ps_if (pt_val (pe_callB (cr_isK K) (by rfl) T.m_isinstance (by decide +kernel) (pa_cons (pv 1) (pa_cons (pe_tup (pa_cons (pe_bltn (v := .ty "list") (by rfl) T.m_list (by decide +kernel) rfl) (pa_cons (pe_bltn (v := .ty "tuple") (by rfl) T.m_tuple (by decide +kernel) rfl) pa_nil))) pa_nil)))) (pss_cons (ps_if (pt_cmpR (op_neK K hr.units) (pe_callB (cr_isK K) (by rfl) T.m_isinstance (by decide +kernel) (pa_cons (pv 0) (pa_cons (pe_bltn (v := .ty "list") (by rfl) T.m_list (by decide +kernel) rfl) pa_nil))) (pe_callB (cr_isK K) (by rfl) T.m_isinstance (by decide +kernel) (pa_cons (pv 1) (pa_cons (pe_bltn (v := .ty "list") (by rfl) T.m_list (by decide +kernel) rfl) pa_nil))) (nomark _)) (pss_one (ps_ret pe_bl)) pss_nil)
      (pss_cons (ps_if (PW.pt (pw_or (pt_cmpR (op_neK K hr.units) (pe_callB (cr_isK K) (by rfl) T.m_isinstance (by decide +kernel) (pa_cons (pv 0) (pa_cons (pe_bltn (v := .ty "tuple") (by rfl) T.m_tuple (by decide +kernel) rfl) pa_nil))) (pe_callB (cr_isK K) (by rfl) T.m_isinstance (by decide +kernel) (pa_cons (pv 1) (pa_cons (pe_bltn (v := .ty "tuple") (by rfl) T.m_tuple (by decide +kernel) rfl) pa_nil))) (nomark _)) (pw_or1 (pt_cmpR (op_neK K hr.units) (pe_callB (cr_lenK K) (by rfl) T.m_len (by decide +kernel) (pa_cons (pv 0) pa_nil)) (pe_callB (cr_lenK K) (by rfl) T.m_len (by decide +kernel) (pa_cons (pv 1) pa_nil)) (nomark _))))) (pss_one (ps_ret pe_bl)) pss_nil)
      (pss_cons (ps_for PassesOwn.never rfl (pi_range1 rfl T.m_range (pa_cons (pe_callB (cr_lenK K) (by rfl) T.m_len (by decide +kernel) (pa_cons (pv 1) pa_nil)) pa_nil)) (pg_name (i := 2) sc_l_same.nd rfl (.inl rfl)) (pss_one (ps_if (pt_not (pt_val (pe_call GR hr (by rfl) T.g_l_same T.F_l_same.kp T.b_l_same .nil pass0 (pa_cons (pe_ix (ix_K K (hu_of hr)) (pv 0) (pv 2) (fun _ _ => rfl)) (pa_cons (pe_ix (ix_K K (hu_of hr)) (pv 1) (pv 2) (fun _ _ => rfl)) pa_nil))))) (pss_one (ps_ret pe_bl)) pss_nil)))
      (pss_one (ps_ret pe_bl))))) pss_nil)
      (pss_cons (ps_if (pt_cmpR op_isNA (pv 1) pe_non (nomark _)) (pss_one (ps_ret (pe_cmpR op_isNA (pv 0) pe_non (nomark _)))) pss_nil)
      (pss_cons (ps_if (pt_val (pe_callB (cr_isK K) (by rfl) T.m_isinstance (by decide +kernel) (pa_cons (pv 1) (pa_cons (pe_bltn (v := .ty "int") (by rfl) T.m_int (by decide +kernel) rfl) pa_nil)))) (pss_one (ps_ret (pe_and (pe_callB (cr_isK K) (by rfl) T.m_isinstance (by decide +kernel) (pa_cons (pv 0) (pa_cons (pe_bltn (v := .ty "int") (by rfl) T.m_int (by decide +kernel) rfl) pa_nil))) (pe_and (pe_not (pe_callB (cr_isK K) (by rfl) T.m_isinstance (by decide +kernel) (pa_cons (pv 0) (pa_cons (pe_bltn (v := .ty "bool") (by rfl) T.m_bool (by decide +kernel) rfl) pa_nil)))) (pe_one (pe_cmpR (op_eqK K hr.units) (pv 0) (pv 1) (nomark _))))))) pss_nil)
      (pss_one (ps_ret (pe_and (pe_callB (cr_isK K) (by rfl) T.m_isinstance (by decide +kernel) (pa_cons (pv 0) (pa_cons (pe_bltn (v := .ty "str") (by rfl) T.m_str (by decide +kernel) rfl) pa_nil))) (pe_one (pe_cmpR (op_eqK K hr.units) (pv 0) (pv 1) (nomark _))))))))), ?_⟩
  obtain ⟨x, y, d, rfl, hx, hy, ho, q⟩ := h
  have hH := Has.start H
  refine g_start (σ' := [some (x), some (y), none]) rfl ?_
  cases d with
  | list ds =>
    cases hx with
    | @lst a xs _ ha dx =>
      cases hy with
      | @lst b ys _ hb dy =>
        walk_at "gg"
        refine g_ktupF (by walk_at "sz") hH (fun p1 H1 F1 n1 s1 f1 h1 => ?_)
        have ha1 := s1 _ _ ha
        have hb1 := s1 _ _ hb
        have dx1 := dx.up s1 _ _
        have dy1 := dy.up s1 _ _
        have lx : xs.length = ds.length := dx.len
        have ly : ys.length = ds.length := dy.len
        have lo : ds.length ≤ 100000 := ho.1
        walk_at "gg"
        refine i_n (fun z => (z rfl).elim) (fun _ => ?_)
        walk_at "gg"
        refine i_n (fun z => (z rfl).elim) (fun _ => ?_)
        walk_at "gg"
        refine i_n (fun z => (z (by rw [lx, ly])).elim) (fun _ => ?_)
        walk_at "gg"
        refine k_forR1 (fun i σ H' => ∃ y2, σ = [some (.ref a), some (.ref b), y2] ∧ Has F1 [] H') (by omega) (by omega) ⟨none, rfl, h1⟩ ?_ ?_
        · rintro i σ H2 hi ⟨y2, rfl, h2⟩
          walk_at "gg"
          refine g_ixV (by walk_at "h") (by omega) (by omega) (fun u hu => ?_)
          walk_at "gg"
          refine g_ixV (by walk_at "h") (by omega) (by omega) (fun v hv => ?_)
          walk_at "gg"
          obtain ⟨d1, e1, q1⟩ := dx1.get hu
          obtain ⟨d2, e2, q2⟩ := dy1.get hv
          have e3 : d1 = d2 := Option.some.inj (e1.symm.trans e2)
          subst e3
          refine ⟨u, v, d1, rfl, h2.dq q1, h2.dq q2, ho.2 d1 (List.mem_of_getElem? e1), fun H3 s3 => ?_⟩
          walk_at "gg"
          exact ⟨_, rfl, h2.on s3⟩
        · rintro σ H2 ⟨y2, rfl, h2⟩
          walk_at "gg"
          exact q H2 (s1.trans h2.same)
  | tuple ds =>
    cases hx with
    | @tup a xs _ ha dx =>
      cases hy with
      | @tup b ys _ hb dy =>
        walk_at "gg"
        refine g_ktupF (by walk_at "sz") hH (fun p1 H1 F1 n1 s1 f1 h1 => ?_)
        have ha1 := s1 _ _ ha
        have hb1 := s1 _ _ hb
        have dx1 := dx.up s1 _ _
        have dy1 := dy.up s1 _ _
        have lx : xs.length = ds.length := dx.len
        have ly : ys.length = ds.length := dy.len
        have lo : ds.length ≤ 100000 := ho.1
        walk_at "gg"
        refine i_n (fun z => (z rfl).elim) (fun _ => ?_)
        walk_at "gg"
        refine i_n (fun z => (z rfl).elim) (fun _ => ?_)
        walk_at "gg"
        refine i_n (fun z => (z (by rw [lx, ly])).elim) (fun _ => ?_)
        walk_at "gg"
        refine k_forR1 (fun i σ H' => ∃ y2, σ = [some (.ref a), some (.ref b), y2] ∧ Has F1 [] H') (by omega) (by omega) ⟨none, rfl, h1⟩ ?_ ?_
        · rintro i σ H2 hi ⟨y2, rfl, h2⟩
          walk_at "gg"
          refine g_ixVT (by walk_at "h") (by omega) (by omega) (fun u hu => ?_)
          walk_at "gg"
          refine g_ixVT (by walk_at "h") (by omega) (by omega) (fun v hv => ?_)
          walk_at "gg"
          obtain ⟨d1, e1, q1⟩ := dx1.get hu
          obtain ⟨d2, e2, q2⟩ := dy1.get hv
          have e3 : d1 = d2 := Option.some.inj (e1.symm.trans e2)
          subst e3
          refine ⟨u, v, d1, rfl, h2.dq q1, h2.dq q2, ho.2 d1 (List.mem_of_getElem? e1), fun H3 s3 => ?_⟩
          walk_at "gg"
          exact ⟨_, rfl, h2.on s3⟩
        · rintro σ H2 ⟨y2, rfl, h2⟩
          walk_at "gg"
          exact q H2 (s1.trans h2.same)
  | int i =>
    cases hx
    cases hy
    walk_at "gg"
    refine g_ktupF (by walk_at "sz") hH (fun p1 H1 F1 n1 s1 f1 h1 => ?_)
    walk_at "gg"
    refine i_d (fun z => by cases z) (fun _ => ?_)
    walk_at "gg"
    rw [decide_eq_true rfl]
    exact q H1 (s1.trans h1.same)
  | str z =>
    cases hx
    cases hy
    walk_at "gg"
    refine g_ktupF (by walk_at "sz") hH (fun p1 H1 F1 n1 s1 f1 h1 => ?_)
    walk_at "gg"
    refine i_d (fun z => by cases z) (fun _ => ?_)
    walk_at "gg"
    rw [decide_eq_true rfl]
    exact q H1 (s1.trans h1.same)
  | none =>
    cases hx
    cases hy
    walk_at "gg"
    refine g_ktupF (by walk_at "sz") hH (fun p1 H1 F1 n1 s1 f1 h1 => ?_)
    walk_at "gg"
    refine i_d (fun _ => ?_) (fun z => (z rfl).elim)
    walk_at "gg"
    rw [decide_eq_true rfl]
    exact q H1 (s1.trans h1.same)
  | bool b => exact ho.elim
  | dict kvs => exact ho.elim
def sp_l_same (K : PySem.W.Frag) : Sp := sp_l_same_n K 6
theorem ok_l_same (T : Txt K mg) : FnOk P w K mg base CX0 6 T.f_l_same T.fd_l_same ["told", "due"] (sp_l_same K) := ok_l_same_n T 6
end

section
variable {P : Program} {w : World} {K : PySem.W.Frag} {mg : Str → Option Value} {base : Heap}
def sp_l_same_h (K : PySem.W.Frag) : Sp := fun vs H Q _ => ∃ i j : Int, vs = [.int i, .int j] ∧ ∀ H', Same H H' → Q (.bl (decide (i = j))) H'
theorem sp_l_same_h_len {vs H Q E} (h : sp_l_same_h K vs H Q E) : vs.length = 2 := by
  obtain ⟨_, _, rfl, _⟩ := h
  rfl
theorem ok_l_same_h (T : Txt K mg) : L2H.FnH P w K mg base CX0 6 T.f_l_same T.fd_l_same ["told", "due"] (sp_l_same_h K) := by
  refine Fun.okH T.F_l_same sc_l_same (fun vs H Q E h => sp_l_same_h_len h) (fun cdv A outer s H vs Q E p hot hr h => ?_)
  refine ⟨_, (pss_cons (ps_if (pt_val (pe_callB (cr_isK K) (by rfl) T.m_isinstance (by decide +kernel) (pa_cons (pv 1) (pa_cons (pe_tup (pa_cons (pe_bltn (v := .ty "list") (by rfl) T.m_list (by decide +kernel) rfl) (pa_cons (pe_bltn (v := .ty "tuple") (by rfl) T.m_tuple (by decide +kernel) rfl) pa_nil))) pa_nil)))) (pss_cons (ps_if (pt_cmpR (op_neK K hr.units) (pe_callB (cr_isK K) (by rfl) T.m_isinstance (by decide +kernel) (pa_cons (pv 0) (pa_cons (pe_bltn (v := .ty "list") (by rfl) T.m_list (by decide +kernel) rfl) pa_nil))) (pe_callB (cr_isK K) (by rfl) T.m_isinstance (by decide +kernel) (pa_cons (pv 1) (pa_cons (pe_bltn (v := .ty "list") (by rfl) T.m_list (by decide +kernel) rfl) pa_nil))) (nomark _)) (pss_one (ps_ret pe_bl)) pss_nil)
      (pss_cons (ps_if (PW.pt (pw_or (pt_cmpR (op_neK K hr.units) (pe_callB (cr_isK K) (by rfl) T.m_isinstance (by decide +kernel) (pa_cons (pv 0) (pa_cons (pe_bltn (v := .ty "tuple") (by rfl) T.m_tuple (by decide +kernel) rfl) pa_nil))) (pe_callB (cr_isK K) (by rfl) T.m_isinstance (by decide +kernel) (pa_cons (pv 1) (pa_cons (pe_bltn (v := .ty "tuple") (by rfl) T.m_tuple (by decide +kernel) rfl) pa_nil))) (nomark _)) (pw_or1 (pt_cmpR (op_neK K hr.units) (pe_callB (cr_lenK K) (by rfl) T.m_len (by decide +kernel) (pa_cons (pv 0) pa_nil)) (pe_callB (cr_lenK K) (by rfl) T.m_len (by decide +kernel) (pa_cons (pv 1) pa_nil)) (nomark _))))) (pss_one (ps_ret pe_bl)) pss_nil)
      (pss_cons ps_never
      (pss_one (ps_ret pe_bl))))) pss_nil)
      (pss_cons (ps_if (pt_cmpR op_isNA (pv 1) pe_non (nomark _)) (pss_one (ps_ret (pe_cmpR op_isNA (pv 0) pe_non (nomark _)))) pss_nil)
      (pss_cons (ps_if (pt_val (pe_callB (cr_isK K) (by rfl) T.m_isinstance (by decide +kernel) (pa_cons (pv 1) (pa_cons (pe_bltn (v := .ty "int") (by rfl) T.m_int (by decide +kernel) rfl) pa_nil)))) (pss_one (ps_ret (pe_and (pe_callB (cr_isK K) (by rfl) T.m_isinstance (by decide +kernel) (pa_cons (pv 0) (pa_cons (pe_bltn (v := .ty "int") (by rfl) T.m_int (by decide +kernel) rfl) pa_nil))) (pe_and (pe_not (pe_callB (cr_isK K) (by rfl) T.m_isinstance (by decide +kernel) (pa_cons (pv 0) (pa_cons (pe_bltn (v := .ty "bool") (by rfl) T.m_bool (by decide +kernel) rfl) pa_nil)))) (pe_one (pe_cmpR (op_eqK K hr.units) (pv 0) (pv 1) (nomark _))))))) pss_nil)
      (pss_one (ps_ret (pe_and (pe_callB (cr_isK K) (by rfl) T.m_isinstance (by decide +kernel) (pa_cons (pv 0) (pa_cons (pe_bltn (v := .ty "str") (by rfl) T.m_str (by decide +kernel) rfl) pa_nil))) (pe_one (pe_cmpR (op_eqK K hr.units) (pv 0) (pv 1) (nomark _))))))))), ?_⟩
  obtain ⟨i, j, rfl, q⟩ := h
  have hH := Has.start H
  refine g_start (σ' := [some (.int i), some (.int j), none]) rfl ?_
  walk_at "gg"
  refine g_ktupF (by walk_at "sz") hH (fun p1 H1 F1 n1 s1 f1 h1 => ?_)
  walk_at "gg"
  refine i_d (fun z => by cases z) (fun _ => ?_)
  walk_at "gg"
  exact q H1 (s1.trans h1.same)
end

theorem so_strs (n : Nat) {xs : List Str} (h : xs.length ≤ 100000) : so (n + 2) (.list (xs.map PyData.str)) := ⟨by rw [List.length_map]; exact h, fun d hd => by
  obtain ⟨x, _, rfl⟩ := List.mem_map.mp hd
  trivial⟩
theorem so_tS (n : Nat) {xs : List Str} (h : xs.length ≤ 100000) : so (n + 2) (tS xs) := ⟨by rw [List.length_map]; exact h, fun d hd => by
  obtain ⟨x, _, rfl⟩ := List.mem_map.mp hd
  trivial⟩
theorem so_e2s (n : Nat) {es : List E2} (hl : es.length ≤ 100000) (h : ∀ e ∈ es, e2ok e) : so (n + 4) (.list (es.map e2D)) := ⟨by rw [List.length_map]; exact hl, fun d hd => by
  obtain ⟨e, he, rfl⟩ := List.mem_map.mp hd
  obtain ⟨h1, h2, h3, h4⟩ := h e he
  refine ⟨by show 3 ≤ 100000; decide, fun d hd => ?_⟩
  simp only [List.mem_cons, List.not_mem_nil, or_false] at hd
  rcases hd with rfl | rfl | rfl
  · trivial
  · exact so_tS _ (by omega)
  · exact so_tS _ (by omega)⟩
end K02

namespace K02
open PySem PySem.Spec PyProof.Rows L2 Qk
local macro_rules | `(tactic| walk_at "m") => `(tactic| ((repeat (first | exact List.Mem.head _ | apply List.Mem.tail)); done))
local macro_rules | `(tactic| walk_at "h") => `(tactic| first | assumption | exact Has.gF (by assumption) (by assumption) | exact Has.get (by assumption) (by walk_at "m"))
local macro_rules | `(tactic| walk_at "c") => `(tactic| ((repeat (first | exact Chg.hd | apply Chg.tl)); done))
local macro_rules | `(tactic| walk_at "is") => `(tactic| first
  | ((with_reducible refine' is2_non ?gh ?_); (case gh => walk_at "h"))
  | (with_reducible refine is_int_list ?_)
  | (with_reducible refine is_int_tuple ?_)
  | (with_reducible refine is_int_dict ?_)
  | (with_reducible refine is_int_int ?_)
  | (with_reducible refine is_int_bool ?_)
  | (with_reducible refine is_int_str ?_)
  | ((with_reducible refine' is2_int ?gh ?_); (case gh => walk_at "h"))
  | (with_reducible refine is_str_list ?_)
  | (with_reducible refine is_str_tuple ?_)
  | (with_reducible refine is_str_dict ?_)
  | (with_reducible refine is_str_int ?_)
  | (with_reducible refine is_str_bool ?_)
  | (with_reducible refine is_str_str ?_)
  | ((with_reducible refine' is2_str ?gh ?_); (case gh => walk_at "h"))
  | (with_reducible refine is_bool_list ?_)
  | (with_reducible refine is_bool_tuple ?_)
  | (with_reducible refine is_bool_dict ?_)
  | (with_reducible refine is_bool_int ?_)
  | (with_reducible refine is_bool_bool ?_)
  | (with_reducible refine is_bool_str ?_)
  | ((with_reducible refine' is2_bool ?gh ?_); (case gh => walk_at "h"))
  | ((with_reducible refine' is_list_list ?gh ?_); (case gh => walk_at "h"))
  | ((with_reducible refine' is_list_tuple ?gh ?_); (case gh => walk_at "h"))
  | ((with_reducible refine' is_list_dict ?gh ?_); (case gh => walk_at "h"))
  | ((with_reducible refine' is_list_int ?gh ?_); (case gh => walk_at "h"))
  | ((with_reducible refine' is_list_bool ?gh ?_); (case gh => walk_at "h"))
  | ((with_reducible refine' is_list_str ?gh ?_); (case gh => walk_at "h"))
  | ((with_reducible refine' is2_list ?ga ?gb ?_); (case ga => walk_at "h"); (case gb => walk_at "h"))
  | ((with_reducible refine' is_tuple_list ?gh ?_); (case gh => walk_at "h"))
  | ((with_reducible refine' is_tuple_tuple ?gh ?_); (case gh => walk_at "h"))
  | ((with_reducible refine' is_tuple_dict ?gh ?_); (case gh => walk_at "h"))
  | ((with_reducible refine' is_tuple_int ?gh ?_); (case gh => walk_at "h"))
  | ((with_reducible refine' is_tuple_bool ?gh ?_); (case gh => walk_at "h"))
  | ((with_reducible refine' is_tuple_str ?gh ?_); (case gh => walk_at "h"))
  | ((with_reducible refine' is2_tuple ?ga ?gb ?_); (case ga => walk_at "h"); (case gb => walk_at "h"))
  | ((with_reducible refine' is_dict_list ?gh ?_); (case gh => walk_at "h"))
  | ((with_reducible refine' is_dict_tuple ?gh ?_); (case gh => walk_at "h"))
  | ((with_reducible refine' is_dict_dict ?gh ?_); (case gh => walk_at "h"))
  | ((with_reducible refine' is_dict_int ?gh ?_); (case gh => walk_at "h"))
  | ((with_reducible refine' is_dict_bool ?gh ?_); (case gh => walk_at "h"))
  | ((with_reducible refine' is_dict_str ?gh ?_); (case gh => walk_at "h"))
  | ((with_reducible refine' is2_dict ?ga ?gb ?_); (case ga => walk_at "h"); (case gb => walk_at "h")))
local macro_rules | `(tactic| walk_at "g") => `(tactic| first
  | (with_reducible refine g_seq ?_)
  | (with_reducible refine g_asg ?_)
  | ((with_reducible refine g_name ?_); dsimp only [List.set, wipe, List.map])
  | ((with_reducible refine' g_var ?gv ?_); (case gv => exact rfl))
  | (with_reducible refine g_c ?_)
  | (with_reducible refine g_op ?_)
  | (with_reducible refine g_cons ?_)
  | (with_reducible refine g_nil ?_)
  | (with_reducible refine g_cb ?_)
  | (with_reducible refine g_call ?_)
  | (with_reducible refine g_tup ?_)
  | (with_reducible refine g_lst ?_)
  | (with_reducible refine g_bm ?_)
  | (with_reducible refine g_bm0 ?_)
  | ((with_reducible refine' g_kbm ?gh ?_); (case gh => walk_at "h"))
  | (with_reducible refine g_drop ?_)
  | (with_reducible refine g_ret ?_)
  | (with_reducible refine g_retN ?_)
  | (with_reducible refine g_next ?_)
  | (with_reducible refine g_brk ?_)
  | (with_reducible refine g_cont ?_)
  | (with_reducible refine g_if ?_)
  | ((with_reducible refine' g_aug ?gv ?_); (case gv => exact rfl))
  | (with_reducible refine g_ipI ?_)
  | (with_reducible refine g_test ?_)
  | (with_reducible refine g_tB ?_)
  | (with_reducible refine g_kB ?_)
  | (with_reducible refine g_not ?_)
  | (with_reducible refine g_and ?_)
  | (with_reducible refine g_or ?_)
  | (with_reducible refine g_andV ?_)
  | (with_reducible refine g_orV ?_)
  | (with_reducible refine g_notV ?_)
  | (with_reducible refine g_ifE ?_)
  | (with_reducible refine g_addI ?_)
  | (with_reducible refine g_rI0 ?_)
  | (with_reducible refine g_eqI ?_)
  | (with_reducible refine g_eqS ?_)
  | (with_reducible refine g_neI ?_)
  | (with_reducible refine g_neS ?_)
  | (with_reducible refine g_isN ?_)
  | (with_reducible refine g_notN ?_)
  | (with_reducible refine g_int ?_)
  | (with_reducible refine g_max2 ?_)
  | ((with_reducible refine' g_lenL ?gh ?_); (case gh => walk_at "h"))
  | (with_reducible refine g_sub ?_)
  | (with_reducible refine g_gcons ?_)
  | (with_reducible refine g_gnil ?_)
  | (with_reducible refine g_un ?_)
  | (with_reducible refine g_rU ?_)
  | (with_reducible refine g_forL ?_)
  | (with_reducible refine g_forR1 ?_)
  | (with_reducible refine g_forR2 ?_)
  | (with_reducible refine g_forR3 ?_)
  | (with_reducible refine g_lcL ?_)
  | (with_reducible refine g_lcR1 ?_)
  | (with_reducible refine g_lcR2 ?_)
  | (with_reducible refine g_slice ?_)
  | (with_reducible refine g_part ?_)
  | (with_reducible refine g_kOI ?_)
  | (with_reducible refine g_nopart ?_)
  | (with_reducible refine g_yes ?_)
  | ((with_reducible refine' g_wipe ?gv ?_); (case gv => exact rfl))
  | (with_reducible refine iteT ?_)
  | (with_reducible refine iteF ?_)
  | (with_reducible refine i_nf ?_)
  | (with_reducible refine i_nt ?_)
  | ((with_reducible refine' g_gtup ?gh ?gl ?_); (case gh => walk_at "h"); (case gl => exact rfl))
  | ((with_reducible refine' g_notinI ?gh ?_); (case gh => walk_at "h"))
  | ((with_reducible refine' g_inI ?gh ?_); (case gh => walk_at "h"))
  | ((with_reducible refine' g_kget2 ?gh ?_); (case gh => walk_at "h"))
  | ((with_reducible refine' g_kgotI ?gh ?_); (case gh => walk_at "h"))
  | (with_reducible refine g_tRev ?_)
  | (with_reducible refine g_neB ?_)
  | (with_reducible refine g_eqB ?_)
  | ((with_reducible refine' g_lenT ?gh ?_); (case gh => walk_at "h"))
  | (with_reducible refine g_star ?_)
  | ((with_reducible refine' g_kstarL ?gh ?_); (case gh => walk_at "h"))
  | ((with_reducible refine' g_kstarT ?gh ?_); (case gh => walk_at "h"))
  | (with_reducible refine g_tru ?_)
  | ((with_reducible refine' g_truL ?gh ?_); (case gh => walk_at "h"))
  | (with_reducible refine g_get2 ?_)
  | (with_reducible refine g_try ?_)
  | (with_reducible refine g_callS ?_)
  | (with_reducible refine g_raise ?_)
  | (with_reducible refine g_xf ?_)
  | walk_at "is")
local macro_rules | `(tactic| walk_at "gg") => `(tactic| repeat walk_at "g")
local macro_rules | `(tactic| walk_at "sz") => `(tactic| (refine sz ?_; simp only [List.length_cons, List.length_nil, List.length_map, List.length_append, List.length_replicate]; omega))
local macro_rules | `(tactic| walk_at "sub") => `(tactic| ((repeat (first | exact List.Sublist.slnil | with_reducible apply List.Sublist.cons_cons | with_reducible apply List.Sublist.cons)); done))

/-! ### the draws: a list of pairs -/
def cellD (p : Int × Int) : PyData := .list [.int p.1, .int p.2]
theorem cell_inv {F : Hp} {v : V} {p : Int × Int} (h : Dq F v (cellD p)) : ∃ r, v = .ref r ∧ F r = some (.lst [.int p.1, .int p.2]) := by
  cases h with
  | lst hT hs =>
    cases hs with
    | cons h1 hs =>
      cases hs with
      | cons h2 hs =>
        cases hs
        cases h1
        cases h2
        exact ⟨_, rfl, hT⟩
theorem cells_sh (rows : List (Int × Int)) : Sh 2 (.list (rows.map cellD)) := Sh.list fun d hd => by
  obtain ⟨p, _, rfl⟩ := List.mem_map.mp hd
  exact Sh.list fun d hd => by
    rcases List.mem_cons.mp hd with rfl | hd
    · exact Sh.int _
    · rw [List.mem_singleton.mp hd]
      exact Sh.int _
/-- the draws stand at c: what is left, each number with its count -/
structure Cells (F : Hp) (c : Addr) (H : Hp) (vs : List V) : Prop where
  at_ : H c = some (.lst vs)
  dq : ∃ rows : List (Int × Int), DqAll F vs (rows.map cellD) ∧ rows.length ≤ 100
section
variable {P : Program} {w : World} {K : PySem.W.Frag} {mg : Str → Option Value} {base : Heap}
def sp_l_feed (K : PySem.W.Frag) : Sp := fun vs H Q _ => ∃ (a : Addr) (ns : List Int), vs = [.ref a] ∧ SqL K H a (ns.map V.int) ∧ ns.length ≤ 63 ∧
  ∀ p H' F' (vs : List V) (rows : List (Int × Int)), H p = none → Same H F' → Has F' [(p, .lst vs)] H' → DqAll F' vs (rows.map cellD) → rows.length ≤ 100 → Q (.ref p) H'
theorem sp_l_feed_len {vs H Q E} (h : sp_l_feed K vs H Q E) : vs.length = 1 := by
  obtain ⟨_, _, rfl, _⟩ := h
  rfl
theorem ok_l_feed (T : Txt K mg) : FnOk P w K mg base CX0 1 T.f_l_feed T.fd_l_feed ["script"] (sp_l_feed K) := by
  refine T.F_l_feed.ok sc_l_feed (fun vs H Q E h => sp_l_feed_len h) (fun cdv A outer s H vs Q E hr h => ?_)
  refine ⟨_, (pss_one (ps_ret (pe_lc (own := [("cell", 1)]) (g := gName 1) (tt := tYes) rfl sc_l_feed.nd (k_il K (pi_list (pe_slice (sl_K K) (pv 0) po_none (po_some pe_int)))) (blkOk_by (N := n_l_feed) (sc := defScope s_l_feed) (by decide +kernel)) (fun _ _ _ _ _ => (pg_name (i := 1) sc_l_feed.nd rfl (.inl rfl))) (fun _ _ _ _ _ => pts_nil) (fun _ _ _ _ _ => (pe_lst (pa_cons (pe_callB cr_abs1 (by rfl) T.m_abs (by decide +kernel) (pa_cons (pe_callTy cr_int1 (by rfl) T.m_int (by decide +kernel) (pa_cons (pv 1) pa_nil)) pa_nil)) (pa_cons pe_int pa_nil))))))), ?_⟩
  obtain ⟨a, ns, rfl, ha, hn, q⟩ := h
  have hH := Has.start H
  refine g_start (σ' := [some (.ref a), none]) rfl ?_
  walk_at "gg"
  refine g_slS ha hH (fun p2 H2 n2 hH2 => ?_)
  obtain ⟨ms, em, lm⟩ := cutV_ints ns none (some 63)
  rw [em] at hH2
  refine k_lcL (by walk_at "h") hH2 (fun i acc F' O' => ∃ rows : List (Int × Int), DqAll F' acc (rows.map cellD) ∧ rows.length = i ∧ Same H F' ∧ O' = [(p2, .lst (ms.map V.int))]) ⟨[], .nil, rfl, Same.refl _, rfl⟩ ?_ ?_ ?_
  · rintro i acc F' O' H3 ⟨rows, dq, rfl, sF, rfl⟩ hh
    walk_at "h"
  · rintro i x acc F' O' D H3 hx ⟨rows, dq, rfl, sF, rfl⟩ hh
    rw [List.getElem?_map] at hx
    obtain ⟨z, hz, rfl⟩ := Option.map_eq_some_iff.mp hx
    have hl : rows.length < ms.length := (List.getElem?_eq_some_iff.mp hz).1
    have hal : acc.length = rows.length := by rw [dq.len, List.length_map]
    walk_at "gg"
    refine g_abs (fun j hj => ?_)
    walk_at "gg"
    refine g_klstF (by walk_at "sz") hh (fun r H4 F4 n4 s4 f4 h4 => ?_)
    refine k_turn h4 (by omega) ⟨rows ++ [(j, 0)], ?_, by rw [List.length_append]; rfl, sF.trans s4, rfl⟩
    rw [List.map_append]
    exact (dq.up s4 _ _).snoc (.lst f4 (.cons (.int _) (.cons (.int _) .nil)))
  · rintro acc F' O' D H3 ⟨rows, dq, hk, sF, rfl⟩ hh
    rw [List.length_map] at hk
    exact q D H3 F' acc rows (sF.free hh.free) sF (hh.sub (.cons_cons _ (.cons _ (List.Sublist.refl _)))) dq (by omega)
theorem Grow.refl (F H : Hp) : Grow F H F := ⟨Same.refl F, fun _ _ => rfl⟩
theorem Grow.new {F H : Hp} {p : Addr} {o : HO} (n : H p = none) (f : F p = none) : Grow F H (upd F p o) := ⟨same_upd f, fun b h => upd_ne (fun z => h (by rw [z]; exact n))⟩
theorem Grow.new2 {F H F1 : Hp} {p : Addr} {o : HO} (g : Grow F H F1) (n : H p = none) (f : F1 p = none) : Grow F H (upd F1 p o) := ⟨g.1.trans (same_upd f), fun b h => by rw [upd_ne (fun z => h (by rw [z]; exact n))]; exact g.2 b h⟩
def sp_l_next (K : PySem.W.Frag) : Sp := fun vs H Q _ => ∃ (c : Addr) (m : Int) (F : Hp) (ws : List V) (rows : List (Int × Int)), vs = [.ref c, .int m] ∧ Has F [(c, .lst ws)] H ∧ DqAll F ws (rows.map cellD) ∧ rows.length ≤ 100 ∧ 0 < m ∧ m < 1000000 ∧
  ∀ H' F' (ws' : List V) (rows' : List (Int × Int)) (r : Int), But c H H' → Grow F H F' → Has F' [(c, .lst ws')] H' → DqAll F' ws' (rows'.map cellD) → rows'.length ≤ 100 → 0 ≤ r → r < m → Q (.int r) H'
theorem sp_l_next_len {vs H Q E} (h : sp_l_next K vs H Q E) : vs.length = 2 := by
  obtain ⟨_, _, _, _, _, rfl, _⟩ := h
  rfl
theorem same_upd2 {F G : Hp} {p : Addr} {o : HO} (s : Same F G) : Same (upd F p o) (upd G p o) := fun b u q => by
  by_cases e : b = p
  · subst e
    rw [upd_same] at q ⊢
    exact q
  · rw [upd_ne e] at q ⊢
    exact s b u q
theorem ok_l_next (T : Txt K mg) : FnOk P w K mg base CX0 1 T.f_l_next T.fd_l_next ["cells", "many"] (sp_l_next K) := by
  refine T.F_l_next.ok sc_l_next (fun vs H Q E h => sp_l_next_len h) (fun cdv A outer s H vs Q E hr h => ?_)
  refine ⟨_, (pss_cons (ps_if (pt_cmpR (op_eqK K hr.units) (pv 0) (pe_lst pa_nil) (nomark _)) (pss_one (ps_ret pe_int)) pss_nil)
      (pss_cons (ps_set (i := 2) sc_l_next.nd rfl (.inl rfl) (pe_op op_mod (pe_callTy cr_int1 (by rfl) T.m_int (by decide +kernel) (pa_cons (pe_ix (ix_K K (hu_of hr)) (pe_ix (ix_K K (hu_of hr)) (pv 0) pe_int (fun _ _ => rfl)) pe_int (fun _ _ => rfl)) pa_nil)) (pv 1)))
      (pss_cons (ps_asg (pe_lst (pa_cons (pe_op op_fdiv (pe_ix (ix_K K (hu_of hr)) (pe_ix (ix_K K (hu_of hr)) (pv 0) pe_int (fun _ _ => rfl)) pe_int (fun _ _ => rfl)) (pv 1)) (pa_cons (pe_op (op_addK K) (pe_ix (ix_K K (hu_of hr)) (pe_ix (ix_K K (hu_of hr)) (pv 0) pe_int (fun _ _ => rfl)) pe_int (fun _ _ => rfl)) pe_int) pa_nil))) (pg_sub (pv 0) pe_int (set_any (hu_of hr))))
      (pss_cons (ps_if (PW.pt (pw_or (pt_cmpR (op_eqK K hr.units) (pe_ix (ix_K K (hu_of hr)) (pe_ix (ix_K K (hu_of hr)) (pv 0) pe_int (fun _ _ => rfl)) pe_int (fun _ _ => rfl)) pe_int (nomark _)) (pw_or1 (pt_cmpR (op_eqK K hr.units) (pe_ix (ix_K K (hu_of hr)) (pe_ix (ix_K K (hu_of hr)) (pv 0) pe_int (fun _ _ => rfl)) pe_int (fun _ _ => rfl)) pe_int (nomark _))))) (pss_one (ps_expr (k_bm K (pe_bm PySem.F.plainAttrs_list PySem.F.slot_list_pop PySem.F.type_list_pop mt_popAt (pv 0) (pa_cons pe_int pa_nil))))) pss_nil)
      (pss_one (ps_ret (pv 2))))))), ?_⟩
  obtain ⟨c, m, F, ws, rows, rfl, hH, dq0, hl, hm0, hm, q⟩ := h
  have sFG : Same F (rm H c) := same_rm hH.same hH.free
  have dq := dq0.up sFG _ _
  have hR := Has.arg (hH.get (List.Mem.head _))
  generalize hG : rm H c = G at *
  refine g_start (σ' := [some (.ref c), some (.int m), none]) rfl ?_
  walk_at "gg"
  refine g_klst (by walk_at "sz") hR (fun t H1 n1 hR1 => ?_)
  have hR1' := hR1.drop
  have hc1 := hR1'.get (List.Mem.head _)
  refine g_eqD (.lst hc1 (dq.up hR1'.same _ _)) (.lst (hR1.get (List.Mem.head _)) .nil) ((cells_sh rows).ok (by decide)) (by decide +kernel) ?_
  walk_at "gg"
  cases rows with
  | nil =>
    cases dq
    refine i_b (fun _ => ?_) (fun z => ?_)
    · walk_at "gg"
      exact q H1 F [] [] 0 (But.of (by rw [hG]; exact hR1.same)) (Grow.refl _ _) (hR1'.mono sFG) .nil (by simp) (by omega) hm0
    · rw [List.map_nil, PyData.eqv, PyData.eqvAll] at z
      cases z
  | cons row rows =>
    cases dq with
    | @cons v vs _ _ dv dvs =>
    cases dq0 with
    | cons dv0 dvs0 =>
    obtain ⟨r, rfl, hr⟩ := cell_inv dv
    refine i_b (fun z => ?_) (fun _ => ?_)
    · rw [List.map_cons, PyData.eqv, PyData.eqvAll] at z
      cases z
    have hr1 := hR1'.same _ _ hr
    walk_at "gg"
    refine g_ixL (v := .ref r) hc1 (atI_nat (j := 0) rfl) ?_
    walk_at "gg"
    refine g_ixL (v := .int row.1) hr1 (atI_nat (j := 0) rfl) ?_
    walk_at "gg"
    refine g_rI hm0 ?_
    walk_at "gg"
    refine g_ixL (v := .ref r) hc1 (atI_nat (j := 0) rfl) ?_
    walk_at "gg"
    refine g_ixL (v := .int row.1) hr1 (atI_nat (j := 0) rfl) ?_
    walk_at "gg"
    refine g_rI ⟨by omega, by omega⟩ ?_
    walk_at "gg"
    refine g_ixL (v := .ref r) hc1 (atI_nat (j := 0) rfl) ?_
    walk_at "gg"
    refine g_ixL (v := .int row.2) hr1 (atI_nat (j := 1) rfl) ?_
    walk_at "gg"
    refine g_klst (by walk_at "sz") hR1' (fun p H2 n2 hR2 => ?_)
    have fp : F p = none := sFG.free hR2.free
    have np : H p = none := by
      have nd : p ≠ c := by
        have := hR2.nd
        simp only [List.map_cons, List.map_nil, List.nodup_cons, List.mem_singleton] at this
        exact this.1
      have e := hR2.free
      rw [← hG, rm_ne nd] at e
      exact e
    have hR3 := hR2.frz
    have sG3 := hR2.grow
    have dv2 : Dq (upd F p (.lst [.int (row.1 / m), .int (row.2 + 1)])) (.ref p) (cellD (row.1 / m, row.2 + 1)) := .lst upd_same (.cons (.int _) (.cons (.int _) .nil))
    have dvs2 := dvs0.up (same_upd (o := .lst [.int (row.1 / m), .int (row.2 + 1)]) fp) _ _
    have gF : Grow F H (upd F p (.lst [.int (row.1 / m), .int (row.2 + 1)])) := Grow.new np fp
    have hp3 : upd G p (.lst [.int (row.1 / m), .int (row.2 + 1)]) p = some (.lst [.int (row.1 / m), .int (row.2 + 1)]) := upd_same
    walk_at "gg"
    refine g_stL (j := 0) hR3 (by walk_at "c") (ixN_nat (by decide) (by rw [List.length_cons]; omega)) (fun H4 hR4 => ?_)
    have fin : ∀ (H5 : Hp) (ws' : List V) (rows' : List (Int × Int)), Has (upd G p (.lst [.int (row.1 / m), .int (row.2 + 1)])) [(c, .lst ws')] H5 → DqAll (upd F p (.lst [.int (row.1 / m), .int (row.2 + 1)])) ws' (rows'.map cellD) → rows'.length ≤ 100 → Q (.int (row.1 % m)) H5 := fun H5 ws' rows' h5 d5 l5 =>
      q H5 _ ws' rows' _ (But.of (by rw [hG]; exact sG3.trans h5.same)) gF (h5.mono (same_upd2 sFG)) d5 l5 (Int.emod_nonneg _ (by omega)) (Int.emod_lt_of_pos _ hm0)
    have hc4 := hR4.get (List.Mem.head _)
    have hp4 := hR4.same _ _ hp3
    walk_at "g"
    walk_at "g"
    refine g_fact (fun _ => True) (fun R r => ?_) (fun b _ => ?_)
    · walk_at "gg"
      refine g_ixL (v := .ref p) hc4 (atI_nat (j := 0) rfl) ?_
      walk_at "gg"
      refine g_ixL (v := .int (row.1 / m)) hp4 (atI_nat (j := 0) rfl) ?_
      walk_at "gg"
      refine i_d (fun _ => r _ trivial) (fun _ => ?_)
      walk_at "gg"
      refine g_ixL (v := .ref p) hc4 (atI_nat (j := 0) rfl) ?_
      walk_at "gg"
      refine g_ixL (v := .int (row.2 + 1)) hp4 (atI_nat (j := 1) rfl) ?_
      walk_at "gg"
      exact r _ trivial
    refine i_b (fun _ => ?_) (fun _ => ?_)
    · walk_at "gg"
      refine g_popAt (k := 0) (y := .ref p) hR4 (by walk_at "c") (by omega) (by omega) (ixN_seq (ixN_nat (k := 0) (by decide) (by rw [List.length_set, List.length_cons]; omega))).1 rfl (fun H5 h5 => ?_)
      walk_at "gg"
      exact fin H5 vs rows h5 dvs2 (by rw [List.length_cons] at hl; omega)
    · walk_at "gg"
      exact fin H4 (.ref p :: vs) ((row.1 / m, row.2 + 1) :: rows) hR4 (.cons dv2 dvs2) hl
theorem Has.drawn {F F' H H' : Hp} {O : Own} {c : Addr} {ws ws' : List V} (h : Has F ((c, .lst ws) :: O) H) (hb : But c H H') (g : Grow F H F') (s : Has F' [(c, .lst ws')] H') : Has F' ((c, .lst ws') :: O) H' :=
  h.grown .hd hb g s.same (s.get (List.Mem.head _))
def sp_l_menu (K : PySem.W.Frag) : Sp := fun vs H Q _ => ∃ i : Int, vs = [.int i] ∧ ∀ H' z, Same H H' → PyData.strOk z = true → Q (.str z) H'
theorem sp_l_menu_len {vs H Q E} (h : sp_l_menu K vs H Q E) : vs.length = 1 := by
  obtain ⟨_, rfl, _⟩ := h
  rfl
theorem ok_l_menu (T : Txt K mg) : FnOk P w K mg base CX0 1 T.f_l_menu T.fd_l_menu ["place"] (sp_l_menu K) := by
  refine T.F_l_menu.ok sc_l_menu (fun vs H Q E h => sp_l_menu_len h) (fun cdv A outer s H vs Q E hr h => ?_)
  refine ⟨_, (pss_cons (ps_set (i := 1) sc_l_menu.nd rfl (.inl rfl) (pe_lst (pa_cons pe_str (pa_cons pe_str (pa_cons pe_str (pa_cons pe_str (pa_cons pe_str (pa_cons pe_str (pa_cons pe_str (pa_cons pe_str (pa_cons pe_str (pa_cons pe_str (pa_cons pe_str (pa_cons pe_str pa_nil))))))))))))))
      (pss_cons (ps_set (i := 1) sc_l_menu.nd rfl (.inl rfl) (pe_op (op_addK K) (pv 1) (pe_lst (pa_cons pe_str (pa_cons pe_str (pa_cons pe_str (pa_cons pe_str pa_nil)))))))
      (pss_one (ps_ret (pe_ix (ix_K K (hu_of hr)) (pv 1) (pe_op op_mod (pe_callTy cr_int1 (by rfl) T.m_int (by decide +kernel) (pa_cons (pv 0) pa_nil)) pe_int) (fun _ _ => rfl)))))), ?_⟩
  obtain ⟨i, rfl, q⟩ := h
  have hH := Has.start H
  refine g_start (σ' := [some (.int i), none]) rfl ?_
  walk_at "gg"
  refine g_klst (by walk_at "sz") hH (fun p1 H1 n1 hH1 => ?_)
  walk_at "gg"
  refine g_klst (by walk_at "sz") hH1 (fun p2 H2 n2 hH2 => ?_)
  refine g_addL (by walk_at "h") (by walk_at "h") (by walk_at "sz") hH2 (fun p3 H3 n3 hH3 => ?_)
  walk_at "gg"
  refine g_rI (by show (0 : Int) < 16; decide) ?_
  refine g_ixM (by walk_at "h") (by decide +kernel) (Int.emod_nonneg _ (by decide)) (by show _ < (16 : Int); exact Int.emod_lt_of_pos _ (by decide)) (fun z hz => ?_)
  exact q H3 z hH3.same hz
end

end K02

namespace K02
open PySem PySem.Spec PyProof.Rows L2 Qk
local macro_rules | `(tactic| walk_at "m") => `(tactic| ((repeat (first | exact List.Mem.head _ | apply List.Mem.tail)); done))
local macro_rules | `(tactic| walk_at "h") => `(tactic| first | assumption | exact Has.gF (by assumption) (by assumption) | exact Has.get (by assumption) (by walk_at "m"))
local macro_rules | `(tactic| walk_at "c") => `(tactic| ((repeat (first | exact Chg.hd | apply Chg.tl)); done))
local macro_rules | `(tactic| walk_at "is") => `(tactic| first
  | ((with_reducible refine' is2_non ?gh ?_); (case gh => walk_at "h"))
  | (with_reducible refine is_int_list ?_)
  | (with_reducible refine is_int_tuple ?_)
  | (with_reducible refine is_int_dict ?_)
  | (with_reducible refine is_int_int ?_)
  | (with_reducible refine is_int_bool ?_)
  | (with_reducible refine is_int_str ?_)
  | ((with_reducible refine' is2_int ?gh ?_); (case gh => walk_at "h"))
  | (with_reducible refine is_str_list ?_)
  | (with_reducible refine is_str_tuple ?_)
  | (with_reducible refine is_str_dict ?_)
  | (with_reducible refine is_str_int ?_)
  | (with_reducible refine is_str_bool ?_)
  | (with_reducible refine is_str_str ?_)
  | ((with_reducible refine' is2_str ?gh ?_); (case gh => walk_at "h"))
  | (with_reducible refine is_bool_list ?_)
  | (with_reducible refine is_bool_tuple ?_)
  | (with_reducible refine is_bool_dict ?_)
  | (with_reducible refine is_bool_int ?_)
  | (with_reducible refine is_bool_bool ?_)
  | (with_reducible refine is_bool_str ?_)
  | ((with_reducible refine' is2_bool ?gh ?_); (case gh => walk_at "h"))
  | ((with_reducible refine' is_list_list ?gh ?_); (case gh => walk_at "h"))
  | ((with_reducible refine' is_list_tuple ?gh ?_); (case gh => walk_at "h"))
  | ((with_reducible refine' is_list_dict ?gh ?_); (case gh => walk_at "h"))
  | ((with_reducible refine' is_list_int ?gh ?_); (case gh => walk_at "h"))
  | ((with_reducible refine' is_list_bool ?gh ?_); (case gh => walk_at "h"))
  | ((with_reducible refine' is_list_str ?gh ?_); (case gh => walk_at "h"))
  | ((with_reducible refine' is2_list ?ga ?gb ?_); (case ga => walk_at "h"); (case gb => walk_at "h"))
  | ((with_reducible refine' is_tuple_list ?gh ?_); (case gh => walk_at "h"))
  | ((with_reducible refine' is_tuple_tuple ?gh ?_); (case gh => walk_at "h"))
  | ((with_reducible refine' is_tuple_dict ?gh ?_); (case gh => walk_at "h"))
  | ((with_reducible refine' is_tuple_int ?gh ?_); (case gh => walk_at "h"))
  | ((with_reducible refine' is_tuple_bool ?gh ?_); (case gh => walk_at "h"))
  | ((with_reducible refine' is_tuple_str ?gh ?_); (case gh => walk_at "h"))
  | ((with_reducible refine' is2_tuple ?ga ?gb ?_); (case ga => walk_at "h"); (case gb => walk_at "h"))
  | ((with_reducible refine' is_dict_list ?gh ?_); (case gh => walk_at "h"))
  | ((with_reducible refine' is_dict_tuple ?gh ?_); (case gh => walk_at "h"))
  | ((with_reducible refine' is_dict_dict ?gh ?_); (case gh => walk_at "h"))
  | ((with_reducible refine' is_dict_int ?gh ?_); (case gh => walk_at "h"))
  | ((with_reducible refine' is_dict_bool ?gh ?_); (case gh => walk_at "h"))
  | ((with_reducible refine' is_dict_str ?gh ?_); (case gh => walk_at "h"))
  | ((with_reducible refine' is2_dict ?ga ?gb ?_); (case ga => walk_at "h"); (case gb => walk_at "h")))
local macro_rules | `(tactic| walk_at "g") => `(tactic| first
  | (with_reducible refine g_seq ?_)
  | (with_reducible refine g_asg ?_)
  | ((with_reducible refine g_name ?_); dsimp only [List.set, wipe, List.map])
  | ((with_reducible refine' g_var ?gv ?_); (case gv => exact rfl))
  | (with_reducible refine g_c ?_)
  | (with_reducible refine g_op ?_)
  | (with_reducible refine g_cons ?_)
  | (with_reducible refine g_nil ?_)
  | (with_reducible refine g_cb ?_)
  | (with_reducible refine g_call ?_)
  | (with_reducible refine g_tup ?_)
  | (with_reducible refine g_lst ?_)
  | (with_reducible refine g_bm ?_)
  | (with_reducible refine g_bm0 ?_)
  | ((with_reducible refine' g_kbm ?gh ?_); (case gh => walk_at "h"))
  | (with_reducible refine g_drop ?_)
  | (with_reducible refine g_ret ?_)
  | (with_reducible refine g_retN ?_)
  | (with_reducible refine g_next ?_)
  | (with_reducible refine g_brk ?_)
  | (with_reducible refine g_cont ?_)
  | (with_reducible refine g_if ?_)
  | ((with_reducible refine' g_aug ?gv ?_); (case gv => exact rfl))
  | (with_reducible refine g_ipI ?_)
  | (with_reducible refine g_test ?_)
  | (with_reducible refine g_tB ?_)
  | (with_reducible refine g_kB ?_)
  | (with_reducible refine g_not ?_)
  | (with_reducible refine g_and ?_)
  | (with_reducible refine g_or ?_)
  | (with_reducible refine g_andV ?_)
  | (with_reducible refine g_orV ?_)
  | (with_reducible refine g_notV ?_)
  | (with_reducible refine g_ifE ?_)
  | (with_reducible refine g_addI ?_)
  | (with_reducible refine g_rI0 ?_)
  | (with_reducible refine g_eqI ?_)
  | (with_reducible refine g_eqS ?_)
  | (with_reducible refine g_neI ?_)
  | (with_reducible refine g_neS ?_)
  | (with_reducible refine g_isN ?_)
  | (with_reducible refine g_notN ?_)
  | (with_reducible refine g_int ?_)
  | (with_reducible refine g_max2 ?_)
  | ((with_reducible refine' g_lenL ?gh ?_); (case gh => walk_at "h"))
  | (with_reducible refine g_sub ?_)
  | (with_reducible refine g_gcons ?_)
  | (with_reducible refine g_gnil ?_)
  | (with_reducible refine g_un ?_)
  | (with_reducible refine g_rU ?_)
  | (with_reducible refine g_forL ?_)
  | (with_reducible refine g_forR1 ?_)
  | (with_reducible refine g_forR2 ?_)
  | (with_reducible refine g_forR3 ?_)
  | (with_reducible refine g_lcL ?_)
  | (with_reducible refine g_lcR1 ?_)
  | (with_reducible refine g_lcR2 ?_)
  | (with_reducible refine g_slice ?_)
  | (with_reducible refine g_part ?_)
  | (with_reducible refine g_kOI ?_)
  | (with_reducible refine g_nopart ?_)
  | (with_reducible refine g_yes ?_)
  | ((with_reducible refine' g_wipe ?gv ?_); (case gv => exact rfl))
  | (with_reducible refine iteT ?_)
  | (with_reducible refine iteF ?_)
  | (with_reducible refine i_nf ?_)
  | (with_reducible refine i_nt ?_)
  | ((with_reducible refine' g_gtup ?gh ?gl ?_); (case gh => walk_at "h"); (case gl => exact rfl))
  | ((with_reducible refine' g_notinI ?gh ?_); (case gh => walk_at "h"))
  | ((with_reducible refine' g_inI ?gh ?_); (case gh => walk_at "h"))
  | ((with_reducible refine' g_kget2 ?gh ?_); (case gh => walk_at "h"))
  | ((with_reducible refine' g_kgotI ?gh ?_); (case gh => walk_at "h"))
  | (with_reducible refine g_tRev ?_)
  | (with_reducible refine g_neB ?_)
  | (with_reducible refine g_eqB ?_)
  | ((with_reducible refine' g_lenT ?gh ?_); (case gh => walk_at "h"))
  | (with_reducible refine g_star ?_)
  | ((with_reducible refine' g_kstarL ?gh ?_); (case gh => walk_at "h"))
  | ((with_reducible refine' g_kstarT ?gh ?_); (case gh => walk_at "h"))
  | (with_reducible refine g_tru ?_)
  | ((with_reducible refine' g_truL ?gh ?_); (case gh => walk_at "h"))
  | (with_reducible refine g_get2 ?_)
  | (with_reducible refine g_try ?_)
  | (with_reducible refine g_callS ?_)
  | (with_reducible refine g_raise ?_)
  | (with_reducible refine g_xf ?_)
  | walk_at "is")
local macro_rules | `(tactic| walk_at "gg") => `(tactic| repeat walk_at "g")
local macro_rules | `(tactic| walk_at "sz") => `(tactic| (refine sz ?_; simp only [List.length_cons, List.length_nil, List.length_map, List.length_append, List.length_replicate]; omega))
local macro_rules | `(tactic| walk_at "sub") => `(tactic| ((repeat (first | exact List.Sublist.slnil | with_reducible apply List.Sublist.cons_cons | with_reducible apply List.Sublist.cons)); done))

section
variable {P : Program} {w : World} {K : PySem.W.Frag} {mg : Str → Option Value} {base : Heap}
def Bd (T : Option (List Str)) (es : List E2) (r : Int) : Prop := (∃ k : Nat, r = (k : Int) ∧ (∀ i, i < k → okK T es i) ∧ ¬ okK T es k) ∨ (r = -1 ∧ ∀ j, okK T es j)
def TxV (H : Hp) (x : V) : Option (List Str) → Prop
  | none => x = .non
  | some t => ∃ a, x = .ref a ∧ H a = some (.lst (t.map V.str)) ∧ t.length ≤ 10 ∧ okL t
def sp_l_first_bad (K : PySem.W.Frag) : Sp := fun vs H Q _ => ∃ (x : V) (e : Addr) (T : Option (List Str)) (us : List V) (es : List E2), vs = [x, .ref e] ∧ TxV H x T ∧ H e = some (.lst us) ∧ DqAll H us (es.map e2D) ∧ es.length ≤ 10 ∧ (∀ y ∈ es, e2ok y) ∧
  ∀ r H', Same H H' → Bd T es r → Q (.int r) H'
theorem sp_l_first_bad_len {vs H Q E} (h : sp_l_first_bad K vs H Q E) : vs.length = 2 := by
  obtain ⟨_, _, _, _, _, rfl, _⟩ := h
  rfl
theorem ok_l_first_bad (T : Txt K mg) : FnOk P w K mg base CX0 1 T.f_l_first_bad T.fd_l_first_bad ["text", "edits"] (sp_l_first_bad K) := by
  refine T.F_l_first_bad.ok sc_l_first_bad (fun vs H Q E h => sp_l_first_bad_len h) (fun cdv A outer s H vs Q E hr h => ?_)
  refine ⟨_, (pss_cons (ps_set (i := 2) sc_l_first_bad.nd rfl (.inl rfl) pe_int)
      (pss_cons (ps_for PassesOwn.never rfl (pi_range1 rfl T.m_range (pa_cons (pe_callB (cr_lenK K) (by rfl) T.m_len (by decide +kernel) (pa_cons (pv 1) pa_nil)) pa_nil)) (pg_name (i := 3) sc_l_first_bad.nd rfl (.inl rfl)) (pss_cons (ps_set (i := 4) sc_l_first_bad.nd rfl (.inl rfl) (pe_ix (ix_K K (hu_of hr)) (pe_ix (ix_K K (hu_of hr)) (pv 1) (pv 3) (fun _ _ => rfl)) pe_int (fun _ _ => rfl)))
      (pss_cons (ps_set (i := 5) sc_l_first_bad.nd rfl (.inl rfl) (pe_callTy (cr_listK K) (by rfl) T.m_list (by decide +kernel) (pa_cons (pe_ix (ix_K K (hu_of hr)) (pe_ix (ix_K K (hu_of hr)) (pv 1) (pv 3) (fun _ _ => rfl)) pe_int (fun _ _ => rfl)) pa_nil)))
      (pss_cons (ps_if (PW.pt (pw_or (pt_cmpR op_lt (pv 4) (pv 2) (nomark _)) (pw_or (pt_cmpR op_gt (pv 4) pe_int (nomark _)) (pw_or1 (PW.pt (pw_and (pt_cmpR (op_eqK K hr.units) (pv 5) (pe_lst pa_nil) (nomark _)) (pw_and1 (pt_cmpR (op_eqK K hr.units) (pe_ix (ix_K K (hu_of hr)) (pe_ix (ix_K K (hu_of hr)) (pv 1) (pv 3) (fun _ _ => rfl)) pe_int (fun _ _ => rfl)) (pe_tup pa_nil) (nomark _))))))))) (pss_one (ps_ret (pv 3))) pss_nil)
      (pss_cons (ps_if (PW.pt (pw_and (pt_cmpR op_notNA (pv 0) pe_non (nomark _)) (pw_and1 (pt_cmpR op_gt (pv 4) (pe_callB (cr_lenK K) (by rfl) T.m_len (by decide +kernel) (pa_cons (pv 0) pa_nil)) (nomark _))))) (pss_one (ps_ret (pv 3))) pss_nil)
      (pss_cons (ps_if (PW.pt (pw_and (pt_cmpR op_notNA (pv 0) pe_non (nomark _)) (pw_and1 (pt_cmpR (op_neK K hr.units) (pe_slice (sl_K K) (pv 0) (po_some (pv 4)) (po_some (pe_op (op_addK K) (pv 4) (pe_callB (cr_lenK K) (by rfl) T.m_len (by decide +kernel) (pa_cons (pv 5) pa_nil))))) (pv 5) (nomark _))))) (pss_one (ps_ret (pv 3))) pss_nil)
      (pss_one (ps_set (i := 2) sc_l_first_bad.nd rfl (.inl rfl) (pe_op (op_addK K) (pv 4) (pe_callB (cr_lenK K) (by rfl) T.m_len (by decide +kernel) (pa_cons (pv 5) pa_nil)))))))))))
      (pss_one (ps_ret (pe_un un_neg pe_int))))), ?_⟩
  obtain ⟨x, e, T, us, es, rfl, hx, he, du, le, oke, q⟩ := h
  have hH := Has.start H
  refine g_start (σ' := [some (x), some (.ref e), none, none, none, none]) rfl ?_
  have hul : us.length = es.length := by rw [du.len, List.length_map]
  walk_at "gg"
  refine k_forR1 (fun i σ H' => ∃ (y3 y4 y5 : Option V), σ = [some x, some (.ref e), some (.int (endK es i)), y3, y4, y5] ∧ Has H [] H' ∧ ∀ j, j < i → okK T es j) (by omega) (by omega) ⟨_, _, _, rfl, hH, fun j hj => by omega⟩ ?_ ?_
  · rintro i σ H1 hi ⟨y3, y4, y5, rfl, h1, ok⟩
    walk_at "gg"
    refine g_ixV (by walk_at "h") (by omega) (by omega) (fun u hu => ?_)
    obtain ⟨d, hd, dx⟩ := du.get hu
    rw [List.getElem?_map, Int.toNat_natCast] at hd
    obtain ⟨m, hm, rfl⟩ := Option.map_eq_some_iff.mp hd
    obtain ⟨T2, tr, td, rfl, hT, er, ed_⟩ := e2_at dx
    have hi' : i < es.length := (List.getElem?_eq_some_iff.mp hm).1
    have oki := oke m (List.mem_of_getElem? hm)
    have e0 := endK_nn (T := T) (es := es) (k := i) (by omega) ok
    have bad : ∀ H', Same H H' → ¬ okE T (endK es i) m → Q (.int (i : Nat)) H' := fun H' s n => q _ H' s (.inl ⟨i, rfl, ok, fun z => n (z m hm)⟩)
    walk_at "gg"
    refine g_ixT (v := .int m.1) (by walk_at "h") (atI_nat (j := 0) rfl) ?_
    walk_at "gg"
    refine g_ixL (v := .ref T2) (by walk_at "h") (at_n (by omega) hu) ?_
    walk_at "gg"
    refine g_ixT (v := .ref tr) (by walk_at "h") (atI_nat (j := 1) rfl) ?_
    walk_at "gg"
    refine g_listT (by walk_at "h") h1 (fun rl H2 n2 h2 => ?_)
    walk_at "gg"
    refine i_d (fun z1 => ?_) (fun z1 => ?_)
    · walk_at "gg"
      exact bad _ h2.same (fun o => by have := o.1; omega)
    walk_at "gg"
    refine i_d (fun z2 => ?_) (fun z2 => ?_)
    · walk_at "gg"
      exact bad _ h2.same (fun o => by have := o.2.1; omega)
    walk_at "gg"
    refine g_klst (by walk_at "sz") h2 (fun q1 H3 n3 h3 => ?_)
    refine g_eqD (Dq.strs (xs := m.2.1) (h3.get (by walk_at "m"))) (Dq.strs (xs := []) (h3.get (by walk_at "m"))) ((Sh.strs (n := 0) oki.1).ok (by decide)) ((Sh.strs (n := 0) (by simp)).ok (by decide)) ?_
    rw [eqv_strs]
    have h3 := h3.drop
    walk_at "gg"
    refine' @g_mergeP H [(rl, .lst (m.2.1.map V.str))] (m.2.1.length + m.2.2.length > 0) _ _ ?ma ?mb
    case ma =>
      intro rest
      refine i_d (fun z3 => ?_) (fun z3 => ?_)
      · walk_at "gg"
        refine g_ixL (v := .ref T2) (by walk_at "h") (at_n (by omega) hu) ?_
        walk_at "gg"
        refine g_ixT (v := .ref td) (by walk_at "h") (atI_nat (j := 2) rfl) ?_
        walk_at "gg"
        refine g_ktup (by walk_at "sz") h3 (fun q2 H4 n4 h4 => ?_)
        refine g_eqD (dq_tS (xs := m.2.2) (by walk_at "h")) (dq_tS (xs := []) (h4.get (List.Mem.head _))) ((sh_tS (n := 0) oki.2.1).ok (by decide)) ((sh_tS (n := 0) (by intro x hx; cases hx)).ok (by decide)) ?_
        rw [eqv_tS]
        have h4 := h4.drop
        walk_at "gg"
        refine i_d (fun z4 => ?_) (fun z4 => ?_)
        · walk_at "gg"
          exact bad _ h4.same (fun o => by have := o.2.2.1; rw [z3, z4] at this; simp at this)
        · walk_at "gg"
          exact rest H4 h4 (by
            have := List.length_pos_iff.mpr z4
            omega)
      · walk_at "gg"
        exact rest H3 h3 (by
          have := List.length_pos_iff.mpr z3
          omega)
    case mb =>
      intro H4 h4 z5
      have em : m.1 = (m.1.toNat : Int) := by omega
      have next : ∀ H5, Has H [(rl, .lst (m.2.1.map V.str))] H5 → (∀ t, T = some t → m.1 ≤ t.length ∧ cut t m.1.toNat (m.1.toNat + m.2.1.length) = m.2.1) → ∃ y3 y4 y5, [some x, some (.ref e), some (.int (m.1 + (m.2.1.length : Int))), some (V.int (i : Nat)), some (V.int m.1), some (V.ref rl)] = [some x, some (.ref e), some (.int (endK es (i + 1))), y3, y4, y5] ∧ Has H [] H5 ∧ ∀ j, j < i + 1 → okK T es j := by
        intro H5 h5 hT
        refine ⟨_, _, _, by rw [endK_succ hm], h5.drop, fun j hj => ?_⟩
        rcases Nat.lt_or_eq_of_le (show j ≤ i by omega) with hj | rfl
        · exact ok j hj
        · exact fun y hy => by
            rw [hm] at hy
            cases hy
            exact ⟨by omega, by omega, z5, hT⟩
      cases T with
      | none =>
        cases hx
        walk_at "gg"
        refine i_n (fun z => (z rfl).elim) (fun _ => ?_)
        walk_at "gg"
        refine i_n (fun z => (z rfl).elim) (fun _ => ?_)
        walk_at "gg"
        rw [List.length_map]
        exact next H4 h4 fun t ht => by cases ht
      | some t =>
        obtain ⟨a, rfl, ha, lt, okt⟩ := hx
        walk_at "gg"
        refine i_n (fun _ => ?_) (fun z => by cases z)
        walk_at "gg"
        rw [List.length_map]
        refine i_d (fun z6 => ?_) (fun z6 => ?_)
        · walk_at "gg"
          exact bad _ h4.same (fun o => by have := (o.2.2.2 t rfl).1; omega)
        walk_at "gg"
        refine i_n (fun _ => ?_) (fun z => by cases z)
        walk_at "gg"
        rw [List.length_map]
        refine g_slL (by walk_at "h") h4 (fun q1 H5 n5 h5 => ?_)
        rw [em, show ((m.1.toNat : Int) + (m.2.1.length : Int)) = ((m.1.toNat + m.2.1.length : Nat) : Int) from rfl, cutV_str] at h5
        walk_at "gg"
        refine g_neD (Dq.strs (xs := cut t m.1.toNat (m.1.toNat + m.2.1.length)) (h5.get (List.Mem.head _))) (Dq.strs (xs := m.2.1) (h5.get (by walk_at "m"))) ((Sh.strs (n := 0) (fun y hy => okt y (cut_mem hy))).ok (by decide)) ((Sh.strs (n := 0) oki.1).ok (by decide)) ?_
        rw [eqv_strs]
        walk_at "gg"
        refine i_n (fun z7 => ?_) (fun z7 => ?_)
        · walk_at "gg"
          exact bad _ h5.same (fun o => z7 (o.2.2.2 t rfl).2)
        · walk_at "gg"
          rw [List.length_map]
          exact next H5 h5.drop fun t' ht => by cases ht; exact ⟨by omega, z7⟩
  · rintro σ H1 ⟨y3, y4, y5, rfl, h1, ok⟩
    walk_at "gg"
    exact q _ H1 h1.same (.inr ⟨rfl, fun j y hy => ok j (by have := (List.getElem?_eq_some_iff.mp hy).1; omega) y hy⟩)
def sp_l_replaced (K : PySem.W.Frag) : Sp := fun vs H Q _ => ∃ (a e : Addr) (t : List Str) (us : List V) (es : List E2), vs = [.ref a, .ref e] ∧ H a = some (.lst (t.map V.str)) ∧ H e = some (.lst us) ∧ DqAll H us (es.map e2D) ∧ t.length ≤ 10 ∧ es.length ≤ 10 ∧ (∀ x ∈ es, e2ok x ∧ 0 ≤ x.1) ∧
  ∀ p H', Same H H' → H p = none → H' p = some (.lst ((es.foldr (fun e ls => step2 ls e) t).map V.str)) → Q (.ref p) H'
theorem sp_l_replaced_len {vs H Q E} (h : sp_l_replaced K vs H Q E) : vs.length = 2 := by
  obtain ⟨_, _, _, _, _, rfl, _⟩ := h
  rfl
theorem ok_l_replaced (T : Txt K mg) : FnOk P w K mg base CX0 1 T.f_l_replaced T.fd_l_replaced ["text", "edits"] (sp_l_replaced K) := by
  refine T.F_l_replaced.ok sc_l_replaced (fun vs H Q E h => sp_l_replaced_len h) (fun cdv A outer s H vs Q E hr h => ?_)
  refine ⟨_, (pss_cons (ps_set (i := 2) sc_l_replaced.nd rfl (.inl rfl) (pe_callTy (cr_listK K) (by rfl) T.m_list (by decide +kernel) (pa_cons (pv 0) pa_nil)))
      (pss_cons (ps_for PassesOwn.never rfl (k_il K (pi_list (k_rev K (pe_revL (pv 1))))) (pg_name (i := 3) sc_l_replaced.nd rfl (.inl rfl)) (pss_one (ps_set (i := 2) sc_l_replaced.nd rfl (.inl rfl) (pe_op (op_addK K) (pe_op (op_addK K) (pe_slice (sl_K K) (pv 2) po_none (po_some (pe_ix (ix_K K (hu_of hr)) (pv 3) pe_int (fun _ _ => rfl)))) (pe_callTy (cr_listK K) (by rfl) T.m_list (by decide +kernel) (pa_cons (pe_ix (ix_K K (hu_of hr)) (pv 3) pe_int (fun _ _ => rfl)) pa_nil))) (pe_slice (sl_K K) (pv 2) (po_some (pe_op (op_addK K) (pe_ix (ix_K K (hu_of hr)) (pv 3) pe_int (fun _ _ => rfl)) (pe_callB (cr_lenK K) (by rfl) T.m_len (by decide +kernel) (pa_cons (pe_ix (ix_K K (hu_of hr)) (pv 3) pe_int (fun _ _ => rfl)) pa_nil)))) po_none)))))
      (pss_one (ps_ret (pv 2))))), ?_⟩
  obtain ⟨a, e, t, us, es, rfl, ha, he, du, lt, le, oke, q⟩ := h
  have hH := Has.start H
  refine g_start (σ' := [some (.ref a), some (.ref e), none, none]) rfl ?_
  have hul : us.length = es.length := by rw [du.len, List.length_map]
  walk_at "gg"
  refine g_listL (by walk_at "h") hH (fun l0 H1 n1 h1 => ?_)
  walk_at "gg"
  refine g_rRev (by walk_at "h") h1 (fun rv H2 n2 h2 => ?_)
  have du2 : DqAll H us.reverse (es.reverse.map e2D) := by
    rw [List.map_reverse]
    exact du.rev
  refine k_forL (by walk_at "h") (fun i σ H' => ∃ (l : Addr) (y3 : Option V), σ = [some (.ref a), some (.ref e), some (.ref l), y3] ∧ Has H [(l, .lst (((es.reverse.take i).foldl step2 t).map V.str)), (rv, .lst us.reverse)] H' ∧ H l = none) ⟨l0, _, rfl, h2.perm (List.Perm.swap _ _ _), n1⟩ ?_ ?_ ?_
  · rintro i σ H3 _ ⟨l, _, _, h3, _⟩
    walk_at "h"
  · rintro i x σ H3 hx ⟨l, y3, rfl, h3, nl⟩
    obtain ⟨d, hd, dx⟩ := du2.get hx
    rw [List.getElem?_map] at hd
    obtain ⟨m, hm, rfl⟩ := Option.map_eq_some_iff.mp hd
    obtain ⟨T2, tr, td, rfl, hT, er, ed_⟩ := e2_at dx
    have oki := oke m (List.mem_reverse.mp (List.mem_of_getElem? hm))
    have em : m.1 = (m.1.toNat : Int) := by omega
    have om := oki.1.2.2.2
    have lb := fold2_len (es.reverse.take i) t fun x hx => (oke x (List.mem_reverse.mp (List.mem_of_mem_take hx))).1.2.2.2
    rw [List.length_take, List.length_reverse] at lb
    have fs := take_foldl (f := step2) (z := t) hm
    generalize (es.reverse.take i).foldl step2 t = L at h3 lb fs
    walk_at "gg"
    refine g_ixT (v := .int m.1) (by walk_at "h") (atI_nat (j := 0) rfl) ?_
    walk_at "gg"
    refine g_slL (by walk_at "h") h3 (fun q1 H4 n4 h4 => ?_)
    rw [em, cutV_to, ← List.map_take] at h4
    walk_at "gg"
    refine g_ixT (v := .ref td) (by walk_at "h") (atI_nat (j := 2) rfl) ?_
    walk_at "gg"
    refine g_listT (by walk_at "h") h4 (fun q2 H5 n5 h5 => ?_)
    refine g_addL (by walk_at "h") (by walk_at "h") (sz (by rw [List.length_map, List.length_map, List.length_take]; omega)) h5 (fun q3 H6 n6 h6 => ?_)
    walk_at "gg"
    refine g_ixT (v := .int m.1) (by walk_at "h") (atI_nat (j := 0) rfl) ?_
    walk_at "gg"
    refine g_ixT (v := .ref tr) (by walk_at "h") (atI_nat (j := 1) rfl) ?_
    walk_at "gg"
    rw [List.length_map]
    refine g_slL (by walk_at "h") h6 (fun q4 H7 n7 h7 => ?_)
    rw [show m.1 + (m.2.1.length : Int) = ((m.1.toNat + m.2.1.length : Nat) : Int) by omega, cutV_from, ← List.map_drop] at h7
    walk_at "gg"
    refine g_addL (by walk_at "h") (by walk_at "h") (sz (by rw [List.length_append, List.length_map, List.length_map, List.length_map, List.length_take, List.length_drop]; omega)) h7 (fun q5 H8 n8 h8 => ?_)
    rw [← List.map_append, ← List.map_append] at h8
    walk_at "gg"
    refine ⟨q5, _, rfl, ?_, h7.same.free n8⟩
    rw [fs]
    show Has H [(q5, .lst ((L.take m.1.toNat ++ m.2.2 ++ L.drop (m.1.toNat + m.2.1.length)).map V.str)), (rv, .lst us.reverse)] H8
    exact h8.sub (by walk_at "sub")
  · rintro σ H3 ⟨l, y3, rfl, h3, nl⟩
    rw [List.length_reverse, hul, ← List.length_reverse (as := es), List.take_length, List.foldl_reverse] at h3
    walk_at "gg"
    exact q l H3 h3.same nl (h3.get (List.Mem.head _))
def sp_l_back (K : PySem.W.Frag) : Sp := fun vs H Q _ => ∃ (e : Addr) (us : List V) (es : List E2), vs = [.ref e] ∧ H e = some (.lst us) ∧ DqAll H us (es.map e2D) ∧ es.length ≤ 10 ∧
  ∀ p H' (vs : List V), Same H H' → H p = none → H' p = some (.lst vs) → DqAll H' vs ((inv2 0 es).map e2D) → Q (.ref p) H'
theorem sp_l_back_len {vs H Q E} (h : sp_l_back K vs H Q E) : vs.length = 1 := by
  obtain ⟨_, _, _, rfl, _⟩ := h
  rfl
theorem ok_l_back (T : Txt K mg) : FnOk P w K mg base CX0 1 T.f_l_back T.fd_l_back ["edits"] (sp_l_back K) := by
  refine T.F_l_back.ok sc_l_back (fun vs H Q E h => sp_l_back_len h) (fun cdv A outer s H vs Q E hr h => ?_)
  refine ⟨_, (pss_cons (ps_set (i := 1) sc_l_back.nd rfl (.inl rfl) (pe_lst pa_nil))
      (pss_cons (ps_set (i := 2) sc_l_back.nd rfl (.inl rfl) pe_int)
      (pss_cons (ps_for PassesOwn.never rfl (k_il K (pi_list (pv 0))) (pg_name (i := 3) sc_l_back.nd rfl (.inl rfl)) (pss_cons (ps_expr (k_bm K (pe_bm PySem.F.plainAttrs_list PySem.F.slot_list_append PySem.F.type_list_append mt_append (pv 1) (pa_cons (pe_tup (pa_cons (pe_op (op_addK K) (pe_ix (ix_K K (hu_of hr)) (pv 3) pe_int (fun _ _ => rfl)) (pv 2)) (pa_cons (pe_ix (ix_K K (hu_of hr)) (pv 3) pe_int (fun _ _ => rfl)) (pa_cons (pe_ix (ix_K K (hu_of hr)) (pv 3) pe_int (fun _ _ => rfl)) pa_nil)))) pa_nil))))
      (pss_one (ps_set (i := 2) sc_l_back.nd rfl (.inl rfl) (pe_op op_sub (pe_op (op_addK K) (pv 2) (pe_callB (cr_lenK K) (by rfl) T.m_len (by decide +kernel) (pa_cons (pe_ix (ix_K K (hu_of hr)) (pv 3) pe_int (fun _ _ => rfl)) pa_nil))) (pe_callB (cr_lenK K) (by rfl) T.m_len (by decide +kernel) (pa_cons (pe_ix (ix_K K (hu_of hr)) (pv 3) pe_int (fun _ _ => rfl)) pa_nil)))))))
      (pss_one (ps_ret (pv 1)))))), ?_⟩
  obtain ⟨e, us, es, rfl, he, du, le, q⟩ := h
  have hH := Has.start H
  refine g_start (σ' := [some (.ref e), none, none, none]) rfl ?_
  have hul : us.length = es.length := by rw [du.len, List.length_map]
  walk_at "gg"
  refine g_klst (by walk_at "sz") hH (fun ln H2 n2 h2 => ?_)
  walk_at "gg"
  refine k_forL (by walk_at "h") (fun i σ H' => ∃ (A : List E2) (sh : Int) (acc : List V) (F : Hp) (y3 : Option V), σ = [some (.ref e), some (.ref ln), some (.int sh), y3] ∧ Same H F ∧ Has F [(ln, .lst acc)] H' ∧ DqAll F acc (A.map e2D) ∧ A ++ inv2 sh (es.drop i) = inv2 0 es) ⟨[], 0, [], H, _, rfl, Same.refl _, h2, .nil, by rw [List.drop_zero]; rfl⟩ ?_ ?_ ?_
  · rintro i σ H3 _ ⟨A, sh, acc, F, _, _, sF, h3, _⟩
    exact h3.same _ _ (sF _ _ he)
  · rintro i x σ H3 hx ⟨A, sh, acc, F, y3, rfl, sF, h3, dq, el⟩
    obtain ⟨d, hd, dx⟩ := du.get hx
    rw [List.getElem?_map] at hd
    obtain ⟨m, hm, rfl⟩ := Option.map_eq_some_iff.mp hd
    obtain ⟨T2, tr, td, rfl, hT, er, ed_⟩ := e2_at (dx.up sF _ _)
    have hal : acc.length ≤ 10 := by
      have := congrArg List.length el
      rw [List.length_append, inv2_len, inv2_len, List.length_drop] at this
      rw [dq.len, List.length_map]
      omega
    have el := inv_loop hm el
    walk_at "gg"
    refine g_ixT (v := .int m.1) (by walk_at "h") (atI_nat (j := 0) rfl) ?_
    walk_at "gg"
    refine g_ixT (v := .ref td) (by walk_at "h") (atI_nat (j := 2) rfl) ?_
    walk_at "gg"
    refine g_ixT (v := .ref tr) (by walk_at "h") (atI_nat (j := 1) rfl) ?_
    walk_at "gg"
    refine g_ktupF (by walk_at "sz") h3 (fun tt H4 F4 n4 s4 f4 h4 => ?_)
    have er4 := s4 _ _ er
    have ed4 := s4 _ _ ed_
    have hT4 := s4 _ _ hT
    walk_at "gg"
    refine g_append h4 (by walk_at "c") (szl (by omega)) (fun H5 h5 => ?_)
    walk_at "gg"
    refine g_ixT (v := .ref td) (by walk_at "h") (atI_nat (j := 2) rfl) ?_
    walk_at "gg"
    refine g_ixT (v := .ref tr) (by walk_at "h") (atI_nat (j := 1) rfl) ?_
    walk_at "gg"
    rw [List.length_map, List.length_map]
    refine ⟨A ++ [(m.1 + sh, m.2.2, m.2.1)], _, _, F4, _, rfl, sF.trans s4, h5, ?_, el⟩
    rw [List.map_append]
    exact (dq.up s4 _ _).snoc (e2_mk (e := (m.1 + sh, m.2.2, m.2.1)) f4 ed4 er4)
  · rintro σ H3 ⟨A, sh, acc, F, y3, rfl, sF, h3, dq, el⟩
    rw [hul, List.drop_length] at el
    have el : A = inv2 0 es := by
      rw [← el]
      show A = A ++ []
      rw [List.append_nil]
    rw [el] at dq
    walk_at "gg"
    exact q ln H3 acc (sF.trans h3.same) n2 (h3.get (by walk_at "m")) (dq.up h3.same _ _)
end
end K02

namespace K02
open PySem PySem.Spec PyProof.Rows L2 Qk
local macro_rules | `(tactic| walk_at "m") => `(tactic| ((repeat (first | exact List.Mem.head _ | apply List.Mem.tail)); done))
local macro_rules | `(tactic| walk_at "h") => `(tactic| first | assumption | exact Has.gF (by assumption) (by assumption) | exact Has.get (by assumption) (by walk_at "m"))
local macro_rules | `(tactic| walk_at "c") => `(tactic| ((repeat (first | exact Chg.hd | apply Chg.tl)); done))
local macro_rules | `(tactic| walk_at "is") => `(tactic| first
  | ((with_reducible refine' is2_non ?gh ?_); (case gh => walk_at "h"))
  | (with_reducible refine is_int_list ?_)
  | (with_reducible refine is_int_tuple ?_)
  | (with_reducible refine is_int_dict ?_)
  | (with_reducible refine is_int_int ?_)
  | (with_reducible refine is_int_bool ?_)
  | (with_reducible refine is_int_str ?_)
  | ((with_reducible refine' is2_int ?gh ?_); (case gh => walk_at "h"))
  | (with_reducible refine is_str_list ?_)
  | (with_reducible refine is_str_tuple ?_)
  | (with_reducible refine is_str_dict ?_)
  | (with_reducible refine is_str_int ?_)
  | (with_reducible refine is_str_bool ?_)
  | (with_reducible refine is_str_str ?_)
  | ((with_reducible refine' is2_str ?gh ?_); (case gh => walk_at "h"))
  | (with_reducible refine is_bool_list ?_)
  | (with_reducible refine is_bool_tuple ?_)
  | (with_reducible refine is_bool_dict ?_)
  | (with_reducible refine is_bool_int ?_)
  | (with_reducible refine is_bool_bool ?_)
  | (with_reducible refine is_bool_str ?_)
  | ((with_reducible refine' is2_bool ?gh ?_); (case gh => walk_at "h"))
  | ((with_reducible refine' is_list_list ?gh ?_); (case gh => walk_at "h"))
  | ((with_reducible refine' is_list_tuple ?gh ?_); (case gh => walk_at "h"))
  | ((with_reducible refine' is_list_dict ?gh ?_); (case gh => walk_at "h"))
  | ((with_reducible refine' is_list_int ?gh ?_); (case gh => walk_at "h"))
  | ((with_reducible refine' is_list_bool ?gh ?_); (case gh => walk_at "h"))
  | ((with_reducible refine' is_list_str ?gh ?_); (case gh => walk_at "h"))
  | ((with_reducible refine' is2_list ?ga ?gb ?_); (case ga => walk_at "h"); (case gb => walk_at "h"))
  | ((with_reducible refine' is_tuple_list ?gh ?_); (case gh => walk_at "h"))
  | ((with_reducible refine' is_tuple_tuple ?gh ?_); (case gh => walk_at "h"))
  | ((with_reducible refine' is_tuple_dict ?gh ?_); (case gh => walk_at "h"))
  | ((with_reducible refine' is_tuple_int ?gh ?_); (case gh => walk_at "h"))
  | ((with_reducible refine' is_tuple_bool ?gh ?_); (case gh => walk_at "h"))
  | ((with_reducible refine' is_tuple_str ?gh ?_); (case gh => walk_at "h"))
  | ((with_reducible refine' is2_tuple ?ga ?gb ?_); (case ga => walk_at "h"); (case gb => walk_at "h"))
  | ((with_reducible refine' is_dict_list ?gh ?_); (case gh => walk_at "h"))
  | ((with_reducible refine' is_dict_tuple ?gh ?_); (case gh => walk_at "h"))
  | ((with_reducible refine' is_dict_dict ?gh ?_); (case gh => walk_at "h"))
  | ((with_reducible refine' is_dict_int ?gh ?_); (case gh => walk_at "h"))
  | ((with_reducible refine' is_dict_bool ?gh ?_); (case gh => walk_at "h"))
  | ((with_reducible refine' is_dict_str ?gh ?_); (case gh => walk_at "h"))
  | ((with_reducible refine' is2_dict ?ga ?gb ?_); (case ga => walk_at "h"); (case gb => walk_at "h")))
local macro_rules | `(tactic| walk_at "g") => `(tactic| first
  | (with_reducible refine g_seq ?_)
  | (with_reducible refine g_asg ?_)
  | ((with_reducible refine g_name ?_); dsimp only [List.set, wipe, List.map])
  | ((with_reducible refine' g_var ?gv ?_); (case gv => exact rfl))
  | (with_reducible refine g_c ?_)
  | (with_reducible refine g_op ?_)
  | (with_reducible refine g_cons ?_)
  | (with_reducible refine g_nil ?_)
  | (with_reducible refine g_cb ?_)
  | (with_reducible refine g_call ?_)
  | (with_reducible refine g_tup ?_)
  | (with_reducible refine g_lst ?_)
  | (with_reducible refine g_bm ?_)
  | (with_reducible refine g_bm0 ?_)
  | ((with_reducible refine' g_kbm ?gh ?_); (case gh => walk_at "h"))
  | (with_reducible refine g_drop ?_)
  | (with_reducible refine g_ret ?_)
  | (with_reducible refine g_retN ?_)
  | (with_reducible refine g_next ?_)
  | (with_reducible refine g_brk ?_)
  | (with_reducible refine g_cont ?_)
  | (with_reducible refine g_if ?_)
  | ((with_reducible refine' g_aug ?gv ?_); (case gv => exact rfl))
  | (with_reducible refine g_ipI ?_)
  | (with_reducible refine g_test ?_)
  | (with_reducible refine g_tB ?_)
  | (with_reducible refine g_kB ?_)
  | (with_reducible refine g_not ?_)
  | (with_reducible refine g_and ?_)
  | (with_reducible refine g_or ?_)
  | (with_reducible refine g_andV ?_)
  | (with_reducible refine g_orV ?_)
  | (with_reducible refine g_notV ?_)
  | (with_reducible refine g_ifE ?_)
  | (with_reducible refine g_addI ?_)
  | (with_reducible refine g_rI0 ?_)
  | (with_reducible refine g_eqI ?_)
  | (with_reducible refine g_eqS ?_)
  | (with_reducible refine g_neI ?_)
  | (with_reducible refine g_neS ?_)
  | (with_reducible refine g_isN ?_)
  | (with_reducible refine g_notN ?_)
  | (with_reducible refine g_int ?_)
  | (with_reducible refine g_max2 ?_)
  | ((with_reducible refine' g_lenL ?gh ?_); (case gh => walk_at "h"))
  | (with_reducible refine g_sub ?_)
  | (with_reducible refine g_gcons ?_)
  | (with_reducible refine g_gnil ?_)
  | (with_reducible refine g_un ?_)
  | (with_reducible refine g_rU ?_)
  | (with_reducible refine g_forL ?_)
  | (with_reducible refine g_forR1 ?_)
  | (with_reducible refine g_forR2 ?_)
  | (with_reducible refine g_forR3 ?_)
  | (with_reducible refine g_lcL ?_)
  | (with_reducible refine g_lcR1 ?_)
  | (with_reducible refine g_lcR2 ?_)
  | (with_reducible refine g_slice ?_)
  | (with_reducible refine g_part ?_)
  | (with_reducible refine g_kOI ?_)
  | (with_reducible refine g_nopart ?_)
  | (with_reducible refine g_yes ?_)
  | ((with_reducible refine' g_wipe ?gv ?_); (case gv => exact rfl))
  | (with_reducible refine iteT ?_)
  | (with_reducible refine iteF ?_)
  | (with_reducible refine i_nf ?_)
  | (with_reducible refine i_nt ?_)
  | ((with_reducible refine' g_gtup ?gh ?gl ?_); (case gh => walk_at "h"); (case gl => exact rfl))
  | ((with_reducible refine' g_notinI ?gh ?_); (case gh => walk_at "h"))
  | ((with_reducible refine' g_inI ?gh ?_); (case gh => walk_at "h"))
  | ((with_reducible refine' g_kget2 ?gh ?_); (case gh => walk_at "h"))
  | ((with_reducible refine' g_kgotI ?gh ?_); (case gh => walk_at "h"))
  | (with_reducible refine g_tRev ?_)
  | (with_reducible refine g_neB ?_)
  | (with_reducible refine g_eqB ?_)
  | ((with_reducible refine' g_lenT ?gh ?_); (case gh => walk_at "h"))
  | (with_reducible refine g_star ?_)
  | ((with_reducible refine' g_kstarL ?gh ?_); (case gh => walk_at "h"))
  | ((with_reducible refine' g_kstarT ?gh ?_); (case gh => walk_at "h"))
  | (with_reducible refine g_tru ?_)
  | ((with_reducible refine' g_truL ?gh ?_); (case gh => walk_at "h"))
  | (with_reducible refine g_get2 ?_)
  | (with_reducible refine g_try ?_)
  | (with_reducible refine g_callS ?_)
  | (with_reducible refine g_raise ?_)
  | (with_reducible refine g_xf ?_)
  | walk_at "is")
local macro_rules | `(tactic| walk_at "gg") => `(tactic| repeat walk_at "g")
local macro_rules | `(tactic| walk_at "sz") => `(tactic| (refine sz ?_; simp only [List.length_cons, List.length_nil, List.length_map, List.length_append, List.length_replicate]; omega))
local macro_rules | `(tactic| walk_at "sub") => `(tactic| ((repeat (first | exact List.Sublist.slnil | with_reducible apply List.Sublist.cons_cons | with_reducible apply List.Sublist.cons)); done))

section
variable {P : Program} {w : World} {K : PySem.W.Frag} {mg : Str → Option Value} {base : Heap}
def sp_l_applies (K : PySem.W.Frag) : Sp := fun vs H Q _ => ∃ (a e : Addr) (t : List Str) (us : List V) (es : List E2), vs = [.ref a, .ref e] ∧ H a = some (.lst (t.map V.str)) ∧ H e = some (.lst us) ∧ DqAll H us (es.map e2D) ∧ t.length ≤ 10 ∧ es.length ≤ 10 ∧ okL t ∧ (∀ x ∈ es, e2ok x) ∧
  ∀ H', Same H H' → Q (.bl true) H'
theorem sp_l_applies_len {vs H Q E} (h : sp_l_applies K vs H Q E) : vs.length = 2 := by
  obtain ⟨_, _, _, _, _, rfl, _⟩ := h
  rfl
def kd4 : PyData := .list [.bool true, .bool true, .bool false, .bool false]
theorem sh_kd4 : Sh 1 kd4 := Sh.list fun d hd => by
  simp only [List.mem_cons, List.not_mem_nil, or_false] at hd
  rcases hd with rfl | rfl | rfl | rfl <;> exact Sh.bl _
theorem dq_kd4 {H : Hp} {a : Addr} (h : H a = some (.lst [.bl true, .bl true, .bl false, .bl false])) : Dq H (.ref a) kd4 := .lst h (.cons (.bl _) (.cons (.bl _) (.cons (.bl _) (.cons (.bl _) .nil))))
theorem ok_l_applies (T : Txt K mg) : FnOk P w K mg base CX0 7 T.f_l_applies T.fd_l_applies ["text", "edits"] (sp_l_applies K) := by
  refine T.F_l_applies.ok sc_l_applies (fun vs H Q E h => sp_l_applies_len h) (fun cdv A outer s H vs Q E hr h => ?_)
  refine ⟨_, (pss_cons (ps_set (i := 2) sc_l_applies.nd rfl (.inl rfl) (pe_call (ok_l_first_bad T) (hr.mono (by decide)) (by rfl) T.g_l_first_bad T.F_l_first_bad.kp T.b_l_first_bad .nil pass0 (pa_cons (pv 0) (pa_cons (pv 1) pa_nil))))
      (pss_cons (ps_set (i := 3) sc_l_applies.nd rfl (.inl rfl) (pe_lst (pa_cons (pe_callTy (cr_listK K) (by rfl) T.m_list (by decide +kernel) (pa_cons (pv 0) pa_nil)) (pa_cons (pe_callTy (cr_listK K) (by rfl) T.m_list (by decide +kernel) (pa_cons (pv 1) pa_nil)) pa_nil))))
      (pss_cons (k_try K (i := 5) (Wout := fun _ _ _ _ => False) rfl rfl sc_l_applies.nd rfl rfl ⟨rfl, by decide, Or.inl T.g_BadEdit⟩ takesN (fun W pn xe tk hown => (pss_one (ps_set (i := 4) sc_l_applies.nd rfl (.inl rfl) (pe_callS (ok_apply_edits T) (hr.mono (by decide)) (by rfl) T.g_apply_edits T.F_apply_edits.kp T.b_apply_edits (fun σ => L2N.passAt tk σ) (pa_cons (pe_ix (ix_K K (hu_of hr)) (pv 3) pe_int (fun _ _ => rfl)) (pa_cons (pe_ix (ix_K K (hu_of hr)) (pv 3) pe_int (fun _ _ => rfl)) pa_nil)))))) (fun a oe cls d pn hz hf => (pss_cons (ps_set (i := 6) sc_l_applies.nd rfl (.inl rfl) (pe_lst (pa_cons (pe_callB (cr_isX K hz hf) (by rfl) T.m_isinstance (by decide +kernel) (pa_cons (pv 5) (pa_cons (pe_gc (v := .ref T.C_PartError) (by rfl) ⟨_, T.g_PartError, rfl⟩) pa_nil))) (pa_cons (pe_callB (cr_isX K hz hf) (by rfl) T.m_isinstance (by decide +kernel) (pa_cons (pv 5) (pa_cons (pe_bltn (v := .ty "ValueError") (by rfl) T.m_ValueError (by decide +kernel) rfl) pa_nil))) pa_nil))))
      (pss_cons (ps_set (i := 6) sc_l_applies.nd rfl (.inl rfl) (pe_op (op_addK K) (pv 6) (pe_lst (pa_cons (pe_callB (cr_isX K hz hf) (by rfl) T.m_isinstance (by decide +kernel) (pa_cons (pv 5) (pa_cons (pe_gc (v := .ref T.C_BadText) (by rfl) ⟨_, T.g_BadText, rfl⟩) pa_nil))) (pa_cons (pe_callB (cr_isX K hz hf) (by rfl) T.m_isinstance (by decide +kernel) (pa_cons (pv 5) (pa_cons (pe_gc (v := .ref T.C_Misfit) (by rfl) ⟨_, T.g_Misfit, rfl⟩) pa_nil))) pa_nil)))))
      (pss_cons (ps_if (PW.pt (pw_or (pt_cmpR op_lt (pv 2) pe_int (nomark _)) (pw_or (pt_cmpR (op_neK K hr.units) (pv 6) (pe_lst (pa_cons pe_bl (pa_cons pe_bl (pa_cons pe_bl (pa_cons pe_bl pa_nil))))) (nomark _)) (pw_or1 (pt_cmpR (op_neK K hr.units) (pv 3) (pe_lst (pa_cons (pv 0) (pa_cons (pv 1) pa_nil))) (nomark _)))))) (pss_one (ps_ret pe_bl)) pss_nil)
      (pss_one (ps_ret (L2H.pe_callH (E := fun _ => E0) (ok_l_same_h T) (roomS hr (by decide)) (hot_suite hz hf) (by rfl) T.g_l_same T.F_l_same.kp T.b_l_same (fun _ _ _ _ _ _ _ h => h.elim) (pa_cons (pe_xfA K hz hf (pv 5)) (pa_cons (pv 2) pa_nil))))))))))
      (pss_cons (ps_if (PW.pt (pw_or (pt_cmpR op_ge (pv 2) pe_int (nomark _)) (pw_or1 (pt_not (pt_val (pe_call (ok_l_same T) (hr.mono (by decide)) (by rfl) T.g_l_same T.F_l_same.kp T.b_l_same .nil pass0 (pa_cons (pv 4) (pa_cons (pe_call (ok_l_replaced T) (hr.mono (by decide)) (by rfl) T.g_l_replaced T.F_l_replaced.kp T.b_l_replaced .nil pass0 (pa_cons (pv 0) (pa_cons (pv 1) pa_nil))) pa_nil)))))))) (pss_one (ps_ret pe_bl)) pss_nil)
      (pss_cons (ps_expr (k_bm K (pe_bm PySem.F.plainAttrs_list PySem.F.slot_list_append PySem.F.type_list_append mt_append (pv 4) (pa_cons pe_str pa_nil))))
      (pss_one (ps_ret (pe_cmpR (op_eqK K hr.units) (pv 3) (pe_lst (pa_cons (pv 0) (pa_cons (pv 1) pa_nil))) (nomark _))))))))), ?_⟩
  obtain ⟨a, e, t, us, es, rfl, ha, he, du, lt, le, okt, oke, q⟩ := h
  have hH := Has.start H
  refine g_start (σ' := [some (.ref a), some (.ref e), none, none, none, none, none]) rfl ?_
  have hul : us.length = es.length := by rw [du.len, List.length_map]
  have shp : Sh 4 (.list [.list (t.map PyData.str), .list (es.map e2D)]) := Sh.list fun d hd => by
    simp only [List.mem_cons, List.not_mem_nil, or_false] at hd
    rcases hd with rfl | rfl
    · exact Sh.strs okt
    · exact sh_e2s oke
  walk_at "gg"
  refine ⟨.ref a, e, some t, us, es, rfl, ⟨a, rfl, ha, lt, okt⟩, he, du, le, oke, fun r H0 s0 hb => ?_⟩
  have h0 := hH.on s0
  walk_at "gg"
  refine g_listL (by walk_at "h") h0 (fun l1 H1 n1 h1 => ?_)
  walk_at "gg"
  refine g_listL (by walk_at "h") h1 (fun l2 H2 n2 h2 => ?_)
  walk_at "gg"
  refine g_klst (by walk_at "sz") h2 (fun pp H3 n3 h3 => ?_)
  walk_at "gg"
  refine g_ixL (v := .ref l1) (by walk_at "h") (atI_nat (j := 0) rfl) ?_
  walk_at "gg"
  refine g_ixL (v := .ref l2) (by walk_at "h") (atI_nat (j := 1) rfl) ?_
  walk_at "gg"
  refine ⟨l1, l2, t, us, es, rfl, by walk_at "h", by walk_at "h", du.up h3.same _ _, lt, le, okt, oke, fun to H4 okA s4 n4 hto => ?_, fun k ok nok d H4 s4 nd hd => ?_⟩
  · have h4 := h3.made n4 s4 hto
    have er : r = -1 := by
      rcases hb with ⟨k, _, _, n⟩ | ⟨h, _⟩
      · exact (n (okA k)).elim
      · exact h
    subst er
    walk_at "gg"
    refine i_d (fun z => by omega) (fun _ => ?_)
    have e0 : ∀ x ∈ es, e2ok x ∧ 0 ≤ x.1 := fun x hx => by
      obtain ⟨i, hi, ei⟩ := List.getElem_of_mem hx
      have hx' : es[i]? = some x := by rw [List.getElem?_eq_getElem hi, ei]
      have := (okA i x hx').1
      have := endK_nn (T := some t) (es := es) (k := i) (by omega) fun j _ => okA j
      exact ⟨oke x hx, by omega⟩
    walk_at "gg"
    refine ⟨a, e, t, us, es, rfl, by walk_at "h", by walk_at "h", du.up h4.same _ _, lt, le, e0, fun rp H5 s5 n5 hrp => ?_⟩
    have h5 := h4.made n5 s5 hrp
    have gd := gd_of okA es.length 0 (by omega)
    rw [List.drop_zero] at gd
    have er := rp_ap es 0 (Nat.zero_le _) gd
    rw [List.take_zero, List.nil_append] at er
    have hl2 : (ap2 t 0 es).length ≤ 1000 := by
      have := ap2_len (t := t) es 0 fun x hx => (oke x hx).2.2.2
      have : (es.length + 1) * t.length ≤ 11 * 10 := Nat.mul_le_mul (by omega) lt
      omega
    rw [er] at h5
    walk_at "gg"
    refine ⟨_, _, _, rfl, Dq.strs (xs := ap2 t 0 es) (h5.get (by walk_at "m")), Dq.strs (xs := ap2 t 0 es) (h5.get (by walk_at "m")), so_strs 4 (by omega), fun H6 s6 => ?_⟩
    have h6 := h5.on s6
    walk_at "gg"
    refine g_append h6 (by walk_at "c") (szl (by rw [List.length_map]; omega)) (fun H7 h7 => ?_)
    walk_at "gg"
    refine g_klst (by walk_at "sz") h7 (fun p3 H8 n8 h8 => ?_)
    refine g_eqD (.lst (h8.get (by walk_at "m")) (.cons (Dq.strs (xs := t) (by walk_at "h")) (.cons (.lst (h8.get (by walk_at "m")) (du.up h8.same _ _)) .nil))) (.lst (h8.get (List.Mem.head _)) (.cons (Dq.strs (xs := t) (h8.same _ _ ha)) (.cons (.lst (h8.same _ _ he) (du.up h8.same _ _)) .nil))) (shp.ok (by decide)) (shp.ok (by decide)) ?_
    rw [SeqAt.eqv_refl _ shp.1]
    exact q H8 h8.same
  · have h4 := h3.made nd s4 hd
    have er : r = (k : Nat) := by
      rcases hb with ⟨k', h, o, n⟩ | ⟨_, h⟩
      · rw [h, first_one o n ok nok]
      · exact (nok (h k)).elim
    subst er
    refine g_caught T.M_BadEdit_BadEdit (fun ex nx => ?_)
    walk_at "gg"
    refine g_isX T.IS_BadEdit (by walk_at "h") T.K_BadEdit_PartError ?_
    walk_at "gg"
    refine g_isXT T.IS_BadEdit (by walk_at "h") T.K_BadEdit_ValueError ?_
    walk_at "gg"
    refine g_klst (by walk_at "sz") h4 (fun k1 H5 n5 h5 => ?_)
    walk_at "gg"
    refine g_isX T.IS_BadEdit (by walk_at "h") T.K_BadEdit_BadText ?_
    walk_at "gg"
    refine g_isX T.IS_BadEdit (by walk_at "h") T.K_BadEdit_Misfit ?_
    walk_at "gg"
    refine g_klst (by walk_at "sz") h5 (fun k2 H6 n6 h6 => ?_)
    refine g_addL (by walk_at "h") (by walk_at "h") (by walk_at "sz") h6 (fun k3 H7 n7 h7 => ?_)
    walk_at "gg"
    refine i_d (fun z => by omega) (fun _ => ?_)
    walk_at "gg"
    refine g_klst (by walk_at "sz") h7 (fun k4 H8 n8 h8 => ?_)
    refine g_neD (dq_kd4 (h8.get (by walk_at "m"))) (dq_kd4 (h8.get (List.Mem.head _))) (sh_kd4.ok (by decide)) (sh_kd4.ok (by decide)) ?_
    rw [SeqAt.eqv_refl _ sh_kd4.1]
    walk_at "gg"
    refine g_klst (by walk_at "sz") h8 (fun k5 H9 n9 h9 => ?_)
    refine g_neD (.lst (h9.get (by walk_at "m")) (.cons (Dq.strs (xs := t) (by walk_at "h")) (.cons (.lst (h9.get (by walk_at "m")) (du.up h9.same _ _)) .nil))) (.lst (h9.get (List.Mem.head _)) (.cons (Dq.strs (xs := t) (h9.same _ _ ha)) (.cons (.lst (h9.same _ _ he) (du.up h9.same _ _)) .nil))) (shp.ok (by decide)) (shp.ok (by decide)) ?_
    rw [SeqAt.eqv_refl _ shp.1]
    walk_at "gg"
    refine g_kxf T.XF_BadEdit T.N_BadEdit_place (h9.get (by walk_at "m")) rfl ?_
    walk_at "gg"
    refine ⟨_, _, rfl, fun H10 s10 => ?_⟩
    rw [decide_eq_true rfl]
    exact q H10 (h9.same.trans s10)
def sp_l_turns (K : PySem.W.Frag) : Sp := fun vs H Q _ => ∃ (e : Addr) (us : List V) (es : List E2), vs = [.ref e] ∧ H e = some (.lst us) ∧ DqAll H us (es.map e2D) ∧ es.length ≤ 10 ∧ (∀ x ∈ es, e2ok x) ∧
  ∀ H', Same H H' → Q (.bl true) H'
theorem sp_l_turns_len {vs H Q E} (h : sp_l_turns K vs H Q E) : vs.length = 1 := by
  obtain ⟨_, _, _, rfl, _⟩ := h
  rfl
theorem ok_l_turns (T : Txt K mg) : FnOk P w K mg base CX0 7 T.f_l_turns T.fd_l_turns ["edits"] (sp_l_turns K) := by
  refine T.F_l_turns.ok sc_l_turns (fun vs H Q E h => sp_l_turns_len h) (fun cdv A outer s H vs Q E hr h => ?_)
  refine ⟨_, (pss_cons (ps_set (i := 1) sc_l_turns.nd rfl (.inl rfl) (pe_call (ok_l_first_bad T) (hr.mono (by decide)) (by rfl) T.g_l_first_bad T.F_l_first_bad.kp T.b_l_first_bad .nil pass0 (pa_cons pe_non (pa_cons (pv 0) pa_nil))))
      (pss_cons (ps_set (i := 2) sc_l_turns.nd rfl (.inl rfl) (pe_callTy (cr_listK K) (by rfl) T.m_list (by decide +kernel) (pa_cons (pv 0) pa_nil)))
      (pss_cons (k_try K (i := 4) (Wout := fun _ _ _ _ => False) rfl rfl sc_l_turns.nd rfl rfl ⟨rfl, by decide, Or.inl T.g_BadEdit⟩ takesN (fun W pn xe tk hown => (pss_one (ps_set (i := 3) sc_l_turns.nd rfl (.inl rfl) (pe_callS (ok_inverse_edits T) (hr.mono (by decide)) (by rfl) T.g_inverse_edits T.F_inverse_edits.kp T.b_inverse_edits (fun σ => L2N.passAt tk σ) (pa_cons (pv 2) pa_nil))))) (fun a oe cls d pn hz hf => (pss_cons (ps_set (i := 5) sc_l_turns.nd rfl (.inl rfl) (pe_lst (pa_cons (pe_callB (cr_isX K hz hf) (by rfl) T.m_isinstance (by decide +kernel) (pa_cons (pv 4) (pa_cons (pe_gc (v := .ref T.C_PartError) (by rfl) ⟨_, T.g_PartError, rfl⟩) pa_nil))) (pa_cons (pe_callB (cr_isX K hz hf) (by rfl) T.m_isinstance (by decide +kernel) (pa_cons (pv 4) (pa_cons (pe_bltn (v := .ty "ValueError") (by rfl) T.m_ValueError (by decide +kernel) rfl) pa_nil))) pa_nil))))
      (pss_cons (ps_set (i := 5) sc_l_turns.nd rfl (.inl rfl) (pe_op (op_addK K) (pv 5) (pe_lst (pa_cons (pe_callB (cr_isX K hz hf) (by rfl) T.m_isinstance (by decide +kernel) (pa_cons (pv 4) (pa_cons (pe_gc (v := .ref T.C_BadText) (by rfl) ⟨_, T.g_BadText, rfl⟩) pa_nil))) (pa_cons (pe_callB (cr_isX K hz hf) (by rfl) T.m_isinstance (by decide +kernel) (pa_cons (pv 4) (pa_cons (pe_gc (v := .ref T.C_Misfit) (by rfl) ⟨_, T.g_Misfit, rfl⟩) pa_nil))) pa_nil)))))
      (pss_cons (ps_if (PW.pt (pw_or (pt_cmpR op_lt (pv 1) pe_int (nomark _)) (pw_or (pt_cmpR (op_neK K hr.units) (pv 5) (pe_lst (pa_cons pe_bl (pa_cons pe_bl (pa_cons pe_bl (pa_cons pe_bl pa_nil))))) (nomark _)) (pw_or1 (pt_cmpR (op_neK K hr.units) (pv 2) (pv 0) (nomark _)))))) (pss_one (ps_ret pe_bl)) pss_nil)
      (pss_one (ps_ret (L2H.pe_callH (E := fun _ => E0) (ok_l_same_h T) (roomS hr (by decide)) (hot_suite hz hf) (by rfl) T.g_l_same T.F_l_same.kp T.b_l_same (fun _ _ _ _ _ _ _ h => h.elim) (pa_cons (pe_xfA K hz hf (pv 4)) (pa_cons (pv 1) pa_nil))))))))))
      (pss_cons (ps_if (PW.pt (pw_or (pt_cmpR op_ge (pv 1) pe_int (nomark _)) (pw_or1 (pt_not (pt_val (pe_call (ok_l_same T) (hr.mono (by decide)) (by rfl) T.g_l_same T.F_l_same.kp T.b_l_same .nil pass0 (pa_cons (pv 3) (pa_cons (pe_call (ok_l_back T) (hr.mono (by decide)) (by rfl) T.g_l_back T.F_l_back.kp T.b_l_back .nil pass0 (pa_cons (pv 0) pa_nil)) pa_nil)))))))) (pss_one (ps_ret pe_bl)) pss_nil)
      (pss_cons (ps_expr (k_bm K (pe_bm PySem.F.plainAttrs_list PySem.F.slot_list_append PySem.F.type_list_append mt_append (pv 3) (pa_cons (pe_tup (pa_cons pe_int (pa_cons (pe_tup (pa_cons pe_str pa_nil)) (pa_cons (pe_tup pa_nil) pa_nil)))) pa_nil))))
      (pss_one (ps_ret (pe_cmpR (op_eqK K hr.units) (pv 2) (pv 0) (nomark _))))))))), ?_⟩
  obtain ⟨e, us, es, rfl, he, du, le, oke, q⟩ := h
  have hH := Has.start H
  refine g_start (σ' := [some (.ref e), none, none, none, none, none]) rfl ?_
  have hul : us.length = es.length := by rw [du.len, List.length_map]
  have shp : Sh 3 (.list (es.map e2D)) := sh_e2s oke
  walk_at "gg"
  refine ⟨.non, e, none, us, es, rfl, rfl, he, du, le, oke, fun r H0 s0 hb => ?_⟩
  have h0 := hH.on s0
  walk_at "gg"
  refine g_listL (by walk_at "h") h0 (fun l1 H1 n1 h1 => ?_)
  walk_at "gg"
  refine ⟨l1, us, es, rfl, by walk_at "h", du.up h1.same _ _, le, oke, fun to H4 vs okA s4 n4 hto dto => ?_, fun k ok nok d H4 s4 nd hd => ?_⟩
  · have h4 := h1.made n4 s4 hto
    have er : r = -1 := by
      rcases hb with ⟨k, _, _, n⟩ | ⟨h, _⟩
      · exact (n (okA k)).elim
      · exact h
    subst er
    have hvl : vs.length = es.length := by rw [dto.len, List.length_map, inv2_len]
    have dto := h4.keep (by
      intro p hp xs
      simp only [List.mem_cons, List.not_mem_nil, or_false] at hp
      rcases hp with rfl | rfl <;> exact fun z => by cases z) e2s_noL dto
    have sF := h4.reF
    have h4 := h4.re
    generalize rmO [(to, HO.lst vs), (l1, HO.lst us)] H4 = F at h4 sF dto
    have heF := sF _ _ he
    have duF := du.up sF _ _
    walk_at "gg"
    refine i_d (fun z => by omega) (fun _ => ?_)
    walk_at "gg"
    refine ⟨e, us, es, rfl, by walk_at "h", duF.up h4.same _ _, le, fun rp H5 vs2 s5 n5 hrp drp => ?_⟩
    have h5 := h4.made n5 s5 hrp
    have o2 := inv2_ok (s := 0) oke
    walk_at "gg"
    refine ⟨_, _, _, rfl, .lst (h5.get (by walk_at "m")) (dto.up h5.same _ _), .lst (h5.get (by walk_at "m")) drp, so_e2s 2 (by rw [inv2_len]; omega) o2, fun H6 s6 => ?_⟩
    have h6 := h5.on s6
    walk_at "gg"
    refine g_ktupF (by walk_at "sz") h6 (fun t1 H7 F7 n7 s7 f7 h7 => ?_)
    walk_at "gg"
    refine g_ktupF (by walk_at "sz") h7 (fun t2 H8 F8 n8 s8 f8 h8 => ?_)
    walk_at "gg"
    refine g_ktupF (by walk_at "sz") h8 (fun t3 H9 F9 n9 s9 f9 h9 => ?_)
    have s69 := s7.trans (s8.trans s9)
    have heF := s69 _ _ heF
    have duF := duF.up s69 _ _
    walk_at "gg"
    refine g_append h9 (by walk_at "c") (szl (by omega)) (fun H10 h10 => ?_)
    walk_at "gg"
    refine g_eqD (.lst (h10.get (by walk_at "m")) (duF.up h10.same _ _)) (.lst (h10.same _ _ heF) (duF.up h10.same _ _)) (shp.ok (by decide)) (shp.ok (by decide)) ?_
    rw [SeqAt.eqv_refl _ shp.1]
    exact q H10 (sF.trans (s69.trans h10.same))
  · have h4 := h1.made nd s4 hd
    have er : r = (k : Nat) := by
      rcases hb with ⟨k', h, o, n⟩ | ⟨_, h⟩
      · rw [h, first_one o n ok nok]
      · exact (nok (h k)).elim
    subst er
    refine g_caught T.M_BadEdit_BadEdit (fun ex nx => ?_)
    walk_at "gg"
    refine g_isX T.IS_BadEdit (by walk_at "h") T.K_BadEdit_PartError ?_
    walk_at "gg"
    refine g_isXT T.IS_BadEdit (by walk_at "h") T.K_BadEdit_ValueError ?_
    walk_at "gg"
    refine g_klst (by walk_at "sz") h4 (fun k1 H5 n5 h5 => ?_)
    walk_at "gg"
    refine g_isX T.IS_BadEdit (by walk_at "h") T.K_BadEdit_BadText ?_
    walk_at "gg"
    refine g_isX T.IS_BadEdit (by walk_at "h") T.K_BadEdit_Misfit ?_
    walk_at "gg"
    refine g_klst (by walk_at "sz") h5 (fun k2 H6 n6 h6 => ?_)
    refine g_addL (by walk_at "h") (by walk_at "h") (by walk_at "sz") h6 (fun k3 H7 n7 h7 => ?_)
    walk_at "gg"
    refine i_d (fun z => by omega) (fun _ => ?_)
    walk_at "gg"
    refine g_klst (by walk_at "sz") h7 (fun k4 H8 n8 h8 => ?_)
    refine g_neD (dq_kd4 (h8.get (by walk_at "m"))) (dq_kd4 (h8.get (List.Mem.head _))) (sh_kd4.ok (by decide)) (sh_kd4.ok (by decide)) ?_
    rw [SeqAt.eqv_refl _ sh_kd4.1]
    walk_at "gg"
    refine g_neD (.lst (h8.get (by walk_at "m")) (du.up h8.same _ _)) (.lst (h8.same _ _ he) (du.up h8.same _ _)) (shp.ok (by decide)) (shp.ok (by decide)) ?_
    rw [SeqAt.eqv_refl _ shp.1]
    walk_at "gg"
    refine g_kxf T.XF_BadEdit T.N_BadEdit_place (h8.get (by walk_at "m")) rfl ?_
    walk_at "gg"
    refine ⟨_, _, rfl, fun H10 s10 => ?_⟩
    rw [decide_eq_true rfl]
    exact q H10 (h8.same.trans s10)
end
end K02

namespace K02
open PySem PySem.Spec PyProof.Rows L2 Qk
local macro_rules | `(tactic| walk_at "m") => `(tactic| ((repeat (first | exact List.Mem.head _ | apply List.Mem.tail)); done))
local macro_rules | `(tactic| walk_at "h") => `(tactic| first | assumption | exact Has.gF (by assumption) (by assumption) | exact Has.get (by assumption) (by walk_at "m"))
local macro_rules | `(tactic| walk_at "c") => `(tactic| ((repeat (first | exact Chg.hd | apply Chg.tl)); done))
local macro_rules | `(tactic| walk_at "is") => `(tactic| first
  | ((with_reducible refine' is2_non ?gh ?_); (case gh => walk_at "h"))
  | (with_reducible refine is_int_list ?_)
  | (with_reducible refine is_int_tuple ?_)
  | (with_reducible refine is_int_dict ?_)
  | (with_reducible refine is_int_int ?_)
  | (with_reducible refine is_int_bool ?_)
  | (with_reducible refine is_int_str ?_)
  | ((with_reducible refine' is2_int ?gh ?_); (case gh => walk_at "h"))
  | (with_reducible refine is_str_list ?_)
  | (with_reducible refine is_str_tuple ?_)
  | (with_reducible refine is_str_dict ?_)
  | (with_reducible refine is_str_int ?_)
  | (with_reducible refine is_str_bool ?_)
  | (with_reducible refine is_str_str ?_)
  | ((with_reducible refine' is2_str ?gh ?_); (case gh => walk_at "h"))
  | (with_reducible refine is_bool_list ?_)
  | (with_reducible refine is_bool_tuple ?_)
  | (with_reducible refine is_bool_dict ?_)
  | (with_reducible refine is_bool_int ?_)
  | (with_reducible refine is_bool_bool ?_)
  | (with_reducible refine is_bool_str ?_)
  | ((with_reducible refine' is2_bool ?gh ?_); (case gh => walk_at "h"))
  | ((with_reducible refine' is_list_list ?gh ?_); (case gh => walk_at "h"))
  | ((with_reducible refine' is_list_tuple ?gh ?_); (case gh => walk_at "h"))
  | ((with_reducible refine' is_list_dict ?gh ?_); (case gh => walk_at "h"))
  | ((with_reducible refine' is_list_int ?gh ?_); (case gh => walk_at "h"))
  | ((with_reducible refine' is_list_bool ?gh ?_); (case gh => walk_at "h"))
  | ((with_reducible refine' is_list_str ?gh ?_); (case gh => walk_at "h"))
  | ((with_reducible refine' is2_list ?ga ?gb ?_); (case ga => walk_at "h"); (case gb => walk_at "h"))
  | ((with_reducible refine' is_tuple_list ?gh ?_); (case gh => walk_at "h"))
  | ((with_reducible refine' is_tuple_tuple ?gh ?_); (case gh => walk_at "h"))
  | ((with_reducible refine' is_tuple_dict ?gh ?_); (case gh => walk_at "h"))
  | ((with_reducible refine' is_tuple_int ?gh ?_); (case gh => walk_at "h"))
  | ((with_reducible refine' is_tuple_bool ?gh ?_); (case gh => walk_at "h"))
  | ((with_reducible refine' is_tuple_str ?gh ?_); (case gh => walk_at "h"))
  | ((with_reducible refine' is2_tuple ?ga ?gb ?_); (case ga => walk_at "h"); (case gb => walk_at "h"))
  | ((with_reducible refine' is_dict_list ?gh ?_); (case gh => walk_at "h"))
  | ((with_reducible refine' is_dict_tuple ?gh ?_); (case gh => walk_at "h"))
  | ((with_reducible refine' is_dict_dict ?gh ?_); (case gh => walk_at "h"))
  | ((with_reducible refine' is_dict_int ?gh ?_); (case gh => walk_at "h"))
  | ((with_reducible refine' is_dict_bool ?gh ?_); (case gh => walk_at "h"))
  | ((with_reducible refine' is_dict_str ?gh ?_); (case gh => walk_at "h"))
  | ((with_reducible refine' is2_dict ?ga ?gb ?_); (case ga => walk_at "h"); (case gb => walk_at "h")))
local macro_rules | `(tactic| walk_at "g") => `(tactic| first
  | (with_reducible refine g_seq ?_)
  | (with_reducible refine g_asg ?_)
  | ((with_reducible refine g_name ?_); dsimp only [List.set, wipe, List.map])
  | ((with_reducible refine' g_var ?gv ?_); (case gv => exact rfl))
  | (with_reducible refine g_c ?_)
  | (with_reducible refine g_op ?_)
  | (with_reducible refine g_cons ?_)
  | (with_reducible refine g_nil ?_)
  | (with_reducible refine g_cb ?_)
  | (with_reducible refine g_call ?_)
  | (with_reducible refine g_tup ?_)
  | (with_reducible refine g_lst ?_)
  | (with_reducible refine g_bm ?_)
  | (with_reducible refine g_bm0 ?_)
  | ((with_reducible refine' g_kbm ?gh ?_); (case gh => walk_at "h"))
  | (with_reducible refine g_drop ?_)
  | (with_reducible refine g_ret ?_)
  | (with_reducible refine g_retN ?_)
  | (with_reducible refine g_next ?_)
  | (with_reducible refine g_brk ?_)
  | (with_reducible refine g_cont ?_)
  | (with_reducible refine g_if ?_)
  | ((with_reducible refine' g_aug ?gv ?_); (case gv => exact rfl))
  | (with_reducible refine g_ipI ?_)
  | (with_reducible refine g_test ?_)
  | (with_reducible refine g_tB ?_)
  | (with_reducible refine g_kB ?_)
  | (with_reducible refine g_not ?_)
  | (with_reducible refine g_and ?_)
  | (with_reducible refine g_or ?_)
  | (with_reducible refine g_andV ?_)
  | (with_reducible refine g_orV ?_)
  | (with_reducible refine g_notV ?_)
  | (with_reducible refine g_ifE ?_)
  | (with_reducible refine g_addI ?_)
  | (with_reducible refine g_rI0 ?_)
  | (with_reducible refine g_eqI ?_)
  | (with_reducible refine g_eqS ?_)
  | (with_reducible refine g_neI ?_)
  | (with_reducible refine g_neS ?_)
  | (with_reducible refine g_isN ?_)
  | (with_reducible refine g_notN ?_)
  | (with_reducible refine g_int ?_)
  | (with_reducible refine g_max2 ?_)
  | ((with_reducible refine' g_lenL ?gh ?_); (case gh => walk_at "h"))
  | (with_reducible refine g_sub ?_)
  | (with_reducible refine g_gcons ?_)
  | (with_reducible refine g_gnil ?_)
  | (with_reducible refine g_un ?_)
  | (with_reducible refine g_rU ?_)
  | (with_reducible refine g_forL ?_)
  | (with_reducible refine g_forR1 ?_)
  | (with_reducible refine g_forR2 ?_)
  | (with_reducible refine g_forR3 ?_)
  | (with_reducible refine g_lcL ?_)
  | (with_reducible refine g_lcR1 ?_)
  | (with_reducible refine g_lcR2 ?_)
  | (with_reducible refine g_slice ?_)
  | (with_reducible refine g_part ?_)
  | (with_reducible refine g_kOI ?_)
  | (with_reducible refine g_nopart ?_)
  | (with_reducible refine g_yes ?_)
  | ((with_reducible refine' g_wipe ?gv ?_); (case gv => exact rfl))
  | (with_reducible refine iteT ?_)
  | (with_reducible refine iteF ?_)
  | (with_reducible refine i_nf ?_)
  | (with_reducible refine i_nt ?_)
  | ((with_reducible refine' g_gtup ?gh ?gl ?_); (case gh => walk_at "h"); (case gl => exact rfl))
  | ((with_reducible refine' g_notinI ?gh ?_); (case gh => walk_at "h"))
  | ((with_reducible refine' g_inI ?gh ?_); (case gh => walk_at "h"))
  | ((with_reducible refine' g_kget2 ?gh ?_); (case gh => walk_at "h"))
  | ((with_reducible refine' g_kgotI ?gh ?_); (case gh => walk_at "h"))
  | (with_reducible refine g_tRev ?_)
  | (with_reducible refine g_neB ?_)
  | (with_reducible refine g_eqB ?_)
  | ((with_reducible refine' g_lenT ?gh ?_); (case gh => walk_at "h"))
  | (with_reducible refine g_star ?_)
  | ((with_reducible refine' g_kstarL ?gh ?_); (case gh => walk_at "h"))
  | ((with_reducible refine' g_kstarT ?gh ?_); (case gh => walk_at "h"))
  | (with_reducible refine g_tru ?_)
  | ((with_reducible refine' g_truL ?gh ?_); (case gh => walk_at "h"))
  | (with_reducible refine g_get2 ?_)
  | (with_reducible refine g_try ?_)
  | (with_reducible refine g_callS ?_)
  | (with_reducible refine g_raise ?_)
  | (with_reducible refine g_xf ?_)
  | walk_at "is")
local macro_rules | `(tactic| walk_at "gg") => `(tactic| repeat walk_at "g")
local macro_rules | `(tactic| walk_at "sz") => `(tactic| (refine sz ?_; simp only [List.length_cons, List.length_nil, List.length_map, List.length_append, List.length_replicate]; omega))
local macro_rules | `(tactic| walk_at "sub") => `(tactic| ((repeat (first | exact List.Sublist.slnil | with_reducible apply List.Sublist.cons_cons | with_reducible apply List.Sublist.cons)); done))

theorem cutV_strs (ns : List Str) (lo hi : Option Int) : ∃ ms : List Str, cutV (ns.map V.str) lo hi = ms.map V.str ∧ ms.length ≤ ns.length ∧ ∀ x ∈ ms, x ∈ ns := by
  refine ⟨(ns.drop (HT.sIx ns.length 0 lo)).take (HT.sIx ns.length ns.length hi - HT.sIx ns.length 0 lo), ?_, ?_, ?_⟩
  · unfold cutV
    rw [List.length_map, ← List.map_drop, ← List.map_take]
  · rw [List.length_take, List.length_drop]
    omega
  · exact fun x hx => List.mem_of_mem_drop (List.mem_of_mem_take hx)
section
variable {P : Program} {w : World} {K : PySem.W.Frag} {mg : Str → Option Value} {base : Heap}
def sp_l_good (K : PySem.W.Frag) : Sp := fun vs H Q _ => ∃ (c t l : Addr) (F : Hp) (ws : List V) (rows : List (Int × Int)) (tx ls : List Str), vs = [.ref c, .ref t, .ref l] ∧ Has F [(c, .lst ws)] H ∧ DqAll F ws (rows.map cellD) ∧ rows.length ≤ 100 ∧ F t = some (.lst (tx.map V.str)) ∧ F l = some (.lst (ls.map V.str)) ∧ tx.length ≤ 4 ∧ ls.length = 3 ∧ okL tx ∧ okL ls ∧
  ∀ p H' F' (ws' : List V) (rows' : List (Int × Int)) (us : List V) (es : List E2), Same F F' → Has F' [(p, .lst us), (c, .lst ws')] H' → DqAll F' ws' (rows'.map cellD) → rows'.length ≤ 100 → DqAll F' us (es.map e2D) → es.length ≤ 3 → (∀ e ∈ es, e2ok e ∧ e.2.1.length ≤ 4 ∧ e.2.2.length ≤ 4) → Q (.ref p) H'
theorem sp_l_good_len {vs H Q E} (h : sp_l_good K vs H Q E) : vs.length = 3 := by
  obtain ⟨_, _, _, _, _, _, _, _, rfl, _⟩ := h
  rfl
theorem ok_l_good (T : Txt K mg) : FnOk P w K mg base CX0 2 T.f_l_good T.fd_l_good ["cells", "text", "lines"] (sp_l_good K) := by
  refine T.F_l_good.ok sc_l_good (fun vs H Q E h => sp_l_good_len h) (fun cdv A outer s H vs Q E hr h => ?_)
  refine ⟨_, (pss_cons (ps_set (i := 3) sc_l_good.nd rfl (.inl rfl) (pe_lst pa_nil))
      (pss_cons (ps_set (i := 4) sc_l_good.nd rfl (.inl rfl) pe_int)
      (pss_cons (ps_for PassesOwn.never rfl (pi_range1 rfl T.m_range (pa_cons (pe_op op_sub pe_int (pe_call (ok_l_next T) (hr.mono (by decide)) (by rfl) T.g_l_next T.F_l_next.kp T.b_l_next .nil pass0 (pa_cons (pv 0) (pa_cons pe_int pa_nil)))) pa_nil)) (pg_name (i := 5) sc_l_good.nd rfl (.inr rfl)) (pss_cons (ps_set (i := 6) sc_l_good.nd rfl (.inl rfl) (pe_op (op_addK K) (pv 4) (pe_call (ok_l_next T) (hr.mono (by decide)) (by rfl) T.g_l_next T.F_l_next.kp T.b_l_next .nil pass0 (pa_cons (pv 0) (pa_cons (pe_op (op_addK K) (pe_op op_sub (pe_callB (cr_lenK K) (by rfl) T.m_len (by decide +kernel) (pa_cons (pv 1) pa_nil)) (pv 4)) pe_int) pa_nil)))))
      (pss_cons (ps_set (i := 7) sc_l_good.nd rfl (.inl rfl) (pe_op op_mod (pe_callTy cr_int1 (by rfl) T.m_int (by decide +kernel) (pa_cons (pe_op (op_addK K) (pe_call (ok_l_next T) (hr.mono (by decide)) (by rfl) T.g_l_next T.F_l_next.kp T.b_l_next .nil pass0 (pa_cons (pv 0) (pa_cons pe_int pa_nil))) pe_int) pa_nil)) pe_int))
      (pss_cons (ps_set (i := 8) sc_l_good.nd rfl (.inl rfl) (pe_callTy (cr_tupleK K) (by rfl) T.m_tuple (by decide +kernel) (pa_cons (pe_slice (sl_K K) (pv 1) (po_some (pv 6)) (po_some (pe_op (op_addK K) (pv 6) (pv 7)))) pa_nil)))
      (pss_cons (ps_set (i := 7) sc_l_good.nd rfl (.inl rfl) (pe_op op_mod (pe_callTy cr_int1 (by rfl) T.m_int (by decide +kernel) (pa_cons (pe_op (op_addK K) (pe_op (op_addK K) (pe_call (ok_l_next T) (hr.mono (by decide)) (by rfl) T.g_l_next T.F_l_next.kp T.b_l_next .nil pass0 (pa_cons (pv 0) (pa_cons pe_int pa_nil))) pe_int) (pv 5)) pa_nil)) pe_int))
      (pss_cons (ps_setLc (i := 9) (own := [("j", 11)]) (g := gName 11) (tt := tYes) rfl sc_l_good.nd rfl rfl (sw_true rfl rfl rfl (by decide +kernel)) (pi_range1 rfl T.m_range (pa_cons (pv 7) pa_nil)) (blkOk_by (N := n_l_good) (sc := defScope s_l_good) (by decide +kernel)) (fun _ _ _ _ _ => (pg_name (i := 11) sc_l_good.nd rfl (.inl rfl))) (fun _ _ _ _ _ => pts_nil) (fun _ _ _ _ _ => (pe_op (op_addK K) (pe_op (op_addK K) (pe_op (op_addK K) (pe_call (ok_l_next T) (hr.mono (by decide)) (by rfl) T.g_l_next T.F_l_next.kp T.b_l_next .nil pass0 (pa_cons (pv 0) (pa_cons pe_int pa_nil))) pe_int) (pv 5)) (pv 11))))
      (pss_cons (ps_setLc (i := 10) (own := [("pick", 12)]) (g := gName 12) (tt := tYes) rfl sc_l_good.nd rfl rfl (sw_true rfl rfl rfl (by decide +kernel)) (k_il K (pi_list (pv 9))) (blkOk_by (N := n_l_good) (sc := defScope s_l_good) (by decide +kernel)) (fun _ _ _ _ _ => (pg_name (i := 12) sc_l_good.nd rfl (.inl rfl))) (fun _ _ _ _ _ => pts_nil) (fun _ _ _ _ _ => (pe_ix (ix_K K (hu_of hr)) (pv 2) (pe_op op_mod (pe_callTy cr_int1 (by rfl) T.m_int (by decide +kernel) (pa_cons (pv 12) pa_nil)) pe_int) (fun _ _ => rfl))))
      (pss_cons (ps_if (PW.pt (pw_and (pt_cmpR (op_eqK K hr.units) (pv 8) (pe_tup pa_nil) (nomark _)) (pw_and1 (pt_cmpR (op_eqK K hr.units) (pv 10) (pe_lst pa_nil) (nomark _))))) (pss_one (ps_set (i := 10) sc_l_good.nd rfl (.inl rfl) (pe_lst (pa_cons (pe_ix (ix_K K (hu_of hr)) (pv 2) (pv 5) (fun _ _ => rfl)) pa_nil)))) pss_nil)
      (pss_cons (ps_expr (k_bm K (pe_bm PySem.F.plainAttrs_list PySem.F.slot_list_append PySem.F.type_list_append mt_append (pv 3) (pa_cons (pe_tup (pa_cons (pv 6) (pa_cons (pv 8) (pa_cons (pe_callTy (cr_tupleK K) (by rfl) T.m_tuple (by decide +kernel) (pa_cons (pv 10) pa_nil)) pa_nil)))) pa_nil))))
      (pss_one (ps_set (i := 4) sc_l_good.nd rfl (.inl rfl) (pe_op (op_addK K) (pv 6) (pe_callB (cr_lenK K) (by rfl) T.m_len (by decide +kernel) (pa_cons (pv 8) pa_nil))))))))))))))
      (pss_one (ps_ret (pv 3)))))), ?_⟩
  obtain ⟨c, t, l, F, ws, rows, tx, ls, rfl, hH, dq, hrl, ht, hl, lt, ll, okt, okl, q⟩ := h
  refine g_start (σ' := [some (.ref c), some (.ref t), some (.ref l), none, none, none, none, none, none, none, none, none, none]) rfl ?_
  walk_at "gg"
  refine g_klst (by walk_at "sz") hH (fun p H1 n1 h1 => ?_)
  walk_at "gg"
  refine ⟨c, 4, F, ws, rows, rfl, h1.drop, dq, hrl, by decide, by decide, fun H2 F2 ws2 rows2 r hb g hs dq2 l2 r0 r1 => ?_⟩
  have h2 := h1.grown (by walk_at "c") hb g hs.same (hs.get (List.Mem.head _))
  walk_at "gg"
  refine k_forR1 (fun i σ H' => ∃ (F' : Hp) (ws : List V) (rows : List (Int × Int)) (us : List V) (es : List E2) (en : Int) (y5 y6 y7 y8 y9 y10 : Option V), σ = [some (.ref c), some (.ref t), some (.ref l), some (.ref p), some (.int en), y5, y6, y7, y8, y9, y10, none, none] ∧ Same F F' ∧ Has F' [(p, .lst us), (c, .lst ws)] H' ∧ DqAll F' ws (rows.map cellD) ∧ rows.length ≤ 100 ∧ DqAll F' us (es.map e2D) ∧ es.length = i ∧ (∀ e ∈ es, e2ok e ∧ e.2.1.length ≤ 4 ∧ e.2.2.length ≤ 4) ∧ 0 ≤ en ∧ en ≤ tx.length) (by omega) (by omega) ⟨F2, ws2, rows2, [], [], 0, _, _, _, _, _, _, rfl, g.1, h2, dq2, l2, .nil, rfl, (fun e he => by cases he), by decide, by omega⟩ ?_ ?_
  · rintro i σ H3 hi ⟨F3, ws, rows, us, es, en, y5, y6, y7, y8, y9, y10, rfl, sF, h3, dq, hrl, du, rfl, oke, e0, e1⟩
    have hal : us.length = es.length := by rw [du.len, List.length_map]
    have ht3 := sF _ _ ht
    have hl3 := sF _ _ hl
    walk_at "gg"
    rw [List.length_map]
    refine ⟨c, _, F3, ws, rows, rfl, h3.drop, dq, hrl, by omega, by omega, fun H4 F4 ws4 rows4 r hb g hs dq4 l4 r0 r1 => ?_⟩
    have h4 := h3.grown (by walk_at "c") hb g hs.same (hs.get (List.Mem.head _))
    have ht4 := g.1 _ _ ht3
    have hl4 := g.1 _ _ hl3
    have sF4 := sF.trans g.1
    have du4 := du.up g.1 _ _
    walk_at "gg"
    refine ⟨c, 3, F4, ws4, rows4, rfl, h4.drop, dq4, l4, by decide, by decide, fun H5 F5 ws5 rows5 m hb g hs dq5 l5 m0 m1 => ?_⟩
    have h5 := h4.grown (by walk_at "c") hb g hs.same (hs.get (List.Mem.head _))
    have ht5 := g.1 _ _ ht4
    have hl5 := g.1 _ _ hl4
    have sF5 := sF4.trans g.1
    have du5 := du4.up g.1 _ _
    walk_at "gg"
    refine g_rI (by show (0 : Int) < 3; decide) ?_
    walk_at "gg"
    have em0 : 0 ≤ (m + 1) % 3 := Int.emod_nonneg _ (by decide)
    have em1 : (m + 1) % 3 < 3 := Int.emod_lt_of_pos _ (by decide)
    generalize (m + 1) % 3 = mm at em0 em1
    refine g_slL (by walk_at "h") h5 (fun q1 H6 n6 h6 => ?_)
    obtain ⟨pl, epl⟩ : ∃ k : Nat, en + r = (k : Int) := ⟨(en + r).toNat, by omega⟩
    obtain ⟨mn, emn⟩ : ∃ k : Nat, mm = (k : Int) := ⟨mm.toNat, by omega⟩
    rw [epl, emn, show ((pl : Int) + (mn : Int)) = ((pl + mn : Nat) : Int) from rfl, cutV_str] at h6
    walk_at "gg"
    refine g_tupleL (by walk_at "h") h6 (fun t1 H7 F7 n7 s7 f7 h7 => ?_)
    have h7 := h7.drop
    have ht7 := s7 _ _ ht5
    have hl7 := s7 _ _ hl5
    have sF7 := sF5.trans s7
    have du7 := du5.up s7 _ _
    have dq7 := dq5.up s7 _ _
    have rl : (cut tx pl (pl + mn)).length + pl ≤ tx.length ∧ (cut tx pl (pl + mn)).length ≤ 4 := by
      unfold cut
      rw [List.length_take, List.length_drop]
      omega
    have rk : okL (cut tx pl (pl + mn)) := fun x hx => okt x (cut_mem hx)
    generalize cut tx pl (pl + mn) = rm_ at f7 rl rk
    walk_at "gg"
    refine ⟨c, 3, F7, ws5, rows5, rfl, h7.drop, dq7, l5, by decide, by decide, fun H8 F8 ws8 rows8 m2 hb g hs dq8 l8 m20 m21 => ?_⟩
    have h8 := h7.grown (by walk_at "c") hb g hs.same (hs.get (List.Mem.head _))
    have ht8 := g.1 _ _ ht7
    have hl8 := g.1 _ _ hl7
    have sF8 := sF7.trans g.1
    have du8 := du7.up g.1 _ _
    have f8 := g.1 _ _ f7
    walk_at "gg"
    refine g_rI (by show (0 : Int) < 3; decide) ?_
    walk_at "gg"
    have eu0 : 0 ≤ (m2 + 1 + (es.length : Int)) % 3 := Int.emod_nonneg _ (by decide)
    have eu1 : (m2 + 1 + (es.length : Int)) % 3 < 3 := Int.emod_lt_of_pos _ (by decide)
    generalize (m2 + 1 + (es.length : Int)) % 3 = uu at eu0 eu1
    refine k_lcR1 (by omega) (by omega) h8 (fun i acc F' O' => ∃ (ks : List Int) (ws : List V) (rows : List (Int × Int)), acc = ks.map V.int ∧ ks.length = i ∧ [(p, HO.lst us), (c, HO.lst ws)] = O' ∧ DqAll F' ws (rows.map cellD) ∧ rows.length ≤ 100 ∧ Same F8 F') ⟨[], ws8, rows8, rfl, rfl, rfl, dq8, l8, Same.refl _⟩ ?_ ?_
    · rintro i acc F' O' D H9 hi ⟨ks, ws, rows, rfl, rfl, rfl, dq, hrl, sF⟩ hh
      walk_at "gg"
      refine ⟨c, 3, F', ws, rows, rfl, hh.drop.drop, dq, hrl, by decide, by decide, fun H3 F3 ws3 rows3 r hb g hs dq3 l3 r0 r1 => ?_⟩
      have h3 := hh.grown (by walk_at "c") hb g hs.same (hs.get (List.Mem.head _))
      walk_at "gg"
      exact k_turn h3 (by rw [List.length_map]; omega) ⟨ks ++ [r + 1 + (es.length : Int) + (ks.length : Int)], ws3, rows3, by rw [List.map_append]; rfl, by rw [List.length_append]; rfl, rfl, dq3, l3, sF.trans g.1⟩
    rintro acc F9 O2 pk H9 ⟨ks, ws9, rows9, rfl, hkl, rfl, dq9, l9, s89⟩ h9
    have ht9 := s89 _ _ ht8
    have hl9 := s89 _ _ hl8
    have sF9 := sF8.trans s89
    have du9 := du8.up s89 _ _
    have f9 := s89 _ _ f8
    have hkl : ks.length ≤ 2 := by omega
    walk_at "gg"
    refine k_lcL (by walk_at "h") h9 (fun i acc F' O' => ∃ as : List Str, acc = as.map V.str ∧ as.length = i ∧ okL as ∧ F' = F9 ∧ O' = [(pk, HO.lst (ks.map V.int)), (p, HO.lst us), (c, HO.lst ws9)]) ⟨[], rfl, rfl, (fun x hx => by cases hx), rfl, rfl⟩ ?_ ?_ ?_
    · rintro i acc F' O' H10 ⟨as, rfl, rfl, oka, rfl, rfl⟩ hh
      walk_at "h"
    · rintro i x acc F' O' D H10 hx ⟨as, rfl, rfl, oka, rfl, rfl⟩ hh
      rw [List.getElem?_map] at hx
      obtain ⟨z, hz, rfl⟩ := Option.map_eq_some_iff.mp hx
      have := (List.getElem?_eq_some_iff.mp hz).1
      walk_at "gg"
      refine g_rI (by show (0 : Int) < 3; decide) ?_
      refine g_ixZ (by walk_at "h") (Int.emod_nonneg _ (by decide)) (by rw [ll]; exact Int.emod_lt_of_pos _ (by decide)) (fun y hy => ?_)
      exact k_turn hh (by rw [List.length_map]; omega) ⟨as ++ [y], by rw [List.map_append]; rfl, by rw [List.length_append]; rfl, fun x hx => by
        rcases List.mem_append.mp hx with hx | hx
        · exact oka x hx
        · rw [List.mem_singleton.mp hx]; exact okl _ (List.mem_of_getElem? hy), rfl, rfl⟩
    rintro acc F' O' ad H10 ⟨as, rfl, hasl, oka, rfl, rfl⟩ h10
    rw [List.length_map] at hasl
    walk_at "gg"
    refine g_ktup (by walk_at "sz") h10 (fun q2 H11 n11 h11 => ?_)
    refine g_eqD (dq_tS (xs := rm_) (by walk_at "h")) (dq_tS (xs := []) (h11.get (List.Mem.head _))) ((sh_tS (n := 0) rk).ok (by decide)) ((sh_tS (n := 0) (by intro x hx; cases hx)).ok (by decide)) ?_
    rw [eqv_tS]
    have h11 := h11.drop
    walk_at "gg"
    refine' g_merge2 (R := _) (fun (ad' : Addr) H' => ∃ as' : List Str, Has F' [(ad', .lst (as'.map V.str)), (p, .lst us), (c, .lst ws9)] H' ∧ okL as' ∧ as'.length ≤ 2) ?ma ?mb
    case ma =>
      intro rest
      refine i_d (fun z3 => ?_) (fun z3 => ?_)
      · walk_at "gg"
        refine g_klst (by walk_at "sz") h11 (fun q3 H12 n12 h12 => ?_)
        refine g_eqD (Dq.strs (xs := as) (h12.get (by walk_at "m"))) (Dq.strs (xs := []) (h12.get (List.Mem.head _))) ((Sh.strs (n := 0) oka).ok (by decide)) ((Sh.strs (n := 0) (by simp)).ok (by decide)) ?_
        rw [eqv_strs]
        have h12 := h12.drop
        walk_at "gg"
        refine i_d (fun z4 => ?_) (fun z4 => ?_)
        · walk_at "gg"
          refine g_ixZ (by walk_at "h") (by omega) (by omega) (fun y hy => ?_)
          walk_at "gg"
          refine g_klst (by walk_at "sz") h12 (fun q4 H13 n13 h13 => ?_)
          walk_at "gg"
          exact rest q4 H13 ⟨[y], (show Has F' [(q4, .lst [V.str y]), (p, .lst us), (c, .lst ws9)] H13 from h13.sub (by walk_at "sub")), fun x hx => (by rw [List.mem_singleton.mp hx]; exact okl _ (List.mem_of_getElem? hy)), by show 1 ≤ 2; decide⟩
        · walk_at "gg"
          exact rest ad H12 ⟨as, h12.sub (by walk_at "sub"), oka, by omega⟩
      · walk_at "gg"
        exact rest ad H11 ⟨as, h11.sub (by walk_at "sub"), oka, by omega⟩
    case mb =>
      rintro ad' H12 ⟨as', h12, oka', la'⟩
      walk_at "gg"
      refine g_tupleL (by walk_at "h") h12 (fun t2 H13 F13 n13 s13 f13 h13 => ?_)
      have f13r := s13 _ _ f9
      walk_at "gg"
      refine g_ktupF (by walk_at "sz") h13.drop (fun t3 H14 F14 n14 s14 f14 h14 => ?_)
      have f14r := s14 _ _ f13r
      have f14a := s14 _ _ f13
      have du14 := (du9.up s13 _ _).up s14 _ _
      walk_at "gg"
      refine g_append h14 (by walk_at "c") (szl (by omega)) (fun H15 h15 => ?_)
      walk_at "gg"
      rw [List.length_map]
      have f14 : F14 t3 = some (.tup [.int (pl : Int), .ref t1, .ref t2]) := by rw [f14, epl]
      refine ⟨F14, ws9, rows9, us ++ [.ref t3], es ++ [((pl : Int), rm_, as')], _, _, _, _, _, _, _, rfl, sF9.trans (s13.trans s14), h15, (dq9.up s13 _ _).up s14 _ _, l9, ?_, by rw [List.length_append]; rfl, fun e he => ?_, by omega, by omega⟩
      · rw [List.map_append]
        exact du14.snoc (e2_mk (e := ((pl : Int), rm_, as')) f14 f14r f14a)
      · rcases List.mem_append.mp he with he | he
        · exact oke e he
        · rw [List.mem_singleton.mp he]
          exact ⟨⟨rk, oka', by show rm_.length ≤ 20; omega, by show as'.length ≤ 20; omega⟩, rl.2, by show as'.length ≤ 4; omega⟩
  · rintro σ H3 ⟨F3, ws, rows, us, es, en, y5, y6, y7, y8, y9, y10, rfl, sF, h3, dq, hrl, du, hel, oke, e0, e1⟩
    walk_at "gg"
    exact q p H3 F3 ws rows us es sF h3 dq hrl du (by omega) oke
end
end K02

namespace K02
open PySem PySem.Spec PyProof.Rows L2 Qk
local macro_rules | `(tactic| walk_at "m") => `(tactic| ((repeat (first | exact List.Mem.head _ | apply List.Mem.tail)); done))
local macro_rules | `(tactic| walk_at "h") => `(tactic| first | assumption | exact Has.gF (by assumption) (by assumption) | exact Has.get (by assumption) (by walk_at "m"))
local macro_rules | `(tactic| walk_at "c") => `(tactic| ((repeat (first | exact Chg.hd | apply Chg.tl)); done))
local macro_rules | `(tactic| walk_at "is") => `(tactic| first
  | ((with_reducible refine' is2_non ?gh ?_); (case gh => walk_at "h"))
  | (with_reducible refine is_int_list ?_)
  | (with_reducible refine is_int_tuple ?_)
  | (with_reducible refine is_int_dict ?_)
  | (with_reducible refine is_int_int ?_)
  | (with_reducible refine is_int_bool ?_)
  | (with_reducible refine is_int_str ?_)
  | ((with_reducible refine' is2_int ?gh ?_); (case gh => walk_at "h"))
  | (with_reducible refine is_str_list ?_)
  | (with_reducible refine is_str_tuple ?_)
  | (with_reducible refine is_str_dict ?_)
  | (with_reducible refine is_str_int ?_)
  | (with_reducible refine is_str_bool ?_)
  | (with_reducible refine is_str_str ?_)
  | ((with_reducible refine' is2_str ?gh ?_); (case gh => walk_at "h"))
  | (with_reducible refine is_bool_list ?_)
  | (with_reducible refine is_bool_tuple ?_)
  | (with_reducible refine is_bool_dict ?_)
  | (with_reducible refine is_bool_int ?_)
  | (with_reducible refine is_bool_bool ?_)
  | (with_reducible refine is_bool_str ?_)
  | ((with_reducible refine' is2_bool ?gh ?_); (case gh => walk_at "h"))
  | ((with_reducible refine' is_list_list ?gh ?_); (case gh => walk_at "h"))
  | ((with_reducible refine' is_list_tuple ?gh ?_); (case gh => walk_at "h"))
  | ((with_reducible refine' is_list_dict ?gh ?_); (case gh => walk_at "h"))
  | ((with_reducible refine' is_list_int ?gh ?_); (case gh => walk_at "h"))
  | ((with_reducible refine' is_list_bool ?gh ?_); (case gh => walk_at "h"))
  | ((with_reducible refine' is_list_str ?gh ?_); (case gh => walk_at "h"))
  | ((with_reducible refine' is2_list ?ga ?gb ?_); (case ga => walk_at "h"); (case gb => walk_at "h"))
  | ((with_reducible refine' is_tuple_list ?gh ?_); (case gh => walk_at "h"))
  | ((with_reducible refine' is_tuple_tuple ?gh ?_); (case gh => walk_at "h"))
  | ((with_reducible refine' is_tuple_dict ?gh ?_); (case gh => walk_at "h"))
  | ((with_reducible refine' is_tuple_int ?gh ?_); (case gh => walk_at "h"))
  | ((with_reducible refine' is_tuple_bool ?gh ?_); (case gh => walk_at "h"))
  | ((with_reducible refine' is_tuple_str ?gh ?_); (case gh => walk_at "h"))
  | ((with_reducible refine' is2_tuple ?ga ?gb ?_); (case ga => walk_at "h"); (case gb => walk_at "h"))
  | ((with_reducible refine' is_dict_list ?gh ?_); (case gh => walk_at "h"))
  | ((with_reducible refine' is_dict_tuple ?gh ?_); (case gh => walk_at "h"))
  | ((with_reducible refine' is_dict_dict ?gh ?_); (case gh => walk_at "h"))
  | ((with_reducible refine' is_dict_int ?gh ?_); (case gh => walk_at "h"))
  | ((with_reducible refine' is_dict_bool ?gh ?_); (case gh => walk_at "h"))
  | ((with_reducible refine' is_dict_str ?gh ?_); (case gh => walk_at "h"))
  | ((with_reducible refine' is2_dict ?ga ?gb ?_); (case ga => walk_at "h"); (case gb => walk_at "h")))
local macro_rules | `(tactic| walk_at "g") => `(tactic| first
  | (with_reducible refine g_seq ?_)
  | (with_reducible refine g_asg ?_)
  | ((with_reducible refine g_name ?_); dsimp only [List.set, wipe, List.map])
  | ((with_reducible refine' g_var ?gv ?_); (case gv => exact rfl))
  | (with_reducible refine g_c ?_)
  | (with_reducible refine g_op ?_)
  | (with_reducible refine g_cons ?_)
  | (with_reducible refine g_nil ?_)
  | (with_reducible refine g_cb ?_)
  | (with_reducible refine g_call ?_)
  | (with_reducible refine g_tup ?_)
  | (with_reducible refine g_lst ?_)
  | (with_reducible refine g_bm ?_)
  | (with_reducible refine g_bm0 ?_)
  | ((with_reducible refine' g_kbm ?gh ?_); (case gh => walk_at "h"))
  | (with_reducible refine g_drop ?_)
  | (with_reducible refine g_ret ?_)
  | (with_reducible refine g_retN ?_)
  | (with_reducible refine g_next ?_)
  | (with_reducible refine g_brk ?_)
  | (with_reducible refine g_cont ?_)
  | (with_reducible refine g_if ?_)
  | ((with_reducible refine' g_aug ?gv ?_); (case gv => exact rfl))
  | (with_reducible refine g_ipI ?_)
  | (with_reducible refine g_test ?_)
  | (with_reducible refine g_tB ?_)
  | (with_reducible refine g_kB ?_)
  | (with_reducible refine g_not ?_)
  | (with_reducible refine g_and ?_)
  | (with_reducible refine g_or ?_)
  | (with_reducible refine g_andV ?_)
  | (with_reducible refine g_orV ?_)
  | (with_reducible refine g_notV ?_)
  | (with_reducible refine g_ifE ?_)
  | (with_reducible refine g_addI ?_)
  | (with_reducible refine g_rI0 ?_)
  | (with_reducible refine g_eqI ?_)
  | (with_reducible refine g_eqS ?_)
  | (with_reducible refine g_neI ?_)
  | (with_reducible refine g_neS ?_)
  | (with_reducible refine g_isN ?_)
  | (with_reducible refine g_notN ?_)
  | (with_reducible refine g_int ?_)
  | (with_reducible refine g_max2 ?_)
  | ((with_reducible refine' g_lenL ?gh ?_); (case gh => walk_at "h"))
  | (with_reducible refine g_sub ?_)
  | (with_reducible refine g_gcons ?_)
  | (with_reducible refine g_gnil ?_)
  | (with_reducible refine g_un ?_)
  | (with_reducible refine g_rU ?_)
  | (with_reducible refine g_forL ?_)
  | (with_reducible refine g_forR1 ?_)
  | (with_reducible refine g_forR2 ?_)
  | (with_reducible refine g_forR3 ?_)
  | (with_reducible refine g_lcL ?_)
  | (with_reducible refine g_lcR1 ?_)
  | (with_reducible refine g_lcR2 ?_)
  | (with_reducible refine g_slice ?_)
  | (with_reducible refine g_part ?_)
  | (with_reducible refine g_kOI ?_)
  | (with_reducible refine g_nopart ?_)
  | (with_reducible refine g_yes ?_)
  | ((with_reducible refine' g_wipe ?gv ?_); (case gv => exact rfl))
  | (with_reducible refine iteT ?_)
  | (with_reducible refine iteF ?_)
  | (with_reducible refine i_nf ?_)
  | (with_reducible refine i_nt ?_)
  | ((with_reducible refine' g_gtup ?gh ?gl ?_); (case gh => walk_at "h"); (case gl => exact rfl))
  | ((with_reducible refine' g_notinI ?gh ?_); (case gh => walk_at "h"))
  | ((with_reducible refine' g_inI ?gh ?_); (case gh => walk_at "h"))
  | ((with_reducible refine' g_kget2 ?gh ?_); (case gh => walk_at "h"))
  | ((with_reducible refine' g_kgotI ?gh ?_); (case gh => walk_at "h"))
  | (with_reducible refine g_tRev ?_)
  | (with_reducible refine g_neB ?_)
  | (with_reducible refine g_eqB ?_)
  | ((with_reducible refine' g_lenT ?gh ?_); (case gh => walk_at "h"))
  | (with_reducible refine g_star ?_)
  | ((with_reducible refine' g_kstarL ?gh ?_); (case gh => walk_at "h"))
  | ((with_reducible refine' g_kstarT ?gh ?_); (case gh => walk_at "h"))
  | (with_reducible refine g_tru ?_)
  | ((with_reducible refine' g_truL ?gh ?_); (case gh => walk_at "h"))
  | (with_reducible refine g_get2 ?_)
  | (with_reducible refine g_try ?_)
  | (with_reducible refine g_callS ?_)
  | (with_reducible refine g_raise ?_)
  | (with_reducible refine g_xf ?_)
  | walk_at "is")
local macro_rules | `(tactic| walk_at "gg") => `(tactic| repeat walk_at "g")
local macro_rules | `(tactic| walk_at "sz") => `(tactic| (refine sz ?_; simp only [List.length_cons, List.length_nil, List.length_map, List.length_append, List.length_replicate]; omega))
local macro_rules | `(tactic| walk_at "sub") => `(tactic| ((repeat (first | exact List.Sublist.slnil | with_reducible apply List.Sublist.cons_cons | with_reducible apply List.Sublist.cons)); done))

/-- what stands still in a turn -/
def BE (tr td : Addr) (m : E2) (us : List V) (bs : List E2) (ws : List V) (rows : List (Int × Int)) (F : Hp) : Prop := F tr = some (.tup (m.2.1.map V.str)) ∧ F td = some (.tup (m.2.2.map V.str)) ∧ DqAll F us (bs.map e2D) ∧ DqAll F ws (rows.map cellD)
theorem BE.up {tr td : Addr} {m : E2} {us : List V} {bs : List E2} {ws : List V} {rows : List (Int × Int)} {F F' : Hp} (h : BE tr td m us bs ws rows F) (s : Same F F') : BE tr td m us bs ws rows F' :=
  ⟨s _ _ h.1, s _ _ h.2.1, h.2.2.1.up s _ _, h.2.2.2.up s _ _⟩
def okD (d : PyData) : Prop := ∃ e, d = e2D e ∧ e2ok e
theorem okD_app {xs ys : List PyData} (h1 : ∀ d ∈ xs, okD d) (h2 : ∀ d ∈ ys, okD d) : ∀ d ∈ xs ++ ys, okD d := fun d hd => by
  rcases List.mem_append.mp hd with hd | hd
  · exact h1 d hd
  · exact h2 d hd
theorem okD_one {e : E2} (h : e2ok e) : ∀ d ∈ [e2D e], okD d := fun d hd => ⟨e, List.mem_singleton.mp hd, h⟩
theorem okD_map {es : List E2} (h : ∀ e ∈ es, e2ok e) : ∀ d ∈ es.map e2D, okD d := fun d hd => by
  obtain ⟨e, he, rfl⟩ := List.mem_map.mp hd
  exact ⟨e, rfl, h e he⟩
theorem okL_snoc {xs : List Str} {z : Str} (h : okL xs) (hz : PyData.strOk z = true) : okL (xs ++ [z]) := fun x hx => by
  rcases List.mem_append.mp hx with hx | hx
  · exact h x hx
  · rw [List.mem_singleton.mp hx]; exact hz
theorem okL_one {z : Str} (hz : PyData.strOk z = true) : okL [z] := fun x hx => by rw [List.mem_singleton.mp hx]; exact hz
theorem okL_nil : okL [] := fun x hx => by cases hx
section
variable {P : Program} {w : World} {K : PySem.W.Frag} {mg : Str → Option Value} {base : Heap}
def sp_l_bent (K : PySem.W.Frag) : Sp := fun vs H Q _ => ∃ (c t l gd : Addr) (F : Hp) (ws : List V) (rows : List (Int × Int)) (tx ls : List Str) (gs : List V) (es : List E2), vs = [.ref c, .ref t, .ref l, .ref gd] ∧ Has F [(c, .lst ws)] H ∧ DqAll F ws (rows.map cellD) ∧ rows.length ≤ 100 ∧ F t = some (.lst (tx.map V.str)) ∧ F l = some (.lst (ls.map V.str)) ∧ tx.length ≤ 4 ∧ ls.length = 3 ∧ okL tx ∧ okL ls ∧ F gd = some (.lst gs) ∧ DqAll F gs (es.map e2D) ∧ es.length ≤ 3 ∧ (∀ e ∈ es, e2ok e ∧ e.2.1.length ≤ 4 ∧ e.2.2.length ≤ 4) ∧
  ∀ p H' F' (ws' : List V) (rows' : List (Int × Int)) (us : List V) (es : List E2), Same F F' → Has F' [(p, .lst us), (c, .lst ws')] H' → DqAll F' ws' (rows'.map cellD) → rows'.length ≤ 100 → DqAll F' us (es.map e2D) → es.length ≤ 3 → (∀ e ∈ es, e2ok e) → Q (.ref p) H'
theorem sp_l_bent_len {vs H Q E} (h : sp_l_bent K vs H Q E) : vs.length = 4 := by
  obtain ⟨_, _, _, _, _, _, _, _, _, _, _, rfl, _⟩ := h
  rfl
theorem g_ten {Q : VK} {H : Hp} (q : Q (.int (10 ^ 30)) H) : rI CPow (fun i j => .int (i ^ j.toNat)) (.int 10) (.int 30) H Q := ⟨10, 30, rfl, rfl, ⟨by decide, by decide, by decide⟩, q⟩
theorem ok_l_bent (T : Txt K mg) : FnOk P w K mg base CX0 2 T.f_l_bent T.fd_l_bent ["cells", "text", "lines", "good"] (sp_l_bent K) := by
  refine T.F_l_bent.ok sc_l_bent (fun vs H Q E h => sp_l_bent_len h) (fun cdv A outer s H vs Q E hr h => ?_)
  refine ⟨_, (pss_cons (ps_set (i := 4) sc_l_bent.nd rfl (.inl rfl) (pe_lst pa_nil))
      (pss_cons (ps_set (i := 5) sc_l_bent.nd rfl (.inl rfl) pe_int)
      (pss_cons (ps_for PassesOwn.never rfl (pi_range1 rfl T.m_range (pa_cons (pe_callB (cr_lenK K) (by rfl) T.m_len (by decide +kernel) (pa_cons (pv 3) pa_nil)) pa_nil)) (pg_name (i := 6) sc_l_bent.nd rfl (.inl rfl)) (pss_cons (ps_set (i := 7) sc_l_bent.nd rfl (.inl rfl) (pe_ix (ix_K K (hu_of hr)) (pe_ix (ix_K K (hu_of hr)) (pv 3) (pv 6) (fun _ _ => rfl)) pe_int (fun _ _ => rfl)))
      (pss_cons (ps_set (i := 8) sc_l_bent.nd rfl (.inr rfl) (pe_ix (ix_K K (hu_of hr)) (pe_ix (ix_K K (hu_of hr)) (pv 3) (pv 6) (fun _ _ => rfl)) pe_int (fun _ _ => rfl)))
      (pss_cons (ps_set (i := 9) sc_l_bent.nd rfl (.inr rfl) (pe_ix (ix_K K (hu_of hr)) (pe_ix (ix_K K (hu_of hr)) (pv 3) (pv 6) (fun _ _ => rfl)) pe_int (fun _ _ => rfl)))
      (pss_cons (ps_set (i := 10) sc_l_bent.nd rfl (.inl rfl) (pe_op op_mod (pe_callTy cr_int1 (by rfl) T.m_int (by decide +kernel) (pa_cons (pe_op (op_addK K) (pe_call (ok_l_next T) (hr.mono (by decide)) (by rfl) T.g_l_next T.F_l_next.kp T.b_l_next .nil pass0 (pa_cons (pv 0) (pa_cons pe_int pa_nil))) (pe_op op_mulA pe_int (pe_op op_fdiv (pv 6) pe_int))) pa_nil)) pe_int))
      (pss_cons (ps_set (i := 11) sc_l_bent.nd rfl (.inl rfl) (pe_ix (ix_K K (hu_of hr)) (pv 2) (pe_call (ok_l_next T) (hr.mono (by decide)) (by rfl) T.g_l_next T.F_l_next.kp T.b_l_next .nil pass0 (pa_cons (pv 0) (pa_cons pe_int pa_nil))) (fun _ _ => rfl)))
      (pss_cons (ps_set (i := 12) sc_l_bent.nd rfl (.inl rfl) (pe_lst (pa_cons (pe_op op_sub (pv 7) pe_int) (pa_cons (pe_un un_neg pe_int) (pa_cons pe_int (pa_cons pe_int (pa_cons (pe_op op_pow pe_int pe_int) pa_nil)))))))
      (pss_cons (ps_set (i := 13) sc_l_bent.nd rfl (.inl rfl) (pe_lst (pa_cons (pe_tup (pa_cons (pv 7) (pa_cons (pv 8) (pa_cons (pv 9) pa_nil)))) pa_nil)))
      (pss_cons (ps_set (i := 13) sc_l_bent.nd rfl (.inl rfl) (pe_op (op_addK K) (pv 13) (pe_lst (pa_cons (pe_tup (pa_cons (pv 7) (pa_cons (pv 8) (pa_cons (pe_op (op_addK K) (pv 9) (pe_tup (pa_cons (pv 11) pa_nil))) pa_nil)))) (pa_cons (pe_tup (pa_cons (pv 7) (pa_cons (pe_tup pa_nil) (pa_cons (pe_tup pa_nil) pa_nil)))) pa_nil)))))
      (pss_cons (ps_set (i := 13) sc_l_bent.nd rfl (.inl rfl) (pe_op (op_addK K) (pv 13) (pe_lc (own := [("at", 15)]) (g := gName 15) (tt := tYes) rfl sc_l_bent.nd (k_il K (pi_list (pv 12))) (blkOk_by (N := n_l_bent) (sc := defScope s_l_bent) (by decide +kernel)) (fun _ _ _ _ _ => (pg_name (i := 15) sc_l_bent.nd rfl (.inl rfl))) (fun _ _ _ _ _ => pts_nil) (fun _ _ _ _ _ => (pe_tup (pa_cons (pv 15) (pa_cons (pv 8) (pa_cons (pv 9) pa_nil))))))))
      (pss_cons (ps_set (i := 13) sc_l_bent.nd rfl (.inl rfl) (pe_op (op_addK K) (pv 13) (pe_lst (pa_cons (pe_tup (pa_cons (pv 7) (pa_cons (pe_op (op_addK K) (pv 8) (pe_tup (pa_cons (pv 11) pa_nil))) (pa_cons (pv 9) pa_nil)))) pa_nil))))
      (pss_cons (ps_set (i := 13) sc_l_bent.nd rfl (.inl rfl) (pe_op (op_addK K) (pv 13) (pe_lst (pa_cons (pe_tup (pa_cons (pv 7) (pa_cons (pe_op (op_addK K) (pe_tup (pa_cons (pv 11) pa_nil)) (pe_slice (sl_K K) (pv 8) (po_some pe_int) po_none)) (pa_cons (pv 9) pa_nil)))) pa_nil))))
      (pss_cons (ps_set (i := 13) sc_l_bent.nd rfl (.inl rfl) (pe_op (op_addK K) (pv 13) (pe_lst (pa_cons (pe_tup (pa_cons (pe_op (op_addK K) (pe_callB (cr_lenK K) (by rfl) T.m_len (by decide +kernel) (pa_cons (pv 1) pa_nil)) pe_int) (pa_cons (pe_tup pa_nil) (pa_cons (pe_tup (pa_cons (pv 11) pa_nil)) pa_nil)))) pa_nil))))
      (pss_cons (ps_set (i := 14) sc_l_bent.nd rfl (.inl rfl) (pe_callTy (cr_tupleK K) (by rfl) T.m_tuple (by decide +kernel) (pa_cons (pe_slice (sl_K K) (pv 1) (po_some (pe_callB (cr_max2 rfl) (by rfl) T.m_max (by decide +kernel) (pa_cons pe_int (pa_cons (pe_op op_sub (pv 5) pe_int) pa_nil)))) (po_some (pv 5))) pa_nil)))
      (pss_cons (ps_set (i := 13) sc_l_bent.nd rfl (.inl rfl) (pe_op (op_addK K) (pv 13) (pe_lst (pa_cons (pe_tup (pa_cons (pe_op op_sub (pv 5) pe_int) (pa_cons (pv 14) (pa_cons (pe_tup (pa_cons (pv 11) pa_nil)) pa_nil)))) pa_nil))))
      (pss_cons (ps_expr (k_bm K (pe_bm PySem.F.plainAttrs_list PySem.F.slot_list_append PySem.F.type_list_append mt_append (pv 4) (pa_cons (pe_ix (ix_K K (hu_of hr)) (pv 13) (pv 10) (fun _ _ => rfl)) pa_nil))))
      (pss_one (ps_set (i := 5) sc_l_bent.nd rfl (.inl rfl) (pe_op (op_addK K) (pv 7) (pe_callB (cr_lenK K) (by rfl) T.m_len (by decide +kernel) (pa_cons (pv 8) pa_nil)))))))))))))))))))))
      (pss_one (ps_ret (pv 4)))))), ?_⟩
  obtain ⟨c, t, l, gd, F, ws, rows, tx, ls, gs, es, rfl, hH, dq, hrl, ht, hl, lt, ll, okt, okl, hg, dg, le, oke, q⟩ := h
  refine g_start (σ' := [some (.ref c), some (.ref t), some (.ref l), some (.ref gd), none, none, none, none, none, none, none, none, none, none, none, none]) rfl ?_
  have hgl : gs.length = es.length := by rw [dg.len, List.length_map]
  walk_at "gg"
  refine g_klst (by walk_at "sz") hH (fun p H1 n1 h1 => ?_)
  walk_at "gg"
  refine k_forR1 (fun i σ H' => ∃ (F' : Hp) (ws : List V) (rows : List (Int × Int)) (us : List V) (bs : List E2) (en : Int) (y6 y7 y8 y9 y10 y11 y12 y13 y14 : Option V), σ = [some (.ref c), some (.ref t), some (.ref l), some (.ref gd), some (.ref p), some (.int en), y6, y7, y8, y9, y10, y11, y12, y13, y14, none] ∧ Same F F' ∧ Has F' [(p, .lst us), (c, .lst ws)] H' ∧ DqAll F' ws (rows.map cellD) ∧ rows.length ≤ 100 ∧ DqAll F' us (bs.map e2D) ∧ bs.length = i ∧ (∀ e ∈ bs, e2ok e)) (by omega) (by omega) ⟨F, ws, rows, [], [], 0, _, _, _, _, _, _, _, _, _, rfl, Same.refl _, h1, dq, hrl, .nil, rfl, (fun e he => by cases he)⟩ ?_ ?_
  · rintro i σ H3 hi ⟨F3, ws, rows, us, bs, en, y6, y7, y8, y9, y10, y11, y12, y13, y14, rfl, sF, h3, dq, hrl, du, hbl, okb⟩
    have hal : us.length = bs.length := by rw [du.len, List.length_map]
    have ht3 := sF _ _ ht
    have hl3 := sF _ _ hl
    have hg3 := sF _ _ hg
    have dg3 := dg.up sF _ _
    walk_at "gg"
    refine g_ixV (by walk_at "h") (by omega) (by omega) (fun u hu => ?_)
    obtain ⟨d, hd, dx⟩ := dg3.get hu
    rw [List.getElem?_map, Int.toNat_natCast] at hd
    obtain ⟨m, hm, rfl⟩ := Option.map_eq_some_iff.mp hd
    obtain ⟨T2, tr, td, rfl, hT, er, ed_⟩ := e2_at dx
    obtain ⟨om, om1, om2⟩ := oke m (List.mem_of_getElem? hm)
    walk_at "gg"
    refine g_ixT (v := .int m.1) (by walk_at "h") (atI_nat (j := 0) rfl) ?_
    walk_at "gg"
    refine g_ixL (v := .ref T2) (by walk_at "h") (at_n (by omega) hu) ?_
    walk_at "gg"
    refine g_ixT (v := .ref tr) (by walk_at "h") (atI_nat (j := 1) rfl) ?_
    walk_at "gg"
    refine g_ixL (v := .ref T2) (by walk_at "h") (at_n (by omega) hu) ?_
    walk_at "gg"
    refine g_ixT (v := .ref td) (by walk_at "h") (atI_nat (j := 2) rfl) ?_
    walk_at "gg"
    refine ⟨c, 12, F3, ws, rows, rfl, h3.drop, dq, hrl, by decide, by decide, fun H4 F4 ws4 rows4 r hb g hs dq4 l4 r0 r1 => ?_⟩
    have h4 := h3.grown (by walk_at "c") hb g hs.same (hs.get (List.Mem.head _))
    have s4 := sF.trans g.1
    have du4 := du.up g.1 _ _
    have er4 := g.1 _ _ er
    have ed4 := g.1 _ _ ed_
    walk_at "gg"
    refine g_rI (by show 0 < (2 : Int) ∧ (2 : Int) < 1073741824; decide) ?_
    refine g_mulI (.inl ⟨by decide, by decide⟩) ?_
    walk_at "gg"
    refine g_rI (by show (0 : Int) < 12; decide) ?_
    walk_at "gg"
    have ek0 : 0 ≤ (r + 2 * ((i : Int) / 2)) % 12 := Int.emod_nonneg _ (by decide)
    have ek1 : (r + 2 * ((i : Int) / 2)) % 12 < 12 := Int.emod_lt_of_pos _ (by decide)
    generalize (r + 2 * ((i : Int) / 2)) % 12 = kd at ek0 ek1
    refine ⟨c, 3, F4, ws4, rows4, rfl, h4.drop, dq4, l4, by decide, by decide, fun H5 F5 ws5 rows5 r hb g hs dq5 l5 r0 r1 => ?_⟩
    have h5 := h4.grown (by walk_at "c") hb g hs.same (hs.get (List.Mem.head _))
    have s5 := s4.trans g.1
    have du5 := du4.up g.1 _ _
    have er5 := g.1 _ _ er4
    have ed5 := g.1 _ _ ed4
    have hl5 := s5 _ _ hl
    have ht5 := s5 _ _ ht
    refine g_ixZ (by walk_at "h") (by omega) (by omega) (fun z hz => ?_)
    have okz := okl _ (List.mem_of_getElem? hz)
    walk_at "gg"
    refine g_rI (by exact ⟨by decide, by decide, by decide⟩) ?_
    walk_at "gg"
    refine g_klst (by walk_at "sz") h5 (fun pl H6 n6 h6 => ?_)
    have b5 : BE tr td m us bs ws5 rows5 F5 := ⟨er5, ed5, du5, dq5⟩
    walk_at "gg"
    -- [(place, removed, added)]
    refine g_ktupF (by walk_at "sz") h6 (fun t1 H7 F7 n7 s7 f7 h7 => ?_)
    have b7 := b5.up s7
    have d7 : DqAll F7 [.ref t1] (([(m.1, m.2.1, m.2.2)] : List E2).map e2D) := .cons (e2_mk (e := (m.1, m.2.1, m.2.2)) f7 b7.1 b7.2.1) .nil
    walk_at "gg"
    refine g_klst (by walk_at "sz") h7 (fun o1 H8 n8 h8 => ?_)
    walk_at "gg"
    -- (place, removed, added + (line,)), (place, (), ())
    refine g_ktupF (by walk_at "sz") h8 (fun t2 H9 F9 n9 s9 f9 h9 => ?_)
    have b9 := b7.up s9
    have d9 := d7.up s9 _ _
    refine g_addTF b9.2.1 f9 (sz (by rw [List.length_map]; show _ + 1 ≤ _; omega)) h9 (fun t3 H10 F10 s10 f10 h10 => ?_)
    have e10 : m.2.2.map V.str ++ [V.str z] = (m.2.2 ++ [z]).map V.str := by rw [List.map_append]; rfl
    rw [e10] at f10
    have b10 := b9.up s10
    have d10 := d9.up s10 _ _
    walk_at "gg"
    refine g_ktupF (by walk_at "sz") h10 (fun t4 H11 F11 n11 s11 f11 h11 => ?_)
    have b11 := b10.up s11
    have d11 := d10.up s11 _ _
    have f10 := s11 _ _ f10
    walk_at "gg"
    refine g_ktupF (by walk_at "sz") h11 (fun t5 H12 F12 n12 s12 f12 h12 => ?_)
    walk_at "gg"
    refine g_ktupF (by walk_at "sz") h12 (fun t6 H13 F13 n13 s13 f13 h13 => ?_)
    walk_at "gg"
    refine g_ktupF (by walk_at "sz") h13 (fun t7 H14 F14 n14 s14 f14 h14 => ?_)
    have s24 := s12.trans (s13.trans s14)
    have b14 := b11.up s24
    have d14 : DqAll F14 ([.ref t1] ++ [.ref t4, .ref t7]) (([(m.1, m.2.1, m.2.2)] ++ [(m.1, m.2.1, m.2.2 ++ [z]), (m.1, [], [])] : List E2).map e2D) := by
      rw [List.map_append]
      exact (d11.up s24 _ _).app (.cons (e2_mk (e := (m.1, m.2.1, m.2.2 ++ [z])) (s24 _ _ f11) b14.1 (s24 _ _ f10)) (.cons (e2_mk (e := (m.1, [], [])) f14 ((s13.trans s14) _ _ f12) (s14 _ _ f13)) .nil))
    walk_at "gg"
    refine g_klst (by walk_at "sz") h14 (fun o2 H15 n15 h15 => ?_)
    refine g_addL (h15.get (by walk_at "m")) (h15.get (List.Mem.head _)) (by walk_at "sz") h15 (fun o3 H16 n16 h16 => ?_)
    walk_at "gg"
    -- [(at, removed, added) for at in places]
    refine k_lcL (xs := [V.int (m.1 - 1), V.int (-1), V.int 400, V.int 401, V.int (10 ^ 30)]) (by walk_at "h") h16 (fun i acc F' O' => ∃ as : List E2, DqAll F' acc (as.map e2D) ∧ as.length = i ∧ (∀ e ∈ as, e.2 = m.2) ∧ Same F14 F' ∧ O' = [(o3, .lst ([V.ref t1] ++ [V.ref t4, V.ref t7])), (o2, .lst [V.ref t4, V.ref t7]), (o1, .lst [V.ref t1]), (pl, .lst [V.int (m.1 - 1), V.int (-1), V.int 400, V.int 401, V.int (10 ^ 30)]), (p, .lst us), (c, .lst ws5)]) ⟨[], .nil, rfl, (fun e he => by cases he), Same.refl _, rfl⟩ ?_ ?_ ?_
    · rintro i acc F' O' H17 ⟨as, da, rfl, oka, sF', rfl⟩ hh
      exact hh.get (by walk_at "m")
    · rintro i x acc F' O' D H17 hx ⟨as, da, rfl, oka, sF', rfl⟩ hh
      obtain ⟨at_, rfl⟩ : ∃ j : Int, x = .int j := by
        have := List.mem_of_getElem? hx
        simp only [List.mem_cons, List.not_mem_nil, or_false] at this
        rcases this with rfl | rfl | rfl | rfl | rfl <;> exact ⟨_, rfl⟩
      have hi5 : as.length < 5 := (List.getElem?_eq_some_iff.mp hx).1
      have b17 := b14.up sF'
      walk_at "gg"
      refine g_ktupF (by walk_at "sz") hh (fun t8 H18 F18 n18 s18 f18 h18 => ?_)
      exact k_turn h18 (by rw [da.len, List.length_map]; omega) ⟨as ++ [(at_, m.2.1, m.2.2)], by
        rw [List.map_append]
        exact (da.up s18 _ _).snoc (e2_mk (e := (at_, m.2.1, m.2.2)) f18 (b17.up s18).1 (b17.up s18).2.1), by rw [List.length_append]; rfl, fun e he => by
        rcases List.mem_append.mp he with he | he
        · exact oka e he
        · rw [List.mem_singleton.mp he], sF'.trans s18, rfl⟩
    rintro acc F17 O' o4 H17 ⟨as, da, hasl, oka, s17, rfl⟩ h17
    have hasl : as.length = 5 := hasl
    have hacl : acc.length = 5 := by rw [da.len, List.length_map, hasl]
    have b17 := b14.up s17
    have d17 := (d14.up s17 _ _).app da
    rw [← List.map_append] at d17
    refine g_addL (h17.get (by walk_at "m")) (h17.get (List.Mem.head _)) (by walk_at "sz") h17 (fun o5 H18 n18 h18 => ?_)
    walk_at "gg"
    -- (place, removed + (line,), added)
    refine g_ktupF (by walk_at "sz") h18 (fun t9 H19 F19 n19 s19 f19 h19 => ?_)
    have b19 := b17.up s19
    refine g_addTF b19.1 f19 (sz (by rw [List.length_map]; show _ + 1 ≤ _; omega)) h19 (fun t10 H20 F20 s20 f20 h20 => ?_)
    have e20 : m.2.1.map V.str ++ [V.str z] = (m.2.1 ++ [z]).map V.str := by rw [List.map_append]; rfl
    rw [e20] at f20
    have b20 := b19.up s20
    walk_at "gg"
    refine g_ktupF (by walk_at "sz") h20 (fun t11 H21 F21 n21 s21 f21 h21 => ?_)
    have s721 := s19.trans (s20.trans s21)
    have b21 := b20.up s21
    have d21 := (d17.up s721 _ _).snoc (e2_mk (e := (m.1, m.2.1 ++ [z], m.2.2)) f21 (s21 _ _ f20) b21.2.1)
    walk_at "gg"
    refine g_klst (by walk_at "sz") h21 (fun o6 H22 n22 h22 => ?_)
    refine g_addL (h22.get (by walk_at "m")) (h22.get (List.Mem.head _)) (by walk_at "sz") h22 (fun o7 H23 n23 h23 => ?_)
    walk_at "gg"
    -- (place, (line,) + removed[1:], added)
    refine g_ktupF (by walk_at "sz") h23 (fun t12 H24 F24 n24 s24' f24 h24 => ?_)
    have b24 := b21.up s24'
    walk_at "gg"
    refine g_slTF b24.1 h24 (fun t13 H25 F25 s25 f25 h25 => ?_)
    obtain ⟨rt, ert, lrt, mrt⟩ := cutV_strs m.2.1 (some 1) none
    rw [ert] at f25
    have f24 := s25 _ _ f24
    have b25 := b24.up s25
    refine g_addTF f24 f25 (sz (by rw [List.length_map]; show 1 + _ ≤ _; omega)) h25 (fun t14 H26 F26 s26 f26 h26 => ?_)
    have e26 : [V.str z] ++ rt.map V.str = (z :: rt).map V.str := rfl
    rw [e26] at f26
    have b26 := b25.up s26
    walk_at "gg"
    refine g_ktupF (by walk_at "sz") h26 (fun t15 H27 F27 n27 s27 f27 h27 => ?_)
    have s2127 := s24'.trans (s25.trans (s26.trans s27))
    have b27 := b26.up s27
    have d27 := (d21.up s2127 _ _).snoc (e2_mk (e := (m.1, z :: rt, m.2.2)) f27 (s27 _ _ f26) b27.2.1)
    walk_at "gg"
    refine g_klst (by walk_at "sz") h27 (fun o8 H28 n28 h28 => ?_)
    refine g_addL (h28.get (by walk_at "m")) (h28.get (List.Mem.head _)) (by walk_at "sz") h28 (fun o9 H29 n29 h29 => ?_)
    walk_at "gg"
    -- (len(text) + 1, (), (line,))
    have ht27 := s5.trans (s7.trans (s9.trans (s10.trans (s11.trans (s24.trans (s17.trans (s721.trans s2127)))))))
    have ft := ht27 _ _ ht
    refine g_lenL (h29.same _ _ ft) ?_
    walk_at "gg"
    refine g_ktupF (by walk_at "sz") h29 (fun t16 H30 F30 n30 s30 f30 h30 => ?_)
    walk_at "gg"
    refine g_ktupF (by walk_at "sz") h30 (fun t17 H31 F31 n31 s31 f31 h31 => ?_)
    walk_at "gg"
    refine g_ktupF (by walk_at "sz") h31 (fun t18 H32 F32 n32 s32 f32 h32 => ?_)
    have s2732 := s30.trans (s31.trans s32)
    have b32 := b27.up s2732
    have d32 := (d27.up s2732 _ _).snoc (e2_mk (e := (_, [], [z])) f32 ((s31.trans s32) _ _ f30) (s32 _ _ f31))
    have ft32 := s2732 _ _ ft
    walk_at "gg"
    refine g_klst (by walk_at "sz") h32 (fun o10 H33 n33 h33 => ?_)
    refine g_addL (h33.get (by walk_at "m")) (h33.get (List.Mem.head _)) (by walk_at "sz") h33 (fun o11 H34 n34 h34 => ?_)
    walk_at "gg"
    -- elder
    refine g_slL (h34.same _ _ ft32) h34 (fun q1 H35 n35 h35 => ?_)
    obtain ⟨el, eel, lel, mel⟩ := cutV_strs tx (some (max 0 (en - 1))) (some en)
    rw [eel] at h35
    walk_at "gg"
    refine g_tupleL (by walk_at "h") h35 (fun t19 H36 F36 n36 s36 f36 h36 => ?_)
    walk_at "gg"
    refine g_ktupF (by walk_at "sz") h36 (fun t20 H37 F37 n37 s37 f37 h37 => ?_)
    walk_at "gg"
    refine g_ktupF (by walk_at "sz") h37 (fun t21 H38 F38 n38 s38 f38 h38 => ?_)
    have s3238 := s36.trans (s37.trans s38)
    have b38 := b32.up s3238
    have d38 := (d32.up s3238 _ _).snoc (e2_mk (e := (_, el, [z])) f38 ((s37.trans s38) _ _ f36) (s38 _ _ f37))
    walk_at "gg"
    refine g_klst (by walk_at "sz") h38 (fun o12 H39 n39 h39 => ?_)
    refine g_addL (h39.get (by walk_at "m")) (h39.get (List.Mem.head _)) (by walk_at "sz") h39 (fun o13 H40 n40 h40 => ?_)
    walk_at "gg"
    have f13 := h40.get (List.Mem.head _)
    refine g_ixV f13 ek0 ?_ (fun v hv => ?_)
    · simp only [List.length_append, hacl, List.length_cons, List.length_nil]
      omega
    obtain ⟨dd, hdd, dv⟩ := d38.get (i := kd.toNat) (v := v) (by simpa using hv)
    have key : okD dd := by
      refine okD_app (okD_app (okD_app (okD_app (okD_map fun e he => ?_) (okD_one ?_)) (okD_one ?_)) (okD_one ?_)) (okD_one ?_) dd (List.mem_of_getElem? hdd)
      · rcases List.mem_append.mp he with he | he
        · simp only [List.mem_append, List.mem_cons, List.not_mem_nil, or_false] at he
          rcases he with rfl | rfl | rfl
          · exact om
          · exact ⟨om.1, okL_snoc om.2.1 okz, om.2.2.1, by show (m.2.2 ++ [z]).length ≤ 20; rw [List.length_append]; show _ + 1 ≤ _; omega⟩
          · exact ⟨okL_nil, okL_nil, by show 0 ≤ 20; decide, by show 0 ≤ 20; decide⟩
        · have := oka e he
          unfold e2ok
          rw [this]
          exact om
      · exact ⟨okL_snoc om.1 okz, om.2.1, by show (m.2.1 ++ [z]).length ≤ 20; rw [List.length_append]; show _ + 1 ≤ _; omega, om.2.2.2⟩
      · exact ⟨fun x hx => by
          rcases List.mem_cons.mp hx with rfl | hx
          · exact okz
          · exact om.1 x (mrt x hx), om.2.1, by show (z :: rt).length ≤ 20; rw [List.length_cons]; omega, om.2.2.2⟩
      · exact ⟨okL_nil, okL_one okz, by show 0 ≤ 20; decide, by show 1 ≤ 20; decide⟩
      · exact ⟨fun x hx => okt x (mel x hx), okL_one okz, by show el.length ≤ 20; omega, by show 1 ≤ 20; decide⟩
    obtain ⟨ne, rfl, okne⟩ := key
    walk_at "gg"
    refine g_append h40 (by walk_at "c") (szl (by omega)) (fun H41 h41 => ?_)
    walk_at "gg"
    refine g_lenT (h41.same _ _ b38.1) ?_
    walk_at "gg"
    refine ⟨F38, ws5, rows5, us ++ [v], bs ++ [ne], _, _, _, _, _, _, _, _, _, _, rfl, ht27.trans (s2732.trans s3238), h41.sub (by walk_at "sub"), b38.2.2.2, l5, ?_, by rw [List.length_append, hbl]; rfl, fun e he => ?_⟩
    · rw [List.map_append]
      exact b38.2.2.1.snoc dv
    · rcases List.mem_append.mp he with he | he
      · exact okb e he
      · rw [List.mem_singleton.mp he]
        exact okne
  · rintro σ H3 ⟨F3, ws, rows, us, bs, en, y6, y7, y8, y9, y10, y11, y12, y13, y14, rfl, sF, h3, dq, hrl, du, hbl, okb⟩
    walk_at "gg"
    exact q p H3 F3 ws rows us bs sF h3 dq hrl du (by omega) okb
end
end K02

namespace K02
open PySem PySem.Spec PyProof.Rows L2 Qk
local macro_rules | `(tactic| walk_at "m") => `(tactic| ((repeat (first | exact List.Mem.head _ | apply List.Mem.tail)); done))
local macro_rules | `(tactic| walk_at "h") => `(tactic| first | assumption | exact Has.gF (by assumption) (by assumption) | exact Has.get (by assumption) (by walk_at "m"))
local macro_rules | `(tactic| walk_at "c") => `(tactic| ((repeat (first | exact Chg.hd | apply Chg.tl)); done))
local macro_rules | `(tactic| walk_at "is") => `(tactic| first
  | ((with_reducible refine' is2_non ?gh ?_); (case gh => walk_at "h"))
  | (with_reducible refine is_int_list ?_)
  | (with_reducible refine is_int_tuple ?_)
  | (with_reducible refine is_int_dict ?_)
  | (with_reducible refine is_int_int ?_)
  | (with_reducible refine is_int_bool ?_)
  | (with_reducible refine is_int_str ?_)
  | ((with_reducible refine' is2_int ?gh ?_); (case gh => walk_at "h"))
  | (with_reducible refine is_str_list ?_)
  | (with_reducible refine is_str_tuple ?_)
  | (with_reducible refine is_str_dict ?_)
  | (with_reducible refine is_str_int ?_)
  | (with_reducible refine is_str_bool ?_)
  | (with_reducible refine is_str_str ?_)
  | ((with_reducible refine' is2_str ?gh ?_); (case gh => walk_at "h"))
  | (with_reducible refine is_bool_list ?_)
  | (with_reducible refine is_bool_tuple ?_)
  | (with_reducible refine is_bool_dict ?_)
  | (with_reducible refine is_bool_int ?_)
  | (with_reducible refine is_bool_bool ?_)
  | (with_reducible refine is_bool_str ?_)
  | ((with_reducible refine' is2_bool ?gh ?_); (case gh => walk_at "h"))
  | ((with_reducible refine' is_list_list ?gh ?_); (case gh => walk_at "h"))
  | ((with_reducible refine' is_list_tuple ?gh ?_); (case gh => walk_at "h"))
  | ((with_reducible refine' is_list_dict ?gh ?_); (case gh => walk_at "h"))
  | ((with_reducible refine' is_list_int ?gh ?_); (case gh => walk_at "h"))
  | ((with_reducible refine' is_list_bool ?gh ?_); (case gh => walk_at "h"))
  | ((with_reducible refine' is_list_str ?gh ?_); (case gh => walk_at "h"))
  | ((with_reducible refine' is2_list ?ga ?gb ?_); (case ga => walk_at "h"); (case gb => walk_at "h"))
  | ((with_reducible refine' is_tuple_list ?gh ?_); (case gh => walk_at "h"))
  | ((with_reducible refine' is_tuple_tuple ?gh ?_); (case gh => walk_at "h"))
  | ((with_reducible refine' is_tuple_dict ?gh ?_); (case gh => walk_at "h"))
  | ((with_reducible refine' is_tuple_int ?gh ?_); (case gh => walk_at "h"))
  | ((with_reducible refine' is_tuple_bool ?gh ?_); (case gh => walk_at "h"))
  | ((with_reducible refine' is_tuple_str ?gh ?_); (case gh => walk_at "h"))
  | ((with_reducible refine' is2_tuple ?ga ?gb ?_); (case ga => walk_at "h"); (case gb => walk_at "h"))
  | ((with_reducible refine' is_dict_list ?gh ?_); (case gh => walk_at "h"))
  | ((with_reducible refine' is_dict_tuple ?gh ?_); (case gh => walk_at "h"))
  | ((with_reducible refine' is_dict_dict ?gh ?_); (case gh => walk_at "h"))
  | ((with_reducible refine' is_dict_int ?gh ?_); (case gh => walk_at "h"))
  | ((with_reducible refine' is_dict_bool ?gh ?_); (case gh => walk_at "h"))
  | ((with_reducible refine' is_dict_str ?gh ?_); (case gh => walk_at "h"))
  | ((with_reducible refine' is2_dict ?ga ?gb ?_); (case ga => walk_at "h"); (case gb => walk_at "h")))
local macro_rules | `(tactic| walk_at "g") => `(tactic| first
  | (with_reducible refine g_seq ?_)
  | (with_reducible refine g_asg ?_)
  | ((with_reducible refine g_name ?_); dsimp only [List.set, wipe, List.map])
  | ((with_reducible refine' g_var ?gv ?_); (case gv => exact rfl))
  | (with_reducible refine g_c ?_)
  | (with_reducible refine g_op ?_)
  | (with_reducible refine g_cons ?_)
  | (with_reducible refine g_nil ?_)
  | (with_reducible refine g_cb ?_)
  | (with_reducible refine g_call ?_)
  | (with_reducible refine g_tup ?_)
  | (with_reducible refine g_lst ?_)
  | (with_reducible refine g_bm ?_)
  | (with_reducible refine g_bm0 ?_)
  | ((with_reducible refine' g_kbm ?gh ?_); (case gh => walk_at "h"))
  | (with_reducible refine g_drop ?_)
  | (with_reducible refine g_ret ?_)
  | (with_reducible refine g_retN ?_)
  | (with_reducible refine g_next ?_)
  | (with_reducible refine g_brk ?_)
  | (with_reducible refine g_cont ?_)
  | (with_reducible refine g_if ?_)
  | ((with_reducible refine' g_aug ?gv ?_); (case gv => exact rfl))
  | (with_reducible refine g_ipI ?_)
  | (with_reducible refine g_test ?_)
  | (with_reducible refine g_tB ?_)
  | (with_reducible refine g_kB ?_)
  | (with_reducible refine g_not ?_)
  | (with_reducible refine g_and ?_)
  | (with_reducible refine g_or ?_)
  | (with_reducible refine g_andV ?_)
  | (with_reducible refine g_orV ?_)
  | (with_reducible refine g_notV ?_)
  | (with_reducible refine g_ifE ?_)
  | (with_reducible refine g_addI ?_)
  | (with_reducible refine g_rI0 ?_)
  | (with_reducible refine g_eqI ?_)
  | (with_reducible refine g_eqS ?_)
  | (with_reducible refine g_neI ?_)
  | (with_reducible refine g_neS ?_)
  | (with_reducible refine g_isN ?_)
  | (with_reducible refine g_notN ?_)
  | (with_reducible refine g_int ?_)
  | (with_reducible refine g_max2 ?_)
  | ((with_reducible refine' g_lenL ?gh ?_); (case gh => walk_at "h"))
  | (with_reducible refine g_sub ?_)
  | (with_reducible refine g_gcons ?_)
  | (with_reducible refine g_gnil ?_)
  | (with_reducible refine g_un ?_)
  | (with_reducible refine g_rU ?_)
  | (with_reducible refine g_forL ?_)
  | (with_reducible refine g_forR1 ?_)
  | (with_reducible refine g_forR2 ?_)
  | (with_reducible refine g_forR3 ?_)
  | (with_reducible refine g_lcL ?_)
  | (with_reducible refine g_lcR1 ?_)
  | (with_reducible refine g_lcR2 ?_)
  | (with_reducible refine g_slice ?_)
  | (with_reducible refine g_part ?_)
  | (with_reducible refine g_kOI ?_)
  | (with_reducible refine g_nopart ?_)
  | (with_reducible refine g_yes ?_)
  | ((with_reducible refine' g_wipe ?gv ?_); (case gv => exact rfl))
  | (with_reducible refine iteT ?_)
  | (with_reducible refine iteF ?_)
  | (with_reducible refine i_nf ?_)
  | (with_reducible refine i_nt ?_)
  | ((with_reducible refine' g_gtup ?gh ?gl ?_); (case gh => walk_at "h"); (case gl => exact rfl))
  | ((with_reducible refine' g_notinI ?gh ?_); (case gh => walk_at "h"))
  | ((with_reducible refine' g_inI ?gh ?_); (case gh => walk_at "h"))
  | ((with_reducible refine' g_kget2 ?gh ?_); (case gh => walk_at "h"))
  | ((with_reducible refine' g_kgotI ?gh ?_); (case gh => walk_at "h"))
  | (with_reducible refine g_tRev ?_)
  | (with_reducible refine g_neB ?_)
  | (with_reducible refine g_eqB ?_)
  | ((with_reducible refine' g_lenT ?gh ?_); (case gh => walk_at "h"))
  | (with_reducible refine g_star ?_)
  | ((with_reducible refine' g_kstarL ?gh ?_); (case gh => walk_at "h"))
  | ((with_reducible refine' g_kstarT ?gh ?_); (case gh => walk_at "h"))
  | (with_reducible refine g_tru ?_)
  | ((with_reducible refine' g_truL ?gh ?_); (case gh => walk_at "h"))
  | (with_reducible refine g_get2 ?_)
  | (with_reducible refine g_try ?_)
  | (with_reducible refine g_callS ?_)
  | (with_reducible refine g_raise ?_)
  | (with_reducible refine g_xf ?_)
  | walk_at "is")
local macro_rules | `(tactic| walk_at "gg") => `(tactic| repeat walk_at "g")
local macro_rules | `(tactic| walk_at "sz") => `(tactic| (refine sz ?_; simp only [List.length_cons, List.length_nil, List.length_map, List.length_append, List.length_replicate]; omega))
local macro_rules | `(tactic| walk_at "sub") => `(tactic| ((repeat (first | exact List.Sublist.slnil | with_reducible apply List.Sublist.cons_cons | with_reducible apply List.Sublist.cons)); done))

section
variable {P : Program} {w : World} {K : PySem.W.Frag} {mg : Str → Option Value} {base : Heap}
def sp_law (K : PySem.W.Frag) : Sp := fun vs H Q _ => ∃ (a : Addr) (ns : List Int), vs = [.ref a] ∧ SqL K H a (ns.map V.int) ∧ ns.length ≤ 63 ∧ ∀ H', Q (.bl true) H'
theorem sp_law_len {vs H Q E} (h : sp_law K vs H Q E) : vs.length = 1 := by
  obtain ⟨_, _, rfl, _⟩ := h
  rfl
theorem sp_law_start {H : Hp} {a : Addr} {ns : List Int} (hl : ns.length ≤ 63) (hS : SqL K H a (ns.map V.int)) : sp_law K [.ref a] H (fun v _ => v = .bl true) (fun _ _ _ => False) := ⟨a, ns, rfl, hS, hl, fun _ => rfl⟩
theorem ok_law (T : Txt K mg) : FnOk P w K mg base CX0 8 T.f_law T.fd_law ["script"] (sp_law K) := by
  refine T.F_law.ok sc_law (fun vs H Q E h => sp_law_len h) (fun cdv A outer s H vs Q E hr h => ?_)
  refine ⟨_, (pss_cons (ps_set (i := 1) sc_law.nd rfl (.inr rfl) (pe_call (ok_l_feed T) (hr.mono (by decide)) (by rfl) T.g_l_feed T.F_l_feed.kp T.b_l_feed .nil pass0 (pa_cons (pv 0) pa_nil)))
      (pss_cons (ps_set (i := 2) sc_law.nd rfl (.inr rfl) (pe_lc (own := [("k", 8)]) (g := gName 8) (tt := tYes) rfl sc_law.nd (pi_range1 rfl T.m_range (pa_cons pe_int pa_nil)) (blkOk_by (N := n_law) (sc := defScope s_law) (by decide +kernel)) (fun _ _ _ _ _ => (pg_name (i := 8) sc_law.nd rfl (.inl rfl))) (fun _ _ _ _ _ => pts_nil) (fun _ _ _ _ _ => (pe_call (ok_l_menu T) (hr.mono (by decide)) (by rfl) T.g_l_menu T.F_l_menu.kp T.b_l_menu .nil pass0 (pa_cons (pe_op (op_addK K) (pe_call (ok_l_next T) (hr.mono (by decide)) (by rfl) T.g_l_next T.F_l_next.kp T.b_l_next .nil pass0 (pa_cons (pv 1) (pa_cons pe_int pa_nil))) (pe_op op_mulA pe_int (pv 8))) pa_nil)))))
      (pss_cons (ps_set (i := 3) sc_law.nd rfl (.inl rfl) (pe_op op_mod (pe_callTy cr_int1 (by rfl) T.m_int (by decide +kernel) (pa_cons (pe_op (op_addK K) (pe_call (ok_l_next T) (hr.mono (by decide)) (by rfl) T.g_l_next T.F_l_next.kp T.b_l_next .nil pass0 (pa_cons (pv 1) (pa_cons pe_int pa_nil))) pe_int) pa_nil)) pe_int))
      (pss_cons (ps_setLc (i := 4) (own := [("k", 8)]) (g := gName 8) (tt := tYes) rfl sc_law.nd rfl rfl (sw_true rfl rfl rfl (by decide +kernel)) (pi_range1 rfl T.m_range (pa_cons (pv 3) pa_nil)) (blkOk_by (N := n_law) (sc := defScope s_law) (by decide +kernel)) (fun _ _ _ _ _ => (pg_name (i := 8) sc_law.nd rfl (.inl rfl))) (fun _ _ _ _ _ => pts_nil) (fun _ _ _ _ _ => (pe_ix (ix_K K (hu_of hr)) (pv 2) (pe_op op_mod (pe_callTy cr_int1 (by rfl) T.m_int (by decide +kernel) (pa_cons (pe_op (op_addK K) (pe_call (ok_l_next T) (hr.mono (by decide)) (by rfl) T.g_l_next T.F_l_next.kp T.b_l_next .nil pass0 (pa_cons (pv 1) (pa_cons pe_int pa_nil))) (pv 8)) pa_nil)) pe_int) (fun _ _ => rfl))))
      (pss_cons (ps_set (i := 5) sc_law.nd rfl (.inl rfl) (pe_call (ok_l_good T) (hr.mono (by decide)) (by rfl) T.g_l_good T.F_l_good.kp T.b_l_good .nil pass0 (pa_cons (pv 1) (pa_cons (pv 4) (pa_cons (pv 2) pa_nil)))))
      (pss_cons (ps_set (i := 6) sc_law.nd rfl (.inl rfl) (pe_call (ok_l_bent T) (hr.mono (by decide)) (by rfl) T.g_l_bent T.F_l_bent.kp T.b_l_bent .nil pass0 (pa_cons (pv 1) (pa_cons (pv 4) (pa_cons (pv 2) (pa_cons (pv 5) pa_nil))))))
      (pss_cons (ps_for PassesOwn.never rfl (k_il K (pi_list (pe_lst (pa_cons (pv 5) (pa_cons (pv 6) (pa_cons (pe_op (op_addK K) (pv 5) (pv 6)) (pa_cons (pv 5) pa_nil))))))) (pg_name (i := 7) sc_law.nd rfl (.inl rfl)) (pss_one (ps_if (PW.pt (pw_or (pt_not (pt_val (pe_call (ok_l_applies T) (hr.mono (by decide)) (by rfl) T.g_l_applies T.F_l_applies.kp T.b_l_applies .nil pass0 (pa_cons (pv 4) (pa_cons (pv 7) pa_nil))))) (pw_or1 (pt_not (pt_val (pe_call (ok_l_turns T) (hr.mono (by decide)) (by rfl) T.g_l_turns T.F_l_turns.kp T.b_l_turns .nil pass0 (pa_cons (pv 7) pa_nil))))))) (pss_one (ps_ret pe_bl)) pss_nil)))
      (pss_one (ps_ret pe_bl))))))))), ?_⟩
  obtain ⟨a, ns, rfl, hS, hl, q⟩ := h
  refine g_start (σ' := [some (.ref a), none, none, none, none, none, none, none, none]) rfl ?_
  walk_at "gg"
  refine ⟨a, ns, rfl, hS, hl, fun c H1 F1 ws rows n1 s1 h1 dq hrl => ?_⟩
  walk_at "gg"
  -- lines
  refine k_lcR1 (by decide) (by decide) h1 (fun i acc F' O' => ∃ (ks : List Str) (ws : List V) (rows : List (Int × Int)), acc = ks.map V.str ∧ ks.length = i ∧ okL ks ∧ [(c, HO.lst ws)] = O' ∧ DqAll F' ws (rows.map cellD) ∧ rows.length ≤ 100) ⟨[], ws, rows, rfl, rfl, okL_nil, rfl, dq, hrl⟩ ?_ ?_
  · rintro i acc F' O' D H2 hi ⟨ks, ws, rows, rfl, rfl, hk, rfl, dq, hrl⟩ hh
    have hi' : ks.length < 3 := hi
    walk_at "gg"
    refine ⟨c, 16, F', ws, rows, rfl, hh.drop, dq, hrl, by decide, by decide, fun H3 F3 ws3 rows3 r hb g hs dq3 l3 r0 r1 => ?_⟩
    have h3 := hh.grown (by walk_at "c") hb g hs.same (hs.get (List.Mem.head _))
    walk_at "gg"
    refine g_mulI (.inl ⟨by decide, by decide⟩) ?_
    walk_at "gg"
    refine ⟨_, rfl, fun H4 z s4 hz => ?_⟩
    have h4 := h3.on s4
    exact k_turn h4 (by rw [List.length_map]; omega) ⟨ks ++ [z], ws3, rows3, by rw [List.map_append]; rfl, by rw [List.length_append]; rfl, okL_snoc hk hz, rfl, dq3, l3⟩
  rintro acc F4 O2 li H3 ⟨ls, ws, rows, rfl, hll, hlok, rfl, dq, hrl⟩ hh
  have hll' : ls.length = 3 := hll
  have h3 := hh.frz
  have dq := dq.up hh.grow _ _
  have fli : upd F4 li (.lst (ls.map V.str)) li = some (.lst (ls.map V.str)) := upd_same
  generalize upd F4 li (.lst (ls.map V.str)) = F5 at h3 dq fli
  walk_at "gg"
  refine ⟨c, 5, F5, ws, rows, rfl, h3, dq, hrl, by decide, by decide, fun H4 F6 ws rows r hb g hs dq hrl r0 r1 => ?_⟩
  have fli := g.1 _ _ fli
  walk_at "gg"
  refine g_rI (by show (0 : Int) < 5; decide) ?_
  walk_at "gg"
  have em0 : 0 ≤ (r + 4) % 5 := Int.emod_nonneg _ (by decide)
  have em1 : (r + 4) % 5 < 5 := Int.emod_lt_of_pos _ (by decide)
  generalize (r + 4) % 5 = sz_ at em0 em1
  -- text
  refine k_lcR1 (by omega) (by omega) hs (fun i acc F' O' => ∃ (ks : List Str) (ws : List V) (rows : List (Int × Int)), acc = ks.map V.str ∧ ks.length = i ∧ okL ks ∧ [(c, HO.lst ws)] = O' ∧ DqAll F' ws (rows.map cellD) ∧ rows.length ≤ 100 ∧ Same F6 F') ⟨[], ws, rows, rfl, rfl, okL_nil, rfl, dq, hrl, Same.refl _⟩ ?_ ?_
  · rintro i acc F' O' D H2 hi ⟨ks, ws, rows, rfl, rfl, hk, rfl, dq, hrl, sF⟩ hh
    walk_at "gg"
    refine ⟨c, 3, F', ws, rows, rfl, hh.drop, dq, hrl, by decide, by decide, fun H3 F3 ws3 rows3 r hb g hs dq3 l3 r0 r1 => ?_⟩
    have h4 := hh.grown (by walk_at "c") hb g hs.same (hs.get (List.Mem.head _))
    have fl := g.1 _ _ (sF _ _ fli)
    walk_at "gg"
    refine g_rI (by show (0 : Int) < 3; decide) ?_
    refine g_ixZ (by walk_at "h") (Int.emod_nonneg _ (by decide)) (by rw [hll']; exact Int.emod_lt_of_pos _ (by decide)) (fun z hz => ?_)
    exact k_turn h4 (by rw [List.length_map]; omega) ⟨ks ++ [z], ws3, rows3, by rw [List.map_append]; rfl, by rw [List.length_append]; rfl, okL_snoc hk (hlok _ (List.mem_of_getElem? hz)), rfl, dq3, l3, sF.trans g.1⟩
  rintro acc F7 O2 ol H5 ⟨xs, ws, rows, rfl, hxl, hxok, rfl, dq, hrl, s67⟩ hh
  have h5 := hh.frz
  have dq := dq.up hh.grow _ _
  have fli := hh.grow _ _ (s67 _ _ fli)
  have fol : upd F7 ol (.lst (xs.map V.str)) ol = some (.lst (xs.map V.str)) := upd_same
  generalize upd F7 ol (.lst (xs.map V.str)) = F8 at h5 dq fli fol
  walk_at "gg"
  refine ⟨c, ol, li, F8, ws, rows, xs, ls, rfl, h5, dq, hrl, fol, fli, by omega, hll', hxok, hlok, fun gd H6 F9 ws rows us es s9 h6 dq hrl du le oke => ?_⟩
  have h6' := h6.frz
  have s9 : Same F8 (upd F9 gd (.lst us)) := s9.trans h6.grow
  have fgd : upd F9 gd (.lst us) gd = some (.lst us) := upd_same
  have dq := dq.up h6.grow _ _
  have du := du.up h6.grow _ _
  generalize upd F9 gd (.lst us) = F10 at h6' s9 fgd dq du
  have fol := s9 _ _ fol
  have fli := s9 _ _ fli
  walk_at "gg"
  refine ⟨c, ol, li, gd, F10, ws, rows, xs, ls, us, es, rfl, h6', dq, hrl, fol, fli, by omega, hll', hxok, hlok, fgd, du, le, oke, fun bt H7 F11 ws rows vs bs s11 h7 dq hrl dv lb okb => ?_⟩
  have h7 : Has F11 [(bt, .lst vs)] H7 := h7.sub (by walk_at "sub")
  have h8 := h7.frz
  have s11 := s11.trans h7.grow
  have fbt : upd F11 bt (.lst vs) bt = some (.lst vs) := upd_same
  have dv := dv.up h7.grow _ _
  generalize upd F11 bt (.lst vs) = F12 at h8 s11 fbt dv
  have fol := s11 _ _ fol
  have fgd := s11 _ _ fgd
  have du := du.up s11 _ _
  have lu : us.length = es.length := by rw [du.len, List.length_map]
  have lv : vs.length = bs.length := by rw [dv.len, List.length_map]
  have oke : ∀ e ∈ es, e2ok e := fun e he => (oke e he).1
  walk_at "gg"
  refine g_addL (h8.same _ _ fgd) (h8.same _ _ fbt) (sz (by omega)) h8 (fun bo H9 n9 h9 => ?_)
  have dboth : DqAll F12 (us ++ vs) ((es ++ bs).map e2D) := by
    rw [List.map_append]
    exact du.app dv
  have h10 := h9.frz
  have s13 := h9.grow
  have fbo : upd F12 bo (.lst (us ++ vs)) bo = some (.lst (us ++ vs)) := upd_same
  generalize upd F12 bo (.lst (us ++ vs)) = F13 at h10 s13 fbo
  have fol := s13 _ _ fol
  have fgd := s13 _ _ fgd
  have fbt := s13 _ _ fbt
  have du := du.up s13 _ _
  have dv := dv.up s13 _ _
  have dboth := dboth.up s13 _ _
  walk_at "gg"
  refine g_klstF (by walk_at "sz") h10 (fun al H14 F14 n14 s14 fal h14 => ?_)
  have fol := s14 _ _ fol
  have fgd := s14 _ _ fgd
  have fbt := s14 _ _ fbt
  have fbo := s14 _ _ fbo
  have du := du.up s14 _ _
  have dv := dv.up s14 _ _
  have dboth := dboth.up s14 _ _
  have one : ∀ x ∈ [V.ref gd, V.ref bt, V.ref bo, V.ref gd], ∃ (e : Addr) (us : List V) (es : List E2), x = .ref e ∧ F14 e = some (.lst us) ∧ DqAll F14 us (es.map e2D) ∧ es.length ≤ 10 ∧ ∀ y ∈ es, e2ok y := by
    intro x hx
    simp only [List.mem_cons, List.not_mem_nil, or_false] at hx
    rcases hx with rfl | rfl | rfl | rfl
    · exact ⟨gd, us, es, rfl, fgd, du, by omega, oke⟩
    · exact ⟨bt, vs, bs, rfl, fbt, dv, by omega, okb⟩
    · exact ⟨bo, us ++ vs, es ++ bs, rfl, fbo, dboth, by rw [List.length_append]; omega, fun y hy => by
        rcases List.mem_append.mp hy with hy | hy
        · exact oke y hy
        · exact okb y hy⟩
    · exact ⟨gd, us, es, rfl, fgd, du, by omega, oke⟩
  refine k_forL (by walk_at "h") (fun t σ H' => ∃ (y1 y2 y3 y4 y5 y6 : Option V), σ = [some (.ref a), y1, y2, y3, some (.ref ol), y4, y5, y6, none] ∧ Has F14 [] H') ⟨_, _, _, _, _, _, rfl, h14⟩ ?_ ?_ ?_
  · rintro t σ H3 _ ⟨_, _, _, _, _, _, _, h3⟩
    exact h3.same _ _ fal
  · rintro t x σ H3 hx ⟨y1, y2, y3, y4, y5, y6, rfl, h3⟩
    obtain ⟨e, us, es, rfl, fe, de, le, oke⟩ := one x (List.mem_of_getElem? hx)
    walk_at "gg"
    refine ⟨ol, e, xs, us, es, rfl, by walk_at "h", by walk_at "h", de.up h3.same _ _, by omega, le, hxok, oke, fun H4 s4 => ?_⟩
    have h4 := h3.on s4
    walk_at "gg"
    refine ⟨e, us, es, rfl, by walk_at "h", de.up h4.same _ _, le, oke, fun H5 s5 => ?_⟩
    have h5 := h4.on s5
    walk_at "gg"
    exact ⟨_, _, _, _, _, _, rfl, h5⟩
  · rintro σ H3 ⟨y1, y2, y3, y4, y5, y6, rfl, h3⟩
    walk_at "gg"
    exact q H3
end
theorem all_mk {l : PySem.W.OpenLaw} {w : World} {K : PySem.W.Frag} {h : Heap} {mg : Str → Option Value} {fa f1 f2 f3 f4 f5 f6 f7 f8 f9 f10 f11 f12 f13 f14 f15 f16 f17 c_PartError c_BadText c_BadEdit c_Misfit fi_BadEdit : Addr} (X : K.In h) (G : h.Ns mainGlobals mg) (hfa : mg "law" = some (.ref fa))
    {od1 an1 od2 an2 od3 an3 od4 an4 od5 an5 od6 an6 od7 an7 od8 an8 od9 an9 od10 an10 od11 an11 od12 an12 od13 an13 od14 an14 od15 an15 od16 an16 od17 an17 : Option Addr} {sl1 sl2 sl3 sl4 sl5 sl6 sl7 sl8 sl9 sl10 sl11 sl12 sl13 sl14 sl15 sl16 sl17 : Array (Option Value)} {oc1 kV1 dc1 pm1 cd1 ct1 oc2 kV2 dc2 pm2 cd2 ct2 oc3 kV3 dc3 pm3 cd3 ct3 oc4 kV4 dc4 pm4 cd4 ct4 oc5 kV5 dc5 pm5 cd5 ct5 oc6 kV6 dc6 pm6 cd6 ct6 oc7 kV7 dc7 pm7 cd7 ct7 oc8 kV8 dc8 pm8 cd8 ct8 oc9 kV9 dc9 pm9 cd9 ct9 oc10 kV10 dc10 pm10 cd10 ct10 oc11 kV11 dc11 pm11 cd11 ct11 oc12 kV12 dc12 pm12 cd12 ct12 oc13 kV13 dc13 pm13 cd13 ct13 oc14 kV14 dc14 pm14 cd14 ct14 oc15 kV15 dc15 pm15 cd15 ct15 oc16 kV16 dc16 pm16 cd16 ct16 oc17 kV17 dc17 pm17 cd17 ct17 : Value}
    (a1 : PySem.W.nsIn K mainGlobals "_follows" = some (some (.ref f1))) (l1 : K.lookup f1 = some ⟨oc1, od1, .func (PySem.W.fnOf "_follows" "_follows" (defArgs s_follows) (defBody s_follows) (defScope s_follows) .none kV1 dc1 pm1 an1 cd1 ct1), sl1⟩) (c1 : PySem.W.codeIn K cd1 "_follows" = true) (k1 : PySem.W.keepIn K (.ref f1) = true)
    (a2 : PySem.W.nsIn K mainGlobals "_fits" = some (some (.ref f2))) (l2 : K.lookup f2 = some ⟨oc2, od2, .func (PySem.W.fnOf "_fits" "_fits" (defArgs s_fits) (defBody s_fits) (defScope s_fits) .none kV2 dc2 pm2 an2 cd2 ct2), sl2⟩) (c2 : PySem.W.codeIn K cd2 "_fits" = true) (k2 : PySem.W.keepIn K (.ref f2) = true)
    (a3 : PySem.W.nsIn K mainGlobals "_end_of" = some (some (.ref f3))) (l3 : K.lookup f3 = some ⟨oc3, od3, .func (PySem.W.fnOf "_end_of" "_end_of" (defArgs s_end_of) (defBody s_end_of) (defScope s_end_of) .none kV3 dc3 pm3 an3 cd3 ct3), sl3⟩) (c3 : PySem.W.codeIn K cd3 "_end_of" = true) (k3 : PySem.W.keepIn K (.ref f3) = true)
    (a4 : PySem.W.nsIn K mainGlobals "apply_edits" = some (some (.ref f4))) (l4 : K.lookup f4 = some ⟨oc4, od4, .func (PySem.W.fnOf "apply_edits" "apply_edits" (defArgs s_apply_edits) (defBody s_apply_edits) (defScope s_apply_edits) .none kV4 dc4 pm4 an4 cd4 ct4), sl4⟩) (c4 : PySem.W.codeIn K cd4 "apply_edits" = true) (k4 : PySem.W.keepIn K (.ref f4) = true)
    (a5 : PySem.W.nsIn K mainGlobals "inverse_edits" = some (some (.ref f5))) (l5 : K.lookup f5 = some ⟨oc5, od5, .func (PySem.W.fnOf "inverse_edits" "inverse_edits" (defArgs s_inverse_edits) (defBody s_inverse_edits) (defScope s_inverse_edits) .none kV5 dc5 pm5 an5 cd5 ct5), sl5⟩) (c5 : PySem.W.codeIn K cd5 "inverse_edits" = true) (k5 : PySem.W.keepIn K (.ref f5) = true)
    (a6 : PySem.W.nsIn K mainGlobals "_law_feed" = some (some (.ref f6))) (l6 : K.lookup f6 = some ⟨oc6, od6, .func (PySem.W.fnOf "_law_feed" "_law_feed" (defArgs s_l_feed) (defBody s_l_feed) (defScope s_l_feed) .none kV6 dc6 pm6 an6 cd6 ct6), sl6⟩) (c6 : PySem.W.codeIn K cd6 "_law_feed" = true) (k6 : PySem.W.keepIn K (.ref f6) = true)
    (a7 : PySem.W.nsIn K mainGlobals "_law_next" = some (some (.ref f7))) (l7 : K.lookup f7 = some ⟨oc7, od7, .func (PySem.W.fnOf "_law_next" "_law_next" (defArgs s_l_next) (defBody s_l_next) (defScope s_l_next) .none kV7 dc7 pm7 an7 cd7 ct7), sl7⟩) (c7 : PySem.W.codeIn K cd7 "_law_next" = true) (k7 : PySem.W.keepIn K (.ref f7) = true)
    (a8 : PySem.W.nsIn K mainGlobals "_law_same" = some (some (.ref f8))) (l8 : K.lookup f8 = some ⟨oc8, od8, .func (PySem.W.fnOf "_law_same" "_law_same" (defArgs s_l_same) (defBody s_l_same) (defScope s_l_same) .none kV8 dc8 pm8 an8 cd8 ct8), sl8⟩) (c8 : PySem.W.codeIn K cd8 "_law_same" = true) (k8 : PySem.W.keepIn K (.ref f8) = true)
    (a9 : PySem.W.nsIn K mainGlobals "_law_menu" = some (some (.ref f9))) (l9 : K.lookup f9 = some ⟨oc9, od9, .func (PySem.W.fnOf "_law_menu" "_law_menu" (defArgs s_l_menu) (defBody s_l_menu) (defScope s_l_menu) .none kV9 dc9 pm9 an9 cd9 ct9), sl9⟩) (c9 : PySem.W.codeIn K cd9 "_law_menu" = true) (k9 : PySem.W.keepIn K (.ref f9) = true)
    (a10 : PySem.W.nsIn K mainGlobals "_law_good" = some (some (.ref f10))) (l10 : K.lookup f10 = some ⟨oc10, od10, .func (PySem.W.fnOf "_law_good" "_law_good" (defArgs s_l_good) (defBody s_l_good) (defScope s_l_good) .none kV10 dc10 pm10 an10 cd10 ct10), sl10⟩) (c10 : PySem.W.codeIn K cd10 "_law_good" = true) (k10 : PySem.W.keepIn K (.ref f10) = true)
    (a11 : PySem.W.nsIn K mainGlobals "_law_bent" = some (some (.ref f11))) (l11 : K.lookup f11 = some ⟨oc11, od11, .func (PySem.W.fnOf "_law_bent" "_law_bent" (defArgs s_l_bent) (defBody s_l_bent) (defScope s_l_bent) .none kV11 dc11 pm11 an11 cd11 ct11), sl11⟩) (c11 : PySem.W.codeIn K cd11 "_law_bent" = true) (k11 : PySem.W.keepIn K (.ref f11) = true)
    (a12 : PySem.W.nsIn K mainGlobals "_law_first_bad" = some (some (.ref f12))) (l12 : K.lookup f12 = some ⟨oc12, od12, .func (PySem.W.fnOf "_law_first_bad" "_law_first_bad" (defArgs s_l_first_bad) (defBody s_l_first_bad) (defScope s_l_first_bad) .none kV12 dc12 pm12 an12 cd12 ct12), sl12⟩) (c12 : PySem.W.codeIn K cd12 "_law_first_bad" = true) (k12 : PySem.W.keepIn K (.ref f12) = true)
    (a13 : PySem.W.nsIn K mainGlobals "_law_replaced" = some (some (.ref f13))) (l13 : K.lookup f13 = some ⟨oc13, od13, .func (PySem.W.fnOf "_law_replaced" "_law_replaced" (defArgs s_l_replaced) (defBody s_l_replaced) (defScope s_l_replaced) .none kV13 dc13 pm13 an13 cd13 ct13), sl13⟩) (c13 : PySem.W.codeIn K cd13 "_law_replaced" = true) (k13 : PySem.W.keepIn K (.ref f13) = true)
    (a14 : PySem.W.nsIn K mainGlobals "_law_back" = some (some (.ref f14))) (l14 : K.lookup f14 = some ⟨oc14, od14, .func (PySem.W.fnOf "_law_back" "_law_back" (defArgs s_l_back) (defBody s_l_back) (defScope s_l_back) .none kV14 dc14 pm14 an14 cd14 ct14), sl14⟩) (c14 : PySem.W.codeIn K cd14 "_law_back" = true) (k14 : PySem.W.keepIn K (.ref f14) = true)
    (a15 : PySem.W.nsIn K mainGlobals "_law_applies" = some (some (.ref f15))) (l15 : K.lookup f15 = some ⟨oc15, od15, .func (PySem.W.fnOf "_law_applies" "_law_applies" (defArgs s_l_applies) (defBody s_l_applies) (defScope s_l_applies) .none kV15 dc15 pm15 an15 cd15 ct15), sl15⟩) (c15 : PySem.W.codeIn K cd15 "_law_applies" = true) (k15 : PySem.W.keepIn K (.ref f15) = true)
    (a16 : PySem.W.nsIn K mainGlobals "_law_turns" = some (some (.ref f16))) (l16 : K.lookup f16 = some ⟨oc16, od16, .func (PySem.W.fnOf "_law_turns" "_law_turns" (defArgs s_l_turns) (defBody s_l_turns) (defScope s_l_turns) .none kV16 dc16 pm16 an16 cd16 ct16), sl16⟩) (c16 : PySem.W.codeIn K cd16 "_law_turns" = true) (k16 : PySem.W.keepIn K (.ref f16) = true)
    (a17 : PySem.W.nsIn K mainGlobals "law" = some (some (.ref f17))) (l17 : K.lookup f17 = some ⟨oc17, od17, .func (PySem.W.fnOf "law" "law" (defArgs s_law) (defBody s_law) (defScope s_law) .none kV17 dc17 pm17 an17 cd17 ct17), sl17⟩) (c17 : PySem.W.codeIn K cd17 "law" = true) (k17 : PySem.W.keepIn K (.ref f17) = true)
    (ac_PartError : PySem.W.nsIn K mainGlobals "PartError" = some (some (.ref c_PartError)))
    (ec_PartError : PySem.W.subIn K (.ref c_PartError) (.type "BaseException") = some true)
    (tc_PartError : PySem.W.typeIn K (.ref c_PartError) = some (.type "type"))
    (ic_PartError : PySem.W.isClsIn K c_PartError = true)
    (ac_BadText : PySem.W.nsIn K mainGlobals "BadText" = some (some (.ref c_BadText)))
    (ec_BadText : PySem.W.subIn K (.ref c_BadText) (.type "BaseException") = some true)
    (tc_BadText : PySem.W.typeIn K (.ref c_BadText) = some (.type "type"))
    (ic_BadText : PySem.W.isClsIn K c_BadText = true)
    (ac_BadEdit : PySem.W.nsIn K mainGlobals "BadEdit" = some (some (.ref c_BadEdit)))
    (ec_BadEdit : PySem.W.subIn K (.ref c_BadEdit) (.type "BaseException") = some true)
    (tc_BadEdit : PySem.W.typeIn K (.ref c_BadEdit) = some (.type "type"))
    (ic_BadEdit : PySem.W.isClsIn K c_BadEdit = true)
    {nm_BadEdit q_BadEdit : Str} {ns_BadEdit : Addr} {bs_BadEdit : List Value} {sn_BadEdit : List Str} {sub_BadEdit : List Value} {ab_BadEdit : Bool} {col_BadEdit : Option Bool} {dd_BadEdit : Option Addr} {m0_BadEdit m1_BadEdit m2_BadEdit m3_BadEdit m5_BadEdit : Option Value}
    (xL_BadEdit : K.lookup c_BadEdit = some (excClassObj nm_BadEdit q_BadEdit c_BadEdit ns_BadEdit bs_BadEdit [.ref c_PartError, .type "ValueError", .type "Exception", .type "BaseException", .type "object"] true sn_BadEdit sub_BadEdit ab_BadEdit col_BadEdit dd_BadEdit m0_BadEdit m1_BadEdit m2_BadEdit m3_BadEdit m5_BadEdit "ValueError.__new__"))
    (sa_BadEdit : PySem.W.findIn K (.ref c_BadEdit) "__setattr__" = some (some (.builtin "object.__setattr__")))
    (ga_BadEdit : PySem.W.findIn K (.ref c_BadEdit) "__getattribute__" = some (some (.builtin "BaseException.__getattribute__")))
    (gg_BadEdit : PySem.W.findIn K (.ref c_BadEdit) "__getattr__" = some none)
    (gk_BadEdit : PySem.W.findIn K (.ref c_BadEdit) "__class__" = some (some (.builtin "object.__class__")))
    (gm_BadEdit : PySem.W.mroIn K c_BadEdit (.type "object") = some true)
    (n_place_BadEdit : PySem.W.findIn K (.ref c_BadEdit) "place" = some none)
    (ai_BadEdit : PySem.W.findIn K (.ref c_BadEdit) "__init__" = some (some (.ref fi_BadEdit)))
    (ti_BadEdit : PySem.W.typeIn K (.ref fi_BadEdit) = some (.type "function"))
    {odi_BadEdit ani_BadEdit : Option Addr} {sli_BadEdit : Array (Option Value)} {oci_BadEdit kVi_BadEdit dci_BadEdit pmi_BadEdit cdi_BadEdit cti_BadEdit : Value}
    (li_BadEdit : K.lookup fi_BadEdit = some ⟨oci_BadEdit, odi_BadEdit, .func (PySem.W.fnOf "__init__" "BadEdit.__init__" (defArgs (inClass (topS 3) 0)) (defBody (inClass (topS 3) 0)) (defScope (inClass (topS 3) 0)) .none kVi_BadEdit dci_BadEdit pmi_BadEdit ani_BadEdit cdi_BadEdit cti_BadEdit), sli_BadEdit⟩)
    (ci_BadEdit : PySem.W.codeIn K cdi_BadEdit "BadEdit.__init__" = true)
    (ki_BadEdit : PySem.W.keepIn K (.ref fi_BadEdit) = true)
    (kc_BadEdit : PySem.W.keepIn K (.ref c_BadEdit) = true)
    (hc_BadEdit : PySem.W.hasDictIn K c_BadEdit = true)
    (ac_Misfit : PySem.W.nsIn K mainGlobals "Misfit" = some (some (.ref c_Misfit)))
    (ec_Misfit : PySem.W.subIn K (.ref c_Misfit) (.type "BaseException") = some true)
    (tc_Misfit : PySem.W.typeIn K (.ref c_Misfit) = some (.type "type"))
    (ic_Misfit : PySem.W.isClsIn K c_Misfit = true)
    (ss_BadEdit_BadEdit : PySem.W.subIn K (.ref c_BadEdit) (.ref c_BadEdit) = some true)
    (ss_BadEdit_BadText : PySem.W.subIn K (.ref c_BadEdit) (.ref c_BadText) = some false)
    (ss_BadEdit_Misfit : PySem.W.subIn K (.ref c_BadEdit) (.ref c_Misfit) = some false)
    (ss_BadEdit_PartError : PySem.W.subIn K (.ref c_BadEdit) (.ref c_PartError) = some true)
    (sv_BadEdit : PySem.W.subIn K (.ref c_BadEdit) (.type "ValueError") = some true)
    (xn : PySem.W.specialIn K (.builtin "object.__class__") "__get__" = some (some (.builtin "getset_descriptor.__get__"))) (xt : PySem.W.takesIn K (.builtin "object.__class__") = some true)
    (z_ValueError : PySem.W.nsIn K mainGlobals "ValueError" = some none)
    (z_abs : PySem.W.nsIn K mainGlobals "abs" = some none)
    (z_bool : PySem.W.nsIn K mainGlobals "bool" = some none)
    (z_enumerate : PySem.W.nsIn K mainGlobals "enumerate" = some none)
    (z_int : PySem.W.nsIn K mainGlobals "int" = some none)
    (z_isinstance : PySem.W.nsIn K mainGlobals "isinstance" = some none)
    (z_len : PySem.W.nsIn K mainGlobals "len" = some none)
    (z_list : PySem.W.nsIn K mainGlobals "list" = some none)
    (z_max : PySem.W.nsIn K mainGlobals "max" = some none)
    (z_range : PySem.W.nsIn K mainGlobals "range" = some none)
    (z_str : PySem.W.nsIn K mainGlobals "str" = some none)
    (z_tuple : PySem.W.nsIn K mainGlobals "tuple" = some none)
    {ut_LAST_PLACE : Tok} (y_LAST_PLACE : PySem.W.nsIn K mainGlobals "LAST_PLACE" = some (some (.int 400 ut_LAST_PLACE))) :
    ∃ fd : FuncData, (∀ (s : Shared) (v : Value), BindsTo s fd ⟨[v], []⟩ [("script", v)]) ∧ ∀ base : Heap, K.In base → base.Ns mainGlobals mg → FnOk l.prog w K mg base CX0 8 fa fd ["script"] (sp_law K) := by
  have e := hfa.symm.trans (PySem.W.mg_of X G a17)
  cases e
  have F1 := fun_mk (st := s_follows) l1 c1 k1
  have b1 := F1.binds (ps := ["item", "end"]) fun _ _ _ _ _ _ us hl => match us, hl with | [_, _], _ => rfl
  have F2 := fun_mk (st := s_fits) l2 c2 k2
  have b2 := F2.binds (ps := ["old", "edit"]) fun _ _ _ _ _ _ us hl => match us, hl with | [_, _], _ => rfl
  have F3 := fun_mk (st := s_end_of) l3 c3 k3
  have b3 := F3.binds (ps := ["edit"]) fun _ _ _ _ _ _ us hl => match us, hl with | [_], _ => rfl
  have F4 := fun_mk (st := s_apply_edits) l4 c4 k4
  have b4 := F4.binds (ps := ["old", "edits"]) fun _ _ _ _ _ _ us hl => match us, hl with | [_, _], _ => rfl
  have F5 := fun_mk (st := s_inverse_edits) l5 c5 k5
  have b5 := F5.binds (ps := ["edits"]) fun _ _ _ _ _ _ us hl => match us, hl with | [_], _ => rfl
  have F6 := fun_mk (st := s_l_feed) l6 c6 k6
  have b6 := F6.binds (ps := ["script"]) fun _ _ _ _ _ _ us hl => match us, hl with | [_], _ => rfl
  have F7 := fun_mk (st := s_l_next) l7 c7 k7
  have b7 := F7.binds (ps := ["cells", "many"]) fun _ _ _ _ _ _ us hl => match us, hl with | [_, _], _ => rfl
  have F8 := fun_mk (st := s_l_same) l8 c8 k8
  have b8 := F8.binds (ps := ["told", "due"]) fun _ _ _ _ _ _ us hl => match us, hl with | [_, _], _ => rfl
  have F9 := fun_mk (st := s_l_menu) l9 c9 k9
  have b9 := F9.binds (ps := ["place"]) fun _ _ _ _ _ _ us hl => match us, hl with | [_], _ => rfl
  have F10 := fun_mk (st := s_l_good) l10 c10 k10
  have b10 := F10.binds (ps := ["cells", "text", "lines"]) fun _ _ _ _ _ _ us hl => match us, hl with | [_, _, _], _ => rfl
  have F11 := fun_mk (st := s_l_bent) l11 c11 k11
  have b11 := F11.binds (ps := ["cells", "text", "lines", "good"]) fun _ _ _ _ _ _ us hl => match us, hl with | [_, _, _, _], _ => rfl
  have F12 := fun_mk (st := s_l_first_bad) l12 c12 k12
  have b12 := F12.binds (ps := ["text", "edits"]) fun _ _ _ _ _ _ us hl => match us, hl with | [_, _], _ => rfl
  have F13 := fun_mk (st := s_l_replaced) l13 c13 k13
  have b13 := F13.binds (ps := ["text", "edits"]) fun _ _ _ _ _ _ us hl => match us, hl with | [_, _], _ => rfl
  have F14 := fun_mk (st := s_l_back) l14 c14 k14
  have b14 := F14.binds (ps := ["edits"]) fun _ _ _ _ _ _ us hl => match us, hl with | [_], _ => rfl
  have F15 := fun_mk (st := s_l_applies) l15 c15 k15
  have b15 := F15.binds (ps := ["text", "edits"]) fun _ _ _ _ _ _ us hl => match us, hl with | [_, _], _ => rfl
  have F16 := fun_mk (st := s_l_turns) l16 c16 k16
  have b16 := F16.binds (ps := ["edits"]) fun _ _ _ _ _ _ us hl => match us, hl with | [_], _ => rfl
  have F17 := fun_mk (st := s_law) l17 c17 k17
  have b17 := F17.binds (ps := ["script"]) fun _ _ _ _ _ _ us hl => match us, hl with | [_], _ => rfl
  have Fi_BadEdit := fun_mk (st := inClass (topS 3) 0) li_BadEdit ci_BadEdit ki_BadEdit
  have bi_BadEdit := Fi_BadEdit.binds (ps := ["self", "place"]) fun _ _ _ _ _ _ us hl => match us, hl with | [_, _], _ => rfl
  exact ⟨_, fun s v => .of_eq rfl, fun base _ _ => ok_law ⟨_, _, F1, PySem.W.mg_of X G a1, b1, _, _, F2, PySem.W.mg_of X G a2, b2, _, _, F3, PySem.W.mg_of X G a3, b3, _, _, F4, PySem.W.mg_of X G a4, b4, _, _, F5, PySem.W.mg_of X G a5, b5, _, _, F6, PySem.W.mg_of X G a6, b6, _, _, F7, PySem.W.mg_of X G a7, b7, _, _, F8, PySem.W.mg_of X G a8, b8, _, _, F9, PySem.W.mg_of X G a9, b9, _, _, F10, PySem.W.mg_of X G a10, b10, _, _, F11, PySem.W.mg_of X G a11, b11, _, _, F12, PySem.W.mg_of X G a12, b12, _, _, F13, PySem.W.mg_of X G a13, b13, _, _, F14, PySem.W.mg_of X G a14, b14, _, _, F15, PySem.W.mg_of X G a15, b15, _, _, F16, PySem.W.mg_of X G a16, b16, _, _, F17, PySem.W.mg_of X G a17, b17, c_PartError, PySem.W.mg_of X G ac_PartError, c_BadText, PySem.W.mg_of X G ac_BadText, c_BadEdit, PySem.W.mg_of X G ac_BadEdit, fi_BadEdit, _, Fi_BadEdit, bi_BadEdit, ⟨⟨_, _, _, _, _, _, _, _, _, _, _, _, _, _, _, xL_BadEdit, by rfl⟩, sa_BadEdit, ec_BadEdit, tc_BadEdit, kc_BadEdit⟩, ai_BadEdit, ti_BadEdit, n_place_BadEdit, ⟨ga_BadEdit, gg_BadEdit, ec_BadEdit, hc_BadEdit⟩, ⟨by unfold PySem.W.clsIn; rw [xL_BadEdit] <;> rfl, ga_BadEdit, gg_BadEdit, ec_BadEdit, hc_BadEdit, gk_BadEdit, xn, xt, gm_BadEdit⟩, c_Misfit, PySem.W.mg_of X G ac_Misfit, exm_own ec_BadEdit ic_BadEdit tc_BadEdit ss_BadEdit_BadEdit, kit_own ss_BadEdit_BadEdit ss_BadEdit_BadText ic_BadText tc_BadText, kit_own ss_BadEdit_BadEdit ss_BadEdit_Misfit ic_Misfit tc_Misfit, kit_own ss_BadEdit_BadEdit ss_BadEdit_PartError ic_PartError tc_PartError, kit_ve sv_BadEdit, PySem.W.mg_none_of X G z_ValueError, PySem.W.mg_none_of X G z_abs, PySem.W.mg_none_of X G z_bool, PySem.W.mg_none_of X G z_enumerate, PySem.W.mg_none_of X G z_int, PySem.W.mg_none_of X G z_isinstance, PySem.W.mg_none_of X G z_len, PySem.W.mg_none_of X G z_list, PySem.W.mg_none_of X G z_max, PySem.W.mg_none_of X G z_range, PySem.W.mg_none_of X G z_str, PySem.W.mg_none_of X G z_tuple, ⟨_, PySem.W.mg_of X G y_LAST_PLACE, _, rfl⟩⟩⟩
end K02
open PySem PySem.W PyProof.Rows
set_option maxHeartbeats 0 in
theorem PySem.Challenge.cw_partclones_k02_edits_refused_holds : PySem.Challenge.rw_partclones_k02_edits_refused.Holds := by
  w_on; o_law; k_head; (case hw => w_witness2)
  k_fill
  refine L2.walk_of (l := PySem.Challenge.rw_partclones_k02_edits_refused) (n := 63) (k := 8) (x := "script") (CX := fun _ => L2.CX0) (sp := fun w => K02.sp_law _) rfl (by decide) rfl ⟨rfl, by decide, by decide⟩ (fun w h Y => PySem.W.kIn_of Y) ?F (fun _ H a ns hl _ hS => K02.sp_law_start hl hS) (fun _ _ _ _ _ h => h)
  case F =>
    intro w mg fa h KX G hmg
    refine' K02.all_mk KX G hmg ?a1 ?l1 ?c1 ?k1 ?a2 ?l2 ?c2 ?k2 ?a3 ?l3 ?c3 ?k3 ?a4 ?l4 ?c4 ?k4 ?a5 ?l5 ?c5 ?k5 ?a6 ?l6 ?c6 ?k6 ?a7 ?l7 ?c7 ?k7 ?a8 ?l8 ?c8 ?k8 ?a9 ?l9 ?c9 ?k9 ?a10 ?l10 ?c10 ?k10 ?a11 ?l11 ?c11 ?k11 ?a12 ?l12 ?c12 ?k12 ?a13 ?l13 ?c13 ?k13 ?a14 ?l14 ?c14 ?k14 ?a15 ?l15 ?c15 ?k15 ?a16 ?l16 ?c16 ?k16 ?a17 ?l17 ?c17 ?k17 ?ac_PartError ?ec_PartError ?tc_PartError ?ic_PartError ?ac_BadText ?ec_BadText ?tc_BadText ?ic_BadText ?ac_BadEdit ?ec_BadEdit ?tc_BadEdit ?ic_BadEdit ?xL_BadEdit ?sa_BadEdit ?ga_BadEdit ?gg_BadEdit ?gk_BadEdit ?gm_BadEdit ?n_place_BadEdit ?ai_BadEdit ?ti_BadEdit ?li_BadEdit ?ci_BadEdit ?ki_BadEdit ?kc_BadEdit ?hc_BadEdit ?ac_Misfit ?ec_Misfit ?tc_Misfit ?ic_Misfit ?ss_BadEdit_BadEdit ?ss_BadEdit_BadText ?ss_BadEdit_Misfit ?ss_BadEdit_PartError ?sv_BadEdit ?xn ?xt ?z_ValueError ?z_abs ?z_bool ?z_enumerate ?z_int ?z_isinstance ?z_len ?z_list ?z_max ?z_range ?z_str ?z_tuple ?y_LAST_PLACE
    (case a1 => k_is)
    (case l1 => k_is)
    (case c1 => k_is)
    (case k1 => k_is)
    (case a2 => k_is)
    (case l2 => k_is)
    (case c2 => k_is)
    (case k2 => k_is)
    (case a3 => k_is)
    (case l3 => k_is)
    (case c3 => k_is)
    (case k3 => k_is)
    (case a4 => k_is)
    (case l4 => k_is)
    (case c4 => k_is)
    (case k4 => k_is)
    (case a5 => k_is)
    (case l5 => k_is)
    (case c5 => k_is)
    (case k5 => k_is)
    (case a6 => k_is)
    (case l6 => k_is)
    (case c6 => k_is)
    (case k6 => k_is)
    (case a7 => k_is)
    (case l7 => k_is)
    (case c7 => k_is)
    (case k7 => k_is)
    (case a8 => k_is)
    (case l8 => k_is)
    (case c8 => k_is)
    (case k8 => k_is)
    (case a9 => k_is)
    (case l9 => k_is)
    (case c9 => k_is)
    (case k9 => k_is)
    (case a10 => k_is)
    (case l10 => k_is)
    (case c10 => k_is)
    (case k10 => k_is)
    (case a11 => k_is)
    (case l11 => k_is)
    (case c11 => k_is)
    (case k11 => k_is)
    (case a12 => k_is)
    (case l12 => k_is)
    (case c12 => k_is)
    (case k12 => k_is)
    (case a13 => k_is)
    (case l13 => k_is)
    (case c13 => k_is)
    (case k13 => k_is)
    (case a14 => k_is)
    (case l14 => k_is)
    (case c14 => k_is)
    (case k14 => k_is)
    (case a15 => k_is)
    (case l15 => k_is)
    (case c15 => k_is)
    (case k15 => k_is)
    (case a16 => k_is)
    (case l16 => k_is)
    (case c16 => k_is)
    (case k16 => k_is)
    (case a17 => k_is)
    (case l17 => k_is)
    (case c17 => k_is)
    (case k17 => k_is)
    (case ac_PartError => k_is)
    (case ec_PartError => k_is)
    (case tc_PartError => k_is)
    (case ic_PartError => k_is)
    (case ac_BadText => k_is)
    (case ec_BadText => k_is)
    (case tc_BadText => k_is)
    (case ic_BadText => k_is)
    (case ac_BadEdit => k_is)
    (case ec_BadEdit => k_is)
    (case tc_BadEdit => k_is)
    (case ic_BadEdit => k_is)
    (case xL_BadEdit => k_is)
    (case sa_BadEdit => k_is)
    (case ga_BadEdit => k_is)
    (case gg_BadEdit => k_is)
    (case gk_BadEdit => k_is)
    (case gm_BadEdit => k_is)
    (case n_place_BadEdit => k_is)
    (case ai_BadEdit => k_is)
    (case ti_BadEdit => k_is)
    (case li_BadEdit => k_is)
    (case ci_BadEdit => k_is)
    (case ki_BadEdit => k_is)
    (case kc_BadEdit => k_is)
    (case hc_BadEdit => k_is)
    (case ac_Misfit => k_is)
    (case ec_Misfit => k_is)
    (case tc_Misfit => k_is)
    (case ic_Misfit => k_is)
    (case ss_BadEdit_BadEdit => k_is)
    (case ss_BadEdit_BadText => k_is)
    (case ss_BadEdit_Misfit => k_is)
    (case ss_BadEdit_PartError => k_is)
    (case sv_BadEdit => k_is)
    (case xn => k_is)
    (case xt => k_is)
    (case z_ValueError => k_is)
    (case z_abs => k_is)
    (case z_bool => k_is)
    (case z_enumerate => k_is)
    (case z_int => k_is)
    (case z_isinstance => k_is)
    (case z_len => k_is)
    (case z_list => k_is)
    (case z_max => k_is)
    (case z_range => k_is)
    (case z_str => k_is)
    (case z_tuple => k_is)
    (case y_LAST_PLACE => k_is)

