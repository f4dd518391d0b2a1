import PyProof.Rows.All
import Wide.All
import OpenK.AllK
import Wide.FinOn
import HandS.ForMost
import HandS.Small
import HandS.Style
import HandS.Flow
import HandS.Deep
import HandS.IsInst
import HandS.More
import HandS.Star
import HandS.Ends
import PySem.Challenge.RW_partclones_k04_merge_unlike_lines
set_option Elab.async false
set_option linter.all false
set_option maxRecDepth 100000
namespace Qk
open PySem PySem.Spec PyProof.Rows L2

/-! ### heaps -/
abbrev Own := List (Addr × HO)
structure Has (F : Hp) (O : Own) (H : Hp) : Prop where
  same : Same F H
  own : ∀ p ∈ O, F p.1 = none ∧ H p.1 = some p.2
  nd : (O.map (·.1)).Nodup

/-- O with the object at a changed from o to o' -/
inductive Chg : Own → Addr → HO → HO → Own → Prop
  | hd {a : Addr} {o o' : HO} {O : Own} : Chg ((a, o) :: O) a o o' ((a, o') :: O)
  | tl {a : Addr} {o o' : HO} {O O' : Own} {x : Addr × HO} : Chg O a o o' O' → Chg (x :: O) a o o' (x :: O')
theorem Chg.mem {O O' : Own} {a : Addr} {o o' : HO} (c : Chg O a o o' O') : (a, o) ∈ O := by
  induction c with
  | hd => exact List.Mem.head _
  | tl _ ih => exact List.Mem.tail _ ih
theorem Chg.fst {O O' : Own} {a : Addr} {o o' : HO} (c : Chg O a o o' O') : O'.map (·.1) = O.map (·.1) := by
  induction c with
  | hd => rfl
  | tl _ ih => rw [List.map_cons, List.map_cons, ih]
theorem Chg.own {O O' : Own} {a : Addr} {o o' : HO} (c : Chg O a o o' O') (nd : (O.map (·.1)).Nodup) : ∀ p ∈ O', p = (a, o') ∨ (p ∈ O ∧ p.1 ≠ a) := by
  induction c with
  | @hd a o o' O =>
    intro p hp
    rw [List.map_cons] at nd
    have nm := (List.nodup_cons.mp nd).1
    rcases List.mem_cons.mp hp with e | hp
    · exact .inl e
    · refine .inr ⟨List.mem_cons_of_mem _ hp, fun e => nm ?_⟩
      exact List.mem_map.mpr ⟨p, hp, e⟩
  | @tl a o o' O O' x c ih =>
    intro p hp
    rw [List.map_cons] at nd
    have nm := List.nodup_cons.mp nd
    rcases List.mem_cons.mp hp with e | hp
    · subst e
      refine .inr ⟨List.mem_cons_self, fun e => nm.1 ?_⟩
      rw [e]
      exact List.mem_map.mpr ⟨_, c.mem, rfl⟩
    · rcases ih nm.2 p hp with e | ⟨e, ne⟩
      · exact .inl e
      · exact .inr ⟨List.mem_cons_of_mem _ e, ne⟩

section
variable {F F' : Hp} {O O' : Own} {H H' : Hp} {a p : Addr} {o o' : HO} {K : PySem.W.Frag} {xs : List V}
theorem Has.start (H : Hp) : Has H [] H := ⟨Same.refl H, fun _ h => (List.not_mem_nil h).elim, List.nodup_nil⟩
theorem Has.get (h : Has F O H) (m : (a, o) ∈ O) : H a = some o := (h.own _ m).2
theorem Has.but (h : Has F O H) (c : Chg O a o o' O') (s : ∀ b u, b ≠ a → H b = some u → H' b = some u) (e : H' a = some o') : Has F O' H' := by
  have fa : F a = none := (h.own _ c.mem).1
  refine ⟨fun b u q => s b u (fun z => by rw [z, fa] at q; cases q) (h.same b u q), fun q hq => ?_, by rw [c.fst]; exact h.nd⟩
  rcases c.own h.nd q hq with rfl | ⟨m, ne⟩
  · exact ⟨fa, e⟩
  · exact ⟨(h.own _ m).1, s _ _ ne (h.own _ m).2⟩
theorem Has.put (h : Has F O H) (c : Chg O a o o' O') : Has F O' (upd H a o') := h.but c (fun b u ne q => by rw [upd_ne ne]; exact q) upd_same
theorem Has.on (h : Has F O H) (s : Same H H') : Has F O H' := ⟨h.same.trans s, fun q hq => ⟨(h.own q hq).1, s _ _ (h.own q hq).2⟩, h.nd⟩
theorem Has.made (h : Has F O H) (n : H p = none) (s : Same H H') (e : H' p = some o) : Has F ((p, o) :: O) H' := by
  refine ⟨h.same.trans s, fun q hq => ?_, ?_⟩
  · rcases List.mem_cons.mp hq with rfl | hq
    · exact ⟨h.same.free n, e⟩
    · exact ⟨(h.own q hq).1, s _ _ (h.own q hq).2⟩
  · rw [List.map_cons]
    refine List.nodup_cons.mpr ⟨fun m => ?_, h.nd⟩
    obtain ⟨q, hq, e'⟩ := List.mem_map.mp m
    have z := (h.own q hq).2
    rw [e', n] at z
    cases z
theorem same_upd (n : H p = none) : Same H (upd H p o) := fun b u q => by
  rw [upd_ne (ne_of_none q n)]
  exact q
theorem Has.new (h : Has F O H) (n : H p = none) : Has F ((p, o) :: O) (upd H p o) := h.made n (same_upd n) upd_same
theorem Has.drop {x : Addr × HO} (h : Has F (x :: O) H) : Has F O H := ⟨h.same, fun q hq => h.own q (List.mem_cons_of_mem _ hq), (List.nodup_cons.mp (by have := h.nd; rw [List.map_cons] at this; exact this)).2⟩
theorem Has.sub (h : Has F O H) (s : O'.Sublist O) : Has F O' H := ⟨h.same, fun q hq => h.own q (s.subset hq), (s.map _).nodup h.nd⟩
theorem Has.perm (h : Has F O H) (s : O'.Perm O) : Has F O' H := ⟨h.same, fun q hq => h.own q (s.subset hq), (s.map _).nodup_iff.mpr h.nd⟩
/-- the first owned object stands still from now on -/
theorem Has.frz (h : Has F ((p, o) :: O) H) : Has (upd F p o) O H := by
  have hp := h.own (p, o) List.mem_cons_self
  have nd : p ∉ O.map (·.1) ∧ (O.map (·.1)).Nodup := List.nodup_cons.mp (by have := h.nd; rw [List.map_cons] at this; exact this)
  refine ⟨fun b u q => ?_, fun q hq => ⟨?_, (h.own q (List.mem_cons_of_mem _ hq)).2⟩, nd.2⟩
  · by_cases e : b = p
    · subst e
      rw [upd_same] at q
      cases q
      exact hp.2
    · rw [upd_ne e] at q
      exact h.same b u q
  · rw [upd_ne (fun z => nd.1 (List.mem_map.mpr ⟨q, hq, z⟩))]
    exact (h.own q (List.mem_cons_of_mem _ hq)).1
theorem Has.free (h : Has F ((p, o) :: O) H) : F p = none := (h.own _ List.mem_cons_self).1
theorem Has.grow (h : Has F ((p, o) :: O) H) : Same F (upd F p o) := same_upd h.free
/-- all stands still from now on -/
theorem Has.all (h : Has F O H) : Has H [] H := Has.start H
/-- F grown by what O knows nothing of -/
theorem Has.up (h : Has F O H) (s2 : Same F' H') (s : Same H H') (d : ∀ p ∈ O, F' p.1 = none) : Has F' O H' :=
  ⟨s2, fun q hq => ⟨d q hq, s _ _ (h.own q hq).2⟩, h.nd⟩
theorem Has.sqO (h : Has F O H) (m : (a, .lst xs) ∈ O) : SqL K H a xs := SqL.of (h.get m)
theorem Has.sqF (h : Has F O H) (m : SqL K F a xs) : SqL K H a xs := h.same.seq m
theorem Same.tup {K : PySem.W.Frag} (e : Same H H') (h : SqT K H a xs) : SqT K H' a xs := by
  rcases h with (h | ⟨o, h⟩) | h
  · exact .inl (.inl (e _ _ h))
  · exact .inl (.inr ⟨o, e _ _ h⟩)
  · exact .inr h
theorem Has.stF (h : Has F O H) (m : SqT K F a xs) : SqT K H a xs := Same.tup h.same m
theorem Has.stO (h : Has F O H) (m : (a, .tup xs) ∈ O) : SqT K H a xs := SqT.of (h.get m)
end

/-! ### data -/
mutual
inductive Dq (H : Hp) : V → PyData → Prop
  | non : Dq H .non .none
  | bl (b : Bool) : Dq H (.bl b) (.bool b)
  | int (i : Int) : Dq H (.int i) (.int i)
  | str (x : Str) : Dq H (.str x) (.str x)
  | lst {a : Addr} {xs : List V} {ds : List PyData} : H a = some (.lst xs) → DqAll H xs ds → Dq H (.ref a) (.list ds)
  | tup {a : Addr} {xs : List V} {ds : List PyData} : H a = some (.tup xs) → DqAll H xs ds → Dq H (.ref a) (.tuple ds)
inductive DqAll (H : Hp) : List V → List PyData → Prop
  | nil : DqAll H [] []
  | cons {v : V} {vs : List V} {d : PyData} {ds : List PyData} : Dq H v d → DqAll H vs ds → DqAll H (v :: vs) (d :: ds)
end
mutual
theorem Dq.up {H H' : Hp} (e : Same H H') : ∀ (d : PyData) (v : V), Dq H v d → Dq H' v d
  | _, _, .non => .non
  | _, _, .bl b => .bl b
  | _, _, .int i => .int i
  | _, _, .str x => .str x
  | .list ds, _, .lst s a => .lst (e _ _ s) (DqAll.up e ds _ a)
  | .tuple ds, _, .tup s a => .tup (e _ _ s) (DqAll.up e ds _ a)
theorem DqAll.up {H H' : Hp} (e : Same H H') : ∀ (ds : List PyData) (vs : List V), DqAll H vs ds → DqAll H' vs ds
  | _, _, .nil => .nil
  | d :: ds, _, .cons h t => .cons (Dq.up e d _ h) (DqAll.up e ds _ t)
end
mutual
theorem Dq.dp (K : PySem.W.Frag) {H : Hp} : ∀ (d : PyData) (v : V), Dq H v d → Dp K H v d
  | _, _, .non => .non
  | _, _, .bl b => .bl b
  | _, _, .int i => .int i
  | _, _, .str x => .str x
  | .list ds, _, .lst s a => .lst (SqL.of s) (DqAll.dp K ds _ a)
  | .tuple ds, _, .tup s a => .tup (SqT.of s) (DqAll.dp K ds _ a)
theorem DqAll.dp (K : PySem.W.Frag) {H : Hp} : ∀ (ds : List PyData) (vs : List V), DqAll H vs ds → DpAll K H vs ds
  | _, _, .nil => .nil
  | d :: ds, _, .cons h t => .cons (Dq.dp K d _ h) (DqAll.dp K ds _ t)
end
theorem DqAll.len {H : Hp} : ∀ {vs : List V} {ds : List PyData}, DqAll H vs ds → vs.length = ds.length
  | _, _, .nil => rfl
  | _, _, .cons _ t => by rw [List.length_cons, List.length_cons, t.len]
theorem DqAll.get {H : Hp} : ∀ {vs : List V} {ds : List PyData} {i : Nat} {v : V}, DqAll H vs ds → vs[i]? = some v → ∃ d, ds[i]? = some d ∧ Dq H v d
  | _, _, _, _, .nil, e => by simp at e
  | _, _, 0, _, .cons h _, e => ⟨_, rfl, by have e' := Option.some.inj e; rw [← e']; exact h⟩
  | _, _, i + 1, _, .cons _ t, e => t.get (i := i) e
theorem DqAll.snoc {H : Hp} : ∀ {vs : List V} {ds : List PyData} {v : V} {d : PyData}, DqAll H vs ds → Dq H v d → DqAll H (vs ++ [v]) (ds ++ [d])
  | _, _, _, _, .nil, h => .cons h .nil
  | _, _, _, _, .cons h t, h' => .cons h (t.snoc h')
theorem DqAll.app {H : Hp} : ∀ {vs ws : List V} {ds es : List PyData}, DqAll H vs ds → DqAll H ws es → DqAll H (vs ++ ws) (ds ++ es)
  | _, _, _, _, .nil, h => h
  | _, _, _, _, .cons h t, h' => .cons h (t.app h')
theorem DqAll.rev {H : Hp} : ∀ {vs : List V} {ds : List PyData}, DqAll H vs ds → DqAll H vs.reverse ds.reverse
  | _, _, .nil => .nil
  | _, _, .cons h t => by
    rw [List.reverse_cons, List.reverse_cons]
    exact t.rev.snoc h
theorem DqAll.strs {H : Hp} : ∀ (xs : List Str), DqAll H (xs.map V.str) (xs.map PyData.str)
  | [] => .nil
  | x :: xs => .cons (.str x) (DqAll.strs xs)
theorem DqAll.ints {H : Hp} : ∀ (xs : List Int), DqAll H (xs.map V.int) (xs.map PyData.int)
  | [] => .nil
  | x :: xs => .cons (.int x) (DqAll.ints xs)
theorem DqAll.of_strs {H : Hp} : ∀ {vs : List V} {xs : List Str}, DqAll H vs (xs.map PyData.str) → vs = xs.map V.str
  | _, [], .nil => rfl
  | _, x :: xs, .cons h t => by
    cases h
    rw [List.map_cons, t.of_strs]
theorem Dq.of_strs {H : Hp} {v : V} {xs : List Str} (h : Dq H v (.list (xs.map PyData.str))) : ∃ a, v = .ref a ∧ H a = some (.lst (xs.map V.str)) := by
  cases h with
  | lst s a =>
    rw [a.of_strs] at s
    exact ⟨_, rfl, s⟩
theorem Dq.strs {H : Hp} {a : Addr} {xs : List Str} (h : H a = some (.lst (xs.map V.str))) : Dq H (.ref a) (.list (xs.map PyData.str)) := .lst h (DqAll.strs xs)
theorem Dq.ints {H : Hp} {a : Addr} {xs : List Int} (h : H a = some (.lst (xs.map V.int))) : Dq H (.ref a) (.list (xs.map PyData.int)) := .lst h (DqAll.ints xs)
theorem Has.gF {F : Hp} {O : Own} {H : Hp} {a : Addr} {o : HO} (h : Has F O H) (e : F a = some o) : H a = some o := h.same _ _ e
theorem Has.dq {F : Hp} {O : Own} {H : Hp} (h : Has F O H) {v : V} {d : PyData} (p : Dq F v d) : Dq H v d := p.up h.same d v

/-! ### == of data -/
theorem eqvAll_strs : ∀ xs ys : List Str, PyData.eqvAll (xs.map PyData.str) (ys.map PyData.str) = decide (xs = ys)
  | [], [] => by simp [PyData.eqvAll]
  | [], y :: ys => by simp [PyData.eqvAll]
  | x :: xs, [] => by simp [PyData.eqvAll]
  | x :: xs, y :: ys => by
    rw [List.map_cons, List.map_cons, PyData.eqvAll, eqvAll_strs xs ys, PyData.eqv]
    by_cases h : x = y
    · subst h; simp
    · simp [h]
theorem eqv_strs (xs ys : List Str) : PyData.eqv (.list (xs.map PyData.str)) (.list (ys.map PyData.str)) = decide (xs = ys) := by
  rw [PyData.eqv, eqvAll_strs]
theorem eqvAll_ints : ∀ xs ys : List Int, PyData.eqvAll (xs.map PyData.int) (ys.map PyData.int) = decide (xs = ys)
  | [], [] => by simp [PyData.eqvAll]
  | [], y :: ys => by simp [PyData.eqvAll]
  | x :: xs, [] => by simp [PyData.eqvAll]
  | x :: xs, y :: ys => by
    rw [List.map_cons, List.map_cons, PyData.eqvAll, eqvAll_ints xs ys, PyData.eqv]
    by_cases h : x = y
    · subst h; simp
    · simp [h]
theorem eqv_ints (xs ys : List Int) : PyData.eqv (.list (xs.map PyData.int)) (.list (ys.map PyData.int)) = decide (xs = ys) := by
  rw [PyData.eqv, eqvAll_ints]
theorem canLayAll_mem : ∀ {ds : List PyData}, (∀ d ∈ ds, d.canLay0 = true) → PyData.canLayAll0 ds = true
  | [], _ => rfl
  | d :: ds, h => by
    rw [PyData.canLayAll0, h d List.mem_cons_self, canLayAll_mem fun x hx => h x (List.mem_cons_of_mem _ hx)]
    rfl
theorem depthAll_le {n : Nat} : ∀ {ds : List PyData}, (∀ d ∈ ds, d.depth ≤ n) → PyData.depthAll ds ≤ n
  | [], _ => Nat.zero_le _
  | d :: ds, h => by
    rw [PyData.depthAll]
    exact Nat.max_le.mpr ⟨h d List.mem_cons_self, depthAll_le fun x hx => h x (List.mem_cons_of_mem _ hx)⟩
/-- data of depth n that can be compared -/
def Sh (n : Nat) (d : PyData) : Prop := d.canLay0 = true ∧ d.depth ≤ n
theorem Sh.list {n : Nat} {ds : List PyData} (h : ∀ d ∈ ds, Sh n d) : Sh (n + 1) (.list ds) := by
  refine ⟨?_, ?_⟩
  · rw [PyData.canLay0]
    exact canLayAll_mem fun d hd => (h d hd).1
  · rw [PyData.depth]
    have := depthAll_le (n := n) fun d hd => (h d hd).2
    omega
theorem Sh.tuple {n : Nat} {ds : List PyData} (h : ∀ d ∈ ds, Sh n d) : Sh (n + 1) (.tuple ds) := by
  refine ⟨?_, ?_⟩
  · rw [PyData.canLay0]
    exact canLayAll_mem fun d hd => (h d hd).1
  · rw [PyData.depth]
    have := depthAll_le (n := n) fun d hd => (h d hd).2
    omega
theorem Sh.ok {n : Nat} {d : PyData} (h : Sh n d) (hn : n ≤ 64) : SeqAt.shaped d = true := by
  unfold SeqAt.shaped
  rw [h.1, Bool.true_and]
  exact decide_eq_true (Nat.le_trans h.2 hn)
theorem Sh.int {n : Nat} (i : Int) : Sh n (.int i) := ⟨rfl, Nat.zero_le _⟩
theorem Sh.non {n : Nat} : Sh n .none := ⟨rfl, Nat.zero_le _⟩
theorem Sh.bl {n : Nat} (b : Bool) : Sh n (.bool b) := ⟨rfl, Nat.zero_le _⟩
theorem Sh.str {n : Nat} {x : Str} (h : PyData.strOk x = true) : Sh n (.str x) := ⟨h, Nat.zero_le _⟩
theorem Sh.strs {n : Nat} {xs : List Str} (h : ∀ x ∈ xs, PyData.strOk x = true) : Sh (n + 1) (.list (xs.map PyData.str)) := Sh.list fun d hd => by
  obtain ⟨x, hx, rfl⟩ := List.mem_map.mp hd
  exact Sh.str (h x hx)
theorem Sh.ints {n : Nat} {xs : List Int} : Sh (n + 1) (.list (xs.map PyData.int)) := Sh.list fun d hd => by
  obtain ⟨x, hx, rfl⟩ := List.mem_map.mp hd
  exact Sh.int x

/-! ### readings, in order -/
def kB (x : V) (H : Hp) (R : Bool → Hp → Prop) : Prop := ∃ k, x = .bl k ∧ R k H
def kTup (xs : List V) (H : Hp) (Q : VK) : Prop := xs.length ≤ sizeLine ∧ ∀ p, H p = none → Q (.ref p) (upd H p (.tup xs))
def kLst (xs : List V) (H : Hp) (Q : VK) : Prop := xs.length ≤ sizeLine ∧ ∀ p, H p = none → Q (.ref p) (upd H p (.lst xs))
def kBM (K : PySem.W.Frag) (T : String) (r : V → List V → Hp → VK → Prop) (t : TA) (σ : L2.St) (x : V) (H : Hp) (Q : VK) : Prop := tyV K T x H ∧ t σ H fun xs H2 => r x xs H2 Q
section
variable {K : PySem.W.Frag} {σ : L2.St} {F : Hp} {O O' : Own} {H : Hp} {Q : VK} {ta tb tc te : TE} {x y v : V} {D : Ends} {t1 t2 : TS}
theorem g_var {i : Nat} (h : σ[i]? = some (some v)) (q : Q v H) : tVar i σ H Q := ⟨v, h, q⟩
theorem g_c (q : Q v H) : tC v σ H Q := q
theorem g_op {r : R2} (q : ta σ H fun x H1 => tb σ H1 fun y H2 => r x y H2 Q) : tOp r ta tb σ H Q := q
theorem g_un {r : V → Hp → VK → Prop} (q : ta σ H fun x H1 => r x H1 Q) : tUn r ta σ H Q := q
theorem g_cons {tr : TA} {QA : List V → Hp → Prop} (q : ta σ H fun x H1 => tr σ H1 fun xs H2 => QA (x :: xs) H2) : tCons ta tr σ H QA := q
theorem g_nil {QA : List V → Hp → Prop} (q : QA [] H) : tNil σ H QA := q
theorem g_cb {r : List V → Hp → VK → Prop} {t : TA} (q : t σ H fun vs H1 => r vs H1 Q) : tCB r t σ H Q := q
theorem g_call {sp : Sp} {E : XK} {t : TA} (q : t σ H fun vs H1 => sp vs H1 Q E) : tCall sp [] E t σ H Q := by
  unfold tCall
  simp only [List.append_nil]
  exact q
theorem g_tup {t : TA} (q : t σ H fun xs H1 => kTup xs H1 Q) : tTup t σ H Q := q
theorem g_lst {t : TA} (q : t σ H fun xs H1 => kLst xs H1 Q) : tLst t σ H Q := q
theorem g_bm {T : String} {r : V → List V → Hp → VK → Prop} {t : TA} (q : ta σ H fun x H1 => kBM K T r t σ x H1 Q) : tBM K T r ta t σ H Q := q
theorem g_bm0 {T : String} {r : V → List V → Hp → VK → Prop} (q : ta σ H fun x H1 => kBM K T r tNil σ x H1 Q) : tBM0 K T r ta σ H Q := q
theorem g_kbm {r : V → List V → Hp → VK → Prop} {t : TA} {a : Addr} {xs : List V} (h : H a = some (.lst xs)) (q : t σ H fun vs H2 => r (.ref a) vs H2 Q) : kBM K "list" r t σ (.ref a) H Q := ⟨.inl ⟨rfl, _, SqL.of h⟩, q⟩
theorem g_ktup {xs : List V} (hl : xs.length ≤ sizeLine) (hH : Has F O H) (q : ∀ p H', H p = none → Has F ((p, .tup xs) :: O) H' → Q (.ref p) H') : kTup xs H Q := ⟨hl, fun p n => q p _ n (hH.new n)⟩
theorem g_klst {xs : List V} (hl : xs.length ≤ sizeLine) (hH : Has F O H) (q : ∀ p H', H p = none → Has F ((p, .lst xs) :: O) H' → Q (.ref p) H') : kLst xs H Q := ⟨hl, fun p n => q p _ n (hH.new n)⟩
/-- a tuple that stands still at once -/
theorem g_ktupF {xs : List V} (hl : xs.length ≤ sizeLine) (hH : Has F O H) (q : ∀ p H' F', H p = none → Same F F' → F' p = some (.tup xs) → Has F' O H' → Q (.ref p) H') : kTup xs H Q :=
  ⟨hl, fun p n => q p _ (upd F p (.tup xs)) n (same_upd (hH.same.free n)) upd_same (hH.new n).frz⟩
theorem g_klstF {xs : List V} (hl : xs.length ≤ sizeLine) (hH : Has F O H) (q : ∀ p H' F', H p = none → Same F F' → F' p = some (.lst xs) → Has F' O H' → Q (.ref p) H') : kLst xs H Q :=
  ⟨hl, fun p n => q p _ (upd F p (.lst xs)) n (same_upd (hH.same.free n)) upd_same (hH.new n).frz⟩
theorem g_seq (h : t1 { D with nx := t2 D } σ H) : tSeq t1 t2 D σ H := h
theorem g_asg {g : TG} (q : te σ H fun x H1 => g x σ H1 D.nx) : tAsg te g D σ H := q
theorem g_name {i : Nat} {R : L2.St → Hp → Prop} (q : R (σ.set i (some v)) H) : gName i v σ H R := q
theorem g_drop (q : te σ H fun _ H1 => D.nx σ H1) : tDrop te D σ H := q
theorem g_ret (q : te σ H fun x H1 => D.rt x H1) : tRet te D σ H := q
theorem g_retN (q : D.rt .non H) : tRetN D σ H := q
theorem g_next (q : D.nx σ H) : tNext D σ H := q
theorem g_brk (q : D.bk σ H) : tBreak D σ H := q
theorem g_cont (q : D.ct σ H) : tCont D σ H := q
theorem g_if {c : TT} (q : c σ H fun b H1 => if b = true then t1 D σ H1 else t2 D σ H1) : tIfS c t1 t2 D σ H := q
theorem g_aug {i : Nat} {ti : TIp} (h : σ[i]? = some (some x)) (q : te σ H fun y H1 => ti x y H1 fun z H2 => D.nx (σ.set i (some z)) H2) : tAug i te ti D σ H := ⟨x, h, q⟩
theorem g_ipI {f : Int → Int → Int} {i j : Int} (q : Q (.int (f i j)) H) : ipI f (.int i) (.int j) H Q := ⟨i, j, rfl, rfl, q⟩
theorem g_test {R : Bool → Hp → Prop} (q : te σ H fun x H1 => kB x H1 R) : tTest te σ H R := q
theorem g_tB {R : Bool → Hp → Prop} (q : te σ H fun x H1 => kB x H1 R) : tB te σ H R := q
theorem g_kB {b : Bool} {R : Bool → Hp → Prop} (q : R b H) : kB (.bl b) H R := ⟨b, rfl, q⟩
theorem g_not {t : TT} {R : Bool → Hp → Prop} (q : t σ H fun c H1 => R (!c) H1) : tNot t σ H R := q
theorem g_and {t u : TT} {R : Bool → Hp → Prop} (q : t σ H fun c H1 => if c = true then u σ H1 R else R false H1) : tAnd t u σ H R := q
theorem g_or {t u : TT} {R : Bool → Hp → Prop} (q : t σ H fun c H1 => if c = true then R true H1 else u σ H1 R) : tOr t u σ H R := q
theorem g_andV (q : ta σ H fun x H1 => kB x H1 fun c H2 => if c = true then tb σ H2 Q else Q (.bl false) H2) : tAndV ta tb σ H Q := q
theorem g_orV (q : ta σ H fun x H1 => kB x H1 fun c H2 => if c = true then Q (.bl true) H2 else tb σ H2 Q) : tOrV ta tb σ H Q := q
theorem g_notV (q : ta σ H fun x H1 => kB x H1 fun c H2 => Q (.bl (!c)) H2) : tNotV ta σ H Q := q
theorem g_ifE {t : TT} (q : t σ H fun c H1 => if c = true then ta σ H1 Q else tb σ H1 Q) : tIf t ta tb σ H Q := q
theorem i_d {c A B : Prop} [Decidable c] (h1 : c → A) (h2 : ¬ c → B) : if decide c = true then A else B := by
  by_cases h : c
  · rw [if_pos (decide_eq_true h)]
    exact h1 h
  · rw [if_neg (by rw [decide_eq_false h]; exact Bool.false_ne_true)]
    exact h2 h
theorem i_n {c A B : Prop} [Decidable c] (h1 : ¬ c → A) (h2 : c → B) : if (!decide c) = true then A else B := by
  by_cases h : c
  · rw [decide_eq_true h, if_neg (by decide)]
    exact h2 h
  · rw [decide_eq_false h, if_pos (by decide)]
    exact h1 h
theorem i_b {b : Bool} {A B : Prop} (h1 : b = true → A) (h2 : b = false → B) : if b = true then A else B := by
  cases b with
  | true => rw [if_pos rfl]; exact h1 rfl
  | false => rw [if_neg Bool.false_ne_true]; exact h2 rfl
theorem i_nb {b : Bool} {A B : Prop} (h1 : b = false → A) (h2 : b = true → B) : if (!b) = true then A else B := by
  cases b with
  | false =>
    show (if true = true then A else B)
    rw [if_pos rfl]
    exact h1 rfl
  | true =>
    show (if false = true then A else B)
    rw [if_neg Bool.false_ne_true]
    exact h2 rfl
/-- a test by its answer -/
theorem g_bool {t : TT} {R : Bool → Hp → Prop} (b : Bool) (h : ∀ R : Bool → Hp → Prop, R b H → t σ H R) (q : R b H) : t σ H R := h R q

/-! ### operators -/
def rAdd (K : PySem.W.Frag) : R2 := fun x y H Q => (rI0 (fun i j => .int (i + j)) x y H Q ∨ ∃ i j, x = .str i ∧ y = .str j ∧ i.length + j.length ≤ sizeLine ∧ Q (.str (i ++ j)) H) ∨ rCat x y H Q ∨ rCatT K x y H Q
theorem g_addI {i j : Int} (q : Q (.int (i + j)) H) : rAdd K (.int i) (.int j) H Q := .inl (.inl ⟨i, j, rfl, rfl, q⟩)
theorem g_addS {i j : Str} (hl : i.length + j.length ≤ sizeLine) (q : Q (.str (i ++ j)) H) : rAdd K (.str i) (.str j) H Q := .inl (.inr ⟨i, j, rfl, rfl, hl, q⟩)
theorem g_addL {a b : Addr} {xs ys : List V} (h1 : H a = some (.lst xs)) (h2 : H b = some (.lst ys)) (hl : xs.length + ys.length ≤ sizeLine) (hH : Has F O H) (q : ∀ p H', H p = none → Has F ((p, .lst (xs ++ ys)) :: O) H' → Q (.ref p) H') : rAdd K (.ref a) (.ref b) H Q :=
  .inr (.inl ⟨a, b, xs, ys, rfl, rfl, h1, h2, hl, fun p n => q p _ n (hH.new n)⟩)
theorem g_rI0 {g : Int → Int → V} {i j : Int} (q : Q (g i j) H) : rI0 g (.int i) (.int j) H Q := ⟨i, j, rfl, rfl, q⟩
theorem g_rI {C : Int → Int → Prop} {g : Int → Int → V} {i j : Int} (hc : C i j) (q : Q (g i j) H) : rI C g (.int i) (.int j) H Q := ⟨i, j, rfl, rfl, hc, q⟩
theorem g_rU {g : Int → V} {i : Int} (q : Q (g i) H) : rU g (.int i) H Q := ⟨i, rfl, q⟩
def rMul : R2 := fun x y H Q => rI CMul (fun i j => .int (i * j)) x y H Q ∨ rRep x y H Q
theorem g_mulI {i j : Int} (hc : CMul i j) (q : Q (.int (i * j)) H) : rMul (.int i) (.int j) H Q := .inl ⟨i, j, rfl, rfl, hc, q⟩
theorem g_mulL {a : Addr} {k : Int} {xs : List V} (h : H a = some (.lst xs)) (h1 : -(2 ^ 63) ≤ k) (h2 : k < 2 ^ 63) (hl : xs.length * k.toNat ≤ sizeLine) (hH : Has F O H)
    (q : ∀ p H', H p = none → Has F ((p, .lst (List.replicate k.toNat xs).flatten) :: O) H' → Q (.ref p) H') : rMul (.ref a) (.int k) H Q := .inr ⟨a, k, xs, rfl, rfl, h, h1, h2, hl, fun p n => q p _ n (hH.new n)⟩
def rEqA (K : PySem.W.Frag) : R2 := fun x y H Q => rEq x y H Q ∨ rEqD K x y H Q
def rNeA (K : PySem.W.Frag) : R2 := fun x y H Q => rNe x y H Q ∨ rNeD K x y H Q
theorem g_eqI {i j : Int} (q : Q (.bl (decide (i = j))) H) : rEqA K (.int i) (.int j) H Q := .inl ⟨rfl, by rw [dec_int, Bool.beq_eq_decide_eq]; exact q⟩
theorem g_eqS {i j : Str} (q : Q (.bl (decide (i = j))) H) : rEqA K (.str i) (.str j) H Q := .inl ⟨rfl, by rw [dec_str, Bool.beq_eq_decide_eq]; exact q⟩
theorem g_neI {i j : Int} (q : Q (.bl (!decide (i = j))) H) : rNeA K (.int i) (.int j) H Q := .inl ⟨rfl, by rw [dec_int, Bool.beq_eq_decide_eq]; exact q⟩
theorem g_neS {i j : Str} (q : Q (.bl (!decide (i = j))) H) : rNeA K (.str i) (.str j) H Q := .inl ⟨rfl, by rw [dec_str, Bool.beq_eq_decide_eq]; exact q⟩
theorem g_eqD {d e : PyData} (hx : Dq H x d) (hy : Dq H y e) (sd : SeqAt.shaped d = true) (se : SeqAt.shaped e = true) (q : Q (.bl (PyData.eqv d e)) H) : rEqA K x y H Q := .inr ⟨d, e, hx.dp K d x, hy.dp K e y, sd, se, q⟩
theorem g_neD {d e : PyData} (hx : Dq H x d) (hy : Dq H y e) (sd : SeqAt.shaped d = true) (se : SeqAt.shaped e = true) (q : Q (.bl (!PyData.eqv d e)) H) : rNeA K x y H Q := .inr ⟨d, e, hx.dp K d x, hy.dp K e y, sd, se, q⟩
def rIsN : R2 := fun x y H Q => y = .non ∧ Q (.bl (decide (x = .non))) H
def rNotN : R2 := fun x y H Q => y = .non ∧ Q (.bl (!decide (x = .non))) H
theorem g_isN (q : Q (.bl (decide (x = .non))) H) : rIsN x .non H Q := ⟨rfl, q⟩
theorem g_notN (q : Q (.bl (!decide (x = .non))) H) : rNotN x .non H Q := ⟨rfl, q⟩
def rIxD : R2 := fun x y H Q => ∃ a v, x = .ref a ∧ DGet H a y (some v) ∧ Q v H
def rIxA (K : PySem.W.Frag) : R2 := fun x y H Q => rIx K x y H Q ∨ rIxD x y H Q
theorem g_ixL {a : Addr} {xs : List V} {i : Int} (h : H a = some (.lst xs)) (ha : atI xs i = some v) (q : Q v H) : rIxA K (.ref a) (.int i) H Q := .inl <| .inl ⟨a, xs, i, v, rfl, rfl, SqL.of h, ha, q⟩
theorem g_ixT {a : Addr} {xs : List V} {i : Int} (h : H a = some (.tup xs)) (ha : atI xs i = some v) (q : Q v H) : rIxA K (.ref a) (.int i) H Q := .inl (.inr (.inl ⟨a, xs, i, v, rfl, rfl, SqT.of h, ha, q⟩))
theorem g_ixS {z : Str} {i : Int} {c : Nat} (hl : z.length ≤ sizeLine) (ha : atI z.cps.toList i = some c) (q : Q (.str ⟨#[c]⟩) H) : rIxA K (.str z) (.int i) H Q := .inl (.inr (.inr ⟨z, i, c, rfl, rfl, hl, ha, q⟩))
theorem at_n {xs : List V} {i : Int} (h0 : 0 ≤ i) (h : xs[i.toNat]? = some v) : atI xs i = some v := by
  have e : i = (i.toNat : Int) := by omega
  rw [e]
  exact atI_nat h

/-! ### calls of what is built in -/
def rLen (K : PySem.W.Frag) : List V → Hp → VK → Prop := fun xs H Q => (∃ p ys, xs = [.ref p] ∧ (SqL K H p ys ∨ SqT K H p ys) ∧ Q (.int ys.length) H) ∨ ∃ z, xs = [.str z] ∧ z.length ≤ sizeLine ∧ Q (.int z.length) H
theorem g_lenL {a : Addr} {xs : List V} (h : H a = some (.lst xs)) (q : Q (.int (xs.length : Int)) H) : rLen K [.ref a] H Q := .inl ⟨a, xs, rfl, .inl (SqL.of h), q⟩
theorem g_lenT {a : Addr} {xs : List V} (h : H a = some (.tup xs)) (q : Q (.int (xs.length : Int)) H) : rLen K [.ref a] H Q := .inl ⟨a, xs, rfl, .inr (SqT.of h), q⟩
theorem g_lenS {z : Str} (h : z.length ≤ sizeLine) (q : Q (.int (z.length : Int)) H) : rLen K [.str z] H Q := .inr ⟨z, rfl, h, q⟩
def rInt1 : List V → Hp → VK → Prop := fun xs H Q => (∃ i, xs = [.int i] ∧ Q (.int i) H) ∨ ∃ k, xs = [.bl k] ∧ Q (.int (if k then 1 else 0)) H
theorem g_int {i : Int} (q : Q (.int i) H) : rInt1 [.int i] H Q := .inl ⟨i, rfl, q⟩
theorem g_intB {k : Bool} (q : Q (.int (if k then 1 else 0)) H) : rInt1 [.bl k] H Q := .inr ⟨k, rfl, q⟩
def rAbs1 : List V → Hp → VK → Prop := fun xs H Q => ∃ i, xs = [.int i] ∧ Q (.int (if i < 0 then -i else i)) H
theorem g_abs {i : Int} (q : ∀ j : Int, 0 ≤ j → Q (.int j) H) : rAbs1 [.int i] H Q := ⟨i, rfl, q _ (by split <;> omega)⟩
def rMax2 : List V → Hp → VK → Prop := fun xs H Q => ∃ i j, xs = [.int i, .int j] ∧ Q (.int (if j > i then j else i)) H
theorem g_max2 {i j : Int} (q : Q (.int (max i j)) H) : rMax2 [.int i, .int j] H Q := ⟨i, j, rfl, by
  have e : (if j > i then j else i) = max i j := by split <;> omega
  rw [e]
  exact q⟩
def rListOf (K : PySem.W.Frag) : List V → Hp → VK → Prop := fun xs H Q => ∃ p ys, xs = [.ref p] ∧ (SqL K H p ys ∨ SqT K H p ys) ∧ ∀ l, H l = none → Q (.ref l) (upd H l (.lst ys))
theorem g_listL {a : Addr} {xs : List V} (h : H a = some (.lst xs)) (hH : Has F O H) (q : ∀ p H', H p = none → Has F ((p, .lst xs) :: O) H' → Q (.ref p) H') : rListOf K [.ref a] H Q := ⟨a, xs, rfl, .inl (SqL.of h), fun p n => q p _ n (hH.new n)⟩
theorem g_listT {a : Addr} {xs : List V} (h : H a = some (.tup xs)) (hH : Has F O H) (q : ∀ p H', H p = none → Has F ((p, .lst xs) :: O) H' → Q (.ref p) H') : rListOf K [.ref a] H Q := ⟨a, xs, rfl, .inr (SqT.of h), fun p n => q p _ n (hH.new n)⟩
def rTupleOf (K : PySem.W.Frag) : List V → Hp → VK → Prop := fun xs H Q => ∃ p ys, xs = [.ref p] ∧ ((SqL K H p ys ∧ ∀ l, H l = none → Q (.ref l) (upd H l (.tup ys))) ∨ (SqT K H p ys ∧ Q (.ref p) H))
theorem g_tupleL {a : Addr} {xs : List V} (h : H a = some (.lst xs)) (hH : Has F O H) (q : ∀ p H' F', H p = none → Same F F' → F' p = some (.tup xs) → Has F' O H' → Q (.ref p) H') : rTupleOf K [.ref a] H Q :=
  ⟨a, xs, rfl, .inl ⟨SqL.of h, fun p n => q p _ (upd F p (.tup xs)) n (same_upd (hH.same.free n)) upd_same (hH.new n).frz⟩⟩
theorem g_tupleT {a : Addr} {xs : List V} (h : H a = some (.tup xs)) (q : Q (.ref a) H) : rTupleOf K [.ref a] H Q := ⟨a, xs, rfl, .inr ⟨SqT.of h, q⟩⟩

/-! ### methods of lists, stores -/
theorem g_append {a : Addr} {xs : List V} (hH : Has F O H) (c : Chg O a (.lst xs) (.lst (xs ++ [y])) O') (hl : xs.length < sizeLine) (q : ∀ H', Has F O' H' → Q .non H') : rAppend (.ref a) [y] H Q :=
  ⟨a, xs, y, rfl, rfl, hH.get c.mem, hl, q _ (hH.put c)⟩
theorem g_popAt {a : Addr} {xs : List V} {i : Int} {k : Nat} (hH : Has F O H) (c : Chg O a (.lst xs) (.lst (xs.eraseIdx k)) O') (h1 : -(2 ^ 63) ≤ i) (h2 : i < 2 ^ 63) (hk : seqIndex? i xs.length = some k) (hy : xs[k]? = some y)
    (q : ∀ H', Has F O' H' → Q y H') : rPopAt (.ref a) [.int i] H Q := ⟨a, xs, i, k, y, rfl, rfl, hH.get c.mem, h1, h2, hk, hy, q _ (hH.put c)⟩
theorem g_clear {a : Addr} {xs : List V} (hH : Has F O H) (c : Chg O a (.lst xs) (.lst []) O') (q : ∀ H', Has F O' H' → Q .non H') : rClear (.ref a) [] H Q := ⟨a, xs, rfl, rfl, hH.get c.mem, q _ (hH.put c)⟩
/-- o[i] = v -/
def kSet (t : TSet) (R : L2.St → Hp → Prop) (σ : L2.St) (o i v : V) (H : Hp) : Prop := t o i v H fun H3 => R σ H3
theorem g_sub {to ti : TE} {t : TSet} {R : L2.St → Hp → Prop} (q : to σ H fun o H1 => ti σ H1 fun i H2 => kSet t R σ o i v H2) : gSub to ti t v σ H R := q
theorem g_setL {R : L2.St → Hp → Prop} {a : Addr} {xs : List V} {k : Int} {j : Nat} (hH : Has F O H) (c : Chg O a (.lst xs) (.lst (xs.set j v)) O') (hj : ixN xs.length k = some j) (q : ∀ H', Has F O' H' → R σ H') : kSet rSetL R σ (.ref a) (.int k) v H :=
  ⟨a, xs, k, j, rfl, rfl, hH.get c.mem, hj, q _ (hH.put c)⟩
theorem ixN_nat {n : Nat} {k : Int} (h0 : 0 ≤ k) (h : k < n) : ixN n k = some k.toNat := by
  unfold ixN
  rw [if_pos h0, if_pos h]
/-- a, b = a tuple -/
theorem g_gtup {n : Nat} {t : TGs} {a : Addr} {xs : List V} {R : L2.St → Hp → Prop} (h : H a = some (.tup xs)) (hl : xs.length = n) (q : t xs σ H R) : gTup K n t (.ref a) σ H R := ⟨a, xs, rfl, SqT.of h, hl, q⟩
theorem g_gcons {t : TG} {u : TGs} {r : List V} {R : L2.St → Hp → Prop} (q : t v σ H fun σ' H' => u r σ' H' R) : gCons t u (v :: r) σ H R := ⟨v, r, rfl, q⟩
theorem g_gnil {R : L2.St → Hp → Prop} (q : R σ H) : gNil [] σ H R := ⟨rfl, q⟩
/-- slices -/
def kSl (r : V → Option Int → Option Int → Hp → VK → Prop) (tl th : TO) (σ : L2.St) (x : V) (H : Hp) (Q : VK) : Prop := tl σ H fun l H2 => th σ H2 fun u H3 => r x l u H3 Q
theorem g_sl {r : V → Option Int → Option Int → Hp → VK → Prop} {tl th : TO} (q : te σ H fun x H1 => kSl r tl th σ x H1 Q) : tSl r te tl th σ H Q := q
theorem g_kslN {r : V → Option Int → Option Int → Hp → VK → Prop} (q : r x none none H Q) : kSl r tNoPart tNoPart σ x H Q := q
theorem g_kslL {r : V → Option Int → Option Int → Hp → VK → Prop} {tl : TE} {i : Int} (q : tl σ H fun z H1 => ∃ i, z = .int i ∧ r x (some i) none H1 Q) : kSl r (tPart tl) tNoPart σ x H Q := q
theorem g_kslH {r : V → Option Int → Option Int → Hp → VK → Prop} {tl : TE} {i : Int} (q : tl σ H fun z H1 => ∃ i, z = .int i ∧ r x none (some i) H1 Q) : kSl r tNoPart (tPart tl) σ x H Q := q
def rRevL (K : PySem.W.Frag) (x : V) (H : Hp) (Q : VK) : Prop := ∃ a xs, x = .ref a ∧ SqL K H a xs ∧ ∀ p, H p = none → Q (.ref p) (upd H p (.lst xs.reverse))
end

/-! ### loops -/
def kW (J : It) (g : TG) (tb : TS) (D : Ends) (σ : L2.St) (H : Hp) : Prop := ∃ W : Nat → Nat → L2.St → Hp → Prop, (∃ m, W 0 m σ H) ∧ ∀ i m σ H, W i m σ H →
  (J.stop i H ∧ D.nx σ H) ∨ (J.go i H ∧ ∃ N : L2.St → Hp → Prop, (∀ σ' H', N σ' H' → ∃ m', m' < m ∧ W (i + 1) m' σ' H') ∧ ∀ x H', J.yld i H x H' → g x σ H' fun σ2 H2 => tb { D with nx := N, ct := N, bk := D.nx } σ2 H2)
def kForL (K : PySem.W.Frag) (g : TG) (tb : TS) (D : Ends) (σ : L2.St) (x : V) (H : Hp) : Prop := ∃ a, x = .ref a ∧ (∃ xs, SqL K H a xs) ∧ kW (Itl K a) g tb D σ H
def kForR1 (g : TG) (tb : TS) (D : Ends) (σ : L2.St) (vs : List V) (H : Hp) : Prop := ∃ j : Int, vs = [.int j] ∧ -(2 ^ 62) ≤ j ∧ j < 2 ^ 62 ∧ kW (Itr 0 j.toNat) g tb D σ H
def kForR2 (g : TG) (tb : TS) (D : Ends) (σ : L2.St) (vs : List V) (H : Hp) : Prop := ∃ i j : Int, vs = [.int i, .int j] ∧ (-(2 ^ 62) ≤ i ∧ i < 2 ^ 62 ∧ -(2 ^ 62) ≤ j ∧ j < 2 ^ 62) ∧ kW (Itr i (j - i).toNat) g tb D σ H
def kForR3 (g : TG) (tb : TS) (D : Ends) (σ : L2.St) (vs : List V) (H : Hp) : Prop := ∃ (i j c : Int) (n : Nat), vs = [.int i, .int j, .int c] ∧ RgC i j c n ∧ kW (Itc i c n) g tb D σ H
section
variable {K : PySem.W.Frag} {σ : L2.St} {F : Hp} {O O' : Own} {H : Hp} {Q : VK} {ta tb tc te : TE} {x y v : V} {D : Ends} {t1 t2 ts : TS} {g : TG}
theorem g_forL (q : te σ H fun x H1 => kForL K g ts D σ x H1) : tFor (iList K te) g ts D σ H := q
theorem g_forR1 {ta : TA} (q : ta σ H fun vs H1 => kForR1 g ts D σ vs H1) : tFor (iRng1 ta) g ts D σ H := q
theorem g_forR2 {ta : TA} (q : ta σ H fun vs H1 => kForR2 g ts D σ vs H1) : tFor (iRng2 ta) g ts D σ H := q
theorem g_forR3 {ta : TA} (q : ta σ H fun vs H1 => kForR3 g ts D σ vs H1) : tFor (iRng3 ta) g ts D σ H := q
theorem k_forL {a : Addr} {xs : List V} (h : H a = some (.lst xs)) (Pv : Nat → L2.St → Hp → Prop) (h0 : Pv 0 σ H) (hl : ∀ i σ H, i ≤ xs.length → Pv i σ H → H a = some (.lst xs))
    (hs : ∀ i x σ H, xs[i]? = some x → Pv i σ H → g x σ H fun σ2 H2 => ts { D with nx := Pv (i + 1), ct := Pv (i + 1), bk := D.nx } σ2 H2) (hd : ∀ σ H, Pv xs.length σ H → D.nx σ H) : kForL K g ts D σ (.ref a) H :=
  ⟨a, rfl, ⟨xs, SqL.of h⟩, for_list Pv h0 (fun i σ H hi p => SqL.of (hl i σ H hi p)) hs hd⟩
theorem k_forR1 {j : Int} (Pv : Nat → L2.St → Hp → Prop) (h1 : -(2 ^ 62) ≤ j) (h2 : j < 2 ^ 62) (h0 : Pv 0 σ H)
    (hs : ∀ i σ H, i < j.toNat → Pv i σ H → g (.int (i : Int)) σ H fun σ2 H2 => ts { D with nx := Pv (i + 1), ct := Pv (i + 1), bk := D.nx } σ2 H2) (hd : ∀ σ H, Pv j.toNat σ H → D.nx σ H) : kForR1 g ts D σ [.int j] H :=
  ⟨j, rfl, h1, h2, for_range Pv h0 (fun i σ H hi p => by rw [Int.zero_add]; exact hs i σ H hi p) hd⟩
/-- n - 1 down to 0 -/
theorem k_forDown {n : Nat} {j : Int} (hj : j = (n : Int) - 1) (hn : n < 2 ^ 60) (Pv : Nat → L2.St → Hp → Prop) (h0 : Pv n σ H)
    (hs : ∀ i σ H, i < n → Pv (i + 1) σ H → g (.int (i : Int)) σ H fun σ2 H2 => ts { D with nx := Pv i, ct := Pv i, bk := D.nx } σ2 H2) (hd : ∀ σ H, Pv 0 σ H → D.nx σ H) : kForR3 g ts D σ [.int j, .int (-1), .int (-1)] H := by
  subst hj
  have e : (((n : Int) - 1) - (-1)).toNat = n := by omega
  have rg := RgC.neg (i := (n : Int) - 1) (j := -1) (by omega) (by omega) (by decide) (by decide)
  rw [e] at rg
  refine ⟨_, _, _, n, rfl, rg, for_rangeC (fun i => Pv (n - i)) h0 (fun i σ H hi p => ?_) (fun σ H p => ?_)⟩
  · have e1 : (n : Int) - 1 + (i : Nat) * (-1) = ((n - (i + 1) : Nat) : Int) := by omega
    have e2 : n - i = (n - (i + 1)) + 1 := by omega
    rw [e1]
    have p' : Pv ((n - (i + 1)) + 1) σ H := by rw [← e2]; exact p
    exact hs _ σ H (by omega) p'
  · have p' : Pv (n - n) σ H := p
    rw [Nat.sub_self] at p'
    exact hd σ H p'
/-- while -/
def kWh (Pv : Nat → L2.St → Hp → Prop) (m : Nat) (tb : TS) (D : Ends) (σ : L2.St) (b : Bool) (H : Hp) : Prop := if b = true then ∃ N : L2.St → Hp → Prop, (∀ σ' H', N σ' H' → ∃ m', m' < m ∧ Pv m' σ' H') ∧ tb { D with nx := N, ct := N, bk := D.nx } σ H else D.nx σ H
theorem g_while {c : TT} (Pv : Nat → L2.St → Hp → Prop) (m : Nat) (h0 : Pv m σ H) (hs : ∀ m σ H, Pv m σ H → c σ H fun b H1 => kWh Pv m ts D σ b H1) : tWhile c ts D σ H := ⟨Pv, ⟨m, h0⟩, hs⟩
theorem kwh_t {Pv : Nat → L2.St → Hp → Prop} {m : Nat} (q : ts { D with nx := fun σ' H' => ∃ m', m' < m ∧ Pv m' σ' H', ct := fun σ' H' => ∃ m', m' < m ∧ Pv m' σ' H', bk := D.nx } σ H) : kWh Pv m ts D σ true H := by
  unfold kWh
  rw [if_pos rfl]
  exact ⟨_, fun _ _ h => h, q⟩
theorem kwh_f {Pv : Nat → L2.St → Hp → Prop} {m : Nat} (q : D.nx σ H) : kWh Pv m ts D σ false H := by
  unfold kWh
  rw [if_neg Bool.false_ne_true]
  exact q

/-! ### list comprehensions -/
def kLc (J : It) (g : TG) (tt : TT) (te : TE) (vs : List Nat) (σ : L2.St) (H1 : Hp) (Q : VK) : Prop := ∀ D, H1 D = none → ∃ W : Nat → Nat → Hp → Prop, (∃ m, W 0 m (upd H1 D (.lst []))) ∧ ∀ i m H, W i m H →
  (J.stop i H ∧ Q (.ref D) H) ∨ (J.go i H ∧ ∃ Nx : Hp → Prop, (∀ H', Nx H' → ∃ m', m' < m ∧ W (i + 1) m' H') ∧ ∀ x H', J.yld i H x H' → g x (wipe σ vs) H' fun σ2 H2 => wipe σ2 vs = wipe σ vs ∧ tt σ2 H2 fun b H3 =>
    if b = true then te σ2 H3 fun y H4 => ∃ acc, H4 D = some (.lst acc) ∧ acc.length < sizeLine ∧ Nx (upd H4 D (.lst (acc ++ [y]))) else Nx H3)
def kLcL (K : PySem.W.Frag) (g : TG) (tt : TT) (te : TE) (vs : List Nat) (σ : L2.St) (x : V) (H : Hp) (Q : VK) : Prop := ∃ a, x = .ref a ∧ (∃ xs, SqL K H a xs) ∧ kLc (Itl K a) g tt te vs σ H Q
def kLcR1 (g : TG) (tt : TT) (te : TE) (ws : List Nat) (σ : L2.St) (vs : List V) (H : Hp) (Q : VK) : Prop := ∃ j : Int, vs = [.int j] ∧ -(2 ^ 62) ≤ j ∧ j < 2 ^ 62 ∧ kLc (Itr 0 j.toNat) g tt te ws σ H Q
theorem g_lcL {tt : TT} {vs : List Nat} (q : ta σ H fun x H1 => kLcL K g tt te vs σ x H1 Q) : tLc (iList K ta) g tt te vs σ H Q := q
theorem g_lcR1 {ta : TA} {tt : TT} {vs : List Nat} (q : ta σ H fun xs H1 => kLcR1 g tt te vs σ xs H1 Q) : tLc (iRng1 ta) g tt te vs σ H Q := q
/-- what a turn is to leave -/
def kNx (S : Nat → List V → Hp → Own → Prop) (i : Nat) (D : Addr) (H : Hp) : Prop := ∃ acc F' O', S (i + 1) acc F' O' ∧ Has F' ((D, .lst acc) :: O') H
def kTurn (D : Addr) (Nx : Hp → Prop) (y : V) (H : Hp) : Prop := ∃ acc, H D = some (.lst acc) ∧ acc.length < sizeLine ∧ Nx (upd H D (.lst (acc ++ [y])))
theorem k_turn {S : Nat → List V → Hp → Own → Prop} {i : Nat} {D : Addr} {acc : List V} {y : V} {H : Hp} {F : Hp} {O : Own} (h : Has F ((D, .lst acc) :: O) H) (hl : acc.length ≤ 100000) (s : S (i + 1) (acc ++ [y]) F O) : kTurn D (kNx S i D) y H :=
  ⟨acc, h.get (List.Mem.head _), by rw [sizeLine_eq]; omega, _, F, O, s, h.put .hd⟩
theorem k_skip {S : Nat → List V → Hp → Own → Prop} {i : Nat} {D : Addr} {acc : List V} {H : Hp} {F : Hp} {O : Own} (h : Has F ((D, .lst acc) :: O) H) (s : S (i + 1) acc F O) : kNx S i D H := ⟨acc, F, O, s, h⟩
theorem k_lc {J : It} {tt : TT} {vs : List Nat} (hH : Has F O H) (n : Nat) (S : Nat → List V → Hp → Own → Prop) (h0 : S 0 [] F O)
    (go : ∀ i acc F O D H, i < n → S i acc F O → Has F ((D, .lst acc) :: O) H → J.go i H) (stop : ∀ acc F O D H, S n acc F O → Has F ((D, .lst acc) :: O) H → J.stop n H)
    (hs : ∀ i x acc F O D H H', i < n → J.yld i H x H' → S i acc F O → Has F ((D, .lst acc) :: O) H → g x (wipe σ vs) H' fun σ2 H2 => wipe σ2 vs = wipe σ vs ∧ tt σ2 H2 fun b H3 => if b = true then te σ2 H3 fun y H4 => kTurn D (kNx S i D) y H4 else kNx S i D H3)
    (hd : ∀ acc F O D H, S n acc F O → Has F ((D, .lst acc) :: O) H → Q (.ref D) H) : kLc J g tt te vs σ H Q := by
  intro D hD
  refine ⟨fun i m H => m = n - i ∧ i ≤ n ∧ ∃ acc F O, S i acc F O ∧ Has F ((D, .lst acc) :: O) H, ⟨n, by simp, Nat.zero_le _, [], F, O, h0, hH.new hD⟩, ?_⟩
  rintro i m H1 ⟨rfl, hi, acc, F1, O1, s1, hH1⟩
  by_cases hlt : i < n
  · exact .inr ⟨go i acc F1 O1 D H1 hlt s1 hH1, kNx S i D, fun H' p => ⟨n - (i + 1), by omega, rfl, hlt, p⟩, fun x H' y => hs i x acc F1 O1 D H1 H' hlt y s1 hH1⟩
  · have e : i = n := by omega
    subst e
    exact .inl ⟨stop acc F1 O1 D H1 s1 hH1, hd acc F1 O1 D H1 s1 hH1⟩
/-- over a list that stands still -/
theorem k_lcL {a : Addr} {xs : List V} {tt : TT} {vs : List Nat} (h : H a = some (.lst xs)) (hH : Has F O H) (S : Nat → List V → Hp → Own → Prop) (h0 : S 0 [] F O) (hl : ∀ i acc F O H, S i acc F O → Has F O H → H a = some (.lst xs))
    (hs : ∀ i x acc F O D H, xs[i]? = some x → S i acc F O → Has F ((D, .lst acc) :: O) H → g x (wipe σ vs) H fun σ2 H2 => wipe σ2 vs = wipe σ vs ∧ tt σ2 H2 fun b H3 => if b = true then te σ2 H3 fun y H4 => kTurn D (kNx S i D) y H4 else kNx S i D H3)
    (hd : ∀ acc F O D H, S xs.length acc F O → Has F ((D, .lst acc) :: O) H → Q (.ref D) H) : kLcL K g tt te vs σ (.ref a) H Q := by
  refine ⟨a, rfl, ⟨xs, SqL.of h⟩, k_lc hH xs.length S h0 (fun i acc F O D H hi s hh => ?_) (fun acc F O D H s hh => ?_) (fun i x acc F O D H H' hi y s hh => ?_) hd⟩
  · exact ⟨xs, xs[i], SqL.of (hl i acc F O H s hh.drop), List.getElem?_eq_getElem hi⟩
  · exact ⟨xs, SqL.of (hl _ acc F O H s hh.drop), Nat.le_refl _⟩
  · obtain ⟨e, y⟩ := y
    subst e
    exact hs i x acc F O D _ (y xs (SqL.of (hl i acc F O _ s hh.drop))) s hh
theorem k_lcR1 {j : Int} {tt : TT} {vs : List Nat} (h1 : -(2 ^ 62) ≤ j) (h2 : j < 2 ^ 62) (hH : Has F O H) (S : Nat → List V → Hp → Own → Prop) (h0 : S 0 [] F O)
    (hs : ∀ i acc F O D H, i < j.toNat → S i acc F O → Has F ((D, .lst acc) :: O) H → g (.int (i : Int)) (wipe σ vs) H fun σ2 H2 => wipe σ2 vs = wipe σ vs ∧ tt σ2 H2 fun b H3 => if b = true then te σ2 H3 fun y H4 => kTurn D (kNx S i D) y H4 else kNx S i D H3)
    (hd : ∀ acc F O D H, S j.toNat acc F O → Has F ((D, .lst acc) :: O) H → Q (.ref D) H) : kLcR1 g tt te vs σ [.int j] H Q := by
  refine ⟨j, rfl, h1, h2, k_lc hH j.toNat S h0 (fun i acc F O D H hi s hh => hi) (fun acc F O D H s hh => Nat.le_refl _) (fun i x acc F O D H H' hi y s hh => ?_) hd⟩
  obtain ⟨e, y⟩ := y
  subst e y
  rw [Int.zero_add]
  exact hs i acc F O D _ hi s hh
end

/-! ### the rules' own soundness: one operator for several kinds -/
section
variable {X : Cx}
theorem op_addA : OpR X (binaryOp .Add) (rAdd X.K) := by
  intro pins s σ H x y v u Q I rx ry h
  rcases h with (h | h) | h | h
  · exact op_add pins s σ H x y v u Q I rx ry h
  · exact op_add_str pins s σ H x y v u Q I rx ry h
  · exact op_cat pins s σ H x y v u Q I rx ry h
  · exact op_catT pins s σ H x y v u Q I rx ry h
theorem op_mulA : OpR X (binaryOp .Mult) rMul := by
  intro pins s σ H x y v u Q I rx ry h
  rcases h with h | h
  · exact op_mul pins s σ H x y v u Q I rx ry h
  · exact op_rep pins s σ H x y v u Q I rx ry h
theorem op_eqA (hu : X.A.units + 64 < cLine) : OpR X (compareOp .Eq) (rEqA X.K) := by
  intro pins s σ H x y v u Q I rx ry h
  rcases h with h | h
  · exact op_eq pins s σ H x y v u Q I rx ry h
  · exact op_eqD hu pins s σ H x y v u Q I rx ry h
theorem op_neA (hu : X.A.units + 64 < cLine) : OpR X (compareOp .NotEq) (rNeA X.K) := by
  intro pins s σ H x y v u Q I rx ry h
  rcases h with h | h
  · exact op_ne pins s σ H x y v u Q I rx ry h
  · exact op_neD hu pins s σ H x y v u Q I rx ry h
theorem op_isNA : OpR X (compareOp .Is) rIsN := op_isN
theorem op_notNA : OpR X (compareOp .IsNot) rNotN := op_notN
theorem cr_len : CallR X (.builtin "len") (rLen X.K) := by
  intro pins s σ H xs us Q I r h
  rcases h with h | h
  · exact call_len_seq pins s σ H xs us Q I r h
  · exact call_len_str pins s σ H xs us Q I r h
theorem cr_int1 : CallR X (.type "int") rInt1 := call_int1
theorem cr_abs1 : CallR X (.builtin "abs") rAbs1 := call_abs
theorem cr_max2 (hc : X.calm = true) : CallR X (.builtin "max") rMax2 := call_max2 hc
theorem cr_listOf : CallR X (.type "list") (rListOf X.K) := call_list_of
theorem cr_tupleOf : CallR X (.type "tuple") (rTupleOf X.K) := call_tuple_of
end

/-! ### dicts -/
def rInDc : R2 := fun x y H Q => ∃ a o, y = .ref a ∧ DGet H a x o ∧ Q (.bl o.isSome) H
def rNotInDc : R2 := fun x y H Q => ∃ a o, y = .ref a ∧ DGet H a x o ∧ Q (.bl (!o.isSome)) H
section
variable {X : Cx}
theorem op_inDc (hu : X.A.units + 1 < cLine) : OpR X (compareOp .In) rInDc := by
  intro pins s σ H x y v u Q I rx ry h
  obtain ⟨a, o, rfl, g, q⟩ := h
  cases ry
  exact d_in hu I g rx fun s' I' => ⟨.bl _, H, I', rfl, q⟩
theorem op_notinDc (hu : X.A.units + 1 < cLine) : OpR X (compareOp .NotIn) rNotInDc := by
  intro pins s σ H x y v u Q I rx ry h
  obtain ⟨a, o, rfl, g, q⟩ := h
  cases ry
  exact d_notIn hu I g rx fun s' I' => ⟨.bl _, H, I', rfl, q⟩
end
def kGet2 (ty tx : TE) (σ : L2.St) (x : V) (H : Hp) (Q : VK) : Prop := ∃ a, x = .ref a ∧ IsD H a ∧ ty σ H fun y H2 => tx σ H2 fun z H3 => ∃ o, DGet H3 a y o ∧ Q (o.getD z) H3
def kGot (a : Addr) (y z : V) (H : Hp) (Q : VK) : Prop := ∃ o, DGet H a y o ∧ Q (o.getD z) H
section
variable {K : PySem.W.Frag} {σ : L2.St} {F : Hp} {O O' : Own} {H : Hp} {Q : VK} {ta tb tc te : TE} {x y v : V} {D : Ends} {t1 t2 ts : TS} {g : TG}
theorem g_dnew (hH : Has F O H) (q : ∀ p H', H p = none → Has F ((p, .dK []) :: O) H' → Q (.ref p) H') : tDNewK σ H Q := fun p n => q p _ n (hH.new n)
theorem g_inDI {a : Addr} {kvs : List (Key × V)} {i : Int} (h : H a = some (.dK kvs)) (q : Q (.bl (valV kvs (.inl i)).isSome) H) : rInDc (.int i) (.ref a) H Q := ⟨a, _, rfl, DGet.k (k := .inl i) h, q⟩
theorem g_notinDI {a : Addr} {kvs : List (Key × V)} {i : Int} (h : H a = some (.dK kvs)) (q : Q (.bl (!(valV kvs (.inl i)).isSome)) H) : rNotInDc (.int i) (.ref a) H Q := ⟨a, _, rfl, DGet.k (k := .inl i) h, q⟩
theorem g_setDI {R : L2.St → Hp → Prop} {a : Addr} {kvs : List (Key × V)} {i : Int} (hH : Has F O H) (c : Chg O a (.dK kvs) (.dK (putK kvs (.inl i) v)) O') (hl : kvs.length < sizeLine) (q : ∀ H', Has F O' H' → R σ H') : kSet rSetD R σ (.ref a) (.int i) v H :=
  ⟨a, _, rfl, DPut.k (k := .inl i) (hH.get c.mem) hl, q _ (hH.put c)⟩
theorem g_get2 (q : ta σ H fun x H1 => kGet2 tb tc σ x H1 Q) : tDGet2 ta tb tc σ H Q := q
theorem g_kget2 {a : Addr} {kvs : List (Key × V)} (h : H a = some (.dK kvs)) (q : tb σ H fun y H2 => tc σ H2 fun z H3 => kGot a y z H3 Q) : kGet2 tb tc σ (.ref a) H Q := ⟨a, rfl, .inl ⟨kvs, .inl h⟩, q⟩
theorem g_kgotI {a : Addr} {kvs : List (Key × V)} {i : Int} {z : V} (h : H a = some (.dK kvs)) (q : Q ((valV kvs (.inl i)).getD z) H) : kGot a (.int i) z H Q := ⟨_, DGet.k (k := .inl i) h, q⟩
theorem g_kgotS {a : Addr} {kvs : List (Key × V)} {i : Str} {z : V} (h : H a = some (.dK kvs)) (q : Q ((valV kvs (.inr i)).getD z) H) : kGot a (.str i) z H Q := ⟨_, DGet.k (k := .inr i) h, q⟩
end

/-! ### in, not in; o[i] = v: any of the kinds -/
def rInA (K : PySem.W.Frag) : R2 := fun x y H Q => (rIn K false x y H Q ∨ rInDc x y H Q) ∨ (∃ i j, x = .str i ∧ y = .str j ∧ Q (.bl (!(Builtin.Str.occurrences j i 0 j.length 1).isEmpty)) H) ∨ rInD K x y H Q
def rNotInA (K : PySem.W.Frag) : R2 := fun x y H Q => (rIn K true x y H Q ∨ rNotInDc x y H Q) ∨ (∃ i j, x = .str i ∧ y = .str j ∧ Q (.bl (!(!(Builtin.Str.occurrences j i 0 j.length 1).isEmpty))) H) ∨ rNotInD K x y H Q
def rSetA : TSet := fun o i v H Q => rSetL o i v H Q ∨ rSetD o i v H Q
section
variable {X : Cx}
theorem op_inA (hu : X.A.units + 64 < cLine) (hu' : X.A.units + 65 < cLine) : OpR X (compareOp .In) (rInA X.K) := by
  intro pins s σ H x y v u Q I rx ry h
  rcases h with (h | h) | h | h
  · exact op_in_seq pins s σ H x y v u Q I rx ry h
  · exact op_inDc (by omega) pins s σ H x y v u Q I rx ry h
  · exact op_in_str pins s σ H x y v u Q I rx ry h
  · exact op_inD hu' pins s σ H x y v u Q I rx ry h
theorem op_notinA (hu : X.A.units + 64 < cLine) (hu' : X.A.units + 65 < cLine) : OpR X (compareOp .NotIn) (rNotInA X.K) := by
  intro pins s σ H x y v u Q I rx ry h
  rcases h with (h | h) | h | h
  · exact op_notIn_seq pins s σ H x y v u Q I rx ry h
  · exact op_notinDc (by omega) pins s σ H x y v u Q I rx ry h
  · exact L2.op_notIn_str pins s σ H x y v u Q I rx ry h
  · exact op_notInD hu' pins s σ H x y v u Q I rx ry h
theorem set_any (hu : X.A.units + 1 < cLine) : PSet X rSetA := by
  intro pins s σ H o i v ov iv u Q I ro ri rv h
  rcases h with h | h
  · exact set_list pins s σ H o i v ov iv u Q I ro ri rv h
  · exact set_dict hu pins s σ H o i v ov iv u Q I ro ri rv h
theorem u65 {k : Nat} {A : Around} (r : Room k A) : A.units + 65 < cLine := by have := r.un; omega
end
section
variable {K : PySem.W.Frag} {σ : L2.St} {F : Hp} {O O' : Own} {H : Hp} {Q : VK} {x y v : V}
theorem g_inFL {a : Addr} {xs : List V} (h : H a = some (.lst xs)) (hx : flatV x = true) (hf : xs.all flatV = true) (q : Q (.bl (inV x xs)) H) : rInA K x (.ref a) H Q := .inl (.inl ⟨a, xs, rfl, .inl (SqL.of h), hx, hf, q⟩)
theorem g_notinFL {a : Addr} {xs : List V} (h : H a = some (.lst xs)) (hx : flatV x = true) (hf : xs.all flatV = true) (q : Q (.bl (!inV x xs)) H) : rNotInA K x (.ref a) H Q := .inl (.inl ⟨a, xs, rfl, .inl (SqL.of h), hx, hf, q⟩)
theorem g_inI {a : Addr} {kvs : List (Key × V)} {i : Int} (h : H a = some (.dK kvs)) (q : Q (.bl (valV kvs (.inl i)).isSome) H) : rInA K (.int i) (.ref a) H Q := .inl (.inr ⟨a, _, rfl, DGet.k (k := .inl i) h, q⟩)
theorem g_notinI {a : Addr} {kvs : List (Key × V)} {i : Int} (h : H a = some (.dK kvs)) (q : Q (.bl (!(valV kvs (.inl i)).isSome)) H) : rNotInA K (.int i) (.ref a) H Q := .inl (.inr ⟨a, _, rfl, DGet.k (k := .inl i) h, q⟩)
theorem g_inS {a : Addr} {kvs : List (Key × V)} {i : Str} (h : H a = some (.dK kvs)) (q : Q (.bl (valV kvs (.inr i)).isSome) H) : rInA K (.str i) (.ref a) H Q := .inl (.inr ⟨a, _, rfl, DGet.k (k := .inr i) h, q⟩)
theorem g_notinS {a : Addr} {kvs : List (Key × V)} {i : Str} (h : H a = some (.dK kvs)) (q : Q (.bl (!(valV kvs (.inr i)).isSome)) H) : rNotInA K (.str i) (.ref a) H Q := .inl (.inr ⟨a, _, rfl, DGet.k (k := .inr i) h, q⟩)
theorem g_stL {R : L2.St → Hp → Prop} {a : Addr} {xs : List V} {k : Int} {j : Nat} (hH : Has F O H) (c : Chg O a (.lst xs) (.lst (xs.set j v)) O') (hj : ixN xs.length k = some j) (q : ∀ H', Has F O' H' → R σ H') : kSet rSetA R σ (.ref a) (.int k) v H :=
  .inl ⟨a, xs, k, j, rfl, rfl, hH.get c.mem, hj, q _ (hH.put c)⟩
theorem g_stD {R : L2.St → Hp → Prop} {a : Addr} {kvs : List (Key × V)} {k : Key} {z : V} (ez : z = kV k) (hH : Has F O H) (c : Chg O a (.dK kvs) (.dK (putK kvs k v)) O') (hl : kvs.length < sizeLine) (q : ∀ H', Has F O' H' → R σ H') : kSet rSetA R σ (.ref a) z v H := by
  subst ez
  exact .inr ⟨a, _, rfl, DPut.k (hH.get c.mem) hl, q _ (hH.put c)⟩
end

/-! ### an argument that is changed -/
def rm (H : Hp) (a : Addr) : Hp := fun b => if b = a then none else H b
/-- all but a stands as it stood -/
def But (a : Addr) (H H' : Hp) : Prop := ∀ b u, b ≠ a → H b = some u → H' b = some u
theorem rm_at {H : Hp} {a : Addr} : rm H a a = none := if_pos rfl
theorem rm_ne {H : Hp} {a b : Addr} (h : b ≠ a) : rm H a b = H b := if_neg h
theorem Has.arg {H : Hp} {a : Addr} {o : HO} (h : H a = some o) : Has (rm H a) [(a, o)] H := by
  refine ⟨fun b u q => ?_, fun p hp => ?_, by simp⟩
  · by_cases e : b = a
    · subst e; rw [rm_at] at q; cases q
    · rw [rm_ne e] at q; exact q
  · have e : p = (a, o) := by simpa using hp
    subst e
    exact ⟨rm_at, h⟩
theorem But.of {H H' : Hp} {a : Addr} (h : Same (rm H a) H') : But a H H' := fun b u ne q => h b u (by rw [rm_ne ne]; exact q)
theorem But.trans {a : Addr} {H H1 H2 : Hp} (x : But a H H1) (y : But a H1 H2) : But a H H2 := fun b u ne q => y b u ne (x b u ne q)
theorem But.same {a : Addr} {H H1 H2 : Hp} (x : But a H H1) (y : Same H1 H2) : But a H H2 := fun b u ne q => y b u (x b u ne q)
section
variable {K : PySem.W.Frag} {σ : L2.St} {F : Hp} {O O' : Own} {H : Hp} {Q : VK} {x y v : V}
/-- a test by a fact about its answer -/
theorem g_fact {t : TT} {R : Bool → Hp → Prop} (C : Bool → Prop) (h : ∀ R : Bool → Hp → Prop, (∀ b, C b → R b H) → t σ H R) (q : ∀ b, C b → R b H) : t σ H R := h R q
theorem g_ixV {a : Addr} {xs : List V} {i : Int} (h : H a = some (.lst xs)) (h0 : 0 ≤ i) (hl : i < xs.length) (q : ∀ v, xs[i.toNat]? = some v → Q v H) : rIxA K (.ref a) (.int i) H Q := by
  have e : i.toNat < xs.length := by omega
  exact g_ixL h (at_n h0 (List.getElem?_eq_getElem e)) (q _ (List.getElem?_eq_getElem e))
theorem g_ixI {a : Addr} {xs : List Int} {i : Int} (h : H a = some (.lst (xs.map V.int))) (h0 : 0 ≤ i) (hl : i < xs.length) (q : ∀ z, xs[i.toNat]? = some z → Q (.int z) H) : rIxA K (.ref a) (.int i) H Q := by
  have e : i.toNat < xs.length := by omega
  refine g_ixL h (at_n h0 (v := .int xs[i.toNat]) ?_) (q _ (List.getElem?_eq_getElem e))
  rw [List.getElem?_map, List.getElem?_eq_getElem e]
  rfl
theorem g_ixZ {a : Addr} {xs : List Str} {i : Int} (h : H a = some (.lst (xs.map V.str))) (h0 : 0 ≤ i) (hl : i < xs.length) (q : ∀ z, xs[i.toNat]? = some z → Q (.str z) H) : rIxA K (.ref a) (.int i) H Q := by
  have e : i.toNat < xs.length := by omega
  refine g_ixL h (at_n h0 (v := .str xs[i.toNat]) ?_) (q _ (List.getElem?_eq_getElem e))
  rw [List.getElem?_map, List.getElem?_eq_getElem e]
  rfl
theorem g_stI {R : L2.St → Hp → Prop} {a : Addr} {xs : List Int} {k z : Int} (hH : Has F O H) (c : Chg O a (.lst (xs.map V.int)) (.lst ((xs.set k.toNat z).map V.int)) O') (h0 : 0 ≤ k) (hl : k < xs.length) (q : ∀ H', Has F O' H' → R σ H') : kSet rSetA R σ (.ref a) (.int k) (.int z) H := by
  refine g_stL (xs := xs.map V.int) (j := k.toNat) hH ?_ (ixN_nat h0 (by rw [List.length_map]; exact hl)) q
  rw [← List.map_set]
  exact c
theorem g_popAtI {a : Addr} {xs : List Int} {i : Int} (hH : Has F O H) (c : Chg O a (.lst (xs.map V.int)) (.lst ((xs.eraseIdx i.toNat).map V.int)) O') (h0 : 0 ≤ i) (hl : i < xs.length) (h2 : xs.length ≤ 1000) (q : ∀ H' z, Has F O' H' → Q (.int z) H') : rPopAt (.ref a) [.int i] H Q := by
  have e : i.toNat < xs.length := by omega
  refine g_popAt (xs := xs.map V.int) (k := i.toNat) (y := .int xs[i.toNat]) hH ?_ (by omega) (by omega) ?_ ?_ (fun H' h => q H' _ h)
  · have : (xs.map V.int).eraseIdx i.toNat = (xs.eraseIdx i.toNat).map V.int := by
      rw [List.eraseIdx_eq_take_drop_succ, List.eraseIdx_eq_take_drop_succ, List.map_append, List.map_take, List.map_drop]
    rw [this]
    exact c
  · have := (ixN_seq (n := (xs.map V.int).length) (i := i) (j := i.toNat) (ixN_nat h0 (by rw [List.length_map]; exact hl))).1
    exact this
  · rw [List.getElem?_map, List.getElem?_eq_getElem e]
    rfl
end
theorem sz {n : Nat} (h : n ≤ 100000) : n ≤ sizeLine := by rw [sizeLine_eq]; omega
theorem szl {n : Nat} (h : n < 100000) : n < sizeLine := by rw [sizeLine_eq]; omega

section
variable {K : PySem.W.Frag} {σ : L2.St} {F : Hp} {O O' : Own} {H : Hp} {Q : VK} {x y v : V} {te ta : TE}
theorem g_yes {R : Bool → Hp → Prop} (q : R true H) : tYes σ H R := q
theorem g_wipe {σ1 σ2 : L2.St} {B : Prop} (e : σ1 = σ2) (q : B) : σ1 = σ2 ∧ B := ⟨e, q⟩
def kOI (x : V) (H : Hp) (R : Option Int → Hp → Prop) : Prop := ∃ i, x = .int i ∧ R (some i) H
theorem g_part {R : Option Int → Hp → Prop} (q : te σ H fun x H1 => kOI x H1 R) : tPart te σ H R := q
theorem g_kOI {R : Option Int → Hp → Prop} {i : Int} (q : R (some i) H) : kOI (.int i) H R := ⟨i, rfl, q⟩
theorem g_nopart {R : Option Int → Hp → Prop} (q : R none H) : tNoPart σ H R := q
theorem g_slice {r : V → Option Int → Option Int → Hp → VK → Prop} {tl th : TO} (q : te σ H fun x H1 => tl σ H1 fun l H2 => th σ H2 fun u H3 => r x l u H3 Q) : tSl r te tl th σ H Q := q
theorem g_slS {a : Addr} {xs : List V} {lo hi : Option Int} (h : SqL K H a xs) (hH : Has F O H) (q : ∀ p H', H p = none → Has F ((p, .lst (cutV xs lo hi)) :: O) H' → Q (.ref p) H') : rSlL K (.ref a) lo hi H Q := ⟨a, xs, rfl, h, fun p n => q p _ n (hH.new n)⟩
theorem g_slL {a : Addr} {xs : List V} {lo hi : Option Int} (h : H a = some (.lst xs)) (hH : Has F O H) (q : ∀ p H', H p = none → Has F ((p, .lst (cutV xs lo hi)) :: O) H' → Q (.ref p) H') : rSlL K (.ref a) lo hi H Q := g_slS (SqL.of h) hH q
theorem cutV_ints (ns : List Int) (lo hi : Option Int) : ∃ ms : List Int, cutV (ns.map V.int) lo hi = ms.map V.int ∧ ms.length ≤ ns.length := by
  refine ⟨(ns.drop (HT.sIx ns.length 0 lo)).take (HT.sIx ns.length ns.length hi - HT.sIx ns.length 0 lo), ?_, ?_⟩
  · unfold cutV
    rw [List.length_map, List.map_take, List.map_drop]
  · rw [List.length_take, List.length_drop]
    omega
theorem g_revL {a : Addr} {xs : List V} (h : H a = some (.lst xs)) (hH : Has F O H) (q : ∀ p H', H p = none → Has F ((p, .lst xs.reverse) :: O) H' → Q (.ref p) H') : (∃ b ys, V.ref a = .ref b ∧ SqL K H b ys ∧ ∀ p, H p = none → Q (.ref p) (upd H p (.lst ys.reverse))) :=
  ⟨a, xs, rfl, SqL.of h, fun p n => q p _ n (hH.new n)⟩
theorem g_tRev (q : te σ H fun x H1 => rRevL K x H1 Q) : tRevL K te σ H Q := q
theorem g_rRev {a : Addr} {xs : List V} (h : H a = some (.lst xs)) (hH : Has F O H) (q : ∀ p H', H p = none → Has F ((p, .lst xs.reverse) :: O) H' → Q (.ref p) H') : rRevL K (.ref a) H Q := ⟨a, xs, rfl, SqL.of h, fun p n => q p _ n (hH.new n)⟩
/-- an item of a list of texts that are in order, of ints from 0 to n -/
def okS : V → Bool
  | .str z => PyData.strOk z
  | _ => false
def okI (n : Int) : V → Bool
  | .int z => decide (0 ≤ z ∧ z ≤ n)
  | _ => false
theorem g_ixM {a : Addr} {xs : List V} {i : Int} (h : H a = some (.lst xs)) (ok : xs.all okS = true) (h0 : 0 ≤ i) (hl : i < xs.length) (q : ∀ z, PyData.strOk z = true → Q (.str z) H) : rIxA K (.ref a) (.int i) H Q := by
  refine g_ixV h h0 hl fun v hv => ?_
  have m := List.all_eq_true.mp ok v (List.mem_of_getElem? hv)
  cases v with
  | str z => exact q z m
  | _ => cases m
theorem g_ixN {n : Int} {a : Addr} {xs : List V} {i : Int} (h : H a = some (.lst xs)) (ok : xs.all (okI n) = true) (h0 : 0 ≤ i) (hl : i < xs.length) (q : ∀ z, 0 ≤ z → z ≤ n → Q (.int z) H) : rIxA K (.ref a) (.int i) H Q := by
  refine g_ixV h h0 hl fun v hv => ?_
  have m := List.all_eq_true.mp ok v (List.mem_of_getElem? hv)
  cases v with
  | int z =>
    have := of_decide_eq_true (show decide (0 ≤ z ∧ z ≤ n) = true from m)
    exact q z this.1 this.2
  | _ => cases m
end

/-! ### tables of ints: a list of rows -/
def rowO (r : Addr × List Int) : Addr × HO := (r.1, .lst (r.2.map V.int))
def tabO (t : Addr) (rows : List (Addr × List Int)) : Own := (t, .lst (rows.map fun r => V.ref r.1)) :: rows.map rowO
theorem Chg.row {r : Addr × List Int} {zs : List Int} {O : Own} : ∀ {rows : List (Addr × List Int)} {k : Nat}, rows[k]? = some r → Chg (rows.map rowO ++ O) r.1 (.lst (r.2.map V.int)) (.lst (zs.map V.int)) ((rows.set k (r.1, zs)).map rowO ++ O)
  | [], k, h => by simp at h
  | x :: rows, 0, h => by
    have e : x = r := Option.some.inj h
    subst e
    exact .hd
  | x :: rows, k + 1, h => .tl (Chg.row (rows := rows) (k := k) h)
theorem rows_ref {r : Addr × List Int} {zs : List Int} : ∀ {rows : List (Addr × List Int)} {k : Nat}, rows[k]? = some r → (rows.set k (r.1, zs)).map (fun r => V.ref r.1) = rows.map fun r => V.ref r.1
  | [], k, h => by simp at h
  | x :: rows, 0, h => by
    have e : x = r := Option.some.inj h
    subst e
    rfl
  | x :: rows, k + 1, h => by
    have := rows_ref (rows := rows) (k := k) (zs := zs) h
    show V.ref x.1 :: (rows.set k (r.1, zs)).map (fun r => V.ref r.1) = _
    rw [this]
    rfl
section
variable {K : PySem.W.Frag} {σ : L2.St} {F : Hp} {O O' : Own} {H : Hp} {Q : VK} {t : Addr} {rows : List (Addr × List Int)}
theorem Has.row {r : Addr × List Int} {k : Nat} (hH : Has F (tabO t rows ++ O) H) (hr : rows[k]? = some r) : H r.1 = some (.lst (r.2.map V.int)) :=
  hH.get (List.mem_append_left _ (List.mem_cons_of_mem _ (List.mem_map.mpr ⟨r, List.mem_of_getElem? hr, rfl⟩)))
theorem Has.tab (hH : Has F (tabO t rows ++ O) H) : H t = some (.lst (rows.map fun r => V.ref r.1)) := hH.get (List.mem_append_left _ List.mem_cons_self)
theorem g_ixRow {i : Int} (hH : Has F (tabO t rows ++ O) H) (h0 : 0 ≤ i) (hl : i < rows.length) (q : ∀ r, rows[i.toNat]? = some r → H r.1 = some (.lst (r.2.map V.int)) → Q (.ref r.1) H) : rIxA K (.ref t) (.int i) H Q := by
  have e : i.toNat < rows.length := by omega
  have hr := List.getElem?_eq_getElem e
  refine g_ixL hH.tab (at_n h0 (v := .ref rows[i.toNat].1) ?_) (q _ hr (hH.row hr))
  rw [List.getElem?_map, hr]
  rfl
theorem g_setRow {R : L2.St → Hp → Prop} {r : Addr × List Int} {k : Nat} {j z : Int} (hH : Has F (tabO t rows ++ O) H) (hr : rows[k]? = some r) (h0 : 0 ≤ j) (hl : j < r.2.length) (q : ∀ H', Has F (tabO t (rows.set k (r.1, r.2.set j.toNat z)) ++ O) H' → R σ H') :
    kSet rSetA R σ (.ref r.1) (.int j) (.int z) H := by
  refine g_stI hH (xs := r.2) ?_ h0 hl q
  have c := Chg.row (O := O) (zs := r.2.set j.toNat z) hr
  unfold tabO
  rw [List.cons_append, List.cons_append, rows_ref hr]
  exact .tl c
end

/-! ### the rules with the written part by its name -/
section
variable {X : Cx}
theorem op_addK (K : PySem.W.Frag) (e : X.K = K := by rfl) : OpR X (binaryOp .Add) (rAdd K) := by subst e; exact op_addA
theorem op_eqK (K : PySem.W.Frag) (hu : X.A.units + 64 < cLine) (e : X.K = K := by rfl) : OpR X (compareOp .Eq) (rEqA K) := by subst e; exact op_eqA hu
theorem op_neK (K : PySem.W.Frag) (hu : X.A.units + 64 < cLine) (e : X.K = K := by rfl) : OpR X (compareOp .NotEq) (rNeA K) := by subst e; exact op_neA hu
theorem op_inK (K : PySem.W.Frag) (hu : X.A.units + 64 < cLine) (hu' : X.A.units + 65 < cLine) (e : X.K = K := by rfl) : OpR X (compareOp .In) (rInA K) := by subst e; exact op_inA hu hu'
theorem op_notinK (K : PySem.W.Frag) (hu : X.A.units + 64 < cLine) (hu' : X.A.units + 65 < cLine) (e : X.K = K := by rfl) : OpR X (compareOp .NotIn) (rNotInA K) := by subst e; exact op_notinA hu hu'
theorem ix_dict (hu : X.A.units + 1 < cLine) : IxR X rIxD := by
  intro value slice pins s σ H x y v u Q I rx ry h hs
  obtain ⟨a, z, rfl, g, q⟩ := h
  cases rx
  have hT := dict_typeIs I g
  have fin : wpAny (model X.prog X.w) X.A (subscripted slice false (.ref a) u) (fun r s₃ => wpAny (model X.prog X.w) X.A (letTemporaryGo value (.ref a) r >>= fun _ => pure r) (EP X pins σ Q) X.xe s₃) X.xe s := by
    rw [hs]
    exact wpAny_operating (wpAny_mono (d_getItem hu I g ry (Q := fun r s' => EP X pins σ Q r s') fun w' s3 I3 rw' => ⟨z, H, I3, rw', q⟩) (fun r s₃ h₃ => wpAny_bind (wpAny_letTemporaryGo (wpAny_pure h₃))) fun _ _ x => x)
  unfold subscriptTail
  refine wpAny_bind ?_
  rw [getitemInPython_of_ne hT.not_modules]
  refine wpAny_bind (wpAny_specialOf hT PySem.F.slot_dict_getitem.lookup ?_)
  first
    | exact wpAny_pure (wpAny_bind fin)
    | exact wpAny_bind (wpAny_pure (wpAny_bind fin))
    | exact wpAny_bind fin
theorem ix_K (K : PySem.W.Frag) (hu : X.A.units + 1 < cLine) (e : X.K = K := by rfl) : IxR X (rIxA K) := by subst e; exact ix_seq.or (ix_dict hu)
theorem cr_lenK (K : PySem.W.Frag) (e : X.K = K := by rfl) : CallR X (.builtin "len") (rLen K) := by subst e; exact cr_len
theorem cr_listK (K : PySem.W.Frag) (e : X.K = K := by rfl) : CallR X (.type "list") (rListOf K) := by subst e; exact cr_listOf
theorem cr_tupleK (K : PySem.W.Frag) (e : X.K = K := by rfl) : CallR X (.type "tuple") (rTupleOf K) := by subst e; exact cr_tupleOf
theorem sl_K (K : PySem.W.Frag) (e : X.K = K := by rfl) : SlR X (rSlL K) := by subst e; exact sl_list
theorem k_bm {ex : Expr} {T : String} {r : V → List V → Hp → VK → Prop} {to : TE} {t : TA} (K : PySem.W.Frag) (h : PE X ex (tBM X.K T r to t)) (e : X.K = K := by rfl) : PE X ex (tBM K T r to t) := by subst e; exact h
theorem k_bm0 {ex : Expr} {T : String} {r : V → List V → Hp → VK → Prop} {to : TE} (K : PySem.W.Frag) (h : PE X ex (tBM0 X.K T r to)) (e : X.K = K := by rfl) : PE X ex (tBM0 K T r to) := by subst e; exact h
theorem k_rev {ex : Expr} {to : TE} (K : PySem.W.Frag) (h : PE X ex (tRevL X.K to)) (e : X.K = K := by rfl) : PE X ex (tRevL K to) := by subst e; exact h
theorem k_il {tg l : Expr} {tl : TE} (K : PySem.W.Frag) (h : PI X tg l (iList X.K tl)) (e : X.K = K := by rfl) : PI X tg l (iList K tl) := by subst e; exact h
theorem k_gt {tg : Expr} {n : Nat} {t : TGs} (K : PySem.W.Frag) (h : PG X tg (gTup X.K n t)) (e : X.K = K := by rfl) : PG X tg (gTup K n t) := by subst e; exact h
end
theorem g_start {t : TS} {D : Ends} {σ σ' : L2.St} {H : Hp} (e : σ = σ') (h : t D σ' H) : t D σ H := by subst e; exact h

theorem Has.argFree {H H' : Hp} {a D : Addr} {o : HO} {O : Own} (h : Has (rm H a) ((D, o) :: O) H') (m : a ∈ O.map (·.1)) : H D = none := by
  have nd : D ∉ O.map (·.1) ∧ (O.map (·.1)).Nodup := List.nodup_cons.mp (by have := h.nd; rw [List.map_cons] at this; exact this)
  have e := h.free
  rw [rm_ne (fun z => nd.1 (by rw [z]; exact m))] at e
  exact e

theorem Has.but2 {F H H' : Hp} {O O' : Own} {a p : Addr} {o o' op : HO} (h : Has F O H) (c : Chg O a o o' O') (hb : But a H H') (e : H' a = some o') (n : H p = none) (ep : H' p = some op) : Has F ((p, op) :: O') H' := by
  have h' := h.but c hb e
  refine ⟨h'.same, fun q hq => ?_, ?_⟩
  · rcases List.mem_cons.mp hq with rfl | hq
    · exact ⟨h.same.free n, ep⟩
    · exact h'.own q hq
  · rw [List.map_cons]
    refine List.nodup_cons.mpr ⟨fun m => ?_, h'.nd⟩
    rw [c.fst] at m
    obtain ⟨q, hq, e'⟩ := List.mem_map.mp m
    have z := (h.own q hq).2
    rw [e', n] at z
    cases z

theorem Has.mono {F F' H : Hp} {O : Own} (h : Has F O H) (s : Same F' F) : Has F' O H := ⟨s.trans h.same, fun q hq => ⟨s.free (h.own q hq).1, (h.own q hq).2⟩, h.nd⟩
theorem same_rm {F H : Hp} {a : Addr} (s : Same F H) (n : F a = none) : Same F (rm H a) := fun b u q => by
  rw [rm_ne (ne_of_none q n)]
  exact s b u q
theorem take_foldl {α β : Type} {f : β → α → β} {z : β} {l : List α} {i : Nat} {x : α} (h : l[i]? = some x) : (l.take (i + 1)).foldl f z = f ((l.take i).foldl f z) x := by
  rw [List.take_add_one, h, List.foldl_append]
  rfl

/-! ### isinstance -/
def rIsA (K : PySem.W.Frag) : List V → Hp → VK → Prop := fun xs H Q => rIsi K xs H Q ∨ rIsiT K xs H Q
theorem cr_isK {X : Cx} (K : PySem.W.Frag) (e : X.K = K := by rfl) : CallR X (.builtin "isinstance") (rIsA K) := by
  subst e
  intro pins s σ H xs us Q I r h
  rcases h with h | h
  · exact call_isi pins s σ H xs us Q I r h
  · exact call_isiT pins s σ H xs us Q I r h
theorem g_is {K : PySem.W.Frag} {H : Hp} {Q : VK} {x : V} {t n : String} {b : Bool} (ty : TyX K H x (.type t)) (e : kitB t n = some b) (q : Q (.bl b) H) : rIsA K [x, .ty n] H Q := .inl ⟨x, .ty n, _, _, b, rfl, .ty n, ty, kit_ty e, q⟩
theorem g_is2 {K : PySem.W.Frag} {H : Hp} {Q : VK} {x : V} {t n m : String} {a b : Bool} {tp : Addr} (h : H tp = some (.tup [.ty n, .ty m])) (ty : TyX K H x (.type t)) (ea : kitB t n = some a) (eb : kitB t m = some b) (q : Q (.bl (a || b)) H) : rIsA K [x, .ref tp] H Q := by
  refine .inr ⟨x, tp, _, _, _, a || b, rfl, h, .cons (.ty n) (.cons (.ty m) .nil), ty, ?_, q⟩
  refine kitAny_cons (kit_ty ea) (fun z => ?_) (fun z => by rw [z]; rfl)
  refine kitAny_cons (kit_ty eb) (fun y => ?_) (fun y => by rw [z, y]; rfl)
  rw [z, y]
  exact kitAny_nil
theorem kit_list_list : kitB "list" "list" = some true := by decide +kernel
theorem kit_list_tuple : kitB "list" "tuple" = some false := by decide +kernel
theorem kit_list_dict : kitB "list" "dict" = some false := by decide +kernel
theorem kit_list_int : kitB "list" "int" = some false := by decide +kernel
theorem kit_list_bool : kitB "list" "bool" = some false := by decide +kernel
theorem kit_list_str : kitB "list" "str" = some false := by decide +kernel
theorem kit_tuple_list : kitB "tuple" "list" = some false := by decide +kernel
theorem kit_tuple_tuple : kitB "tuple" "tuple" = some true := by decide +kernel
theorem kit_tuple_dict : kitB "tuple" "dict" = some false := by decide +kernel
theorem kit_tuple_int : kitB "tuple" "int" = some false := by decide +kernel
theorem kit_tuple_bool : kitB "tuple" "bool" = some false := by decide +kernel
theorem kit_tuple_str : kitB "tuple" "str" = some false := by decide +kernel
theorem kit_dict_list : kitB "dict" "list" = some false := by decide +kernel
theorem kit_dict_tuple : kitB "dict" "tuple" = some false := by decide +kernel
theorem kit_dict_dict : kitB "dict" "dict" = some true := by decide +kernel
theorem kit_dict_int : kitB "dict" "int" = some false := by decide +kernel
theorem kit_dict_bool : kitB "dict" "bool" = some false := by decide +kernel
theorem kit_dict_str : kitB "dict" "str" = some false := by decide +kernel
theorem kit_int_list : kitB "int" "list" = some false := by decide +kernel
theorem kit_int_tuple : kitB "int" "tuple" = some false := by decide +kernel
theorem kit_int_dict : kitB "int" "dict" = some false := by decide +kernel
theorem kit_int_int : kitB "int" "int" = some true := by decide +kernel
theorem kit_int_bool : kitB "int" "bool" = some false := by decide +kernel
theorem kit_int_str : kitB "int" "str" = some false := by decide +kernel
theorem kit_bool_list : kitB "bool" "list" = some false := by decide +kernel
theorem kit_bool_tuple : kitB "bool" "tuple" = some false := by decide +kernel
theorem kit_bool_dict : kitB "bool" "dict" = some false := by decide +kernel
theorem kit_bool_int : kitB "bool" "int" = some true := by decide +kernel
theorem kit_bool_bool : kitB "bool" "bool" = some true := by decide +kernel
theorem kit_bool_str : kitB "bool" "str" = some false := by decide +kernel
theorem kit_str_list : kitB "str" "list" = some false := by decide +kernel
theorem kit_str_tuple : kitB "str" "tuple" = some false := by decide +kernel
theorem kit_str_dict : kitB "str" "dict" = some false := by decide +kernel
theorem kit_str_int : kitB "str" "int" = some false := by decide +kernel
theorem kit_str_bool : kitB "str" "bool" = some false := by decide +kernel
theorem kit_str_str : kitB "str" "str" = some true := by decide +kernel
section
variable {K : PySem.W.Frag} {H : Hp} {Q : VK}
theorem is_list_list {a : Addr} {xs : List V} (h : H a = some (.lst xs)) (q : Q (.bl true) H) : rIsA K [.ref a, .ty "list"] H Q := g_is (.base (.lst h)) kit_list_list q
theorem is_list_tuple {a : Addr} {xs : List V} (h : H a = some (.lst xs)) (q : Q (.bl false) H) : rIsA K [.ref a, .ty "tuple"] H Q := g_is (.base (.lst h)) kit_list_tuple q
theorem is_list_dict {a : Addr} {xs : List V} (h : H a = some (.lst xs)) (q : Q (.bl false) H) : rIsA K [.ref a, .ty "dict"] H Q := g_is (.base (.lst h)) kit_list_dict q
theorem is_list_int {a : Addr} {xs : List V} (h : H a = some (.lst xs)) (q : Q (.bl false) H) : rIsA K [.ref a, .ty "int"] H Q := g_is (.base (.lst h)) kit_list_int q
theorem is_list_bool {a : Addr} {xs : List V} (h : H a = some (.lst xs)) (q : Q (.bl false) H) : rIsA K [.ref a, .ty "bool"] H Q := g_is (.base (.lst h)) kit_list_bool q
theorem is_list_str {a : Addr} {xs : List V} (h : H a = some (.lst xs)) (q : Q (.bl false) H) : rIsA K [.ref a, .ty "str"] H Q := g_is (.base (.lst h)) kit_list_str q
theorem is2_list {a : Addr} {xs : List V} (h : H a = some (.lst xs)) {tp : Addr} (hp : H tp = some (.tup [.ty "list", .ty "tuple"])) (q : Q (.bl true) H) : rIsA K [.ref a, .ref tp] H Q := g_is2 hp (.base (.lst h)) kit_list_list kit_list_tuple q
theorem is_tuple_list {a : Addr} {xs : List V} (h : H a = some (.tup xs)) (q : Q (.bl false) H) : rIsA K [.ref a, .ty "list"] H Q := g_is (.base (.tup h)) kit_tuple_list q
theorem is_tuple_tuple {a : Addr} {xs : List V} (h : H a = some (.tup xs)) (q : Q (.bl true) H) : rIsA K [.ref a, .ty "tuple"] H Q := g_is (.base (.tup h)) kit_tuple_tuple q
theorem is_tuple_dict {a : Addr} {xs : List V} (h : H a = some (.tup xs)) (q : Q (.bl false) H) : rIsA K [.ref a, .ty "dict"] H Q := g_is (.base (.tup h)) kit_tuple_dict q
theorem is_tuple_int {a : Addr} {xs : List V} (h : H a = some (.tup xs)) (q : Q (.bl false) H) : rIsA K [.ref a, .ty "int"] H Q := g_is (.base (.tup h)) kit_tuple_int q
theorem is_tuple_bool {a : Addr} {xs : List V} (h : H a = some (.tup xs)) (q : Q (.bl false) H) : rIsA K [.ref a, .ty "bool"] H Q := g_is (.base (.tup h)) kit_tuple_bool q
theorem is_tuple_str {a : Addr} {xs : List V} (h : H a = some (.tup xs)) (q : Q (.bl false) H) : rIsA K [.ref a, .ty "str"] H Q := g_is (.base (.tup h)) kit_tuple_str q
theorem is2_tuple {a : Addr} {xs : List V} (h : H a = some (.tup xs)) {tp : Addr} (hp : H tp = some (.tup [.ty "list", .ty "tuple"])) (q : Q (.bl true) H) : rIsA K [.ref a, .ref tp] H Q := g_is2 hp (.base (.tup h)) kit_tuple_list kit_tuple_tuple q
theorem is_dict_list {a : Addr} {kvs : List (Key × V)} (h : H a = some (.dK kvs)) (q : Q (.bl false) H) : rIsA K [.ref a, .ty "list"] H Q := g_is (.base (.dK h)) kit_dict_list q
theorem is_dict_tuple {a : Addr} {kvs : List (Key × V)} (h : H a = some (.dK kvs)) (q : Q (.bl false) H) : rIsA K [.ref a, .ty "tuple"] H Q := g_is (.base (.dK h)) kit_dict_tuple q
theorem is_dict_dict {a : Addr} {kvs : List (Key × V)} (h : H a = some (.dK kvs)) (q : Q (.bl true) H) : rIsA K [.ref a, .ty "dict"] H Q := g_is (.base (.dK h)) kit_dict_dict q
theorem is_dict_int {a : Addr} {kvs : List (Key × V)} (h : H a = some (.dK kvs)) (q : Q (.bl false) H) : rIsA K [.ref a, .ty "int"] H Q := g_is (.base (.dK h)) kit_dict_int q
theorem is_dict_bool {a : Addr} {kvs : List (Key × V)} (h : H a = some (.dK kvs)) (q : Q (.bl false) H) : rIsA K [.ref a, .ty "bool"] H Q := g_is (.base (.dK h)) kit_dict_bool q
theorem is_dict_str {a : Addr} {kvs : List (Key × V)} (h : H a = some (.dK kvs)) (q : Q (.bl false) H) : rIsA K [.ref a, .ty "str"] H Q := g_is (.base (.dK h)) kit_dict_str q
theorem is2_dict {a : Addr} {kvs : List (Key × V)} (h : H a = some (.dK kvs)) {tp : Addr} (hp : H tp = some (.tup [.ty "list", .ty "tuple"])) (q : Q (.bl false) H) : rIsA K [.ref a, .ref tp] H Q := g_is2 hp (.base (.dK h)) kit_dict_list kit_dict_tuple q
theorem is_int_list {i : Int} (q : Q (.bl false) H) : rIsA K [.int i, .ty "list"] H Q := g_is (.base (.int i)) kit_int_list q
theorem is_int_tuple {i : Int} (q : Q (.bl false) H) : rIsA K [.int i, .ty "tuple"] H Q := g_is (.base (.int i)) kit_int_tuple q
theorem is_int_dict {i : Int} (q : Q (.bl false) H) : rIsA K [.int i, .ty "dict"] H Q := g_is (.base (.int i)) kit_int_dict q
theorem is_int_int {i : Int} (q : Q (.bl true) H) : rIsA K [.int i, .ty "int"] H Q := g_is (.base (.int i)) kit_int_int q
theorem is_int_bool {i : Int} (q : Q (.bl false) H) : rIsA K [.int i, .ty "bool"] H Q := g_is (.base (.int i)) kit_int_bool q
theorem is_int_str {i : Int} (q : Q (.bl false) H) : rIsA K [.int i, .ty "str"] H Q := g_is (.base (.int i)) kit_int_str q
theorem is2_int {i : Int} {tp : Addr} (hp : H tp = some (.tup [.ty "list", .ty "tuple"])) (q : Q (.bl false) H) : rIsA K [.int i, .ref tp] H Q := g_is2 hp (.base (.int i)) kit_int_list kit_int_tuple q
theorem is_bool_list {b : Bool} (q : Q (.bl false) H) : rIsA K [.bl b, .ty "list"] H Q := g_is (.base (.bl b)) kit_bool_list q
theorem is_bool_tuple {b : Bool} (q : Q (.bl false) H) : rIsA K [.bl b, .ty "tuple"] H Q := g_is (.base (.bl b)) kit_bool_tuple q
theorem is_bool_dict {b : Bool} (q : Q (.bl false) H) : rIsA K [.bl b, .ty "dict"] H Q := g_is (.base (.bl b)) kit_bool_dict q
theorem is_bool_int {b : Bool} (q : Q (.bl true) H) : rIsA K [.bl b, .ty "int"] H Q := g_is (.base (.bl b)) kit_bool_int q
theorem is_bool_bool {b : Bool} (q : Q (.bl true) H) : rIsA K [.bl b, .ty "bool"] H Q := g_is (.base (.bl b)) kit_bool_bool q
theorem is_bool_str {b : Bool} (q : Q (.bl false) H) : rIsA K [.bl b, .ty "str"] H Q := g_is (.base (.bl b)) kit_bool_str q
theorem is2_bool {b : Bool} {tp : Addr} (hp : H tp = some (.tup [.ty "list", .ty "tuple"])) (q : Q (.bl false) H) : rIsA K [.bl b, .ref tp] H Q := g_is2 hp (.base (.bl b)) kit_bool_list kit_bool_tuple q
theorem is_str_list {z : Str} (q : Q (.bl false) H) : rIsA K [.str z, .ty "list"] H Q := g_is (.base (.str z)) kit_str_list q
theorem is_str_tuple {z : Str} (q : Q (.bl false) H) : rIsA K [.str z, .ty "tuple"] H Q := g_is (.base (.str z)) kit_str_tuple q
theorem is_str_dict {z : Str} (q : Q (.bl false) H) : rIsA K [.str z, .ty "dict"] H Q := g_is (.base (.str z)) kit_str_dict q
theorem is_str_int {z : Str} (q : Q (.bl false) H) : rIsA K [.str z, .ty "int"] H Q := g_is (.base (.str z)) kit_str_int q
theorem is_str_bool {z : Str} (q : Q (.bl false) H) : rIsA K [.str z, .ty "bool"] H Q := g_is (.base (.str z)) kit_str_bool q
theorem is_str_str {z : Str} (q : Q (.bl true) H) : rIsA K [.str z, .ty "str"] H Q := g_is (.base (.str z)) kit_str_str q
theorem is2_str {z : Str} {tp : Addr} (hp : H tp = some (.tup [.ty "list", .ty "tuple"])) (q : Q (.bl false) H) : rIsA K [.str z, .ref tp] H Q := g_is2 hp (.base (.str z)) kit_str_list kit_str_tuple q
end
section
variable {K : PySem.W.Frag} {σ : L2.St} {F : Hp} {O O' : Own} {H : Hp} {Q : VK} {x y v : V}
theorem g_neB {i j : Bool} (q : Q (.bl (!decide (i = j))) H) : rNeA K (.bl i) (.bl j) H Q := .inl ⟨rfl, by rw [dec_bl, Bool.beq_eq_decide_eq]; exact q⟩
theorem g_eqB {i j : Bool} (q : Q (.bl (decide (i = j))) H) : rEqA K (.bl i) (.bl j) H Q := .inl ⟨rfl, by rw [dec_bl, Bool.beq_eq_decide_eq]; exact q⟩
/-! ### insert, max, the last item -/
def rInsert : V → List V → Hp → VK → Prop := fun x vs H Q => ∃ (l : Addr) (xs : List V) (i : Int) (y : V), x = .ref l ∧ vs = [.int i, y] ∧ H l = some (.lst xs) ∧ xs.length < sizeLine ∧ 0 ≤ i ∧ i < 2 ^ 63 ∧ Q .non (upd H l (.lst (xs.take i.toNat ++ [y] ++ xs.drop i.toNat)))
theorem mt_insertA {X : Cx} : MtR X "list.insert" rInsert := mt_insert
theorem g_insert {a : Addr} {xs : List V} {i : Int} (hH : Has F O H) (c : Chg O a (.lst xs) (.lst (xs.take i.toNat ++ [y] ++ xs.drop i.toNat)) O') (hl : xs.length < sizeLine) (h0 : 0 ≤ i) (h1 : i < 2 ^ 63) (q : ∀ H', Has F O' H' → Q .non H') : rInsert (.ref a) [.int i, y] H Q :=
  ⟨a, xs, i, y, rfl, rfl, hH.get c.mem, hl, h0, h1, q _ (hH.put c)⟩
theorem cr_maxK {X : Cx} (K : PySem.W.Frag) (hc : X.calm = true) (e : X.K = K := by rfl) : CallR X (.builtin "max") (rMax K) := by subst e; exact cr_max hc
theorem g_max {a : Addr} {ns : List Int} (h : H a = some (.lst (ns.map V.int))) (hl : 0 < ns.length) (q : ∀ m, m ∈ ns → (∀ y, y ∈ ns → y ≤ m) → Q (.int m) H) : rMax K [.ref a] H Q := ⟨a, ns, rfl, SqL.of h, hl, q⟩
theorem g_ixLast {a : Addr} {xs : List V} {v : V} (h : H a = some (.lst xs)) (hl : xs.getLast? = some v) (q : Q v H) : rIxA K (.ref a) (.int (-1)) H Q := by
  obtain ⟨ys, rfl⟩ := List.getLast?_eq_some_iff.mp hl
  exact g_ixL h (atI_last ys v) q
end
theorem cutV_nat (xs : List V) (a b : Nat) : cutV xs (some (a : Int)) (some (b : Int)) = (xs.drop a).take (b - a) := by
  unfold cutV
  rw [HT.sIx_nat, HT.sIx_nat]
  by_cases h : a ≤ xs.length
  · rw [Nat.min_eq_left h]
    rcases Nat.le_total b xs.length with hb | hb
    · rw [Nat.min_eq_left hb]
    · rw [Nat.min_eq_right hb, List.take_of_length_le (by rw [List.length_drop]; omega), List.take_of_length_le (by rw [List.length_drop]; omega)]
  · rw [Nat.min_eq_right (show xs.length ≤ a by omega), List.drop_of_length_le (Nat.le_refl _), List.drop_of_length_le (show xs.length ≤ a by omega), List.take_nil, List.take_nil]
theorem cutV_from (xs : List V) (a : Nat) : cutV xs (some (a : Int)) none = xs.drop a := by
  unfold cutV
  rw [HT.sIx_nat, HT.sIx_none]
  by_cases h : a ≤ xs.length
  · rw [Nat.min_eq_left h, List.take_of_length_le (by rw [List.length_drop]; omega)]
  · rw [Nat.min_eq_right (show xs.length ≤ a by omega), List.drop_of_length_le (Nat.le_refl _), List.drop_of_length_le (show xs.length ≤ a by omega), List.take_nil]
theorem cutV_to (xs : List V) (b : Nat) : cutV xs none (some (b : Int)) = xs.take b := by
  unfold cutV
  rw [HT.sIx_none, HT.sIx_nat, List.drop_zero, Nat.sub_zero]
  rcases Nat.le_total b xs.length with hb | hb
  · rw [Nat.min_eq_left hb]
  · rw [Nat.min_eq_right hb, List.take_length, List.take_of_length_le hb]
/-! ### a def that adds to what stands still -/
def Grow (F H F' : Hp) : Prop := Same F F' ∧ ∀ b, H b ≠ none → F' b = F b
theorem Has.grown {F F' H H' : Hp} {O O' : Own} {a : Addr} {o o' : HO} (h : Has F O H) (c : Chg O a o o' O') (hb : But a H H') (g : Grow F H F') (s : Same F' H') (e : H' a = some o') : Has F' O' H' := by
  have h' := h.but c hb e
  refine ⟨s, fun q hq => ⟨?_, (h'.own q hq).2⟩, h'.nd⟩
  rcases c.own h.nd q hq with rfl | ⟨m, _⟩
  · rw [g.2 a (by rw [h.get c.mem]; exact fun z => by cases z)]
    exact (h.own _ c.mem).1
  · rw [g.2 q.1 (by rw [(h.own q m).2]; exact fun z => by cases z)]
    exact (h.own q m).1

section
variable {K : PySem.W.Frag} {H : Hp} {Q : VK}
theorem g_ixVT {a : Addr} {xs : List V} {i : Int} (h : H a = some (.tup xs)) (h0 : 0 ≤ i) (hl : i < xs.length) (q : ∀ v, xs[i.toNat]? = some v → Q v H) : rIxA K (.ref a) (.int i) H Q := by
  have e : i.toNat < xs.length := by omega
  exact g_ixT h (at_n h0 (List.getElem?_eq_getElem e)) (q _ (List.getElem?_eq_getElem e))
theorem is2_non {tp : Addr} (hp : H tp = some (.tup [.ty "list", .ty "tuple"])) (q : Q (.bl false) H) : rIsA K [.non, .ref tp] H Q := g_is2 hp (.base .non) (by decide +kernel : kitB "NoneType" "list" = some false) (by decide +kernel : kitB "NoneType" "tuple" = some false) q
end

theorem i_nf {A B : Prop} (h : A) : if (!false) = true then A else B := by
  show (if true = true then A else B)
  rw [if_pos rfl]
  exact h
theorem i_nt {A B : Prop} (h : B) : if (!true) = true then A else B := by
  show (if false = true then A else B)
  rw [if_neg Bool.false_ne_true]
  exact h

/-- ways that meet: what holds where they meet -/
theorem g_join {t : TS} {D : Ends} {σ : L2.St} {H : Hp} (M : L2.St → Hp → Prop) (h : ∀ σ' H', M σ' H' → D.nx σ' H') (q : (∀ σ' H', M σ' H' → D.nx σ' H') → t D σ H) : t D σ H := q h

/-! ### all that is not owned stands still from now on -/
def rmO (O : Own) (H : Hp) : Hp := fun b => if b ∈ O.map (·.1) then none else H b
section
variable {F H : Hp} {O : Own}
theorem Has.re (h : Has F O H) : Has (rmO O H) O H := by
  refine ⟨fun b u e => ?_, fun p hp => ⟨if_pos (List.mem_map.mpr ⟨p, hp, rfl⟩), (h.own p hp).2⟩, h.nd⟩
  unfold rmO at e
  split at e
  · cases e
  · exact e
theorem Has.reF (h : Has F O H) : Same F (rmO O H) := fun b u e => by
  unfold rmO
  rw [if_neg]
  · exact h.same b u e
  · intro m
    obtain ⟨p, hp, rfl⟩ := List.mem_map.mp m
    rw [(h.own p hp).1] at e
    cases e
theorem Has.re_of (h : Has F O H) {b : Addr} {u : HO} (e : H b = some u) (ne : ∀ p ∈ O, p.2 ≠ u) : rmO O H b = some u := by
  unfold rmO
  rw [if_neg]
  · exact e
  · intro m
    obtain ⟨p, hp, rfl⟩ := List.mem_map.mp m
    rw [(h.own p hp).2] at e
    exact ne p hp (Option.some.inj e)
end

section
variable {K : PySem.W.Frag} {σ : L2.St} {F : Hp} {O O' : Own} {H : Hp} {Q : VK} {x y v : V} {ta te : TE}
theorem g_ixDI {a : Addr} {kvs : List (Key × V)} {i : Int} (h : H a = some (.dK kvs)) (hv : valV kvs (.inl i) = some v) (q : Q v H) : rIxA K (.ref a) (.int i) H Q := .inr ⟨a, v, rfl, hv ▸ DGet.k (k := .inl i) h, q⟩
theorem g_ixDS {a : Addr} {kvs : List (Key × V)} {i : Str} (h : H a = some (.dK kvs)) (hv : valV kvs (.inr i) = some v) (q : Q v H) : rIxA K (.ref a) (.str i) H Q := .inr ⟨a, v, rfl, hv ▸ DGet.k (k := .inr i) h, q⟩
/-! ### [*xs, y]; if xs:; dict(pairs) -/
def kStar (K : PySem.W.Frag) (t : TA) (σ : L2.St) (x : V) (H : Hp) (Q : List V → Hp → Prop) : Prop := ∃ p xs, x = V.ref p ∧ (SqT K H p xs ∨ SqL K H p xs) ∧ t σ H fun ys H2 => Q (xs ++ ys) H2
theorem g_star {t : TA} {QA : List V → Hp → Prop} (q : te σ H fun x H1 => kStar K t σ x H1 QA) : StX.tStar K te t σ H QA := q
theorem g_kstarL {t : TA} {QA : List V → Hp → Prop} {a : Addr} {xs : List V} (h : H a = some (.lst xs)) (q : t σ H fun ys H2 => QA (xs ++ ys) H2) : kStar K t σ (.ref a) H QA := ⟨a, xs, rfl, .inr (SqL.of h), q⟩
theorem g_kstarT {t : TA} {QA : List V → Hp → Prop} {a : Addr} {xs : List V} (h : H a = some (.tup xs)) (q : t σ H fun ys H2 => QA (xs ++ ys) H2) : kStar K t σ (.ref a) H QA := ⟨a, xs, rfl, .inl (SqT.of h), q⟩
theorem k_star {X : Cx} {es : List Expr} {t : TA} {ex : Expr} {p : Pos} (K : PySem.W.Frag) (h : PA X (.Starred ex p :: es) (StX.tStar X.K te t)) (e : X.K = K := by rfl) : PA X (.Starred ex p :: es) (StX.tStar K te t) := by subst e; exact h
def kTru (K : PySem.W.Frag) (x : V) (H : Hp) (R : Bool → Hp → Prop) : Prop := ∃ k, TruV K x H k ∧ R k H
def tTru (K : PySem.W.Frag) (te : TE) : TT := fun σ H R => te σ H fun x H1 => kTru K x H1 R
theorem pt_tru {X : Cx} {a : Expr} (K : PySem.W.Frag) (ha : PE X a ta) (he : ∀ whole, isTrue a X.env whole = (do let v ← whole; standAt a.pos; holding [v] (truthy v)) := by intro _; rfl) (e : X.K = K := by rfl) : PT X a (tTru K ta) := by subst e; exact pt_truth ha he
theorem g_tru {R : Bool → Hp → Prop} (q : te σ H fun x H1 => kTru K x H1 R) : tTru K te σ H R := q
theorem g_truL {R : Bool → Hp → Prop} {a : Addr} {xs : List V} (h : H a = some (.lst xs)) (q : R (!xs.isEmpty) H) : kTru K (.ref a) H R := ⟨_, .inl ⟨xs, SqL.of h, rfl⟩, q⟩
def rDictP (K : PySem.W.Frag) : List V → Hp → VK → Prop := fun xs H Q => ∃ (a : Addr) (ps : List Addr) (kvs : List (Key × V)), xs = [.ref a] ∧ SqL K H a (ps.map V.ref) ∧ Paired (fun p kv => SqT K H p [kV kv.1, kv.2]) ps kvs ∧ ∀ p, H p = none → Q (.ref p) (upd H p (.dK (mergeK [] kvs)))
theorem cr_dictP {X : Cx} (K : PySem.W.Frag) (hc : X.calm = true) (e : X.K = K := by rfl) : CallR X (.type "dict") (rDictP K) := by subst e; exact call_dictP hc
theorem g_dictP {a : Addr} {ps : List Addr} {kvs : List (Key × V)} (h : H a = some (.lst (ps.map V.ref))) (hp : Paired (fun p kv => SqT K H p [kV kv.1, kv.2]) ps kvs) (hH : Has F O H) (q : ∀ p H', H p = none → Has F ((p, .dK (mergeK [] kvs)) :: O) H' → Q (.ref p) H') : rDictP K [.ref a] H Q :=
  ⟨a, ps, kvs, rfl, SqL.of h, hp, fun p n => q p _ n (hH.new n)⟩
end
/-! ### data without lists; tuples of ints; pairs to a dict -/
mutual
def noL : PyData → Bool
  | .list _ => false
  | .dict _ => false
  | .tuple ds => noLs ds
  | _ => true
def noLs : List PyData → Bool
  | [] => true
  | d :: ds => noL d && noLs ds
end
theorem noLs_mem : ∀ {ds : List PyData}, (∀ d ∈ ds, noL d = true) → noLs ds = true
  | [], _ => by rw [noLs]
  | d :: ds, h => by
    rw [noLs, h d List.mem_cons_self, noLs_mem fun x hx => h x (List.mem_cons_of_mem _ hx)]
    rfl
mutual
theorem Dq.keep {H H' : Hp} (e : ∀ b xs, H b = some (.tup xs) → H' b = some (.tup xs)) : ∀ (d : PyData) (v : V), noL d = true → Dq H v d → Dq H' v d
  | _, _, _, .non => .non
  | _, _, _, .bl b => .bl b
  | _, _, _, .int i => .int i
  | _, _, _, .str x => .str x
  | .list ds, _, n, .lst s a => by rw [noL] at n; cases n
  | .tuple ds, _, n, .tup s a => .tup (e _ _ s) (DqAll.keep e ds _ (by rw [noL] at n; exact n) a)
theorem DqAll.keep {H H' : Hp} (e : ∀ b xs, H b = some (.tup xs) → H' b = some (.tup xs)) : ∀ (ds : List PyData) (vs : List V), noLs ds = true → DqAll H vs ds → DqAll H' vs ds
  | _, _, _, .nil => .nil
  | d :: ds, _, n, .cons h t => by
    rw [noLs, Bool.and_eq_true] at n
    exact .cons (Dq.keep e d _ n.1 h) (DqAll.keep e ds _ n.2 t)
end
theorem Has.keep {F H : Hp} {O : Own} (h : Has F O H) (ho : ∀ p ∈ O, ∀ xs, p.2 ≠ .tup xs) {ds : List PyData} {vs : List V} (n : ∀ d ∈ ds, noL d = true) (d : DqAll H vs ds) : DqAll (rmO O H) vs ds :=
  d.keep (fun _ _ e => h.re_of e fun p hp => ho p hp _) _ _ (noLs_mem n)
theorem eqv_tints (xs ys : List Int) : PyData.eqv (.tuple (xs.map PyData.int)) (.tuple (ys.map PyData.int)) = decide (xs = ys) := by
  rw [PyData.eqv, eqvAll_ints]
theorem eqv_tstrs (xs ys : List Str) : PyData.eqv (.tuple (xs.map PyData.str)) (.tuple (ys.map PyData.str)) = decide (xs = ys) := by
  rw [PyData.eqv, eqvAll_strs]
theorem ixN_last (n : Nat) : ixN (n + 1) (-1) = some n := by
  unfold ixN
  rw [if_neg (by decide), if_pos (by omega)]
  congr 1
  omega
theorem valV_merge (i : Key) : ∀ (kvs acc : List (Key × V)), valV (mergeK acc kvs) i = (valV kvs.reverse i).or (valV acc i)
  | [], acc => by simp [mergeK, valV]
  | p :: r, acc => by
    show valV (mergeK (putK acc p.1 p.2) r) i = _
    rw [valV_merge i r, valV_put, List.reverse_cons]
    unfold valV
    rw [List.find?_append]
    cases h : r.reverse.find? fun kv => decide (kv.1 = i) with
    | some x => simp
    | none =>
      by_cases e : p.1 = i
      · simp [List.find?_cons, e]
      · rw [if_neg (fun z => e z.symm)]; simp [List.find?_cons, e]
def kLcR2 (g : TG) (tt : TT) (te : TE) (ws : List Nat) (σ : L2.St) (vs : List V) (H : Hp) (Q : VK) : Prop := ∃ i j : Int, vs = [.int i, .int j] ∧ (-(2 ^ 62) ≤ i ∧ i < 2 ^ 62 ∧ -(2 ^ 62) ≤ j ∧ j < 2 ^ 62) ∧ kLc (Itr i (j - i).toNat) g tt te ws σ H Q
section
variable {K : PySem.W.Frag} {σ : L2.St} {F : Hp} {O O' : Own} {H : Hp} {Q : VK} {x y v : V} {ta te : TE} {g : TG}
theorem g_lcR2 {ta : TA} {tt : TT} {vs : List Nat} (q : ta σ H fun xs H1 => kLcR2 g tt te vs σ xs H1 Q) : tLc (iRng2 ta) g tt te vs σ H Q := q
theorem k_lcR2 {lo j : Int} {tt : TT} {vs : List Nat} (h0 : -(2 ^ 62) ≤ lo ∧ lo < 2 ^ 62 ∧ -(2 ^ 62) ≤ j ∧ j < 2 ^ 62) (hH : Has F O H) (S : Nat → List V → Hp → Own → Prop) (h0 : S 0 [] F O)
    (hs : ∀ i acc F O D H, i < (j - lo).toNat → S i acc F O → Has F ((D, .lst acc) :: O) H → g (.int (lo + (i : Nat))) (wipe σ vs) H fun σ2 H2 => wipe σ2 vs = wipe σ vs ∧ tt σ2 H2 fun b H3 => if b = true then te σ2 H3 fun y H4 => kTurn D (kNx S i D) y H4 else kNx S i D H3)
    (hd : ∀ acc F O D H, S (j - lo).toNat acc F O → Has F ((D, .lst acc) :: O) H → Q (.ref D) H) : kLcR2 g tt te vs σ [.int lo, .int j] H Q := by
  refine ⟨lo, j, rfl, by assumption, k_lc hH (j - lo).toNat S h0 (fun i acc F O D H hi s hh => hi) (fun acc F O D H s hh => Nat.le_refl _) (fun i x acc F O D H H' hi y s hh => ?_) hd⟩
  obtain ⟨e, y⟩ := y
  subst e y
  exact hs i acc F O D _ hi s hh
theorem g_truT {R : Bool → Hp → Prop} {a : Addr} {xs : List V} (h : H a = some (.tup xs)) (q : R (!xs.isEmpty) H) : kTru K (.ref a) H R := ⟨_, .inr (.inl ⟨xs, SqT.of h, rfl⟩), q⟩
end
/-! ### list.extend by a list, by a tuple -/
theorem ext_tup (l : Addr) (items : Array Value) (n : Nat) (b : Addr) (items2 : Array Value) (n2 : Nat) (d0 : Option Addr) (sl : Array (Option Value)) (hs0 : ¬(!items.isEmpty && Builtin.List.listTooLong (items.size + items2.size)) = true) (hs1 : items.size ≤ sizeLine) (hs2 : items.size + items2.size ≤ sizeLine + 1) :
    Meets (Builtin.«list.extend» ⟨[.ref l, .ref b], []⟩) (fun _ R s => s.heap.get? l = some { cls := .type "list", dict := none, data := .seq items n, slots := #[] } ∧ s.heap.get? b = some { cls := .type "tuple", dict := d0, data := .seq items2 n2, slots := sl } ∧ R (.ok (.ret Value.none)) { s with heap := s.heap.update l (Obj.mapSeq fun x => x ++ items2), toks := s.toks }) :=
  .of_wp fun prog w A R s h => by
    obtain ⟨hp, g, d, tk, os⟩ := s
    obtain ⟨hl, hb, h⟩ := h
    have f1 := PySem.AutoSeq1.sub_tuple_tuple
    have f2 := PySem.AutoSeq1.sub_list_list
    have f3 := PySem.AutoSeq1.sub_tuple_list
    have f4 := PySem.AutoSeq1.sub_list_tuple
    have hz' : (items ++ items2).size ≤ sizeLine + 1 := by rw [Array.size_append]; exact hs2
    wp_walk using (wpAny_updateSeq hl rfl (hz := hs1) (_hz' := hz')), PySem.AutoSeq1.wpAny_loadPart' hl, PySem.AutoSeq1.wpAny_loadPart' hb
    exact ⟨_, rfl, h⟩
section
variable {X : Cx}
def rExtendT (K : PySem.W.Frag) : V → List V → Hp → VK → Prop := fun x vs H Q => ∃ l b xs zs, x = .ref l ∧ vs = [.ref b] ∧ H l = some (.lst xs) ∧ SqT K H b zs ∧ xs.length + zs.length ≤ sizeLine ∧ Q .non (upd H l (.lst (xs ++ zs)))
theorem mt_extendT : MtM X "list.extend" (rExtendT X.K) := by
  intro pins s σ H x vs v us Q I rx rv h
  obtain ⟨l, b, xs, zs, rfl, rfl, hH, hB, hz, q⟩ := h
  cases rx
  obtain ⟨u, rfl, ru⟩ := rv.one
  cases ru
  obtain ⟨z, its, n, r, hl, e⟩ := I.lstM hH
  obtain ⟨its2, r2, ⟨⟨cl, dc, da, so⟩, e2, hc, n2, hd⟩, z2⟩ := I.tuple hB
  have hc : cl = .type "tuple" := hc
  have hd : da = .seq its2.toArray n2 := hd
  subst hc hd
  have hl2 := r2.length
  have hsz : its.toArray.size + its2.toArray.size ≤ sizeLine := by rw [List.size_toArray, List.size_toArray]; omega
  have hlong : ¬ (!its.toArray.isEmpty && Builtin.List.listTooLong (its.toArray.size + its2.toArray.size)) = true := by
    rw [notLongL hsz, Bool.and_false]
    exact Bool.false_ne_true
  refine call_meets F.slot_list_extend ⟨_, e, rfl⟩ F.entry_list_extend (F.args_list_extend_2 _ _) (ext_tup l its.toArray n b its2.toArray n2 dc so hlong (by rw [List.size_toArray]; omega) (by omega)) ⟨e, e2, ?_⟩
  refine ⟨.non, _, I.lset (its' := its ++ its2) hH e (by simp) (r.append r2) ?_, rfl, q⟩
  rw [List.length_append]
  omega
def rExtendA (K : PySem.W.Frag) : V → List V → Hp → VK → Prop := fun x vs H Q => rExtend x vs H Q ∨ rExtendT K x vs H Q
theorem mt_extendA (K : PySem.W.Frag) (e : X.K = K := by rfl) : MtR X "list.extend" (rExtendA K) := by
  subst e
  intro pins s σ H x vs v us Q I rx rv h
  rcases h with h | h
  · exact mt_extend pins s σ H x vs v us Q I rx rv h
  · exact mt_extendT pins s σ H x vs v us Q I rx rv h
end
section
variable {K : PySem.W.Frag} {F : Hp} {O O' : Own} {H : Hp} {Q : VK}
theorem g_extL {a b : Addr} {xs zs : List V} (hH : Has F O H) (hb : H b = some (.lst zs)) (c : Chg O a (.lst xs) (.lst (xs ++ zs)) O') (hl : xs.length + zs.length ≤ sizeLine) (q : ∀ H', Has F O' H' → Q .non H') : rExtendA K (.ref a) [.ref b] H Q :=
  .inl ⟨a, b, xs, zs, rfl, rfl, hH.get c.mem, hb, hl, q _ (hH.put c)⟩
theorem g_extT {a b : Addr} {xs zs : List V} (hH : Has F O H) (hb : H b = some (.tup zs)) (c : Chg O a (.lst xs) (.lst (xs ++ zs)) O') (hl : xs.length + zs.length ≤ sizeLine) (q : ∀ H', Has F O' H' → Q .non H') : rExtendA K (.ref a) [.ref b] H Q :=
  .inr ⟨a, b, xs, zs, rfl, rfl, hH.get c.mem, SqT.of hb, hl, q _ (hH.put c)⟩
end
theorem Has.made2 {F H H' : Hp} {O : Own} {p l : Addr} {o u : HO} (h : Has F O H) (np : H p = none) (nl : H l = none) (s : Same H H') (ep : H' p = some o) (el : H' l = some u) (ne : p ≠ l) : Has F ((p, o) :: (l, u) :: O) H' := by
  have h1 := h.made nl s el
  refine ⟨h1.same, fun q hq => ?_, ?_⟩
  · rcases List.mem_cons.mp hq with rfl | hq
    · exact ⟨h.same.free np, ep⟩
    · exact h1.own q hq
  · rw [List.map_cons]
    refine List.nodup_cons.mpr ⟨fun m => ?_, h1.nd⟩
    obtain ⟨q, hq, e⟩ := List.mem_map.mp m
    rcases List.mem_cons.mp hq with rfl | hq
    · exact ne e.symm
    · have := (h.own q hq).2
      rw [e, np] at this
      cases this
end Qk

namespace K04
open PySem PySem.Spec PyProof.Rows L2 Qk
/-! ### the text -/
def topS (i : Nat) : Stmt := PySem.Challenge.pw_partclones_k04_merge_unlike_lines.main.body.getD i (.Pass ⟨0, 0, 0, 0⟩)
abbrev s_common_lengths : Stmt := topS 1
abbrev n_common_lengths : List Str := ["old", "new", "lengths", "i", "j", "_"]
theorem sc_common_lengths : FnScope n_common_lengths ["old", "new"] (defScope s_common_lengths) := ⟨rfl, rfl, rfl, by decide +kernel, rfl, by decide +kernel, by decide +kernel⟩
abbrev s_matched : Stmt := topS 2
abbrev n_matched : List Str := ["old", "new", "lengths", "pairs", "i", "j"]
theorem sc_matched : FnScope n_matched ["old", "new"] (defScope s_matched) := ⟨rfl, rfl, rfl, by decide +kernel, rfl, by decide +kernel, by decide +kernel⟩
abbrev s_stable_lines : Stmt := topS 4
abbrev n_stable_lines : List Str := ["base", "ours", "theirs", "places", "i", "j"]
theorem sc_stable_lines : FnScope n_stable_lines ["base", "ours", "theirs"] (defScope s_stable_lines) := ⟨rfl, rfl, rfl, by decide +kernel, rfl, by decide +kernel, by decide +kernel⟩
abbrev s_runs : Stmt := topS 5
abbrev n_runs : List Str := ["base", "ours", "theirs", "runs", "i", "j", "k", "first_i", "first_j", "first_k", "length"]
theorem sc_runs : FnScope n_runs ["base", "ours", "theirs"] (defScope s_runs) := ⟨rfl, rfl, rfl, by decide +kernel, rfl, by decide +kernel, by decide +kernel⟩
abbrev s_text_chunks : Stmt := topS 6
abbrev n_text_chunks : List Str := ["base", "ours", "theirs", "chunks", "i", "j", "k", "end", "next_i", "next_j", "next_k", "length", "b", "x", "y", "lines"]
theorem sc_text_chunks : FnScope n_text_chunks ["base", "ours", "theirs"] (defScope s_text_chunks) := ⟨rfl, rfl, rfl, by decide +kernel, rfl, by decide +kernel, by decide +kernel⟩
abbrev s_clash_lines : Stmt := topS 12
abbrev n_clash_lines : List Str := ["b", "x", "y"]
theorem sc_clash_lines : FnScope n_clash_lines ["b", "x", "y"] (defScope s_clash_lines) := ⟨rfl, rfl, rfl, by decide +kernel, rfl, by decide +kernel, by decide +kernel⟩
abbrev s_merge_texts : Stmt := topS 13
abbrev n_merge_texts : List Str := ["base", "ours", "theirs", "lines", "clashes", "_", "b", "x", "y"]
theorem sc_merge_texts : FnScope n_merge_texts ["base", "ours", "theirs"] (defScope s_merge_texts) := ⟨rfl, rfl, rfl, by decide +kernel, rfl, by decide +kernel, by decide +kernel⟩
abbrev s_l_feed : Stmt := topS 15
abbrev n_l_feed : List Str := ["script", "cell"]
theorem sc_l_feed : FnScope n_l_feed ["script"] (defScope s_l_feed) := ⟨rfl, rfl, rfl, by decide +kernel, rfl, by decide +kernel, by decide +kernel⟩
abbrev s_l_next : Stmt := topS 16
abbrev n_l_next : List Str := ["cells", "many", "number"]
theorem sc_l_next : FnScope n_l_next ["cells", "many"] (defScope s_l_next) := ⟨rfl, rfl, rfl, by decide +kernel, rfl, by decide +kernel, by decide +kernel⟩
abbrev s_l_same : Stmt := topS 17
abbrev n_l_same : List Str := ["told", "due", "k"]
theorem sc_l_same : FnScope n_l_same ["told", "due"] (defScope s_l_same) := ⟨rfl, rfl, rfl, by decide +kernel, rfl, by decide +kernel, by decide +kernel⟩
abbrev s_l_menu : Stmt := topS 18
abbrev n_l_menu : List Str := ["place", "lines"]
theorem sc_l_menu : FnScope n_l_menu ["place"] (defScope s_l_menu) := ⟨rfl, rfl, rfl, by decide +kernel, rfl, by decide +kernel, by decide +kernel⟩
abbrev s_l_decided : Stmt := topS 19
abbrev n_l_decided : List Str := ["base", "ours", "theirs", "lines"]
theorem sc_l_decided : FnScope n_l_decided ["base", "ours", "theirs"] (defScope s_l_decided) := ⟨rfl, rfl, rfl, by decide +kernel, rfl, by decide +kernel, by decide +kernel⟩
abbrev s_l_side : Stmt := topS 20
abbrev n_l_side : List Str := ["base", "kept", "new", "lines", "k"]
theorem sc_l_side : FnScope n_l_side ["base", "kept", "new"] (defScope s_l_side) := ⟨rfl, rfl, rfl, by decide +kernel, rfl, by decide +kernel, by decide +kernel⟩
abbrev s_l_merged : Stmt := topS 21
abbrev n_l_merged : List Str := ["base", "kept", "new", "lines", "clashes", "part", "k", "side", "done"]
theorem sc_l_merged : FnScope n_l_merged ["base", "kept", "new"] (defScope s_l_merged) := ⟨rfl, rfl, rfl, by decide +kernel, rfl, by decide +kernel, by decide +kernel⟩
abbrev s_l_holds : Stmt := topS 22
abbrev n_l_holds : List Str := ["base", "kept", "new", "due", "ours", "theirs", "passed", "told"]
theorem sc_l_holds : FnScope n_l_holds ["base", "kept", "new"] (defScope s_l_holds) := ⟨rfl, rfl, rfl, by decide +kernel, rfl, by decide +kernel, by decide +kernel⟩
abbrev s_law : Stmt := topS 23
abbrev n_law : List Str := ["script", "cells", "size", "start", "base", "fates", "kept", "new", "ours", "theirs", "k", "fate"]
theorem sc_law : FnScope n_law ["script"] (defScope s_law) := ⟨rfl, rfl, rfl, by decide +kernel, rfl, by decide +kernel, by decide +kernel⟩
structure Txt (K : PySem.W.Frag) (mg : Str → Option Value) where
  f_common_lengths : Addr
  fd_common_lengths : FuncData
  F_common_lengths : Fun K "_common_lengths" "_common_lengths" s_common_lengths f_common_lengths fd_common_lengths
  g_common_lengths : mg "_common_lengths" = some (.ref f_common_lengths)
  b_common_lengths : Binds K fd_common_lengths ["old", "new"] []
  f_matched : Addr
  fd_matched : FuncData
  F_matched : Fun K "matched" "matched" s_matched f_matched fd_matched
  g_matched : mg "matched" = some (.ref f_matched)
  b_matched : Binds K fd_matched ["old", "new"] []
  f_stable_lines : Addr
  fd_stable_lines : FuncData
  F_stable_lines : Fun K "_stable_lines" "_stable_lines" s_stable_lines f_stable_lines fd_stable_lines
  g_stable_lines : mg "_stable_lines" = some (.ref f_stable_lines)
  b_stable_lines : Binds K fd_stable_lines ["base", "ours", "theirs"] []
  f_runs : Addr
  fd_runs : FuncData
  F_runs : Fun K "_runs" "_runs" s_runs f_runs fd_runs
  g_runs : mg "_runs" = some (.ref f_runs)
  b_runs : Binds K fd_runs ["base", "ours", "theirs"] []
  f_text_chunks : Addr
  fd_text_chunks : FuncData
  F_text_chunks : Fun K "text_chunks" "text_chunks" s_text_chunks f_text_chunks fd_text_chunks
  g_text_chunks : mg "text_chunks" = some (.ref f_text_chunks)
  b_text_chunks : Binds K fd_text_chunks ["base", "ours", "theirs"] []
  f_clash_lines : Addr
  fd_clash_lines : FuncData
  F_clash_lines : Fun K "_clash_lines" "_clash_lines" s_clash_lines f_clash_lines fd_clash_lines
  g_clash_lines : mg "_clash_lines" = some (.ref f_clash_lines)
  b_clash_lines : Binds K fd_clash_lines ["b", "x", "y"] []
  f_merge_texts : Addr
  fd_merge_texts : FuncData
  F_merge_texts : Fun K "merge_texts" "merge_texts" s_merge_texts f_merge_texts fd_merge_texts
  g_merge_texts : mg "merge_texts" = some (.ref f_merge_texts)
  b_merge_texts : Binds K fd_merge_texts ["base", "ours", "theirs"] []
  f_l_feed : Addr
  fd_l_feed : FuncData
  F_l_feed : Fun K "_law_feed" "_law_feed" s_l_feed f_l_feed fd_l_feed
  g_l_feed : mg "_law_feed" = some (.ref f_l_feed)
  b_l_feed : Binds K fd_l_feed ["script"] []
  f_l_next : Addr
  fd_l_next : FuncData
  F_l_next : Fun K "_law_next" "_law_next" s_l_next f_l_next fd_l_next
  g_l_next : mg "_law_next" = some (.ref f_l_next)
  b_l_next : Binds K fd_l_next ["cells", "many"] []
  f_l_same : Addr
  fd_l_same : FuncData
  F_l_same : Fun K "_law_same" "_law_same" s_l_same f_l_same fd_l_same
  g_l_same : mg "_law_same" = some (.ref f_l_same)
  b_l_same : Binds K fd_l_same ["told", "due"] []
  f_l_menu : Addr
  fd_l_menu : FuncData
  F_l_menu : Fun K "_law_menu" "_law_menu" s_l_menu f_l_menu fd_l_menu
  g_l_menu : mg "_law_menu" = some (.ref f_l_menu)
  b_l_menu : Binds K fd_l_menu ["place"] []
  f_l_decided : Addr
  fd_l_decided : FuncData
  F_l_decided : Fun K "_law_decided" "_law_decided" s_l_decided f_l_decided fd_l_decided
  g_l_decided : mg "_law_decided" = some (.ref f_l_decided)
  b_l_decided : Binds K fd_l_decided ["base", "ours", "theirs"] []
  f_l_side : Addr
  fd_l_side : FuncData
  F_l_side : Fun K "_law_side" "_law_side" s_l_side f_l_side fd_l_side
  g_l_side : mg "_law_side" = some (.ref f_l_side)
  b_l_side : Binds K fd_l_side ["base", "kept", "new"] []
  f_l_merged : Addr
  fd_l_merged : FuncData
  F_l_merged : Fun K "_law_merged" "_law_merged" s_l_merged f_l_merged fd_l_merged
  g_l_merged : mg "_law_merged" = some (.ref f_l_merged)
  b_l_merged : Binds K fd_l_merged ["base", "kept", "new"] []
  f_l_holds : Addr
  fd_l_holds : FuncData
  F_l_holds : Fun K "_law_holds" "_law_holds" s_l_holds f_l_holds fd_l_holds
  g_l_holds : mg "_law_holds" = some (.ref f_l_holds)
  b_l_holds : Binds K fd_l_holds ["base", "kept", "new"] []
  f_law : Addr
  fd_law : FuncData
  F_law : Fun K "law" "law" s_law f_law fd_law
  g_law : mg "law" = some (.ref f_law)
  b_law : Binds K fd_law ["script"] []
  m_abs : mg "abs" = none
  m_bool : mg "bool" = none
  m_dict : mg "dict" = none
  m_int : mg "int" = none
  m_isinstance : mg "isinstance" = none
  m_len : mg "len" = none
  m_list : mg "list" = none
  m_max : mg "max" = none
  m_range : mg "range" = none
  m_str : mg "str" = none
  m_tuple : mg "tuple" = none
  k_CLASH_START : ∃ u, mg "CLASH_START" = some u ∧ RelV (.str "<<<<<<<") u
  k_CLASH_BASE : ∃ u, mg "CLASH_BASE" = some u ∧ RelV (.str "|||||||") u
  k_CLASH_OTHER : ∃ u, mg "CLASH_OTHER" = some u ∧ RelV (.str "=======") u
  k_CLASH_END : ∃ u, mg "CLASH_END" = some u ∧ RelV (.str ">>>>>>>") u
/-! ### the mathematics -/
def lc : List Str → List Str → Nat
  | [], _ => 0
  | _ :: _, [] => 0
  | x :: xs, y :: ys => if x = y then lc xs ys + 1 else max (lc xs (y :: ys)) (lc (x :: xs) ys)
termination_by xs ys => xs.length + ys.length
def mt : List Str → List Str → Nat → Nat → List (Nat × Nat)
  | [], _, _, _ => []
  | _ :: _, [], _, _ => []
  | x :: xs, y :: ys, i, j => if x = y then (i, j) :: mt xs ys (i + 1) (j + 1) else if lc xs (y :: ys) ≥ lc (x :: xs) ys then mt xs (y :: ys) (i + 1) j else mt (x :: xs) ys i (j + 1)
termination_by xs ys => xs.length + ys.length
theorem lc_nil (xs : List Str) : lc xs [] = 0 := by
  cases xs <;> rw [lc]
theorem mt_lt : ∀ (xs ys : List Str) (i j : Nat) (p : Nat × Nat), p ∈ mt xs ys i j → (i ≤ p.1 ∧ p.1 < i + xs.length) ∧ j ≤ p.2 ∧ p.2 < j + ys.length
  | [], _, _, _, _, h => by rw [mt] at h; cases h
  | _ :: _, [], _, _, _, h => by rw [mt] at h; cases h
  | x :: xs, y :: ys, i, j, p, h => by
    rw [mt] at h
    rw [List.length_cons, List.length_cons]
    split at h
    · rcases List.mem_cons.mp h with rfl | h
      · simp only; omega
      · have := mt_lt xs ys (i + 1) (j + 1) p h
        omega
    · split at h
      · have := mt_lt xs (y :: ys) (i + 1) j p h
        rw [List.length_cons] at this
        omega
      · have := mt_lt (x :: xs) ys i (j + 1) p h
        rw [List.length_cons] at this
        omega
termination_by xs ys => xs.length + ys.length
theorem lc_at {xs ys : List Str} {i j : Nat} {x y : Str} (hx : xs[i]? = some x) (hy : ys[j]? = some y) :
    lc (xs.drop i) (ys.drop j) = if x = y then lc (xs.drop (i + 1)) (ys.drop (j + 1)) + 1 else max (lc (xs.drop (i + 1)) (ys.drop j)) (lc (xs.drop i) (ys.drop (j + 1))) := by
  obtain ⟨h1, e1⟩ := List.getElem?_eq_some_iff.mp hx
  obtain ⟨h2, e2⟩ := List.getElem?_eq_some_iff.mp hy
  rw [List.drop_eq_getElem_cons h1, List.drop_eq_getElem_cons h2, e1, e2, lc]
theorem mt_at {xs ys : List Str} {i j : Nat} {x y : Str} (hx : xs[i]? = some x) (hy : ys[j]? = some y) :
    mt (xs.drop i) (ys.drop j) i j = if x = y then (i, j) :: mt (xs.drop (i + 1)) (ys.drop (j + 1)) (i + 1) (j + 1) else if lc (xs.drop (i + 1)) (ys.drop j) ≥ lc (xs.drop i) (ys.drop (j + 1)) then mt (xs.drop (i + 1)) (ys.drop j) (i + 1) j
      else mt (xs.drop i) (ys.drop (j + 1)) i (j + 1) := by
  obtain ⟨h1, e1⟩ := List.getElem?_eq_some_iff.mp hx
  obtain ⟨h2, e2⟩ := List.getElem?_eq_some_iff.mp hy
  rw [List.drop_eq_getElem_cons h1, List.drop_eq_getElem_cons h2, e1, e2, mt]
theorem mt_end {xs ys : List Str} {i j : Nat} (h : xs.length ≤ i ∨ ys.length ≤ j) : mt (xs.drop i) (ys.drop j) i j = [] := by
  rcases h with h | h
  · rw [List.drop_eq_nil_of_le h, mt]
  · rw [List.drop_eq_nil_of_le h]
    cases xs.drop i <;> rw [mt]


/-! ### longest common parts -/
theorem lc_bounds : ∀ (n : Nat) (xs ys : List Str), xs.length + ys.length ≤ n → (∀ y, lc xs ys ≤ lc xs (y :: ys) ∧ lc xs (y :: ys) ≤ lc xs ys + 1) ∧ ∀ x, lc xs ys ≤ lc (x :: xs) ys ∧ lc (x :: xs) ys ≤ lc xs ys + 1
  | 0, xs, ys, h => by
    have e1 : xs = [] := List.eq_nil_of_length_eq_zero (by omega)
    have e2 : ys = [] := List.eq_nil_of_length_eq_zero (by omega)
    subst e1 e2
    refine ⟨fun y => ?_, fun x => ?_⟩
    · rw [lc, lc]; omega
    · rw [lc, lc_nil]; omega
  | n + 1, xs, ys, h => by
    refine ⟨fun y => ?_, fun x => ?_⟩
    · cases xs with
      | nil => rw [lc, lc]; omega
      | cons a xs =>
        rw [List.length_cons] at h
        have ih := lc_bounds n xs ys (by omega)
        have i1 := ih.2 a
        have i2 := ih.1 y
        rw [lc]
        split <;> omega
    · cases ys with
      | nil => rw [lc_nil, lc_nil]; omega
      | cons b ys =>
        rw [List.length_cons] at h
        have ih := lc_bounds n xs ys (by omega)
        have i1 := ih.2 x
        have i2 := ih.1 b
        rw [lc.eq_3]
        split <;> omega
theorem lc_y (xs ys : List Str) (y : Str) : lc xs ys ≤ lc xs (y :: ys) ∧ lc xs (y :: ys) ≤ lc xs ys + 1 := (lc_bounds _ xs ys (Nat.le_refl _)).1 y
theorem lc_x (xs ys : List Str) (x : Str) : lc xs ys ≤ lc (x :: xs) ys ∧ lc (x :: xs) ys ≤ lc xs ys + 1 := (lc_bounds _ xs ys (Nat.le_refl _)).2 x
theorem lc_drop1 (xs ys : List Str) : ∀ j, lc xs (ys.drop (j + 1)) ≤ lc xs (ys.drop j) := fun j => by
  by_cases h : j < ys.length
  · rw [List.drop_eq_getElem_cons h]
    exact (lc_y _ _ _).1
  · rw [List.drop_eq_nil_of_le (by omega : ys.length ≤ j), List.drop_eq_nil_of_le (by omega : ys.length ≤ j + 1)]
    exact Nat.le_refl _
theorem lc_drop (xs ys : List Str) (j : Nat) : ∀ d, lc xs (ys.drop (j + d)) ≤ lc xs (ys.drop j)
  | 0 => Nat.le_refl _
  | d + 1 => Nat.le_trans (lc_drop1 xs ys (j + d)) (lc_drop xs ys j d)
theorem lc_mono {xs ys : List Str} {i j : Nat} (h : i ≤ j) : lc xs (ys.drop j) ≤ lc xs (ys.drop i) := by
  have := lc_drop xs ys i (j - i)
  rw [show i + (j - i) = j by omega] at this
  exact this
theorem lc_len : ∀ (xs ys : List Str), lc xs ys ≤ xs.length
  | [], _ => by rw [lc]; exact Nat.le_refl _
  | x :: xs, ys => by
    have := (lc_x xs ys x).2
    have := lc_len xs ys
    rw [List.length_cons]; omega
theorem lc_leny (xs : List Str) : ∀ (ys : List Str), lc xs ys ≤ ys.length
  | [] => by rw [lc_nil]; exact Nat.le_refl _
  | y :: ys => by
    have := (lc_y xs ys y).2
    have := lc_leny xs ys
    rw [List.length_cons]; omega
theorem lc_step (x : Str) (xs : List Str) (k : Nat) : ∀ l : List Str, k + 1 ≤ lc (x :: xs) l ↔ k + 1 ≤ lc xs l ∨ ∃ i : Nat, l[i]? = some x ∧ k ≤ lc xs (l.drop (i + 1))
  | [] => by
    rw [lc_nil, lc_nil]
    constructor
    · intro h; omega
    · rintro (h | ⟨i, h, _⟩)
      · omega
      · simp at h
  | y :: l => by
    have ih := lc_step x xs k l
    have m1 := (lc_y xs l y).1
    have m2 := (lc_y xs l y).2
    have m3 := lc_x xs (y :: l) x
    constructor
    · intro h
      rw [lc] at h
      split at h
      · rename_i e
        subst e
        exact .inr ⟨0, rfl, by show k ≤ lc xs l; omega⟩
      · by_cases h1 : k + 1 ≤ lc xs (y :: l)
        · exact .inl h1
        · have h2 : k + 1 ≤ lc (x :: xs) l := by omega
          rcases ih.mp h2 with h3 | ⟨i, h3, h4⟩
          · exact .inl (by omega)
          · exact .inr ⟨i + 1, h3, h4⟩
    · rintro (h | ⟨i, h1, h2⟩)
      · omega
      · cases i with
        | zero =>
          have e : y = x := Option.some.inj h1
          subst e
          rw [lc, if_pos rfl]
          have h2' : k ≤ lc xs l := h2
          omega
        | succ i =>
          have h3 := ih.mpr (.inr ⟨i, h1, h2⟩)
          have := (lc_y (x :: xs) l y).1
          omega
/-! ### the greatest place from which k lines are common -/
def gr (p : Nat → Bool) : Nat → Nat
  | 0 => 0
  | j + 1 => if p (j + 1) = true then j + 1 else gr p j
theorem gr_le (p : Nat → Bool) : ∀ m, gr p m ≤ m
  | 0 => Nat.le_refl _
  | m + 1 => by
    rw [gr]
    split
    · exact Nat.le_refl _
    · exact Nat.le_succ_of_le (gr_le p m)
theorem gr_ok {p : Nat → Bool} (h0 : p 0 = true) : ∀ m, p (gr p m) = true
  | 0 => h0
  | m + 1 => by
    rw [gr]
    split
    · assumption
    · exact gr_ok h0 m
theorem gr_ge {p : Nat → Bool} : ∀ {m j : Nat}, j ≤ m → p j = true → j ≤ gr p m
  | 0, j, h, _ => h
  | m + 1, j, h, hp => by
    rw [gr]
    split
    · exact h
    · rename_i hn
      rcases Nat.lt_or_ge m j with h1 | h1
      · have : j = m + 1 := by omega
        subst this
        exact (hn hp).elim
      · exact gr_ge h1 hp
def mx (xs ys : List Str) (k : Nat) : Nat := gr (fun j => decide (k ≤ lc xs (ys.drop j))) ys.length
theorem mx_le (xs ys : List Str) (k : Nat) : mx xs ys k ≤ ys.length := gr_le _ _
theorem mx_iff {xs ys : List Str} {k j : Nat} (hk : k ≤ lc xs ys) (hj : j ≤ ys.length) : j ≤ mx xs ys k ↔ k ≤ lc xs (ys.drop j) := by
  constructor
  · intro h
    have e : k ≤ lc xs (ys.drop (mx xs ys k)) := of_decide_eq_true (gr_ok (p := fun j => decide (k ≤ lc xs (ys.drop j))) (decide_eq_true hk) ys.length)
    exact Nat.le_trans e (lc_mono h)
  · intro h
    exact gr_ge (p := fun j => decide (k ≤ lc xs (ys.drop j))) hj (decide_eq_true h)
theorem mx_zero (xs ys : List Str) : mx xs ys 0 = ys.length := by
  have h := (mx_iff (xs := xs) (ys := ys) (k := 0) (j := ys.length) (Nat.zero_le _) (Nat.le_refl _)).mpr (Nat.zero_le _)
  have := mx_le xs ys 0
  omega
/-- the row of a part: the places for 0, 1, .. common lines -/
def eR (xs ys : List Str) : List Nat := (List.range (lc xs ys + 1)).map (mx xs ys)
/-- what a turn finds: M is its greatest -/
theorem mx_step {x : Str} {xs ys : List Str} {k : Nat} (hk : k ≤ lc xs ys) {M : Nat} (hin : (M < mx xs ys k ∧ ys[M]? = some x) ∨ (k + 1 ≤ lc xs ys ∧ M = mx xs ys (k + 1)))
    (hall : ∀ j, j < mx xs ys k → ys[j]? = some x → j ≤ M) (hlast : k + 1 ≤ lc xs ys → mx xs ys (k + 1) ≤ M) : k + 1 ≤ lc (x :: xs) ys ∧ M = mx (x :: xs) ys (k + 1) := by
  have key : ∀ j, j ≤ ys.length → (k + 1 ≤ lc (x :: xs) (ys.drop j) ↔ j ≤ M) := fun j hj => by
    rw [lc_step]
    constructor
    · rintro (h | ⟨i, h1, h2⟩)
      · have hk1 : k + 1 ≤ lc xs ys := Nat.le_trans h (by have := lc_mono (xs := xs) (ys := ys) (Nat.zero_le j); exact this)
        exact Nat.le_trans ((mx_iff hk1 hj).mpr h) (hlast hk1)
      · rw [List.getElem?_drop] at h1
        rw [List.drop_drop] at h2
        have hlt := (List.getElem?_eq_some_iff.mp h1).1
        have h3 : j + i < mx xs ys k := (mx_iff hk (show j + (i + 1) ≤ ys.length by omega)).mpr h2
        have := hall _ h3 h1
        omega
    · intro h
      rcases hin with ⟨h1, h2⟩ | ⟨h1, h2⟩
      · refine .inr ⟨M - j, ?_, ?_⟩
        · rw [List.getElem?_drop, show j + (M - j) = M by omega]
          exact h2
        · rw [List.drop_drop, show j + (M - j + 1) = M + 1 by omega]
          exact (mx_iff hk (by have := (List.getElem?_eq_some_iff.mp h2).1; omega)).mp h1
      · exact .inl ((mx_iff h1 hj).mp (by omega))
  have h0 : k + 1 ≤ lc (x :: xs) ys := (key 0 (Nat.zero_le _)).mpr (Nat.zero_le _)
  have hM : M ≤ ys.length := by
    rcases hin with ⟨_, h2⟩ | ⟨_, h2⟩
    · exact Nat.le_of_lt (List.getElem?_eq_some_iff.mp h2).1
    · rw [h2]; exact mx_le _ _ _
  refine ⟨h0, Nat.le_antisymm ((mx_iff h0 hM).mpr ((key M hM).mpr (Nat.le_refl _))) ?_⟩
  exact (key _ (mx_le _ _ _)).mp ((mx_iff h0 (mx_le _ _ _)).mp (Nat.le_refl _))
/-- nothing found: no more common lines -/
theorem mx_stop {x : Str} {xs ys : List Str} {k : Nat} (hk : k ≤ lc xs ys) (hno : ∀ j, j < mx xs ys k → ys[j]? ≠ some x) (hlast : ¬ k + 1 ≤ lc xs ys) : ¬ k + 1 ≤ lc (x :: xs) ys := by
  rw [lc_step]
  rintro (h | ⟨i, h1, h2⟩)
  · exact hlast h
  · have hlt := (List.getElem?_eq_some_iff.mp h1).1
    exact hno i ((mx_iff hk (show i + 1 ≤ ys.length by omega)).mpr h2) h1
theorem cnt_le (n j : Nat) (f : Nat → Nat) (p : Nat) (hp : p ≤ n) (h : ∀ k, 1 ≤ k → k ≤ n → (j ≤ f k ↔ k ≤ p)) : ((List.range n).filter fun k => decide (j ≤ f (k + 1))).length = p := by
  have e : (List.range n).filter (fun k => decide (j ≤ f (k + 1))) = (List.range n).filter (fun k => decide (k < p)) := by
    apply List.filter_congr
    intro k hk
    have hk' := List.mem_range.mp hk
    rw [decide_eq_decide]
    rw [h (k + 1) (by omega) (by omega)]
    omega
  rw [e]
  clear e h
  induction n with
  | zero =>
    have : p = 0 := by omega
    subst this
    rfl
  | succ n ih =>
    rw [List.range_succ, List.filter_append, List.length_append]
    by_cases hn : p ≤ n
    · rw [ih hn]
      have : decide (n < p) = false := decide_eq_false (by omega)
      simp [this]
    · have e2 : p = n + 1 := by omega
      subst e2
      have e3 : (List.range n).filter (fun k => decide (k < n + 1)) = List.range n := List.filter_eq_self.mpr fun k hk => decide_eq_true (by have := List.mem_range.mp hk; omega)
      rw [e3, List.length_range]
      simp
theorem eR_count {xs ys : List Str} {j : Nat} (hj : j ≤ ys.length) : (((eR xs ys).drop 1).filter fun e => decide (j ≤ e)).length = lc xs (ys.drop j) := by
  unfold eR
  rw [List.range_succ_eq_map, List.map_cons, List.drop_one, List.tail_cons, List.map_map, List.filter_map, List.length_map]
  exact cnt_le (lc xs ys) j (mx xs ys) (lc xs (ys.drop j)) (by have := lc_mono (xs := xs) (ys := ys) (Nat.zero_le j); exact this) fun k _ hk => mx_iff hk hj
/-! ### common parts -/
theorem lc_has : ∀ (xs ys : List Str), ∃ q : List Str, q.Sublist xs ∧ q.Sublist ys ∧ q.length = lc xs ys
  | [], ys => ⟨[], List.nil_sublist _, List.nil_sublist _, by rw [lc]; rfl⟩
  | x :: xs, [] => ⟨[], List.nil_sublist _, List.nil_sublist _, by rw [lc]; rfl⟩
  | x :: xs, y :: ys => by
    rw [lc]
    split
    · rename_i e
      subst e
      obtain ⟨q, h1, h2, h3⟩ := lc_has xs ys
      exact ⟨x :: q, h1.cons_cons _, h2.cons_cons _, by rw [List.length_cons, h3]⟩
    · rcases Nat.le_total (lc xs (y :: ys)) (lc (x :: xs) ys) with h | h
      · obtain ⟨q, h1, h2, h3⟩ := lc_has (x :: xs) ys
        exact ⟨q, h1, h2.cons _, by omega⟩
      · obtain ⟨q, h1, h2, h3⟩ := lc_has xs (y :: ys)
        exact ⟨q, h1.cons _, h2, by omega⟩
termination_by xs ys => xs.length + ys.length
theorem lc_most : ∀ (xs ys q : List Str), q.Sublist xs → q.Sublist ys → q.length ≤ lc xs ys
  | [], ys, q, h, _ => by rw [List.sublist_nil.mp h]; exact Nat.zero_le _
  | x :: xs, [], q, _, h => by rw [List.sublist_nil.mp h]; exact Nat.zero_le _
  | x :: xs, y :: ys, q, h1, h2 => by
    cases q with
    | nil => exact Nat.zero_le _
    | cons a q =>
      rw [List.length_cons, lc]
      have t1 : q.Sublist xs := List.cons_sublist_cons.mp (by
        cases h1 with
        | cons _ h => exact (List.Sublist.cons_cons x ((List.sublist_cons_self a q).trans h))
        | cons_cons _ h => exact List.Sublist.cons_cons x h)
      have t2 : q.Sublist ys := List.cons_sublist_cons.mp (by
        cases h2 with
        | cons _ h => exact (List.Sublist.cons_cons y ((List.sublist_cons_self a q).trans h))
        | cons_cons _ h => exact List.Sublist.cons_cons y h)
      split
      · have := lc_most xs ys q t1 t2
        omega
      · rename_i ne
        cases h1 with
        | cons _ h =>
          have := lc_most xs (y :: ys) (a :: q) h h2
          rw [List.length_cons] at this
          omega
        | cons_cons _ h =>
          cases h2 with
          | cons _ h' =>
            have := lc_most (x :: xs) ys (x :: q) (h.cons_cons _) h'
            rw [List.length_cons] at this
            omega
          | cons_cons _ h' => exact (ne rfl).elim
termination_by xs ys => xs.length + ys.length
theorem mt_length : ∀ (xs ys : List Str) (i j : Nat), (mt xs ys i j).length = lc xs ys
  | [], _, _, _ => by rw [mt, lc]; rfl
  | _ :: _, [], _, _ => by rw [mt, lc]; rfl
  | x :: xs, y :: ys, i, j => by
    rw [mt, lc]
    split
    · rw [List.length_cons, mt_length xs ys]
    · split
      · rw [mt_length xs (y :: ys)]; omega
      · rw [mt_length (x :: xs) ys]; omega
termination_by xs ys => xs.length + ys.length
theorem mt_self : ∀ (xs : List Str) (i : Nat), mt xs xs i i = (List.range xs.length).map fun k => (i + k, i + k)
  | [], i => by rw [mt]; rfl
  | x :: xs, i => by
    rw [mt, if_pos rfl, mt_self xs (i + 1), List.length_cons, List.range_succ_eq_map, List.map_cons, List.map_map]
    congr 1
    apply List.map_congr_left
    intro k _
    show (i + 1 + k, i + 1 + k) = (i + (k + 1), i + (k + 1))
    rw [show i + 1 + k = i + (k + 1) by omega]

local macro_rules | `(tactic| walk_at "m") => `(tactic| ((repeat (first | exact List.Mem.head _ | apply List.Mem.tail)); done))
local macro_rules | `(tactic| walk_at "h") => `(tactic| first | assumption | exact Has.gF (by assumption) (by assumption) | exact Has.get (by assumption) (by walk_at "m"))
local macro_rules | `(tactic| walk_at "c") => `(tactic| ((repeat (first | exact Chg.hd | apply Chg.tl)); done))
local macro_rules | `(tactic| walk_at "is") => `(tactic| first
  | ((with_reducible refine' is2_non ?gh ?_); (case gh => walk_at "h"))
  | (with_reducible refine is_int_list ?_)
  | (with_reducible refine is_int_tuple ?_)
  | (with_reducible refine is_int_dict ?_)
  | (with_reducible refine is_int_int ?_)
  | (with_reducible refine is_int_bool ?_)
  | (with_reducible refine is_int_str ?_)
  | ((with_reducible refine' is2_int ?gh ?_); (case gh => walk_at "h"))
  | (with_reducible refine is_str_list ?_)
  | (with_reducible refine is_str_tuple ?_)
  | (with_reducible refine is_str_dict ?_)
  | (with_reducible refine is_str_int ?_)
  | (with_reducible refine is_str_bool ?_)
  | (with_reducible refine is_str_str ?_)
  | ((with_reducible refine' is2_str ?gh ?_); (case gh => walk_at "h"))
  | (with_reducible refine is_bool_list ?_)
  | (with_reducible refine is_bool_tuple ?_)
  | (with_reducible refine is_bool_dict ?_)
  | (with_reducible refine is_bool_int ?_)
  | (with_reducible refine is_bool_bool ?_)
  | (with_reducible refine is_bool_str ?_)
  | ((with_reducible refine' is2_bool ?gh ?_); (case gh => walk_at "h"))
  | ((with_reducible refine' is_list_list ?gh ?_); (case gh => walk_at "h"))
  | ((with_reducible refine' is_list_tuple ?gh ?_); (case gh => walk_at "h"))
  | ((with_reducible refine' is_list_dict ?gh ?_); (case gh => walk_at "h"))
  | ((with_reducible refine' is_list_int ?gh ?_); (case gh => walk_at "h"))
  | ((with_reducible refine' is_list_bool ?gh ?_); (case gh => walk_at "h"))
  | ((with_reducible refine' is_list_str ?gh ?_); (case gh => walk_at "h"))
  | ((with_reducible refine' is2_list ?ga ?gb ?_); (case ga => walk_at "h"); (case gb => walk_at "h"))
  | ((with_reducible refine' is_tuple_list ?gh ?_); (case gh => walk_at "h"))
  | ((with_reducible refine' is_tuple_tuple ?gh ?_); (case gh => walk_at "h"))
  | ((with_reducible refine' is_tuple_dict ?gh ?_); (case gh => walk_at "h"))
  | ((with_reducible refine' is_tuple_int ?gh ?_); (case gh => walk_at "h"))
  | ((with_reducible refine' is_tuple_bool ?gh ?_); (case gh => walk_at "h"))
  | ((with_reducible refine' is_tuple_str ?gh ?_); (case gh => walk_at "h"))
  | ((with_reducible refine' is2_tuple ?ga ?gb ?_); (case ga => walk_at "h"); (case gb => walk_at "h"))
  | ((with_reducible refine' is_dict_list ?gh ?_); (case gh => walk_at "h"))
  | ((with_reducible refine' is_dict_tuple ?gh ?_); (case gh => walk_at "h"))
  | ((with_reducible refine' is_dict_dict ?gh ?_); (case gh => walk_at "h"))
  | ((with_reducible refine' is_dict_int ?gh ?_); (case gh => walk_at "h"))
  | ((with_reducible refine' is_dict_bool ?gh ?_); (case gh => walk_at "h"))
  | ((with_reducible refine' is_dict_str ?gh ?_); (case gh => walk_at "h"))
  | ((with_reducible refine' is2_dict ?ga ?gb ?_); (case ga => walk_at "h"); (case gb => walk_at "h")))
local macro_rules | `(tactic| walk_at "g") => `(tactic| first
  | (with_reducible refine g_seq ?_)
  | (with_reducible refine g_asg ?_)
  | ((with_reducible refine g_name ?_); dsimp only [List.set, wipe, List.map])
  | ((with_reducible refine' g_var ?gv ?_); (case gv => exact rfl))
  | (with_reducible refine g_c ?_)
  | (with_reducible refine g_op ?_)
  | (with_reducible refine g_cons ?_)
  | (with_reducible refine g_nil ?_)
  | (with_reducible refine g_cb ?_)
  | (with_reducible refine g_call ?_)
  | (with_reducible refine g_tup ?_)
  | (with_reducible refine g_lst ?_)
  | (with_reducible refine g_bm ?_)
  | (with_reducible refine g_bm0 ?_)
  | ((with_reducible refine' g_kbm ?gh ?_); (case gh => walk_at "h"))
  | (with_reducible refine g_drop ?_)
  | (with_reducible refine g_ret ?_)
  | (with_reducible refine g_retN ?_)
  | (with_reducible refine g_next ?_)
  | (with_reducible refine g_brk ?_)
  | (with_reducible refine g_cont ?_)
  | (with_reducible refine g_if ?_)
  | ((with_reducible refine' g_aug ?gv ?_); (case gv => exact rfl))
  | (with_reducible refine g_ipI ?_)
  | (with_reducible refine g_test ?_)
  | (with_reducible refine g_tB ?_)
  | (with_reducible refine g_kB ?_)
  | (with_reducible refine g_not ?_)
  | (with_reducible refine g_and ?_)
  | (with_reducible refine g_or ?_)
  | (with_reducible refine g_andV ?_)
  | (with_reducible refine g_orV ?_)
  | (with_reducible refine g_notV ?_)
  | (with_reducible refine g_ifE ?_)
  | (with_reducible refine g_addI ?_)
  | (with_reducible refine g_rI0 ?_)
  | (with_reducible refine g_eqI ?_)
  | (with_reducible refine g_eqS ?_)
  | (with_reducible refine g_neI ?_)
  | (with_reducible refine g_neS ?_)
  | (with_reducible refine g_isN ?_)
  | (with_reducible refine g_notN ?_)
  | (with_reducible refine g_int ?_)
  | (with_reducible refine g_max2 ?_)
  | ((with_reducible refine' g_lenL ?gh ?_); (case gh => walk_at "h"))
  | (with_reducible refine g_sub ?_)
  | (with_reducible refine g_gcons ?_)
  | (with_reducible refine g_gnil ?_)
  | (with_reducible refine g_un ?_)
  | (with_reducible refine g_rU ?_)
  | (with_reducible refine g_forL ?_)
  | (with_reducible refine g_forR1 ?_)
  | (with_reducible refine g_forR2 ?_)
  | (with_reducible refine g_forR3 ?_)
  | (with_reducible refine g_lcL ?_)
  | (with_reducible refine g_lcR1 ?_)
  | (with_reducible refine g_lcR2 ?_)
  | (with_reducible refine g_slice ?_)
  | (with_reducible refine g_part ?_)
  | (with_reducible refine g_kOI ?_)
  | (with_reducible refine g_nopart ?_)
  | (with_reducible refine g_yes ?_)
  | ((with_reducible refine' g_wipe ?gv ?_); (case gv => exact rfl))
  | (with_reducible refine iteT ?_)
  | (with_reducible refine iteF ?_)
  | (with_reducible refine i_nf ?_)
  | (with_reducible refine i_nt ?_)
  | ((with_reducible refine' g_gtup ?gh ?gl ?_); (case gh => walk_at "h"); (case gl => exact rfl))
  | ((with_reducible refine' g_notinI ?gh ?_); (case gh => walk_at "h"))
  | ((with_reducible refine' g_inI ?gh ?_); (case gh => walk_at "h"))
  | ((with_reducible refine' g_kget2 ?gh ?_); (case gh => walk_at "h"))
  | ((with_reducible refine' g_kgotI ?gh ?_); (case gh => walk_at "h"))
  | (with_reducible refine g_tRev ?_)
  | (with_reducible refine g_neB ?_)
  | (with_reducible refine g_eqB ?_)
  | ((with_reducible refine' g_lenT ?gh ?_); (case gh => walk_at "h"))
  | (with_reducible refine g_star ?_)
  | ((with_reducible refine' g_kstarL ?gh ?_); (case gh => walk_at "h"))
  | ((with_reducible refine' g_kstarT ?gh ?_); (case gh => walk_at "h"))
  | (with_reducible refine g_tru ?_)
  | ((with_reducible refine' g_truL ?gh ?_); (case gh => walk_at "h"))
  | (with_reducible refine g_get2 ?_)
  | walk_at "is")
local macro_rules | `(tactic| walk_at "gg") => `(tactic| repeat walk_at "g")
local macro_rules | `(tactic| walk_at "sz") => `(tactic| (refine sz ?_; simp only [List.length_cons, List.length_nil, List.length_map, List.length_append, List.length_replicate]; omega))

/-! ### tables -/
def tz (n m i j k l : Nat) : Prop := i < k ∨ (i = k ∧ j ≤ l) ∨ l = m ∨ k = n
/-- the rows from (i, j) on are right -/
structure Tb (xs ys : List Str) (i j : Nat) (rows : List (Addr × List Int)) : Prop where
  len : rows.length = xs.length + 1
  wid : ∀ (k : Nat) (r : Addr × List Int), rows[k]? = some r → r.2.length = ys.length + 1
  val : ∀ (k l : Nat) (r : Addr × List Int) (z : Int), rows[k]? = some r → r.2[l]? = some z → tz xs.length ys.length i j k l → z = (lc (xs.drop k) (ys.drop l) : Nat)
theorem Tb.start {xs ys : List Str} {rows : List (Addr × List Int)} (hl : rows.length = xs.length + 1) (h : ∀ r ∈ rows, r.2 = List.replicate (ys.length + 1) 0) : Tb xs ys xs.length 0 rows := by
  refine ⟨hl, fun k r hr => ?_, fun k l r z hr hz ht => ?_⟩
  · rw [h r (List.mem_of_getElem? hr), List.length_replicate]
  · have e := h r (List.mem_of_getElem? hr)
    rw [e, List.getElem?_replicate] at hz
    have hk : k < xs.length + 1 := by rw [← hl]; exact (List.getElem?_eq_some_iff.mp hr).1
    split at hz
    · have hz' : z = 0 := (Option.some.inj hz).symm
      subst hz'
      have e0 : lc (xs.drop k) (ys.drop l) = 0 := by
        rcases ht with ht | ht | ht | ht
        · omega
        · rw [← ht.1, List.drop_length, lc]
        · rw [ht, List.drop_length, lc_nil]
        · rw [ht, List.drop_length, lc]
      rw [e0]; rfl
    · cases hz
theorem Tb.row {xs ys : List Str} {i : Nat} {rows : List (Addr × List Int)} (h : Tb xs ys (i + 1) 0 rows) : Tb xs ys i ys.length rows := by
  refine ⟨h.len, h.wid, fun k l r z hr hz ht => h.val k l r z hr hz ?_⟩
  have hl : l < ys.length + 1 := by rw [← h.wid k r hr]; exact (List.getElem?_eq_some_iff.mp hz).1
  unfold tz at *
  omega
theorem Tb.set {xs ys : List Str} {i j : Nat} {rows : List (Addr × List Int)} {r : Addr × List Int} {z : Int} (h : Tb xs ys i (j + 1) rows) (hr : rows[i]? = some r) (hz : z = (lc (xs.drop i) (ys.drop j) : Nat)) (hj : j < ys.length + 1) :
    Tb xs ys i j (rows.set i (r.1, r.2.set j z)) := by
  have hi := (List.getElem?_eq_some_iff.mp hr).1
  have hw := h.wid i r hr
  refine ⟨by rw [List.length_set]; exact h.len, fun k q hq => ?_, fun k l q y hq hy ht => ?_⟩
  · by_cases e : i = k
    · subst e
      rw [List.getElem?_set_self hi] at hq
      rw [← Option.some.inj hq, List.length_set]
      exact hw
    · rw [List.getElem?_set_ne e] at hq
      exact h.wid k q hq
  · by_cases e : i = k
    · subst e
      rw [List.getElem?_set_self hi] at hq
      rw [← Option.some.inj hq] at hy
      by_cases e2 : j = l
      · subst e2
        rw [List.getElem?_set_self (by rw [hw]; exact hj)] at hy
        rw [← Option.some.inj hy]
        exact hz
      · rw [List.getElem?_set_ne e2] at hy
        refine h.val i l r y hr hy ?_
        unfold tz at *
        omega
    · rw [List.getElem?_set_ne e] at hq
      refine h.val k l q y hq hy ?_
      unfold tz at *
      omega
/-- the same place set to something first -/
theorem Tb.any {xs ys : List Str} {i j : Nat} {rows : List (Addr × List Int)} {r : Addr × List Int} {z : Int} (h : Tb xs ys i (j + 1) rows) (hr : rows[i]? = some r) (hj : j < ys.length) (hi' : i < xs.length) : Tb xs ys i (j + 1) (rows.set i (r.1, r.2.set j z)) := by
  have hi := (List.getElem?_eq_some_iff.mp hr).1
  have hw := h.wid i r hr
  refine ⟨by rw [List.length_set]; exact h.len, fun k q hq => ?_, fun k l q y hq hy ht => ?_⟩
  · by_cases e : i = k
    · subst e
      rw [List.getElem?_set_self hi] at hq
      rw [← Option.some.inj hq, List.length_set]
      exact hw
    · rw [List.getElem?_set_ne e] at hq
      exact h.wid k q hq
  · by_cases e : i = k
    · subst e
      rw [List.getElem?_set_self hi] at hq
      rw [← Option.some.inj hq] at hy
      have e2 : j ≠ l := by unfold tz at ht; omega
      rw [List.getElem?_set_ne e2] at hy
      exact h.val i l r y hr hy ht
    · rw [List.getElem?_set_ne e] at hq
      exact h.val k l q y hq hy ht
theorem Tb.get {xs ys : List Str} {i j k l : Nat} {rows : List (Addr × List Int)} {r : Addr × List Int} (h : Tb xs ys i j rows) (hr : rows[k]? = some r) (hl : l < ys.length + 1) (ht : tz xs.length ys.length i j k l) :
    r.2[l]? = some ((lc (xs.drop k) (ys.drop l) : Nat) : Int) := by
  have hw := h.wid k r hr
  have e : l < r.2.length := by omega
  have := h.val k l r _ hr (List.getElem?_eq_getElem e) ht
  rw [List.getElem?_eq_getElem e, this]
theorem flat_rep (k : Nat) (z : Int) : (List.replicate k [V.int z]).flatten = (List.replicate k z).map V.int := by
  induction k with
  | zero => rfl
  | succ k ih =>
    rw [List.replicate_succ, List.flatten_cons, ih, List.replicate_succ]
    rfl
/-- a table that stands in H -/
def Table (H : Hp) (t : Addr) (xs ys : List Str) : Prop := ∃ rows : List (Addr × List Int), Tb xs ys 0 0 rows ∧ H t = some (.lst (rows.map fun r => V.ref r.1)) ∧ ∀ r ∈ rows, H r.1 = some (.lst (r.2.map V.int))
def prd (p : Nat × Nat) : PyData := .tuple [.int p.1, .int p.2]
section
variable {P : Program} {w : World} {K : PySem.W.Frag} {mg : Str → Option Value} {base : Heap} {σ : L2.St} {F : Hp} {O O' : Own} {H : Hp} {Q : VK} {t : Addr} {xs ys : List Str}
/-- lengths[k][l] of a table that stands -/
theorem g_tabAt {i : Int} (h : Table H t xs ys) (hi : 0 ≤ i) (hi2 : i ≤ xs.length) (q : ∀ r, H r = some (.lst ((List.range (ys.length + 1)).map fun l => V.int (lc (xs.drop i.toNat) (ys.drop l) : Nat))) → Q (.ref r) H) : rIxA K (.ref t) (.int i) H Q := by
  obtain ⟨rows, tb, h1, h2⟩ := h
  have e : i.toNat < rows.length := by rw [tb.len]; omega
  have hr := List.getElem?_eq_getElem e
  refine g_ixL h1 (at_n hi (v := .ref rows[i.toNat].1) ?_) (q _ ?_)
  · rw [List.getElem?_map, hr]
    rfl
  · rw [h2 _ (List.getElem_mem e)]
    congr 1
    congr 1
    apply List.ext_getElem?
    intro l
    rw [List.getElem?_map, List.getElem?_map]
    by_cases hl : l < ys.length + 1
    · rw [tb.get hr hl (by unfold tz; omega), List.getElem?_range hl]
      rfl
    · rw [List.getElem?_eq_none (by rw [tb.wid _ _ hr]; omega), List.getElem?_eq_none (by rw [List.length_range]; omega)]
      rfl
def sp_common_lengths (K : PySem.W.Frag) : Sp := fun vs H Q _ => ∃ (a b : Addr) (xs ys : List Str), vs = [.ref a, .ref b] ∧ H a = some (.lst (xs.map V.str)) ∧ H b = some (.lst (ys.map V.str)) ∧ xs.length ≤ 1000 ∧ ys.length ≤ 1000 ∧
  ∀ t H', Same H H' → H t = none → Table H' t xs ys → Q (.ref t) H'
theorem sp_common_lengths_len {vs H Q E} (h : sp_common_lengths K vs H Q E) : vs.length = 2 := by
  obtain ⟨_, _, _, _, rfl, _⟩ := h
  rfl
theorem ok_common_lengths (T : Txt K mg) : FnOk P w K mg base CX0 1 T.f_common_lengths T.fd_common_lengths ["old", "new"] (sp_common_lengths K) := by
  refine T.F_common_lengths.ok sc_common_lengths (fun vs H Q E h => sp_common_lengths_len h) (fun cdv A outer s H vs Q E hr h => ?_)
  refine ⟨_, (pss_cons (ps_setLc (i := 2) (own := [("_", 5)]) (g := gName 5) (tt := tYes) rfl sc_common_lengths.nd rfl rfl (sw_true rfl rfl rfl (by decide +kernel)) (pi_range1 rfl T.m_range (pa_cons (pe_op (op_addK K) (pe_callB (cr_lenK K) (by rfl) T.m_len (by decide +kernel) (pa_cons (pv 0) pa_nil)) pe_int) pa_nil)) (blkOk_by (N := n_common_lengths) (sc := defScope s_common_lengths) (by decide +kernel)) (fun _ _ _ _ _ => (pg_name (i := 5) sc_common_lengths.nd rfl (.inl rfl))) (fun _ _ _ _ _ => pts_nil) (fun _ _ _ _ _ => (pe_op op_mulA (pe_lst (pa_cons pe_int pa_nil)) (pe_op (op_addK K) (pe_callB (cr_lenK K) (by rfl) T.m_len (by decide +kernel) (pa_cons (pv 1) pa_nil)) pe_int))))
      (pss_cons (ps_for PassesOwn.never rfl (pi_range3 rfl T.m_range (pa_cons (pe_op op_sub (pe_callB (cr_lenK K) (by rfl) T.m_len (by decide +kernel) (pa_cons (pv 0) pa_nil)) pe_int) (pa_cons (pe_un un_neg pe_int) (pa_cons (pe_un un_neg pe_int) pa_nil)))) (pg_name (i := 3) sc_common_lengths.nd rfl (.inl rfl)) (pss_one (ps_for PassesOwn.never rfl (pi_range3 rfl T.m_range (pa_cons (pe_op op_sub (pe_callB (cr_lenK K) (by rfl) T.m_len (by decide +kernel) (pa_cons (pv 1) pa_nil)) pe_int) (pa_cons (pe_un un_neg pe_int) (pa_cons (pe_un un_neg pe_int) pa_nil)))) (pg_name (i := 4) sc_common_lengths.nd rfl (.inl rfl)) (pss_one (ps_if (pt_cmpR (op_eqK K hr.units) (pe_ix (ix_K K (hu_of hr)) (pv 0) (pv 3) (fun _ _ => rfl)) (pe_ix (ix_K K (hu_of hr)) (pv 1) (pv 4) (fun _ _ => rfl)) (nomark _)) (pss_one (ps_asg (pe_op (op_addK K) (pe_ix (ix_K K (hu_of hr)) (pe_ix (ix_K K (hu_of hr)) (pv 2) (pe_op (op_addK K) (pv 3) pe_int) (fun _ _ => rfl)) (pe_op (op_addK K) (pv 4) pe_int) (fun _ _ => rfl)) pe_int) (pg_sub (pe_ix (ix_K K (hu_of hr)) (pv 2) (pv 3) (fun _ _ => rfl)) (pv 4) (set_any (hu_of hr))))) (pss_one (ps_asg (pe_callB (cr_max2 rfl) (by rfl) T.m_max (by decide +kernel) (pa_cons (pe_ix (ix_K K (hu_of hr)) (pe_ix (ix_K K (hu_of hr)) (pv 2) (pe_op (op_addK K) (pv 3) pe_int) (fun _ _ => rfl)) (pv 4) (fun _ _ => rfl)) (pa_cons (pe_ix (ix_K K (hu_of hr)) (pe_ix (ix_K K (hu_of hr)) (pv 2) (pv 3) (fun _ _ => rfl)) (pe_op (op_addK K) (pv 4) pe_int) (fun _ _ => rfl)) pa_nil))) (pg_sub (pe_ix (ix_K K (hu_of hr)) (pv 2) (pv 3) (fun _ _ => rfl)) (pv 4) (set_any (hu_of hr))))))))))
      (pss_one (ps_ret (pv 2))))), ?_⟩
  obtain ⟨a, b, xs, ys, rfl, ha, hb, hx, hy, q⟩ := h
  have hH := Has.start H
  refine g_start (σ' := [some (.ref a), some (.ref b), none, none, none, none]) rfl ?_
  walk_at "gg"
  rw [List.length_map]
  refine k_lcR1 (by omega) (by omega) hH (fun i acc F' O' => ∃ rows : List (Addr × List Int), acc = rows.map (fun r => V.ref r.1) ∧ rows.length = i ∧ (∀ r ∈ rows, r.2 = List.replicate (ys.length + 1) 0) ∧ H = F' ∧ O' = rows.map rowO) ⟨[], rfl, rfl, by simp, rfl, rfl⟩ ?_ ?_
  · rintro i acc F' O' D H1 hi ⟨rows, rfl, rfl, hr, rfl, rfl⟩ hh
    walk_at "gg"
    refine g_klst (by walk_at "sz") hh (fun p1 H2 n2 h2 => ?_)
    walk_at "gg"
    rw [List.length_map]
    refine g_mulL (by walk_at "h") (by omega) (by omega) (sz (by show 1 * _ ≤ _; omega)) h2 (fun p2 H3 n3 h3 => ?_)
    have e1 : ((ys.length : Int) + 1).toNat = ys.length + 1 := by omega
    rw [e1, flat_rep] at h3
    have h4 := h3.sub (.cons₂ _ (.cons _ (List.Sublist.refl _)))
    have h5 : Has H ((D, .lst (rows.map fun r => V.ref r.1)) :: (rows ++ [(p2, List.replicate (ys.length + 1) 0)]).map rowO) H3 := by
      refine h4.perm ?_
      rw [List.map_append]
      exact ((List.Perm.cons _ (List.perm_append_singleton _ _)).trans (List.Perm.swap _ _ _))
    refine k_turn h5 (by rw [List.length_map]; omega) ⟨rows ++ [(p2, List.replicate (ys.length + 1) 0)], by rw [List.map_append]; rfl, by rw [List.length_append]; rfl, fun r h => ?_, rfl, rfl⟩
    rcases List.mem_append.mp h with h | h
    · exact hr r h
    · rw [List.mem_singleton.mp h]
  · rintro acc F' O' D H1 ⟨rows, rfl, hk, hr, rfl, rfl⟩ hh
    have hk' : rows.length = xs.length + 1 := by omega
    have tb0 := Tb.start (xs := xs) (ys := ys) hk' hr
    have hh1 : Has H (tabO D rows ++ []) H1 := by rw [List.append_nil]; exact hh
    walk_at "gg"
    refine k_forDown (n := xs.length) (by rw [List.length_map]) (by omega) (fun i σ H' => ∃ (rows : List (Addr × List Int)) (y3 y4 : Option V), σ = [some (.ref a), some (.ref b), some (.ref D), y3, y4, none] ∧ Has H (tabO D rows ++ []) H' ∧ Tb xs ys i 0 rows) ⟨rows, none, none, rfl, hh1, tb0⟩ ?_ ?_
    · rintro i σ H2 hi ⟨rows, y3, y4, rfl, h2, tb⟩
      walk_at "gg"
      refine k_forDown (n := ys.length) (by rw [List.length_map]) (by omega) (fun j σ H' => ∃ (rows : List (Addr × List Int)) (y4 : Option V), σ = [some (.ref a), some (.ref b), some (.ref D), some (.int i), y4, none] ∧ Has H (tabO D rows ++ []) H' ∧ Tb xs ys i j rows) ⟨rows, y4, rfl, h2, tb.row⟩ ?_ ?_
      · rintro j σ H3 hj ⟨rows, y4, rfl, h3, tb⟩
        have hxi : xs[i]? = some xs[i] := List.getElem?_eq_getElem hi
        have hyj : ys[j]? = some ys[j] := List.getElem?_eq_getElem hj
        have hlen := tb.len
        have hrow : ∀ k, k < xs.length + 1 → ∃ r, rows[k]? = some r := fun k hk => ⟨rows[k], List.getElem?_eq_getElem (by omega)⟩
        walk_at "gg"
        refine g_ixZ (by walk_at "h") (by omega) (by omega) (fun x hx' => ?_)
        walk_at "gg"
        refine g_ixZ (by walk_at "h") (by omega) (by omega) (fun y hy' => ?_)
        have ex : x = xs[i] := Option.some.inj (hx'.symm.trans hxi)
        have ey : y = ys[j] := Option.some.inj (hy'.symm.trans hyj)
        subst ex ey
        have la := lc_at hxi hyj
        walk_at "gg"
        refine i_d (fun e => ?_) (fun e => ?_)
        · rw [if_pos e] at la
          walk_at "gg"
          refine g_ixRow h3 (by omega) (by omega) (fun r hr h5 => ?_)
          have e1 : ((i : Int) + 1).toNat = i + 1 := by omega
          have e2 : ((j : Int) + 1).toNat = j + 1 := by omega
          rw [e1] at hr
          have hw := tb.wid _ _ hr
          walk_at "gg"
          refine g_ixI h5 (by omega) (by omega) (fun z hz => ?_)
          rw [e2, tb.get hr (by omega) (by unfold tz; omega)] at hz
          have hz' := (Option.some.inj hz).symm
          walk_at "gg"
          refine g_ixRow h3 (by omega) (by omega) (fun r2 hr2 h6 => ?_)
          walk_at "gg"
          have hr2' : rows[i]? = some r2 := hr2
          have hw2 := tb.wid _ _ hr2'
          refine g_setRow h3 hr2' (by omega) (by omega) (fun H4 h4 => ?_)
          exact ⟨_, _, rfl, h4, tb.set hr2' (by rw [la, hz']; omega) (by omega)⟩
        · rw [if_neg e] at la
          walk_at "gg"
          refine g_ixRow h3 (by omega) (by omega) (fun r hr h5 => ?_)
          have e1 : ((i : Int) + 1).toNat = i + 1 := by omega
          have e2 : ((j : Int) + 1).toNat = j + 1 := by omega
          rw [e1] at hr
          have hw := tb.wid _ _ hr
          walk_at "gg"
          refine g_ixI h5 (by omega) (by omega) (fun z hz => ?_)
          rw [show ((j : Int)).toNat = j from rfl, tb.get hr (by omega) (by unfold tz; omega)] at hz
          have hz' := (Option.some.inj hz).symm
          walk_at "gg"
          refine g_ixRow h3 (by omega) (by omega) (fun r3 hr3 h7 => ?_)
          have hr3' : rows[i]? = some r3 := hr3
          have hw3 := tb.wid _ _ hr3'
          walk_at "gg"
          refine g_ixI h7 (by omega) (by omega) (fun z3 hz3 => ?_)
          rw [e2, tb.get hr3' (by omega) (by unfold tz; omega)] at hz3
          have hz3' := (Option.some.inj hz3).symm
          walk_at "gg"
          refine g_ixRow h3 (by omega) (by omega) (fun r2 hr2 h6 => ?_)
          walk_at "gg"
          have hr2' : rows[i]? = some r2 := hr2
          have hw2 := tb.wid _ _ hr2'
          refine g_setRow h3 hr2' (by omega) (by omega) (fun H4 h4 => ?_)
          exact ⟨_, _, rfl, h4, tb.set hr2' (by rw [la, hz', hz3']; omega) (by omega)⟩
      · rintro σ H3 ⟨rows, y4, rfl, h3, tb⟩
        exact ⟨rows, _, _, rfl, h3, tb⟩
    · rintro σ H2 ⟨rows, y3, y4, rfl, h2, tb⟩
      walk_at "gg"
      exact q D H2 h2.same (hh.free) ⟨rows, tb, h2.tab, fun r hr => h2.get (List.mem_append_left _ (List.mem_cons_of_mem _ (List.mem_map.mpr ⟨r, hr, rfl⟩)))⟩
theorem Table.up {H H' : Hp} (h : Table H t xs ys) (s : Same H H') : Table H' t xs ys := by
  obtain ⟨rows, tb, h1, h2⟩ := h
  exact ⟨rows, tb, s _ _ h1, fun r hr => s _ _ (h2 r hr)⟩
def sp_matched (K : PySem.W.Frag) : Sp := fun vs H Q _ => ∃ (a b : Addr) (xs ys : List Str), vs = [.ref a, .ref b] ∧ H a = some (.lst (xs.map V.str)) ∧ H b = some (.lst (ys.map V.str)) ∧ xs.length ≤ 1000 ∧ ys.length ≤ 1000 ∧
  ∀ p H' (vs : List V), Same H H' → H p = none → H' p = some (.lst vs) → DqAll H' vs ((mt xs ys 0 0).map prd) → Q (.ref p) H'
theorem sp_matched_len {vs H Q E} (h : sp_matched K vs H Q E) : vs.length = 2 := by
  obtain ⟨_, _, _, _, rfl, _⟩ := h
  rfl
theorem ok_matched (T : Txt K mg) : FnOk P w K mg base CX0 2 T.f_matched T.fd_matched ["old", "new"] (sp_matched K) := by
  refine T.F_matched.ok sc_matched (fun vs H Q E h => sp_matched_len h) (fun cdv A outer s H vs Q E hr h => ?_)
  refine ⟨_, (pss_cons (ps_set (i := 2) sc_matched.nd rfl (.inl rfl) (pe_call (ok_common_lengths T) (hr.mono (by decide)) (by rfl) T.g_common_lengths T.F_common_lengths.kp T.b_common_lengths .nil pass0 (pa_cons (pv 0) (pa_cons (pv 1) pa_nil))))
      (pss_cons (ps_set (i := 3) sc_matched.nd rfl (.inl rfl) (pe_lst pa_nil))
      (pss_cons (ps_set (i := 4) sc_matched.nd rfl (.inl rfl) pe_int)
      (pss_cons (ps_set (i := 5) sc_matched.nd rfl (.inl rfl) pe_int)
      (pss_cons (ps_while PassesOwn.never (PW.pt (pw_and (pt_cmpR op_lt (pv 4) (pe_callB (cr_lenK K) (by rfl) T.m_len (by decide +kernel) (pa_cons (pv 0) pa_nil)) (nomark _)) (pw_and1 (pt_cmpR op_lt (pv 5) (pe_callB (cr_lenK K) (by rfl) T.m_len (by decide +kernel) (pa_cons (pv 1) pa_nil)) (nomark _))))) (pss_one (ps_if (pt_cmpR (op_eqK K hr.units) (pe_ix (ix_K K (hu_of hr)) (pv 0) (pv 4) (fun _ _ => rfl)) (pe_ix (ix_K K (hu_of hr)) (pv 1) (pv 5) (fun _ _ => rfl)) (nomark _)) (pss_cons (ps_expr (k_bm K (pe_bm PySem.F.plainAttrs_list PySem.F.slot_list_append PySem.F.type_list_append mt_append (pv 3) (pa_cons (pe_tup (pa_cons (pv 4) (pa_cons (pv 5) pa_nil))) pa_nil))))
      (pss_cons (ps_aug (i := 4) sc_matched.nd rfl (.inl rfl) pe_int ip_add)
      (pss_one (ps_aug (i := 5) sc_matched.nd rfl (.inl rfl) pe_int ip_add)))) (pss_one (ps_if (pt_cmpR op_ge (pe_ix (ix_K K (hu_of hr)) (pe_ix (ix_K K (hu_of hr)) (pv 2) (pe_op (op_addK K) (pv 4) pe_int) (fun _ _ => rfl)) (pv 5) (fun _ _ => rfl)) (pe_ix (ix_K K (hu_of hr)) (pe_ix (ix_K K (hu_of hr)) (pv 2) (pv 4) (fun _ _ => rfl)) (pe_op (op_addK K) (pv 5) pe_int) (fun _ _ => rfl)) (nomark _)) (pss_one (ps_aug (i := 4) sc_matched.nd rfl (.inl rfl) pe_int ip_add)) (pss_one (ps_aug (i := 5) sc_matched.nd rfl (.inl rfl) pe_int ip_add)))))))
      (pss_one (ps_ret (pv 3)))))))), ?_⟩
  obtain ⟨a, b, xs, ys, rfl, ha, hb, hx, hy, q⟩ := h
  refine g_start (σ' := [some (.ref a), some (.ref b), none, none, none, none]) rfl ?_
  walk_at "gg"
  refine ⟨a, b, xs, ys, rfl, ha, hb, hx, hy, fun t H1 s0 n1 tab => ?_⟩
  have ha1 := s0 _ _ ha
  have hb1 := s0 _ _ hb
  have hH := Has.start H1
  walk_at "gg"
  refine g_klst (by walk_at "sz") hH (fun p H2 n2 h2 => ?_)
  walk_at "gg"
  refine g_while (fun k σ H' => ∃ (i j : Nat) (acc : List (Nat × Nat)) (vs : List V) (F : Hp), σ = [some (.ref a), some (.ref b), some (.ref t), some (.ref p), some (.int i), some (.int j)] ∧ Same H1 F ∧ Has F [(p, .lst vs)] H' ∧ DqAll F vs (acc.map prd) ∧ acc ++ mt (xs.drop i) (ys.drop j) i j = mt xs ys 0 0 ∧ i ≤ xs.length ∧ j ≤ ys.length ∧ acc.length ≤ i ∧ k = (xs.length - i) + (ys.length - j)) _ ⟨0, 0, [], [], H1, rfl, Same.refl _, h2, .nil, by simp, by omega, by omega, by simp, rfl⟩ ?_
  · rintro k σ H3 ⟨i, j, acc, vs, F, rfl, sF, h3, dq, ea, hi, hj, hac, rfl⟩
    have ha3 : F a = some (.lst (xs.map V.str)) := sF _ _ ha1
    have hb3 : F b = some (.lst (ys.map V.str)) := sF _ _ hb1
    have tab3 : Table H3 t xs ys := (tab.up sF).up h3.same
    refine g_fact (fun c => c = true ↔ (i < xs.length ∧ j < ys.length)) (fun R r => ?_) (fun c hc => ?_)
    · walk_at "gg"
      rw [List.length_map]
      refine i_d (fun l1 => ?_) (fun l1 => r _ ⟨fun z => (Bool.false_ne_true z).elim, fun z => by omega⟩)
      walk_at "gg"
      rw [List.length_map]
      exact r _ ⟨fun z => by have := of_decide_eq_true z; omega, fun z => decide_eq_true (by omega)⟩
    cases c with
    | true =>
      have hij := hc.mp rfl
      have hxi : xs[i]? = some xs[i] := List.getElem?_eq_getElem hij.1
      have hyj : ys[j]? = some ys[j] := List.getElem?_eq_getElem hij.2
      have ma := mt_at hxi hyj
      refine kwh_t ?_
      walk_at "gg"
      refine g_ixZ (by walk_at "h") (by omega) (by omega) (fun x hx' => ?_)
      walk_at "gg"
      refine g_ixZ (by walk_at "h") (by omega) (by omega) (fun y hy' => ?_)
      have ex : x = xs[i] := Option.some.inj (hx'.symm.trans hxi)
      have ey : y = ys[j] := Option.some.inj (hy'.symm.trans hyj)
      subst ex ey
      walk_at "gg"
      refine i_d (fun e => ?_) (fun e => ?_)
      · rw [if_pos e] at ma
        walk_at "gg"
        refine g_ktupF (by walk_at "sz") h3 (fun T H4 F' n4 s4 hT h4 => ?_)
        walk_at "gg"
        have hvl : vs.length = acc.length := by rw [dq.len, List.length_map]
        refine g_append h4 (by walk_at "c") (szl (by omega)) (fun H5 h5 => ?_)
        walk_at "gg"
        refine ⟨(xs.length - (i + 1)) + (ys.length - (j + 1)), by omega, i + 1, j + 1, acc ++ [(i, j)], _, F', rfl, sF.trans s4, h5, ?_, ?_, by omega, by omega, by rw [List.length_append]; show acc.length + 1 ≤ _; omega, rfl⟩
        · rw [List.map_append]
          exact (dq.up s4 _ _).snoc (.tup hT (.cons (.int _) (.cons (.int _) .nil)))
        · rw [← ea, ma, List.append_assoc]
          rfl
      · rw [if_neg e] at ma
        walk_at "gg"
        refine g_tabAt tab3 (by omega) (by omega) (fun r hr => ?_)
        walk_at "gg"
        refine g_ixV hr (by omega) (by rw [List.length_map, List.length_range]; omega) (fun v hv => ?_)
        rw [List.getElem?_map, List.getElem?_range (by omega)] at hv
        have hv' := (Option.some.inj hv).symm
        subst hv'
        walk_at "gg"
        refine g_tabAt tab3 (by omega) (by omega) (fun r hr => ?_)
        walk_at "gg"
        refine g_ixV hr (by omega) (by rw [List.length_map, List.length_range]; omega) (fun v hv => ?_)
        rw [List.getElem?_map, List.getElem?_range (by omega)] at hv
        have hv' := (Option.some.inj hv).symm
        subst hv'
        walk_at "gg"
        have e1 : ((i : Int) + 1).toNat = i + 1 := by omega
        have e2 : ((j : Int) + 1).toNat = j + 1 := by omega
        rw [e1, e2]
        refine i_d (fun g => ?_) (fun g => ?_)
        · have g' : lc (xs.drop (i + 1)) (ys.drop j) ≥ lc (xs.drop i) (ys.drop (j + 1)) := Int.ofNat_le.mp g
          rw [if_pos g'] at ma
          walk_at "gg"
          exact ⟨(xs.length - (i + 1)) + (ys.length - j), by omega, i + 1, j, acc, vs, F, rfl, sF, h3, dq, by rw [← ea, ma], by omega, hj, by omega, rfl⟩
        · have g' : ¬ lc (xs.drop (i + 1)) (ys.drop j) ≥ lc (xs.drop i) (ys.drop (j + 1)) := fun z => g (Int.ofNat_le.mpr z)
          rw [if_neg g'] at ma
          walk_at "gg"
          exact ⟨(xs.length - i) + (ys.length - (j + 1)), by omega, i, j + 1, acc, vs, F, rfl, sF, h3, dq, by rw [← ea, ma], hi, by omega, by omega, rfl⟩
    | false =>
      have hij : xs.length ≤ i ∨ ys.length ≤ j := by
        have : ¬ (i < xs.length ∧ j < ys.length) := fun z => Bool.false_ne_true (hc.mpr z)
        omega
      refine kwh_f ?_
      rw [mt_end hij, List.append_nil] at ea
      subst ea
      walk_at "gg"
      exact q p H3 vs (s0.trans (sF.trans h3.same)) (s0.free n2) (by walk_at "h") (dq.up h3.same _ _)

end

theorem prd_inv {F : Hp} {v : V} {p : Nat × Nat} (h : Dq F v (prd p)) : ∃ T, v = .ref T ∧ F T = some (.tup [.int p.1, .int p.2]) := by
  cases h with
  | tup hT hs =>
    cases hs with
    | cons h1 hs =>
      cases hs with
      | cons h2 hs =>
        cases hs
        cases h1
        cases h2
        exact ⟨_, rfl, hT⟩
theorem prd_rm {H : Hp} {a : Addr} {o : HO} (h : H a = some o) (ho : ∀ xs, o ≠ .tup xs) : ∀ {vs : List V} {ps : List (Nat × Nat)}, DqAll H vs (ps.map prd) → DqAll (rm H a) vs (ps.map prd)
  | _, [], .nil => .nil
  | _, p :: ps, .cons d t => by
    refine .cons ?_ (prd_rm h ho t)
    obtain ⟨T, rfl, hT⟩ := prd_inv d
    refine .tup ?_ (.cons (.int _) (.cons (.int _) .nil))
    rw [rm_ne (ne_of hT h (fun e => ho _ e.symm))]
    exact hT
theorem prd_re {F H : Hp} {O : Own} (h : Has F O H) (ho : ∀ p ∈ O, ∀ xs, p.2 ≠ .tup xs) : ∀ {vs : List V} {ps : List (Nat × Nat)}, DqAll H vs (ps.map prd) → DqAll (rmO O H) vs (ps.map prd)
  | _, [], .nil => .nil
  | _, p :: ps, .cons d t => by
    refine .cons ?_ (prd_re h ho t)
    obtain ⟨T, rfl, hT⟩ := prd_inv d
    exact .tup (h.re_of hT fun p hp => ho p hp _) (.cons (.int _) (.cons (.int _) .nil))

end K04

namespace K04
open PySem PySem.Spec PyProof.Rows L2 Qk
local macro_rules | `(tactic| walk_at "m") => `(tactic| ((repeat (first | exact List.Mem.head _ | apply List.Mem.tail)); done))
local macro_rules | `(tactic| walk_at "h") => `(tactic| first | assumption | exact Has.gF (by assumption) (by assumption) | exact Has.get (by assumption) (by walk_at "m"))
local macro_rules | `(tactic| walk_at "c") => `(tactic| ((repeat (first | exact Chg.hd | apply Chg.tl)); done))
local macro_rules | `(tactic| walk_at "is") => `(tactic| first
  | ((with_reducible refine' is2_non ?gh ?_); (case gh => walk_at "h"))
  | (with_reducible refine is_int_list ?_)
  | (with_reducible refine is_int_tuple ?_)
  | (with_reducible refine is_int_dict ?_)
  | (with_reducible refine is_int_int ?_)
  | (with_reducible refine is_int_bool ?_)
  | (with_reducible refine is_int_str ?_)
  | ((with_reducible refine' is2_int ?gh ?_); (case gh => walk_at "h"))
  | (with_reducible refine is_str_list ?_)
  | (with_reducible refine is_str_tuple ?_)
  | (with_reducible refine is_str_dict ?_)
  | (with_reducible refine is_str_int ?_)
  | (with_reducible refine is_str_bool ?_)
  | (with_reducible refine is_str_str ?_)
  | ((with_reducible refine' is2_str ?gh ?_); (case gh => walk_at "h"))
  | (with_reducible refine is_bool_list ?_)
  | (with_reducible refine is_bool_tuple ?_)
  | (with_reducible refine is_bool_dict ?_)
  | (with_reducible refine is_bool_int ?_)
  | (with_reducible refine is_bool_bool ?_)
  | (with_reducible refine is_bool_str ?_)
  | ((with_reducible refine' is2_bool ?gh ?_); (case gh => walk_at "h"))
  | ((with_reducible refine' is_list_list ?gh ?_); (case gh => walk_at "h"))
  | ((with_reducible refine' is_list_tuple ?gh ?_); (case gh => walk_at "h"))
  | ((with_reducible refine' is_list_dict ?gh ?_); (case gh => walk_at "h"))
  | ((with_reducible refine' is_list_int ?gh ?_); (case gh => walk_at "h"))
  | ((with_reducible refine' is_list_bool ?gh ?_); (case gh => walk_at "h"))
  | ((with_reducible refine' is_list_str ?gh ?_); (case gh => walk_at "h"))
  | ((with_reducible refine' is2_list ?ga ?gb ?_); (case ga => walk_at "h"); (case gb => walk_at "h"))
  | ((with_reducible refine' is_tuple_list ?gh ?_); (case gh => walk_at "h"))
  | ((with_reducible refine' is_tuple_tuple ?gh ?_); (case gh => walk_at "h"))
  | ((with_reducible refine' is_tuple_dict ?gh ?_); (case gh => walk_at "h"))
  | ((with_reducible refine' is_tuple_int ?gh ?_); (case gh => walk_at "h"))
  | ((with_reducible refine' is_tuple_bool ?gh ?_); (case gh => walk_at "h"))
  | ((with_reducible refine' is_tuple_str ?gh ?_); (case gh => walk_at "h"))
  | ((with_reducible refine' is2_tuple ?ga ?gb ?_); (case ga => walk_at "h"); (case gb => walk_at "h"))
  | ((with_reducible refine' is_dict_list ?gh ?_); (case gh => walk_at "h"))
  | ((with_reducible refine' is_dict_tuple ?gh ?_); (case gh => walk_at "h"))
  | ((with_reducible refine' is_dict_dict ?gh ?_); (case gh => walk_at "h"))
  | ((with_reducible refine' is_dict_int ?gh ?_); (case gh => walk_at "h"))
  | ((with_reducible refine' is_dict_bool ?gh ?_); (case gh => walk_at "h"))
  | ((with_reducible refine' is_dict_str ?gh ?_); (case gh => walk_at "h"))
  | ((with_reducible refine' is2_dict ?ga ?gb ?_); (case ga => walk_at "h"); (case gb => walk_at "h")))
local macro_rules | `(tactic| walk_at "g") => `(tactic| first
  | (with_reducible refine g_seq ?_)
  | (with_reducible refine g_asg ?_)
  | ((with_reducible refine g_name ?_); dsimp only [List.set, wipe, List.map])
  | ((with_reducible refine' g_var ?gv ?_); (case gv => exact rfl))
  | (with_reducible refine g_c ?_)
  | (with_reducible refine g_op ?_)
  | (with_reducible refine g_cons ?_)
  | (with_reducible refine g_nil ?_)
  | (with_reducible refine g_cb ?_)
  | (with_reducible refine g_call ?_)
  | (with_reducible refine g_tup ?_)
  | (with_reducible refine g_lst ?_)
  | (with_reducible refine g_bm ?_)
  | (with_reducible refine g_bm0 ?_)
  | ((with_reducible refine' g_kbm ?gh ?_); (case gh => walk_at "h"))
  | (with_reducible refine g_drop ?_)
  | (with_reducible refine g_ret ?_)
  | (with_reducible refine g_retN ?_)
  | (with_reducible refine g_next ?_)
  | (with_reducible refine g_brk ?_)
  | (with_reducible refine g_cont ?_)
  | (with_reducible refine g_if ?_)
  | ((with_reducible refine' g_aug ?gv ?_); (case gv => exact rfl))
  | (with_reducible refine g_ipI ?_)
  | (with_reducible refine g_test ?_)
  | (with_reducible refine g_tB ?_)
  | (with_reducible refine g_kB ?_)
  | (with_reducible refine g_not ?_)
  | (with_reducible refine g_and ?_)
  | (with_reducible refine g_or ?_)
  | (with_reducible refine g_andV ?_)
  | (with_reducible refine g_orV ?_)
  | (with_reducible refine g_notV ?_)
  | (with_reducible refine g_ifE ?_)
  | (with_reducible refine g_addI ?_)
  | (with_reducible refine g_rI0 ?_)
  | (with_reducible refine g_eqI ?_)
  | (with_reducible refine g_eqS ?_)
  | (with_reducible refine g_neI ?_)
  | (with_reducible refine g_neS ?_)
  | (with_reducible refine g_isN ?_)
  | (with_reducible refine g_notN ?_)
  | (with_reducible refine g_int ?_)
  | (with_reducible refine g_max2 ?_)
  | ((with_reducible refine' g_lenL ?gh ?_); (case gh => walk_at "h"))
  | (with_reducible refine g_sub ?_)
  | (with_reducible refine g_gcons ?_)
  | (with_reducible refine g_gnil ?_)
  | (with_reducible refine g_un ?_)
  | (with_reducible refine g_rU ?_)
  | (with_reducible refine g_forL ?_)
  | (with_reducible refine g_forR1 ?_)
  | (with_reducible refine g_forR2 ?_)
  | (with_reducible refine g_forR3 ?_)
  | (with_reducible refine g_lcL ?_)
  | (with_reducible refine g_lcR1 ?_)
  | (with_reducible refine g_lcR2 ?_)
  | (with_reducible refine g_slice ?_)
  | (with_reducible refine g_part ?_)
  | (with_reducible refine g_kOI ?_)
  | (with_reducible refine g_nopart ?_)
  | (with_reducible refine g_yes ?_)
  | ((with_reducible refine' g_wipe ?gv ?_); (case gv => exact rfl))
  | (with_reducible refine iteT ?_)
  | (with_reducible refine iteF ?_)
  | (with_reducible refine i_nf ?_)
  | (with_reducible refine i_nt ?_)
  | ((with_reducible refine' g_gtup ?gh ?gl ?_); (case gh => walk_at "h"); (case gl => exact rfl))
  | ((with_reducible refine' g_notinI ?gh ?_); (case gh => walk_at "h"))
  | ((with_reducible refine' g_inI ?gh ?_); (case gh => walk_at "h"))
  | ((with_reducible refine' g_kget2 ?gh ?_); (case gh => walk_at "h"))
  | ((with_reducible refine' g_kgotI ?gh ?_); (case gh => walk_at "h"))
  | (with_reducible refine g_tRev ?_)
  | (with_reducible refine g_neB ?_)
  | (with_reducible refine g_eqB ?_)
  | ((with_reducible refine' g_lenT ?gh ?_); (case gh => walk_at "h"))
  | (with_reducible refine g_star ?_)
  | ((with_reducible refine' g_kstarL ?gh ?_); (case gh => walk_at "h"))
  | ((with_reducible refine' g_kstarT ?gh ?_); (case gh => walk_at "h"))
  | (with_reducible refine g_tru ?_)
  | ((with_reducible refine' g_truL ?gh ?_); (case gh => walk_at "h"))
  | (with_reducible refine g_get2 ?_)
  | walk_at "is")
local macro_rules | `(tactic| walk_at "gg") => `(tactic| repeat walk_at "g")
local macro_rules | `(tactic| walk_at "sz") => `(tactic| (refine sz ?_; simp only [List.length_cons, List.length_nil, List.length_map, List.length_append, List.length_replicate]; omega))

/-! ### _law_same -/
/-- data that _law_same can go through, n deep -/
def so : Nat → PyData → Prop
  | 0, _ => False
  | n + 1, .list ds => ds.length ≤ 100000 ∧ ∀ d ∈ ds, so n d
  | n + 1, .tuple ds => ds.length ≤ 100000 ∧ ∀ d ∈ ds, so n d
  | _ + 1, .int _ => True
  | _ + 1, .str _ => True
  | _ + 1, .none => True
  | _ + 1, _ => False
section
variable {P : Program} {w : World} {K : PySem.W.Frag} {mg : Str → Option Value} {base : Heap}
def sp_l_same_n (K : PySem.W.Frag) (n : Nat) : Sp := fun vs H Q _ => ∃ (x y : V) (d : PyData), vs = [x, y] ∧ Dq H x d ∧ Dq H y d ∧ so n d ∧ ∀ H', Same H H' → Q (.bl true) H'
theorem sp_l_same_n_len {n vs H Q E} (h : sp_l_same_n K n vs H Q E) : vs.length = 2 := by
  obtain ⟨_, _, _, rfl, _⟩ := h
  rfl
theorem ok_l_same_n (T : Txt K mg) (n : Nat) : FnOk P w K mg base CX0 n T.f_l_same T.fd_l_same ["told", "due"] (sp_l_same_n K n) := by
  induction n with
  | zero =>
    refine ⟨fun _ _ _ _ h => sp_l_same_n_len h, fun _ _ _ _ _ _ _ _ _ _ _ _ _ h => ?_⟩
    obtain ⟨_, _, d, _, _, _, h, _⟩ := h
    cases d <;> exact h.elim
  | succ n GR =>
  refine T.F_l_same.ok sc_l_same (fun vs H Q E h => sp_l_same_n_len h) (fun cdv A outer s H vs Q E hr h => ?_)
  refine ⟨_, (pss_cons (ps_if (pt_val (pe_callB (cr_isK K) (by rfl) T.m_isinstance (by decide +kernel) (pa_cons (pv 1) (pa_cons (pe_tup (pa_cons (pe_bltn (v := .ty "list") (by rfl) T.m_list (by decide +kernel) rfl) (pa_cons (pe_bltn (v := .ty "tuple") (by rfl) T.m_tuple (by decide +kernel) rfl) pa_nil))) pa_nil)))) (pss_cons (ps_if (pt_cmpR (op_neK K hr.units) (pe_callB (cr_isK K) (by rfl) T.m_isinstance (by decide +kernel) (pa_cons (pv 0) (pa_cons (pe_bltn (v := .ty "list") (by rfl) T.m_list (by decide +kernel) rfl) pa_nil))) (pe_callB (cr_isK K) (by rfl) T.m_isinstance (by decide +kernel) (pa_cons (pv 1) (pa_cons (pe_bltn (v := .ty "list") (by rfl) T.m_list (by decide +kernel) rfl) pa_nil))) (nomark _)) (pss_one (ps_ret pe_bl)) pss_nil)
      (pss_cons (ps_if (PW.pt (pw_or (pt_cmpR (op_neK K hr.units) (pe_callB (cr_isK K) (by rfl) T.m_isinstance (by decide +kernel) (pa_cons (pv 0) (pa_cons (pe_bltn (v := .ty "tuple") (by rfl) T.m_tuple (by decide +kernel) rfl) pa_nil))) (pe_callB (cr_isK K) (by rfl) T.m_isinstance (by decide +kernel) (pa_cons (pv 1) (pa_cons (pe_bltn (v := .ty "tuple") (by rfl) T.m_tuple (by decide +kernel) rfl) pa_nil))) (nomark _)) (pw_or1 (pt_cmpR (op_neK K hr.units) (pe_callB (cr_lenK K) (by rfl) T.m_len (by decide +kernel) (pa_cons (pv 0) pa_nil)) (pe_callB (cr_lenK K) (by rfl) T.m_len (by decide +kernel) (pa_cons (pv 1) pa_nil)) (nomark _))))) (pss_one (ps_ret pe_bl)) pss_nil)
      (pss_cons (ps_for PassesOwn.never rfl (pi_range1 rfl T.m_range (pa_cons (pe_callB (cr_lenK K) (by rfl) T.m_len (by decide +kernel) (pa_cons (pv 1) pa_nil)) pa_nil)) (pg_name (i := 2) sc_l_same.nd rfl (.inl rfl)) (pss_one (ps_if (pt_not (pt_val (pe_call GR hr (by rfl) T.g_l_same T.F_l_same.kp T.b_l_same .nil pass0 (pa_cons (pe_ix (ix_K K (hu_of hr)) (pv 0) (pv 2) (fun _ _ => rfl)) (pa_cons (pe_ix (ix_K K (hu_of hr)) (pv 1) (pv 2) (fun _ _ => rfl)) pa_nil))))) (pss_one (ps_ret pe_bl)) pss_nil)))
      (pss_one (ps_ret pe_bl))))) pss_nil)
      (pss_cons (ps_if (pt_cmpR op_isNA (pv 1) pe_non (nomark _)) (pss_one (ps_ret (pe_cmpR op_isNA (pv 0) pe_non (nomark _)))) pss_nil)
      (pss_cons (ps_if (pt_val (pe_callB (cr_isK K) (by rfl) T.m_isinstance (by decide +kernel) (pa_cons (pv 1) (pa_cons (pe_bltn (v := .ty "int") (by rfl) T.m_int (by decide +kernel) rfl) pa_nil)))) (pss_one (ps_ret (pe_and (pe_callB (cr_isK K) (by rfl) T.m_isinstance (by decide +kernel) (pa_cons (pv 0) (pa_cons (pe_bltn (v := .ty "int") (by rfl) T.m_int (by decide +kernel) rfl) pa_nil))) (pe_and (pe_not (pe_callB (cr_isK K) (by rfl) T.m_isinstance (by decide +kernel) (pa_cons (pv 0) (pa_cons (pe_bltn (v := .ty "bool") (by rfl) T.m_bool (by decide +kernel) rfl) pa_nil)))) (pe_one (pe_cmpR (op_eqK K hr.units) (pv 0) (pv 1) (nomark _))))))) pss_nil)
      (pss_one (ps_ret (pe_and (pe_callB (cr_isK K) (by rfl) T.m_isinstance (by decide +kernel) (pa_cons (pv 0) (pa_cons (pe_bltn (v := .ty "str") (by rfl) T.m_str (by decide +kernel) rfl) pa_nil))) (pe_one (pe_cmpR (op_eqK K hr.units) (pv 0) (pv 1) (nomark _))))))))), ?_⟩
  obtain ⟨x, y, d, rfl, hx, hy, ho, q⟩ := h
  have hH := Has.start H
  refine g_start (σ' := [some (x), some (y), none]) rfl ?_
  cases d with
  | list ds =>
    cases hx with
    | @lst a xs _ ha dx =>
      cases hy with
      | @lst b ys _ hb dy =>
        walk_at "gg"
        refine g_ktupF (by walk_at "sz") hH (fun p1 H1 F1 n1 s1 f1 h1 => ?_)
        have ha1 := s1 _ _ ha
        have hb1 := s1 _ _ hb
        have dx1 := dx.up s1 _ _
        have dy1 := dy.up s1 _ _
        have lx : xs.length = ds.length := dx.len
        have ly : ys.length = ds.length := dy.len
        have lo : ds.length ≤ 100000 := ho.1
        walk_at "gg"
        refine i_n (fun z => (z rfl).elim) (fun _ => ?_)
        walk_at "gg"
        refine i_n (fun z => (z rfl).elim) (fun _ => ?_)
        walk_at "gg"
        refine i_n (fun z => (z (by rw [lx, ly])).elim) (fun _ => ?_)
        walk_at "gg"
        refine k_forR1 (fun i σ H' => ∃ y2, σ = [some (.ref a), some (.ref b), y2] ∧ Has F1 [] H') (by omega) (by omega) ⟨none, rfl, h1⟩ ?_ ?_
        · rintro i σ H2 hi ⟨y2, rfl, h2⟩
          walk_at "gg"
          refine g_ixV (by walk_at "h") (by omega) (by omega) (fun u hu => ?_)
          walk_at "gg"
          refine g_ixV (by walk_at "h") (by omega) (by omega) (fun v hv => ?_)
          walk_at "gg"
          obtain ⟨d1, e1, q1⟩ := dx1.get hu
          obtain ⟨d2, e2, q2⟩ := dy1.get hv
          have e3 : d1 = d2 := Option.some.inj (e1.symm.trans e2)
          subst e3
          refine ⟨u, v, d1, rfl, h2.dq q1, h2.dq q2, ho.2 d1 (List.mem_of_getElem? e1), fun H3 s3 => ?_⟩
          walk_at "gg"
          exact ⟨_, rfl, h2.on s3⟩
        · rintro σ H2 ⟨y2, rfl, h2⟩
          walk_at "gg"
          exact q H2 (s1.trans h2.same)
  | tuple ds =>
    cases hx with
    | @tup a xs _ ha dx =>
      cases hy with
      | @tup b ys _ hb dy =>
        walk_at "gg"
        refine g_ktupF (by walk_at "sz") hH (fun p1 H1 F1 n1 s1 f1 h1 => ?_)
        have ha1 := s1 _ _ ha
        have hb1 := s1 _ _ hb
        have dx1 := dx.up s1 _ _
        have dy1 := dy.up s1 _ _
        have lx : xs.length = ds.length := dx.len
        have ly : ys.length = ds.length := dy.len
        have lo : ds.length ≤ 100000 := ho.1
        walk_at "gg"
        refine i_n (fun z => (z rfl).elim) (fun _ => ?_)
        walk_at "gg"
        refine i_n (fun z => (z rfl).elim) (fun _ => ?_)
        walk_at "gg"
        refine i_n (fun z => (z (by rw [lx, ly])).elim) (fun _ => ?_)
        walk_at "gg"
        refine k_forR1 (fun i σ H' => ∃ y2, σ = [some (.ref a), some (.ref b), y2] ∧ Has F1 [] H') (by omega) (by omega) ⟨none, rfl, h1⟩ ?_ ?_
        · rintro i σ H2 hi ⟨y2, rfl, h2⟩
          walk_at "gg"
          refine g_ixVT (by walk_at "h") (by omega) (by omega) (fun u hu => ?_)
          walk_at "gg"
          refine g_ixVT (by walk_at "h") (by omega) (by omega) (fun v hv => ?_)
          walk_at "gg"
          obtain ⟨d1, e1, q1⟩ := dx1.get hu
          obtain ⟨d2, e2, q2⟩ := dy1.get hv
          have e3 : d1 = d2 := Option.some.inj (e1.symm.trans e2)
          subst e3
          refine ⟨u, v, d1, rfl, h2.dq q1, h2.dq q2, ho.2 d1 (List.mem_of_getElem? e1), fun H3 s3 => ?_⟩
          walk_at "gg"
          exact ⟨_, rfl, h2.on s3⟩
        · rintro σ H2 ⟨y2, rfl, h2⟩
          walk_at "gg"
          exact q H2 (s1.trans h2.same)
  | int i =>
    cases hx
    cases hy
    walk_at "gg"
    refine g_ktupF (by walk_at "sz") hH (fun p1 H1 F1 n1 s1 f1 h1 => ?_)
    walk_at "gg"
    refine i_d (fun z => by cases z) (fun _ => ?_)
    walk_at "gg"
    rw [decide_eq_true rfl]
    exact q H1 (s1.trans h1.same)
  | str z =>
    cases hx
    cases hy
    walk_at "gg"
    refine g_ktupF (by walk_at "sz") hH (fun p1 H1 F1 n1 s1 f1 h1 => ?_)
    walk_at "gg"
    refine i_d (fun z => by cases z) (fun _ => ?_)
    walk_at "gg"
    rw [decide_eq_true rfl]
    exact q H1 (s1.trans h1.same)
  | none =>
    cases hx
    cases hy
    walk_at "gg"
    refine g_ktupF (by walk_at "sz") hH (fun p1 H1 F1 n1 s1 f1 h1 => ?_)
    walk_at "gg"
    refine i_d (fun _ => ?_) (fun z => (z rfl).elim)
    walk_at "gg"
    rw [decide_eq_true rfl]
    exact q H1 (s1.trans h1.same)
  | bool b => exact ho.elim
  | dict kvs => exact ho.elim
def sp_l_same (K : PySem.W.Frag) : Sp := sp_l_same_n K 6
theorem ok_l_same (T : Txt K mg) : FnOk P w K mg base CX0 6 T.f_l_same T.fd_l_same ["told", "due"] (sp_l_same K) := ok_l_same_n T 6
end

end K04

namespace K04
open PySem PySem.Spec PyProof.Rows L2 Qk
local macro_rules | `(tactic| walk_at "m") => `(tactic| ((repeat (first | exact List.Mem.head _ | apply List.Mem.tail)); done))
local macro_rules | `(tactic| walk_at "h") => `(tactic| first | assumption | exact Has.gF (by assumption) (by assumption) | exact Has.get (by assumption) (by walk_at "m"))
local macro_rules | `(tactic| walk_at "c") => `(tactic| ((repeat (first | exact Chg.hd | apply Chg.tl)); done))
local macro_rules | `(tactic| walk_at "is") => `(tactic| first
  | ((with_reducible refine' is2_non ?gh ?_); (case gh => walk_at "h"))
  | (with_reducible refine is_int_list ?_)
  | (with_reducible refine is_int_tuple ?_)
  | (with_reducible refine is_int_dict ?_)
  | (with_reducible refine is_int_int ?_)
  | (with_reducible refine is_int_bool ?_)
  | (with_reducible refine is_int_str ?_)
  | ((with_reducible refine' is2_int ?gh ?_); (case gh => walk_at "h"))
  | (with_reducible refine is_str_list ?_)
  | (with_reducible refine is_str_tuple ?_)
  | (with_reducible refine is_str_dict ?_)
  | (with_reducible refine is_str_int ?_)
  | (with_reducible refine is_str_bool ?_)
  | (with_reducible refine is_str_str ?_)
  | ((with_reducible refine' is2_str ?gh ?_); (case gh => walk_at "h"))
  | (with_reducible refine is_bool_list ?_)
  | (with_reducible refine is_bool_tuple ?_)
  | (with_reducible refine is_bool_dict ?_)
  | (with_reducible refine is_bool_int ?_)
  | (with_reducible refine is_bool_bool ?_)
  | (with_reducible refine is_bool_str ?_)
  | ((with_reducible refine' is2_bool ?gh ?_); (case gh => walk_at "h"))
  | ((with_reducible refine' is_list_list ?gh ?_); (case gh => walk_at "h"))
  | ((with_reducible refine' is_list_tuple ?gh ?_); (case gh => walk_at "h"))
  | ((with_reducible refine' is_list_dict ?gh ?_); (case gh => walk_at "h"))
  | ((with_reducible refine' is_list_int ?gh ?_); (case gh => walk_at "h"))
  | ((with_reducible refine' is_list_bool ?gh ?_); (case gh => walk_at "h"))
  | ((with_reducible refine' is_list_str ?gh ?_); (case gh => walk_at "h"))
  | ((with_reducible refine' is2_list ?ga ?gb ?_); (case ga => walk_at "h"); (case gb => walk_at "h"))
  | ((with_reducible refine' is_tuple_list ?gh ?_); (case gh => walk_at "h"))
  | ((with_reducible refine' is_tuple_tuple ?gh ?_); (case gh => walk_at "h"))
  | ((with_reducible refine' is_tuple_dict ?gh ?_); (case gh => walk_at "h"))
  | ((with_reducible refine' is_tuple_int ?gh ?_); (case gh => walk_at "h"))
  | ((with_reducible refine' is_tuple_bool ?gh ?_); (case gh => walk_at "h"))
  | ((with_reducible refine' is_tuple_str ?gh ?_); (case gh => walk_at "h"))
  | ((with_reducible refine' is2_tuple ?ga ?gb ?_); (case ga => walk_at "h"); (case gb => walk_at "h"))
  | ((with_reducible refine' is_dict_list ?gh ?_); (case gh => walk_at "h"))
  | ((with_reducible refine' is_dict_tuple ?gh ?_); (case gh => walk_at "h"))
  | ((with_reducible refine' is_dict_dict ?gh ?_); (case gh => walk_at "h"))
  | ((with_reducible refine' is_dict_int ?gh ?_); (case gh => walk_at "h"))
  | ((with_reducible refine' is_dict_bool ?gh ?_); (case gh => walk_at "h"))
  | ((with_reducible refine' is_dict_str ?gh ?_); (case gh => walk_at "h"))
  | ((with_reducible refine' is2_dict ?ga ?gb ?_); (case ga => walk_at "h"); (case gb => walk_at "h")))
local macro_rules | `(tactic| walk_at "g") => `(tactic| first
  | (with_reducible refine g_seq ?_)
  | (with_reducible refine g_asg ?_)
  | ((with_reducible refine g_name ?_); dsimp only [List.set, wipe, List.map])
  | ((with_reducible refine' g_var ?gv ?_); (case gv => exact rfl))
  | (with_reducible refine g_c ?_)
  | (with_reducible refine g_op ?_)
  | (with_reducible refine g_cons ?_)
  | (with_reducible refine g_nil ?_)
  | (with_reducible refine g_cb ?_)
  | (with_reducible refine g_call ?_)
  | (with_reducible refine g_tup ?_)
  | (with_reducible refine g_lst ?_)
  | (with_reducible refine g_bm ?_)
  | (with_reducible refine g_bm0 ?_)
  | ((with_reducible refine' g_kbm ?gh ?_); (case gh => walk_at "h"))
  | (with_reducible refine g_drop ?_)
  | (with_reducible refine g_ret ?_)
  | (with_reducible refine g_retN ?_)
  | (with_reducible refine g_next ?_)
  | (with_reducible refine g_brk ?_)
  | (with_reducible refine g_cont ?_)
  | (with_reducible refine g_if ?_)
  | ((with_reducible refine' g_aug ?gv ?_); (case gv => exact rfl))
  | (with_reducible refine g_ipI ?_)
  | (with_reducible refine g_test ?_)
  | (with_reducible refine g_tB ?_)
  | (with_reducible refine g_kB ?_)
  | (with_reducible refine g_not ?_)
  | (with_reducible refine g_and ?_)
  | (with_reducible refine g_or ?_)
  | (with_reducible refine g_andV ?_)
  | (with_reducible refine g_orV ?_)
  | (with_reducible refine g_notV ?_)
  | (with_reducible refine g_ifE ?_)
  | (with_reducible refine g_addI ?_)
  | (with_reducible refine g_rI0 ?_)
  | (with_reducible refine g_eqI ?_)
  | (with_reducible refine g_eqS ?_)
  | (with_reducible refine g_neI ?_)
  | (with_reducible refine g_neS ?_)
  | (with_reducible refine g_isN ?_)
  | (with_reducible refine g_notN ?_)
  | (with_reducible refine g_int ?_)
  | (with_reducible refine g_max2 ?_)
  | ((with_reducible refine' g_lenL ?gh ?_); (case gh => walk_at "h"))
  | (with_reducible refine g_sub ?_)
  | (with_reducible refine g_gcons ?_)
  | (with_reducible refine g_gnil ?_)
  | (with_reducible refine g_un ?_)
  | (with_reducible refine g_rU ?_)
  | (with_reducible refine g_forL ?_)
  | (with_reducible refine g_forR1 ?_)
  | (with_reducible refine g_forR2 ?_)
  | (with_reducible refine g_forR3 ?_)
  | (with_reducible refine g_lcL ?_)
  | (with_reducible refine g_lcR1 ?_)
  | (with_reducible refine g_lcR2 ?_)
  | (with_reducible refine g_slice ?_)
  | (with_reducible refine g_part ?_)
  | (with_reducible refine g_kOI ?_)
  | (with_reducible refine g_nopart ?_)
  | (with_reducible refine g_yes ?_)
  | ((with_reducible refine' g_wipe ?gv ?_); (case gv => exact rfl))
  | (with_reducible refine iteT ?_)
  | (with_reducible refine iteF ?_)
  | (with_reducible refine i_nf ?_)
  | (with_reducible refine i_nt ?_)
  | ((with_reducible refine' g_gtup ?gh ?gl ?_); (case gh => walk_at "h"); (case gl => exact rfl))
  | ((with_reducible refine' g_notinI ?gh ?_); (case gh => walk_at "h"))
  | ((with_reducible refine' g_inI ?gh ?_); (case gh => walk_at "h"))
  | ((with_reducible refine' g_kget2 ?gh ?_); (case gh => walk_at "h"))
  | ((with_reducible refine' g_kgotI ?gh ?_); (case gh => walk_at "h"))
  | (with_reducible refine g_tRev ?_)
  | (with_reducible refine g_neB ?_)
  | (with_reducible refine g_eqB ?_)
  | ((with_reducible refine' g_lenT ?gh ?_); (case gh => walk_at "h"))
  | (with_reducible refine g_star ?_)
  | ((with_reducible refine' g_kstarL ?gh ?_); (case gh => walk_at "h"))
  | ((with_reducible refine' g_kstarT ?gh ?_); (case gh => walk_at "h"))
  | (with_reducible refine g_tru ?_)
  | ((with_reducible refine' g_truL ?gh ?_); (case gh => walk_at "h"))
  | (with_reducible refine g_get2 ?_)
  | walk_at "is")
local macro_rules | `(tactic| walk_at "gg") => `(tactic| repeat walk_at "g")
local macro_rules | `(tactic| walk_at "sz") => `(tactic| (refine sz ?_; simp only [List.length_cons, List.length_nil, List.length_map, List.length_append, List.length_replicate]; omega))

/-! ### the draws: a list of pairs -/
def cellD (p : Int × Int) : PyData := .list [.int p.1, .int p.2]
theorem cell_inv {F : Hp} {v : V} {p : Int × Int} (h : Dq F v (cellD p)) : ∃ r, v = .ref r ∧ F r = some (.lst [.int p.1, .int p.2]) := by
  cases h with
  | lst hT hs =>
    cases hs with
    | cons h1 hs =>
      cases hs with
      | cons h2 hs =>
        cases hs
        cases h1
        cases h2
        exact ⟨_, rfl, hT⟩
theorem cells_sh (rows : List (Int × Int)) : Sh 2 (.list (rows.map cellD)) := Sh.list fun d hd => by
  obtain ⟨p, _, rfl⟩ := List.mem_map.mp hd
  exact Sh.list fun d hd => by
    rcases List.mem_cons.mp hd with rfl | hd
    · exact Sh.int _
    · rw [List.mem_singleton.mp hd]
      exact Sh.int _
/-- the draws stand at c: what is left, each number with its count -/
structure Cells (F : Hp) (c : Addr) (H : Hp) (vs : List V) : Prop where
  at_ : H c = some (.lst vs)
  dq : ∃ rows : List (Int × Int), DqAll F vs (rows.map cellD) ∧ rows.length ≤ 100
section
variable {P : Program} {w : World} {K : PySem.W.Frag} {mg : Str → Option Value} {base : Heap}
def sp_l_feed (K : PySem.W.Frag) : Sp := fun vs H Q _ => ∃ (a : Addr) (ns : List Int), vs = [.ref a] ∧ SqL K H a (ns.map V.int) ∧ ns.length ≤ 63 ∧
  ∀ p H' F' (vs : List V) (rows : List (Int × Int)), H p = none → Same H F' → Has F' [(p, .lst vs)] H' → DqAll F' vs (rows.map cellD) → rows.length ≤ 100 → Q (.ref p) H'
theorem sp_l_feed_len {vs H Q E} (h : sp_l_feed K vs H Q E) : vs.length = 1 := by
  obtain ⟨_, _, rfl, _⟩ := h
  rfl
theorem ok_l_feed (T : Txt K mg) : FnOk P w K mg base CX0 1 T.f_l_feed T.fd_l_feed ["script"] (sp_l_feed K) := by
  refine T.F_l_feed.ok sc_l_feed (fun vs H Q E h => sp_l_feed_len h) (fun cdv A outer s H vs Q E hr h => ?_)
  refine ⟨_, (pss_one (ps_ret (pe_lc (own := [("cell", 1)]) (g := gName 1) (tt := tYes) rfl sc_l_feed.nd (k_il K (pi_list (pe_slice (sl_K K) (pv 0) po_none (po_some pe_int)))) (blkOk_by (N := n_l_feed) (sc := defScope s_l_feed) (by decide +kernel)) (fun _ _ _ _ _ => (pg_name (i := 1) sc_l_feed.nd rfl (.inl rfl))) (fun _ _ _ _ _ => pts_nil) (fun _ _ _ _ _ => (pe_lst (pa_cons (pe_callB cr_abs1 (by rfl) T.m_abs (by decide +kernel) (pa_cons (pe_callTy cr_int1 (by rfl) T.m_int (by decide +kernel) (pa_cons (pv 1) pa_nil)) pa_nil)) (pa_cons pe_int pa_nil))))))), ?_⟩
  obtain ⟨a, ns, rfl, ha, hn, q⟩ := h
  have hH := Has.start H
  refine g_start (σ' := [some (.ref a), none]) rfl ?_
  walk_at "gg"
  refine g_slS ha hH (fun p2 H2 n2 hH2 => ?_)
  obtain ⟨ms, em, lm⟩ := cutV_ints ns none (some 63)
  rw [em] at hH2
  refine k_lcL (by walk_at "h") hH2 (fun i acc F' O' => ∃ rows : List (Int × Int), DqAll F' acc (rows.map cellD) ∧ rows.length = i ∧ Same H F' ∧ O' = [(p2, .lst (ms.map V.int))]) ⟨[], .nil, rfl, Same.refl _, rfl⟩ ?_ ?_ ?_
  · rintro i acc F' O' H3 ⟨rows, dq, rfl, sF, rfl⟩ hh
    walk_at "h"
  · rintro i x acc F' O' D H3 hx ⟨rows, dq, rfl, sF, rfl⟩ hh
    rw [List.getElem?_map] at hx
    obtain ⟨z, hz, rfl⟩ := Option.map_eq_some_iff.mp hx
    have hl : rows.length < ms.length := (List.getElem?_eq_some_iff.mp hz).1
    have hal : acc.length = rows.length := by rw [dq.len, List.length_map]
    walk_at "gg"
    refine g_abs (fun j hj => ?_)
    walk_at "gg"
    refine g_klstF (by walk_at "sz") hh (fun r H4 F4 n4 s4 f4 h4 => ?_)
    refine k_turn h4 (by omega) ⟨rows ++ [(j, 0)], ?_, by rw [List.length_append]; rfl, sF.trans s4, rfl⟩
    rw [List.map_append]
    exact (dq.up s4 _ _).snoc (.lst f4 (.cons (.int _) (.cons (.int _) .nil)))
  · rintro acc F' O' D H3 ⟨rows, dq, hk, sF, rfl⟩ hh
    rw [List.length_map] at hk
    exact q D H3 F' acc rows (sF.free hh.free) sF (hh.sub (.cons_cons _ (.cons _ (List.Sublist.refl _)))) dq (by omega)
theorem Grow.refl (F H : Hp) : Grow F H F := ⟨Same.refl F, fun _ _ => rfl⟩
theorem Grow.new {F H : Hp} {p : Addr} {o : HO} (n : H p = none) (f : F p = none) : Grow F H (upd F p o) := ⟨same_upd f, fun b h => upd_ne (fun z => h (by rw [z]; exact n))⟩
theorem Grow.new2 {F H F1 : Hp} {p : Addr} {o : HO} (g : Grow F H F1) (n : H p = none) (f : F1 p = none) : Grow F H (upd F1 p o) := ⟨g.1.trans (same_upd f), fun b h => by rw [upd_ne (fun z => h (by rw [z]; exact n))]; exact g.2 b h⟩
def sp_l_next (K : PySem.W.Frag) : Sp := fun vs H Q _ => ∃ (c : Addr) (m : Int) (F : Hp) (ws : List V) (rows : List (Int × Int)), vs = [.ref c, .int m] ∧ Has F [(c, .lst ws)] H ∧ DqAll F ws (rows.map cellD) ∧ rows.length ≤ 100 ∧ 0 < m ∧ m < 1000000 ∧
  ∀ H' F' (ws' : List V) (rows' : List (Int × Int)) (r : Int), But c H H' → Grow F H F' → Has F' [(c, .lst ws')] H' → DqAll F' ws' (rows'.map cellD) → rows'.length ≤ 100 → 0 ≤ r → r < m → Q (.int r) H'
theorem sp_l_next_len {vs H Q E} (h : sp_l_next K vs H Q E) : vs.length = 2 := by
  obtain ⟨_, _, _, _, _, rfl, _⟩ := h
  rfl
theorem same_upd2 {F G : Hp} {p : Addr} {o : HO} (s : Same F G) : Same (upd F p o) (upd G p o) := fun b u q => by
  by_cases e : b = p
  · subst e
    rw [upd_same] at q ⊢
    exact q
  · rw [upd_ne e] at q ⊢
    exact s b u q
theorem ok_l_next (T : Txt K mg) : FnOk P w K mg base CX0 1 T.f_l_next T.fd_l_next ["cells", "many"] (sp_l_next K) := by
  refine T.F_l_next.ok sc_l_next (fun vs H Q E h => sp_l_next_len h) (fun cdv A outer s H vs Q E hr h => ?_)
  refine ⟨_, (pss_cons (ps_if (pt_cmpR (op_eqK K hr.units) (pv 0) (pe_lst pa_nil) (nomark _)) (pss_one (ps_ret pe_int)) pss_nil)
      (pss_cons (ps_set (i := 2) sc_l_next.nd rfl (.inl rfl) (pe_op op_mod (pe_callTy cr_int1 (by rfl) T.m_int (by decide +kernel) (pa_cons (pe_ix (ix_K K (hu_of hr)) (pe_ix (ix_K K (hu_of hr)) (pv 0) pe_int (fun _ _ => rfl)) pe_int (fun _ _ => rfl)) pa_nil)) (pv 1)))
      (pss_cons (ps_asg (pe_lst (pa_cons (pe_op op_fdiv (pe_ix (ix_K K (hu_of hr)) (pe_ix (ix_K K (hu_of hr)) (pv 0) pe_int (fun _ _ => rfl)) pe_int (fun _ _ => rfl)) (pv 1)) (pa_cons (pe_op (op_addK K) (pe_ix (ix_K K (hu_of hr)) (pe_ix (ix_K K (hu_of hr)) (pv 0) pe_int (fun _ _ => rfl)) pe_int (fun _ _ => rfl)) pe_int) pa_nil))) (pg_sub (pv 0) pe_int (set_any (hu_of hr))))
      (pss_cons (ps_if (PW.pt (pw_or (pt_cmpR (op_eqK K hr.units) (pe_ix (ix_K K (hu_of hr)) (pe_ix (ix_K K (hu_of hr)) (pv 0) pe_int (fun _ _ => rfl)) pe_int (fun _ _ => rfl)) pe_int (nomark _)) (pw_or1 (pt_cmpR (op_eqK K hr.units) (pe_ix (ix_K K (hu_of hr)) (pe_ix (ix_K K (hu_of hr)) (pv 0) pe_int (fun _ _ => rfl)) pe_int (fun _ _ => rfl)) pe_int (nomark _))))) (pss_one (ps_expr (k_bm K (pe_bm PySem.F.plainAttrs_list PySem.F.slot_list_pop PySem.F.type_list_pop mt_popAt (pv 0) (pa_cons pe_int pa_nil))))) pss_nil)
      (pss_one (ps_ret (pv 2))))))), ?_⟩
  obtain ⟨c, m, F, ws, rows, rfl, hH, dq0, hl, hm0, hm, q⟩ := h
  have sFG : Same F (rm H c) := same_rm hH.same hH.free
  have dq := dq0.up sFG _ _
  have hR := Has.arg (hH.get (List.Mem.head _))
  generalize hG : rm H c = G at *
  refine g_start (σ' := [some (.ref c), some (.int m), none]) rfl ?_
  walk_at "gg"
  refine g_klst (by walk_at "sz") hR (fun t H1 n1 hR1 => ?_)
  have hR1' := hR1.drop
  have hc1 := hR1'.get (List.Mem.head _)
  refine g_eqD (.lst hc1 (dq.up hR1'.same _ _)) (.lst (hR1.get (List.Mem.head _)) .nil) ((cells_sh rows).ok (by decide)) (by decide +kernel) ?_
  walk_at "gg"
  cases rows with
  | nil =>
    cases dq
    refine i_b (fun _ => ?_) (fun z => ?_)
    · walk_at "gg"
      exact q H1 F [] [] 0 (But.of (by rw [hG]; exact hR1.same)) (Grow.refl _ _) (hR1'.mono sFG) .nil (by simp) (by omega) hm0
    · rw [List.map_nil, PyData.eqv, PyData.eqvAll] at z
      cases z
  | cons row rows =>
    cases dq with
    | @cons v vs _ _ dv dvs =>
    cases dq0 with
    | cons dv0 dvs0 =>
    obtain ⟨r, rfl, hr⟩ := cell_inv dv
    refine i_b (fun z => ?_) (fun _ => ?_)
    · rw [List.map_cons, PyData.eqv, PyData.eqvAll] at z
      cases z
    have hr1 := hR1'.same _ _ hr
    walk_at "gg"
    refine g_ixL (v := .ref r) hc1 (atI_nat (j := 0) rfl) ?_
    walk_at "gg"
    refine g_ixL (v := .int row.1) hr1 (atI_nat (j := 0) rfl) ?_
    walk_at "gg"
    refine g_rI hm0 ?_
    walk_at "gg"
    refine g_ixL (v := .ref r) hc1 (atI_nat (j := 0) rfl) ?_
    walk_at "gg"
    refine g_ixL (v := .int row.1) hr1 (atI_nat (j := 0) rfl) ?_
    walk_at "gg"
    refine g_rI ⟨by omega, by omega⟩ ?_
    walk_at "gg"
    refine g_ixL (v := .ref r) hc1 (atI_nat (j := 0) rfl) ?_
    walk_at "gg"
    refine g_ixL (v := .int row.2) hr1 (atI_nat (j := 1) rfl) ?_
    walk_at "gg"
    refine g_klst (by walk_at "sz") hR1' (fun p H2 n2 hR2 => ?_)
    have fp : F p = none := sFG.free hR2.free
    have np : H p = none := by
      have nd : p ≠ c := by
        have := hR2.nd
        simp only [List.map_cons, List.map_nil, List.nodup_cons, List.mem_singleton] at this
        exact this.1
      have e := hR2.free
      rw [← hG, rm_ne nd] at e
      exact e
    have hR3 := hR2.frz
    have sG3 := hR2.grow
    have dv2 : Dq (upd F p (.lst [.int (row.1 / m), .int (row.2 + 1)])) (.ref p) (cellD (row.1 / m, row.2 + 1)) := .lst upd_same (.cons (.int _) (.cons (.int _) .nil))
    have dvs2 := dvs0.up (same_upd (o := .lst [.int (row.1 / m), .int (row.2 + 1)]) fp) _ _
    have gF : Grow F H (upd F p (.lst [.int (row.1 / m), .int (row.2 + 1)])) := Grow.new np fp
    have hp3 : upd G p (.lst [.int (row.1 / m), .int (row.2 + 1)]) p = some (.lst [.int (row.1 / m), .int (row.2 + 1)]) := upd_same
    walk_at "gg"
    refine g_stL (j := 0) hR3 (by walk_at "c") (ixN_nat (by decide) (by rw [List.length_cons]; omega)) (fun H4 hR4 => ?_)
    have fin : ∀ (H5 : Hp) (ws' : List V) (rows' : List (Int × Int)), Has (upd G p (.lst [.int (row.1 / m), .int (row.2 + 1)])) [(c, .lst ws')] H5 → DqAll (upd F p (.lst [.int (row.1 / m), .int (row.2 + 1)])) ws' (rows'.map cellD) → rows'.length ≤ 100 → Q (.int (row.1 % m)) H5 := fun H5 ws' rows' h5 d5 l5 =>
      q H5 _ ws' rows' _ (But.of (by rw [hG]; exact sG3.trans h5.same)) gF (h5.mono (same_upd2 sFG)) d5 l5 (Int.emod_nonneg _ (by omega)) (Int.emod_lt_of_pos _ hm0)
    have hc4 := hR4.get (List.Mem.head _)
    have hp4 := hR4.same _ _ hp3
    walk_at "g"
    walk_at "g"
    refine g_fact (fun _ => True) (fun R r => ?_) (fun b _ => ?_)
    · walk_at "gg"
      refine g_ixL (v := .ref p) hc4 (atI_nat (j := 0) rfl) ?_
      walk_at "gg"
      refine g_ixL (v := .int (row.1 / m)) hp4 (atI_nat (j := 0) rfl) ?_
      walk_at "gg"
      refine i_d (fun _ => r _ trivial) (fun _ => ?_)
      walk_at "gg"
      refine g_ixL (v := .ref p) hc4 (atI_nat (j := 0) rfl) ?_
      walk_at "gg"
      refine g_ixL (v := .int (row.2 + 1)) hp4 (atI_nat (j := 1) rfl) ?_
      walk_at "gg"
      exact r _ trivial
    refine i_b (fun _ => ?_) (fun _ => ?_)
    · walk_at "gg"
      refine g_popAt (k := 0) (y := .ref p) hR4 (by walk_at "c") (by omega) (by omega) (ixN_seq (ixN_nat (k := 0) (by decide) (by rw [List.length_set, List.length_cons]; omega))).1 rfl (fun H5 h5 => ?_)
      walk_at "gg"
      exact fin H5 vs rows h5 dvs2 (by rw [List.length_cons] at hl; omega)
    · walk_at "gg"
      exact fin H4 (.ref p :: vs) ((row.1 / m, row.2 + 1) :: rows) hR4 (.cons dv2 dvs2) hl
theorem Has.drawn {F F' H H' : Hp} {O : Own} {c : Addr} {ws ws' : List V} (h : Has F ((c, .lst ws) :: O) H) (hb : But c H H') (g : Grow F H F') (s : Has F' [(c, .lst ws')] H') : Has F' ((c, .lst ws') :: O) H' :=
  h.grown .hd hb g s.same (s.get (List.Mem.head _))
def sp_l_menu (K : PySem.W.Frag) : Sp := fun vs H Q _ => ∃ i : Int, vs = [.int i] ∧ ∀ H' z, Same H H' → PyData.strOk z = true → Q (.str z) H'
theorem sp_l_menu_len {vs H Q E} (h : sp_l_menu K vs H Q E) : vs.length = 1 := by
  obtain ⟨_, rfl, _⟩ := h
  rfl
theorem ok_l_menu (T : Txt K mg) : FnOk P w K mg base CX0 1 T.f_l_menu T.fd_l_menu ["place"] (sp_l_menu K) := by
  refine T.F_l_menu.ok sc_l_menu (fun vs H Q E h => sp_l_menu_len h) (fun cdv A outer s H vs Q E hr h => ?_)
  refine ⟨_, (pss_cons (ps_set (i := 1) sc_l_menu.nd rfl (.inl rfl) (pe_lst (pa_cons pe_str (pa_cons pe_str (pa_cons pe_str (pa_cons pe_str (pa_cons pe_str (pa_cons pe_str (pa_cons pe_str (pa_cons pe_str (pa_cons pe_str (pa_cons pe_str (pa_cons pe_str (pa_cons pe_str pa_nil))))))))))))))
      (pss_cons (ps_set (i := 1) sc_l_menu.nd rfl (.inl rfl) (pe_op (op_addK K) (pv 1) (pe_lst (pa_cons pe_str (pa_cons pe_str (pa_cons pe_str (pa_cons pe_str pa_nil)))))))
      (pss_one (ps_ret (pe_ix (ix_K K (hu_of hr)) (pv 1) (pe_op op_mod (pe_callTy cr_int1 (by rfl) T.m_int (by decide +kernel) (pa_cons (pv 0) pa_nil)) pe_int) (fun _ _ => rfl)))))), ?_⟩
  obtain ⟨i, rfl, q⟩ := h
  have hH := Has.start H
  refine g_start (σ' := [some (.int i), none]) rfl ?_
  walk_at "gg"
  refine g_klst (by walk_at "sz") hH (fun p1 H1 n1 hH1 => ?_)
  walk_at "gg"
  refine g_klst (by walk_at "sz") hH1 (fun p2 H2 n2 hH2 => ?_)
  refine g_addL (by walk_at "h") (by walk_at "h") (by walk_at "sz") hH2 (fun p3 H3 n3 hH3 => ?_)
  walk_at "gg"
  refine g_rI (by show (0 : Int) < 16; decide) ?_
  refine g_ixM (by walk_at "h") (by decide +kernel) (Int.emod_nonneg _ (by decide)) (by show _ < (16 : Int); exact Int.emod_lt_of_pos _ (by decide)) (fun z hz => ?_)
  exact q H3 z hH3.same hz
end

end K04

namespace K04
open PySem PySem.Spec PyProof.Rows L2 Qk
local macro_rules | `(tactic| walk_at "m") => `(tactic| ((repeat (first | exact List.Mem.head _ | apply List.Mem.tail)); done))
local macro_rules | `(tactic| walk_at "h") => `(tactic| first | assumption | exact Has.gF (by assumption) (by assumption) | exact Has.get (by assumption) (by walk_at "m"))
local macro_rules | `(tactic| walk_at "c") => `(tactic| ((repeat (first | exact Chg.hd | apply Chg.tl)); done))
local macro_rules | `(tactic| walk_at "is") => `(tactic| first
  | ((with_reducible refine' is2_non ?gh ?_); (case gh => walk_at "h"))
  | (with_reducible refine is_int_list ?_)
  | (with_reducible refine is_int_tuple ?_)
  | (with_reducible refine is_int_dict ?_)
  | (with_reducible refine is_int_int ?_)
  | (with_reducible refine is_int_bool ?_)
  | (with_reducible refine is_int_str ?_)
  | ((with_reducible refine' is2_int ?gh ?_); (case gh => walk_at "h"))
  | (with_reducible refine is_str_list ?_)
  | (with_reducible refine is_str_tuple ?_)
  | (with_reducible refine is_str_dict ?_)
  | (with_reducible refine is_str_int ?_)
  | (with_reducible refine is_str_bool ?_)
  | (with_reducible refine is_str_str ?_)
  | ((with_reducible refine' is2_str ?gh ?_); (case gh => walk_at "h"))
  | (with_reducible refine is_bool_list ?_)
  | (with_reducible refine is_bool_tuple ?_)
  | (with_reducible refine is_bool_dict ?_)
  | (with_reducible refine is_bool_int ?_)
  | (with_reducible refine is_bool_bool ?_)
  | (with_reducible refine is_bool_str ?_)
  | ((with_reducible refine' is2_bool ?gh ?_); (case gh => walk_at "h"))
  | ((with_reducible refine' is_list_list ?gh ?_); (case gh => walk_at "h"))
  | ((with_reducible refine' is_list_tuple ?gh ?_); (case gh => walk_at "h"))
  | ((with_reducible refine' is_list_dict ?gh ?_); (case gh => walk_at "h"))
  | ((with_reducible refine' is_list_int ?gh ?_); (case gh => walk_at "h"))
  | ((with_reducible refine' is_list_bool ?gh ?_); (case gh => walk_at "h"))
  | ((with_reducible refine' is_list_str ?gh ?_); (case gh => walk_at "h"))
  | ((with_reducible refine' is2_list ?ga ?gb ?_); (case ga => walk_at "h"); (case gb => walk_at "h"))
  | ((with_reducible refine' is_tuple_list ?gh ?_); (case gh => walk_at "h"))
  | ((with_reducible refine' is_tuple_tuple ?gh ?_); (case gh => walk_at "h"))
  | ((with_reducible refine' is_tuple_dict ?gh ?_); (case gh => walk_at "h"))
  | ((with_reducible refine' is_tuple_int ?gh ?_); (case gh => walk_at "h"))
  | ((with_reducible refine' is_tuple_bool ?gh ?_); (case gh => walk_at "h"))
  | ((with_reducible refine' is_tuple_str ?gh ?_); (case gh => walk_at "h"))
  | ((with_reducible refine' is2_tuple ?ga ?gb ?_); (case ga => walk_at "h"); (case gb => walk_at "h"))
  | ((with_reducible refine' is_dict_list ?gh ?_); (case gh => walk_at "h"))
  | ((with_reducible refine' is_dict_tuple ?gh ?_); (case gh => walk_at "h"))
  | ((with_reducible refine' is_dict_dict ?gh ?_); (case gh => walk_at "h"))
  | ((with_reducible refine' is_dict_int ?gh ?_); (case gh => walk_at "h"))
  | ((with_reducible refine' is_dict_bool ?gh ?_); (case gh => walk_at "h"))
  | ((with_reducible refine' is_dict_str ?gh ?_); (case gh => walk_at "h"))
  | ((with_reducible refine' is2_dict ?ga ?gb ?_); (case ga => walk_at "h"); (case gb => walk_at "h")))
local macro_rules | `(tactic| walk_at "g") => `(tactic| first
  | (with_reducible refine g_seq ?_)
  | (with_reducible refine g_asg ?_)
  | ((with_reducible refine g_name ?_); dsimp only [List.set, wipe, List.map])
  | ((with_reducible refine' g_var ?gv ?_); (case gv => exact rfl))
  | (with_reducible refine g_c ?_)
  | (with_reducible refine g_op ?_)
  | (with_reducible refine g_cons ?_)
  | (with_reducible refine g_nil ?_)
  | (with_reducible refine g_cb ?_)
  | (with_reducible refine g_call ?_)
  | (with_reducible refine g_tup ?_)
  | (with_reducible refine g_lst ?_)
  | (with_reducible refine g_bm ?_)
  | (with_reducible refine g_bm0 ?_)
  | ((with_reducible refine' g_kbm ?gh ?_); (case gh => walk_at "h"))
  | (with_reducible refine g_drop ?_)
  | (with_reducible refine g_ret ?_)
  | (with_reducible refine g_retN ?_)
  | (with_reducible refine g_next ?_)
  | (with_reducible refine g_brk ?_)
  | (with_reducible refine g_cont ?_)
  | (with_reducible refine g_if ?_)
  | ((with_reducible refine' g_aug ?gv ?_); (case gv => exact rfl))
  | (with_reducible refine g_ipI ?_)
  | (with_reducible refine g_test ?_)
  | (with_reducible refine g_tB ?_)
  | (with_reducible refine g_kB ?_)
  | (with_reducible refine g_not ?_)
  | (with_reducible refine g_and ?_)
  | (with_reducible refine g_or ?_)
  | (with_reducible refine g_andV ?_)
  | (with_reducible refine g_orV ?_)
  | (with_reducible refine g_notV ?_)
  | (with_reducible refine g_ifE ?_)
  | (with_reducible refine g_addI ?_)
  | (with_reducible refine g_rI0 ?_)
  | (with_reducible refine g_eqI ?_)
  | (with_reducible refine g_eqS ?_)
  | (with_reducible refine g_neI ?_)
  | (with_reducible refine g_neS ?_)
  | (with_reducible refine g_isN ?_)
  | (with_reducible refine g_notN ?_)
  | (with_reducible refine g_int ?_)
  | (with_reducible refine g_max2 ?_)
  | ((with_reducible refine' g_lenL ?gh ?_); (case gh => walk_at "h"))
  | (with_reducible refine g_sub ?_)
  | (with_reducible refine g_gcons ?_)
  | (with_reducible refine g_gnil ?_)
  | (with_reducible refine g_un ?_)
  | (with_reducible refine g_rU ?_)
  | (with_reducible refine g_forL ?_)
  | (with_reducible refine g_forR1 ?_)
  | (with_reducible refine g_forR2 ?_)
  | (with_reducible refine g_forR3 ?_)
  | (with_reducible refine g_lcL ?_)
  | (with_reducible refine g_lcR1 ?_)
  | (with_reducible refine g_lcR2 ?_)
  | (with_reducible refine g_slice ?_)
  | (with_reducible refine g_part ?_)
  | (with_reducible refine g_kOI ?_)
  | (with_reducible refine g_nopart ?_)
  | (with_reducible refine g_yes ?_)
  | ((with_reducible refine' g_wipe ?gv ?_); (case gv => exact rfl))
  | (with_reducible refine iteT ?_)
  | (with_reducible refine iteF ?_)
  | (with_reducible refine i_nf ?_)
  | (with_reducible refine i_nt ?_)
  | ((with_reducible refine' g_gtup ?gh ?gl ?_); (case gh => walk_at "h"); (case gl => exact rfl))
  | ((with_reducible refine' g_notinI ?gh ?_); (case gh => walk_at "h"))
  | ((with_reducible refine' g_inI ?gh ?_); (case gh => walk_at "h"))
  | ((with_reducible refine' g_kget2 ?gh ?_); (case gh => walk_at "h"))
  | ((with_reducible refine' g_kgotI ?gh ?_); (case gh => walk_at "h"))
  | (with_reducible refine g_tRev ?_)
  | (with_reducible refine g_neB ?_)
  | (with_reducible refine g_eqB ?_)
  | ((with_reducible refine' g_lenT ?gh ?_); (case gh => walk_at "h"))
  | (with_reducible refine g_star ?_)
  | ((with_reducible refine' g_kstarL ?gh ?_); (case gh => walk_at "h"))
  | ((with_reducible refine' g_kstarT ?gh ?_); (case gh => walk_at "h"))
  | (with_reducible refine g_tru ?_)
  | ((with_reducible refine' g_truL ?gh ?_); (case gh => walk_at "h"))
  | (with_reducible refine g_get2 ?_)
  | walk_at "is")
local macro_rules | `(tactic| walk_at "gg") => `(tactic| repeat walk_at "g")
local macro_rules | `(tactic| walk_at "sz") => `(tactic| (refine sz ?_; simp only [List.length_cons, List.length_nil, List.length_map, List.length_append, List.length_replicate]; omega))

/-! ### stable lines, runs, chunks -/
def look (ps : List (Nat × Nat)) (i : Nat) : Option Nat := (ps.find? fun p => decide (p.1 = i)).map (·.2)
theorem look_nil (i : Nat) : look [] i = none := rfl
theorem look_cons (p : Nat × Nat) (ps : List (Nat × Nat)) (i : Nat) : look (p :: ps) i = if p.1 = i then some p.2 else look ps i := by
  unfold look
  by_cases h : p.1 = i <;> simp [List.find?_cons, h]
theorem fm_congr {α β : Type} {f g : α → Option β} : ∀ {l : List α}, (∀ x ∈ l, f x = g x) → l.filterMap f = l.filterMap g
  | [], _ => rfl
  | x :: l, h => by
    rw [List.filterMap_cons, List.filterMap_cons, h x List.mem_cons_self, fm_congr fun y hy => h y (List.mem_cons_of_mem _ hy)]
def Inc : Nat → Nat → List (Nat × Nat) → Prop
  | _, _, [] => True
  | i, j, p :: ps => i ≤ p.1 ∧ j ≤ p.2 ∧ Inc (p.1 + 1) (p.2 + 1) ps
theorem Inc.mono {i j i' j' : Nat} : ∀ {ps : List (Nat × Nat)}, i' ≤ i → j' ≤ j → Inc i j ps → Inc i' j' ps
  | [], _, _, _ => trivial
  | _ :: _, h1, h2, h => ⟨Nat.le_trans h1 h.1, Nat.le_trans h2 h.2.1, h.2.2⟩
theorem mt_inc : ∀ (xs ys : List Str) (i j : Nat), Inc i j (mt xs ys i j)
  | [], _, _, _ => by rw [mt]; trivial
  | _ :: _, [], _, _ => by rw [mt]; trivial
  | x :: xs, y :: ys, i, j => by
    rw [mt]
    split
    · exact ⟨Nat.le_refl _, Nat.le_refl _, mt_inc xs ys (i + 1) (j + 1)⟩
    · split
      · exact (mt_inc xs (y :: ys) (i + 1) j).mono (Nat.le_succ _) (Nat.le_refl _)
      · exact (mt_inc (x :: xs) ys i (j + 1)).mono (Nat.le_refl _) (Nat.le_succ _)
termination_by xs ys => xs.length + ys.length
theorem mt_eq : ∀ (xs ys : List Str) (i j : Nat) (p : Nat × Nat), p ∈ mt xs ys i j → ∃ z, xs[p.1 - i]? = some z ∧ ys[p.2 - j]? = some z
  | [], _, _, _, _, h => by rw [mt] at h; cases h
  | _ :: _, [], _, _, _, h => by rw [mt] at h; cases h
  | x :: xs, y :: ys, i, j, p, h => by
    rw [mt] at h
    split at h
    · rename_i e
      rcases List.mem_cons.mp h with rfl | h
      · exact ⟨x, by simp, by simp [e]⟩
      · have hl := mt_lt _ _ _ _ _ h
        obtain ⟨z, h1, h2⟩ := mt_eq xs ys (i + 1) (j + 1) p h
        refine ⟨z, ?_, ?_⟩
        · rw [show p.1 - i = (p.1 - (i + 1)) + 1 by omega]; exact h1
        · rw [show p.2 - j = (p.2 - (j + 1)) + 1 by omega]; exact h2
    · split at h
      · have hl := mt_lt _ _ _ _ _ h
        obtain ⟨z, h1, h2⟩ := mt_eq xs (y :: ys) (i + 1) j p h
        refine ⟨z, ?_, h2⟩
        rw [show p.1 - i = (p.1 - (i + 1)) + 1 by omega]; exact h1
      · have hl := mt_lt _ _ _ _ _ h
        obtain ⟨z, h1, h2⟩ := mt_eq (x :: xs) ys i (j + 1) p h
        refine ⟨z, h1, ?_⟩
        rw [show p.2 - j = (p.2 - (j + 1)) + 1 by omega]; exact h2
termination_by xs ys => xs.length + ys.length
theorem look_ge {i k : Nat} : ∀ {a b : Nat} {qs : List (Nat × Nat)}, Inc a b qs → look qs i = some k → a ≤ i ∧ b ≤ k
  | _, _, [], _, h => by cases h
  | a, b, q :: qs, hi, h => by
    rw [look_cons] at h
    split at h
    · rename_i e
      have := Option.some.inj h
      exact ⟨e ▸ hi.1, this ▸ hi.2.1⟩
    · have := look_ge hi.2.2 h
      exact ⟨by have := hi.1; omega, by have := hi.2.1; omega⟩
theorem look_inc {i1 i2 k1 k2 : Nat} : ∀ {a b : Nat} {qs : List (Nat × Nat)}, Inc a b qs → look qs i1 = some k1 → look qs i2 = some k2 → i1 < i2 → k1 < k2
  | _, _, [], _, h, _, _ => by cases h
  | a, b, q :: qs, hi, h1, h2, hlt => by
    rw [look_cons] at h1 h2
    split at h1
    · rename_i e1
      split at h2
      · omega
      · have := look_ge hi.2.2 h2
        have := Option.some.inj h1
        omega
    · split at h2
      · rename_i e2
        have := look_ge hi.2.2 h1
        omega
      · exact look_inc hi.2.2 h1 h2 hlt
theorem look_mem {i k : Nat} {qs : List (Nat × Nat)} (h : look qs i = some k) : (i, k) ∈ qs := by
  induction qs with
  | nil => cases h
  | cons q qs ih =>
    rw [look_cons] at h
    split at h
    · rename_i e
      have := Option.some.inj h
      obtain ⟨q1, q2⟩ := q
      simp only at e this
      rw [e, this]
      exact List.mem_cons_self
    · exact List.mem_cons_of_mem _ (ih h)
abbrev Tr := Nat × Nat × Nat
def stab (ps qs : List (Nat × Nat)) : List Tr := ps.filterMap fun p => (look qs p.1).map fun k => (p.1, p.2, k)
def Wf : Nat → Nat → Nat → List Tr → Prop
  | _, _, _, [] => True
  | i, j, k, m :: ms => i ≤ m.1 ∧ j ≤ m.2.1 ∧ k ≤ m.2.2 ∧ Wf (m.1 + 1) (m.2.1 + 1) (m.2.2 + 1) ms
theorem stab_wf {qs : List (Nat × Nat)} {a b : Nat} (hq : Inc a b qs) : ∀ {i j k : Nat} {ps : List (Nat × Nat)}, Inc i j ps → (∀ i' k', i ≤ i' → look qs i' = some k' → k ≤ k') → Wf i j k (stab ps qs)
  | _, _, _, [], _, _ => trivial
  | i, j, k, p :: ps, hp, hk => by
    unfold stab
    rw [List.filterMap_cons]
    cases h : look qs p.1 with
    | none =>
      simp only [Option.map_none]
      exact stab_wf hq (hp.2.2.mono (by have := hp.1; omega) (by have := hp.2.1; omega)) hk
    | some k' =>
      simp only [Option.map_some]
      refine ⟨hp.1, hp.2.1, hk _ _ hp.1 h, stab_wf hq hp.2.2 fun i' k2 hi h2 => ?_⟩
      exact look_inc hq h h2 hi
theorem stab_mem {ps qs : List (Nat × Nat)} {m : Tr} (h : m ∈ stab ps qs) : (m.1, m.2.1) ∈ ps ∧ (m.1, m.2.2) ∈ qs := by
  unfold stab at h
  obtain ⟨p, hp, e⟩ := List.mem_filterMap.mp h
  obtain ⟨k, hk, e2⟩ := Option.map_eq_some_iff.mp e
  subst e2
  exact ⟨hp, look_mem hk⟩
theorem fm_none {α β : Type} {f : α → Option β} : ∀ {l : List α}, (∀ x ∈ l, f x = none) → l.filterMap f = []
  | [], _ => rfl
  | x :: l, h => by
    rw [List.filterMap_cons, h x List.mem_cons_self]
    exact fm_none fun y hy => h y (List.mem_cons_of_mem _ hy)
theorem look_none {a b i : Nat} {ps : List (Nat × Nat)} (h : Inc a b ps) (hi : i < a) : look ps i = none := by
  cases e : look ps i with
  | none => rfl
  | some k =>
    have := look_ge h e
    omega
theorem fm_range {β : Type} (g : Nat → Nat → Option β) : ∀ (n a b : Nat) (ps : List (Nat × Nat)), Inc a b ps → (∀ p ∈ ps, p.1 < a + n) → ps.filterMap (fun p => g p.1 p.2) = (List.range' a n).filterMap fun i => (look ps i).bind fun j => g i j
  | 0, a, b, ps, hp, hn => by
    cases ps with
    | nil => rfl
    | cons p ps =>
      have := hp.1
      have := hn p List.mem_cons_self
      omega
  | n + 1, a, b, [], hp, hn => (fm_none fun x _ => rfl).symm
  | n + 1, a, b, p :: ps, hp, hn => by
    rw [List.range'_succ, List.filterMap_cons (a := a), look_cons]
    by_cases e : p.1 = a
    · rw [if_pos e, List.filterMap_cons, e]
      have ih := fm_range g n (a + 1) (p.2 + 1) ps (by have := hp.2.2; rw [e] at this; exact this) (fun q hq => by have := hn q (List.mem_cons_of_mem _ hq); omega)
      have hc : (List.range' (a + 1) n).filterMap (fun i => (look (p :: ps) i).bind fun j => g i j) = (List.range' (a + 1) n).filterMap fun i => (look ps i).bind fun j => g i j := by
        apply fm_congr
        intro i hi
        have := (List.mem_range'_1.mp hi).1
        rw [look_cons, if_neg (by omega)]
      rw [hc, ← ih]
      rfl
    · rw [if_neg e, look_none hp.2.2 (by have := hp.1; omega)]
      exact fm_range g n (a + 1) b (p :: ps) ⟨by have := hp.1; omega, hp.2.1, hp.2.2⟩ (fun q hq => by have := hn q hq; omega)
theorem stab_range {ps qs : List (Nat × Nat)} {n : Nat} (hp : Inc 0 0 ps) (hn : ∀ p ∈ ps, p.1 < n) :
    stab ps qs = ((List.range n).filter fun i => (look ps i).isSome && (look qs i).isSome).map fun i => (i, (look ps i).getD 0, (look qs i).getD 0) := by
  have h := fm_range (fun i j => (look qs i).map fun k => ((i, j, k) : Tr)) n 0 0 ps hp (by intro p h; have := hn p h; omega)
  unfold stab
  rw [h, List.range_eq_range', ← List.filterMap_eq_map, List.filterMap_filter]
  apply fm_congr
  intro i _
  rcases h1 : look ps i with _ | j <;> rcases h2 : look qs i with _ | k <;> simp [h1, h2]
inductive Ch where
  | same (ls : List Str)
  | part (b x y : List Str)
abbrev R4 := Nat × Nat × Nat × Nat
def grpF : R4 → List Tr → List R4
  | r, [] => [r]
  | (a, b, c, l), m :: ms => if (a + l, b + l, c + l) = m then grpF (a, b, c, l + 1) ms else (a, b, c, l) :: grpF (m.1, m.2.1, m.2.2, 1) ms
def grp : List Tr → List R4
  | [] => []
  | m :: ms => grpF (m.1, m.2.1, m.2.2, 1) ms
def cut (L : List Str) (i a : Nat) : List Str := (L.drop i).take (a - i)
def pOpt (B X Y : List Str) (s m : Tr) : List Ch := if (cut B s.1 m.1).length + (cut X s.2.1 m.2.1).length + (cut Y s.2.2 m.2.2).length > 0 then [.part (cut B s.1 m.1) (cut X s.2.1 m.2.1) (cut Y s.2.2 m.2.2)] else []
def sOpt (B : List Str) (a l : Nat) : List Ch := if l > 0 then [.same (cut B a (a + l))] else []
def pc (B X Y : List Str) : Tr → List R4 → List Ch
  | _, [] => []
  | s, (a, b, c, l) :: rs => pOpt B X Y s (a, b, c) ++ sOpt B a l ++ pc B X Y (a + l, b + l, c + l) rs
def fl (run : List Str) : List Ch := if run ≠ [] then [.same run] else []
def pN (B X Y : List Str) (s m : Tr) : List Ch := if m ≠ s then [.part (cut B s.1 m.1) (cut X s.2.1 m.2.1) (cut Y s.2.2 m.2.2)] else []
def nx3 (m : Tr) : Tr := (m.1 + 1, m.2.1 + 1, m.2.2 + 1)
def chL (B X Y : List Str) : Tr → List Str → List Tr → List Ch
  | _, _, [] => []
  | s, run, m :: ms => if m ≠ s ∨ ms = [] then fl run ++ pN B X Y s m ++ chL B X Y (nx3 m) ((B.drop m.1).take 1) ms else chL B X Y (nx3 m) (run ++ (B.drop m.1).take 1) ms
theorem cut_len (L : List Str) {i a : Nat} (h : a ≤ L.length) : (cut L i a).length = a - i := by
  unfold cut
  rw [List.length_take, List.length_drop]
  omega
theorem cut_succ (L : List Str) {a n : Nat} (h : a ≤ n) : cut L a (n + 1) = cut L a n ++ (L.drop n).take 1 := by
  unfold cut
  rw [show n + 1 - a = (n - a) + 1 by omega, List.take_add_one, List.getElem?_drop, show a + (n - a) = n by omega]
  congr 1
  by_cases hn : n < L.length
  · rw [List.getElem?_eq_getElem hn, List.drop_eq_getElem_cons hn]
    rfl
  · rw [List.getElem?_eq_none (by omega), List.drop_eq_nil_of_le (by omega)]
    rfl
theorem pOpt_pN {B X Y : List Str} {s m : Tr} (h1 : s.1 ≤ m.1) (h2 : s.2.1 ≤ m.2.1) (h3 : s.2.2 ≤ m.2.2) (l1 : m.1 ≤ B.length) (l2 : m.2.1 ≤ X.length) (l3 : m.2.2 ≤ Y.length) : pOpt B X Y s m = pN B X Y s m := by
  unfold pOpt pN
  rw [cut_len B l1, cut_len X l2, cut_len Y l3]
  by_cases e : m = s
  · subst e
    rw [if_neg (by omega), if_neg (fun z => z rfl)]
  · rw [if_pos e, if_pos]
    rcases Nat.lt_or_ge 0 (m.1 - s.1 + (m.2.1 - s.2.1) + (m.2.2 - s.2.2)) with h | h
    · exact h
    · exfalso
      apply e
      obtain ⟨m1, m2, m3⟩ := m
      obtain ⟨s1, s2, s3⟩ := s
      simp only at *
      rw [show m1 = s1 by omega, show m2 = s2 by omega, show m3 = s3 by omega]
/-- within a text's bounds -/
def Bd (B X Y : List Str) (m : Tr) : Prop := m.1 < B.length ∧ m.2.1 < X.length ∧ m.2.2 < Y.length
theorem pc_chL (B X Y : List Str) : ∀ (S : List Tr) (a b c l : Nat) (pos : Tr), 0 < l → a + l ≤ B.length → b + l ≤ X.length → c + l ≤ Y.length → Wf (a + l) (b + l) (c + l) S → (∀ m ∈ S, Bd B X Y m) →
    pc B X Y pos (grpF (a, b, c, l) S ++ [(B.length, X.length, Y.length, 0)]) = pOpt B X Y pos (a, b, c) ++ chL B X Y (a + l, b + l, c + l) (cut B a (a + l)) (S ++ [(B.length, X.length, Y.length)])
  | [], a, b, c, l, pos, hl, h1, h2, h3, hw, hb => by
    have hrun : cut B a (a + l) ≠ [] := fun z => by
      have := cut_len B (i := a) h1
      rw [z] at this
      simp only [List.length_nil] at this
      omega
    show pOpt B X Y pos (a, b, c) ++ sOpt B a l ++ (pOpt B X Y (a + l, b + l, c + l) (B.length, X.length, Y.length) ++ sOpt B B.length 0 ++ []) = _
    rw [pOpt_pN (s := (a + l, b + l, c + l)) h1 h2 h3 (Nat.le_refl _) (Nat.le_refl _) (Nat.le_refl _), List.nil_append, chL, if_pos (.inr rfl), chL]
    unfold sOpt fl
    rw [if_pos hl, if_neg (by omega), if_pos hrun]
    simp only [List.append_nil, List.append_assoc]
  | m :: ms, a, b, c, l, pos, hl, h1, h2, h3, hw, hb => by
    have hm := hb m List.mem_cons_self
    have hne : ms ++ [(B.length, X.length, Y.length)] ≠ [] := by simp
    obtain ⟨m1, m2, m3⟩ := m
    obtain ⟨w1, w2, w3, w4⟩ := hw
    obtain ⟨b1, b2, b3⟩ := hm
    simp only at w1 w2 w3 w4 b1 b2 b3
    rw [grpF, List.cons_append, chL]
    by_cases e : ((a + l, b + l, c + l) : Tr) = (m1, m2, m3)
    · rw [if_pos e, if_neg (by rintro (z | z); exact z e.symm; exact hne z)]
      obtain ⟨e1, e2, e3⟩ : a + l = m1 ∧ b + l = m2 ∧ c + l = m3 := by
        simp only [Prod.mk.injEq] at e
        exact e
      subst e1 e2 e3
      have ih := pc_chL B X Y ms a b c (l + 1) pos (by omega) (by omega) (by omega) (by omega) w4 (fun q hq => hb q (List.mem_cons_of_mem _ hq))
      rw [ih, show a + (l + 1) = (a + l) + 1 by omega, cut_succ B (by omega)]
      rfl
    · rw [if_neg e, if_pos (.inl fun z => e z.symm)]
      have ih := pc_chL B X Y ms m1 m2 m3 1 (a + l, b + l, c + l) (by omega) (by omega) (by omega) (by omega) w4 (fun q hq => hb q (List.mem_cons_of_mem _ hq))
      have hrun : cut B a (a + l) ≠ [] := fun z => by
        have := cut_len B (i := a) h1
        rw [z] at this
        simp only [List.length_nil] at this
        omega
      show pOpt B X Y pos (a, b, c) ++ sOpt B a l ++ pc B X Y (a + l, b + l, c + l) (grpF (m1, m2, m3, 1) ms ++ [(B.length, X.length, Y.length, 0)]) = _
      rw [ih, pOpt_pN (s := (a + l, b + l, c + l)) (m := (m1, m2, m3)) w1 w2 w3 (Nat.le_of_lt b1) (Nat.le_of_lt b2) (Nat.le_of_lt b3)]
      unfold sOpt fl
      rw [if_pos hl, if_pos hrun]
      have ec : cut B m1 (m1 + 1) = (B.drop m1).take 1 := by
        unfold cut
        rw [show m1 + 1 - m1 = 1 by omega]
      rw [ec]
      simp only [List.append_assoc]
      rfl
/-- the chunks of three texts -/
def tch (B X Y : List Str) : List Ch := pc B X Y (0, 0, 0) (grp (stab (mt B X 0 0) (mt B Y 0 0)) ++ [(B.length, X.length, Y.length, 0)])
theorem stab_bd (B X Y : List Str) : ∀ m ∈ stab (mt B X 0 0) (mt B Y 0 0), Bd B X Y m := fun m hm => by
  obtain ⟨h1, h2⟩ := stab_mem hm
  have l1 := mt_lt _ _ _ _ _ h1
  have l2 := mt_lt _ _ _ _ _ h2
  exact ⟨by omega, by omega, by omega⟩
theorem stab_wf0 (B X Y : List Str) : Wf 0 0 0 (stab (mt B X 0 0) (mt B Y 0 0)) := stab_wf (mt_inc B Y 0 0) (mt_inc B X 0 0) fun _ _ _ _ => Nat.zero_le _
theorem tch_eq (B X Y : List Str) : tch B X Y = chL B X Y (0, 0, 0) [] (stab (mt B X 0 0) (mt B Y 0 0) ++ [(B.length, X.length, Y.length)]) := by
  unfold tch
  have hw := stab_wf0 B X Y
  have hb := stab_bd B X Y
  generalize stab (mt B X 0 0) (mt B Y 0 0) = S at *
  cases S with
  | nil =>
    show pOpt B X Y (0, 0, 0) (B.length, X.length, Y.length) ++ sOpt B B.length 0 ++ [] = _
    rw [pOpt_pN (Nat.zero_le _) (Nat.zero_le _) (Nat.zero_le _) (Nat.le_refl _) (Nat.le_refl _) (Nat.le_refl _), List.nil_append, chL, if_pos (.inr rfl), chL]
    unfold sOpt fl
    rw [if_neg (by omega), if_neg (fun z => z rfl)]
    simp only [List.append_nil, List.nil_append]
  | cons m ms =>
    obtain ⟨m1, m2, m3⟩ := m
    obtain ⟨w1, w2, w3, w4⟩ := hw
    obtain ⟨b1, b2, b3⟩ := hb (m1, m2, m3) List.mem_cons_self
    simp only at w1 w2 w3 w4 b1 b2 b3
    have h := pc_chL B X Y ms m1 m2 m3 1 (0, 0, 0) (by omega) (by omega) (by omega) (by omega) w4 (fun q hq => hb q (List.mem_cons_of_mem _ hq))
    have hne : ms ++ [(B.length, X.length, Y.length)] ≠ [] := by simp
    have ec : cut B m1 (m1 + 1) = (B.drop m1).take 1 := by
      unfold cut
      rw [show m1 + 1 - m1 = 1 by omega]
    show pc B X Y (0, 0, 0) (grpF (m1, m2, m3, 1) ms ++ _) = _
    rw [h, pOpt_pN (m := (m1, m2, m3)) (Nat.zero_le _) (Nat.zero_le _) (Nat.zero_le _) (Nat.le_of_lt b1) (Nat.le_of_lt b2) (Nat.le_of_lt b3), List.cons_append, chL, ec]
    by_cases e : ((m1, m2, m3) : Tr) = (0, 0, 0)
    · rw [if_neg (by rintro (z | z); exact z e; exact hne z)]
      unfold pN
      rw [if_neg (fun z => z e), List.nil_append, List.nil_append]
      rfl
    · rw [if_pos (.inl e)]
      unfold fl
      rw [if_neg (fun z => z rfl), List.nil_append]
      rfl
/-! ### the stretches joined -/
def side (n : Nat) : Ch → List Str
  | .same ls => ls
  | .part b x y => if n = 1 then b else if n = 2 then x else y
def joined (n : Nat) (cs : List Ch) : List Str := cs.flatMap (side n)
def sel (n : Nat) (m : Tr) : Nat := if n = 1 then m.1 else if n = 2 then m.2.1 else m.2.2
def selT (n : Nat) (B X Y : List Str) : List Str := if n = 1 then B else if n = 2 then X else Y
theorem cut_drop (L : List Str) {i a : Nat} (h : i ≤ a) : cut L i a ++ L.drop a = L.drop i := by
  unfold cut
  have := List.take_append_drop (a - i) (L.drop i)
  rw [List.drop_drop, show i + (a - i) = a by omega] at this
  exact this
theorem take1_drop (L : List Str) (a : Nat) : (L.drop a).take 1 ++ L.drop (a + 1) = L.drop a := by
  have := List.take_append_drop 1 (L.drop a)
  rw [List.drop_drop] at this
  exact this
theorem joined_chL (n : Nat) (B X Y : List Str) : ∀ (S : List Tr) (s : Tr) (run : List Str), Wf s.1 s.2.1 s.2.2 S → s.1 ≤ B.length → s.2.1 ≤ X.length → s.2.2 ≤ Y.length →
    (∀ m ∈ S, Bd B X Y m ∧ (B.drop m.1).take 1 = ((selT n B X Y).drop (sel n m)).take 1) →
    joined n (chL B X Y s run (S ++ [(B.length, X.length, Y.length)])) = run ++ (selT n B X Y).drop (sel n s)
  | [], s, run, hw, h1, h2, h3, hb => by
    rw [List.nil_append, chL, if_pos (.inr rfl), chL, List.append_nil]
    unfold joined
    rw [List.flatMap_append]
    have e1 : (fl run).flatMap (side n) = run := by
      unfold fl
      split
      · simp [side]
      · rename_i z
        have : run = [] := Classical.not_not.mp z
        rw [this]; rfl
    rw [e1]
    congr 1
    have key : ∀ (L : List Str) (i : Nat), cut L i L.length = L.drop i := fun L i => by
      unfold cut
      rw [List.take_of_length_le (by rw [List.length_drop]; exact Nat.le_refl _)]
    unfold pN
    by_cases e : ((B.length, X.length, Y.length) : Tr) = s
    · rw [if_neg (fun z => z e), ← e]
      unfold sel selT
      split
      · rw [List.drop_length]; rfl
      · split <;> (rw [List.drop_length]; rfl)
    · rw [if_pos e]
      simp only [List.flatMap_cons, List.flatMap_nil, List.append_nil, side, key]
      unfold sel selT
      split
      · rfl
      · split <;> rfl
  | m :: ms, s, run, hw, h1, h2, h3, hb => by
    obtain ⟨w1, w2, w3, w4⟩ := hw
    obtain ⟨⟨b1, b2, b3⟩, hlines⟩ := hb m List.mem_cons_self
    have ih := fun r => joined_chL n B X Y ms (nx3 m) r w4 b1 b2 b3 (fun q hq => hb q (List.mem_cons_of_mem _ hq))
    have hsel : sel n (nx3 m) = sel n m + 1 := by
      unfold sel nx3
      split
      · rfl
      · split <;> rfl
    have hle : sel n s ≤ sel n m := by
      unfold sel
      split
      · exact w1
      · split
        · exact w2
        · exact w3
    rw [List.cons_append, chL]
    split
    · unfold joined at ih ⊢
      rw [List.flatMap_append, List.flatMap_append, ih, hsel, hlines, take1_drop]
      have e1 : (fl run).flatMap (side n) = run := by
        unfold fl
        split
        · simp [side]
        · rename_i z
          have : run = [] := Classical.not_not.mp z
          rw [this]; rfl
      rw [e1, List.append_assoc]
      congr 1
      unfold pN
      by_cases e : m = s
      · rw [if_neg (fun z => z e), e]; rfl
      · rw [if_pos e]
        simp only [List.flatMap_cons, List.flatMap_nil, List.append_nil, side]
        rw [← cut_drop (selT n B X Y) hle]
        congr 1
        unfold sel selT
        split
        · rfl
        · split <;> rfl
    · rename_i z
      have e : m = s := Classical.not_not.mp fun y => z (.inl y)
      rw [ih, hsel, hlines, List.append_assoc, take1_drop, e]
theorem take1_eq {L M : List Str} {i j : Nat} {z : Str} (h1 : L[i]? = some z) (h2 : M[j]? = some z) : (L.drop i).take 1 = (M.drop j).take 1 := by
  obtain ⟨l1, e1⟩ := List.getElem?_eq_some_iff.mp h1
  obtain ⟨l2, e2⟩ := List.getElem?_eq_some_iff.mp h2
  rw [List.drop_eq_getElem_cons l1, List.drop_eq_getElem_cons l2, e1, e2]
  rfl
theorem tch_joined (n : Nat) (B X Y : List Str) : joined n (tch B X Y) = selT n B X Y := by
  rw [tch_eq, joined_chL n B X Y _ (0, 0, 0) [] (stab_wf0 B X Y) (Nat.zero_le _) (Nat.zero_le _) (Nat.zero_le _)]
  · have : sel n ((0, 0, 0) : Tr) = 0 := by
      unfold sel
      split
      · rfl
      · split <;> rfl
    rw [this, List.drop_zero, List.nil_append]
  · intro m hm
    refine ⟨stab_bd B X Y m hm, ?_⟩
    obtain ⟨h1, h2⟩ := stab_mem hm
    obtain ⟨z1, e1, e2⟩ := mt_eq _ _ _ _ _ h1
    obtain ⟨z2, e3, e4⟩ := mt_eq _ _ _ _ _ h2
    rw [Nat.sub_zero] at e1 e2 e3 e4
    unfold sel selT
    split
    · rfl
    · split
      · exact take1_eq e1 e2
      · exact take1_eq e3 e4
theorem stab_self (B : List Str) : stab (mt B B 0 0) (mt B B 0 0) = (List.range B.length).map fun k => (k, k, k) := by
  have hl : ∀ i, look (mt B B 0 0) i = if i < B.length then some i else none := fun i => by
    cases h : look (mt B B 0 0) i with
    | none =>
      rw [if_neg]
      intro hi
      have hm : (i, i) ∈ mt B B 0 0 := by
        rw [mt_self]
        exact List.mem_map.mpr ⟨i, List.mem_range.mpr hi, by rw [Nat.zero_add]⟩
      have : ∀ (ps : List (Nat × Nat)), (i, i) ∈ ps → look ps i ≠ none := by
        intro ps
        induction ps with
        | nil => intro h; cases h
        | cons p ps ih =>
          intro h
          rw [look_cons]
          split
          · exact fun z => by cases z
          · rename_i ne
            rcases List.mem_cons.mp h with h | h
            · exact (ne (by rw [← h])).elim
            · exact ih h
      exact this _ hm h
    | some k =>
      have hm := look_mem h
      rw [mt_self] at hm
      obtain ⟨k', hk, e⟩ := List.mem_map.mp hm
      rw [Nat.zero_add, Prod.mk.injEq] at e
      have := List.mem_range.mp hk
      rw [if_pos (by omega)]
      congr 1
      omega
  rw [stab_range (n := B.length) (mt_inc B B 0 0) (fun p hp => by have := mt_lt _ _ _ _ _ hp; omega)]
  have e1 : ((List.range B.length).filter fun i => (look (mt B B 0 0) i).isSome && (look (mt B B 0 0) i).isSome) = List.range B.length := by
    apply List.filter_eq_self.mpr
    intro i hi
    rw [hl i, if_pos (List.mem_range.mp hi)]
    rfl
  rw [e1]
  apply List.map_congr_left
  intro i hi
  rw [hl i, if_pos (List.mem_range.mp hi)]
  rfl
theorem chL_diag (B : List Str) : ∀ (d t : Nat), t + d = B.length → chL B B B (t, t, t) (B.take t) (((List.range' t d).map fun k => ((k, k, k) : Tr)) ++ [(B.length, B.length, B.length)]) = if B = [] then [] else [.same B]
  | 0, t, h => by
    have e : t = B.length := by omega
    subst e
    rw [List.take_length]
    show chL B B B _ B [(B.length, B.length, B.length)] = _
    rw [chL, if_pos (.inr rfl), chL]
    unfold fl pN
    rw [if_neg (fun z : ((B.length, B.length, B.length) : Tr) ≠ (B.length, B.length, B.length) => z rfl)]
    by_cases hB : B = []
    · rw [if_neg (fun z => z hB), if_pos hB]; rfl
    · rw [if_pos hB, if_neg hB]; rfl
  | d + 1, t, h => by
    rw [List.range'_succ, List.map_cons, List.cons_append, chL, if_neg (by rintro (z | z); exact z rfl; simp at z)]
    have e : B.take t ++ (B.drop t).take 1 = B.take (t + 1) := by
      have := cut_succ B (a := 0) (n := t) (Nat.zero_le _)
      unfold cut at this
      rw [List.drop_zero, Nat.sub_zero, Nat.sub_zero] at this
      exact this.symm
    rw [e]
    exact chL_diag B d (t + 1) (by omega)
theorem tch_self (B : List Str) : tch B B B = if B = [] then [] else [.same B] := by
  rw [tch_eq, stab_self, List.range_eq_range']
  exact chL_diag B B.length 0 (by omega)

/-! ### _stable_lines, _runs, text_chunks -/
def kvq (q : Nat × Nat) : Key × V := (.inl (q.1 : Int), .int (q.2 : Int))
theorem merge_look (i : Nat) : ∀ (qs : List (Nat × Nat)) (acc : List (Key × V)) {a b : Nat}, Inc a b qs → valV (mergeK acc (qs.map kvq)) (.inl (i : Int)) = match look qs i with
    | some k => some (.int (k : Int))
    | none => valV acc (.inl (i : Int))
  | [], acc, _, _, _ => rfl
  | q :: qs, acc, a, b, h => by
    show valV (mergeK (putK acc (kvq q).1 (kvq q).2) (qs.map kvq)) (.inl (i : Int)) = _
    rw [merge_look i qs _ h.2.2, look_cons, valV_put]
    by_cases e : q.1 = i
    · rw [if_pos e, look_none h.2.2 (by omega)]
      show (if _ then _ else _) = _
      rw [if_pos (by rw [← e]; rfl)]
      rfl
    · rw [if_neg e]
      cases look qs i with
      | some k => rfl
      | none =>
        show (if _ then _ else _) = _
        rw [if_neg]
        intro z
        apply e
        have : (i : Int) = (q.1 : Int) := by injection z
        omega
theorem merge_look0 {qs : List (Nat × Nat)} {a b : Nat} (h : Inc a b qs) (i : Nat) : valV (mergeK [] (qs.map kvq)) (.inl (i : Int)) = (look qs i).map fun (k : Nat) => V.int (k : Int) := by
  rw [merge_look i qs [] h]
  cases look qs i <;> rfl
theorem prd_pair {K : PySem.W.Frag} {H : Hp} : ∀ {vs : List V} {qs : List (Nat × Nat)}, DqAll H vs (qs.map prd) → ∃ ps : List Addr, vs = ps.map V.ref ∧ Paired (fun p kv => SqT K H p [kV kv.1, kv.2]) ps (qs.map kvq)
  | _, [], .nil => ⟨[], rfl, .nil⟩
  | _, q :: qs, .cons d t => by
    obtain ⟨T, rfl, hT⟩ := prd_inv d
    obtain ⟨ps, rfl, hp⟩ := prd_pair (K := K) t
    exact ⟨T :: ps, rfl, .cons (SqT.of hT) hp⟩
def trd (m : Tr) : PyData := .tuple [.int (m.1 : Int), .int (m.2.1 : Int), .int (m.2.2 : Int)]
def r4d (r : R4) : PyData := .tuple [.int (r.1 : Int), .int (r.2.1 : Int), .int (r.2.2.1 : Int), .int (r.2.2.2 : Int)]
theorem trd_inv {F : Hp} {v : V} {m : Tr} (h : Dq F v (trd m)) : ∃ T, v = .ref T ∧ F T = some (.tup [.int m.1, .int m.2.1, .int m.2.2]) := by
  cases h with
  | tup hT hs =>
    cases hs with
    | cons h1 hs =>
      cases hs with
      | cons h2 hs =>
        cases hs with
        | cons h3 hs =>
          cases hs
          cases h1
          cases h2
          cases h3
          exact ⟨_, rfl, hT⟩
theorem r4d_inv {F : Hp} {v : V} {r : R4} (h : Dq F v (r4d r)) : ∃ T, v = .ref T ∧ F T = some (.tup [.int r.1, .int r.2.1, .int r.2.2.1, .int r.2.2.2]) := by
  cases h with
  | tup hT hs =>
    cases hs with
    | cons h1 hs =>
      cases hs with
      | cons h2 hs =>
        cases hs with
        | cons h3 hs =>
          cases hs with
          | cons h4 hs =>
            cases hs
            cases h1
            cases h2
            cases h3
            cases h4
            exact ⟨_, rfl, hT⟩
theorem stab_len (ps qs : List (Nat × Nat)) : (stab ps qs).length ≤ ps.length := List.length_filterMap_le _ _
theorem grpF_len : ∀ (S : List Tr) (r : R4), (grpF r S).length ≤ S.length + 1
  | [], r => Nat.le_refl _
  | m :: S, (a, b, c, l) => by
    rw [grpF]
    split
    · have := grpF_len S (a, b, c, l + 1)
      rw [List.length_cons]
      omega
    · have := grpF_len S (m.1, m.2.1, m.2.2, 1)
      rw [List.length_cons, List.length_cons]
      omega
theorem grp_len (S : List Tr) : (grp S).length ≤ S.length := by
  cases S with
  | nil => exact Nat.le_refl _
  | cons m S => exact grpF_len S _
def tS (ls : List Str) : PyData := .tuple (ls.map PyData.str)
def chD : Ch → PyData
  | .same ls => .tuple [.str "same", tS ls, tS ls, tS ls]
  | .part b x y => .tuple [.str "part", tS b, tS x, tS y]
theorem dq_tS {H : Hp} {a : Addr} {xs : List Str} (h : H a = some (.tup (xs.map V.str))) : Dq H (.ref a) (tS xs) := .tup h (DqAll.strs xs)
theorem tS_inv {H : Hp} {v : V} {xs : List Str} (h : Dq H v (tS xs)) : ∃ a, v = .ref a ∧ H a = some (.tup (xs.map V.str)) := by
  cases h with
  | tup hT hs => exact ⟨_, rfl, by rw [hT, hs.of_strs]⟩
section
variable {P : Program} {w : World} {K : PySem.W.Frag} {mg : Str → Option Value} {base : Heap}
def sp_stable_lines (K : PySem.W.Frag) : Sp := fun vs H Q _ => ∃ (a b c : Addr) (B X Y : List Str), vs = [.ref a, .ref b, .ref c] ∧ H a = some (.lst (B.map V.str)) ∧ H b = some (.lst (X.map V.str)) ∧ H c = some (.lst (Y.map V.str)) ∧ B.length ≤ 1000 ∧ X.length ≤ 1000 ∧ Y.length ≤ 1000 ∧
  ∀ p H' (vs : List V), Same H H' → H p = none → H' p = some (.lst vs) → DqAll H' vs ((stab (mt B X 0 0) (mt B Y 0 0)).map trd) → Q (.ref p) H'
theorem sp_stable_lines_len {vs H Q E} (h : sp_stable_lines K vs H Q E) : vs.length = 3 := by
  obtain ⟨_, _, _, _, _, _, rfl, _⟩ := h
  rfl
theorem ok_stable_lines (T : Txt K mg) : FnOk P w K mg base CX0 3 T.f_stable_lines T.fd_stable_lines ["base", "ours", "theirs"] (sp_stable_lines K) := by
  refine T.F_stable_lines.ok sc_stable_lines (fun vs H Q E h => sp_stable_lines_len h) (fun cdv A outer s H vs Q E hr h => ?_)
  refine ⟨_, (pss_cons (ps_set (i := 3) sc_stable_lines.nd rfl (.inr rfl) (pe_callTy (cr_dictP K rfl) (by rfl) T.m_dict (by decide +kernel) (pa_cons (pe_call (ok_matched T) (hr.mono (by decide)) (by rfl) T.g_matched T.F_matched.kp T.b_matched .nil pass0 (pa_cons (pv 0) (pa_cons (pv 2) pa_nil))) pa_nil)))
      (pss_one (ps_ret (pe_lc (own := [("i", 4), ("j", 5)]) (g := gTup K 2 (gCons (gName 4) (gCons (gName 5) gNil))) rfl sc_stable_lines.nd (k_il K (pi_list (pe_call (ok_matched T) (hr.mono (by decide)) (by rfl) T.g_matched T.F_matched.kp T.b_matched .nil pass0 (pa_cons (pv 0) (pa_cons (pv 1) pa_nil))))) (blkOk_by (N := n_stable_lines) (sc := defScope s_stable_lines) (by decide +kernel)) (fun _ _ _ _ _ => (k_gt K (pg_tup (by rfl) (pgs_cons (pg_name (i := 4) sc_stable_lines.nd rfl (.inl rfl)) (pgs_cons (pg_name (i := 5) sc_stable_lines.nd rfl (.inl rfl)) pgs_nil))))) (fun _ _ _ _ _ => (pts_one (pt_cmpR (op_inK K hr.units (u65 hr)) (pv 4) (pv 3) (by rfl)))) (fun _ _ _ _ _ => (pe_tup (pa_cons (pv 4) (pa_cons (pv 5) (pa_cons (pe_ix (ix_K K (hu_of hr)) (pv 3) (pv 4) (fun _ _ => rfl)) pa_nil))))))))), ?_⟩
  obtain ⟨a, b, c, B, X, Y, rfl, ha, hb, hc, lB, lX, lY, q⟩ := h
  refine g_start (σ' := [some (.ref a), some (.ref b), some (.ref c), none, none, none]) rfl ?_
  walk_at "gg"
  refine ⟨a, c, B, Y, rfl, ha, hc, lB, lY, fun p1 H1 v1 s1 n1 hp1 dq1 => ?_⟩
  have hH := Has.start H1
  obtain ⟨ps, rfl, pp⟩ := prd_pair (K := K) dq1
  walk_at "gg"
  refine g_dictP (by walk_at "h") pp hH (fun pd H2 n2 h2 => ?_)
  have hlook := merge_look0 (mt_inc B Y 0 0)
  generalize hkv : mergeK [] ((mt B Y 0 0).map kvq) = kvs at h2 hlook
  have ha2 := h2.same _ _ (s1 _ _ ha)
  have hb2 := h2.same _ _ (s1 _ _ hb)
  walk_at "gg"
  refine ⟨a, b, B, X, rfl, ha2, hb2, lB, lX, fun p3 H3 v3 s3 n3 hp3 dq3 => ?_⟩
  have hd3 : H3 pd = some (.dK kvs) := (h2.on s3).get (List.Mem.head _)
  have h3 := Has.start H3
  have hml : (mt B X 0 0).length ≤ 1000 := by rw [mt_length]; have := lc_len B X; omega
  have hvl : v3.length = (mt B X 0 0).length := by rw [dq3.len, List.length_map]
  refine k_lcL (by walk_at "h") h3 (fun t acc F' O' => Same H3 F' ∧ O' = [] ∧ DqAll F' acc ((stab ((mt B X 0 0).take t) (mt B Y 0 0)).map trd)) ⟨Same.refl _, rfl, .nil⟩ ?_ ?_ ?_
  · rintro t acc F' O' H4 ⟨sF, rfl, _⟩ hh
    exact hh.same _ _ (sF _ _ hp3)
  · rintro t x acc F' O' D H4 hx ⟨sF, rfl, dqa⟩ hh
    obtain ⟨d, hd, dx⟩ := dq3.get hx
    rw [List.getElem?_map] at hd
    obtain ⟨m, hm, rfl⟩ := Option.map_eq_some_iff.mp hd
    obtain ⟨i, j⟩ := m
    obtain ⟨T, rfl, hT⟩ := prd_inv (dx.up sF _ _)
    have hal : acc.length ≤ 1000 := by
      rw [dqa.len, List.length_map]
      have h1 := stab_len ((mt B X 0 0).take t) (mt B Y 0 0)
      rw [List.length_take] at h1
      omega
    have hdF := sF _ _ hd3
    have estab : stab ((mt B X 0 0).take (t + 1)) (mt B Y 0 0) = stab ((mt B X 0 0).take t) (mt B Y 0 0) ++ stab [(i, j)] (mt B Y 0 0) := by
      rw [List.take_add_one, hm]
      unfold stab
      rw [List.filterMap_append]
      rfl
    have ev := hlook i
    walk_at "gg"
    rw [ev]
    cases hl : look (mt B Y 0 0) i with
    | none =>
      rw [hl] at ev
      rw [Option.map_none, Option.isSome_none]
      walk_at "gg"
      refine k_skip hh ⟨sF, rfl, ?_⟩
      rw [estab]
      have : stab [(i, j)] (mt B Y 0 0) = [] := by
        unfold stab
        rw [List.filterMap_cons, hl]
        rfl
      rw [this, List.append_nil]
      exact dqa
    | some k =>
      rw [hl] at ev
      rw [Option.map_some, Option.isSome_some]
      walk_at "gg"
      refine g_ixDI (by walk_at "h") ev ?_
      walk_at "gg"
      refine g_ktupF (by walk_at "sz") hh (fun T2 H5 F5 n5 s5 f5 h5 => ?_)
      refine k_turn h5 (by omega) ⟨sF.trans s5, rfl, ?_⟩
      rw [estab]
      have : stab [(i, j)] (mt B Y 0 0) = [(i, j, k)] := by
        unfold stab
        rw [List.filterMap_cons, hl]
        rfl
      rw [this, List.map_append]
      exact (dqa.up s5 _ _).snoc (.tup f5 (.cons (.int _) (.cons (.int _) (.cons (.int _) .nil))))
  · rintro acc F' O' D H4 ⟨sF, rfl, dqa⟩ hh
    rw [List.take_of_length_le (by omega)] at dqa
    walk_at "gg"
    exact q D H4 acc (s1.trans (h2.same.trans (s3.trans (sF.trans hh.same)))) ((s1.trans (h2.same.trans (s3.trans sF))).free hh.free) (hh.get (List.Mem.head _)) (dqa.up hh.same _ _)
def sp_runs (K : PySem.W.Frag) : Sp := fun vs H Q _ => ∃ (a b c : Addr) (B X Y : List Str), vs = [.ref a, .ref b, .ref c] ∧ H a = some (.lst (B.map V.str)) ∧ H b = some (.lst (X.map V.str)) ∧ H c = some (.lst (Y.map V.str)) ∧ B.length ≤ 1000 ∧ X.length ≤ 1000 ∧ Y.length ≤ 1000 ∧
  ∀ p H' (vs : List V), Same H H' → H p = none → H' p = some (.lst vs) → DqAll H' vs ((grp (stab (mt B X 0 0) (mt B Y 0 0))).map r4d) → Q (.ref p) H'
theorem sp_runs_len {vs H Q E} (h : sp_runs K vs H Q E) : vs.length = 3 := by
  obtain ⟨_, _, _, _, _, _, rfl, _⟩ := h
  rfl
/-- what the runs are after t stable lines -/
def RnAt (S : List Tr) (t : Nat) (F : Hp) (rs : List V) : Prop := (t = 0 ∧ rs = []) ∨ ∃ (us : List V) (T : Addr) (init : List R4) (a b c l : Nat), rs = us ++ [.ref T] ∧ DqAll F us (init.map r4d) ∧ F T = some (.tup [.int (a : Int), .int (b : Int), .int (c : Int), .int (l : Int)]) ∧
  init ++ grpF (a, b, c, l) (S.drop t) = grp S ∧ init.length + 1 ≤ t
theorem ok_runs (T : Txt K mg) : FnOk P w K mg base CX0 4 T.f_runs T.fd_runs ["base", "ours", "theirs"] (sp_runs K) := by
  refine T.F_runs.ok sc_runs (fun vs H Q E h => sp_runs_len h) (fun cdv A outer s H vs Q E hr h => ?_)
  refine ⟨_, (pss_cons (ps_set (i := 3) sc_runs.nd rfl (.inl rfl) (pe_lst pa_nil))
      (pss_cons (ps_for PassesOwn.never rfl (k_il K (pi_list (pe_call (ok_stable_lines T) (hr.mono (by decide)) (by rfl) T.g_stable_lines T.F_stable_lines.kp T.b_stable_lines .nil pass0 (pa_cons (pv 0) (pa_cons (pv 1) (pa_cons (pv 2) pa_nil)))))) (k_gt K (pg_tup (by rfl) (pgs_cons (pg_name (i := 4) sc_runs.nd rfl (.inl rfl)) (pgs_cons (pg_name (i := 5) sc_runs.nd rfl (.inl rfl)) (pgs_cons (pg_name (i := 6) sc_runs.nd rfl (.inl rfl)) pgs_nil))))) (pss_cons (ps_if (pt_tru K (pv 3)) (pss_cons (ps_asg (pe_ix (ix_K K (hu_of hr)) (pv 3) (pe_un un_neg pe_int) (fun _ _ => rfl)) (k_gt K (pg_tup (by rfl) (pgs_cons (pg_name (i := 7) sc_runs.nd rfl (.inl rfl)) (pgs_cons (pg_name (i := 8) sc_runs.nd rfl (.inl rfl)) (pgs_cons (pg_name (i := 9) sc_runs.nd rfl (.inl rfl)) (pgs_cons (pg_name (i := 10) sc_runs.nd rfl (.inl rfl)) pgs_nil)))))))
      (pss_one (ps_if (pt_cmpR (op_eqK K hr.units) (pe_tup (pa_cons (pe_op (op_addK K) (pv 7) (pv 10)) (pa_cons (pe_op (op_addK K) (pv 8) (pv 10)) (pa_cons (pe_op (op_addK K) (pv 9) (pv 10)) pa_nil)))) (pe_tup (pa_cons (pv 4) (pa_cons (pv 5) (pa_cons (pv 6) pa_nil)))) (nomark _)) (pss_cons (ps_asg (pe_tup (pa_cons (pv 7) (pa_cons (pv 8) (pa_cons (pv 9) (pa_cons (pe_op (op_addK K) (pv 10) pe_int) pa_nil))))) (pg_sub (pv 3) (pe_un un_neg pe_int) (set_any (hu_of hr))))
      (pss_one ps_continue)) pss_nil))) pss_nil)
      (pss_one (ps_expr (k_bm K (pe_bm PySem.F.plainAttrs_list PySem.F.slot_list_append PySem.F.type_list_append mt_append (pv 3) (pa_cons (pe_tup (pa_cons (pv 4) (pa_cons (pv 5) (pa_cons (pv 6) (pa_cons pe_int pa_nil))))) pa_nil)))))))
      (pss_one (ps_ret (pv 3))))), ?_⟩
  obtain ⟨a, b, c, B, X, Y, rfl, ha, hb, hc, lB, lX, lY, q⟩ := h
  have hH := Has.start H
  refine g_start (σ' := [some (.ref a), some (.ref b), some (.ref c), none, none, none, none, none, none, none, none]) rfl ?_
  walk_at "gg"
  refine g_klst (by walk_at "sz") hH (fun pr H1 n1 h1 => ?_)
  walk_at "gg"
  refine ⟨a, b, c, B, X, Y, rfl, by walk_at "h", by walk_at "h", by walk_at "h", lB, lX, lY, fun p2 H2 v2 s2 n2 hp2 dq2 => ?_⟩
  have hml : (mt B X 0 0).length ≤ 1000 := by rw [mt_length]; have := lc_len B X; omega
  have hsl := stab_len (mt B X 0 0) (mt B Y 0 0)
  generalize stab (mt B X 0 0) (mt B Y 0 0) = S at dq2 q hsl
  have hvl : v2.length = S.length := by rw [dq2.len, List.length_map]
  have hpp : pr ≠ p2 := fun z => by
    subst z
    rw [h1.get (List.Mem.head _)] at n2
    cases n2
  have h2 := h1.on s2
  have dq2 : DqAll (rmO [(pr, HO.lst [])] H2) v2 (S.map trd) := by
    refine h2.keep (fun p hp xs z => ?_) (fun d hd => ?_) dq2
    · rw [List.mem_singleton.mp hp] at z; cases z
    · obtain ⟨m, _, rfl⟩ := List.mem_map.mp hd
      rfl
  have hp2 : rmO [(pr, HO.lst [])] H2 p2 = some (.lst v2) := by
    unfold rmO
    rw [if_neg (by simpa using fun z => hpp z.symm)]
    exact hp2
  have sF0 := h2.reF
  have h2 := h2.re
  generalize rmO [(pr, HO.lst [])] H2 = F0 at h2 dq2 hp2 sF0
  refine k_forL (by walk_at "h") (fun t σ H' => ∃ (rs : List V) (F : Hp) (y1 y2 y3 y4 y5 y6 y7 : Option V), σ = [some (.ref a), some (.ref b), some (.ref c), some (.ref pr), y1, y2, y3, y4, y5, y6, y7] ∧ Same F0 F ∧ Has F [(pr, .lst rs)] H' ∧ RnAt S t F rs) ⟨[], F0, _, _, _, _, _, _, _, rfl, Same.refl _, h2, .inl ⟨rfl, rfl⟩⟩ ?_ ?_ ?_
  · rintro t σ H3 _ ⟨rs, F, _, _, _, _, _, _, _, _, sF, h3, _⟩
    exact h3.same _ _ (sF _ _ hp2)
  · rintro t x σ H3 hx ⟨rs, F, y1, y2, y3, y4, y5, y6, y7, rfl, sF, h3, inv⟩
    obtain ⟨d, hd, dx⟩ := dq2.get hx
    rw [List.getElem?_map] at hd
    obtain ⟨m, hm, rfl⟩ := Option.map_eq_some_iff.mp hd
    obtain ⟨m1, m2, m3⟩ := m
    obtain ⟨T, rfl, hT⟩ := trd_inv (dx.up sF _ _)
    have ht : t < S.length := (List.getElem?_eq_some_iff.mp hm).1
    have edr : S.drop t = (m1, m2, m3) :: S.drop (t + 1) := by
      rw [List.drop_eq_getElem_cons ht, (List.getElem?_eq_some_iff.mp hm).2]
    rcases inv with ⟨rfl, rfl⟩ | ⟨us, T1, init, e1, e2, e3, l, rfl, du, hT1, eg, il⟩
    · walk_at "gg"
      refine i_b (fun z => by cases z) (fun _ => ?_)
      walk_at "gg"
      refine g_ktupF (by walk_at "sz") h3 (fun T2 H4 F4 n4 s4 f4 h4 => ?_)
      walk_at "gg"
      refine g_append h4 (by walk_at "c") (szl (by decide)) (fun H5 h5 => ?_)
      walk_at "gg"
      refine ⟨_, F4, _, _, _, _, _, _, _, rfl, sF.trans s4, h5, .inr ⟨[], T2, [], m1, m2, m3, 1, rfl, .nil, f4, ?_, Nat.le_refl _⟩⟩
      rw [List.drop_zero] at edr
      rw [List.nil_append, edr]
      rfl
    · have hul : us.length = init.length := by rw [du.len, List.length_map]
      walk_at "gg"
      refine i_b (fun _ => ?_) (fun z => by cases us <;> cases z)
      walk_at "gg"
      refine g_ixLast (v := .ref T1) (by walk_at "h") (by simp) ?_
      walk_at "gg"
      refine g_ktupF (by walk_at "sz") h3 (fun T2 H4 F4 n4 s4 f4 h4 => ?_)
      have hTb := s4 _ _ hT
      have hT1b := s4 _ _ hT1
      walk_at "gg"
      refine g_ktupF (by walk_at "sz") h4 (fun T3 H5 F5 n5 s5 f5 h5 => ?_)
      have f4' := s5 _ _ f4
      walk_at "gg"
      refine g_eqD (.tup (h5.same _ _ f4') (DqAll.ints [_, _, _])) (.tup (h5.same _ _ f5) (DqAll.ints [_, _, _])) rfl rfl ?_
      rw [eqv_tints]
      walk_at "gg"
      refine i_d (fun e => ?_) (fun e => ?_)
      · walk_at "gg"
        refine g_ktupF (by walk_at "sz") h5 (fun T4 H6 F6 n6 s6 f6 h6 => ?_)
        walk_at "gg"
        refine g_stL (j := us.length) h6 (by walk_at "c") (by rw [List.length_append]; exact ixN_last _) (fun H7 h7 => ?_)
        walk_at "gg"
        have es : (us ++ [V.ref T1]).set us.length (V.ref T4) = us ++ [V.ref T4] := by
          rw [List.set_append_right _ _ (Nat.le_refl _), Nat.sub_self]
          rfl
        rw [es] at h7
        refine ⟨_, F6, _, _, _, _, _, _, _, rfl, sF.trans (s4.trans (s5.trans s6)), h7, .inr ⟨us, T4, init, e1, e2, e3, l + 1, rfl, du.up (s4.trans (s5.trans s6)) _ _, f6, ?_, by omega⟩⟩
        rw [← eg, edr, grpF, if_pos]
        simp only [List.cons.injEq, and_true] at e
        obtain ⟨z1, z2, z3⟩ := e
        simp only [Prod.mk.injEq]
        omega
      · walk_at "gg"
        refine g_ktupF (by walk_at "sz") h5 (fun T4 H6 F6 n6 s6 f6 h6 => ?_)
        walk_at "gg"
        refine g_append h6 (by walk_at "c") (szl (by rw [List.length_append]; show us.length + 1 < _; omega)) (fun H7 h7 => ?_)
        walk_at "gg"
        have s46 := s4.trans (s5.trans s6)
        refine ⟨_, F6, _, _, _, _, _, _, _, rfl, sF.trans s46, h7, .inr ⟨us ++ [.ref T1], T4, init ++ [(e1, e2, e3, l)], m1, m2, m3, 1, rfl, ?_, f6, ?_, by rw [List.length_append]; show init.length + 1 + 1 ≤ _; omega⟩⟩
        · rw [List.map_append]
          exact (du.up s46 _ _).snoc (.tup (s46 _ _ hT1) (.cons (.int _) (.cons (.int _) (.cons (.int _) (.cons (.int _) .nil)))))
        · rw [← eg, edr, grpF, if_neg, List.append_assoc]
          · rfl
          · intro z
            apply e
            simp only [Prod.mk.injEq] at z
            obtain ⟨z1, z2, z3⟩ := z
            subst z1 z2 z3
            rfl
  · rintro σ H3 ⟨rs, F, y1, y2, y3, y4, y5, y6, y7, rfl, sF, h3, inv⟩
    walk_at "gg"
    refine q pr H3 rs (sF0.trans (sF.trans h3.same)) n1 (h3.get (List.Mem.head _)) ?_
    rw [hvl] at inv
    rcases inv with ⟨z, rfl⟩ | ⟨us, T1, init, e1, e2, e3, l, rfl, du, hT1, eg, il⟩
    · have : S = [] := List.length_eq_zero_iff.mp z
      subst this
      exact .nil
    · rw [List.drop_length] at eg
      rw [← eg, List.map_append]
      exact (du.up h3.same _ _).snoc (.tup (h3.same _ _ hT1) (.cons (.int _) (.cons (.int _) (.cons (.int _) (.cons (.int _) .nil)))))
def pc_of (B X Y : List Str) (R : List R4) : List Ch := pc B X Y (0, 0, 0) (R ++ [(B.length, X.length, Y.length, 0)])
def sp_text_chunks (K : PySem.W.Frag) : Sp := fun vs H Q _ => ∃ (a b c : Addr) (B X Y : List Str), vs = [.ref a, .ref b, .ref c] ∧ H a = some (.lst (B.map V.str)) ∧ H b = some (.lst (X.map V.str)) ∧ H c = some (.lst (Y.map V.str)) ∧ B.length ≤ 1000 ∧ X.length ≤ 1000 ∧ Y.length ≤ 1000 ∧
  ∀ p H' (vs : List V), Same H H' → H p = none → H' p = some (.lst vs) → DqAll H' vs ((tch B X Y).map chD) → Q (.ref p) H'
theorem sp_text_chunks_len {vs H Q E} (h : sp_text_chunks K vs H Q E) : vs.length = 3 := by
  obtain ⟨_, _, _, _, _, _, rfl, _⟩ := h
  rfl
theorem cutV_str (L : List Str) (i a : Nat) : cutV (L.map V.str) (some (i : Int)) (some (a : Int)) = (cut L i a).map V.str := by
  rw [cutV_nat, ← List.map_drop, ← List.map_take]
  rfl
theorem cut_le (L : List Str) (i a : Nat) : (cut L i a).length ≤ L.length := by
  unfold cut
  rw [List.length_take, List.length_drop]
  omega
theorem ok_text_chunks (T : Txt K mg) : FnOk P w K mg base CX0 5 T.f_text_chunks T.fd_text_chunks ["base", "ours", "theirs"] (sp_text_chunks K) := by
  refine T.F_text_chunks.ok sc_text_chunks (fun vs H Q E h => sp_text_chunks_len h) (fun cdv A outer s H vs Q E hr h => ?_)
  refine ⟨_, (pss_cons (ps_set (i := 3) sc_text_chunks.nd rfl (.inl rfl) (pe_lst pa_nil))
      (pss_cons (ps_set (i := 4) sc_text_chunks.nd rfl (.inl rfl) pe_int)
      (pss_cons (ps_set (i := 5) sc_text_chunks.nd rfl (.inl rfl) pe_int)
      (pss_cons (ps_set (i := 6) sc_text_chunks.nd rfl (.inl rfl) pe_int)
      (pss_cons (ps_set (i := 7) sc_text_chunks.nd rfl (.inl rfl) (pe_tup (pa_cons (pe_callB (cr_lenK K) (by rfl) T.m_len (by decide +kernel) (pa_cons (pv 0) pa_nil)) (pa_cons (pe_callB (cr_lenK K) (by rfl) T.m_len (by decide +kernel) (pa_cons (pv 1) pa_nil)) (pa_cons (pe_callB (cr_lenK K) (by rfl) T.m_len (by decide +kernel) (pa_cons (pv 2) pa_nil)) (pa_cons pe_int pa_nil))))))
      (pss_cons (ps_for PassesOwn.never rfl (k_il K (pi_list (pe_lst (k_star K (StX.pa_star (pe_call (ok_runs T) (hr.mono (by decide)) (by rfl) T.g_runs T.F_runs.kp T.b_runs .nil pass0 (pa_cons (pv 0) (pa_cons (pv 1) (pa_cons (pv 2) pa_nil)))) (pa_cons (pv 7) pa_nil)))))) (k_gt K (pg_tup (by rfl) (pgs_cons (pg_name (i := 8) sc_text_chunks.nd rfl (.inl rfl)) (pgs_cons (pg_name (i := 9) sc_text_chunks.nd rfl (.inl rfl)) (pgs_cons (pg_name (i := 10) sc_text_chunks.nd rfl (.inl rfl)) (pgs_cons (pg_name (i := 11) sc_text_chunks.nd rfl (.inl rfl)) pgs_nil)))))) (pss_cons (ps_set (i := 12) sc_text_chunks.nd rfl (.inl rfl) (pe_callTy (cr_tupleK K) (by rfl) T.m_tuple (by decide +kernel) (pa_cons (pe_slice (sl_K K) (pv 0) (po_some (pv 4)) (po_some (pv 8))) pa_nil)))
      (pss_cons (ps_set (i := 13) sc_text_chunks.nd rfl (.inl rfl) (pe_callTy (cr_tupleK K) (by rfl) T.m_tuple (by decide +kernel) (pa_cons (pe_slice (sl_K K) (pv 1) (po_some (pv 5)) (po_some (pv 9))) pa_nil)))
      (pss_cons (ps_set (i := 14) sc_text_chunks.nd rfl (.inl rfl) (pe_callTy (cr_tupleK K) (by rfl) T.m_tuple (by decide +kernel) (pa_cons (pe_slice (sl_K K) (pv 2) (po_some (pv 6)) (po_some (pv 10))) pa_nil)))
      (pss_cons (ps_if (pt_cmpR op_gt (pe_op (op_addK K) (pe_op (op_addK K) (pe_callB (cr_lenK K) (by rfl) T.m_len (by decide +kernel) (pa_cons (pv 12) pa_nil)) (pe_callB (cr_lenK K) (by rfl) T.m_len (by decide +kernel) (pa_cons (pv 13) pa_nil))) (pe_callB (cr_lenK K) (by rfl) T.m_len (by decide +kernel) (pa_cons (pv 14) pa_nil))) pe_int (nomark _)) (pss_one (ps_expr (k_bm K (pe_bm PySem.F.plainAttrs_list PySem.F.slot_list_append PySem.F.type_list_append mt_append (pv 3) (pa_cons (pe_tup (pa_cons pe_str (pa_cons (pv 12) (pa_cons (pv 13) (pa_cons (pv 14) pa_nil))))) pa_nil))))) pss_nil)
      (pss_cons (ps_set (i := 4) sc_text_chunks.nd rfl (.inl rfl) (pe_op (op_addK K) (pv 8) (pv 11)))
      (pss_cons (ps_set (i := 5) sc_text_chunks.nd rfl (.inl rfl) (pe_op (op_addK K) (pv 9) (pv 11)))
      (pss_cons (ps_set (i := 6) sc_text_chunks.nd rfl (.inl rfl) (pe_op (op_addK K) (pv 10) (pv 11)))
      (pss_one (ps_if (pt_cmpR op_gt (pv 11) pe_int (nomark _)) (pss_cons (ps_set (i := 15) sc_text_chunks.nd rfl (.inl rfl) (pe_callTy (cr_tupleK K) (by rfl) T.m_tuple (by decide +kernel) (pa_cons (pe_slice (sl_K K) (pv 0) (po_some (pv 8)) (po_some (pv 4))) pa_nil)))
      (pss_one (ps_expr (k_bm K (pe_bm PySem.F.plainAttrs_list PySem.F.slot_list_append PySem.F.type_list_append mt_append (pv 3) (pa_cons (pe_tup (pa_cons pe_str (pa_cons (pv 15) (pa_cons (pv 15) (pa_cons (pv 15) pa_nil))))) pa_nil)))))) pss_nil))))))))))
      (pss_one (ps_ret (pv 3))))))))), ?_⟩
  obtain ⟨a, b, c, B, X, Y, rfl, ha, hb, hc, lB, lX, lY, q⟩ := h
  have hH := Has.start H
  refine g_start (σ' := [some (.ref a), some (.ref b), some (.ref c), none, none, none, none, none, none, none, none, none, none, none, none, none]) rfl ?_
  walk_at "gg"
  refine g_klst (by walk_at "sz") hH (fun pl H1 n1 h1 => ?_)
  walk_at "gg"
  refine g_ktupF (by walk_at "sz") h1 (fun pe H2 F2 n2 sE f2 h2 => ?_)
  rw [List.length_map, List.length_map, List.length_map] at f2
  have ha2 := sE _ _ ha
  have hb2 := sE _ _ hb
  have hc2 := sE _ _ hc
  walk_at "gg"
  refine ⟨a, b, c, B, X, Y, rfl, by walk_at "h", by walk_at "h", by walk_at "h", lB, lX, lY, fun p3 H3 v3 s3 n3 hp3 dq3 => ?_⟩
  have hml : (mt B X 0 0).length ≤ 1000 := by rw [mt_length]; have := lc_len B X; omega
  have hsl := stab_len (mt B X 0 0) (mt B Y 0 0)
  have hgl := grp_len (stab (mt B X 0 0) (mt B Y 0 0))
  have hdef : pc_of B X Y (grp (stab (mt B X 0 0) (mt B Y 0 0))) = tch B X Y := rfl
  generalize grp (stab (mt B X 0 0) (mt B Y 0 0)) = R at dq3 hgl hdef
  have hRl : R.length ≤ 1000 := by omega
  have hvl : v3.length = R.length := by rw [dq3.len, List.length_map]
  have h3 := h2.on s3
  have f3 := h3.gF f2
  have dR : DqAll H3 (v3 ++ [.ref pe]) ((R ++ [(B.length, X.length, Y.length, 0)]).map r4d) := by
    rw [List.map_append]
    exact dq3.snoc (.tup f3 (.cons (.int _) (.cons (.int _) (.cons (.int _) (.cons (.int _) .nil)))))
  have dR5 : DqAll (rmO [(pl, HO.lst [])] H3) (v3 ++ [.ref pe]) ((R ++ [(B.length, X.length, Y.length, 0)]).map r4d) := by
    refine h3.keep (fun p hp xs z => ?_) (fun d hd => ?_) dR
    · rw [List.mem_singleton.mp hp] at z; cases z
    · obtain ⟨m, _, rfl⟩ := List.mem_map.mp hd
      rfl
  have sF0 := h3.reF
  have h3 := h3.re
  generalize rmO [(pl, HO.lst [])] H3 = F0 at h3 dR5 sF0
  walk_at "gg"
  refine g_klst (sz (by rw [List.length_append]; show v3.length + 1 ≤ _; omega)) h3 (fun p4 H4 n4 h5 => ?_)
  unfold pc_of at hdef
  generalize hR2 : R ++ [(B.length, X.length, Y.length, 0)] = R2 at dR5 hdef
  have hR2l : R2.length ≤ 1001 := by rw [← hR2, List.length_append]; show R.length + 1 ≤ _; omega
  generalize v3 ++ [V.ref pe] = v4 at dR5 h5
  have hv4 : v4.length = R2.length := by rw [dR5.len, List.length_map]
  have ha5 := sF0 _ _ ha2
  have hb5 := sF0 _ _ hb2
  have hc5 := sF0 _ _ hc2
  refine k_forL (by walk_at "h") (fun t σ H' => ∃ (s1 s2 s3 : Nat) (acc : List V) (cs : List Ch) (F : Hp) (y1 y2 y3 y4 y5 y6 y7 y8 : Option V), σ = [some (.ref a), some (.ref b), some (.ref c), some (.ref pl), some (.int (s1 : Int)), some (.int (s2 : Int)), some (.int (s3 : Int)), some (.ref pe), y1, y2, y3, y4, y5, y6, y7, y8] ∧ Same F0 F ∧ Has F [(p4, .lst v4), (pl, .lst acc)] H' ∧ DqAll F acc (cs.map chD) ∧ cs ++ pc B X Y (s1, s2, s3) (R2.drop t) = tch B X Y ∧ cs.length ≤ 2 * t) ⟨0, 0, 0, [], [], F0, _, _, _, _, _, _, _, _, rfl, Same.refl _, h5, .nil, by rw [List.drop_zero, List.nil_append]; exact hdef, Nat.le_refl _⟩ ?_ ?_ ?_
  · rintro t σ H6 _ ⟨s1, s2, s3, acc, cs, F, _, _, _, _, _, _, _, _, _, sF, h6, _⟩
    exact h6.get (List.Mem.head _)
  · rintro t x σ H6 hx ⟨s1, s2, s3, acc, cs, F, y1, y2, y3, y4, y5, y6, y7, y8, rfl, sF, h6, dq, ecs, lcs⟩
    obtain ⟨d, hd, dx⟩ := dR5.get hx
    rw [List.getElem?_map] at hd
    obtain ⟨m, hm, rfl⟩ := Option.map_eq_some_iff.mp hd
    obtain ⟨m1, m2, m3, l⟩ := m
    obtain ⟨T, rfl, hT⟩ := r4d_inv (dx.up sF _ _)
    have ht : t < R2.length := (List.getElem?_eq_some_iff.mp hm).1
    have edr : R2.drop t = (m1, m2, m3, l) :: R2.drop (t + 1) := by
      rw [List.drop_eq_getElem_cons ht, (List.getElem?_eq_some_iff.mp hm).2]
    have ha6 := sF _ _ ha5
    have hb6 := sF _ _ hb5
    have hc6 := sF _ _ hc5
    have hal : acc.length = cs.length := by rw [dq.len, List.length_map]
    rw [edr] at ecs
    have ecs : cs ++ (pOpt B X Y (s1, s2, s3) (m1, m2, m3) ++ sOpt B m1 l ++ pc B X Y (m1 + l, m2 + l, m3 + l) (R2.drop (t + 1))) = tch B X Y := ecs
    walk_at "gg"
    refine g_slL (by walk_at "h") h6 (fun q1 H7 n7 h7 => ?_)
    rw [cutV_str] at h7
    walk_at "gg"
    refine g_tupleL (by walk_at "h") h7.frz (fun tb H8 F8 n8 s8 f8 h8 => ?_)
    have h8 : Has F8 [(p4, .lst v4), (pl, .lst acc)] H8 := h8
    have s8 := h7.grow.trans s8
    have ha8 := s8 _ _ ha6
    have hb8 := s8 _ _ hb6
    have hc8 := s8 _ _ hc6
    have hT8 := s8 _ _ hT
    walk_at "gg"
    refine g_slL (by walk_at "h") h8 (fun q2 H9 n9 h9 => ?_)
    rw [cutV_str] at h9
    walk_at "gg"
    refine g_tupleL (by walk_at "h") h9.frz (fun tx H10 F10 n10 s10 f10 h10 => ?_)
    have s10 := h9.grow.trans s10
    have ha10 := s10 _ _ ha8
    have hc10 := s10 _ _ hc8
    have f8 := s10 _ _ f8
    walk_at "gg"
    refine g_slL (by walk_at "h") h10 (fun q3 H11 n11 h11 => ?_)
    rw [cutV_str] at h11
    walk_at "gg"
    refine g_tupleL (by walk_at "h") h11.frz (fun ty H12 F12 n12 s12 f12 h12 => ?_)
    have s12 := h11.grow.trans s12
    have ha12 := s12 _ _ ha10
    have f8 := s12 _ _ f8
    have f10 := s12 _ _ f10
    have s612 := s8.trans (s10.trans s12)
    have dq := dq.up s612 _ _
    walk_at "g"
    walk_at "g"
    refine g_join (fun σ' H' => ∃ (acc : List V) (cs : List Ch) (F : Hp), σ' = [some (.ref a), some (.ref b), some (.ref c), some (.ref pl), some (.int (s1 : Int)), some (.int (s2 : Int)), some (.int (s3 : Int)), some (.ref pe), some (.int (m1 : Int)), some (.int (m2 : Int)), some (.int (m3 : Int)), some (.int (l : Int)), some (.ref tb), some (.ref tx), some (.ref ty), y8] ∧ Same F12 F ∧ Has F [(p4, .lst v4), (pl, .lst acc)] H' ∧ DqAll F acc (cs.map chD) ∧ cs ++ (sOpt B m1 l ++ pc B X Y (m1 + l, m2 + l, m3 + l) (R2.drop (t + 1))) = tch B X Y ∧ cs.length ≤ 2 * t + 1) ?_ (fun key => ?_)
    · rintro σ' H13 ⟨acc, cs, F, rfl, sF2, h13, dq, ecs, lcs⟩
      have ha13 := sF2 _ _ ha12
      have hal : acc.length = cs.length := by rw [dq.len, List.length_map]
      have sFF := sF.trans (s612.trans sF2)
      walk_at "gg"
      refine i_d (fun e => ?_) (fun e => ?_)
      · have e' : l > 0 := by omega
        walk_at "gg"
        refine g_slL (by walk_at "h") h13 (fun q4 H14 n14 h14 => ?_)
        rw [show ((m1 : Int) + (l : Int)) = ((m1 + l : Nat) : Int) from rfl, cutV_str] at h14
        walk_at "gg"
        refine g_tupleL (by walk_at "h") h14.frz (fun tl H15 F15 n15 s15 f15 h15 => ?_)
        have s15 := h14.grow.trans s15
        walk_at "gg"
        refine g_ktupF (by walk_at "sz") h15 (fun tt H16 F16 n16 s16 f16 h16 => ?_)
        have f15 := s16 _ _ f15
        walk_at "gg"
        refine g_append h16 (by walk_at "c") (szl (by omega)) (fun H17 h17 => ?_)
        walk_at "gg"
        refine ⟨m1 + l, m2 + l, m3 + l, _, cs ++ [.same (cut B m1 (m1 + l))], F16, _, _, _, _, _, _, _, _, rfl, sFF.trans (s15.trans s16), h17, ?_, ?_, by rw [List.length_append]; show cs.length + 1 ≤ _; omega⟩
        · rw [List.map_append]
          exact (dq.up (s15.trans s16) _ _).snoc (.tup f16 (.cons (.str _) (.cons (dq_tS f15) (.cons (dq_tS f15) (.cons (dq_tS f15) .nil)))))
        · rw [← ecs, List.append_assoc]
          unfold sOpt
          rw [if_pos e']
      · have e' : ¬ l > 0 := by omega
        walk_at "gg"
        refine ⟨m1 + l, m2 + l, m3 + l, _, cs, F, _, _, _, _, _, _, _, _, rfl, sFF, h13, dq, ?_, by omega⟩
        rw [← ecs]
        unfold sOpt
        rw [if_neg e', List.nil_append]
    · walk_at "gg"
      rw [List.length_map, List.length_map, List.length_map]
      refine i_d (fun e => ?_) (fun e => ?_)
      · walk_at "gg"
        refine g_ktupF (by walk_at "sz") h12 (fun tt H16 F16 n16 s16 f16 h16 => ?_)
        walk_at "gg"
        refine g_append h16 (by walk_at "c") (szl (by omega)) (fun H17 h17 => ?_)
        refine key _ _ ⟨_, cs ++ [.part (cut B s1 m1) (cut X s2 m2) (cut Y s3 m3)], F16, rfl, s16, h17, ?_, ?_, by rw [List.length_append]; show cs.length + 1 ≤ _; omega⟩
        · rw [List.map_append]
          exact (dq.up s16 _ _).snoc (.tup f16 (.cons (.str _) (.cons (dq_tS (s16 _ _ f8)) (.cons (dq_tS (s16 _ _ f10)) (.cons (dq_tS (s16 _ _ f12)) .nil)))))
        · rw [← ecs]
          unfold pOpt
          rw [if_pos (Int.ofNat_lt.mp e)]
          simp only [List.append_assoc]
      · walk_at "g"
        refine key _ _ ⟨_, cs, F12, rfl, Same.refl _, h12, dq, ?_, by omega⟩
        rw [← ecs]
        unfold pOpt
        rw [if_neg (fun z => e (Int.ofNat_lt.mpr z)), List.nil_append]
  · rintro σ H6 ⟨s1, s2, s3, acc, cs, F, y1, y2, y3, y4, y5, y6, y7, y8, rfl, sF, h6, dq, ecs, lcs⟩
    walk_at "gg"
    rw [hv4, List.drop_length] at ecs
    have ecs : cs ++ [] = tch B X Y := ecs
    rw [List.append_nil] at ecs
    subst ecs
    refine q pl H6 acc (sE.trans (sF0.trans (sF.trans h6.same))) n1 (h6.get (by walk_at "m")) (dq.up h6.same _ _)
end

end K04

namespace K04
open PySem PySem.Spec PyProof.Rows L2 Qk
local macro_rules | `(tactic| walk_at "m") => `(tactic| ((repeat (first | exact List.Mem.head _ | apply List.Mem.tail)); done))
local macro_rules | `(tactic| walk_at "h") => `(tactic| first | assumption | exact Has.gF (by assumption) (by assumption) | exact Has.get (by assumption) (by walk_at "m"))
local macro_rules | `(tactic| walk_at "c") => `(tactic| ((repeat (first | exact Chg.hd | apply Chg.tl)); done))
local macro_rules | `(tactic| walk_at "is") => `(tactic| first
  | ((with_reducible refine' is2_non ?gh ?_); (case gh => walk_at "h"))
  | (with_reducible refine is_int_list ?_)
  | (with_reducible refine is_int_tuple ?_)
  | (with_reducible refine is_int_dict ?_)
  | (with_reducible refine is_int_int ?_)
  | (with_reducible refine is_int_bool ?_)
  | (with_reducible refine is_int_str ?_)
  | ((with_reducible refine' is2_int ?gh ?_); (case gh => walk_at "h"))
  | (with_reducible refine is_str_list ?_)
  | (with_reducible refine is_str_tuple ?_)
  | (with_reducible refine is_str_dict ?_)
  | (with_reducible refine is_str_int ?_)
  | (with_reducible refine is_str_bool ?_)
  | (with_reducible refine is_str_str ?_)
  | ((with_reducible refine' is2_str ?gh ?_); (case gh => walk_at "h"))
  | (with_reducible refine is_bool_list ?_)
  | (with_reducible refine is_bool_tuple ?_)
  | (with_reducible refine is_bool_dict ?_)
  | (with_reducible refine is_bool_int ?_)
  | (with_reducible refine is_bool_bool ?_)
  | (with_reducible refine is_bool_str ?_)
  | ((with_reducible refine' is2_bool ?gh ?_); (case gh => walk_at "h"))
  | ((with_reducible refine' is_list_list ?gh ?_); (case gh => walk_at "h"))
  | ((with_reducible refine' is_list_tuple ?gh ?_); (case gh => walk_at "h"))
  | ((with_reducible refine' is_list_dict ?gh ?_); (case gh => walk_at "h"))
  | ((with_reducible refine' is_list_int ?gh ?_); (case gh => walk_at "h"))
  | ((with_reducible refine' is_list_bool ?gh ?_); (case gh => walk_at "h"))
  | ((with_reducible refine' is_list_str ?gh ?_); (case gh => walk_at "h"))
  | ((with_reducible refine' is2_list ?ga ?gb ?_); (case ga => walk_at "h"); (case gb => walk_at "h"))
  | ((with_reducible refine' is_tuple_list ?gh ?_); (case gh => walk_at "h"))
  | ((with_reducible refine' is_tuple_tuple ?gh ?_); (case gh => walk_at "h"))
  | ((with_reducible refine' is_tuple_dict ?gh ?_); (case gh => walk_at "h"))
  | ((with_reducible refine' is_tuple_int ?gh ?_); (case gh => walk_at "h"))
  | ((with_reducible refine' is_tuple_bool ?gh ?_); (case gh => walk_at "h"))
  | ((with_reducible refine' is_tuple_str ?gh ?_); (case gh => walk_at "h"))
  | ((with_reducible refine' is2_tuple ?ga ?gb ?_); (case ga => walk_at "h"); (case gb => walk_at "h"))
  | ((with_reducible refine' is_dict_list ?gh ?_); (case gh => walk_at "h"))
  | ((with_reducible refine' is_dict_tuple ?gh ?_); (case gh => walk_at "h"))
  | ((with_reducible refine' is_dict_dict ?gh ?_); (case gh => walk_at "h"))
  | ((with_reducible refine' is_dict_int ?gh ?_); (case gh => walk_at "h"))
  | ((with_reducible refine' is_dict_bool ?gh ?_); (case gh => walk_at "h"))
  | ((with_reducible refine' is_dict_str ?gh ?_); (case gh => walk_at "h"))
  | ((with_reducible refine' is2_dict ?ga ?gb ?_); (case ga => walk_at "h"); (case gb => walk_at "h")))
local macro_rules | `(tactic| walk_at "g") => `(tactic| first
  | (with_reducible refine g_seq ?_)
  | (with_reducible refine g_asg ?_)
  | ((with_reducible refine g_name ?_); dsimp only [List.set, wipe, List.map])
  | ((with_reducible refine' g_var ?gv ?_); (case gv => exact rfl))
  | (with_reducible refine g_c ?_)
  | (with_reducible refine g_op ?_)
  | (with_reducible refine g_cons ?_)
  | (with_reducible refine g_nil ?_)
  | (with_reducible refine g_cb ?_)
  | (with_reducible refine g_call ?_)
  | (with_reducible refine g_tup ?_)
  | (with_reducible refine g_lst ?_)
  | (with_reducible refine g_bm ?_)
  | (with_reducible refine g_bm0 ?_)
  | ((with_reducible refine' g_kbm ?gh ?_); (case gh => walk_at "h"))
  | (with_reducible refine g_drop ?_)
  | (with_reducible refine g_ret ?_)
  | (with_reducible refine g_retN ?_)
  | (with_reducible refine g_next ?_)
  | (with_reducible refine g_brk ?_)
  | (with_reducible refine g_cont ?_)
  | (with_reducible refine g_if ?_)
  | ((with_reducible refine' g_aug ?gv ?_); (case gv => exact rfl))
  | (with_reducible refine g_ipI ?_)
  | (with_reducible refine g_test ?_)
  | (with_reducible refine g_tB ?_)
  | (with_reducible refine g_kB ?_)
  | (with_reducible refine g_not ?_)
  | (with_reducible refine g_and ?_)
  | (with_reducible refine g_or ?_)
  | (with_reducible refine g_andV ?_)
  | (with_reducible refine g_orV ?_)
  | (with_reducible refine g_notV ?_)
  | (with_reducible refine g_ifE ?_)
  | (with_reducible refine g_addI ?_)
  | (with_reducible refine g_rI0 ?_)
  | (with_reducible refine g_eqI ?_)
  | (with_reducible refine g_eqS ?_)
  | (with_reducible refine g_neI ?_)
  | (with_reducible refine g_neS ?_)
  | (with_reducible refine g_isN ?_)
  | (with_reducible refine g_notN ?_)
  | (with_reducible refine g_int ?_)
  | (with_reducible refine g_max2 ?_)
  | ((with_reducible refine' g_lenL ?gh ?_); (case gh => walk_at "h"))
  | (with_reducible refine g_sub ?_)
  | (with_reducible refine g_gcons ?_)
  | (with_reducible refine g_gnil ?_)
  | (with_reducible refine g_un ?_)
  | (with_reducible refine g_rU ?_)
  | (with_reducible refine g_forL ?_)
  | (with_reducible refine g_forR1 ?_)
  | (with_reducible refine g_forR2 ?_)
  | (with_reducible refine g_forR3 ?_)
  | (with_reducible refine g_lcL ?_)
  | (with_reducible refine g_lcR1 ?_)
  | (with_reducible refine g_lcR2 ?_)
  | (with_reducible refine g_slice ?_)
  | (with_reducible refine g_part ?_)
  | (with_reducible refine g_kOI ?_)
  | (with_reducible refine g_nopart ?_)
  | (with_reducible refine g_yes ?_)
  | ((with_reducible refine' g_wipe ?gv ?_); (case gv => exact rfl))
  | (with_reducible refine iteT ?_)
  | (with_reducible refine iteF ?_)
  | (with_reducible refine i_nf ?_)
  | (with_reducible refine i_nt ?_)
  | ((with_reducible refine' g_gtup ?gh ?gl ?_); (case gh => walk_at "h"); (case gl => exact rfl))
  | ((with_reducible refine' g_notinI ?gh ?_); (case gh => walk_at "h"))
  | ((with_reducible refine' g_inI ?gh ?_); (case gh => walk_at "h"))
  | ((with_reducible refine' g_kget2 ?gh ?_); (case gh => walk_at "h"))
  | ((with_reducible refine' g_kgotI ?gh ?_); (case gh => walk_at "h"))
  | (with_reducible refine g_tRev ?_)
  | (with_reducible refine g_neB ?_)
  | (with_reducible refine g_eqB ?_)
  | ((with_reducible refine' g_lenT ?gh ?_); (case gh => walk_at "h"))
  | (with_reducible refine g_star ?_)
  | ((with_reducible refine' g_kstarL ?gh ?_); (case gh => walk_at "h"))
  | ((with_reducible refine' g_kstarT ?gh ?_); (case gh => walk_at "h"))
  | (with_reducible refine g_tru ?_)
  | ((with_reducible refine' g_truL ?gh ?_); (case gh => walk_at "h"))
  | (with_reducible refine g_get2 ?_)
  | walk_at "is")
local macro_rules | `(tactic| walk_at "gg") => `(tactic| repeat walk_at "g")
local macro_rules | `(tactic| walk_at "sz") => `(tactic| (refine sz ?_; simp only [List.length_cons, List.length_nil, List.length_map, List.length_append, List.length_replicate]; omega))

theorem so_str (n : Nat) (x : Str) : so (n + 1) (.str x) := trivial
theorem so_tS (n : Nat) {xs : List Str} (h : xs.length ≤ 100000) : so (n + 2) (tS xs) := ⟨by rw [List.length_map]; exact h, fun d hd => by
  obtain ⟨x, _, rfl⟩ := List.mem_map.mp hd
  exact so_str n x⟩
theorem so_strs (n : Nat) {xs : List Str} (h : xs.length ≤ 100000) : so (n + 2) (.list (xs.map PyData.str)) := ⟨by rw [List.length_map]; exact h, fun d hd => by
  obtain ⟨x, _, rfl⟩ := List.mem_map.mp hd
  exact so_str n x⟩
/-- a chunk's lines are not many -/
def chLe (k : Nat) : Ch → Prop
  | .same ls => ls.length ≤ k
  | .part b x y => b.length ≤ k ∧ x.length ≤ k ∧ y.length ≤ k
theorem so_chD (n : Nat) {k : Nat} {c : Ch} (h : chLe k c) (hk : k ≤ 100000) : so (n + 3) (chD c) := by
  cases c with
  | same ls =>
    have h : ls.length ≤ k := h
    refine ⟨by show 4 ≤ 100000; decide, fun d hd => ?_⟩
    simp only [List.mem_cons, List.not_mem_nil, or_false] at hd
    rcases hd with rfl | rfl | rfl | rfl
    · exact so_str _ _
    · exact so_tS n (by omega)
    · exact so_tS n (by omega)
    · exact so_tS n (by omega)
  | part b x y =>
    obtain ⟨h1, h2, h3⟩ := h
    refine ⟨by show 4 ≤ 100000; decide, fun d hd => ?_⟩
    simp only [List.mem_cons, List.not_mem_nil, or_false] at hd
    rcases hd with rfl | rfl | rfl | rfl
    · exact so_str _ _
    · exact so_tS n (by omega)
    · exact so_tS n (by omega)
    · exact so_tS n (by omega)
theorem so_chs (n : Nat) {k : Nat} {cs : List Ch} (h : ∀ c ∈ cs, chLe k c) (hk : k ≤ 100000) (hl : cs.length ≤ 100000) : so (n + 4) (.list (cs.map chD)) := ⟨by rw [List.length_map]; exact hl, fun d hd => by
  obtain ⟨c, hc, rfl⟩ := List.mem_map.mp hd
  exact so_chD n (h c hc) hk⟩
theorem pc_le (B X Y : List Str) {k : Nat} (h1 : B.length ≤ k) (h2 : X.length ≤ k) (h3 : Y.length ≤ k) : ∀ (R : List R4) (s : Tr), (∀ c ∈ pc B X Y s R, chLe k c) ∧ (pc B X Y s R).length ≤ 2 * R.length
  | [], s => ⟨fun c hc => (by cases hc), Nat.le_refl _⟩
  | (a, b, c, l) :: R, s => by
    have ih := pc_le B X Y h1 h2 h3 R (a + l, b + l, c + l)
    have c1 := fun i m => cut_le B i m
    have c2 := fun i m => cut_le X i m
    have c3 := fun i m => cut_le Y i m
    have p1 : (∀ c' ∈ pOpt B X Y s (a, b, c), chLe k c') ∧ (pOpt B X Y s (a, b, c)).length ≤ 1 := by
      unfold pOpt
      split
      · refine ⟨fun c' hc => ?_, Nat.le_refl _⟩
        rw [List.mem_singleton.mp hc]
        exact ⟨Nat.le_trans (c1 _ _) h1, Nat.le_trans (c2 _ _) h2, Nat.le_trans (c3 _ _) h3⟩
      · exact ⟨fun c' hc => (by cases hc), Nat.zero_le _⟩
    have p2 : (∀ c' ∈ sOpt B a l, chLe k c') ∧ (sOpt B a l).length ≤ 1 := by
      unfold sOpt
      split
      · refine ⟨fun c' hc => ?_, Nat.le_refl _⟩
        rw [List.mem_singleton.mp hc]
        exact Nat.le_trans (c1 _ _) h1
      · exact ⟨fun c' hc => (by cases hc), Nat.zero_le _⟩
    show (∀ c' ∈ pOpt B X Y s (a, b, c) ++ sOpt B a l ++ pc B X Y (a + l, b + l, c + l) R, chLe k c') ∧ (pOpt B X Y s (a, b, c) ++ sOpt B a l ++ pc B X Y (a + l, b + l, c + l) R).length ≤ 2 * (R.length + 1)
    refine ⟨fun c' hc => ?_, ?_⟩
    · rcases List.mem_append.mp hc with hc | hc
      · rcases List.mem_append.mp hc with hc | hc
        · exact p1.1 _ hc
        · exact p2.1 _ hc
      · exact ih.1 _ hc
    · rw [List.length_append, List.length_append]
      have := p1.2
      have := p2.2
      have := ih.2
      omega
theorem tch_le (B X Y : List Str) {k : Nat} (h1 : B.length ≤ k) (h2 : X.length ≤ k) (h3 : Y.length ≤ k) : (∀ c ∈ tch B X Y, chLe k c) ∧ (tch B X Y).length ≤ 2 * k + 2 := by
  have h := pc_le B X Y h1 h2 h3 (grp (stab (mt B X 0 0) (mt B Y 0 0)) ++ [(B.length, X.length, Y.length, 0)]) (0, 0, 0)
  refine ⟨h.1, Nat.le_trans h.2 ?_⟩
  have hml : (mt B X 0 0).length ≤ B.length := by rw [mt_length]; have := lc_len B X; omega
  have hsl := stab_len (mt B X 0 0) (mt B Y 0 0)
  have hgl := grp_len (stab (mt B X 0 0) (mt B Y 0 0))
  rw [List.length_append]
  show 2 * (_ + 1) ≤ _
  omega
theorem chD_noL (c : Ch) : noL (chD c) = true := by
  have h : ∀ xs : List Str, noL (tS xs) = true := fun xs => by
    unfold tS
    rw [noL]
    refine noLs_mem fun d hd => ?_
    obtain ⟨x, _, rfl⟩ := List.mem_map.mp hd
    rfl
  cases c with
  | same ls =>
    unfold chD
    rw [noL, noLs, noLs, noLs, noLs, noLs, h]
    rfl
  | part b x y =>
    unfold chD
    rw [noL, noLs, noLs, noLs, noLs, noLs, h, h, h]
    rfl
theorem chs_noL {cs : List Ch} : ∀ d ∈ cs.map chD, noL d = true := fun d hd => by
  obtain ⟨c, _, rfl⟩ := List.mem_map.mp hd
  exact chD_noL c

/-! ### merges of chunks -/
def chB : Ch → List Str
  | .same ls => ls
  | .part b _ _ => b
def chX : Ch → List Str
  | .same ls => ls
  | .part _ x _ => x
def chY : Ch → List Str
  | .same ls => ls
  | .part _ _ y => y
def tag : Ch → Str
  | .same _ => "same"
  | .part _ _ _ => "part"
theorem chD_eq (c : Ch) : chD c = .tuple [.str (tag c), tS (chB c), tS (chX c), tS (chY c)] := by cases c <;> rfl
def clash (b x y : List Str) : List Str := ("<<<<<<<" : Str) :: (x ++ (("|||||||" : Str) :: (b ++ (("=======" : Str) :: (y ++ [(">>>>>>>" : Str)])))))
def dec (b x y : List Str) : List Str × Nat := if x = y then (x, 0) else if y = b then (x, 0) else if x = b then (y, 0) else (clash b x y, 1)
def decC (c : Ch) : List Str × Nat := dec (chB c) (chX c) (chY c)
def mrgL (cs : List Ch) : List Str := cs.flatMap fun c => (decC c).1
def mrgN (cs : List Ch) : Nat := (cs.map fun c => (decC c).2).sum
theorem mrgL_take {t : Nat} {cs : List Ch} {c : Ch} (h : cs[t]? = some c) : mrgL (cs.take (t + 1)) = mrgL (cs.take t) ++ (decC c).1 := by
  unfold mrgL
  rw [List.take_add_one, h, List.flatMap_append]
  simp
theorem mrgN_take {t : Nat} {cs : List Ch} {c : Ch} (h : cs[t]? = some c) : mrgN (cs.take (t + 1)) = mrgN (cs.take t) + (decC c).2 := by
  unfold mrgN
  rw [List.take_add_one, h, List.map_append, List.sum_append]
  simp
theorem dec_len {b x y : List Str} {k : Nat} (h1 : b.length ≤ k) (h2 : x.length ≤ k) (h3 : y.length ≤ k) : (dec b x y).1.length ≤ 3 * k + 4 := by
  unfold dec
  split
  · show x.length ≤ _; omega
  · split
    · show x.length ≤ _; omega
    · split
      · show y.length ≤ _; omega
      · show (clash b x y).length ≤ _
        unfold clash
        simp only [List.length_cons, List.length_append, List.length_nil]
        omega
theorem decC_len {c : Ch} {k : Nat} (h : chLe k c) : (decC c).1.length ≤ 3 * k + 4 := by
  cases c with
  | same ls => exact dec_len h h h
  | part b x y => exact dec_len h.1 h.2.1 h.2.2
theorem mrgL_len {k : Nat} : ∀ {cs : List Ch}, (∀ c ∈ cs, chLe k c) → (mrgL cs).length ≤ cs.length * (3 * k + 4)
  | [], _ => Nat.zero_le _
  | c :: cs, h => by
    have ih := mrgL_len (cs := cs) fun x hx => h x (List.mem_cons_of_mem _ hx)
    have h1 := decC_len (h c List.mem_cons_self)
    unfold mrgL at ih ⊢
    rw [List.flatMap_cons, List.length_append, List.length_cons, Nat.succ_mul]
    omega
theorem pc_all (P : List Str → Prop) (B X Y : List Str) (h1 : ∀ i a, P (cut B i a)) (h2 : ∀ i a, P (cut X i a)) (h3 : ∀ i a, P (cut Y i a)) : ∀ (R : List R4) (s : Tr), ∀ c ∈ pc B X Y s R, P (chB c) ∧ P (chX c) ∧ P (chY c)
  | [], s, c, hc => (by cases hc)
  | (a, b, c, l) :: R, s, c', hc => by
    rcases List.mem_append.mp (show c' ∈ pOpt B X Y s (a, b, c) ++ sOpt B a l ++ pc B X Y (a + l, b + l, c + l) R from hc) with hc | hc
    · rcases List.mem_append.mp hc with hc | hc
      · unfold pOpt at hc
        split at hc
        · rw [List.mem_singleton.mp hc]
          exact ⟨h1 _ _, h2 _ _, h3 _ _⟩
        · cases hc
      · unfold sOpt at hc
        split at hc
        · rw [List.mem_singleton.mp hc]
          exact ⟨h1 _ _, h1 _ _, h1 _ _⟩
        · cases hc
    · exact pc_all P B X Y h1 h2 h3 R _ c' hc
theorem cut_mem {B : List Str} {i a : Nat} {x : Str} (h : x ∈ cut B i a) : x ∈ B := List.mem_of_mem_drop (List.mem_of_mem_take h)
def okL (xs : List Str) : Prop := ∀ x ∈ xs, PyData.strOk x = true
theorem okL_cut {B : List Str} (h : okL B) (i a : Nat) : okL (cut B i a) := fun x hx => h x (cut_mem hx)
theorem tch_ok {B X Y : List Str} (h1 : okL B) (h2 : okL X) (h3 : okL Y) : ∀ c ∈ tch B X Y, okL (chB c) ∧ okL (chX c) ∧ okL (chY c) :=
  pc_all okL B X Y (okL_cut h1) (okL_cut h2) (okL_cut h3) _ _
/-! the sides exchanged -/
def swT (m : Tr) : Tr := (m.1, m.2.2, m.2.1)
def swR (r : R4) : R4 := (r.1, r.2.2.1, r.2.1, r.2.2.2)
def swC : Ch → Ch
  | .same ls => .same ls
  | .part b x y => .part b y x
theorem grpF_sw : ∀ (S : List Tr) (r : R4), grpF (swR r) (S.map swT) = (grpF r S).map swR
  | [], r => rfl
  | m :: S, (a, b, c, l) => by
    show grpF (a, c, b, l) (swT m :: S.map swT) = _
    rw [grpF, grpF]
    by_cases e : ((a + l, b + l, c + l) : Tr) = m
    · rw [if_pos e, if_pos (by rw [← e]; rfl)]
      exact grpF_sw S (a, b, c, l + 1)
    · rw [if_neg e, if_neg, List.map_cons]
      · congr 1
        exact grpF_sw S (m.1, m.2.1, m.2.2, 1)
      · intro z
        apply e
        obtain ⟨m1, m2, m3⟩ := m
        unfold swT at z
        simp only [Prod.mk.injEq] at z ⊢
        omega
theorem grp_sw (S : List Tr) : grp (S.map swT) = (grp S).map swR := by
  cases S with
  | nil => rfl
  | cons m S => exact grpF_sw S (m.1, m.2.1, m.2.2, 1)
theorem pc_sw (B X Y : List Str) : ∀ (R : List R4) (s : Tr), pc B Y X (swT s) (R.map swR) = (pc B X Y s R).map swC
  | [], s => rfl
  | (a, b, c, l) :: R, s => by
    show pOpt B Y X (swT s) (a, c, b) ++ sOpt B a l ++ pc B Y X (swT (a + l, b + l, c + l)) (R.map swR) = (pOpt B X Y s (a, b, c) ++ sOpt B a l ++ pc B X Y (a + l, b + l, c + l) R).map swC
    rw [pc_sw B X Y R, List.map_append, List.map_append]
    congr 1
    congr 1
    · unfold pOpt swT
      simp only
      by_cases e : (cut B s.1 a).length + (cut X s.2.1 b).length + (cut Y s.2.2 c).length > 0
      · rw [if_pos e, if_pos (by omega)]
        rfl
      · rw [if_neg e, if_neg (by omega)]
        rfl
    · unfold sOpt
      split <;> rfl
theorem tch_sw (B X Y : List Str) : tch B Y X = (tch B X Y).map swC := by
  have h1 := stab_range (ps := mt B X 0 0) (qs := mt B Y 0 0) (n := B.length) (mt_inc B X 0 0) (fun p hp => by have := mt_lt _ _ _ _ _ hp; omega)
  have h2 := stab_range (ps := mt B Y 0 0) (qs := mt B X 0 0) (n := B.length) (mt_inc B Y 0 0) (fun p hp => by have := mt_lt _ _ _ _ _ hp; omega)
  have h3 : stab (mt B Y 0 0) (mt B X 0 0) = (stab (mt B X 0 0) (mt B Y 0 0)).map swT := by
    rw [h1, h2, List.map_map]
    have : ∀ i, ((look (mt B Y 0 0) i).isSome && (look (mt B X 0 0) i).isSome) = ((look (mt B X 0 0) i).isSome && (look (mt B Y 0 0) i).isSome) := fun i => Bool.and_comm _ _
    simp only [this]
    rfl
  unfold tch
  rw [h3, grp_sw, ← pc_sw, List.map_append]
  rfl
theorem map_self {α : Type} {f : α → α} : ∀ {l : List α}, l = l.map f → ∀ x ∈ l, f x = x
  | [], _, x, hx => (by cases hx)
  | y :: l, h, x, hx => by
    rw [List.map_cons, List.cons.injEq] at h
    rcases List.mem_cons.mp hx with rfl | hx
    · exact h.1.symm
    · exact map_self h.2 x hx
theorem tch_xx (B X : List Str) : ∀ c ∈ tch B X X, chX c = chY c := fun c hc => by
  have h := map_self (tch_sw B X X) c hc
  cases c with
  | same ls => rfl
  | part b x y =>
    have h : Ch.part b y x = Ch.part b x y := h
    injection h with _ _ e
theorem grpF_diag : ∀ (S : List Tr) (r : R4), r.1 = r.2.2.1 → (∀ m ∈ S, m.1 = m.2.2) → ∀ q ∈ grpF r S, q.1 = q.2.2.1
  | [], r, hr, _, q, hq => by rw [List.mem_singleton.mp hq]; exact hr
  | m :: S, (a, b, c, l), hr, hS, q, hq => by
    rw [grpF] at hq
    split at hq
    · exact grpF_diag S (a, b, c, l + 1) hr (fun z hz => hS z (List.mem_cons_of_mem _ hz)) q hq
    · rcases List.mem_cons.mp hq with rfl | hq
      · exact hr
      · exact grpF_diag S (m.1, m.2.1, m.2.2, 1) (hS m List.mem_cons_self) (fun z hz => hS z (List.mem_cons_of_mem _ hz)) q hq
theorem pc_diag (B X : List Str) : ∀ (R : List R4) (s : Tr), s.1 = s.2.2 → (∀ r ∈ R, r.1 = r.2.2.1) → ∀ c ∈ pc B X B s R, chB c = chY c
  | [], s, _, _, c, hc => (by cases hc)
  | (a, b, c, l) :: R, s, hs, hR, c', hc => by
    have hac : a = c := hR (a, b, c, l) List.mem_cons_self
    subst hac
    rcases List.mem_append.mp (show c' ∈ pOpt B X B s (a, b, a) ++ sOpt B a l ++ pc B X B (a + l, b + l, a + l) R from hc) with hc | hc
    · rcases List.mem_append.mp hc with hc | hc
      · unfold pOpt at hc
        split at hc
        · rw [List.mem_singleton.mp hc]
          show cut B s.1 a = cut B s.2.2 a
          rw [hs]
        · cases hc
      · unfold sOpt at hc
        split at hc
        · rw [List.mem_singleton.mp hc]; rfl
        · cases hc
    · exact pc_diag B X R _ rfl (fun r hr => hR r (List.mem_cons_of_mem _ hr)) c' hc
theorem tch_xb (B X : List Str) : ∀ c ∈ tch B X B, chB c = chY c := by
  unfold tch
  refine pc_diag B X _ _ rfl ?_
  have hS : ∀ m ∈ stab (mt B X 0 0) (mt B B 0 0), m.1 = m.2.2 := fun m hm => by
    obtain ⟨_, h2⟩ := stab_mem hm
    rw [mt_self] at h2
    obtain ⟨k, _, e⟩ := List.mem_map.mp h2
    rw [Prod.mk.injEq] at e
    omega
  intro r hr
  rcases List.mem_append.mp hr with hr | hr
  · generalize stab (mt B X 0 0) (mt B B 0 0) = S at hS hr
    cases S with
    | nil => cases hr
    | cons m S => exact grpF_diag S _ (hS m List.mem_cons_self) (fun z hz => hS z (List.mem_cons_of_mem _ hz)) r hr
  · rw [List.mem_singleton.mp hr]
theorem tch_bx (B X : List Str) : ∀ c ∈ tch B B X, chB c = chX c := fun c hc => by
  rw [tch_sw B X B] at hc
  obtain ⟨d, hd, rfl⟩ := List.mem_map.mp hc
  have := tch_xb B X d hd
  cases d <;> exact this
theorem mrg_of (n : Nat) : ∀ (cs : List Ch), (∀ c ∈ cs, decC c = (side n c, 0)) → mrgL cs = joined n cs ∧ mrgN cs = 0
  | [], _ => ⟨rfl, rfl⟩
  | c :: cs, h => by
    have ih := mrg_of n cs fun x hx => h x (List.mem_cons_of_mem _ hx)
    have h1 := h c List.mem_cons_self
    unfold mrgL mrgN joined at *
    rw [List.flatMap_cons, List.flatMap_cons, List.map_cons, List.sum_cons, ih.1, ih.2, h1]
    exact ⟨rfl, rfl⟩
theorem dec_xx (b x : List Str) : dec b x x = (x, 0) := by
  unfold dec
  rw [if_pos rfl]
theorem dec_xb (b x : List Str) : dec b x b = (x, 0) := by
  unfold dec
  split
  · rfl
  · rw [if_pos rfl]
theorem dec_bx (b x : List Str) : dec b b x = (x, 0) := by
  unfold dec
  split
  · rename_i e; rw [e]
  · split
    · rename_i e; rw [e]
    · rw [if_pos rfl]
theorem mrg_xx (B X : List Str) : mrgL (tch B X X) = X ∧ mrgN (tch B X X) = 0 := by
  have h := mrg_of 2 (tch B X X) fun c hc => by
    unfold decC
    rw [← tch_xx B X c hc, dec_xx]
    cases c <;> rfl
  rw [tch_joined] at h
  exact h
theorem mrg_xb (B X : List Str) : mrgL (tch B X B) = X ∧ mrgN (tch B X B) = 0 := by
  have h := mrg_of 2 (tch B X B) fun c hc => by
    unfold decC
    rw [← tch_xb B X c hc, dec_xb]
    cases c <;> rfl
  rw [tch_joined] at h
  exact h
theorem mrg_bx (B X : List Str) : mrgL (tch B B X) = X ∧ mrgN (tch B B X) = 0 := by
  have h := mrg_of 3 (tch B B X) fun c hc => by
    unfold decC
    rw [← tch_bx B X c hc, dec_bx]
    cases c <;> rfl
  rw [tch_joined] at h
  exact h
theorem sh_tS {n : Nat} {xs : List Str} (h : okL xs) : Sh (n + 1) (tS xs) := Sh.tuple fun d hd => by
  obtain ⟨x, hx, rfl⟩ := List.mem_map.mp hd
  exact Sh.str (h x hx)
theorem eqv_tS (xs ys : List Str) : PyData.eqv (tS xs) (tS ys) = decide (xs = ys) := eqv_tstrs xs ys
theorem chD_at {F : Hp} {v : V} {c : Ch} (h : Dq F v (chD c)) : ∃ T tb tx ty, v = .ref T ∧ F T = some (.tup [.str (tag c), .ref tb, .ref tx, .ref ty]) ∧ F tb = some (.tup ((chB c).map V.str)) ∧ F tx = some (.tup ((chX c).map V.str)) ∧ F ty = some (.tup ((chY c).map V.str)) := by
  rw [chD_eq] at h
  cases h with
  | tup hT hs =>
    cases hs with
    | cons h1 hs =>
      cases hs with
      | cons h2 hs =>
        cases hs with
        | cons h3 hs =>
          cases hs with
          | cons h4 hs =>
            cases hs
            cases h1
            obtain ⟨t2, rfl, e2⟩ := tS_inv h2
            obtain ⟨t3, rfl, e3⟩ := tS_inv h3
            obtain ⟨t4, rfl, e4⟩ := tS_inv h4
            exact ⟨_, _, _, _, rfl, hT, e2, e3, e4⟩
def mD (r : List Str × Nat) : PyData := .tuple [.list (r.1.map PyData.str), .int (r.2 : Int)]

end K04

namespace K04
open PySem PySem.Spec PyProof.Rows L2 Qk
local macro_rules | `(tactic| walk_at "m") => `(tactic| ((repeat (first | exact List.Mem.head _ | apply List.Mem.tail)); done))
local macro_rules | `(tactic| walk_at "h") => `(tactic| first | assumption | exact Has.gF (by assumption) (by assumption) | exact Has.get (by assumption) (by walk_at "m"))
local macro_rules | `(tactic| walk_at "c") => `(tactic| ((repeat (first | exact Chg.hd | apply Chg.tl)); done))
local macro_rules | `(tactic| walk_at "is") => `(tactic| first
  | ((with_reducible refine' is2_non ?gh ?_); (case gh => walk_at "h"))
  | (with_reducible refine is_int_list ?_)
  | (with_reducible refine is_int_tuple ?_)
  | (with_reducible refine is_int_dict ?_)
  | (with_reducible refine is_int_int ?_)
  | (with_reducible refine is_int_bool ?_)
  | (with_reducible refine is_int_str ?_)
  | ((with_reducible refine' is2_int ?gh ?_); (case gh => walk_at "h"))
  | (with_reducible refine is_str_list ?_)
  | (with_reducible refine is_str_tuple ?_)
  | (with_reducible refine is_str_dict ?_)
  | (with_reducible refine is_str_int ?_)
  | (with_reducible refine is_str_bool ?_)
  | (with_reducible refine is_str_str ?_)
  | ((with_reducible refine' is2_str ?gh ?_); (case gh => walk_at "h"))
  | (with_reducible refine is_bool_list ?_)
  | (with_reducible refine is_bool_tuple ?_)
  | (with_reducible refine is_bool_dict ?_)
  | (with_reducible refine is_bool_int ?_)
  | (with_reducible refine is_bool_bool ?_)
  | (with_reducible refine is_bool_str ?_)
  | ((with_reducible refine' is2_bool ?gh ?_); (case gh => walk_at "h"))
  | ((with_reducible refine' is_list_list ?gh ?_); (case gh => walk_at "h"))
  | ((with_reducible refine' is_list_tuple ?gh ?_); (case gh => walk_at "h"))
  | ((with_reducible refine' is_list_dict ?gh ?_); (case gh => walk_at "h"))
  | ((with_reducible refine' is_list_int ?gh ?_); (case gh => walk_at "h"))
  | ((with_reducible refine' is_list_bool ?gh ?_); (case gh => walk_at "h"))
  | ((with_reducible refine' is_list_str ?gh ?_); (case gh => walk_at "h"))
  | ((with_reducible refine' is2_list ?ga ?gb ?_); (case ga => walk_at "h"); (case gb => walk_at "h"))
  | ((with_reducible refine' is_tuple_list ?gh ?_); (case gh => walk_at "h"))
  | ((with_reducible refine' is_tuple_tuple ?gh ?_); (case gh => walk_at "h"))
  | ((with_reducible refine' is_tuple_dict ?gh ?_); (case gh => walk_at "h"))
  | ((with_reducible refine' is_tuple_int ?gh ?_); (case gh => walk_at "h"))
  | ((with_reducible refine' is_tuple_bool ?gh ?_); (case gh => walk_at "h"))
  | ((with_reducible refine' is_tuple_str ?gh ?_); (case gh => walk_at "h"))
  | ((with_reducible refine' is2_tuple ?ga ?gb ?_); (case ga => walk_at "h"); (case gb => walk_at "h"))
  | ((with_reducible refine' is_dict_list ?gh ?_); (case gh => walk_at "h"))
  | ((with_reducible refine' is_dict_tuple ?gh ?_); (case gh => walk_at "h"))
  | ((with_reducible refine' is_dict_dict ?gh ?_); (case gh => walk_at "h"))
  | ((with_reducible refine' is_dict_int ?gh ?_); (case gh => walk_at "h"))
  | ((with_reducible refine' is_dict_bool ?gh ?_); (case gh => walk_at "h"))
  | ((with_reducible refine' is_dict_str ?gh ?_); (case gh => walk_at "h"))
  | ((with_reducible refine' is2_dict ?ga ?gb ?_); (case ga => walk_at "h"); (case gb => walk_at "h")))
local macro_rules | `(tactic| walk_at "g") => `(tactic| first
  | (with_reducible refine g_seq ?_)
  | (with_reducible refine g_asg ?_)
  | ((with_reducible refine g_name ?_); dsimp only [List.set, wipe, List.map])
  | ((with_reducible refine' g_var ?gv ?_); (case gv => exact rfl))
  | (with_reducible refine g_c ?_)
  | (with_reducible refine g_op ?_)
  | (with_reducible refine g_cons ?_)
  | (with_reducible refine g_nil ?_)
  | (with_reducible refine g_cb ?_)
  | (with_reducible refine g_call ?_)
  | (with_reducible refine g_tup ?_)
  | (with_reducible refine g_lst ?_)
  | (with_reducible refine g_bm ?_)
  | (with_reducible refine g_bm0 ?_)
  | ((with_reducible refine' g_kbm ?gh ?_); (case gh => walk_at "h"))
  | (with_reducible refine g_drop ?_)
  | (with_reducible refine g_ret ?_)
  | (with_reducible refine g_retN ?_)
  | (with_reducible refine g_next ?_)
  | (with_reducible refine g_brk ?_)
  | (with_reducible refine g_cont ?_)
  | (with_reducible refine g_if ?_)
  | ((with_reducible refine' g_aug ?gv ?_); (case gv => exact rfl))
  | (with_reducible refine g_ipI ?_)
  | (with_reducible refine g_test ?_)
  | (with_reducible refine g_tB ?_)
  | (with_reducible refine g_kB ?_)
  | (with_reducible refine g_not ?_)
  | (with_reducible refine g_and ?_)
  | (with_reducible refine g_or ?_)
  | (with_reducible refine g_andV ?_)
  | (with_reducible refine g_orV ?_)
  | (with_reducible refine g_notV ?_)
  | (with_reducible refine g_ifE ?_)
  | (with_reducible refine g_addI ?_)
  | (with_reducible refine g_rI0 ?_)
  | (with_reducible refine g_eqI ?_)
  | (with_reducible refine g_eqS ?_)
  | (with_reducible refine g_neI ?_)
  | (with_reducible refine g_neS ?_)
  | (with_reducible refine g_isN ?_)
  | (with_reducible refine g_notN ?_)
  | (with_reducible refine g_int ?_)
  | (with_reducible refine g_max2 ?_)
  | ((with_reducible refine' g_lenL ?gh ?_); (case gh => walk_at "h"))
  | (with_reducible refine g_sub ?_)
  | (with_reducible refine g_gcons ?_)
  | (with_reducible refine g_gnil ?_)
  | (with_reducible refine g_un ?_)
  | (with_reducible refine g_rU ?_)
  | (with_reducible refine g_forL ?_)
  | (with_reducible refine g_forR1 ?_)
  | (with_reducible refine g_forR2 ?_)
  | (with_reducible refine g_forR3 ?_)
  | (with_reducible refine g_lcL ?_)
  | (with_reducible refine g_lcR1 ?_)
  | (with_reducible refine g_lcR2 ?_)
  | (with_reducible refine g_slice ?_)
  | (with_reducible refine g_part ?_)
  | (with_reducible refine g_kOI ?_)
  | (with_reducible refine g_nopart ?_)
  | (with_reducible refine g_yes ?_)
  | ((with_reducible refine' g_wipe ?gv ?_); (case gv => exact rfl))
  | (with_reducible refine iteT ?_)
  | (with_reducible refine iteF ?_)
  | (with_reducible refine i_nf ?_)
  | (with_reducible refine i_nt ?_)
  | ((with_reducible refine' g_gtup ?gh ?gl ?_); (case gh => walk_at "h"); (case gl => exact rfl))
  | ((with_reducible refine' g_notinI ?gh ?_); (case gh => walk_at "h"))
  | ((with_reducible refine' g_inI ?gh ?_); (case gh => walk_at "h"))
  | ((with_reducible refine' g_kget2 ?gh ?_); (case gh => walk_at "h"))
  | ((with_reducible refine' g_kgotI ?gh ?_); (case gh => walk_at "h"))
  | (with_reducible refine g_tRev ?_)
  | (with_reducible refine g_neB ?_)
  | (with_reducible refine g_eqB ?_)
  | ((with_reducible refine' g_lenT ?gh ?_); (case gh => walk_at "h"))
  | (with_reducible refine g_star ?_)
  | ((with_reducible refine' g_kstarL ?gh ?_); (case gh => walk_at "h"))
  | ((with_reducible refine' g_kstarT ?gh ?_); (case gh => walk_at "h"))
  | (with_reducible refine g_tru ?_)
  | ((with_reducible refine' g_truL ?gh ?_); (case gh => walk_at "h"))
  | (with_reducible refine g_get2 ?_)
  | walk_at "is")
local macro_rules | `(tactic| walk_at "gg") => `(tactic| repeat walk_at "g")
local macro_rules | `(tactic| walk_at "sz") => `(tactic| (refine sz ?_; simp only [List.length_cons, List.length_nil, List.length_map, List.length_append, List.length_replicate]; omega))

/-- a constant of the program's text -/
theorem pe_gc {X : Cx} {x : Str} {pos : Pos} {v : V} (hg : Gl X x) (h : ∃ u, X.mg x = some u ∧ RelV v u) (hd : (x == ("__debug__" : Str)) = false := by decide) : PE X (.Name x pos) (tC v) := by
  obtain ⟨u, hm, r⟩ := h
  exact pe_glob hg hm r hd

/-! ### _clash_lines, merge_texts -/
section
variable {P : Program} {w : World} {K : PySem.W.Frag} {mg : Str → Option Value} {base : Heap}
def sp_clash_lines (K : PySem.W.Frag) : Sp := fun vs H Q _ => ∃ (tb tx ty : Addr) (b x y : List Str), vs = [.ref tb, .ref tx, .ref ty] ∧ H tb = some (.tup (b.map V.str)) ∧ H tx = some (.tup (x.map V.str)) ∧ H ty = some (.tup (y.map V.str)) ∧ b.length ≤ 1000 ∧ x.length ≤ 1000 ∧ y.length ≤ 1000 ∧
  ∀ p H', Same H H' → H p = none → H' p = some (.lst ((clash b x y).map V.str)) → Q (.ref p) H'
theorem sp_clash_lines_len {vs H Q E} (h : sp_clash_lines K vs H Q E) : vs.length = 3 := by
  obtain ⟨_, _, _, _, _, _, rfl, _⟩ := h
  rfl
theorem ok_clash_lines (T : Txt K mg) : FnOk P w K mg base CX0 1 T.f_clash_lines T.fd_clash_lines ["b", "x", "y"] (sp_clash_lines K) := by
  refine T.F_clash_lines.ok sc_clash_lines (fun vs H Q E h => sp_clash_lines_len h) (fun cdv A outer s H vs Q E hr h => ?_)
  refine ⟨_, (pss_one (ps_ret (pe_lst (pa_cons (pe_gc (v := .str "<<<<<<<") (by rfl) T.k_CLASH_START) (k_star K (StX.pa_star (pv 1) (pa_cons (pe_gc (v := .str "|||||||") (by rfl) T.k_CLASH_BASE) (k_star K (StX.pa_star (pv 0) (pa_cons (pe_gc (v := .str "=======") (by rfl) T.k_CLASH_OTHER) (k_star K (StX.pa_star (pv 2) (pa_cons (pe_gc (v := .str ">>>>>>>") (by rfl) T.k_CLASH_END) pa_nil))))))))))))), ?_⟩
  obtain ⟨tb, tx, ty, b, x, y, rfl, hb, hx, hy, lb, lx, ly, q⟩ := h
  have hH := Has.start H
  refine g_start (σ' := [some (.ref tb), some (.ref tx), some (.ref ty)]) rfl ?_
  walk_at "gg"
  have e : (V.str "<<<<<<<" :: (x.map V.str ++ (V.str "|||||||" :: (b.map V.str ++ (V.str "=======" :: (y.map V.str ++ [V.str ">>>>>>>"])))))) = (clash b x y).map V.str := by
    unfold clash
    simp only [List.map_cons, List.map_append, List.map_nil]
  refine g_klst (by walk_at "sz") hH (fun p H1 n1 h1 => ?_)
  exact q p H1 h1.same n1 (by rw [← e]; exact h1.get (List.Mem.head _))
def sp_merge_texts (K : PySem.W.Frag) : Sp := fun vs H Q _ => ∃ (a b c : Addr) (B X Y : List Str), vs = [.ref a, .ref b, .ref c] ∧ H a = some (.lst (B.map V.str)) ∧ H b = some (.lst (X.map V.str)) ∧ H c = some (.lst (Y.map V.str)) ∧ B.length ≤ 40 ∧ X.length ≤ 40 ∧ Y.length ≤ 40 ∧ okL B ∧ okL X ∧ okL Y ∧
  ∀ p l H', Same H H' → H p = none → H l = none → p ≠ l → H' p = some (.tup [.ref l, .int (mrgN (tch B X Y) : Nat)]) → H' l = some (.lst ((mrgL (tch B X Y)).map V.str)) → Q (.ref p) H'
theorem sp_merge_texts_len {vs H Q E} (h : sp_merge_texts K vs H Q E) : vs.length = 3 := by
  obtain ⟨_, _, _, _, _, _, rfl, _⟩ := h
  rfl
theorem ok_merge_texts (T : Txt K mg) : FnOk P w K mg base CX0 6 T.f_merge_texts T.fd_merge_texts ["base", "ours", "theirs"] (sp_merge_texts K) := by
  refine T.F_merge_texts.ok sc_merge_texts (fun vs H Q E h => sp_merge_texts_len h) (fun cdv A outer s H vs Q E hr h => ?_)
  refine ⟨_, (pss_cons (ps_set (i := 3) sc_merge_texts.nd rfl (.inl rfl) (pe_lst pa_nil))
      (pss_cons (ps_set (i := 4) sc_merge_texts.nd rfl (.inl rfl) pe_int)
      (pss_cons (ps_for PassesOwn.never rfl (k_il K (pi_list (pe_call (ok_text_chunks T) (hr.mono (by decide)) (by rfl) T.g_text_chunks T.F_text_chunks.kp T.b_text_chunks .nil pass0 (pa_cons (pv 0) (pa_cons (pv 1) (pa_cons (pv 2) pa_nil)))))) (k_gt K (pg_tup (by rfl) (pgs_cons (pg_name (i := 5) sc_merge_texts.nd rfl (.inl rfl)) (pgs_cons (pg_name (i := 6) sc_merge_texts.nd rfl (.inl rfl)) (pgs_cons (pg_name (i := 7) sc_merge_texts.nd rfl (.inl rfl)) (pgs_cons (pg_name (i := 8) sc_merge_texts.nd rfl (.inl rfl)) pgs_nil)))))) (pss_one (ps_if (pt_cmpR (op_eqK K hr.units) (pv 7) (pv 8) (nomark _)) (pss_one (ps_expr (k_bm K (pe_bm PySem.F.plainAttrs_list PySem.F.slot_list_extend PySem.F.type_list_extend (mt_extendA K) (pv 3) (pa_cons (pv 7) pa_nil))))) (pss_one (ps_if (pt_cmpR (op_eqK K hr.units) (pv 8) (pv 6) (nomark _)) (pss_one (ps_expr (k_bm K (pe_bm PySem.F.plainAttrs_list PySem.F.slot_list_extend PySem.F.type_list_extend (mt_extendA K) (pv 3) (pa_cons (pv 7) pa_nil))))) (pss_one (ps_if (pt_cmpR (op_eqK K hr.units) (pv 7) (pv 6) (nomark _)) (pss_one (ps_expr (k_bm K (pe_bm PySem.F.plainAttrs_list PySem.F.slot_list_extend PySem.F.type_list_extend (mt_extendA K) (pv 3) (pa_cons (pv 8) pa_nil))))) (pss_cons (ps_expr (k_bm K (pe_bm PySem.F.plainAttrs_list PySem.F.slot_list_extend PySem.F.type_list_extend (mt_extendA K) (pv 3) (pa_cons (pe_call (ok_clash_lines T) (hr.mono (by decide)) (by rfl) T.g_clash_lines T.F_clash_lines.kp T.b_clash_lines .nil pass0 (pa_cons (pv 6) (pa_cons (pv 7) (pa_cons (pv 8) pa_nil)))) pa_nil))))
      (pss_one (ps_aug (i := 4) sc_merge_texts.nd rfl (.inl rfl) pe_int ip_add))))))))))
      (pss_one (ps_ret (pe_tup (pa_cons (pv 3) (pa_cons (pv 4) pa_nil)))))))), ?_⟩
  obtain ⟨a, b, c, B, X, Y, rfl, ha, hb, hc, lB, lX, lY, okB, okX, okY, q⟩ := h
  have hH := Has.start H
  refine g_start (σ' := [some (.ref a), some (.ref b), some (.ref c), none, none, none, none, none, none]) rfl ?_
  walk_at "gg"
  refine g_klst (by walk_at "sz") hH (fun ln H1 n1 h1 => ?_)
  walk_at "gg"
  refine ⟨a, b, c, B, X, Y, rfl, by walk_at "h", by walk_at "h", by walk_at "h", by omega, by omega, by omega, fun p2 H2 v2 s2 n2 hp2 dq2 => ?_⟩
  have hle := tch_le (k := 40) B X Y lB lX lY
  have hok := tch_ok okB okX okY
  generalize tch B X Y = cs at *
  have hvl : v2.length = cs.length := by rw [dq2.len, List.length_map]
  have h2 := h1.on s2
  have hpp : ln ≠ p2 := fun z => by
    subst z
    rw [h1.get (List.Mem.head _)] at n2
    cases n2
  have dq2 : DqAll (rmO [(ln, HO.lst [])] H2) v2 (cs.map chD) := by
    refine h2.keep (fun p hp xs z => ?_) chs_noL dq2
    rw [List.mem_singleton.mp hp] at z; cases z
  have hp2 : rmO [(ln, HO.lst [])] H2 p2 = some (.lst v2) := by
    unfold rmO
    rw [if_neg (by simpa using fun z => hpp z.symm)]
    exact hp2
  have sF0 := h2.reF
  have h2 := h2.re
  generalize rmO [(ln, HO.lst [])] H2 = F0 at h2 dq2 hp2 sF0
  have hlen : ∀ t, (mrgL (cs.take t)).length ≤ 82 * 124 := fun t => by
    refine Nat.le_trans (mrgL_len (k := 40) fun c hc => hle.1 c (List.mem_of_mem_take hc)) ?_
    refine Nat.mul_le_mul_right _ ?_
    rw [List.length_take]
    omega
  refine k_forL (by walk_at "h") (fun t σ H' => ∃ (F : Hp) (y1 y2 y3 y4 : Option V), σ = [some (.ref a), some (.ref b), some (.ref c), some (.ref ln), some (.int (mrgN (cs.take t) : Nat)), y1, y2, y3, y4] ∧ Same F0 F ∧ Has F [(ln, .lst ((mrgL (cs.take t)).map V.str))] H') ⟨F0, _, _, _, _, rfl, Same.refl _, h2⟩ ?_ ?_ ?_
  · rintro t σ H3 _ ⟨F, _, _, _, _, _, sF, h3⟩
    exact h3.same _ _ (sF _ _ hp2)
  · rintro t x σ H3 hx ⟨F, y1, y2, y3, y4, rfl, sF, h3⟩
    obtain ⟨d, hd, dx⟩ := dq2.get hx
    rw [List.getElem?_map] at hd
    obtain ⟨m, hm, rfl⟩ := Option.map_eq_some_iff.mp hd
    obtain ⟨T, tb, tx, ty, rfl, hT, eb, ex, ey⟩ := chD_at (dx.up sF _ _)
    obtain ⟨ob, ox, oy⟩ := hok m (List.mem_of_getElem? hm)
    have hml := hle.1 m (List.mem_of_getElem? hm)
    have lmb : (chB m).length ≤ 40 ∧ (chX m).length ≤ 40 ∧ (chY m).length ≤ 40 := by
      cases m with
      | same ls => exact ⟨hml, hml, hml⟩
      | part b x y => exact hml
    have eL := mrgL_take hm
    have eN := mrgN_take hm
    have hln := hlen t
    unfold decC dec at eL eN
    walk_at "gg"
    refine g_eqD (dq_tS (h3.same _ _ ex)) (dq_tS (h3.same _ _ ey)) ((sh_tS (n := 0) ox).ok (by decide)) ((sh_tS (n := 0) oy).ok (by decide)) ?_
    rw [eqv_tS]
    walk_at "gg"
    refine i_d (fun e1 => ?_) (fun e1 => ?_)
    · rw [if_pos e1] at eL eN
      walk_at "gg"
      refine g_extT h3 (by walk_at "h") (by walk_at "c") (sz (by rw [List.length_map, List.length_map]; omega)) (fun H4 h4 => ?_)
      refine ⟨F, _, _, _, _, by rw [eN]; rfl, sF, ?_⟩
      rw [eL, List.map_append]
      exact h4
    rw [if_neg e1] at eL eN
    walk_at "gg"
    refine g_eqD (dq_tS (h3.same _ _ ey)) (dq_tS (h3.same _ _ eb)) ((sh_tS (n := 0) oy).ok (by decide)) ((sh_tS (n := 0) ob).ok (by decide)) ?_
    rw [eqv_tS]
    walk_at "gg"
    refine i_d (fun e2 => ?_) (fun e2 => ?_)
    · rw [if_pos e2] at eL eN
      walk_at "gg"
      refine g_extT h3 (by walk_at "h") (by walk_at "c") (sz (by rw [List.length_map, List.length_map]; omega)) (fun H4 h4 => ?_)
      refine ⟨F, _, _, _, _, by rw [eN]; rfl, sF, ?_⟩
      rw [eL, List.map_append]
      exact h4
    rw [if_neg e2] at eL eN
    walk_at "gg"
    refine g_eqD (dq_tS (h3.same _ _ ex)) (dq_tS (h3.same _ _ eb)) ((sh_tS (n := 0) ox).ok (by decide)) ((sh_tS (n := 0) ob).ok (by decide)) ?_
    rw [eqv_tS]
    walk_at "gg"
    refine i_d (fun e3 => ?_) (fun e3 => ?_)
    · rw [if_pos e3] at eL eN
      walk_at "gg"
      refine g_extT h3 (by walk_at "h") (by walk_at "c") (sz (by rw [List.length_map, List.length_map]; omega)) (fun H4 h4 => ?_)
      refine ⟨F, _, _, _, _, by rw [eN]; rfl, sF, ?_⟩
      rw [eL, List.map_append]
      exact h4
    rw [if_neg e3] at eL eN
    walk_at "gg"
    refine ⟨tb, tx, ty, chB m, chX m, chY m, rfl, h3.same _ _ eb, h3.same _ _ ex, h3.same _ _ ey, by omega, by omega, by omega, fun p4 H4 s4 n4 hp4 => ?_⟩
    have h4 := h3.on s4
    have hcl : (clash (chB m) (chX m) (chY m)).length ≤ 124 := by
      unfold clash
      simp only [List.length_cons, List.length_append, List.length_nil]
      omega
    walk_at "gg"
    refine g_extL h4 hp4 (by walk_at "c") (sz (by rw [List.length_map, List.length_map]; omega)) (fun H5 h5 => ?_)
    walk_at "gg"
    refine ⟨F, _, _, _, _, by rw [eN]; rfl, sF, ?_⟩
    rw [eL, List.map_append]
    exact h5
  · rintro σ H3 ⟨F, y1, y2, y3, y4, rfl, sF, h3⟩
    rw [hvl, List.take_length] at h3
    rw [hvl, List.take_length]
    walk_at "gg"
    refine g_ktup (by walk_at "sz") h3 (fun p5 H5 n5 h5 => ?_)
    have sA := sF0.trans (sF.trans h5.same)
    refine q p5 ln H5 sA ((sF0.trans (sF.trans h3.same)).free n5) n1 (fun z => ?_) (h5.get (List.Mem.head _)) (h5.get (by walk_at "m"))
    rw [z, h3.get (List.Mem.head _)] at n5
    cases n5
end

end K04

namespace K04
open PySem PySem.Spec PyProof.Rows L2 Qk
local macro_rules | `(tactic| walk_at "m") => `(tactic| ((repeat (first | exact List.Mem.head _ | apply List.Mem.tail)); done))
local macro_rules | `(tactic| walk_at "h") => `(tactic| first | assumption | exact Has.gF (by assumption) (by assumption) | exact Has.get (by assumption) (by walk_at "m"))
local macro_rules | `(tactic| walk_at "c") => `(tactic| ((repeat (first | exact Chg.hd | apply Chg.tl)); done))
local macro_rules | `(tactic| walk_at "is") => `(tactic| first
  | ((with_reducible refine' is2_non ?gh ?_); (case gh => walk_at "h"))
  | (with_reducible refine is_int_list ?_)
  | (with_reducible refine is_int_tuple ?_)
  | (with_reducible refine is_int_dict ?_)
  | (with_reducible refine is_int_int ?_)
  | (with_reducible refine is_int_bool ?_)
  | (with_reducible refine is_int_str ?_)
  | ((with_reducible refine' is2_int ?gh ?_); (case gh => walk_at "h"))
  | (with_reducible refine is_str_list ?_)
  | (with_reducible refine is_str_tuple ?_)
  | (with_reducible refine is_str_dict ?_)
  | (with_reducible refine is_str_int ?_)
  | (with_reducible refine is_str_bool ?_)
  | (with_reducible refine is_str_str ?_)
  | ((with_reducible refine' is2_str ?gh ?_); (case gh => walk_at "h"))
  | (with_reducible refine is_bool_list ?_)
  | (with_reducible refine is_bool_tuple ?_)
  | (with_reducible refine is_bool_dict ?_)
  | (with_reducible refine is_bool_int ?_)
  | (with_reducible refine is_bool_bool ?_)
  | (with_reducible refine is_bool_str ?_)
  | ((with_reducible refine' is2_bool ?gh ?_); (case gh => walk_at "h"))
  | ((with_reducible refine' is_list_list ?gh ?_); (case gh => walk_at "h"))
  | ((with_reducible refine' is_list_tuple ?gh ?_); (case gh => walk_at "h"))
  | ((with_reducible refine' is_list_dict ?gh ?_); (case gh => walk_at "h"))
  | ((with_reducible refine' is_list_int ?gh ?_); (case gh => walk_at "h"))
  | ((with_reducible refine' is_list_bool ?gh ?_); (case gh => walk_at "h"))
  | ((with_reducible refine' is_list_str ?gh ?_); (case gh => walk_at "h"))
  | ((with_reducible refine' is2_list ?ga ?gb ?_); (case ga => walk_at "h"); (case gb => walk_at "h"))
  | ((with_reducible refine' is_tuple_list ?gh ?_); (case gh => walk_at "h"))
  | ((with_reducible refine' is_tuple_tuple ?gh ?_); (case gh => walk_at "h"))
  | ((with_reducible refine' is_tuple_dict ?gh ?_); (case gh => walk_at "h"))
  | ((with_reducible refine' is_tuple_int ?gh ?_); (case gh => walk_at "h"))
  | ((with_reducible refine' is_tuple_bool ?gh ?_); (case gh => walk_at "h"))
  | ((with_reducible refine' is_tuple_str ?gh ?_); (case gh => walk_at "h"))
  | ((with_reducible refine' is2_tuple ?ga ?gb ?_); (case ga => walk_at "h"); (case gb => walk_at "h"))
  | ((with_reducible refine' is_dict_list ?gh ?_); (case gh => walk_at "h"))
  | ((with_reducible refine' is_dict_tuple ?gh ?_); (case gh => walk_at "h"))
  | ((with_reducible refine' is_dict_dict ?gh ?_); (case gh => walk_at "h"))
  | ((with_reducible refine' is_dict_int ?gh ?_); (case gh => walk_at "h"))
  | ((with_reducible refine' is_dict_bool ?gh ?_); (case gh => walk_at "h"))
  | ((with_reducible refine' is_dict_str ?gh ?_); (case gh => walk_at "h"))
  | ((with_reducible refine' is2_dict ?ga ?gb ?_); (case ga => walk_at "h"); (case gb => walk_at "h")))
local macro_rules | `(tactic| walk_at "g") => `(tactic| first
  | (with_reducible refine g_seq ?_)
  | (with_reducible refine g_asg ?_)
  | ((with_reducible refine g_name ?_); dsimp only [List.set, wipe, List.map])
  | ((with_reducible refine' g_var ?gv ?_); (case gv => exact rfl))
  | (with_reducible refine g_c ?_)
  | (with_reducible refine g_op ?_)
  | (with_reducible refine g_cons ?_)
  | (with_reducible refine g_nil ?_)
  | (with_reducible refine g_cb ?_)
  | (with_reducible refine g_call ?_)
  | (with_reducible refine g_tup ?_)
  | (with_reducible refine g_lst ?_)
  | (with_reducible refine g_bm ?_)
  | (with_reducible refine g_bm0 ?_)
  | ((with_reducible refine' g_kbm ?gh ?_); (case gh => walk_at "h"))
  | (with_reducible refine g_drop ?_)
  | (with_reducible refine g_ret ?_)
  | (with_reducible refine g_retN ?_)
  | (with_reducible refine g_next ?_)
  | (with_reducible refine g_brk ?_)
  | (with_reducible refine g_cont ?_)
  | (with_reducible refine g_if ?_)
  | ((with_reducible refine' g_aug ?gv ?_); (case gv => exact rfl))
  | (with_reducible refine g_ipI ?_)
  | (with_reducible refine g_test ?_)
  | (with_reducible refine g_tB ?_)
  | (with_reducible refine g_kB ?_)
  | (with_reducible refine g_not ?_)
  | (with_reducible refine g_and ?_)
  | (with_reducible refine g_or ?_)
  | (with_reducible refine g_andV ?_)
  | (with_reducible refine g_orV ?_)
  | (with_reducible refine g_notV ?_)
  | (with_reducible refine g_ifE ?_)
  | (with_reducible refine g_addI ?_)
  | (with_reducible refine g_rI0 ?_)
  | (with_reducible refine g_eqI ?_)
  | (with_reducible refine g_eqS ?_)
  | (with_reducible refine g_neI ?_)
  | (with_reducible refine g_neS ?_)
  | (with_reducible refine g_isN ?_)
  | (with_reducible refine g_notN ?_)
  | (with_reducible refine g_int ?_)
  | (with_reducible refine g_max2 ?_)
  | ((with_reducible refine' g_lenL ?gh ?_); (case gh => walk_at "h"))
  | (with_reducible refine g_sub ?_)
  | (with_reducible refine g_gcons ?_)
  | (with_reducible refine g_gnil ?_)
  | (with_reducible refine g_un ?_)
  | (with_reducible refine g_rU ?_)
  | (with_reducible refine g_forL ?_)
  | (with_reducible refine g_forR1 ?_)
  | (with_reducible refine g_forR2 ?_)
  | (with_reducible refine g_forR3 ?_)
  | (with_reducible refine g_lcL ?_)
  | (with_reducible refine g_lcR1 ?_)
  | (with_reducible refine g_lcR2 ?_)
  | (with_reducible refine g_slice ?_)
  | (with_reducible refine g_part ?_)
  | (with_reducible refine g_kOI ?_)
  | (with_reducible refine g_nopart ?_)
  | (with_reducible refine g_yes ?_)
  | ((with_reducible refine' g_wipe ?gv ?_); (case gv => exact rfl))
  | (with_reducible refine iteT ?_)
  | (with_reducible refine iteF ?_)
  | (with_reducible refine i_nf ?_)
  | (with_reducible refine i_nt ?_)
  | ((with_reducible refine' g_gtup ?gh ?gl ?_); (case gh => walk_at "h"); (case gl => exact rfl))
  | ((with_reducible refine' g_notinI ?gh ?_); (case gh => walk_at "h"))
  | ((with_reducible refine' g_inI ?gh ?_); (case gh => walk_at "h"))
  | ((with_reducible refine' g_kget2 ?gh ?_); (case gh => walk_at "h"))
  | ((with_reducible refine' g_kgotI ?gh ?_); (case gh => walk_at "h"))
  | (with_reducible refine g_tRev ?_)
  | (with_reducible refine g_neB ?_)
  | (with_reducible refine g_eqB ?_)
  | ((with_reducible refine' g_lenT ?gh ?_); (case gh => walk_at "h"))
  | (with_reducible refine g_star ?_)
  | ((with_reducible refine' g_kstarL ?gh ?_); (case gh => walk_at "h"))
  | ((with_reducible refine' g_kstarT ?gh ?_); (case gh => walk_at "h"))
  | (with_reducible refine g_tru ?_)
  | ((with_reducible refine' g_truL ?gh ?_); (case gh => walk_at "h"))
  | (with_reducible refine g_get2 ?_)
  | walk_at "is")
local macro_rules | `(tactic| walk_at "gg") => `(tactic| repeat walk_at "g")
local macro_rules | `(tactic| walk_at "sz") => `(tactic| (refine sz ?_; simp only [List.length_cons, List.length_nil, List.length_map, List.length_append, List.length_replicate]; omega))

theorem k_forR2 {σ : L2.St} {H : Hp} {D : Ends} {ts : TS} {g : TG} {lo j : Int} (h0 : -(2 ^ 62) ≤ lo ∧ lo < 2 ^ 62 ∧ -(2 ^ 62) ≤ j ∧ j < 2 ^ 62) (Pv : Nat → L2.St → Hp → Prop) (hp : Pv 0 σ H)
    (hs : ∀ i σ H, i < (j - lo).toNat → Pv i σ H → g (.int (lo + (i : Nat))) σ H fun σ2 H2 => ts { D with nx := Pv (i + 1), ct := Pv (i + 1), bk := D.nx } σ2 H2) (hd : ∀ σ H, Pv (j - lo).toNat σ H → D.nx σ H) : kForR2 g ts D σ [.int lo, .int j] H :=
  ⟨lo, j, rfl, h0, for_range Pv hp hs hd⟩
theorem DqAll.set {H : Hp} {u : V} {d : PyData} : ∀ {vs : List V} {ds : List PyData} {k : Nat}, DqAll H vs ds → ds[k]? = some d → Dq H u d → DqAll H (vs.set k u) ds
  | _, _, _, .nil, e, _ => by simp at e
  | _, _, 0, .cons _ t, e, h => by
    have e := Option.some.inj e
    subst e
    exact .cons h t
  | _, _, k + 1, .cons h t, e, hu => .cons h (DqAll.set (k := k) t e hu)

/-! ### _law_decided, _law_merged -/
section
variable {P : Program} {w : World} {K : PySem.W.Frag} {mg : Str → Option Value} {base : Heap}
def sp_l_decided (K : PySem.W.Frag) : Sp := fun vs H Q _ => ∃ (a b c : Addr) (B X Y : List Str), vs = [.ref a, .ref b, .ref c] ∧ H a = some (.lst (B.map V.str)) ∧ H b = some (.lst (X.map V.str)) ∧ H c = some (.lst (Y.map V.str)) ∧ B.length ≤ 1000 ∧ X.length ≤ 1000 ∧ Y.length ≤ 1000 ∧ okL B ∧ okL X ∧ okL Y ∧
  ∀ p l H', Same H H' → H' p = some (.tup [.ref l, .int ((dec B X Y).2 : Nat)]) → H' l = some (.lst ((dec B X Y).1.map V.str)) → Q (.ref p) H'
theorem sp_l_decided_len {vs H Q E} (h : sp_l_decided K vs H Q E) : vs.length = 3 := by
  obtain ⟨_, _, _, _, _, _, rfl, _⟩ := h
  rfl
theorem ok_l_decided (T : Txt K mg) : FnOk P w K mg base CX0 1 T.f_l_decided T.fd_l_decided ["base", "ours", "theirs"] (sp_l_decided K) := by
  refine T.F_l_decided.ok sc_l_decided (fun vs H Q E h => sp_l_decided_len h) (fun cdv A outer s H vs Q E hr h => ?_)
  refine ⟨_, (pss_cons (ps_if (PW.pt (pw_or (pt_cmpR (op_eqK K hr.units) (pv 1) (pv 2) (nomark _)) (pw_or1 (pt_cmpR (op_eqK K hr.units) (pv 2) (pv 0) (nomark _))))) (pss_one (ps_ret (pe_tup (pa_cons (pv 1) (pa_cons pe_int pa_nil))))) pss_nil)
      (pss_cons (ps_if (pt_cmpR (op_eqK K hr.units) (pv 1) (pv 0) (nomark _)) (pss_one (ps_ret (pe_tup (pa_cons (pv 2) (pa_cons pe_int pa_nil))))) pss_nil)
      (pss_cons (ps_set (i := 3) sc_l_decided.nd rfl (.inl rfl) (pe_op (op_addK K) (pe_op (op_addK K) (pe_op (op_addK K) (pe_op (op_addK K) (pe_op (op_addK K) (pe_op (op_addK K) (pe_lst (pa_cons pe_str pa_nil)) (pv 1)) (pe_lst (pa_cons pe_str pa_nil))) (pv 0)) (pe_lst (pa_cons pe_str pa_nil))) (pv 2)) (pe_lst (pa_cons pe_str pa_nil))))
      (pss_one (ps_ret (pe_tup (pa_cons (pv 3) (pa_cons pe_int pa_nil)))))))), ?_⟩
  obtain ⟨a, b, c, B, X, Y, rfl, ha, hb, hc, lB, lX, lY, okB, okX, okY, q⟩ := h
  have hH := Has.start H
  refine g_start (σ' := [some (.ref a), some (.ref b), some (.ref c), none]) rfl ?_
  unfold dec at q
  walk_at "gg"
  refine g_eqD (Dq.strs hb) (Dq.strs hc) ((Sh.strs (n := 0) okX).ok (by decide)) ((Sh.strs (n := 0) okY).ok (by decide)) ?_
  rw [eqv_strs]
  walk_at "gg"
  refine i_d (fun e1 => ?_) (fun e1 => ?_)
  · rw [if_pos e1] at q
    walk_at "gg"
    refine g_ktup (by walk_at "sz") hH (fun p H1 n1 h1 => ?_)
    exact q p b H1 h1.same (h1.get (List.Mem.head _)) (h1.same _ _ hb)
  rw [if_neg e1] at q
  walk_at "gg"
  refine g_eqD (Dq.strs hc) (Dq.strs ha) ((Sh.strs (n := 0) okY).ok (by decide)) ((Sh.strs (n := 0) okB).ok (by decide)) ?_
  rw [eqv_strs]
  walk_at "gg"
  refine i_d (fun e2 => ?_) (fun e2 => ?_)
  · rw [if_pos e2] at q
    walk_at "gg"
    refine g_ktup (by walk_at "sz") hH (fun p H1 n1 h1 => ?_)
    exact q p b H1 h1.same (h1.get (List.Mem.head _)) (h1.same _ _ hb)
  rw [if_neg e2] at q
  walk_at "gg"
  refine g_eqD (Dq.strs hb) (Dq.strs ha) ((Sh.strs (n := 0) okX).ok (by decide)) ((Sh.strs (n := 0) okB).ok (by decide)) ?_
  rw [eqv_strs]
  walk_at "gg"
  refine i_d (fun e3 => ?_) (fun e3 => ?_)
  · rw [if_pos e3] at q
    walk_at "gg"
    refine g_ktup (by walk_at "sz") hH (fun p H1 n1 h1 => ?_)
    exact q p c H1 h1.same (h1.get (List.Mem.head _)) (h1.same _ _ hc)
  rw [if_neg e3] at q
  walk_at "gg"
  refine g_klst (by walk_at "sz") hH (fun k1 H1 n1 h1 => ?_)
  walk_at "gg"
  refine g_addL (h1.get (List.Mem.head _)) (h1.same _ _ hb) (by walk_at "sz") h1 (fun s1 H2 n2 h2 => ?_)
  walk_at "gg"
  refine g_klst (by walk_at "sz") h2 (fun k2 H3 n3 h3 => ?_)
  refine g_addL (h3.get (by walk_at "m")) (h3.get (List.Mem.head _)) (by walk_at "sz") h3 (fun s2 H4 n4 h4 => ?_)
  walk_at "gg"
  refine g_addL (h4.get (List.Mem.head _)) (h4.same _ _ ha) (by walk_at "sz") h4 (fun s3 H5 n5 h5 => ?_)
  walk_at "gg"
  refine g_klst (by walk_at "sz") h5 (fun k3 H6 n6 h6 => ?_)
  refine g_addL (h6.get (by walk_at "m")) (h6.get (List.Mem.head _)) (by walk_at "sz") h6 (fun s4 H7 n7 h7 => ?_)
  walk_at "gg"
  refine g_addL (h7.get (List.Mem.head _)) (h7.same _ _ hc) (by walk_at "sz") h7 (fun s5 H8 n8 h8 => ?_)
  walk_at "gg"
  refine g_klst (by walk_at "sz") h8 (fun k4 H9 n9 h9 => ?_)
  refine g_addL (h9.get (by walk_at "m")) (h9.get (List.Mem.head _)) (by walk_at "sz") h9 (fun s6 H10 n10 h10 => ?_)
  walk_at "gg"
  refine g_ktup (by walk_at "sz") h10 (fun p H11 n11 h11 => ?_)
  refine q p s6 H11 h11.same (h11.get (List.Mem.head _)) ?_
  rw [h11.get (.tail _ (List.Mem.head _))]
  congr 2
  unfold clash
  simp only [List.map_cons, List.map_append, List.map_nil, List.append_assoc, List.cons_append, List.nil_append]
end

end K04

namespace K04
open PySem PySem.Spec PyProof.Rows L2 Qk
local macro_rules | `(tactic| walk_at "m") => `(tactic| ((repeat (first | exact List.Mem.head _ | apply List.Mem.tail)); done))
local macro_rules | `(tactic| walk_at "h") => `(tactic| first | assumption | exact Has.gF (by assumption) (by assumption) | exact Has.get (by assumption) (by walk_at "m"))
local macro_rules | `(tactic| walk_at "c") => `(tactic| ((repeat (first | exact Chg.hd | apply Chg.tl)); done))
local macro_rules | `(tactic| walk_at "is") => `(tactic| first
  | ((with_reducible refine' is2_non ?gh ?_); (case gh => walk_at "h"))
  | (with_reducible refine is_int_list ?_)
  | (with_reducible refine is_int_tuple ?_)
  | (with_reducible refine is_int_dict ?_)
  | (with_reducible refine is_int_int ?_)
  | (with_reducible refine is_int_bool ?_)
  | (with_reducible refine is_int_str ?_)
  | ((with_reducible refine' is2_int ?gh ?_); (case gh => walk_at "h"))
  | (with_reducible refine is_str_list ?_)
  | (with_reducible refine is_str_tuple ?_)
  | (with_reducible refine is_str_dict ?_)
  | (with_reducible refine is_str_int ?_)
  | (with_reducible refine is_str_bool ?_)
  | (with_reducible refine is_str_str ?_)
  | ((with_reducible refine' is2_str ?gh ?_); (case gh => walk_at "h"))
  | (with_reducible refine is_bool_list ?_)
  | (with_reducible refine is_bool_tuple ?_)
  | (with_reducible refine is_bool_dict ?_)
  | (with_reducible refine is_bool_int ?_)
  | (with_reducible refine is_bool_bool ?_)
  | (with_reducible refine is_bool_str ?_)
  | ((with_reducible refine' is2_bool ?gh ?_); (case gh => walk_at "h"))
  | ((with_reducible refine' is_list_list ?gh ?_); (case gh => walk_at "h"))
  | ((with_reducible refine' is_list_tuple ?gh ?_); (case gh => walk_at "h"))
  | ((with_reducible refine' is_list_dict ?gh ?_); (case gh => walk_at "h"))
  | ((with_reducible refine' is_list_int ?gh ?_); (case gh => walk_at "h"))
  | ((with_reducible refine' is_list_bool ?gh ?_); (case gh => walk_at "h"))
  | ((with_reducible refine' is_list_str ?gh ?_); (case gh => walk_at "h"))
  | ((with_reducible refine' is2_list ?ga ?gb ?_); (case ga => walk_at "h"); (case gb => walk_at "h"))
  | ((with_reducible refine' is_tuple_list ?gh ?_); (case gh => walk_at "h"))
  | ((with_reducible refine' is_tuple_tuple ?gh ?_); (case gh => walk_at "h"))
  | ((with_reducible refine' is_tuple_dict ?gh ?_); (case gh => walk_at "h"))
  | ((with_reducible refine' is_tuple_int ?gh ?_); (case gh => walk_at "h"))
  | ((with_reducible refine' is_tuple_bool ?gh ?_); (case gh => walk_at "h"))
  | ((with_reducible refine' is_tuple_str ?gh ?_); (case gh => walk_at "h"))
  | ((with_reducible refine' is2_tuple ?ga ?gb ?_); (case ga => walk_at "h"); (case gb => walk_at "h"))
  | ((with_reducible refine' is_dict_list ?gh ?_); (case gh => walk_at "h"))
  | ((with_reducible refine' is_dict_tuple ?gh ?_); (case gh => walk_at "h"))
  | ((with_reducible refine' is_dict_dict ?gh ?_); (case gh => walk_at "h"))
  | ((with_reducible refine' is_dict_int ?gh ?_); (case gh => walk_at "h"))
  | ((with_reducible refine' is_dict_bool ?gh ?_); (case gh => walk_at "h"))
  | ((with_reducible refine' is_dict_str ?gh ?_); (case gh => walk_at "h"))
  | ((with_reducible refine' is2_dict ?ga ?gb ?_); (case ga => walk_at "h"); (case gb => walk_at "h")))
local macro_rules | `(tactic| walk_at "g") => `(tactic| first
  | (with_reducible refine g_seq ?_)
  | (with_reducible refine g_asg ?_)
  | ((with_reducible refine g_name ?_); dsimp only [List.set, wipe, List.map])
  | ((with_reducible refine' g_var ?gv ?_); (case gv => exact rfl))
  | (with_reducible refine g_c ?_)
  | (with_reducible refine g_op ?_)
  | (with_reducible refine g_cons ?_)
  | (with_reducible refine g_nil ?_)
  | (with_reducible refine g_cb ?_)
  | (with_reducible refine g_call ?_)
  | (with_reducible refine g_tup ?_)
  | (with_reducible refine g_lst ?_)
  | (with_reducible refine g_bm ?_)
  | (with_reducible refine g_bm0 ?_)
  | ((with_reducible refine' g_kbm ?gh ?_); (case gh => walk_at "h"))
  | (with_reducible refine g_drop ?_)
  | (with_reducible refine g_ret ?_)
  | (with_reducible refine g_retN ?_)
  | (with_reducible refine g_next ?_)
  | (with_reducible refine g_brk ?_)
  | (with_reducible refine g_cont ?_)
  | (with_reducible refine g_if ?_)
  | ((with_reducible refine' g_aug ?gv ?_); (case gv => exact rfl))
  | (with_reducible refine g_ipI ?_)
  | (with_reducible refine g_test ?_)
  | (with_reducible refine g_tB ?_)
  | (with_reducible refine g_kB ?_)
  | (with_reducible refine g_not ?_)
  | (with_reducible refine g_and ?_)
  | (with_reducible refine g_or ?_)
  | (with_reducible refine g_andV ?_)
  | (with_reducible refine g_orV ?_)
  | (with_reducible refine g_notV ?_)
  | (with_reducible refine g_ifE ?_)
  | (with_reducible refine g_addI ?_)
  | (with_reducible refine g_rI0 ?_)
  | (with_reducible refine g_eqI ?_)
  | (with_reducible refine g_eqS ?_)
  | (with_reducible refine g_neI ?_)
  | (with_reducible refine g_neS ?_)
  | (with_reducible refine g_isN ?_)
  | (with_reducible refine g_notN ?_)
  | (with_reducible refine g_int ?_)
  | (with_reducible refine g_max2 ?_)
  | ((with_reducible refine' g_lenL ?gh ?_); (case gh => walk_at "h"))
  | (with_reducible refine g_sub ?_)
  | (with_reducible refine g_gcons ?_)
  | (with_reducible refine g_gnil ?_)
  | (with_reducible refine g_un ?_)
  | (with_reducible refine g_rU ?_)
  | (with_reducible refine g_forL ?_)
  | (with_reducible refine g_forR1 ?_)
  | (with_reducible refine g_forR2 ?_)
  | (with_reducible refine g_forR3 ?_)
  | (with_reducible refine g_lcL ?_)
  | (with_reducible refine g_lcR1 ?_)
  | (with_reducible refine g_lcR2 ?_)
  | (with_reducible refine g_slice ?_)
  | (with_reducible refine g_part ?_)
  | (with_reducible refine g_kOI ?_)
  | (with_reducible refine g_nopart ?_)
  | (with_reducible refine g_yes ?_)
  | ((with_reducible refine' g_wipe ?gv ?_); (case gv => exact rfl))
  | (with_reducible refine iteT ?_)
  | (with_reducible refine iteF ?_)
  | (with_reducible refine i_nf ?_)
  | (with_reducible refine i_nt ?_)
  | ((with_reducible refine' g_gtup ?gh ?gl ?_); (case gh => walk_at "h"); (case gl => exact rfl))
  | ((with_reducible refine' g_notinI ?gh ?_); (case gh => walk_at "h"))
  | ((with_reducible refine' g_inI ?gh ?_); (case gh => walk_at "h"))
  | ((with_reducible refine' g_kget2 ?gh ?_); (case gh => walk_at "h"))
  | ((with_reducible refine' g_kgotI ?gh ?_); (case gh => walk_at "h"))
  | (with_reducible refine g_tRev ?_)
  | (with_reducible refine g_neB ?_)
  | (with_reducible refine g_eqB ?_)
  | ((with_reducible refine' g_lenT ?gh ?_); (case gh => walk_at "h"))
  | (with_reducible refine g_star ?_)
  | ((with_reducible refine' g_kstarL ?gh ?_); (case gh => walk_at "h"))
  | ((with_reducible refine' g_kstarT ?gh ?_); (case gh => walk_at "h"))
  | (with_reducible refine g_tru ?_)
  | ((with_reducible refine' g_truL ?gh ?_); (case gh => walk_at "h"))
  | (with_reducible refine g_get2 ?_)
  | walk_at "is")
local macro_rules | `(tactic| walk_at "gg") => `(tactic| repeat walk_at "g")
local macro_rules | `(tactic| walk_at "sz") => `(tactic| (refine sz ?_; simp only [List.length_cons, List.length_nil, List.length_map, List.length_append, List.length_replicate]; omega))

/-! ### sides of a base of unlike lines -/
theorem lc_dy {y : Str} : ∀ {xs : List Str} (ys : List Str), y ∉ xs → lc xs (y :: ys) = lc xs ys
  | [], _, _ => by rw [lc, lc]
  | x :: xs, ys, h => by
    rw [List.mem_cons, not_or] at h
    rw [lc, if_neg (fun z => h.1 z.symm), lc_dy ys h.2]
    have := (lc_x xs ys x).1
    omega
theorem lc_dx {x : Str} (xs : List Str) : ∀ {ys : List Str}, x ∉ ys → lc (x :: xs) ys = lc xs ys
  | [], _ => by rw [lc_nil, lc_nil]
  | y :: ys, h => by
    rw [List.mem_cons, not_or] at h
    rw [lc, if_neg h.1, lc_dx xs h.2]
    have := (lc_y xs ys y).1
    omega
theorem lc_pre {xs : List Str} (ys : List Str) : ∀ {P : List Str}, (∀ y ∈ P, y ∉ xs) → lc xs (P ++ ys) = lc xs ys
  | [], _ => rfl
  | y :: P, h => by
    rw [List.cons_append, lc_dy _ (h y List.mem_cons_self), lc_pre ys fun z hz => h z (List.mem_cons_of_mem _ hz)]
theorem mt_nil (xs : List Str) (i j : Nat) : mt xs [] i j = [] := by
  cases xs <;> rw [mt]
theorem mt_skip {b : Str} {B Z : List Str} (h : b ∉ Z) (i j : Nat) : mt (b :: B) Z i j = mt B Z (i + 1) j := by
  cases Z with
  | nil => rw [mt_nil, mt_nil]
  | cons y ys =>
    rw [List.mem_cons, not_or] at h
    rw [mt, if_neg h.1, if_pos]
    rw [lc_dx B h.2]
    exact (lc_y B ys y).1
theorem mt_fresh {b : Str} {B : List Str} (hb : b ∉ B) (R : List Str) : ∀ (P : List Str) (i j : Nat), (∀ y ∈ P, y ∉ b :: B) → mt (b :: B) (P ++ b :: R) i j = (i, j + P.length) :: mt B R (i + 1) (j + P.length + 1)
  | [], i, j, _ => by rw [List.nil_append, mt, if_pos rfl]; rfl
  | y :: P, i, j, h => by
    have hy := h y List.mem_cons_self
    rw [List.mem_cons, not_or] at hy
    have hP : ∀ z ∈ P, z ∉ b :: B := fun z hz => h z (List.mem_cons_of_mem _ hz)
    rw [List.cons_append, mt, if_neg (fun z => hy.1 z.symm), if_neg, mt_fresh hb R P i (j + 1) hP, List.length_cons, show j + 1 + P.length = j + (P.length + 1) by omega]
    have e1 : lc B (y :: (P ++ b :: R)) = lc B R := by
      rw [lc_dy _ hy.2, lc_pre _ (fun z hz => fun m => hP z hz (List.mem_cons_of_mem _ m)), lc_dy _ hb]
    have e2 : lc (b :: B) (P ++ b :: R) = lc B R + 1 := by
      rw [lc_pre _ hP, lc, if_pos rfl]
    rw [e1, e2]
    omega
abbrev It1 := Str × Bool × List Str
def oB (k : Bool) (b : Str) : List Str := if k = true then [b] else []
def oN (k : Bool) : Nat := if k = true then 1 else 0
def sd : List It1 → List Str → List Str
  | [], f => f
  | (b, k, n) :: its, f => n ++ oB k b ++ sd its f
def mp : List It1 → Nat → Nat → List (Nat × Nat)
  | [], _, _ => []
  | (_, k, n) :: its, i, j => if k = true then (i, j + n.length) :: mp its (i + 1) (j + n.length + 1) else mp its (i + 1) (j + n.length)
theorem mem_sd {y : Str} {f : List Str} : ∀ {its : List It1}, y ∈ sd its f → (∃ it ∈ its, y ∈ it.2.2) ∨ (∃ it ∈ its, y = it.1) ∨ y ∈ f
  | [], h => .inr (.inr h)
  | (b, k, n) :: its, h => by
    rcases List.mem_append.mp (show y ∈ (n ++ oB k b) ++ sd its f from h) with h | h
    · rcases List.mem_append.mp h with h | h
      · exact .inl ⟨_, List.mem_cons_self, h⟩
      · unfold oB at h
        split at h
        · exact .inr (.inl ⟨_, List.mem_cons_self, List.mem_singleton.mp h⟩)
        · cases h
    · rcases mem_sd h with ⟨it, hm, h⟩ | ⟨it, hm, h⟩ | h
      · exact .inl ⟨it, List.mem_cons_of_mem _ hm, h⟩
      · exact .inr (.inl ⟨it, List.mem_cons_of_mem _ hm, h⟩)
      · exact .inr (.inr h)
theorem mt_unl (P : Str → Prop) {f : List Str} (hf : ∀ y ∈ f, ¬ P y) : ∀ (its : List It1) (pre : List Str) (i j : Nat), (its.map (·.1)).Nodup → (∀ it ∈ its, P it.1) → (∀ it ∈ its, ∀ y ∈ it.2.2, ¬ P y) → (∀ y ∈ pre, ¬ P y) → mt (its.map (·.1)) (pre ++ sd its f) i j = mp its i (j + pre.length)
  | [], pre, i, j, _, _, _, _ => by
    show mt [] _ i j = []
    rw [mt]
  | (b, k, n) :: its, pre, i, j, nd, hP, hF, hpre => by
    rw [List.map_cons] at nd
    have nd' := List.nodup_cons.mp nd
    have hPb : P b := hP _ List.mem_cons_self
    have hn : ∀ y ∈ n, ¬ P y := hF _ List.mem_cons_self
    have hP' := fun it h => hP it (List.mem_cons_of_mem _ h)
    have hF' := fun it h => hF it (List.mem_cons_of_mem _ h)
    have hpn : ∀ y ∈ pre ++ n, ¬ P y := fun y hy => by
      rcases List.mem_append.mp hy with hy | hy
      · exact hpre y hy
      · exact hn y hy
    cases k with
    | true =>
      show mt (b :: its.map (·.1)) (pre ++ (n ++ [b] ++ sd its f)) i j = (i, j + pre.length + n.length) :: mp its (i + 1) (j + pre.length + n.length + 1)
      have e : pre ++ (n ++ [b] ++ sd its f) = (pre ++ n) ++ b :: sd its f := by simp
      rw [e, mt_fresh nd'.1 _ _ _ _ (fun y hy m => ?_)]
      · have ih := mt_unl P hf its [] (i + 1) (j + (pre ++ n).length + 1) nd'.2 hP' hF' (fun y hy => by cases hy)
        rw [List.nil_append] at ih
        rw [ih, List.length_append, List.length_nil, Nat.add_zero, show j + (pre.length + n.length) = j + pre.length + n.length by omega]
      · rcases List.mem_cons.mp m with rfl | m
        · exact hpn _ hy hPb
        · obtain ⟨it, hm, rfl⟩ := List.mem_map.mp m
          exact hpn _ hy (hP' it hm)
    | false =>
      show mt (b :: its.map (·.1)) (pre ++ (n ++ [] ++ sd its f)) i j = mp its (i + 1) (j + pre.length + n.length)
      have e : pre ++ (n ++ [] ++ sd its f) = (pre ++ n) ++ sd its f := by simp
      rw [e, mt_skip (fun m => ?_), mt_unl P hf its (pre ++ n) (i + 1) j nd'.2 hP' hF' hpn, List.length_append, show j + (pre.length + n.length) = j + pre.length + n.length by omega]
      rcases List.mem_append.mp m with m | m
      · exact hpn _ m hPb
      · rcases mem_sd m with ⟨it, hm, h⟩ | ⟨it, hm, h⟩ | h
        · exact hF' it hm _ h hPb
        · exact nd'.1 (List.mem_map.mpr ⟨it, hm, h.symm⟩)
        · exact hf _ h hPb
abbrev It2 := Str × (Bool × List Str) × (Bool × List Str)
def s1 (it : It2) : It1 := (it.1, it.2.1)
def s2 (it : It2) : It1 := (it.1, it.2.2)
def ms : List It2 → Nat → Nat → Nat → List Tr
  | [], _, _, _ => []
  | (_, (k1, n1), (k2, n2)) :: its, i, j, k => if (k1 && k2) = true then (i, j + n1.length, k + n2.length) :: ms its (i + 1) (j + n1.length + 1) (k + n2.length + 1) else ms its (i + 1) (j + n1.length + oN k1) (k + n2.length + oN k2)
theorem mp_inc : ∀ (its : List It1) (i j : Nat), Inc i j (mp its i j)
  | [], _, _ => trivial
  | (b, k, n) :: its, i, j => by
    cases k with
    | true => exact ⟨Nat.le_refl _, Nat.le_add_right _ _, mp_inc its _ _⟩
    | false => exact (mp_inc its (i + 1) (j + n.length)).mono (Nat.le_succ _) (Nat.le_add_right _ _)
theorem inc_mem : ∀ {ps : List (Nat × Nat)} {i j : Nat} {p : Nat × Nat}, Inc i j ps → p ∈ ps → i ≤ p.1
  | q :: ps, i, j, p, h, hp => by
    rcases List.mem_cons.mp hp with rfl | hp
    · exact h.1
    · have := inc_mem h.2.2 hp
      have := h.1
      omega
theorem stab_r {ps qs : List (Nat × Nat)} {i j k : Nat} (h : Inc (i + 1) j ps) : stab ps ((i, k) :: qs) = stab ps qs := by
  unfold stab
  apply fm_congr
  intro p hp
  have := inc_mem h hp
  rw [look_cons, if_neg (by show ¬ i = p.1; omega)]
theorem stab_mp : ∀ (its : List It2) (i j k : Nat), stab (mp (its.map s1) i j) (mp (its.map s2) i k) = ms its i j k
  | [], _, _, _ => rfl
  | (b, (k1, n1), (k2, n2)) :: its, i, j, k => by
    have ih := stab_mp its (i + 1)
    have inc1 := mp_inc (its.map s1) (i + 1)
    have inc2 := mp_inc (its.map s2) (i + 1)
    cases k1 with
    | true =>
      cases k2 with
      | true =>
        show stab ((i, j + n1.length) :: mp (its.map s1) (i + 1) (j + n1.length + 1)) ((i, k + n2.length) :: mp (its.map s2) (i + 1) (k + n2.length + 1)) = (i, j + n1.length, k + n2.length) :: ms its (i + 1) (j + n1.length + 1) (k + n2.length + 1)
        rw [← ih]
        have e : stab ((i, j + n1.length) :: mp (its.map s1) (i + 1) (j + n1.length + 1)) ((i, k + n2.length) :: mp (its.map s2) (i + 1) (k + n2.length + 1)) = (i, j + n1.length, k + n2.length) :: stab (mp (its.map s1) (i + 1) (j + n1.length + 1)) ((i, k + n2.length) :: mp (its.map s2) (i + 1) (k + n2.length + 1)) := by
          unfold stab
          rw [List.filterMap_cons, look_cons, if_pos rfl]
          rfl
        rw [e, stab_r (inc1 _)]
      | false =>
        show stab ((i, j + n1.length) :: mp (its.map s1) (i + 1) (j + n1.length + 1)) (mp (its.map s2) (i + 1) (k + n2.length)) = ms its (i + 1) (j + n1.length + 1) (k + n2.length + 0)
        rw [← ih]
        have e := look_none (inc2 (k + n2.length)) (Nat.lt_succ_self i)
        unfold stab
        rw [List.filterMap_cons, e]
        rfl
    | false =>
      cases k2 with
      | true =>
        show stab (mp (its.map s1) (i + 1) (j + n1.length)) ((i, k + n2.length) :: mp (its.map s2) (i + 1) (k + n2.length + 1)) = ms its (i + 1) (j + n1.length + 0) (k + n2.length + 1)
        rw [← ih, stab_r (inc1 _)]
        rfl
      | false =>
        show stab (mp (its.map s1) (i + 1) (j + n1.length)) (mp (its.map s2) (i + 1) (k + n2.length)) = ms its (i + 1) (j + n1.length + 0) (k + n2.length + 0)
        rw [← ih]
        rfl
def dec3 (B X Y : List Str) (s m : Tr) : List Str × Nat := dec (cut B s.1 m.1) (cut X s.2.1 m.2.1) (cut Y s.2.2 m.2.2)
def GL (B X Y : List Str) : Tr → List Tr → List Str × Nat
  | _, [] => ([], 0)
  | s, m :: ms => ((dec3 B X Y s m).1 ++ ((B.drop m.1).take 1 ++ (GL B X Y (nx3 m) ms).1), (dec3 B X Y s m).2 + (GL B X Y (nx3 m) ms).2)
theorem mrg_app (cs ds : List Ch) : mrgL (cs ++ ds) = mrgL cs ++ mrgL ds ∧ mrgN (cs ++ ds) = mrgN cs + mrgN ds := by
  unfold mrgL mrgN
  rw [List.flatMap_append, List.map_append, List.sum_append]
  exact ⟨rfl, rfl⟩
theorem mrg_fl (run : List Str) : mrgL (fl run) = run ∧ mrgN (fl run) = 0 := by
  unfold fl
  split
  · unfold mrgL mrgN decC
    simp [chB, chX, chY, dec_xx]
  · rename_i z
    have : run = [] := Classical.not_not.mp z
    subst this
    exact ⟨rfl, rfl⟩
theorem mrg_pN (B X Y : List Str) (s m : Tr) : mrgL (pN B X Y s m) = (dec3 B X Y s m).1 ∧ mrgN (pN B X Y s m) = (dec3 B X Y s m).2 := by
  unfold pN
  by_cases e : m = s
  · subst e
    rw [if_neg (fun z => z rfl)]
    unfold dec3
    have hc : ∀ (L : List Str) i, cut L i i = [] := fun L i => by
      unfold cut
      rw [Nat.sub_self, List.take_zero]
    rw [hc, hc, hc, dec_xx]
    exact ⟨rfl, rfl⟩
  · rw [if_pos e]
    unfold mrgL mrgN decC dec3
    simp [chB, chX, chY]
theorem chL_GL (B X Y : List Str) : ∀ (ms : List Tr) (s : Tr) (run : List Str) (m0 : Tr), m0.1 = B.length → mrgL (chL B X Y s run (ms ++ [m0])) = run ++ (GL B X Y s (ms ++ [m0])).1 ∧ mrgN (chL B X Y s run (ms ++ [m0])) = (GL B X Y s (ms ++ [m0])).2
  | [], s, run, m0, h0 => by
    rw [List.nil_append, chL, if_pos (.inr rfl), chL, List.append_nil]
    have h1 := mrg_fl run
    have h2 := mrg_pN B X Y s m0
    have h3 := mrg_app (fl run) (pN B X Y s m0)
    have e : (B.drop m0.1).take 1 = [] := by rw [h0, List.drop_length]; rfl
    show _ = run ++ ((dec3 B X Y s m0).1 ++ ((B.drop m0.1).take 1 ++ [])) ∧ _ = (dec3 B X Y s m0).2 + 0
    rw [h3.1, h3.2, h1.1, h1.2, h2.1, h2.2, e]
    simp
  | m :: ms, s, run, m0, h0 => by
    have ih := fun r => chL_GL B X Y ms (nx3 m) r m0 h0
    rw [List.cons_append, chL]
    show _ = run ++ ((dec3 B X Y s m).1 ++ ((B.drop m.1).take 1 ++ (GL B X Y (nx3 m) (ms ++ [m0])).1)) ∧ _ = (dec3 B X Y s m).2 + (GL B X Y (nx3 m) (ms ++ [m0])).2
    have h2 := mrg_pN B X Y s m
    split
    · have h1 := mrg_fl run
      have h3 := mrg_app (fl run) (pN B X Y s m)
      have h4 := mrg_app (fl run ++ pN B X Y s m) (chL B X Y (nx3 m) ((B.drop m.1).take 1) (ms ++ [m0]))
      rw [h4.1, h4.2, h3.1, h3.2, (ih _).1, (ih _).2, h1.1, h1.2, h2.1, h2.2]
      simp
    · rename_i z
      have e : m = s := Classical.not_not.mp fun y => z (.inl y)
      subst e
      have hp : pN B X Y m m = [] := by
        unfold pN
        rw [if_neg (fun z => z rfl)]
      rw [hp] at h2
      rw [(ih _).1, (ih _).2, ← h2.1, ← h2.2]
      simp [mrgL, mrgN]
def LW (f1 f2 : List Str) : List It2 → List Str → List Str → List Str → List Str × Nat
  | [], p0, p1, p2 => dec p0 (p1 ++ f1) (p2 ++ f2)
  | (b, (k1, n1), (k2, n2)) :: its, p0, p1, p2 => if (k1 && k2) = true then ((dec p0 (p1 ++ n1) (p2 ++ n2)).1 ++ ([b] ++ (LW f1 f2 its [] [] []).1), (dec p0 (p1 ++ n1) (p2 ++ n2)).2 + (LW f1 f2 its [] [] []).2) else LW f1 f2 its (p0 ++ [b]) (p1 ++ n1 ++ oB k1 b) (p2 ++ n2 ++ oB k2 b)
theorem cut_seg {L w r : List Str} {s j : Nat} (h : L.drop j = w ++ r) (hs : s ≤ j) (hj : j ≤ L.length) : cut L s (j + w.length) = cut L s j ++ w ∧ L.drop (j + w.length) = r ∧ j + w.length ≤ L.length := by
  have hl : L.length - j = w.length + r.length := by
    have := congrArg List.length h
    rw [List.length_drop, List.length_append] at this
    exact this
  refine ⟨?_, ?_, by omega⟩
  · unfold cut
    rw [show j + w.length - s = (j - s) + w.length by omega, List.take_add, List.drop_drop, show s + (j - s) = j by omega, h, List.take_left]
  · rw [← List.drop_drop, h, List.drop_left]
theorem GL_LW {B X Y f1 f2 : List Str} : ∀ (its : List It2) (i j k : Nat) (s : Tr), B.drop i = its.map (·.1) → X.drop j = sd (its.map s1) f1 → Y.drop k = sd (its.map s2) f2 → s.1 ≤ i → s.2.1 ≤ j → s.2.2 ≤ k → i ≤ B.length → j ≤ X.length → k ≤ Y.length →
    GL B X Y s (ms its i j k ++ [(B.length, X.length, Y.length)]) = LW f1 f2 its (cut B s.1 i) (cut X s.2.1 j) (cut Y s.2.2 k)
  | [], i, j, k, s, h1, h2, h3, a1, a2, a3, b1, b2, b3 => by
    have key : ∀ (L : List Str) (i : Nat), cut L i L.length = L.drop i := fun L i => by
      unfold cut
      rw [List.take_of_length_le (by rw [List.length_drop]; exact Nat.le_refl _)]
    have h1 : B.drop i = [] := h1
    have h2 : X.drop j = f1 := h2
    have h3 : Y.drop k = f2 := h3
    show ((dec3 B X Y s (B.length, X.length, Y.length)).1 ++ ((B.drop B.length).take 1 ++ []), (dec3 B X Y s (B.length, X.length, Y.length)).2 + 0) = dec (cut B s.1 i) (cut X s.2.1 j ++ f1) (cut Y s.2.2 k ++ f2)
    unfold dec3
    rw [key, key, key, List.drop_length, ← cut_drop B a1, ← cut_drop X a2, ← cut_drop Y a3, h1, h2, h3]
    simp
  | (b, (k1, n1), (k2, n2)) :: its, i, j, k, s, h1, h2, h3, a1, a2, a3, b1, b2, b3 => by
    have h1 : B.drop i = [b] ++ its.map (·.1) := h1
    have h2 : X.drop j = n1 ++ (oB k1 b ++ sd (its.map s1) f1) := by rw [← List.append_assoc]; exact h2
    have h3 : Y.drop k = n2 ++ (oB k2 b ++ sd (its.map s2) f2) := by rw [← List.append_assoc]; exact h3
    obtain ⟨c1, d1, e1⟩ := cut_seg h1 a1 b1
    obtain ⟨c2, d2, e2⟩ := cut_seg h2 a2 b2
    obtain ⟨c3, d3, e3⟩ := cut_seg h3 a3 b3
    obtain ⟨c4, d4, e4⟩ := cut_seg d2 (show s.2.1 ≤ j + n1.length by omega) e2
    obtain ⟨c5, d5, e5⟩ := cut_seg d3 (show s.2.2 ≤ k + n2.length by omega) e3
    have hlen : ∀ q : Bool, (oB q b).length = oN q := fun q => by cases q <;> rfl
    by_cases hk : (k1 && k2) = true
    · obtain ⟨rfl, rfl⟩ := Bool.and_eq_true_iff.mp hk
      have ih := GL_LW (B := B) (X := X) (Y := Y) (f1 := f1) (f2 := f2) its (i + 1) (j + n1.length + 1) (k + n2.length + 1) (i + 1, j + n1.length + 1, k + n2.length + 1) d1 d4 d5 (Nat.le_refl _) (Nat.le_refl _) (Nat.le_refl _) e1 e4 e5
      have hc : ∀ (L : List Str) i, cut L i i = [] := fun L i => by
        unfold cut
        rw [Nat.sub_self, List.take_zero]
      simp only [hc] at ih
      show ((dec (cut B s.1 i) (cut X s.2.1 (j + n1.length)) (cut Y s.2.2 (k + n2.length))).1 ++ ((B.drop i).take 1 ++ (GL B X Y (i + 1, j + n1.length + 1, k + n2.length + 1) (ms its (i + 1) (j + n1.length + 1) (k + n2.length + 1) ++ [(B.length, X.length, Y.length)])).1), (dec (cut B s.1 i) (cut X s.2.1 (j + n1.length)) (cut Y s.2.2 (k + n2.length))).2 + (GL B X Y (i + 1, j + n1.length + 1, k + n2.length + 1) (ms its (i + 1) (j + n1.length + 1) (k + n2.length + 1) ++ [(B.length, X.length, Y.length)])).2) = _
      rw [ih, c2, c3, h1]
      rfl
    · have ih := GL_LW (B := B) (X := X) (Y := Y) (f1 := f1) (f2 := f2) its (i + 1) (j + n1.length + oN k1) (k + n2.length + oN k2) s d1 (by rw [← hlen k1 ]; exact d4) (by rw [← hlen k2]; exact d5) (by omega) (by omega) (by omega) e1 (by rw [← hlen k1]; exact e4) (by rw [← hlen k2]; exact e5)
      rw [hlen] at c4 c5
      show GL B X Y s ((if (k1 && k2) = true then _ else ms its (i + 1) (j + n1.length + oN k1) (k + n2.length + oN k2)) ++ [(B.length, X.length, Y.length)]) = if (k1 && k2) = true then _ else LW f1 f2 its (cut B s.1 i ++ [b]) (cut X s.2.1 j ++ n1 ++ oB k1 b) (cut Y s.2.2 k ++ n2 ++ oB k2 b)
      rw [if_neg hk, if_neg hk, ih, c4, c5, c2, c3]
      congr 1
/-- the merge of sides that are built of kept and fresh lines -/
theorem mrg_unl (P : Str → Prop) {its : List It2} {f1 f2 : List Str} (nd : (its.map (·.1)).Nodup) (hP : ∀ it ∈ its, P it.1) (hF : ∀ it ∈ its, (∀ y ∈ it.2.1.2, ¬ P y) ∧ ∀ y ∈ it.2.2.2, ¬ P y) (h1 : ∀ y ∈ f1, ¬ P y) (h2 : ∀ y ∈ f2, ¬ P y) :
    (mrgL (tch (its.map (·.1)) (sd (its.map s1) f1) (sd (its.map s2) f2)), mrgN (tch (its.map (·.1)) (sd (its.map s1) f1) (sd (its.map s2) f2))) = LW f1 f2 its [] [] [] := by
  have e1 : its.map (·.1) = (its.map s1).map (·.1) := by rw [List.map_map]; rfl
  have e2 : its.map (·.1) = (its.map s2).map (·.1) := by rw [List.map_map]; rfl
  have m1 : mt (its.map (·.1)) (sd (its.map s1) f1) 0 0 = mp (its.map s1) 0 0 := by
    have := mt_unl P h1 (its.map s1) [] 0 0 (by rw [← e1]; exact nd) (fun it h => by obtain ⟨z, hz, rfl⟩ := List.mem_map.mp h; exact hP z hz) (fun it h => by obtain ⟨z, hz, rfl⟩ := List.mem_map.mp h; exact (hF z hz).1) (fun y hy => by cases hy)
    rw [← e1] at this
    exact this
  have m2 : mt (its.map (·.1)) (sd (its.map s2) f2) 0 0 = mp (its.map s2) 0 0 := by
    have := mt_unl P h2 (its.map s2) [] 0 0 (by rw [← e2]; exact nd) (fun it h => by obtain ⟨z, hz, rfl⟩ := List.mem_map.mp h; exact hP z hz) (fun it h => by obtain ⟨z, hz, rfl⟩ := List.mem_map.mp h; exact (hF z hz).2) (fun y hy => by cases hy)
    rw [← e2] at this
    exact this
  have hg := GL_LW (B := its.map (·.1)) (X := sd (its.map s1) f1) (Y := sd (its.map s2) f2) (f1 := f1) (f2 := f2) its 0 0 0 (0, 0, 0) rfl rfl rfl (Nat.le_refl _) (Nat.le_refl _) (Nat.le_refl _) (Nat.zero_le _) (Nat.zero_le _) (Nat.zero_le _)
  have hc := chL_GL (its.map (·.1)) (sd (its.map s1) f1) (sd (its.map s2) f2) (ms its 0 0 0) (0, 0, 0) [] ((its.map (·.1)).length, (sd (its.map s1) f1).length, (sd (its.map s2) f2).length) rfl
  rw [tch_eq, m1, m2, stab_mp, hc.1, hc.2, hg]
  rfl

end K04

namespace K04
open PySem PySem.Spec PyProof.Rows L2 Qk
local macro_rules | `(tactic| walk_at "m") => `(tactic| ((repeat (first | exact List.Mem.head _ | apply List.Mem.tail)); done))
local macro_rules | `(tactic| walk_at "h") => `(tactic| first | assumption | exact Has.gF (by assumption) (by assumption) | exact Has.get (by assumption) (by walk_at "m"))
local macro_rules | `(tactic| walk_at "c") => `(tactic| ((repeat (first | exact Chg.hd | apply Chg.tl)); done))
local macro_rules | `(tactic| walk_at "is") => `(tactic| first
  | ((with_reducible refine' is2_non ?gh ?_); (case gh => walk_at "h"))
  | (with_reducible refine is_int_list ?_)
  | (with_reducible refine is_int_tuple ?_)
  | (with_reducible refine is_int_dict ?_)
  | (with_reducible refine is_int_int ?_)
  | (with_reducible refine is_int_bool ?_)
  | (with_reducible refine is_int_str ?_)
  | ((with_reducible refine' is2_int ?gh ?_); (case gh => walk_at "h"))
  | (with_reducible refine is_str_list ?_)
  | (with_reducible refine is_str_tuple ?_)
  | (with_reducible refine is_str_dict ?_)
  | (with_reducible refine is_str_int ?_)
  | (with_reducible refine is_str_bool ?_)
  | (with_reducible refine is_str_str ?_)
  | ((with_reducible refine' is2_str ?gh ?_); (case gh => walk_at "h"))
  | (with_reducible refine is_bool_list ?_)
  | (with_reducible refine is_bool_tuple ?_)
  | (with_reducible refine is_bool_dict ?_)
  | (with_reducible refine is_bool_int ?_)
  | (with_reducible refine is_bool_bool ?_)
  | (with_reducible refine is_bool_str ?_)
  | ((with_reducible refine' is2_bool ?gh ?_); (case gh => walk_at "h"))
  | ((with_reducible refine' is_list_list ?gh ?_); (case gh => walk_at "h"))
  | ((with_reducible refine' is_list_tuple ?gh ?_); (case gh => walk_at "h"))
  | ((with_reducible refine' is_list_dict ?gh ?_); (case gh => walk_at "h"))
  | ((with_reducible refine' is_list_int ?gh ?_); (case gh => walk_at "h"))
  | ((with_reducible refine' is_list_bool ?gh ?_); (case gh => walk_at "h"))
  | ((with_reducible refine' is_list_str ?gh ?_); (case gh => walk_at "h"))
  | ((with_reducible refine' is2_list ?ga ?gb ?_); (case ga => walk_at "h"); (case gb => walk_at "h"))
  | ((with_reducible refine' is_tuple_list ?gh ?_); (case gh => walk_at "h"))
  | ((with_reducible refine' is_tuple_tuple ?gh ?_); (case gh => walk_at "h"))
  | ((with_reducible refine' is_tuple_dict ?gh ?_); (case gh => walk_at "h"))
  | ((with_reducible refine' is_tuple_int ?gh ?_); (case gh => walk_at "h"))
  | ((with_reducible refine' is_tuple_bool ?gh ?_); (case gh => walk_at "h"))
  | ((with_reducible refine' is_tuple_str ?gh ?_); (case gh => walk_at "h"))
  | ((with_reducible refine' is2_tuple ?ga ?gb ?_); (case ga => walk_at "h"); (case gb => walk_at "h"))
  | ((with_reducible refine' is_dict_list ?gh ?_); (case gh => walk_at "h"))
  | ((with_reducible refine' is_dict_tuple ?gh ?_); (case gh => walk_at "h"))
  | ((with_reducible refine' is_dict_dict ?gh ?_); (case gh => walk_at "h"))
  | ((with_reducible refine' is_dict_int ?gh ?_); (case gh => walk_at "h"))
  | ((with_reducible refine' is_dict_bool ?gh ?_); (case gh => walk_at "h"))
  | ((with_reducible refine' is_dict_str ?gh ?_); (case gh => walk_at "h"))
  | ((with_reducible refine' is2_dict ?ga ?gb ?_); (case ga => walk_at "h"); (case gb => walk_at "h")))
local macro_rules | `(tactic| walk_at "g") => `(tactic| first
  | (with_reducible refine g_seq ?_)
  | (with_reducible refine g_asg ?_)
  | ((with_reducible refine g_name ?_); dsimp only [List.set, wipe, List.map])
  | ((with_reducible refine' g_var ?gv ?_); (case gv => exact rfl))
  | (with_reducible refine g_c ?_)
  | (with_reducible refine g_op ?_)
  | (with_reducible refine g_cons ?_)
  | (with_reducible refine g_nil ?_)
  | (with_reducible refine g_cb ?_)
  | (with_reducible refine g_call ?_)
  | (with_reducible refine g_tup ?_)
  | (with_reducible refine g_lst ?_)
  | (with_reducible refine g_bm ?_)
  | (with_reducible refine g_bm0 ?_)
  | ((with_reducible refine' g_kbm ?gh ?_); (case gh => walk_at "h"))
  | (with_reducible refine g_drop ?_)
  | (with_reducible refine g_ret ?_)
  | (with_reducible refine g_retN ?_)
  | (with_reducible refine g_next ?_)
  | (with_reducible refine g_brk ?_)
  | (with_reducible refine g_cont ?_)
  | (with_reducible refine g_if ?_)
  | ((with_reducible refine' g_aug ?gv ?_); (case gv => exact rfl))
  | (with_reducible refine g_ipI ?_)
  | (with_reducible refine g_test ?_)
  | (with_reducible refine g_tB ?_)
  | (with_reducible refine g_kB ?_)
  | (with_reducible refine g_not ?_)
  | (with_reducible refine g_and ?_)
  | (with_reducible refine g_or ?_)
  | (with_reducible refine g_andV ?_)
  | (with_reducible refine g_orV ?_)
  | (with_reducible refine g_notV ?_)
  | (with_reducible refine g_ifE ?_)
  | (with_reducible refine g_addI ?_)
  | (with_reducible refine g_rI0 ?_)
  | (with_reducible refine g_eqI ?_)
  | (with_reducible refine g_eqS ?_)
  | (with_reducible refine g_neI ?_)
  | (with_reducible refine g_neS ?_)
  | (with_reducible refine g_isN ?_)
  | (with_reducible refine g_notN ?_)
  | (with_reducible refine g_int ?_)
  | (with_reducible refine g_max2 ?_)
  | ((with_reducible refine' g_lenL ?gh ?_); (case gh => walk_at "h"))
  | (with_reducible refine g_sub ?_)
  | (with_reducible refine g_gcons ?_)
  | (with_reducible refine g_gnil ?_)
  | (with_reducible refine g_un ?_)
  | (with_reducible refine g_rU ?_)
  | (with_reducible refine g_forL ?_)
  | (with_reducible refine g_forR1 ?_)
  | (with_reducible refine g_forR2 ?_)
  | (with_reducible refine g_forR3 ?_)
  | (with_reducible refine g_lcL ?_)
  | (with_reducible refine g_lcR1 ?_)
  | (with_reducible refine g_lcR2 ?_)
  | (with_reducible refine g_slice ?_)
  | (with_reducible refine g_part ?_)
  | (with_reducible refine g_kOI ?_)
  | (with_reducible refine g_nopart ?_)
  | (with_reducible refine g_yes ?_)
  | ((with_reducible refine' g_wipe ?gv ?_); (case gv => exact rfl))
  | (with_reducible refine iteT ?_)
  | (with_reducible refine iteF ?_)
  | (with_reducible refine i_nf ?_)
  | (with_reducible refine i_nt ?_)
  | ((with_reducible refine' g_gtup ?gh ?gl ?_); (case gh => walk_at "h"); (case gl => exact rfl))
  | ((with_reducible refine' g_notinI ?gh ?_); (case gh => walk_at "h"))
  | ((with_reducible refine' g_inI ?gh ?_); (case gh => walk_at "h"))
  | ((with_reducible refine' g_kget2 ?gh ?_); (case gh => walk_at "h"))
  | ((with_reducible refine' g_kgotI ?gh ?_); (case gh => walk_at "h"))
  | (with_reducible refine g_tRev ?_)
  | (with_reducible refine g_neB ?_)
  | (with_reducible refine g_eqB ?_)
  | ((with_reducible refine' g_lenT ?gh ?_); (case gh => walk_at "h"))
  | (with_reducible refine g_star ?_)
  | ((with_reducible refine' g_kstarL ?gh ?_); (case gh => walk_at "h"))
  | ((with_reducible refine' g_kstarT ?gh ?_); (case gh => walk_at "h"))
  | (with_reducible refine g_tru ?_)
  | ((with_reducible refine' g_truL ?gh ?_); (case gh => walk_at "h"))
  | (with_reducible refine g_get2 ?_)
  | walk_at "is")
local macro_rules | `(tactic| walk_at "gg") => `(tactic| repeat walk_at "g")
local macro_rules | `(tactic| walk_at "sz") => `(tactic| (refine sz ?_; simp only [List.length_cons, List.length_nil, List.length_map, List.length_append, List.length_replicate]; omega))

theorem g_truB {K : PySem.W.Frag} {H : Hp} {R : Bool → Hp → Prop} {b : Bool} (q : R b H) : kTru K (.bl b) H R := ⟨b, rfl, q⟩
def tl (L : List Str) : PyData := .list (L.map PyData.str)
section
variable {P : Program} {w : World} {K : PySem.W.Frag} {mg : Str → Option Value} {base : Heap}
def sp_l_side (K : PySem.W.Frag) : Sp := fun vs H Q _ => ∃ (a k w_ : Addr) (its : List It1) (f : List Str) (ws : List V), vs = [.ref a, .ref k, .ref w_] ∧ H a = some (.lst ((its.map (·.1)).map V.str)) ∧ H k = some (.lst ((its.map (·.2.1)).map V.bl)) ∧ H w_ = some (.lst ws) ∧ DqAll H ws ((its.map (·.2.2) ++ [f]).map tl) ∧ its.length ≤ 10 ∧ (sd its f).length ≤ 40 ∧
  ∀ p H', Same H H' → H p = none → H' p = some (.lst ((sd its f).map V.str)) → Q (.ref p) H'
theorem sp_l_side_len {vs H Q E} (h : sp_l_side K vs H Q E) : vs.length = 3 := by
  obtain ⟨_, _, _, _, _, _, rfl, _⟩ := h
  rfl
theorem tl_at {H : Hp} {ws : List V} {ns : List (List Str)} {i : Nat} {L : List Str} (h : DqAll H ws (ns.map tl)) (e : ns[i]? = some L) : ∃ q, ws[i]? = some (.ref q) ∧ H q = some (.lst (L.map V.str)) := by
  have hl : ws.length = ns.length := by rw [h.len, List.length_map]
  have hi := (List.getElem?_eq_some_iff.mp e).1
  have hw : ws[i]? = some ws[i] := List.getElem?_eq_getElem (by omega)
  obtain ⟨d, hd, dv⟩ := h.get hw
  rw [List.getElem?_map, e] at hd
  have hd := (Option.some.inj hd).symm
  subst hd
  obtain ⟨q, eq, hq⟩ := Dq.of_strs dv
  exact ⟨q, by rw [hw, eq], hq⟩
theorem ok_l_side (T : Txt K mg) : FnOk P w K mg base CX0 1 T.f_l_side T.fd_l_side ["base", "kept", "new"] (sp_l_side K) := by
  refine T.F_l_side.ok sc_l_side (fun vs H Q E h => sp_l_side_len h) (fun cdv A outer s H vs Q E hr h => ?_)
  refine ⟨_, (pss_cons (ps_set (i := 3) sc_l_side.nd rfl (.inl rfl) (pe_lst pa_nil))
      (pss_cons (ps_for PassesOwn.never rfl (pi_range1 rfl T.m_range (pa_cons (pe_callB (cr_lenK K) (by rfl) T.m_len (by decide +kernel) (pa_cons (pv 0) pa_nil)) pa_nil)) (pg_name (i := 4) sc_l_side.nd rfl (.inl rfl)) (pss_cons (ps_set (i := 3) sc_l_side.nd rfl (.inl rfl) (pe_op (op_addK K) (pv 3) (pe_ix (ix_K K (hu_of hr)) (pv 2) (pv 4) (fun _ _ => rfl))))
      (pss_one (ps_if (pt_tru K (pe_ix (ix_K K (hu_of hr)) (pv 1) (pv 4) (fun _ _ => rfl))) (pss_one (ps_set (i := 3) sc_l_side.nd rfl (.inl rfl) (pe_op (op_addK K) (pv 3) (pe_lst (pa_cons (pe_ix (ix_K K (hu_of hr)) (pv 0) (pv 4) (fun _ _ => rfl)) pa_nil))))) pss_nil))))
      (pss_one (ps_ret (pe_op (op_addK K) (pv 3) (pe_ix (ix_K K (hu_of hr)) (pv 2) (pe_callB (cr_lenK K) (by rfl) T.m_len (by decide +kernel) (pa_cons (pv 0) pa_nil)) (fun _ _ => rfl))))))), ?_⟩
  obtain ⟨a, k, w_, its, f, ws, rfl, ha, hk, hw, dw, li, lS, q⟩ := h
  have hH := Has.start H
  refine g_start (σ' := [some (.ref a), some (.ref k), some (.ref w_), none, none]) rfl ?_
  walk_at "gg"
  refine g_klstF (by walk_at "sz") hH (fun l0 H1 F1 n1 s1 f1 h1 => ?_)
  have ha1 := s1 _ _ ha
  walk_at "gg"
  rw [List.length_map, List.length_map]
  refine k_forR1 (fun t σ H' => ∃ (l : Addr) (F : Hp) (L : List Str) (y4 : Option V), σ = [some (.ref a), some (.ref k), some (.ref w_), some (.ref l), y4] ∧ Same H F ∧ Has F [] H' ∧ F l = some (.lst (L.map V.str)) ∧ L ++ sd (its.drop t) f = sd its f) (by omega) (by omega) ⟨l0, F1, [], _, rfl, s1, h1, f1, rfl⟩ ?_ ?_
  · rintro t σ H2 ht ⟨l, F, L, y4, rfl, sF, h2, fl_, el⟩
    have ht : t < its.length := ht
    have hit : its[t]? = some its[t] := List.getElem?_eq_getElem ht
    generalize its[t] = it at hit
    obtain ⟨b, kb, n⟩ := it
    have edr : its.drop t = (b, kb, n) :: its.drop (t + 1) := by
      rw [List.drop_eq_getElem_cons ht, (List.getElem?_eq_some_iff.mp hit).2]
    rw [edr] at el
    have el : L ++ (n ++ oB kb b ++ sd (its.drop (t + 1)) f) = sd its f := el
    have hL := congrArg List.length el
    rw [List.length_append, List.length_append, List.length_append] at hL
    have ha2 := sF _ _ ha
    have hk2 := sF _ _ hk
    have hw2 := sF _ _ hw
    obtain ⟨q1, hq1, fq1⟩ := tl_at (i := t) (L := n) (dw.up sF _ _) (by rw [List.getElem?_append_left (by rw [List.length_map]; exact ht), List.getElem?_map, hit]; rfl)
    walk_at "gg"
    refine g_ixL (v := .ref q1) (by walk_at "h") (atI_nat hq1) ?_
    walk_at "gg"
    refine g_addL (h2.same _ _ fl_) (h2.same _ _ fq1) (sz (by rw [List.length_map, List.length_map]; omega)) h2 (fun l2 H3 n3 h3 => ?_)
    rw [← List.map_append] at h3
    have s3 := h3.grow
    have f3 : upd F l2 (.lst ((L ++ n).map V.str)) l2 = some (.lst ((L ++ n).map V.str)) := upd_same
    have h3 := h3.frz
    generalize upd F l2 (.lst ((L ++ n).map V.str)) = F3 at s3 f3 h3
    have ha3 := s3 _ _ ha2
    have hk3 := s3 _ _ hk2
    walk_at "gg"
    refine g_ixL (v := .bl kb) (by walk_at "h") (atI_nat (by rw [List.getElem?_map, List.getElem?_map, hit]; rfl)) ?_
    refine g_truB ?_
    refine i_b (fun e => ?_) (fun e => ?_)
    · subst e
      walk_at "gg"
      refine g_ixL (v := .str b) (by walk_at "h") (atI_nat (by rw [List.getElem?_map, List.getElem?_map, hit]; rfl)) ?_
      walk_at "gg"
      refine g_klst (by walk_at "sz") h3 (fun q2 H4 n4 h4 => ?_)
      refine g_addL (h4.same _ _ f3) (h4.get (List.Mem.head _)) (sz (by rw [List.length_map, List.length_append]; show L.length + n.length + 1 ≤ _; omega)) h4 (fun l3 H5 n5 h5 => ?_)
      have e1 : (L ++ n).map V.str ++ [V.str b] = (L ++ n ++ [b]).map V.str := by rw [List.map_append (l₂ := [b])]; rfl
      rw [e1] at h5
      walk_at "gg"
      exact ⟨l3, _, _, _, rfl, sF.trans (s3.trans h5.grow), h5.frz.drop, upd_same, by rw [← el]; simp [oB]⟩
    · subst e
      walk_at "gg"
      exact ⟨l2, _, _, _, rfl, sF.trans s3, h3, f3, by rw [← el]; simp [oB]⟩
  · rintro σ H2 ⟨l, F, L, y4, rfl, sF, h2, fl_, el⟩
    have el : L ++ sd (its.drop its.length) f = sd its f := el
    rw [List.drop_length] at el
    have el : L ++ f = sd its f := el
    have hL := congrArg List.length el
    rw [List.length_append] at hL
    have ha2 := sF _ _ ha
    have hw2 := sF _ _ hw
    obtain ⟨q1, hq1, fq1⟩ := tl_at (i := its.length) (L := f) (dw.up sF _ _) (by rw [List.getElem?_append_right (by rw [List.length_map]; exact Nat.le_refl _), List.length_map, Nat.sub_self]; rfl)
    walk_at "gg"
    rw [List.length_map, List.length_map]
    refine g_ixL (v := .ref q1) (by walk_at "h") (atI_nat hq1) ?_
    refine g_addL (h2.same _ _ fl_) (h2.same _ _ fq1) (sz (by rw [List.length_map, List.length_map]; omega)) h2 (fun l2 H3 n3 h3 => ?_)
    rw [← List.map_append, el] at h3
    exact q l2 H3 (sF.trans h3.same) (sF.free h3.free) (h3.get (List.Mem.head _))
end

end K04

namespace K04
open PySem PySem.Spec PyProof.Rows L2 Qk
local macro_rules | `(tactic| walk_at "m") => `(tactic| ((repeat (first | exact List.Mem.head _ | apply List.Mem.tail)); done))
local macro_rules | `(tactic| walk_at "h") => `(tactic| first | assumption | exact Has.gF (by assumption) (by assumption) | exact Has.get (by assumption) (by walk_at "m"))
local macro_rules | `(tactic| walk_at "c") => `(tactic| ((repeat (first | exact Chg.hd | apply Chg.tl)); done))
local macro_rules | `(tactic| walk_at "is") => `(tactic| first
  | ((with_reducible refine' is2_non ?gh ?_); (case gh => walk_at "h"))
  | (with_reducible refine is_int_list ?_)
  | (with_reducible refine is_int_tuple ?_)
  | (with_reducible refine is_int_dict ?_)
  | (with_reducible refine is_int_int ?_)
  | (with_reducible refine is_int_bool ?_)
  | (with_reducible refine is_int_str ?_)
  | ((with_reducible refine' is2_int ?gh ?_); (case gh => walk_at "h"))
  | (with_reducible refine is_str_list ?_)
  | (with_reducible refine is_str_tuple ?_)
  | (with_reducible refine is_str_dict ?_)
  | (with_reducible refine is_str_int ?_)
  | (with_reducible refine is_str_bool ?_)
  | (with_reducible refine is_str_str ?_)
  | ((with_reducible refine' is2_str ?gh ?_); (case gh => walk_at "h"))
  | (with_reducible refine is_bool_list ?_)
  | (with_reducible refine is_bool_tuple ?_)
  | (with_reducible refine is_bool_dict ?_)
  | (with_reducible refine is_bool_int ?_)
  | (with_reducible refine is_bool_bool ?_)
  | (with_reducible refine is_bool_str ?_)
  | ((with_reducible refine' is2_bool ?gh ?_); (case gh => walk_at "h"))
  | ((with_reducible refine' is_list_list ?gh ?_); (case gh => walk_at "h"))
  | ((with_reducible refine' is_list_tuple ?gh ?_); (case gh => walk_at "h"))
  | ((with_reducible refine' is_list_dict ?gh ?_); (case gh => walk_at "h"))
  | ((with_reducible refine' is_list_int ?gh ?_); (case gh => walk_at "h"))
  | ((with_reducible refine' is_list_bool ?gh ?_); (case gh => walk_at "h"))
  | ((with_reducible refine' is_list_str ?gh ?_); (case gh => walk_at "h"))
  | ((with_reducible refine' is2_list ?ga ?gb ?_); (case ga => walk_at "h"); (case gb => walk_at "h"))
  | ((with_reducible refine' is_tuple_list ?gh ?_); (case gh => walk_at "h"))
  | ((with_reducible refine' is_tuple_tuple ?gh ?_); (case gh => walk_at "h"))
  | ((with_reducible refine' is_tuple_dict ?gh ?_); (case gh => walk_at "h"))
  | ((with_reducible refine' is_tuple_int ?gh ?_); (case gh => walk_at "h"))
  | ((with_reducible refine' is_tuple_bool ?gh ?_); (case gh => walk_at "h"))
  | ((with_reducible refine' is_tuple_str ?gh ?_); (case gh => walk_at "h"))
  | ((with_reducible refine' is2_tuple ?ga ?gb ?_); (case ga => walk_at "h"); (case gb => walk_at "h"))
  | ((with_reducible refine' is_dict_list ?gh ?_); (case gh => walk_at "h"))
  | ((with_reducible refine' is_dict_tuple ?gh ?_); (case gh => walk_at "h"))
  | ((with_reducible refine' is_dict_dict ?gh ?_); (case gh => walk_at "h"))
  | ((with_reducible refine' is_dict_int ?gh ?_); (case gh => walk_at "h"))
  | ((with_reducible refine' is_dict_bool ?gh ?_); (case gh => walk_at "h"))
  | ((with_reducible refine' is_dict_str ?gh ?_); (case gh => walk_at "h"))
  | ((with_reducible refine' is2_dict ?ga ?gb ?_); (case ga => walk_at "h"); (case gb => walk_at "h")))
local macro_rules | `(tactic| walk_at "g") => `(tactic| first
  | (with_reducible refine g_seq ?_)
  | (with_reducible refine g_asg ?_)
  | ((with_reducible refine g_name ?_); dsimp only [List.set, wipe, List.map])
  | ((with_reducible refine' g_var ?gv ?_); (case gv => exact rfl))
  | (with_reducible refine g_c ?_)
  | (with_reducible refine g_op ?_)
  | (with_reducible refine g_cons ?_)
  | (with_reducible refine g_nil ?_)
  | (with_reducible refine g_cb ?_)
  | (with_reducible refine g_call ?_)
  | (with_reducible refine g_tup ?_)
  | (with_reducible refine g_lst ?_)
  | (with_reducible refine g_bm ?_)
  | (with_reducible refine g_bm0 ?_)
  | ((with_reducible refine' g_kbm ?gh ?_); (case gh => walk_at "h"))
  | (with_reducible refine g_drop ?_)
  | (with_reducible refine g_ret ?_)
  | (with_reducible refine g_retN ?_)
  | (with_reducible refine g_next ?_)
  | (with_reducible refine g_brk ?_)
  | (with_reducible refine g_cont ?_)
  | (with_reducible refine g_if ?_)
  | ((with_reducible refine' g_aug ?gv ?_); (case gv => exact rfl))
  | (with_reducible refine g_ipI ?_)
  | (with_reducible refine g_test ?_)
  | (with_reducible refine g_tB ?_)
  | (with_reducible refine g_kB ?_)
  | (with_reducible refine g_not ?_)
  | (with_reducible refine g_and ?_)
  | (with_reducible refine g_or ?_)
  | (with_reducible refine g_andV ?_)
  | (with_reducible refine g_orV ?_)
  | (with_reducible refine g_notV ?_)
  | (with_reducible refine g_ifE ?_)
  | (with_reducible refine g_addI ?_)
  | (with_reducible refine g_rI0 ?_)
  | (with_reducible refine g_eqI ?_)
  | (with_reducible refine g_eqS ?_)
  | (with_reducible refine g_neI ?_)
  | (with_reducible refine g_neS ?_)
  | (with_reducible refine g_isN ?_)
  | (with_reducible refine g_notN ?_)
  | (with_reducible refine g_int ?_)
  | (with_reducible refine g_max2 ?_)
  | ((with_reducible refine' g_lenL ?gh ?_); (case gh => walk_at "h"))
  | (with_reducible refine g_sub ?_)
  | (with_reducible refine g_gcons ?_)
  | (with_reducible refine g_gnil ?_)
  | (with_reducible refine g_un ?_)
  | (with_reducible refine g_rU ?_)
  | (with_reducible refine g_forL ?_)
  | (with_reducible refine g_forR1 ?_)
  | (with_reducible refine g_forR2 ?_)
  | (with_reducible refine g_forR3 ?_)
  | (with_reducible refine g_lcL ?_)
  | (with_reducible refine g_lcR1 ?_)
  | (with_reducible refine g_lcR2 ?_)
  | (with_reducible refine g_slice ?_)
  | (with_reducible refine g_part ?_)
  | (with_reducible refine g_kOI ?_)
  | (with_reducible refine g_nopart ?_)
  | (with_reducible refine g_yes ?_)
  | ((with_reducible refine' g_wipe ?gv ?_); (case gv => exact rfl))
  | (with_reducible refine iteT ?_)
  | (with_reducible refine iteF ?_)
  | (with_reducible refine i_nf ?_)
  | (with_reducible refine i_nt ?_)
  | ((with_reducible refine' g_gtup ?gh ?gl ?_); (case gh => walk_at "h"); (case gl => exact rfl))
  | ((with_reducible refine' g_notinI ?gh ?_); (case gh => walk_at "h"))
  | ((with_reducible refine' g_inI ?gh ?_); (case gh => walk_at "h"))
  | ((with_reducible refine' g_kget2 ?gh ?_); (case gh => walk_at "h"))
  | ((with_reducible refine' g_kgotI ?gh ?_); (case gh => walk_at "h"))
  | (with_reducible refine g_tRev ?_)
  | (with_reducible refine g_neB ?_)
  | (with_reducible refine g_eqB ?_)
  | ((with_reducible refine' g_lenT ?gh ?_); (case gh => walk_at "h"))
  | (with_reducible refine g_star ?_)
  | ((with_reducible refine' g_kstarL ?gh ?_); (case gh => walk_at "h"))
  | ((with_reducible refine' g_kstarT ?gh ?_); (case gh => walk_at "h"))
  | (with_reducible refine g_tru ?_)
  | ((with_reducible refine' g_truL ?gh ?_); (case gh => walk_at "h"))
  | (with_reducible refine g_get2 ?_)
  | walk_at "is")
local macro_rules | `(tactic| walk_at "gg") => `(tactic| repeat walk_at "g")
local macro_rules | `(tactic| walk_at "sz") => `(tactic| (refine sz ?_; simp only [List.length_cons, List.length_nil, List.length_map, List.length_append, List.length_replicate]; omega))

/-! ### the law's own merge -/
def Rem (f1 f2 : List Str) (its : List It2) (t : Nat) (p0 p1 p2 : List Str) : List Str × Nat := if t ≤ its.length then LW f1 f2 (its.drop t) p0 p1 p2 else ([], 0)
def both (its : List It2) (t : Nat) : Prop := ∃ it, its[t]? = some it ∧ (it.2.1.1 && it.2.2.1) = false
theorem rem_then {f1 f2 p0 p1 p2 : List Str} {its : List It2} {t : Nat} {it : It2} (h : its[t]? = some it) (hb : (it.2.1.1 && it.2.2.1) = false) : Rem f1 f2 its t p0 p1 p2 = Rem f1 f2 its (t + 1) (p0 ++ [it.1]) (p1 ++ it.2.1.2 ++ oB it.2.1.1 it.1) (p2 ++ it.2.2.2 ++ oB it.2.2.1 it.1) := by
  have ht := (List.getElem?_eq_some_iff.mp h).1
  unfold Rem
  rw [if_pos (by omega), if_pos (by omega), List.drop_eq_getElem_cons ht, (List.getElem?_eq_some_iff.mp h).2]
  obtain ⟨b, ⟨k1, n1⟩, k2, n2⟩ := it
  have hb : (k1 && k2) = false := hb
  rw [LW, if_neg (by rw [hb]; exact Bool.false_ne_true)]
theorem rem_else {f1 f2 p0 p1 p2 L1 L2 : List Str} {its : List It2} {t : Nat} (ht : t ≤ its.length) (h1 : (its.map (·.2.1.2) ++ [f1])[t]? = some L1) (h2 : (its.map (·.2.2.2) ++ [f2])[t]? = some L2) (hb : ¬ both its t) :
    Rem f1 f2 its t p0 p1 p2 = ((dec p0 (p1 ++ L1) (p2 ++ L2)).1 ++ (((its.map (·.1)).drop t).take 1 ++ (Rem f1 f2 its (t + 1) [] [] []).1), (dec p0 (p1 ++ L1) (p2 ++ L2)).2 + (Rem f1 f2 its (t + 1) [] [] []).2) := by
  unfold Rem
  rw [if_pos ht]
  rcases Nat.lt_or_ge t its.length with hlt | hge
  · have hit : its[t]? = some its[t] := List.getElem?_eq_getElem hlt
    rw [if_pos (by omega), List.drop_eq_getElem_cons hlt, ← List.map_drop, List.drop_eq_getElem_cons hlt]
    rw [List.getElem?_append_left (by rw [List.length_map]; exact hlt), List.getElem?_map, hit] at h1 h2
    generalize its[t] = it at *
    obtain ⟨b, ⟨k1, n1⟩, k2, n2⟩ := it
    have h1 : n1 = L1 := Option.some.inj h1
    have h2 : n2 = L2 := Option.some.inj h2
    subst h1 h2
    have hk : (k1 && k2) = true := by
      cases e : (k1 && k2) with
      | true => rfl
      | false => exact (hb ⟨_, hit, e⟩).elim
    rw [LW, if_pos hk]
    rfl
  · have e : t = its.length := by omega
    subst e
    rw [if_neg (by omega), List.drop_length]
    rw [List.getElem?_append_right (by rw [List.length_map]; exact Nat.le_refl _), List.length_map, Nat.sub_self] at h1 h2
    have h1 : f1 = L1 := Option.some.inj h1
    have h2 : f2 = L2 := Option.some.inj h2
    subst h1 h2
    rw [LW, List.drop_of_length_le (by rw [List.length_map]; exact Nat.le_refl _)]
    simp
theorem dec_ok {b x y : List Str} {k1 k2 k3 : Nat} (h1 : b.length ≤ k1) (h2 : x.length ≤ k2) (h3 : y.length ≤ k3) : (dec b x y).1.length ≤ k1 + k2 + k3 + 4 := by
  unfold dec
  split
  · show x.length ≤ _; omega
  · split
    · show x.length ≤ _; omega
    · split
      · show y.length ≤ _; omega
      · show (clash b x y).length ≤ _
        unfold clash
        simp only [List.length_cons, List.length_append, List.length_nil]
        omega
theorem okL_nil : okL [] := fun x hx => by cases hx
theorem okL_app {x y : List Str} (h1 : okL x) (h2 : okL y) : okL (x ++ y) := fun z hz => by
  rcases List.mem_append.mp hz with hz | hz
  · exact h1 z hz
  · exact h2 z hz
theorem cut1 (B : List Str) (m : Nat) : cut B m (m + 1) = (B.drop m).take 1 := by
  unfold cut
  rw [show m + 1 - m = 1 by omega]
section
variable {P : Program} {w : World} {K : PySem.W.Frag} {mg : Str → Option Value} {base : Heap}
def sp_l_merged (K : PySem.W.Frag) : Sp := fun vs H Q _ => ∃ (a kp nw k1 k2 w1 w2 : Addr) (its : List It2) (f1 f2 : List Str) (ws1 ws2 : List V), vs = [.ref a, .ref kp, .ref nw] ∧ H a = some (.lst ((its.map (·.1)).map V.str)) ∧ H kp = some (.lst [.ref k1, .ref k2]) ∧ H nw = some (.lst [.ref w1, .ref w2]) ∧
  H k1 = some (.lst ((its.map (·.2.1.1)).map V.bl)) ∧ H k2 = some (.lst ((its.map (·.2.2.1)).map V.bl)) ∧ H w1 = some (.lst ws1) ∧ H w2 = some (.lst ws2) ∧ DqAll H ws1 ((its.map (·.2.1.2) ++ [f1]).map tl) ∧ DqAll H ws2 ((its.map (·.2.2.2) ++ [f2]).map tl) ∧ its.length ≤ 10 ∧
  (∀ x ∈ its.map (·.1), PyData.strOk x = true) ∧ (∀ L ∈ its.map (·.2.1.2) ++ [f1], L.length ≤ 2 ∧ okL L) ∧ (∀ L ∈ its.map (·.2.2.2) ++ [f2], L.length ≤ 2 ∧ okL L) ∧
  ∀ p H', Same H H' → Dq H' (.ref p) (mD (LW f1 f2 its [] [] [])) → Q (.ref p) H'
theorem sp_l_merged_len {vs H Q E} (h : sp_l_merged K vs H Q E) : vs.length = 3 := by
  obtain ⟨_, _, _, _, _, _, _, _, _, _, _, _, rfl, _⟩ := h
  rfl
theorem ok_l_merged (T : Txt K mg) : FnOk P w K mg base CX0 2 T.f_l_merged T.fd_l_merged ["base", "kept", "new"] (sp_l_merged K) := by
  refine T.F_l_merged.ok sc_l_merged (fun vs H Q E h => sp_l_merged_len h) (fun cdv A outer s H vs Q E hr h => ?_)
  refine ⟨_, (pss_cons (ps_set (i := 3) sc_l_merged.nd rfl (.inl rfl) (pe_lst pa_nil))
      (pss_cons (ps_set (i := 4) sc_l_merged.nd rfl (.inl rfl) pe_int)
      (pss_cons (ps_set (i := 5) sc_l_merged.nd rfl (.inl rfl) (pe_lst (pa_cons (pe_lst pa_nil) (pa_cons (pe_lst pa_nil) (pa_cons (pe_lst pa_nil) pa_nil)))))
      (pss_cons (ps_for PassesOwn.never rfl (pi_range1 rfl T.m_range (pa_cons (pe_op (op_addK K) (pe_callB (cr_lenK K) (by rfl) T.m_len (by decide +kernel) (pa_cons (pv 0) pa_nil)) pe_int) pa_nil)) (pg_name (i := 6) sc_l_merged.nd rfl (.inl rfl)) (pss_cons (ps_asg (pe_op (op_addK K) (pe_ix (ix_K K (hu_of hr)) (pv 5) pe_int (fun _ _ => rfl)) (pe_ix (ix_K K (hu_of hr)) (pe_ix (ix_K K (hu_of hr)) (pv 2) pe_int (fun _ _ => rfl)) (pv 6) (fun _ _ => rfl))) (pg_sub (pv 5) pe_int (set_any (hu_of hr))))
      (pss_cons (ps_asg (pe_op (op_addK K) (pe_ix (ix_K K (hu_of hr)) (pv 5) pe_int (fun _ _ => rfl)) (pe_ix (ix_K K (hu_of hr)) (pe_ix (ix_K K (hu_of hr)) (pv 2) pe_int (fun _ _ => rfl)) (pv 6) (fun _ _ => rfl))) (pg_sub (pv 5) pe_int (set_any (hu_of hr))))
      (pss_one (ps_if (PW.pt (pw_and (pt_cmpR op_lt (pv 6) (pe_callB (cr_lenK K) (by rfl) T.m_len (by decide +kernel) (pa_cons (pv 0) pa_nil)) (nomark _)) (pw_and1 (pt_not (PW.pt (pw_and (pt_tru K (pe_ix (ix_K K (hu_of hr)) (pe_ix (ix_K K (hu_of hr)) (pv 1) pe_int (fun _ _ => rfl)) (pv 6) (fun _ _ => rfl))) (pw_and1 (pt_tru K (pe_ix (ix_K K (hu_of hr)) (pe_ix (ix_K K (hu_of hr)) (pv 1) pe_int (fun _ _ => rfl)) (pv 6) (fun _ _ => rfl)))))))))) (pss_cons (ps_asg (pe_op (op_addK K) (pe_ix (ix_K K (hu_of hr)) (pv 5) pe_int (fun _ _ => rfl)) (pe_lst (pa_cons (pe_ix (ix_K K (hu_of hr)) (pv 0) (pv 6) (fun _ _ => rfl)) pa_nil))) (pg_sub (pv 5) pe_int (set_any (hu_of hr))))
      (pss_one (ps_for PassesOwn.never rfl (pi_range1 rfl T.m_range (pa_cons pe_int pa_nil)) (pg_name (i := 7) sc_l_merged.nd rfl (.inl rfl)) (pss_one (ps_if (pt_tru K (pe_ix (ix_K K (hu_of hr)) (pe_ix (ix_K K (hu_of hr)) (pv 1) (pv 7) (fun _ _ => rfl)) (pv 6) (fun _ _ => rfl))) (pss_one (ps_asg (pe_op (op_addK K) (pe_ix (ix_K K (hu_of hr)) (pv 5) (pe_op (op_addK K) (pv 7) pe_int) (fun _ _ => rfl)) (pe_lst (pa_cons (pe_ix (ix_K K (hu_of hr)) (pv 0) (pv 6) (fun _ _ => rfl)) pa_nil))) (pg_sub (pv 5) (pe_op (op_addK K) (pv 7) pe_int) (set_any (hu_of hr))))) pss_nil))))) (pss_cons (ps_set (i := 8) sc_l_merged.nd rfl (.inl rfl) (pe_call (ok_l_decided T) (hr.mono (by decide)) (by rfl) T.g_l_decided T.F_l_decided.kp T.b_l_decided .nil pass0 (pa_cons (pe_ix (ix_K K (hu_of hr)) (pv 5) pe_int (fun _ _ => rfl)) (pa_cons (pe_ix (ix_K K (hu_of hr)) (pv 5) pe_int (fun _ _ => rfl)) (pa_cons (pe_ix (ix_K K (hu_of hr)) (pv 5) pe_int (fun _ _ => rfl)) pa_nil)))))
      (pss_cons (ps_set (i := 3) sc_l_merged.nd rfl (.inl rfl) (pe_op (op_addK K) (pe_op (op_addK K) (pv 3) (pe_ix (ix_K K (hu_of hr)) (pv 8) pe_int (fun _ _ => rfl))) (pe_slice (sl_K K) (pv 0) (po_some (pv 6)) (po_some (pe_op (op_addK K) (pv 6) pe_int)))))
      (pss_cons (ps_set (i := 4) sc_l_merged.nd rfl (.inl rfl) (pe_op (op_addK K) (pv 4) (pe_ix (ix_K K (hu_of hr)) (pv 8) pe_int (fun _ _ => rfl))))
      (pss_one (ps_set (i := 5) sc_l_merged.nd rfl (.inl rfl) (pe_lst (pa_cons (pe_lst pa_nil) (pa_cons (pe_lst pa_nil) (pa_cons (pe_lst pa_nil) pa_nil))))))))))))))
      (pss_one (ps_ret (pe_tup (pa_cons (pv 3) (pa_cons (pv 4) pa_nil))))))))), ?_⟩
  obtain ⟨a, kp, nw, k1, k2, w1, w2, its, f1, f2, ws1, ws2, rfl, ha, hkp, hnw, hk1, hk2, hw1, hw2, dw1, dw2, li, okB, ok1, ok2, q⟩ := h
  have hH := Has.start H
  refine g_start (σ' := [some (.ref a), some (.ref kp), some (.ref nw), none, none, none, none, none, none]) rfl ?_
  walk_at "gg"
  refine g_klstF (by walk_at "sz") hH (fun l0 H1 F1 n1 s1 fl0 h1 => ?_)
  walk_at "gg"
  refine g_klstF (by walk_at "sz") h1 (fun a0 H2 F2 n2 s2 fa0 h2 => ?_)
  walk_at "gg"
  refine g_klstF (by walk_at "sz") h2 (fun a1 H3 F3 n3 s3 fa1 h3 => ?_)
  walk_at "gg"
  refine g_klstF (by walk_at "sz") h3 (fun a2 H4 F4 n4 s4 fa2 h4 => ?_)
  walk_at "gg"
  refine g_klst (by walk_at "sz") h4 (fun pt0 H5 n5 h5 => ?_)
  have s14 := s1.trans (s2.trans (s3.trans s4))
  have ha4 := s14 _ _ ha
  walk_at "gg"
  rw [List.length_map, List.length_map]
  refine k_forR1 (fun t σ H' => ∃ (L p0 p1 p2 : List Str) (c : Nat) (l pt q0 q1 q2 : Addr) (F : Hp) (y6 y7 y8 : Option V), σ = [some (.ref a), some (.ref kp), some (.ref nw), some (.ref l), some (.int (c : Int)), some (.ref pt), y6, y7, y8] ∧ Same H F ∧ Has F [(pt, .lst [.ref q0, .ref q1, .ref q2])] H' ∧
    F l = some (.lst (L.map V.str)) ∧ F q0 = some (.lst (p0.map V.str)) ∧ F q1 = some (.lst (p1.map V.str)) ∧ F q2 = some (.lst (p2.map V.str)) ∧ (L ++ (Rem f1 f2 its t p0 p1 p2).1, c + (Rem f1 f2 its t p0 p1 p2).2) = LW f1 f2 its [] [] [] ∧
    p0.length ≤ t ∧ p1.length ≤ 3 * t ∧ p2.length ≤ 3 * t ∧ L.length ≤ 100 * t ∧ okL p0 ∧ okL p1 ∧ okL p2) (by omega) (by omega)
    ⟨[], [], [], [], 0, l0, pt0, a0, a1, a2, F4, _, _, _, rfl, s14, h5, s4 _ _ (s3 _ _ (s2 _ _ fl0)), s4 _ _ (s3 _ _ fa0), s4 _ _ fa1, fa2, by unfold Rem; rw [if_pos (Nat.zero_le _)]; simp, Nat.le_refl _, Nat.le_refl _, Nat.le_refl _, Nat.le_refl _, okL_nil, okL_nil, okL_nil⟩ ?_ ?_
  · rintro t σ H6 ht ⟨L, p0, p1, p2, c, l, pt, q0, q1, q2, F, y6, y7, y8, rfl, sF, h6, fl_, fq0, fq1, fq2, eR, b0, b1, b2, bL, o0, o1, o2⟩
    have ht : t ≤ its.length := by omega
    have hN1 : t < (its.map (·.2.1.2) ++ [f1]).length := by rw [List.length_append, List.length_map]; show t < its.length + 1; omega
    have hN2 : t < (its.map (·.2.2.2) ++ [f2]).length := by rw [List.length_append, List.length_map]; show t < its.length + 1; omega
    have eN1 := List.getElem?_eq_getElem hN1
    have eN2 := List.getElem?_eq_getElem hN2
    generalize (its.map (·.2.1.2) ++ [f1])[t] = L1 at eN1
    generalize (its.map (·.2.2.2) ++ [f2])[t] = L2 at eN2
    obtain ⟨m1, oL1⟩ := ok1 L1 (List.mem_of_getElem? eN1)
    obtain ⟨m2, oL2⟩ := ok2 L2 (List.mem_of_getElem? eN2)
    obtain ⟨r1, hr1, fr1⟩ := tl_at dw1 eN1
    obtain ⟨r2, hr2, fr2⟩ := tl_at dw2 eN2
    have ha6 := sF _ _ ha
    have hkp6 := sF _ _ hkp
    have hnw6 := sF _ _ hnw
    have hk16 := sF _ _ hk1
    have hk26 := sF _ _ hk2
    have hw16 := sF _ _ hw1
    have hw26 := sF _ _ hw2
    have fr1 := sF _ _ fr1
    have fr2 := sF _ _ fr2
    walk_at "gg"
    refine g_ixL (v := .ref q1) (by walk_at "h") (atI_nat (j := 1) rfl) ?_
    walk_at "gg"
    refine g_ixL (v := .ref w1) (by walk_at "h") (atI_nat (j := 0) rfl) ?_
    walk_at "gg"
    refine g_ixL (v := .ref r1) (by walk_at "h") (atI_nat hr1) ?_
    refine g_addL (h6.same _ _ fq1) (h6.same _ _ fr1) (sz (by rw [List.length_map, List.length_map]; omega)) h6 (fun u1 H7 n7 h7 => ?_)
    rw [← List.map_append] at h7
    have g7 := h7.grow
    have fu1 : upd F u1 (.lst ((p1 ++ L1).map V.str)) u1 = some (.lst ((p1 ++ L1).map V.str)) := upd_same
    have h7 := h7.frz
    generalize upd F u1 (.lst ((p1 ++ L1).map V.str)) = F7 at g7 fu1 h7
    have hnw7 := g7 _ _ hnw6
    have hw27 := g7 _ _ hw26
    have fq2 := g7 _ _ fq2
    have fr2 := g7 _ _ fr2
    walk_at "gg"
    refine g_stL (j := 1) h7 (by walk_at "c") rfl (fun H8 h8 => ?_)
    have h8 : Has F7 [(pt, .lst [.ref q0, .ref u1, .ref q2])] H8 := h8
    walk_at "gg"
    refine g_ixL (v := .ref q2) (by walk_at "h") (atI_nat (j := 2) rfl) ?_
    walk_at "gg"
    refine g_ixL (v := .ref w2) (by walk_at "h") (atI_nat (j := 1) rfl) ?_
    walk_at "gg"
    refine g_ixL (v := .ref r2) (by walk_at "h") (atI_nat hr2) ?_
    refine g_addL (h8.same _ _ fq2) (h8.same _ _ fr2) (sz (by rw [List.length_map, List.length_map]; omega)) h8 (fun u2 H9 n9 h9 => ?_)
    rw [← List.map_append] at h9
    have g9 := h9.grow
    have fu2 : upd F7 u2 (.lst ((p2 ++ L2).map V.str)) u2 = some (.lst ((p2 ++ L2).map V.str)) := upd_same
    have h9 := h9.frz
    generalize upd F7 u2 (.lst ((p2 ++ L2).map V.str)) = F9 at g9 fu2 h9
    have g79 := g7.trans g9
    have fu1 := g9 _ _ fu1
    have fq0 := g79 _ _ fq0
    have fl9 := g79 _ _ fl_
    have ha9 := g79 _ _ ha6
    have hkp9 := g79 _ _ hkp6
    have hk19 := g79 _ _ hk16
    have hk29 := g79 _ _ hk26
    walk_at "gg"
    refine g_stL (j := 2) h9 (by walk_at "c") rfl (fun H10 h10 => ?_)
    have h10 : Has F9 [(pt, .lst [.ref q0, .ref u1, .ref u2])] H10 := h10
    have ok1' := okL_app o1 oL1
    have ok2' := okL_app o2 oL2
    walk_at "g"
    refine g_fact (fun k => k = true ↔ both its t) (fun R r => ?_) (fun k hk => ?_)
    · walk_at "gg"
      rw [List.length_map, List.length_map]
      refine i_d (fun hlt => ?_) (fun hge => r _ ⟨fun z => (Bool.false_ne_true z).elim, fun ⟨it, hit, _⟩ => by have := (List.getElem?_eq_some_iff.mp hit).1; omega⟩)
      have hlt : t < its.length := by omega
      have hit : its[t]? = some its[t] := List.getElem?_eq_getElem hlt
      generalize its[t] = it at hit
      walk_at "gg"
      refine g_ixL (v := .ref k1) (by walk_at "h") (atI_nat (j := 0) rfl) ?_
      walk_at "gg"
      refine g_ixL (v := .bl it.2.1.1) (by walk_at "h") (atI_nat (by rw [List.getElem?_map, List.getElem?_map, hit]; rfl)) ?_
      refine g_truB ?_
      refine i_b (fun e1 => ?_) (fun e1 => ?_)
      · walk_at "gg"
        refine g_ixL (v := .ref k2) (by walk_at "h") (atI_nat (j := 1) rfl) ?_
        walk_at "gg"
        refine g_ixL (v := .bl it.2.2.1) (by walk_at "h") (atI_nat (by rw [List.getElem?_map, List.getElem?_map, hit]; rfl)) ?_
        refine g_truB ?_
        refine r _ ⟨fun z => ⟨it, hit, ?_⟩, fun ⟨it2, h2, hb⟩ => ?_⟩
        · rw [e1]
          cases e2 : it.2.2.1 with
          | false => rfl
          | true => rw [e2] at z; cases z
        · have e3 := Option.some.inj (hit.symm.trans h2)
          subst e3
          rw [e1, Bool.true_and] at hb
          rw [hb]
          rfl
      · refine r _ ⟨fun z => ⟨it, hit, by rw [e1]; rfl⟩, fun _ => rfl⟩
    cases k with
    | true =>
      obtain ⟨it, hit, hb⟩ := hk.mp rfl
      have hlt := (List.getElem?_eq_some_iff.mp hit).1
      rw [rem_then hit hb] at eR
      obtain ⟨b, ⟨kb1, nn1⟩, kb2, nn2⟩ := it
      have en1 : nn1 = L1 := by
        rw [List.getElem?_append_left (by rw [List.length_map]; exact hlt), List.getElem?_map, hit] at eN1
        exact Option.some.inj eN1
      have en2 : nn2 = L2 := by
        rw [List.getElem?_append_left (by rw [List.length_map]; exact hlt), List.getElem?_map, hit] at eN2
        exact Option.some.inj eN2
      subst en1 en2
      have okb : PyData.strOk b = true := okB b (List.mem_map.mpr ⟨_, List.mem_of_getElem? hit, rfl⟩)
      have okbs : okL [b] := fun x hx => by rw [List.mem_singleton.mp hx]; exact okb
      have hBt : (its.map (·.1))[t]? = some b := by rw [List.getElem?_map, hit]; rfl
      walk_at "gg"
      refine g_ixL (v := .ref q0) (by walk_at "h") (atI_nat (j := 0) rfl) ?_
      walk_at "gg"
      refine g_ixL (v := .str b) (by walk_at "h") (atI_nat (by rw [List.getElem?_map, hBt]; rfl)) ?_
      walk_at "gg"
      refine g_klst (by walk_at "sz") h10 (fun x1 H11 n11 h11 => ?_)
      refine g_addL (h11.same _ _ fq0) (h11.get (List.Mem.head _)) (sz (by rw [List.length_map]; show p0.length + 1 ≤ _; omega)) h11 (fun u0 H12 n12 h12 => ?_)
      have e1 : p0.map V.str ++ [V.str b] = (p0 ++ [b]).map V.str := by rw [List.map_append]; rfl
      rw [e1] at h12
      have g12 := h12.grow
      have fu0 : upd F9 u0 (.lst ((p0 ++ [b]).map V.str)) u0 = some (.lst ((p0 ++ [b]).map V.str)) := upd_same
      have h12 := h12.frz.drop
      generalize upd F9 u0 (.lst ((p0 ++ [b]).map V.str)) = F12 at g12 fu0 h12
      have fu1 := g12 _ _ fu1
      have fu2 := g12 _ _ fu2
      have fl12 := g12 _ _ fl9
      have ha12 := g12 _ _ ha9
      have hkp12 := g12 _ _ hkp9
      have hk112 := g12 _ _ hk19
      have hk212 := g12 _ _ hk29
      walk_at "gg"
      refine g_stL (j := 0) h12 (by walk_at "c") rfl (fun H13 h13 => ?_)
      have h13 : Has F12 [(pt, .lst [.ref u0, .ref u1, .ref u2])] H13 := h13
      walk_at "gg"
      refine k_forR1 (fun u σ H' => ∃ (F' : Hp) (v1 v2 : Addr) (y7 : Option V), σ = [some (.ref a), some (.ref kp), some (.ref nw), some (.ref l), some (.int (c : Int)), some (.ref pt), some (.int (t : Int)), y7, y8] ∧ Same F12 F' ∧ Has F' [(pt, .lst [.ref u0, .ref v1, .ref v2])] H' ∧
        F' v1 = some (.lst ((p1 ++ nn1 ++ (if 1 ≤ u then oB kb1 b else [])).map V.str)) ∧ F' v2 = some (.lst ((p2 ++ nn2 ++ (if 2 ≤ u then oB kb2 b else [])).map V.str))) (by decide) (by decide) ⟨F12, u1, u2, _, rfl, Same.refl _, h13, by simpa using fu1, by simpa using fu2⟩ ?_ ?_
      · rintro u σ H14 hu ⟨F', v1, v2, y7, rfl, s14', h14, fv1, fv2⟩
        have hu : u < 2 := hu
        have ha14 := s14' _ _ ha12
        have hkp14 := s14' _ _ hkp12
        have hk114 := s14' _ _ hk112
        have hk214 := s14' _ _ hk212
        have hu2 : u = 0 ∨ u = 1 := by omega
        rcases hu2 with rfl | rfl
        · rw [if_neg (by decide), List.append_nil] at fv1
          rw [if_neg (by decide), List.append_nil] at fv2
          walk_at "gg"
          refine g_ixL (v := .ref k1) (by walk_at "h") (atI_nat (j := 0) rfl) ?_
          walk_at "gg"
          refine g_ixL (v := .bl kb1) (by walk_at "h") (atI_nat (by rw [List.getElem?_map, List.getElem?_map, hit]; rfl)) ?_
          refine g_truB ?_
          refine i_b (fun e => ?_) (fun e => ?_)
          · subst e
            walk_at "gg"
            refine g_ixL (v := .ref v1) (by walk_at "h") (atI_nat (j := 1) rfl) ?_
            walk_at "gg"
            refine g_ixL (v := .str b) (by walk_at "h") (atI_nat (by rw [List.getElem?_map, hBt]; rfl)) ?_
            walk_at "gg"
            refine g_klst (by walk_at "sz") h14 (fun x1 H15 n15 h15 => ?_)
            refine g_addL (h15.same _ _ fv1) (h15.get (List.Mem.head _)) (sz (by rw [List.length_map, List.length_append]; show p1.length + nn1.length + 1 ≤ _; omega)) h15 (fun z1 H16 n16 h16 => ?_)
            have e1 : (p1 ++ nn1).map V.str ++ [V.str b] = (p1 ++ nn1 ++ [b]).map V.str := by rw [List.map_append (l₂ := [b])]; rfl
            rw [e1] at h16
            have g16 := h16.grow
            have fz : upd F' z1 (.lst ((p1 ++ nn1 ++ [b]).map V.str)) z1 = some (.lst ((p1 ++ nn1 ++ [b]).map V.str)) := upd_same
            have h16 := h16.frz.drop
            walk_at "gg"
            refine g_stL (j := 1) h16 (by walk_at "c") rfl (fun H17 h17 => ?_)
            walk_at "gg"
            exact ⟨_, z1, v2, _, rfl, s14'.trans g16, h17, fz, by rw [if_neg (by decide), List.append_nil]; exact g16 _ _ fv2⟩
          · subst e
            walk_at "gg"
            exact ⟨F', v1, v2, _, rfl, s14', h14, by simpa [oB] using fv1, by rw [if_neg (by decide), List.append_nil]; exact fv2⟩
        · rw [if_pos (by decide)] at fv1
          rw [if_neg (by decide), List.append_nil] at fv2
          walk_at "gg"
          refine g_ixL (v := .ref k2) (by walk_at "h") (atI_nat (j := 1) rfl) ?_
          walk_at "gg"
          refine g_ixL (v := .bl kb2) (by walk_at "h") (atI_nat (by rw [List.getElem?_map, List.getElem?_map, hit]; rfl)) ?_
          refine g_truB ?_
          refine i_b (fun e => ?_) (fun e => ?_)
          · subst e
            walk_at "gg"
            refine g_ixL (v := .ref v2) (by walk_at "h") (atI_nat (j := 2) rfl) ?_
            walk_at "gg"
            refine g_ixL (v := .str b) (by walk_at "h") (atI_nat (by rw [List.getElem?_map, hBt]; rfl)) ?_
            walk_at "gg"
            refine g_klst (by walk_at "sz") h14 (fun x1 H15 n15 h15 => ?_)
            refine g_addL (h15.same _ _ fv2) (h15.get (List.Mem.head _)) (sz (by rw [List.length_map, List.length_append]; show p2.length + nn2.length + 1 ≤ _; omega)) h15 (fun z1 H16 n16 h16 => ?_)
            have e1 : (p2 ++ nn2).map V.str ++ [V.str b] = (p2 ++ nn2 ++ [b]).map V.str := by rw [List.map_append (l₂ := [b])]; rfl
            rw [e1] at h16
            have g16 := h16.grow
            have fz : upd F' z1 (.lst ((p2 ++ nn2 ++ [b]).map V.str)) z1 = some (.lst ((p2 ++ nn2 ++ [b]).map V.str)) := upd_same
            have h16 := h16.frz.drop
            walk_at "gg"
            refine g_stL (j := 2) h16 (by walk_at "c") rfl (fun H17 h17 => ?_)
            walk_at "gg"
            exact ⟨_, v1, z1, _, rfl, s14'.trans g16, h17, by rw [if_pos (by decide)]; exact g16 _ _ fv1, fz⟩
          · subst e
            walk_at "gg"
            exact ⟨F', v1, v2, _, rfl, s14', h14, by rw [if_pos (by decide)]; exact fv1, by simpa [oB] using fv2⟩
      · rintro σ H14 ⟨F', v1, v2, y7, rfl, s14', h14, fv1, fv2⟩
        have fv1 : F' v1 = some (.lst ((p1 ++ nn1 ++ oB kb1 b).map V.str)) := fv1
        have fv2 : F' v2 = some (.lst ((p2 ++ nn2 ++ oB kb2 b).map V.str)) := fv2
        have hob : ∀ k : Bool, (oB k b).length ≤ 1 ∧ okL (oB k b) := fun k => by
          cases k with
          | true => exact ⟨Nat.le_refl _, okbs⟩
          | false => exact ⟨Nat.zero_le _, fun x hx => by cases hx⟩
        have hob1 := hob kb1
        have hob2 := hob kb2
        refine ⟨L, p0 ++ [b], p1 ++ nn1 ++ oB kb1 b, p2 ++ nn2 ++ oB kb2 b, c, l, pt, u0, v1, v2, F', _, _, _, rfl, sF.trans (g79.trans (g12.trans s14')), h14, s14' _ _ fl12, s14' _ _ fu0, fv1, fv2, eR, ?_, ?_, ?_, by omega, okL_app o0 okbs, okL_app ok1' hob1.2, okL_app ok2' hob2.2⟩
        · rw [List.length_append]; show p0.length + 1 ≤ _; omega
        · rw [List.length_append, List.length_append]; omega
        · rw [List.length_append, List.length_append]; omega
    | false =>
      have nb : ¬ both its t := fun z => Bool.false_ne_true (hk.mpr z)
      rw [rem_else ht eN1 eN2 nb] at eR
      have lp1 : (p1 ++ L1).length ≤ 3 * t + 2 := by rw [List.length_append]; omega
      have lp2 : (p2 ++ L2).length ≤ 3 * t + 2 := by rw [List.length_append]; omega
      have ldec := dec_ok b0 lp1 lp2
      have t1 : (((its.map (·.1)).drop t).take 1).length ≤ 1 := by rw [List.length_take]; omega
      walk_at "gg"
      refine g_ixL (v := .ref q0) (by walk_at "h") (atI_nat (j := 0) rfl) ?_
      walk_at "gg"
      refine g_ixL (v := .ref u1) (by walk_at "h") (atI_nat (j := 1) rfl) ?_
      walk_at "gg"
      refine g_ixL (v := .ref u2) (by walk_at "h") (atI_nat (j := 2) rfl) ?_
      walk_at "gg"
      refine ⟨q0, u1, u2, p0, p1 ++ L1, p2 ++ L2, rfl, by walk_at "h", by walk_at "h", by walk_at "h", by omega, by omega, by omega, o0, ok1', ok2', fun pd ld H11 s11 hpd hld => ?_⟩
      have sA := h10.same.trans s11
      have h11 := Has.start H11
      have fl11 := sA _ _ fl9
      have ha11 := sA _ _ ha9
      generalize dec p0 (p1 ++ L1) (p2 ++ L2) = dc at eR ldec hpd hld
      walk_at "gg"
      refine g_ixT (v := .ref ld) (by walk_at "h") (atI_nat (j := 0) rfl) ?_
      walk_at "gg"
      refine g_addL (h11.same _ _ fl11) (h11.same _ _ hld) (sz (by rw [List.length_map, List.length_map]; omega)) h11 (fun x1 H12 n12 h12 => ?_)
      rw [← List.map_append] at h12
      walk_at "gg"
      refine g_slL (by walk_at "h") h12 (fun x2 H13 n13 h13 => ?_)
      rw [show ((t : Int) + 1) = ((t + 1 : Nat) : Int) from rfl, cutV_str, cut1] at h13
      refine g_addL (h13.get (by walk_at "m")) (h13.get (List.Mem.head _)) (sz (by rw [List.length_map, List.length_map, List.length_append]; omega)) h13 (fun l2 H14 n14 h14 => ?_)
      rw [← List.map_append] at h14
      have g14 := h14.grow
      have fl2 : upd H11 l2 (.lst ((L ++ dc.1 ++ ((its.map (·.1)).drop t).take 1).map V.str)) l2 = some (.lst ((L ++ dc.1 ++ ((its.map (·.1)).drop t).take 1).map V.str)) := upd_same
      have h14 : Has (upd H11 l2 (.lst ((L ++ dc.1 ++ ((its.map (·.1)).drop t).take 1).map V.str))) [] H14 := h14.frz.sub (List.nil_sublist _)
      generalize upd H11 l2 (.lst ((L ++ dc.1 ++ ((its.map (·.1)).drop t).take 1).map V.str)) = F14 at g14 fl2 h14
      have hpd14 := g14 _ _ hpd
      walk_at "gg"
      refine g_ixT (v := .int (dc.2 : Nat)) (by walk_at "h") (atI_nat (j := 1) rfl) ?_
      walk_at "gg"
      refine g_klstF (by walk_at "sz") h14 (fun e0 H15 F15 n15 s15 fe0 h15 => ?_)
      walk_at "gg"
      refine g_klstF (by walk_at "sz") h15 (fun e1 H16 F16 n16 s16 fe1 h16 => ?_)
      walk_at "gg"
      refine g_klstF (by walk_at "sz") h16 (fun e2 H17 F17 n17 s17 fe2 h17 => ?_)
      walk_at "gg"
      refine g_klst (by walk_at "sz") h17 (fun pt' H18 n18 h18 => ?_)
      walk_at "gg"
      refine ⟨L ++ dc.1 ++ ((its.map (·.1)).drop t).take 1, [], [], [], c + dc.2, l2, pt', e0, e1, e2, F17, _, _, _, rfl, sF.trans (g79.trans (sA.trans (g14.trans (s15.trans (s16.trans s17))))), h18, s17 _ _ (s16 _ _ (s15 _ _ fl2)), s17 _ _ (s16 _ _ fe0), s17 _ _ fe1, fe2, ?_, Nat.zero_le _, Nat.zero_le _, Nat.zero_le _, ?_, okL_nil, okL_nil, okL_nil⟩
      · rw [← eR]
        simp [Nat.add_assoc]
      · rw [List.length_append, List.length_append]; omega
  · rintro σ H6 ⟨L, p0, p1, p2, c, l, pt, q0, q1, q2, F, y6, y7, y8, rfl, sF, h6, fl_, fq0, fq1, fq2, eR, b0, b1, b2, bL, o0, o1, o2⟩
    have e0 : ((its.length : Int) + 1).toNat = its.length + 1 := by omega
    rw [e0] at eR
    unfold Rem at eR
    rw [if_neg (by omega), List.append_nil, Nat.add_zero] at eR
    walk_at "gg"
    refine g_ktup (by walk_at "sz") h6 (fun p H7 n7 h7 => ?_)
    refine q p H7 (sF.trans h7.same) ?_
    rw [← eR]
    exact .tup (h7.get (List.Mem.head _)) (.cons (Dq.strs (h7.same _ _ fl_)) (.cons (.int _) .nil))
end

end K04

namespace K04
open PySem PySem.Spec PyProof.Rows L2 Qk
local macro_rules | `(tactic| walk_at "m") => `(tactic| ((repeat (first | exact List.Mem.head _ | apply List.Mem.tail)); done))
local macro_rules | `(tactic| walk_at "h") => `(tactic| first | assumption | exact Has.gF (by assumption) (by assumption) | exact Has.get (by assumption) (by walk_at "m"))
local macro_rules | `(tactic| walk_at "c") => `(tactic| ((repeat (first | exact Chg.hd | apply Chg.tl)); done))
local macro_rules | `(tactic| walk_at "is") => `(tactic| first
  | ((with_reducible refine' is2_non ?gh ?_); (case gh => walk_at "h"))
  | (with_reducible refine is_int_list ?_)
  | (with_reducible refine is_int_tuple ?_)
  | (with_reducible refine is_int_dict ?_)
  | (with_reducible refine is_int_int ?_)
  | (with_reducible refine is_int_bool ?_)
  | (with_reducible refine is_int_str ?_)
  | ((with_reducible refine' is2_int ?gh ?_); (case gh => walk_at "h"))
  | (with_reducible refine is_str_list ?_)
  | (with_reducible refine is_str_tuple ?_)
  | (with_reducible refine is_str_dict ?_)
  | (with_reducible refine is_str_int ?_)
  | (with_reducible refine is_str_bool ?_)
  | (with_reducible refine is_str_str ?_)
  | ((with_reducible refine' is2_str ?gh ?_); (case gh => walk_at "h"))
  | (with_reducible refine is_bool_list ?_)
  | (with_reducible refine is_bool_tuple ?_)
  | (with_reducible refine is_bool_dict ?_)
  | (with_reducible refine is_bool_int ?_)
  | (with_reducible refine is_bool_bool ?_)
  | (with_reducible refine is_bool_str ?_)
  | ((with_reducible refine' is2_bool ?gh ?_); (case gh => walk_at "h"))
  | ((with_reducible refine' is_list_list ?gh ?_); (case gh => walk_at "h"))
  | ((with_reducible refine' is_list_tuple ?gh ?_); (case gh => walk_at "h"))
  | ((with_reducible refine' is_list_dict ?gh ?_); (case gh => walk_at "h"))
  | ((with_reducible refine' is_list_int ?gh ?_); (case gh => walk_at "h"))
  | ((with_reducible refine' is_list_bool ?gh ?_); (case gh => walk_at "h"))
  | ((with_reducible refine' is_list_str ?gh ?_); (case gh => walk_at "h"))
  | ((with_reducible refine' is2_list ?ga ?gb ?_); (case ga => walk_at "h"); (case gb => walk_at "h"))
  | ((with_reducible refine' is_tuple_list ?gh ?_); (case gh => walk_at "h"))
  | ((with_reducible refine' is_tuple_tuple ?gh ?_); (case gh => walk_at "h"))
  | ((with_reducible refine' is_tuple_dict ?gh ?_); (case gh => walk_at "h"))
  | ((with_reducible refine' is_tuple_int ?gh ?_); (case gh => walk_at "h"))
  | ((with_reducible refine' is_tuple_bool ?gh ?_); (case gh => walk_at "h"))
  | ((with_reducible refine' is_tuple_str ?gh ?_); (case gh => walk_at "h"))
  | ((with_reducible refine' is2_tuple ?ga ?gb ?_); (case ga => walk_at "h"); (case gb => walk_at "h"))
  | ((with_reducible refine' is_dict_list ?gh ?_); (case gh => walk_at "h"))
  | ((with_reducible refine' is_dict_tuple ?gh ?_); (case gh => walk_at "h"))
  | ((with_reducible refine' is_dict_dict ?gh ?_); (case gh => walk_at "h"))
  | ((with_reducible refine' is_dict_int ?gh ?_); (case gh => walk_at "h"))
  | ((with_reducible refine' is_dict_bool ?gh ?_); (case gh => walk_at "h"))
  | ((with_reducible refine' is_dict_str ?gh ?_); (case gh => walk_at "h"))
  | ((with_reducible refine' is2_dict ?ga ?gb ?_); (case ga => walk_at "h"); (case gb => walk_at "h")))
local macro_rules | `(tactic| walk_at "g") => `(tactic| first
  | (with_reducible refine g_seq ?_)
  | (with_reducible refine g_asg ?_)
  | ((with_reducible refine g_name ?_); dsimp only [List.set, wipe, List.map])
  | ((with_reducible refine' g_var ?gv ?_); (case gv => exact rfl))
  | (with_reducible refine g_c ?_)
  | (with_reducible refine g_op ?_)
  | (with_reducible refine g_cons ?_)
  | (with_reducible refine g_nil ?_)
  | (with_reducible refine g_cb ?_)
  | (with_reducible refine g_call ?_)
  | (with_reducible refine g_tup ?_)
  | (with_reducible refine g_lst ?_)
  | (with_reducible refine g_bm ?_)
  | (with_reducible refine g_bm0 ?_)
  | ((with_reducible refine' g_kbm ?gh ?_); (case gh => walk_at "h"))
  | (with_reducible refine g_drop ?_)
  | (with_reducible refine g_ret ?_)
  | (with_reducible refine g_retN ?_)
  | (with_reducible refine g_next ?_)
  | (with_reducible refine g_brk ?_)
  | (with_reducible refine g_cont ?_)
  | (with_reducible refine g_if ?_)
  | ((with_reducible refine' g_aug ?gv ?_); (case gv => exact rfl))
  | (with_reducible refine g_ipI ?_)
  | (with_reducible refine g_test ?_)
  | (with_reducible refine g_tB ?_)
  | (with_reducible refine g_kB ?_)
  | (with_reducible refine g_not ?_)
  | (with_reducible refine g_and ?_)
  | (with_reducible refine g_or ?_)
  | (with_reducible refine g_andV ?_)
  | (with_reducible refine g_orV ?_)
  | (with_reducible refine g_notV ?_)
  | (with_reducible refine g_ifE ?_)
  | (with_reducible refine g_addI ?_)
  | (with_reducible refine g_rI0 ?_)
  | (with_reducible refine g_eqI ?_)
  | (with_reducible refine g_eqS ?_)
  | (with_reducible refine g_neI ?_)
  | (with_reducible refine g_neS ?_)
  | (with_reducible refine g_isN ?_)
  | (with_reducible refine g_notN ?_)
  | (with_reducible refine g_int ?_)
  | (with_reducible refine g_max2 ?_)
  | ((with_reducible refine' g_lenL ?gh ?_); (case gh => walk_at "h"))
  | (with_reducible refine g_sub ?_)
  | (with_reducible refine g_gcons ?_)
  | (with_reducible refine g_gnil ?_)
  | (with_reducible refine g_un ?_)
  | (with_reducible refine g_rU ?_)
  | (with_reducible refine g_forL ?_)
  | (with_reducible refine g_forR1 ?_)
  | (with_reducible refine g_forR2 ?_)
  | (with_reducible refine g_forR3 ?_)
  | (with_reducible refine g_lcL ?_)
  | (with_reducible refine g_lcR1 ?_)
  | (with_reducible refine g_lcR2 ?_)
  | (with_reducible refine g_slice ?_)
  | (with_reducible refine g_part ?_)
  | (with_reducible refine g_kOI ?_)
  | (with_reducible refine g_nopart ?_)
  | (with_reducible refine g_yes ?_)
  | ((with_reducible refine' g_wipe ?gv ?_); (case gv => exact rfl))
  | (with_reducible refine iteT ?_)
  | (with_reducible refine iteF ?_)
  | (with_reducible refine i_nf ?_)
  | (with_reducible refine i_nt ?_)
  | ((with_reducible refine' g_gtup ?gh ?gl ?_); (case gh => walk_at "h"); (case gl => exact rfl))
  | ((with_reducible refine' g_notinI ?gh ?_); (case gh => walk_at "h"))
  | ((with_reducible refine' g_inI ?gh ?_); (case gh => walk_at "h"))
  | ((with_reducible refine' g_kget2 ?gh ?_); (case gh => walk_at "h"))
  | ((with_reducible refine' g_kgotI ?gh ?_); (case gh => walk_at "h"))
  | (with_reducible refine g_tRev ?_)
  | (with_reducible refine g_neB ?_)
  | (with_reducible refine g_eqB ?_)
  | ((with_reducible refine' g_lenT ?gh ?_); (case gh => walk_at "h"))
  | (with_reducible refine g_star ?_)
  | ((with_reducible refine' g_kstarL ?gh ?_); (case gh => walk_at "h"))
  | ((with_reducible refine' g_kstarT ?gh ?_); (case gh => walk_at "h"))
  | (with_reducible refine g_tru ?_)
  | ((with_reducible refine' g_truL ?gh ?_); (case gh => walk_at "h"))
  | (with_reducible refine g_get2 ?_)
  | walk_at "is")
local macro_rules | `(tactic| walk_at "gg") => `(tactic| repeat walk_at "g")
local macro_rules | `(tactic| walk_at "sz") => `(tactic| (refine sz ?_; simp only [List.length_cons, List.length_nil, List.length_map, List.length_append, List.length_replicate]; omega))

theorem sd_len {f : List Str} : ∀ {its : List It1}, (∀ it ∈ its, it.2.2.length ≤ 2) → (sd its f).length ≤ 3 * its.length + f.length
  | [], _ => by show f.length ≤ _; simp
  | (b, k, n) :: its, h => by
    have ih := sd_len (f := f) fun it hi => h it (List.mem_cons_of_mem _ hi)
    have hn : n.length ≤ 2 := h _ List.mem_cons_self
    have ho : (oB k b).length ≤ 1 := by cases k <;> simp [oB]
    show (n ++ oB k b ++ sd its f).length ≤ _
    rw [List.length_append, List.length_append, List.length_cons]
    omega
theorem sd_ok {f : List Str} (hf : okL f) : ∀ {its : List It1}, (∀ it ∈ its, okL it.2.2 ∧ PyData.strOk it.1 = true) → okL (sd its f)
  | [], _ => hf
  | (b, k, n) :: its, h => by
    have ih := sd_ok hf (its := its) fun it hi => h it (List.mem_cons_of_mem _ hi)
    obtain ⟨hn, hb⟩ := h _ List.mem_cons_self
    refine okL_app (okL_app hn ?_) ih
    cases k with
    | true => exact fun x hx => by rw [List.mem_singleton.mp hx]; exact hb
    | false => exact okL_nil
theorem so_mD (n : Nat) {r : List Str × Nat} (h : r.1.length ≤ 100000) : so (n + 3) (mD r) := ⟨by show 2 ≤ 100000; decide, fun d hd => by
  simp only [List.mem_cons, List.not_mem_nil, or_false] at hd
  rcases hd with rfl | rfl
  · exact so_strs n h
  · exact trivial⟩
section
variable {P : Program} {w : World} {K : PySem.W.Frag} {mg : Str → Option Value} {base : Heap}
def sp_l_holds (K : PySem.W.Frag) : Sp := fun vs H Q _ => ∃ (a kp nw k1 k2 w1 w2 : Addr) (its : List It2) (f1 f2 : List Str) (ws1 ws2 : List V) (Pb : Str → Prop), vs = [.ref a, .ref kp, .ref nw] ∧ H a = some (.lst ((its.map (·.1)).map V.str)) ∧ H kp = some (.lst [.ref k1, .ref k2]) ∧ H nw = some (.lst [.ref w1, .ref w2]) ∧
  H k1 = some (.lst ((its.map (·.2.1.1)).map V.bl)) ∧ H k2 = some (.lst ((its.map (·.2.2.1)).map V.bl)) ∧ H w1 = some (.lst ws1) ∧ H w2 = some (.lst ws2) ∧ DqAll H ws1 ((its.map (·.2.1.2) ++ [f1]).map tl) ∧ DqAll H ws2 ((its.map (·.2.2.2) ++ [f2]).map tl) ∧ its.length ≤ 10 ∧
  (∀ x ∈ its.map (·.1), PyData.strOk x = true) ∧ (∀ L ∈ its.map (·.2.1.2) ++ [f1], L.length ≤ 2 ∧ okL L) ∧ (∀ L ∈ its.map (·.2.2.2) ++ [f2], L.length ≤ 2 ∧ okL L) ∧
  (its.map (·.1)).Nodup ∧ (∀ x ∈ its.map (·.1), Pb x) ∧ (∀ L ∈ its.map (·.2.1.2) ++ [f1], ∀ y ∈ L, ¬ Pb y) ∧ (∀ L ∈ its.map (·.2.2.2) ++ [f2], ∀ y ∈ L, ¬ Pb y) ∧
  ∀ H', Same H H' → Q (.bl true) H'
theorem sp_l_holds_len {vs H Q E} (h : sp_l_holds K vs H Q E) : vs.length = 3 := by
  obtain ⟨_, _, _, _, _, _, _, _, _, _, _, _, _, rfl, _⟩ := h
  rfl
theorem ok_l_holds (T : Txt K mg) : FnOk P w K mg base CX0 7 T.f_l_holds T.fd_l_holds ["base", "kept", "new"] (sp_l_holds K) := by
  refine T.F_l_holds.ok sc_l_holds (fun vs H Q E h => sp_l_holds_len h) (fun cdv A outer s H vs Q E hr h => ?_)
  refine ⟨_, (pss_cons (ps_set (i := 3) sc_l_holds.nd rfl (.inl rfl) (pe_call (ok_l_merged T) (hr.mono (by decide)) (by rfl) T.g_l_merged T.F_l_merged.kp T.b_l_merged .nil pass0 (pa_cons (pv 0) (pa_cons (pv 1) (pa_cons (pv 2) pa_nil)))))
      (pss_cons (ps_set (i := 4) sc_l_holds.nd rfl (.inl rfl) (pe_call (ok_l_side T) (hr.mono (by decide)) (by rfl) T.g_l_side T.F_l_side.kp T.b_l_side .nil pass0 (pa_cons (pv 0) (pa_cons (pe_ix (ix_K K (hu_of hr)) (pv 1) pe_int (fun _ _ => rfl)) (pa_cons (pe_ix (ix_K K (hu_of hr)) (pv 2) pe_int (fun _ _ => rfl)) pa_nil)))))
      (pss_cons (ps_set (i := 5) sc_l_holds.nd rfl (.inl rfl) (pe_call (ok_l_side T) (hr.mono (by decide)) (by rfl) T.g_l_side T.F_l_side.kp T.b_l_side .nil pass0 (pa_cons (pv 0) (pa_cons (pe_ix (ix_K K (hu_of hr)) (pv 1) pe_int (fun _ _ => rfl)) (pa_cons (pe_ix (ix_K K (hu_of hr)) (pv 2) pe_int (fun _ _ => rfl)) pa_nil)))))
      (pss_cons (ps_set (i := 6) sc_l_holds.nd rfl (.inl rfl) (pe_lst (pa_cons (pe_callTy (cr_listK K) (by rfl) T.m_list (by decide +kernel) (pa_cons (pv 0) pa_nil)) (pa_cons (pe_callTy (cr_listK K) (by rfl) T.m_list (by decide +kernel) (pa_cons (pv 4) pa_nil)) (pa_cons (pe_callTy (cr_listK K) (by rfl) T.m_list (by decide +kernel) (pa_cons (pv 5) pa_nil)) pa_nil)))))
      (pss_cons (ps_set (i := 7) sc_l_holds.nd rfl (.inl rfl) (pe_call (ok_merge_texts T) (hr.mono (by decide)) (by rfl) T.g_merge_texts T.F_merge_texts.kp T.b_merge_texts .nil pass0 (pa_cons (pe_ix (ix_K K (hu_of hr)) (pv 6) pe_int (fun _ _ => rfl)) (pa_cons (pe_ix (ix_K K (hu_of hr)) (pv 6) pe_int (fun _ _ => rfl)) (pa_cons (pe_ix (ix_K K (hu_of hr)) (pv 6) pe_int (fun _ _ => rfl)) pa_nil)))))
      (pss_cons (ps_if (PW.pt (pw_or (pt_not (pt_val (pe_call (ok_l_same T) (hr.mono (by decide)) (by rfl) T.g_l_same T.F_l_same.kp T.b_l_same .nil pass0 (pa_cons (pv 7) (pa_cons (pv 3) pa_nil))))) (pw_or1 (pt_cmpR (op_neK K hr.units) (pv 6) (pe_lst (pa_cons (pv 0) (pa_cons (pv 4) (pa_cons (pv 5) pa_nil)))) (nomark _))))) (pss_one (ps_ret pe_bl)) pss_nil)
      (pss_cons (ps_expr (k_bm K (pe_bm PySem.F.plainAttrs_list PySem.F.slot_list_append PySem.F.type_list_append mt_append (pe_ix (ix_K K (hu_of hr)) (pv 6) pe_int (fun _ _ => rfl)) (pa_cons pe_str pa_nil))))
      (pss_cons (ps_expr (k_bm0 K (pe_bm0 PySem.F.plainAttrs_list PySem.F.slot_list_clear PySem.F.type_list_clear mt_clear (pe_ix (ix_K K (hu_of hr)) (pv 6) pe_int (fun _ _ => rfl)))))
      (pss_cons (ps_expr (k_bm K (pe_bm PySem.F.plainAttrs_list PySem.F.slot_list_insert PySem.F.type_list_insert mt_insertA (pe_ix (ix_K K (hu_of hr)) (pv 6) pe_int (fun _ _ => rfl)) (pa_cons pe_int (pa_cons pe_str pa_nil)))))
      (pss_cons (ps_if (pt_not (pt_val (pe_call (ok_l_same T) (hr.mono (by decide)) (by rfl) T.g_l_same T.F_l_same.kp T.b_l_same .nil pass0 (pa_cons (pv 7) (pa_cons (pv 3) pa_nil))))) (pss_one (ps_ret pe_bl)) pss_nil)
      (pss_cons (ps_expr (k_bm K (pe_bm PySem.F.plainAttrs_list PySem.F.slot_list_append PySem.F.type_list_append mt_append (pe_ix (ix_K K (hu_of hr)) (pv 7) pe_int (fun _ _ => rfl)) (pa_cons pe_str pa_nil))))
      (pss_one (ps_ret (pe_call (ok_l_same T) (hr.mono (by decide)) (by rfl) T.g_l_same T.F_l_same.kp T.b_l_same .nil pass0 (pa_cons (pe_call (ok_merge_texts T) (hr.mono (by decide)) (by rfl) T.g_merge_texts T.F_merge_texts.kp T.b_merge_texts .nil pass0 (pa_cons (pe_callTy (cr_listK K) (by rfl) T.m_list (by decide +kernel) (pa_cons (pv 0) pa_nil)) (pa_cons (pe_callTy (cr_listK K) (by rfl) T.m_list (by decide +kernel) (pa_cons (pv 4) pa_nil)) (pa_cons (pe_callTy (cr_listK K) (by rfl) T.m_list (by decide +kernel) (pa_cons (pv 5) pa_nil)) pa_nil)))) (pa_cons (pv 3) pa_nil)))))))))))))))), ?_⟩
  obtain ⟨a, kp, nw, k1, k2, w1, w2, its, f1, f2, ws1, ws2, Pb, rfl, ha, hkp, hnw, hk1, hk2, hw1, hw2, dw1, dw2, li, okB, ok1, ok2, nd, hPb, hF1, hF2, q⟩ := h
  have hH := Has.start H
  refine g_start (σ' := [some (.ref a), some (.ref kp), some (.ref nw), none, none, none, none, none]) rfl ?_
  have hmem1 : ∀ it ∈ its, it.2.1.2 ∈ its.map (·.2.1.2) ++ [f1] := fun it h => List.mem_append_left _ (List.mem_map.mpr ⟨it, h, rfl⟩)
  have hmem2 : ∀ it ∈ its, it.2.2.2 ∈ its.map (·.2.2.2) ++ [f2] := fun it h => List.mem_append_left _ (List.mem_map.mpr ⟨it, h, rfl⟩)
  have hf1 : f1 ∈ its.map (·.2.1.2) ++ [f1] := List.mem_append_right _ List.mem_cons_self
  have hf2 : f2 ∈ its.map (·.2.2.2) ++ [f2] := List.mem_append_right _ List.mem_cons_self
  have hmrg := mrg_unl Pb nd (fun it h => hPb _ (List.mem_map.mpr ⟨it, h, rfl⟩)) (fun it h => ⟨hF1 _ (hmem1 it h), hF2 _ (hmem2 it h)⟩) (hF1 _ hf1) (hF2 _ hf2)
  have l1 : (sd (its.map s1) f1).length ≤ 40 := by
    have := sd_len (f := f1) (its := its.map s1) fun it h => by obtain ⟨z, hz, rfl⟩ := List.mem_map.mp h; exact (ok1 _ (hmem1 z hz)).1
    have := (ok1 _ hf1).1
    rw [List.length_map] at *
    omega
  have l2 : (sd (its.map s2) f2).length ≤ 40 := by
    have := sd_len (f := f2) (its := its.map s2) fun it h => by obtain ⟨z, hz, rfl⟩ := List.mem_map.mp h; exact (ok2 _ (hmem2 z hz)).1
    have := (ok2 _ hf2).1
    rw [List.length_map] at *
    omega
  have o1 : okL (sd (its.map s1) f1) := sd_ok (ok1 _ hf1).2 fun it h => by obtain ⟨z, hz, rfl⟩ := List.mem_map.mp h; exact ⟨(ok1 _ (hmem1 z hz)).2, okB _ (List.mem_map.mpr ⟨z, hz, rfl⟩)⟩
  have o2 : okL (sd (its.map s2) f2) := sd_ok (ok2 _ hf2).2 fun it h => by obtain ⟨z, hz, rfl⟩ := List.mem_map.mp h; exact ⟨(ok2 _ (hmem2 z hz)).2, okB _ (List.mem_map.mpr ⟨z, hz, rfl⟩)⟩
  have oB_ : okL (its.map (·.1)) := okB
  have lB : (its.map (·.1)).length ≤ 10 := by rw [List.length_map]; exact li
  have eB1 : (its.map s1).map (·.1) = its.map (·.1) := by rw [List.map_map]; rfl
  have eB2 : (its.map s2).map (·.1) = its.map (·.1) := by rw [List.map_map]; rfl
  have eK1 : (its.map s1).map (·.2.1) = its.map (·.2.1.1) := by rw [List.map_map]; rfl
  have eK2 : (its.map s2).map (·.2.1) = its.map (·.2.2.1) := by rw [List.map_map]; rfl
  have eN1 : (its.map s1).map (·.2.2) = its.map (·.2.1.2) := by rw [List.map_map]; rfl
  have eN2 : (its.map s2).map (·.2.2) = its.map (·.2.2.2) := by rw [List.map_map]; rfl
  have hle := tch_le (k := 40) (its.map (·.1)) (sd (its.map s1) f1) (sd (its.map s2) f2) (by omega) l1 l2
  have hml : (mrgL (tch (its.map (·.1)) (sd (its.map s1) f1) (sd (its.map s2) f2))).length ≤ 82 * 124 := Nat.le_trans (mrgL_len (k := 40) hle.1) (Nat.mul_le_mul_right _ (by omega))
  have hso := so_mD 3 (r := (mrgL (tch (its.map (·.1)) (sd (its.map s1) f1) (sd (its.map s2) f2)), mrgN (tch (its.map (·.1)) (sd (its.map s1) f1) (sd (its.map s2) f2)))) (by show (mrgL _).length ≤ _; omega)
  walk_at "gg"
  refine ⟨a, kp, nw, k1, k2, w1, w2, its, f1, f2, ws1, ws2, rfl, ha, hkp, hnw, hk1, hk2, hw1, hw2, dw1, dw2, li, okB, ok1, ok2, fun du H1 s1' ddu => ?_⟩
  rw [← hmrg] at ddu
  have ha := s1' _ _ ha
  have hkp := s1' _ _ hkp
  have hnw := s1' _ _ hnw
  have hk1 := s1' _ _ hk1
  have hk2 := s1' _ _ hk2
  have hw1 := s1' _ _ hw1
  have hw2 := s1' _ _ hw2
  have dw1 := dw1.up s1' _ _
  have dw2 := dw2.up s1' _ _
  walk_at "gg"
  refine g_ixL (v := .ref k1) (by walk_at "h") (atI_nat (j := 0) rfl) ?_
  walk_at "gg"
  refine g_ixL (v := .ref w1) (by walk_at "h") (atI_nat (j := 0) rfl) ?_
  walk_at "gg"
  refine ⟨a, k1, w1, its.map s1, f1, ws1, rfl, by rw [eB1]; exact ha, by rw [eK1]; exact hk1, hw1, by rw [eN1]; exact dw1, by rw [List.length_map]; exact li, l1, fun ou H2 s2' n2 hou => ?_⟩
  have ha := s2' _ _ ha
  have hkp := s2' _ _ hkp
  have hnw := s2' _ _ hnw
  have hk2 := s2' _ _ hk2
  have hw2 := s2' _ _ hw2
  have dw2 := dw2.up s2' _ _
  have ddu := ddu.up s2' _ _
  walk_at "gg"
  refine g_ixL (v := .ref k2) (by walk_at "h") (atI_nat (j := 1) rfl) ?_
  walk_at "gg"
  refine g_ixL (v := .ref w2) (by walk_at "h") (atI_nat (j := 1) rfl) ?_
  walk_at "gg"
  refine ⟨a, k2, w2, its.map s2, f2, ws2, rfl, by rw [eB2]; exact ha, by rw [eK2]; exact hk2, hw2, by rw [eN2]; exact dw2, by rw [List.length_map]; exact li, l2, fun th H3 s3' n3 hth => ?_⟩
  have ha := s3' _ _ ha
  have hou := s3' _ _ hou
  have ddu := ddu.up s3' _ _
  have sA := s1'.trans (s2'.trans s3')
  generalize its.map (·.1) = B at *
  generalize sd (its.map s1) f1 = X at *
  generalize sd (its.map s2) f2 = Y at *
  have shp : Sh 2 (.list [.list (B.map PyData.str), .list (X.map PyData.str), .list (Y.map PyData.str)]) := Sh.list fun d hd => by
    simp only [List.mem_cons, List.not_mem_nil, or_false] at hd
    rcases hd with rfl | rfl | rfl
    · exact Sh.strs oB_
    · exact Sh.strs o1
    · exact Sh.strs o2
  have hA := Has.start H3
  walk_at "gg"
  refine g_listL (by walk_at "h") hA (fun m1 H4 n4 h4 => ?_)
  walk_at "gg"
  refine g_listL (by walk_at "h") h4 (fun m2 H5 n5 h5 => ?_)
  walk_at "gg"
  refine g_listL (by walk_at "h") h5 (fun m3 H6 n6 h6 => ?_)
  walk_at "gg"
  refine g_klst (by walk_at "sz") h6 (fun pp H7 n7 h7 => ?_)
  walk_at "gg"
  refine g_ixL (v := .ref m1) (by walk_at "h") (atI_nat (j := 0) rfl) ?_
  walk_at "gg"
  refine g_ixL (v := .ref m2) (by walk_at "h") (atI_nat (j := 1) rfl) ?_
  walk_at "gg"
  refine g_ixL (v := .ref m3) (by walk_at "h") (atI_nat (j := 2) rfl) ?_
  walk_at "gg"
  refine ⟨m1, m2, m3, B, X, Y, rfl, by walk_at "h", by walk_at "h", by walk_at "h", by omega, l1, l2, oB_, o1, o2, fun p l H8 s8 np nl ne hp hl => ?_⟩
  have h8 := h7.made2 np nl s8 hp hl ne
  walk_at "gg"
  refine ⟨_, _, _, rfl, .tup (h8.get (List.Mem.head _)) (.cons (Dq.strs (h8.get (by walk_at "m"))) (.cons (.int _) .nil)), ddu.up h8.same _ _, hso, fun H9 s9 => ?_⟩
  have h9 := h8.on s9
  walk_at "gg"
  refine g_klst (by walk_at "sz") h9 (fun p2 H10 n10 h10 => ?_)
  refine g_neD (.lst (h10.get (by walk_at "m")) (.cons (Dq.strs (by walk_at "h")) (.cons (Dq.strs (by walk_at "h")) (.cons (Dq.strs (by walk_at "h")) .nil)))) (.lst (h10.get (List.Mem.head _)) (.cons (Dq.strs (xs := B) (h10.same _ _ ha)) (.cons (Dq.strs (xs := X) (h10.same _ _ hou)) (.cons (Dq.strs (xs := Y) (h10.same _ _ hth)) .nil)))) (shp.ok (by decide)) (shp.ok (by decide)) ?_
  rw [SeqAt.eqv_refl _ shp.1]
  have h10 := h10.drop
  walk_at "gg"
  refine g_ixL (v := .ref m1) (by walk_at "h") (atI_nat (j := 0) rfl) ?_
  walk_at "gg"
  refine g_append h10 (by walk_at "c") (szl (by rw [List.length_map]; omega)) (fun H11 h11 => ?_)
  walk_at "gg"
  refine g_ixL (v := .ref m2) (by walk_at "h") (atI_nat (j := 1) rfl) ?_
  walk_at "gg"
  refine g_clear h11 (by walk_at "c") (fun H12 h12 => ?_)
  walk_at "gg"
  refine g_ixL (v := .ref m3) (by walk_at "h") (atI_nat (j := 2) rfl) ?_
  walk_at "gg"
  refine g_insert h12 (by walk_at "c") (szl (by rw [List.length_map]; omega)) (by decide) (by decide) (fun H13 h13 => ?_)
  walk_at "gg"
  refine ⟨_, _, _, rfl, .tup (h13.get (List.Mem.head _)) (.cons (Dq.strs (h13.get (by walk_at "m"))) (.cons (.int _) .nil)), ddu.up h13.same _ _, hso, fun H14 s14 => ?_⟩
  have h14 := h13.on s14
  walk_at "gg"
  refine g_ixT (v := .ref l) (by walk_at "h") (atI_nat (j := 0) rfl) ?_
  walk_at "gg"
  refine g_append h14 (by walk_at "c") (szl (by rw [List.length_map]; omega)) (fun H15 h15 => ?_)
  walk_at "gg"
  refine g_listL (by walk_at "h") h15 (fun e1 H16 n16 h16 => ?_)
  walk_at "gg"
  refine g_listL (by walk_at "h") h16 (fun e2 H17 n17 h17 => ?_)
  walk_at "gg"
  refine g_listL (by walk_at "h") h17 (fun e3 H18 n18 h18 => ?_)
  walk_at "gg"
  refine ⟨e1, e2, e3, B, X, Y, rfl, by walk_at "h", by walk_at "h", by walk_at "h", by omega, l1, l2, oB_, o1, o2, fun p' l' H19 s19 np' nl' ne' hp' hl' => ?_⟩
  have h19 := h18.on s19
  walk_at "gg"
  refine ⟨_, _, _, rfl, .tup hp' (.cons (Dq.strs hl') (.cons (.int _) .nil)), ddu.up h19.same _ _, hso, fun H20 s20 => ?_⟩
  exact q H20 (sA.trans (h19.same.trans s20))
end

end K04

namespace K04
open PySem PySem.Spec PyProof.Rows L2 Qk
local macro_rules | `(tactic| walk_at "m") => `(tactic| ((repeat (first | exact List.Mem.head _ | apply List.Mem.tail)); done))
local macro_rules | `(tactic| walk_at "h") => `(tactic| first | assumption | exact Has.gF (by assumption) (by assumption) | exact Has.get (by assumption) (by walk_at "m"))
local macro_rules | `(tactic| walk_at "c") => `(tactic| ((repeat (first | exact Chg.hd | apply Chg.tl)); done))
local macro_rules | `(tactic| walk_at "is") => `(tactic| first
  | ((with_reducible refine' is2_non ?gh ?_); (case gh => walk_at "h"))
  | (with_reducible refine is_int_list ?_)
  | (with_reducible refine is_int_tuple ?_)
  | (with_reducible refine is_int_dict ?_)
  | (with_reducible refine is_int_int ?_)
  | (with_reducible refine is_int_bool ?_)
  | (with_reducible refine is_int_str ?_)
  | ((with_reducible refine' is2_int ?gh ?_); (case gh => walk_at "h"))
  | (with_reducible refine is_str_list ?_)
  | (with_reducible refine is_str_tuple ?_)
  | (with_reducible refine is_str_dict ?_)
  | (with_reducible refine is_str_int ?_)
  | (with_reducible refine is_str_bool ?_)
  | (with_reducible refine is_str_str ?_)
  | ((with_reducible refine' is2_str ?gh ?_); (case gh => walk_at "h"))
  | (with_reducible refine is_bool_list ?_)
  | (with_reducible refine is_bool_tuple ?_)
  | (with_reducible refine is_bool_dict ?_)
  | (with_reducible refine is_bool_int ?_)
  | (with_reducible refine is_bool_bool ?_)
  | (with_reducible refine is_bool_str ?_)
  | ((with_reducible refine' is2_bool ?gh ?_); (case gh => walk_at "h"))
  | ((with_reducible refine' is_list_list ?gh ?_); (case gh => walk_at "h"))
  | ((with_reducible refine' is_list_tuple ?gh ?_); (case gh => walk_at "h"))
  | ((with_reducible refine' is_list_dict ?gh ?_); (case gh => walk_at "h"))
  | ((with_reducible refine' is_list_int ?gh ?_); (case gh => walk_at "h"))
  | ((with_reducible refine' is_list_bool ?gh ?_); (case gh => walk_at "h"))
  | ((with_reducible refine' is_list_str ?gh ?_); (case gh => walk_at "h"))
  | ((with_reducible refine' is2_list ?ga ?gb ?_); (case ga => walk_at "h"); (case gb => walk_at "h"))
  | ((with_reducible refine' is_tuple_list ?gh ?_); (case gh => walk_at "h"))
  | ((with_reducible refine' is_tuple_tuple ?gh ?_); (case gh => walk_at "h"))
  | ((with_reducible refine' is_tuple_dict ?gh ?_); (case gh => walk_at "h"))
  | ((with_reducible refine' is_tuple_int ?gh ?_); (case gh => walk_at "h"))
  | ((with_reducible refine' is_tuple_bool ?gh ?_); (case gh => walk_at "h"))
  | ((with_reducible refine' is_tuple_str ?gh ?_); (case gh => walk_at "h"))
  | ((with_reducible refine' is2_tuple ?ga ?gb ?_); (case ga => walk_at "h"); (case gb => walk_at "h"))
  | ((with_reducible refine' is_dict_list ?gh ?_); (case gh => walk_at "h"))
  | ((with_reducible refine' is_dict_tuple ?gh ?_); (case gh => walk_at "h"))
  | ((with_reducible refine' is_dict_dict ?gh ?_); (case gh => walk_at "h"))
  | ((with_reducible refine' is_dict_int ?gh ?_); (case gh => walk_at "h"))
  | ((with_reducible refine' is_dict_bool ?gh ?_); (case gh => walk_at "h"))
  | ((with_reducible refine' is_dict_str ?gh ?_); (case gh => walk_at "h"))
  | ((with_reducible refine' is2_dict ?ga ?gb ?_); (case ga => walk_at "h"); (case gb => walk_at "h")))
local macro_rules | `(tactic| walk_at "g") => `(tactic| first
  | (with_reducible refine g_seq ?_)
  | (with_reducible refine g_asg ?_)
  | ((with_reducible refine g_name ?_); dsimp only [List.set, wipe, List.map])
  | ((with_reducible refine' g_var ?gv ?_); (case gv => exact rfl))
  | (with_reducible refine g_c ?_)
  | (with_reducible refine g_op ?_)
  | (with_reducible refine g_cons ?_)
  | (with_reducible refine g_nil ?_)
  | (with_reducible refine g_cb ?_)
  | (with_reducible refine g_call ?_)
  | (with_reducible refine g_tup ?_)
  | (with_reducible refine g_lst ?_)
  | (with_reducible refine g_bm ?_)
  | (with_reducible refine g_bm0 ?_)
  | ((with_reducible refine' g_kbm ?gh ?_); (case gh => walk_at "h"))
  | (with_reducible refine g_drop ?_)
  | (with_reducible refine g_ret ?_)
  | (with_reducible refine g_retN ?_)
  | (with_reducible refine g_next ?_)
  | (with_reducible refine g_brk ?_)
  | (with_reducible refine g_cont ?_)
  | (with_reducible refine g_if ?_)
  | ((with_reducible refine' g_aug ?gv ?_); (case gv => exact rfl))
  | (with_reducible refine g_ipI ?_)
  | (with_reducible refine g_test ?_)
  | (with_reducible refine g_tB ?_)
  | (with_reducible refine g_kB ?_)
  | (with_reducible refine g_not ?_)
  | (with_reducible refine g_and ?_)
  | (with_reducible refine g_or ?_)
  | (with_reducible refine g_andV ?_)
  | (with_reducible refine g_orV ?_)
  | (with_reducible refine g_notV ?_)
  | (with_reducible refine g_ifE ?_)
  | (with_reducible refine g_addI ?_)
  | (with_reducible refine g_rI0 ?_)
  | (with_reducible refine g_eqI ?_)
  | (with_reducible refine g_eqS ?_)
  | (with_reducible refine g_neI ?_)
  | (with_reducible refine g_neS ?_)
  | (with_reducible refine g_isN ?_)
  | (with_reducible refine g_notN ?_)
  | (with_reducible refine g_int ?_)
  | (with_reducible refine g_max2 ?_)
  | ((with_reducible refine' g_lenL ?gh ?_); (case gh => walk_at "h"))
  | (with_reducible refine g_sub ?_)
  | (with_reducible refine g_gcons ?_)
  | (with_reducible refine g_gnil ?_)
  | (with_reducible refine g_un ?_)
  | (with_reducible refine g_rU ?_)
  | (with_reducible refine g_forL ?_)
  | (with_reducible refine g_forR1 ?_)
  | (with_reducible refine g_forR2 ?_)
  | (with_reducible refine g_forR3 ?_)
  | (with_reducible refine g_lcL ?_)
  | (with_reducible refine g_lcR1 ?_)
  | (with_reducible refine g_lcR2 ?_)
  | (with_reducible refine g_slice ?_)
  | (with_reducible refine g_part ?_)
  | (with_reducible refine g_kOI ?_)
  | (with_reducible refine g_nopart ?_)
  | (with_reducible refine g_yes ?_)
  | ((with_reducible refine' g_wipe ?gv ?_); (case gv => exact rfl))
  | (with_reducible refine iteT ?_)
  | (with_reducible refine iteF ?_)
  | (with_reducible refine i_nf ?_)
  | (with_reducible refine i_nt ?_)
  | ((with_reducible refine' g_gtup ?gh ?gl ?_); (case gh => walk_at "h"); (case gl => exact rfl))
  | ((with_reducible refine' g_notinI ?gh ?_); (case gh => walk_at "h"))
  | ((with_reducible refine' g_inI ?gh ?_); (case gh => walk_at "h"))
  | ((with_reducible refine' g_kget2 ?gh ?_); (case gh => walk_at "h"))
  | ((with_reducible refine' g_kgotI ?gh ?_); (case gh => walk_at "h"))
  | (with_reducible refine g_tRev ?_)
  | (with_reducible refine g_neB ?_)
  | (with_reducible refine g_eqB ?_)
  | ((with_reducible refine' g_lenT ?gh ?_); (case gh => walk_at "h"))
  | (with_reducible refine g_star ?_)
  | ((with_reducible refine' g_kstarL ?gh ?_); (case gh => walk_at "h"))
  | ((with_reducible refine' g_kstarT ?gh ?_); (case gh => walk_at "h"))
  | (with_reducible refine g_tru ?_)
  | ((with_reducible refine' g_truL ?gh ?_); (case gh => walk_at "h"))
  | (with_reducible refine g_get2 ?_)
  | walk_at "is")
local macro_rules | `(tactic| walk_at "gg") => `(tactic| repeat walk_at "g")
local macro_rules | `(tactic| walk_at "sz") => `(tactic| (refine sz ?_; simp only [List.length_cons, List.length_nil, List.length_map, List.length_append, List.length_replicate]; omega))

namespace M
def menuL : List Str := ["a", "b", "", "ab", "ba", "aa", " ", "a ", "<<<<<<<", "=======", "|||||||", ">>>>>>>", "-", "0", "aaaaaaaaaaaaaaaaaaaa", "aaaaaaaaaaaaaaaaaaab"]
theorem menu_nd : menuL.Nodup := by decide +kernel
theorem menu_ok : ∀ x ∈ menuL, PyData.strOk x = true := by decide +kernel
def newL : List (List Str) := [[], [], ["x"], [], ["x "], ["x", "c"]]
theorem new_ok : ∀ L ∈ newL, L.length ≤ 2 ∧ (∀ x ∈ L, PyData.strOk x = true) ∧ ∀ y ∈ L, y ∉ menuL := by decide +kernel
theorem g_notinFT {K : PySem.W.Frag} {H : Hp} {Q : VK} {x : V} {a : Addr} {xs : List V} (h : H a = some (.tup xs)) (hx : flatV x = true) (hf : xs.all flatV = true) (q : Q (.bl (!inV x xs)) H) : rNotInA K x (.ref a) H Q := .inl (.inl ⟨a, xs, rfl, .inr (SqT.of h), hx, hf, q⟩)
def mkI (B : List Str) (K1 K2 : List Bool) (N1 N2 : List (List Str)) (i : Nat) : It2 := (B.getD i "", (K1.getD i false, N1.getD i []), (K2.getD i false, N2.getD i []))
theorem rd {α : Type} (l : List α) (d : α) {n : Nat} (h : l.length = n) : (List.range n).map (fun i => l.getD i d) = l := by
  subst h
  apply List.ext_getElem
  · rw [List.length_map, List.length_range]
  · intro i h1 h2
    rw [List.getElem_map, List.getElem_range, List.getD_eq_getElem?_getD, List.getElem?_eq_getElem h2]
    rfl
theorem rd1 {α : Type} (l : List α) (d : α) {n : Nat} (h : l.length = n + 1) : (List.range n).map (fun i => l.getD i d) ++ [l.getD n d] = l := by
  have := rd l d h
  rw [List.range_succ, List.map_append] at this
  exact this
section
variable {P : Program} {w : World} {K : PySem.W.Frag} {mg : Str → Option Value} {base : Heap}
def sp_l_menu (K : PySem.W.Frag) : Sp := fun vs H Q _ => ∃ i : Int, vs = [.int i] ∧ ∀ H' z, Same H H' → menuL[(i % 16).toNat]? = some z → Q (.str z) H'
theorem sp_l_menu_len {vs H Q E} (h : sp_l_menu K vs H Q E) : vs.length = 1 := by
  obtain ⟨_, rfl, _⟩ := h
  rfl
theorem ok_l_menu (T : Txt K mg) : FnOk P w K mg base CX0 1 T.f_l_menu T.fd_l_menu ["place"] (sp_l_menu K) := by
  refine T.F_l_menu.ok sc_l_menu (fun vs H Q E h => sp_l_menu_len h) (fun cdv A outer s H vs Q E hr h => ?_)
  refine ⟨_, (pss_cons (ps_set (i := 1) sc_l_menu.nd rfl (.inl rfl) (pe_lst (pa_cons pe_str (pa_cons pe_str (pa_cons pe_str (pa_cons pe_str (pa_cons pe_str (pa_cons pe_str (pa_cons pe_str (pa_cons pe_str (pa_cons pe_str (pa_cons pe_str (pa_cons pe_str (pa_cons pe_str pa_nil))))))))))))))
      (pss_cons (ps_set (i := 1) sc_l_menu.nd rfl (.inl rfl) (pe_op (op_addK K) (pv 1) (pe_lst (pa_cons pe_str (pa_cons pe_str (pa_cons pe_str (pa_cons pe_str pa_nil)))))))
      (pss_one (ps_ret (pe_ix (ix_K K (hu_of hr)) (pv 1) (pe_op op_mod (pe_callTy cr_int1 (by rfl) T.m_int (by decide +kernel) (pa_cons (pv 0) pa_nil)) pe_int) (fun _ _ => rfl)))))), ?_⟩
  obtain ⟨i, rfl, q⟩ := h
  have hH := Has.start H
  refine g_start (σ' := [some (.int i), none]) rfl ?_
  walk_at "gg"
  refine g_klst (by walk_at "sz") hH (fun p1 H1 n1 hH1 => ?_)
  walk_at "gg"
  refine g_klst (by walk_at "sz") hH1 (fun p2 H2 n2 hH2 => ?_)
  refine g_addL (by walk_at "h") (by walk_at "h") (by walk_at "sz") hH2 (fun p3 H3 n3 hH3 => ?_)
  have hm : H3 p3 = some (.lst (menuL.map V.str)) := hH3.get (List.Mem.head _)
  walk_at "gg"
  refine g_rI (by show (0 : Int) < 16; decide) ?_
  refine g_ixZ hm (Int.emod_nonneg _ (by decide)) (by show _ < (16 : Int); exact Int.emod_lt_of_pos _ (by decide)) (fun z hz => ?_)
  exact q H3 z hH3.same hz
def sp_law (K : PySem.W.Frag) : Sp := fun vs H Q _ => ∃ (a : Addr) (ns : List Int), vs = [.ref a] ∧ SqL K H a (ns.map V.int) ∧ ns.length ≤ 63 ∧ ∀ H', Q (.bl true) H'
theorem sp_law_len {vs H Q E} (h : sp_law K vs H Q E) : vs.length = 1 := by
  obtain ⟨_, _, rfl, _⟩ := h
  rfl
theorem sp_law_start {H : Hp} {a : Addr} {ns : List Int} (hl : ns.length ≤ 63) (hS : SqL K H a (ns.map V.int)) : sp_law K [.ref a] H (fun v _ => v = .bl true) (fun _ _ _ => False) := ⟨a, ns, rfl, hS, hl, fun _ => rfl⟩
theorem ok_law (T : Txt K mg) : FnOk P w K mg base CX0 8 T.f_law T.fd_law ["script"] (sp_law K) := by
  refine T.F_law.ok sc_law (fun vs H Q E h => sp_law_len h) (fun cdv A outer s H vs Q E hr h => ?_)
  refine ⟨_, (pss_cons (ps_set (i := 1) sc_law.nd rfl (.inr rfl) (pe_call (ok_l_feed T) (hr.mono (by decide)) (by rfl) T.g_l_feed T.F_l_feed.kp T.b_l_feed .nil pass0 (pa_cons (pv 0) pa_nil)))
      (pss_cons (ps_set (i := 2) sc_law.nd rfl (.inl rfl) (pe_op op_mod (pe_callTy cr_int1 (by rfl) T.m_int (by decide +kernel) (pa_cons (pe_op (op_addK K) (pe_call (ok_l_next T) (hr.mono (by decide)) (by rfl) T.g_l_next T.F_l_next.kp T.b_l_next .nil pass0 (pa_cons (pv 1) (pa_cons pe_int pa_nil))) pe_int) pa_nil)) pe_int))
      (pss_cons (ps_set (i := 3) sc_law.nd rfl (.inr rfl) (pe_call (ok_l_next T) (hr.mono (by decide)) (by rfl) T.g_l_next T.F_l_next.kp T.b_l_next .nil pass0 (pa_cons (pv 1) (pa_cons pe_int pa_nil))))
      (pss_cons (ps_setLc (i := 4) (own := [("k", 10)]) (g := gName 10) (tt := tYes) rfl sc_law.nd rfl rfl (sw_true rfl rfl rfl (by decide +kernel)) (pi_range1 rfl T.m_range (pa_cons (pv 2) pa_nil)) (blkOk_by (N := n_law) (sc := defScope s_law) (by decide +kernel)) (fun _ _ _ _ _ => (pg_name (i := 10) sc_law.nd rfl (.inl rfl))) (fun _ _ _ _ _ => pts_nil) (fun _ _ _ _ _ => (pe_call (ok_l_menu T) (hr.mono (by decide)) (by rfl) T.g_l_menu T.F_l_menu.kp T.b_l_menu .nil pass0 (pa_cons (pe_op (op_addK K) (pv 3) (pe_op op_mulA pe_int (pv 10))) pa_nil))))
      (pss_cons (ps_setLc (i := 5) (own := [("k", 10)]) (g := gName 10) (tt := tYes) rfl sc_law.nd rfl rfl (sw_true rfl rfl rfl (by decide +kernel)) (pi_range1 rfl T.m_range (pa_cons (pv 2) pa_nil)) (blkOk_by (N := n_law) (sc := defScope s_law) (by decide +kernel)) (fun _ _ _ _ _ => (pg_name (i := 10) sc_law.nd rfl (.inl rfl))) (fun _ _ _ _ _ => pts_nil) (fun _ _ _ _ _ => (pe_op op_mod (pe_callTy cr_int1 (by rfl) T.m_int (by decide +kernel) (pa_cons (pe_op (op_addK K) (pe_call (ok_l_next T) (hr.mono (by decide)) (by rfl) T.g_l_next T.F_l_next.kp T.b_l_next .nil pass0 (pa_cons (pv 1) (pa_cons pe_int pa_nil))) (pv 10)) pa_nil)) pe_int)))
      (pss_cons (ps_set (i := 6) sc_law.nd rfl (.inl rfl) (pe_lst (pa_cons (pe_lc (own := [("fate", 11)]) (g := gName 11) (tt := tYes) rfl sc_law.nd (k_il K (pi_list (pv 5))) (blkOk_by (N := n_law) (sc := defScope s_law) (by decide +kernel)) (fun _ _ _ _ _ => (pg_name (i := 11) sc_law.nd rfl (.inl rfl))) (fun _ _ _ _ _ => pts_nil) (fun _ _ _ _ _ => (pe_cmpR (op_notinK K hr.units (u65 hr)) (pv 11) (pe_tup (pa_cons pe_int (pa_cons pe_int pa_nil))) (by rfl)))) pa_nil)))
      (pss_cons (ps_expr (k_bm K (pe_bm PySem.F.plainAttrs_list PySem.F.slot_list_append PySem.F.type_list_append mt_append (pv 6) (pa_cons (pe_lc (own := [("fate", 11)]) (g := gName 11) (tt := tYes) rfl sc_law.nd (k_il K (pi_list (pv 5))) (blkOk_by (N := n_law) (sc := defScope s_law) (by decide +kernel)) (fun _ _ _ _ _ => (pg_name (i := 11) sc_law.nd rfl (.inl rfl))) (fun _ _ _ _ _ => pts_nil) (fun _ _ _ _ _ => (pe_cmpR (op_notinK K hr.units (u65 hr)) (pv 11) (pe_tup (pa_cons pe_int (pa_cons pe_int pa_nil))) (by rfl)))) pa_nil))))
      (pss_cons (ps_set (i := 7) sc_law.nd rfl (.inr rfl) (pe_lst (pa_cons (pe_lst pa_nil) (pa_cons (pe_lst pa_nil) (pa_cons (pe_lst (pa_cons pe_str pa_nil)) (pa_cons (pe_lst pa_nil) (pa_cons (pe_lst (pa_cons pe_str pa_nil)) (pa_cons (pe_lst (pa_cons pe_str (pa_cons pe_str pa_nil))) pa_nil))))))))
      (pss_cons (ps_setLc (i := 8) (own := [("k", 10)]) (g := gName 10) (tt := tYes) rfl sc_law.nd rfl rfl (sw_true rfl rfl rfl (by decide +kernel)) (pi_range1 rfl T.m_range (pa_cons (pe_op (op_addK K) (pv 2) pe_int) pa_nil)) (blkOk_by (N := n_law) (sc := defScope s_law) (by decide +kernel)) (fun _ _ _ _ _ => (pg_name (i := 10) sc_law.nd rfl (.inl rfl))) (fun _ _ _ _ _ => pts_nil) (fun _ _ _ _ _ => (pe_ix (ix_K K (hu_of hr)) (pv 7) (pe_op op_mod (pe_callTy cr_int1 (by rfl) T.m_int (by decide +kernel) (pa_cons (pe_op (op_addK K) (pe_call (ok_l_next T) (hr.mono (by decide)) (by rfl) T.g_l_next T.F_l_next.kp T.b_l_next .nil pass0 (pa_cons (pv 1) (pa_cons pe_int pa_nil))) (pe_op op_mulA pe_int (pv 10))) pa_nil)) pe_int) (fun _ _ => rfl))))
      (pss_cons (ps_setLc (i := 9) (own := [("k", 10)]) (g := gName 10) (tt := tYes) rfl sc_law.nd rfl rfl (sw_true rfl rfl rfl (by decide +kernel)) (pi_range1 rfl T.m_range (pa_cons (pe_op (op_addK K) (pv 2) pe_int) pa_nil)) (blkOk_by (N := n_law) (sc := defScope s_law) (by decide +kernel)) (fun _ _ _ _ _ => (pg_name (i := 10) sc_law.nd rfl (.inl rfl))) (fun _ _ _ _ _ => pts_nil) (fun _ _ _ _ _ => (pe_ix (ix_K K (hu_of hr)) (pv 7) (pe_op op_mod (pe_callTy cr_int1 (by rfl) T.m_int (by decide +kernel) (pa_cons (pe_op (op_addK K) (pe_call (ok_l_next T) (hr.mono (by decide)) (by rfl) T.g_l_next T.F_l_next.kp T.b_l_next .nil pass0 (pa_cons (pv 1) (pa_cons pe_int pa_nil))) (pe_op op_mulA pe_int (pv 10))) pa_nil)) pe_int) (fun _ _ => rfl))))
      (pss_cons (ps_if (pt_not (pt_val (pe_call (ok_l_holds T) (hr.mono (by decide)) (by rfl) T.g_l_holds T.F_l_holds.kp T.b_l_holds .nil pass0 (pa_cons (pv 4) (pa_cons (pv 6) (pa_cons (pe_lst (pa_cons (pv 8) (pa_cons (pv 9) pa_nil))) pa_nil)))))) (pss_one (ps_ret pe_bl)) pss_nil)
      (pss_one (ps_ret (pe_call (ok_l_holds T) (hr.mono (by decide)) (by rfl) T.g_l_holds T.F_l_holds.kp T.b_l_holds .nil pass0 (pa_cons (pv 4) (pa_cons (pe_lst (pa_cons (pe_ix (ix_K K (hu_of hr)) (pv 6) pe_int (fun _ _ => rfl)) (pa_cons (pe_ix (ix_K K (hu_of hr)) (pv 6) pe_int (fun _ _ => rfl)) pa_nil))) (pa_cons (pe_lst (pa_cons (pv 9) (pa_cons (pv 8) pa_nil))) pa_nil))))))))))))))))), ?_⟩
  obtain ⟨a, ns, rfl, hS, hl, q⟩ := h
  refine g_start (σ' := [some (.ref a), none, none, none, none, none, none, none, none, none, none, none]) rfl ?_
  walk_at "gg"
  refine ⟨a, ns, rfl, hS, hl, fun c H1 F1 ws rows n1 s1 h1 dq hrl => ?_⟩
  walk_at "gg"
  refine ⟨c, 7, F1, ws, rows, rfl, h1, dq, hrl, by decide, by decide, fun H2 F2 ws2 rows2 r1 hb g hs dq2 l2 r10 r11 => ?_⟩
  have h2 := h1.grown (by walk_at "c") hb g hs.same (hs.get (List.Mem.head _))
  walk_at "gg"
  refine g_rI (by show (0 : Int) < 7; decide) ?_
  have hs0 : 0 ≤ (r1 + 4) % 7 ∧ (r1 + 4) % 7 < 7 := by omega
  generalize (r1 + 4) % 7 = size at hs0
  walk_at "gg"
  refine ⟨c, 16, F2, ws2, rows2, rfl, h2, dq2, l2, by decide, by decide, fun H3 F3 ws3 rows3 start hb g hs dq3 l3 st0 st1 => ?_⟩
  have h3 := h2.grown (by walk_at "c") hb g hs.same (hs.get (List.Mem.head _))
  walk_at "gg"
  -- base
  refine k_lcR1 (by omega) (by omega) h3 (fun i acc F' O' => ∃ ks : List Str, acc = ks.map V.str ∧ ks.length = i ∧ (∀ j : Nat, j < i → ∃ z, ks[j]? = some z ∧ menuL[((start + 5 * (j : Int)) % 16).toNat]? = some z) ∧ F3 = F' ∧ [(c, HO.lst ws3)] = O') ⟨[], rfl, rfl, fun j hj => by omega, rfl, rfl⟩ ?_ ?_
  · rintro i acc F' O' D H4 hi ⟨ks, rfl, hkl, hk, rfl, rfl⟩ hh
    walk_at "gg"
    refine g_mulI (.inl ⟨by decide, by decide⟩) ?_
    walk_at "gg"
    refine ⟨_, rfl, fun H5 z s5 hz => ?_⟩
    have h5 := hh.on s5
    refine k_turn h5 (by rw [List.length_map]; omega) ⟨ks ++ [z], by rw [List.map_append]; rfl, by rw [List.length_append]; show ks.length + 1 = _; omega, fun j hj => ?_, rfl, rfl⟩
    rcases Nat.lt_or_ge j i with hji | hji
    · obtain ⟨z', e1, e2⟩ := hk j hji
      exact ⟨z', by rw [List.getElem?_append_left (by omega)]; exact e1, e2⟩
    · have e : j = i := by omega
      subst e
      exact ⟨z, by rw [List.getElem?_append_right (by omega), hkl, Nat.sub_self]; rfl, hz⟩
  rintro acc F' O' ba H4 ⟨B, rfl, hBl, hB, rfl, rfl⟩ hh
  have hBl' : (B.length : Int) = size := by omega
  have hBm : ∀ x ∈ B, x ∈ menuL := fun x hx => by
    obtain ⟨j, hj⟩ := List.getElem?_of_mem hx
    have hjl := (List.getElem?_eq_some_iff.mp hj).1
    obtain ⟨z, e1, e2⟩ := hB j (by omega)
    rw [hj] at e1
    rw [Option.some.inj e1]
    exact List.mem_of_getElem? e2
  have hBnd : B.Nodup := by
    refine List.pairwise_iff_getElem.mpr fun i j hi hj hij he => ?_
    obtain ⟨z, e1, e2⟩ := hB i (by omega)
    obtain ⟨z', e3, e4⟩ := hB j (by omega)
    rw [List.getElem?_eq_getElem hi] at e1
    rw [List.getElem?_eq_getElem hj] at e3
    have he : z = z' := (Option.some.inj e1).symm.trans (he.trans (Option.some.inj e3))
    subst he
    have hi16 := (List.getElem?_eq_some_iff.mp e2).1
    have := (List.getElem?_inj hi16 menu_nd).mp (e2.trans e4.symm)
    omega
  have hBok : ∀ x ∈ B, PyData.strOk x = true := fun x hx => menu_ok x (hBm x hx)
  have fba : upd F3 ba (.lst (B.map V.str)) ba = some (.lst (B.map V.str)) := upd_same
  have dq3 := dq3.up hh.grow _ _
  have h4 := hh.frz
  generalize upd F3 ba (.lst (B.map V.str)) = F4 at fba dq3 h4
  walk_at "gg"
  -- fates
  refine k_lcR1 (by omega) (by omega) h4 (fun i acc F' O' => ∃ (ks : List Int) (ws : List V) (rows : List (Int × Int)), acc = ks.map V.int ∧ ks.length = i ∧ [(c, HO.lst ws)] = O' ∧ DqAll F' ws (rows.map cellD) ∧ rows.length ≤ 100 ∧ Same F4 F') ⟨[], ws3, rows3, rfl, rfl, rfl, dq3, l3, Same.refl _⟩ ?_ ?_
  · rintro i acc F' O' D H5 hi ⟨ks, ws, rows, rfl, rfl, rfl, dq, hrl, sF⟩ hh
    walk_at "gg"
    refine ⟨c, 6, F', ws, rows, rfl, hh.drop, dq, hrl, by decide, by decide, fun H6 F6 ws6 rows6 r hb g hs dq6 l6 r0 r1 => ?_⟩
    have h6 := hh.grown (by walk_at "c") hb g hs.same (hs.get (List.Mem.head _))
    walk_at "gg"
    refine g_rI (by show (0 : Int) < 6; decide) ?_
    exact k_turn h6 (by rw [List.length_map]; omega) ⟨ks ++ [_], ws6, rows6, by rw [List.map_append]; rfl, by rw [List.length_append]; rfl, rfl, dq6, l6, sF.trans g.1⟩
  rintro acc F5 O' fa H5 ⟨fts, ws, rows, rfl, hfl, rfl, dq, hrl, sF5⟩ hh
  have ffa : upd F5 fa (.lst (fts.map V.int)) fa = some (.lst (fts.map V.int)) := upd_same
  have dq := dq.up hh.grow _ _
  have fba := hh.grow _ _ (sF5 _ _ fba)
  have h5 := hh.frz
  generalize upd F5 fa (.lst (fts.map V.int)) = F6 at ffa dq fba h5
  walk_at "gg"
  -- kept
  refine k_lcL (by walk_at "h") h5 (fun i acc F' O' => ∃ ks : List Bool, acc = ks.map V.bl ∧ ks.length = i ∧ Same F6 F' ∧ [(c, HO.lst ws)] = O') ⟨[], rfl, rfl, Same.refl _, rfl⟩ ?_ ?_ ?_
  · rintro i acc F' O' H6 ⟨ks, _, _, sF, _⟩ hh
    exact hh.same _ _ (sF _ _ ffa)
  · rintro i x acc F' O' D H6 hx ⟨ks, rfl, hkl, sF, rfl⟩ hh
    have hi := (List.getElem?_eq_some_iff.mp hx).1
    rw [List.length_map] at hi
    rw [List.getElem?_map] at hx
    obtain ⟨z, hz, rfl⟩ := Option.map_eq_some_iff.mp hx
    walk_at "gg"
    refine g_ktupF (by walk_at "sz") hh (fun T H7 F7 n7 s7 f7 h7 => ?_)
    refine g_notinFT (h7.same _ _ f7) rfl rfl ?_
    exact k_turn h7 (by rw [List.length_map]; omega) ⟨ks ++ [_], by rw [List.map_append]; rfl, by rw [List.length_append]; show ks.length + 1 = _; omega, sF.trans s7, rfl⟩
  rintro acc F7 O' kA H6 ⟨K1, rfl, hK1, sF7, rfl⟩ hh
  rw [List.length_map] at hK1
  have fkA : upd F7 kA (.lst (K1.map V.bl)) kA = some (.lst (K1.map V.bl)) := upd_same
  have g7 := sF7.trans hh.grow
  have h6 := hh.frz
  generalize upd F7 kA (.lst (K1.map V.bl)) = F8 at fkA g7 h6
  have ffa := g7 _ _ ffa
  have fba := g7 _ _ fba
  have dq := dq.up g7 _ _
  walk_at "gg"
  refine g_klst (by walk_at "sz") h6 (fun kp H7 n7 h7 => ?_)
  walk_at "gg"
  refine k_lcL (by walk_at "h") h7 (fun i acc F' O' => ∃ ks : List Bool, acc = ks.map V.bl ∧ ks.length = i ∧ Same F8 F' ∧ [(kp, HO.lst [.ref kA]), (c, HO.lst ws)] = O') ⟨[], rfl, rfl, Same.refl _, rfl⟩ ?_ ?_ ?_
  · rintro i acc F' O' H8 ⟨ks, _, _, sF, _⟩ hh
    exact hh.same _ _ (sF _ _ ffa)
  · rintro i x acc F' O' D H8 hx ⟨ks, rfl, hkl, sF, rfl⟩ hh
    have hi := (List.getElem?_eq_some_iff.mp hx).1
    rw [List.length_map] at hi
    rw [List.getElem?_map] at hx
    obtain ⟨z, hz, rfl⟩ := Option.map_eq_some_iff.mp hx
    walk_at "gg"
    refine g_ktupF (by walk_at "sz") hh (fun T H9 F9 n9 s9 f9 h9 => ?_)
    refine g_notinFT (h9.same _ _ f9) rfl rfl ?_
    exact k_turn h9 (by rw [List.length_map]; omega) ⟨ks ++ [_], by rw [List.map_append]; rfl, by rw [List.length_append]; show ks.length + 1 = _; omega, sF.trans s9, rfl⟩
  rintro acc F9 O' kB H8 ⟨K2, rfl, hK2, sF9, rfl⟩ hh
  rw [List.length_map] at hK2
  have fkB : upd F9 kB (.lst (K2.map V.bl)) kB = some (.lst (K2.map V.bl)) := upd_same
  have g9 := sF9.trans hh.grow
  have h8 := hh.frz
  generalize upd F9 kB (.lst (K2.map V.bl)) = F10 at fkB g9 h8
  have fkA := g9 _ _ fkA
  have fba := g9 _ _ fba
  have dq := dq.up g9 _ _
  walk_at "gg"
  refine g_append h8 (by walk_at "c") (szl (by show 1 < 100000; decide)) (fun H9 h9 => ?_)
  have h9 : Has F10 [(kp, .lst [.ref kA, .ref kB]), (c, .lst ws)] H9 := h9
  have fkp : upd F10 kp (.lst [.ref kA, .ref kB]) kp = some (.lst [.ref kA, .ref kB]) := upd_same
  have g10 := h9.grow
  have h9 := h9.frz
  generalize upd F10 kp (.lst [.ref kA, .ref kB]) = F11 at fkp g10 h9
  have fkA := g10 _ _ fkA
  have fkB := g10 _ _ fkB
  have fba := g10 _ _ fba
  have dq := dq.up g10 _ _
  walk_at "gg"
  -- new
  refine g_klstF (by walk_at "sz") h9 (fun e1 H10 G1 m1 t1 fe1 h10 => ?_)
  walk_at "gg"
  refine g_klstF (by walk_at "sz") h10 (fun e2 H11 G2 m2 t2 fe2 h11 => ?_)
  walk_at "gg"
  refine g_klstF (by walk_at "sz") h11 (fun e3 H12 G3 m3 t3 fe3 h12 => ?_)
  walk_at "gg"
  refine g_klstF (by walk_at "sz") h12 (fun e4 H13 G4 m4 t4 fe4 h13 => ?_)
  walk_at "gg"
  refine g_klstF (by walk_at "sz") h13 (fun e5 H14 G5 m5 t5 fe5 h14 => ?_)
  walk_at "gg"
  refine g_klstF (by walk_at "sz") h14 (fun e6 H15 G6 m6 t6 fe6 h15 => ?_)
  walk_at "gg"
  refine g_klstF (by walk_at "sz") h15 (fun nl H16 G7 m7 t7 fnl h16 => ?_)
  have u27 := t2.trans (t3.trans (t4.trans (t5.trans (t6.trans t7))))
  have u37 := t3.trans (t4.trans (t5.trans (t6.trans t7)))
  have u47 := t4.trans (t5.trans (t6.trans t7))
  have u57 := t5.trans (t6.trans t7)
  have u67 := t6.trans t7
  have u17 := t1.trans u27
  have dnew : DqAll G7 [.ref e1, .ref e2, .ref e3, .ref e4, .ref e5, .ref e6] (newL.map tl) :=
    .cons (Dq.strs (xs := []) (u27 _ _ fe1)) (.cons (Dq.strs (xs := []) (u37 _ _ fe2)) (.cons (Dq.strs (xs := ["x"]) (u47 _ _ fe3)) (.cons (Dq.strs (xs := []) (u57 _ _ fe4)) (.cons (Dq.strs (xs := ["x "]) (u67 _ _ fe5)) (.cons (Dq.strs (xs := ["x", "c"]) (t7 _ _ fe6)) .nil)))))
  have fkp := u17 _ _ fkp
  have fkA := u17 _ _ fkA
  have fkB := u17 _ _ fkB
  have fba := u17 _ _ fba
  have dq := dq.up u17 _ _
  clear u17 u27 u37 u47 u57 u67 t1 t2 t3 t4 t5 t6 t7 h10 h11 h12 h13 h14 h15 fe1 fe2 fe3 fe4 fe5 fe6
  walk_at "gg"
  -- ours
  refine k_lcR1 (by omega) (by omega) h16 (fun i acc F' O' => ∃ (ks : List (List Str)) (ws : List V) (rows : List (Int × Int)), DqAll F' acc (ks.map tl) ∧ ks.length = i ∧ (∀ k ∈ ks, k ∈ newL) ∧ [(c, HO.lst ws)] = O' ∧ DqAll F' ws (rows.map cellD) ∧ rows.length ≤ 100 ∧ Same G7 F') ⟨[], ws, rows, .nil, rfl, (fun k hk => by cases hk), rfl, dq, hrl, Same.refl _⟩ ?_ ?_
  · rintro i acc F' O' D H5 hi ⟨ks, ws, rows, da, rfl, hk, rfl, dq, hrl, sF⟩ hh
    have hal : acc.length = ks.length := by rw [da.len, List.length_map]
    walk_at "gg"
    refine ⟨c, 6, F', ws, rows, rfl, hh.drop, dq, hrl, by decide, by decide, fun H6 F6 ws6 rows6 r hb g hs dq6 l6 r0 r1 => ?_⟩
    have h6 := hh.grown (by walk_at "c") hb g hs.same (hs.get (List.Mem.head _))
    have fnl6 := g.1 _ _ (sF _ _ fnl)
    walk_at "gg"
    refine g_mulI (.inl ⟨by decide, by decide⟩) ?_
    walk_at "gg"
    refine g_rI (by show (0 : Int) < 6; decide) ?_
    refine g_ixV (by walk_at "h") (Int.emod_nonneg _ (by decide)) (by show _ < (6 : Int); exact Int.emod_lt_of_pos _ (by decide)) (fun v hv => ?_)
    obtain ⟨d, hd, dv⟩ := dnew.get hv
    rw [List.getElem?_map] at hd
    obtain ⟨L, hL, rfl⟩ := Option.map_eq_some_iff.mp hd
    refine k_turn h6 (by omega) ⟨ks ++ [L], ws6, rows6, ?_, by rw [List.length_append]; rfl, fun k hk' => ?_, rfl, dq6, l6, sF.trans g.1⟩
    · rw [List.map_append]
      exact (da.up g.1 _ _).snoc (dv.up (sF.trans g.1) _ _)
    · rcases List.mem_append.mp hk' with hk' | hk'
      · exact hk k hk'
      · rw [List.mem_singleton.mp hk']; exact List.mem_of_getElem? hL
  rintro acc F12 O' ou H17 ⟨N1, ws, rows, dN1, hN1, hm1, rfl, dq, hrl, sF12⟩ hh
  have fou : upd F12 ou (.lst acc) ou = some (.lst acc) := upd_same
  have g12 := sF12.trans hh.grow
  have dq := dq.up hh.grow _ _
  have dN1 := dN1.up hh.grow _ _
  have h17 := hh.frz
  generalize upd F12 ou (.lst acc) = F13 at fou g12 dq dN1 h17
  have fnl := g12 _ _ fnl
  have dnew := dnew.up g12 _ _
  have fkp := g12 _ _ fkp
  have fkA := g12 _ _ fkA
  have fkB := g12 _ _ fkB
  have fba := g12 _ _ fba
  walk_at "gg"
  -- theirs
  refine k_lcR1 (by omega) (by omega) h17 (fun i acc F' O' => ∃ (ks : List (List Str)) (ws : List V) (rows : List (Int × Int)), DqAll F' acc (ks.map tl) ∧ ks.length = i ∧ (∀ k ∈ ks, k ∈ newL) ∧ [(c, HO.lst ws)] = O' ∧ DqAll F' ws (rows.map cellD) ∧ rows.length ≤ 100 ∧ Same F13 F') ⟨[], ws, rows, .nil, rfl, (fun k hk => by cases hk), rfl, dq, hrl, Same.refl _⟩ ?_ ?_
  · rintro i acc F' O' D H5 hi ⟨ks, ws, rows, da, rfl, hk, rfl, dq, hrl, sF⟩ hh
    have hal : acc.length = ks.length := by rw [da.len, List.length_map]
    walk_at "gg"
    refine ⟨c, 6, F', ws, rows, rfl, hh.drop, dq, hrl, by decide, by decide, fun H6 F6 ws6 rows6 r hb g hs dq6 l6 r0 r1 => ?_⟩
    have h6 := hh.grown (by walk_at "c") hb g hs.same (hs.get (List.Mem.head _))
    have fnl6 := g.1 _ _ (sF _ _ fnl)
    walk_at "gg"
    refine g_mulI (.inl ⟨by decide, by decide⟩) ?_
    walk_at "gg"
    refine g_rI (by show (0 : Int) < 6; decide) ?_
    refine g_ixV (by walk_at "h") (Int.emod_nonneg _ (by decide)) (by show _ < (6 : Int); exact Int.emod_lt_of_pos _ (by decide)) (fun v hv => ?_)
    obtain ⟨d, hd, dv⟩ := dnew.get hv
    rw [List.getElem?_map] at hd
    obtain ⟨L, hL, rfl⟩ := Option.map_eq_some_iff.mp hd
    refine k_turn h6 (by omega) ⟨ks ++ [L], ws6, rows6, ?_, by rw [List.length_append]; rfl, fun k hk' => ?_, rfl, dq6, l6, sF.trans g.1⟩
    · rw [List.map_append]
      exact (da.up g.1 _ _).snoc (dv.up (sF.trans g.1) _ _)
    · rcases List.mem_append.mp hk' with hk' | hk'
      · exact hk k hk'
      · rw [List.mem_singleton.mp hk']; exact List.mem_of_getElem? hL
  rintro acc2 F14 O' th H18 ⟨N2, ws, rows, dN2, hN2, hm2, rfl, dq, hrl, sF14⟩ hh
  have fth : upd F14 th (.lst acc2) th = some (.lst acc2) := upd_same
  have g14 := sF14.trans hh.grow
  have dN2 := dN2.up hh.grow _ _
  have h18 := hh.frz
  generalize upd F14 th (.lst acc2) = F15 at fth g14 dN2 h18
  have h18 : Has F15 [] H18 := h18.drop
  have fou := g14 _ _ fou
  have dN1 := dN1.up g14 _ _
  have fkp := g14 _ _ fkp
  have fkA := g14 _ _ fkA
  have fkB := g14 _ _ fkB
  have fba := g14 _ _ fba
  have eb : B.length = B.length := rfl
  have eN1 : N1.length = B.length + 1 := by omega
  have eN2 : N2.length = B.length + 1 := by omega
  have eK1 : K1.length = B.length := by omega
  have eK2 : K2.length = B.length := by omega
  have q0 : ((List.range B.length).map (mkI B K1 K2 N1 N2)).length ≤ 10 := by rw [List.length_map, List.length_range]; omega
  have q0' : ((List.range B.length).map (mkI B K2 K1 N2 N1)).length ≤ 10 := by rw [List.length_map, List.length_range]; omega
  have q1 : ((List.range B.length).map (mkI B K1 K2 N1 N2)).map (·.1) = B := by rw [List.map_map]; exact rd B "" rfl
  have q1' : ((List.range B.length).map (mkI B K2 K1 N2 N1)).map (·.1) = B := by rw [List.map_map]; exact rd B "" rfl
  have q2 : ((List.range B.length).map (mkI B K1 K2 N1 N2)).map (·.2.1.1) = K1 := by rw [List.map_map]; exact rd K1 false eK1
  have q2' : ((List.range B.length).map (mkI B K2 K1 N2 N1)).map (·.2.1.1) = K2 := by rw [List.map_map]; exact rd K2 false eK2
  have q3 : ((List.range B.length).map (mkI B K1 K2 N1 N2)).map (·.2.2.1) = K2 := by rw [List.map_map]; exact rd K2 false eK2
  have q3' : ((List.range B.length).map (mkI B K2 K1 N2 N1)).map (·.2.2.1) = K1 := by rw [List.map_map]; exact rd K1 false eK1
  have q4 : ((List.range B.length).map (mkI B K1 K2 N1 N2)).map (·.2.1.2) ++ [N1.getD B.length []] = N1 := by rw [List.map_map]; exact rd1 N1 [] eN1
  have q4' : ((List.range B.length).map (mkI B K2 K1 N2 N1)).map (·.2.1.2) ++ [N2.getD B.length []] = N2 := by rw [List.map_map]; exact rd1 N2 [] eN2
  have q5 : ((List.range B.length).map (mkI B K1 K2 N1 N2)).map (·.2.2.2) ++ [N2.getD B.length []] = N2 := by rw [List.map_map]; exact rd1 N2 [] eN2
  have q5' : ((List.range B.length).map (mkI B K2 K1 N2 N1)).map (·.2.2.2) ++ [N1.getD B.length []] = N1 := by rw [List.map_map]; exact rd1 N1 [] eN1
  generalize (List.range B.length).map (mkI B K1 K2 N1 N2) = its at q0 q1 q2 q3 q4 q5
  generalize (List.range B.length).map (mkI B K2 K1 N2 N1) = its' at q0' q1' q2' q3' q4' q5'
  have z1 : ∀ L ∈ N1, L.length ≤ 2 ∧ okL L := fun L h => ⟨(new_ok L (hm1 L h)).1, (new_ok L (hm1 L h)).2.1⟩
  have z2 : ∀ L ∈ N2, L.length ≤ 2 ∧ okL L := fun L h => ⟨(new_ok L (hm2 L h)).1, (new_ok L (hm2 L h)).2.1⟩
  have y1 : ∀ L ∈ N1, ∀ y ∈ L, ¬ y ∈ menuL := fun L h => (new_ok L (hm1 L h)).2.2
  have y2 : ∀ L ∈ N2, ∀ y ∈ L, ¬ y ∈ menuL := fun L h => (new_ok L (hm2 L h)).2.2
  walk_at "gg"
  refine g_klstF (by walk_at "sz") h18 (fun nw H19 F16 n19 s16 fnw h19 => ?_)
  have fou := s16 _ _ fou
  have fth := s16 _ _ fth
  have dN1 := dN1.up s16 _ _
  have dN2 := dN2.up s16 _ _
  have fkp := s16 _ _ fkp
  have fkA := s16 _ _ fkA
  have fkB := s16 _ _ fkB
  have fba := s16 _ _ fba
  walk_at "gg"
  refine ⟨ba, kp, nw, kA, kB, ou, th, its, N1.getD B.length [], N2.getD B.length [], acc, acc2, (· ∈ menuL), rfl, by rw [q1]; exact h19.same _ _ fba, by walk_at "h", by walk_at "h", by rw [q2]; exact h19.same _ _ fkA, by rw [q3]; exact h19.same _ _ fkB, by walk_at "h", by walk_at "h", by rw [q4]; exact dN1.up h19.same _ _, by rw [q5]; exact dN2.up h19.same _ _, q0, by rw [q1]; exact hBok, by rw [q4]; exact z1, by rw [q5]; exact z2, by rw [q1]; exact hBnd, by rw [q1]; exact hBm, by rw [q4]; exact y1, by rw [q5]; exact y2, fun H20 s20 => ?_⟩
  have h20 := h19.on s20
  walk_at "gg"
  refine g_ixL (v := .ref kB) (by walk_at "h") (atI_nat (j := 1) rfl) ?_
  walk_at "gg"
  refine g_ixL (v := .ref kA) (by walk_at "h") (atI_nat (j := 0) rfl) ?_
  walk_at "gg"
  refine g_klstF (by walk_at "sz") h20 (fun kp' H21 F17 n21 s17 fkp' h21 => ?_)
  walk_at "gg"
  refine g_klstF (by walk_at "sz") h21 (fun nw' H22 F18 n22 s18 fnw' h22 => ?_)
  have s178 := s17.trans s18
  have fkp' := s18 _ _ fkp'
  have fou := s178 _ _ fou
  have fth := s178 _ _ fth
  have dN1 := dN1.up s178 _ _
  have dN2 := dN2.up s178 _ _
  have fkA := s178 _ _ fkA
  have fkB := s178 _ _ fkB
  have fba := s178 _ _ fba
  walk_at "gg"
  refine ⟨ba, kp', nw', kB, kA, th, ou, its', N2.getD B.length [], N1.getD B.length [], acc2, acc, (· ∈ menuL), rfl, by rw [q1']; exact h22.same _ _ fba, by walk_at "h", by walk_at "h", by rw [q2']; exact h22.same _ _ fkB, by rw [q3']; exact h22.same _ _ fkA, by walk_at "h", by walk_at "h", by rw [q4']; exact dN2.up h22.same _ _, by rw [q5']; exact dN1.up h22.same _ _, q0', by rw [q1']; exact hBok, by rw [q4']; exact z2, by rw [q5']; exact z1, by rw [q1']; exact hBnd, by rw [q1']; exact hBm, by rw [q4']; exact y2, by rw [q5']; exact y1, fun H23 s23 => ?_⟩
  exact q H23
end
end M
end K04

namespace K04
open PySem PySem.Spec PyProof.Rows L2 Qk
abbrev sp_law (K : PySem.W.Frag) : Sp := M.sp_law K
theorem sp_law_start {K : PySem.W.Frag} {H : Hp} {a : Addr} {ns : List Int} (hl : ns.length ≤ 63) (hS : SqL K H a (ns.map V.int)) : sp_law K [.ref a] H (fun v _ => v = .bl true) (fun _ _ _ => False) := M.sp_law_start hl hS
theorem ok_law {P : Program} {w : World} {K : PySem.W.Frag} {mg : Str → Option Value} {base : Heap} (T : Txt K mg) : FnOk P w K mg base CX0 8 T.f_law T.fd_law ["script"] (sp_law K) := M.ok_law T
theorem all_mk {l : PySem.W.OpenLaw} {w : World} {K : PySem.W.Frag} {h : Heap} {mg : Str → Option Value} {fa f1 f2 f3 f4 f5 f6 f7 f8 f9 f10 f11 f12 f13 f14 f15 f16 : Addr} (X : K.In h) (G : h.Ns mainGlobals mg) (hfa : mg "law" = some (.ref fa))
    {od1 an1 od2 an2 od3 an3 od4 an4 od5 an5 od6 an6 od7 an7 od8 an8 od9 an9 od10 an10 od11 an11 od12 an12 od13 an13 od14 an14 od15 an15 od16 an16 : Option Addr} {sl1 sl2 sl3 sl4 sl5 sl6 sl7 sl8 sl9 sl10 sl11 sl12 sl13 sl14 sl15 sl16 : Array (Option Value)} {oc1 kV1 dc1 pm1 cd1 ct1 oc2 kV2 dc2 pm2 cd2 ct2 oc3 kV3 dc3 pm3 cd3 ct3 oc4 kV4 dc4 pm4 cd4 ct4 oc5 kV5 dc5 pm5 cd5 ct5 oc6 kV6 dc6 pm6 cd6 ct6 oc7 kV7 dc7 pm7 cd7 ct7 oc8 kV8 dc8 pm8 cd8 ct8 oc9 kV9 dc9 pm9 cd9 ct9 oc10 kV10 dc10 pm10 cd10 ct10 oc11 kV11 dc11 pm11 cd11 ct11 oc12 kV12 dc12 pm12 cd12 ct12 oc13 kV13 dc13 pm13 cd13 ct13 oc14 kV14 dc14 pm14 cd14 ct14 oc15 kV15 dc15 pm15 cd15 ct15 oc16 kV16 dc16 pm16 cd16 ct16 : Value}
    (a1 : PySem.W.nsIn K mainGlobals "_common_lengths" = some (some (.ref f1))) (l1 : K.lookup f1 = some ⟨oc1, od1, .func (PySem.W.fnOf "_common_lengths" "_common_lengths" (defArgs s_common_lengths) (defBody s_common_lengths) (defScope s_common_lengths) .none kV1 dc1 pm1 an1 cd1 ct1), sl1⟩) (c1 : PySem.W.codeIn K cd1 "_common_lengths" = true) (k1 : PySem.W.keepIn K (.ref f1) = true)
    (a2 : PySem.W.nsIn K mainGlobals "matched" = some (some (.ref f2))) (l2 : K.lookup f2 = some ⟨oc2, od2, .func (PySem.W.fnOf "matched" "matched" (defArgs s_matched) (defBody s_matched) (defScope s_matched) .none kV2 dc2 pm2 an2 cd2 ct2), sl2⟩) (c2 : PySem.W.codeIn K cd2 "matched" = true) (k2 : PySem.W.keepIn K (.ref f2) = true)
    (a3 : PySem.W.nsIn K mainGlobals "_stable_lines" = some (some (.ref f3))) (l3 : K.lookup f3 = some ⟨oc3, od3, .func (PySem.W.fnOf "_stable_lines" "_stable_lines" (defArgs s_stable_lines) (defBody s_stable_lines) (defScope s_stable_lines) .none kV3 dc3 pm3 an3 cd3 ct3), sl3⟩) (c3 : PySem.W.codeIn K cd3 "_stable_lines" = true) (k3 : PySem.W.keepIn K (.ref f3) = true)
    (a4 : PySem.W.nsIn K mainGlobals "_runs" = some (some (.ref f4))) (l4 : K.lookup f4 = some ⟨oc4, od4, .func (PySem.W.fnOf "_runs" "_runs" (defArgs s_runs) (defBody s_runs) (defScope s_runs) .none kV4 dc4 pm4 an4 cd4 ct4), sl4⟩) (c4 : PySem.W.codeIn K cd4 "_runs" = true) (k4 : PySem.W.keepIn K (.ref f4) = true)
    (a5 : PySem.W.nsIn K mainGlobals "text_chunks" = some (some (.ref f5))) (l5 : K.lookup f5 = some ⟨oc5, od5, .func (PySem.W.fnOf "text_chunks" "text_chunks" (defArgs s_text_chunks) (defBody s_text_chunks) (defScope s_text_chunks) .none kV5 dc5 pm5 an5 cd5 ct5), sl5⟩) (c5 : PySem.W.codeIn K cd5 "text_chunks" = true) (k5 : PySem.W.keepIn K (.ref f5) = true)
    (a6 : PySem.W.nsIn K mainGlobals "_clash_lines" = some (some (.ref f6))) (l6 : K.lookup f6 = some ⟨oc6, od6, .func (PySem.W.fnOf "_clash_lines" "_clash_lines" (defArgs s_clash_lines) (defBody s_clash_lines) (defScope s_clash_lines) .none kV6 dc6 pm6 an6 cd6 ct6), sl6⟩) (c6 : PySem.W.codeIn K cd6 "_clash_lines" = true) (k6 : PySem.W.keepIn K (.ref f6) = true)
    (a7 : PySem.W.nsIn K mainGlobals "merge_texts" = some (some (.ref f7))) (l7 : K.lookup f7 = some ⟨oc7, od7, .func (PySem.W.fnOf "merge_texts" "merge_texts" (defArgs s_merge_texts) (defBody s_merge_texts) (defScope s_merge_texts) .none kV7 dc7 pm7 an7 cd7 ct7), sl7⟩) (c7 : PySem.W.codeIn K cd7 "merge_texts" = true) (k7 : PySem.W.keepIn K (.ref f7) = true)
    (a8 : PySem.W.nsIn K mainGlobals "_law_feed" = some (some (.ref f8))) (l8 : K.lookup f8 = some ⟨oc8, od8, .func (PySem.W.fnOf "_law_feed" "_law_feed" (defArgs s_l_feed) (defBody s_l_feed) (defScope s_l_feed) .none kV8 dc8 pm8 an8 cd8 ct8), sl8⟩) (c8 : PySem.W.codeIn K cd8 "_law_feed" = true) (k8 : PySem.W.keepIn K (.ref f8) = true)
    (a9 : PySem.W.nsIn K mainGlobals "_law_next" = some (some (.ref f9))) (l9 : K.lookup f9 = some ⟨oc9, od9, .func (PySem.W.fnOf "_law_next" "_law_next" (defArgs s_l_next) (defBody s_l_next) (defScope s_l_next) .none kV9 dc9 pm9 an9 cd9 ct9), sl9⟩) (c9 : PySem.W.codeIn K cd9 "_law_next" = true) (k9 : PySem.W.keepIn K (.ref f9) = true)
    (a10 : PySem.W.nsIn K mainGlobals "_law_same" = some (some (.ref f10))) (l10 : K.lookup f10 = some ⟨oc10, od10, .func (PySem.W.fnOf "_law_same" "_law_same" (defArgs s_l_same) (defBody s_l_same) (defScope s_l_same) .none kV10 dc10 pm10 an10 cd10 ct10), sl10⟩) (c10 : PySem.W.codeIn K cd10 "_law_same" = true) (k10 : PySem.W.keepIn K (.ref f10) = true)
    (a11 : PySem.W.nsIn K mainGlobals "_law_menu" = some (some (.ref f11))) (l11 : K.lookup f11 = some ⟨oc11, od11, .func (PySem.W.fnOf "_law_menu" "_law_menu" (defArgs s_l_menu) (defBody s_l_menu) (defScope s_l_menu) .none kV11 dc11 pm11 an11 cd11 ct11), sl11⟩) (c11 : PySem.W.codeIn K cd11 "_law_menu" = true) (k11 : PySem.W.keepIn K (.ref f11) = true)
    (a12 : PySem.W.nsIn K mainGlobals "_law_decided" = some (some (.ref f12))) (l12 : K.lookup f12 = some ⟨oc12, od12, .func (PySem.W.fnOf "_law_decided" "_law_decided" (defArgs s_l_decided) (defBody s_l_decided) (defScope s_l_decided) .none kV12 dc12 pm12 an12 cd12 ct12), sl12⟩) (c12 : PySem.W.codeIn K cd12 "_law_decided" = true) (k12 : PySem.W.keepIn K (.ref f12) = true)
    (a13 : PySem.W.nsIn K mainGlobals "_law_side" = some (some (.ref f13))) (l13 : K.lookup f13 = some ⟨oc13, od13, .func (PySem.W.fnOf "_law_side" "_law_side" (defArgs s_l_side) (defBody s_l_side) (defScope s_l_side) .none kV13 dc13 pm13 an13 cd13 ct13), sl13⟩) (c13 : PySem.W.codeIn K cd13 "_law_side" = true) (k13 : PySem.W.keepIn K (.ref f13) = true)
    (a14 : PySem.W.nsIn K mainGlobals "_law_merged" = some (some (.ref f14))) (l14 : K.lookup f14 = some ⟨oc14, od14, .func (PySem.W.fnOf "_law_merged" "_law_merged" (defArgs s_l_merged) (defBody s_l_merged) (defScope s_l_merged) .none kV14 dc14 pm14 an14 cd14 ct14), sl14⟩) (c14 : PySem.W.codeIn K cd14 "_law_merged" = true) (k14 : PySem.W.keepIn K (.ref f14) = true)
    (a15 : PySem.W.nsIn K mainGlobals "_law_holds" = some (some (.ref f15))) (l15 : K.lookup f15 = some ⟨oc15, od15, .func (PySem.W.fnOf "_law_holds" "_law_holds" (defArgs s_l_holds) (defBody s_l_holds) (defScope s_l_holds) .none kV15 dc15 pm15 an15 cd15 ct15), sl15⟩) (c15 : PySem.W.codeIn K cd15 "_law_holds" = true) (k15 : PySem.W.keepIn K (.ref f15) = true)
    (a16 : PySem.W.nsIn K mainGlobals "law" = some (some (.ref f16))) (l16 : K.lookup f16 = some ⟨oc16, od16, .func (PySem.W.fnOf "law" "law" (defArgs s_law) (defBody s_law) (defScope s_law) .none kV16 dc16 pm16 an16 cd16 ct16), sl16⟩) (c16 : PySem.W.codeIn K cd16 "law" = true) (k16 : PySem.W.keepIn K (.ref f16) = true)
    (z_abs : PySem.W.nsIn K mainGlobals "abs" = some none)
    (z_bool : PySem.W.nsIn K mainGlobals "bool" = some none)
    (z_dict : PySem.W.nsIn K mainGlobals "dict" = some none)
    (z_int : PySem.W.nsIn K mainGlobals "int" = some none)
    (z_isinstance : PySem.W.nsIn K mainGlobals "isinstance" = some none)
    (z_len : PySem.W.nsIn K mainGlobals "len" = some none)
    (z_list : PySem.W.nsIn K mainGlobals "list" = some none)
    (z_max : PySem.W.nsIn K mainGlobals "max" = some none)
    (z_range : PySem.W.nsIn K mainGlobals "range" = some none)
    (z_str : PySem.W.nsIn K mainGlobals "str" = some none)
    (z_tuple : PySem.W.nsIn K mainGlobals "tuple" = some none)
    {ut_CLASH_START : Tok} (y_CLASH_START : PySem.W.nsIn K mainGlobals "CLASH_START" = some (some (.str "<<<<<<<" ut_CLASH_START)))
    {ut_CLASH_BASE : Tok} (y_CLASH_BASE : PySem.W.nsIn K mainGlobals "CLASH_BASE" = some (some (.str "|||||||" ut_CLASH_BASE)))
    {ut_CLASH_OTHER : Tok} (y_CLASH_OTHER : PySem.W.nsIn K mainGlobals "CLASH_OTHER" = some (some (.str "=======" ut_CLASH_OTHER)))
    {ut_CLASH_END : Tok} (y_CLASH_END : PySem.W.nsIn K mainGlobals "CLASH_END" = some (some (.str ">>>>>>>" ut_CLASH_END))) :
    ∃ fd : FuncData, (∀ (s : Shared) (v : Value), BindsTo s fd ⟨[v], []⟩ [("script", v)]) ∧ ∀ base : Heap, K.In base → base.Ns mainGlobals mg → FnOk l.prog w K mg base CX0 8 fa fd ["script"] (sp_law K) := by
  have e := hfa.symm.trans (PySem.W.mg_of X G a16)
  cases e
  have F1 := fun_mk (st := s_common_lengths) l1 c1 k1
  have b1 := F1.binds (ps := ["old", "new"]) fun _ _ _ _ _ _ us hl => match us, hl with | [_, _], _ => rfl
  have F2 := fun_mk (st := s_matched) l2 c2 k2
  have b2 := F2.binds (ps := ["old", "new"]) fun _ _ _ _ _ _ us hl => match us, hl with | [_, _], _ => rfl
  have F3 := fun_mk (st := s_stable_lines) l3 c3 k3
  have b3 := F3.binds (ps := ["base", "ours", "theirs"]) fun _ _ _ _ _ _ us hl => match us, hl with | [_, _, _], _ => rfl
  have F4 := fun_mk (st := s_runs) l4 c4 k4
  have b4 := F4.binds (ps := ["base", "ours", "theirs"]) fun _ _ _ _ _ _ us hl => match us, hl with | [_, _, _], _ => rfl
  have F5 := fun_mk (st := s_text_chunks) l5 c5 k5
  have b5 := F5.binds (ps := ["base", "ours", "theirs"]) fun _ _ _ _ _ _ us hl => match us, hl with | [_, _, _], _ => rfl
  have F6 := fun_mk (st := s_clash_lines) l6 c6 k6
  have b6 := F6.binds (ps := ["b", "x", "y"]) fun _ _ _ _ _ _ us hl => match us, hl with | [_, _, _], _ => rfl
  have F7 := fun_mk (st := s_merge_texts) l7 c7 k7
  have b7 := F7.binds (ps := ["base", "ours", "theirs"]) fun _ _ _ _ _ _ us hl => match us, hl with | [_, _, _], _ => rfl
  have F8 := fun_mk (st := s_l_feed) l8 c8 k8
  have b8 := F8.binds (ps := ["script"]) fun _ _ _ _ _ _ us hl => match us, hl with | [_], _ => rfl
  have F9 := fun_mk (st := s_l_next) l9 c9 k9
  have b9 := F9.binds (ps := ["cells", "many"]) fun _ _ _ _ _ _ us hl => match us, hl with | [_, _], _ => rfl
  have F10 := fun_mk (st := s_l_same) l10 c10 k10
  have b10 := F10.binds (ps := ["told", "due"]) fun _ _ _ _ _ _ us hl => match us, hl with | [_, _], _ => rfl
  have F11 := fun_mk (st := s_l_menu) l11 c11 k11
  have b11 := F11.binds (ps := ["place"]) fun _ _ _ _ _ _ us hl => match us, hl with | [_], _ => rfl
  have F12 := fun_mk (st := s_l_decided) l12 c12 k12
  have b12 := F12.binds (ps := ["base", "ours", "theirs"]) fun _ _ _ _ _ _ us hl => match us, hl with | [_, _, _], _ => rfl
  have F13 := fun_mk (st := s_l_side) l13 c13 k13
  have b13 := F13.binds (ps := ["base", "kept", "new"]) fun _ _ _ _ _ _ us hl => match us, hl with | [_, _, _], _ => rfl
  have F14 := fun_mk (st := s_l_merged) l14 c14 k14
  have b14 := F14.binds (ps := ["base", "kept", "new"]) fun _ _ _ _ _ _ us hl => match us, hl with | [_, _, _], _ => rfl
  have F15 := fun_mk (st := s_l_holds) l15 c15 k15
  have b15 := F15.binds (ps := ["base", "kept", "new"]) fun _ _ _ _ _ _ us hl => match us, hl with | [_, _, _], _ => rfl
  have F16 := fun_mk (st := s_law) l16 c16 k16
  have b16 := F16.binds (ps := ["script"]) fun _ _ _ _ _ _ us hl => match us, hl with | [_], _ => rfl
  exact ⟨_, fun s v => .of_eq rfl, fun base _ _ => ok_law ⟨_, _, F1, PySem.W.mg_of X G a1, b1, _, _, F2, PySem.W.mg_of X G a2, b2, _, _, F3, PySem.W.mg_of X G a3, b3, _, _, F4, PySem.W.mg_of X G a4, b4, _, _, F5, PySem.W.mg_of X G a5, b5, _, _, F6, PySem.W.mg_of X G a6, b6, _, _, F7, PySem.W.mg_of X G a7, b7, _, _, F8, PySem.W.mg_of X G a8, b8, _, _, F9, PySem.W.mg_of X G a9, b9, _, _, F10, PySem.W.mg_of X G a10, b10, _, _, F11, PySem.W.mg_of X G a11, b11, _, _, F12, PySem.W.mg_of X G a12, b12, _, _, F13, PySem.W.mg_of X G a13, b13, _, _, F14, PySem.W.mg_of X G a14, b14, _, _, F15, PySem.W.mg_of X G a15, b15, _, _, F16, PySem.W.mg_of X G a16, b16, PySem.W.mg_none_of X G z_abs, PySem.W.mg_none_of X G z_bool, PySem.W.mg_none_of X G z_dict, PySem.W.mg_none_of X G z_int, PySem.W.mg_none_of X G z_isinstance, PySem.W.mg_none_of X G z_len, PySem.W.mg_none_of X G z_list, PySem.W.mg_none_of X G z_max, PySem.W.mg_none_of X G z_range, PySem.W.mg_none_of X G z_str, PySem.W.mg_none_of X G z_tuple, ⟨_, PySem.W.mg_of X G y_CLASH_START, _, rfl⟩, ⟨_, PySem.W.mg_of X G y_CLASH_BASE, _, rfl⟩, ⟨_, PySem.W.mg_of X G y_CLASH_OTHER, _, rfl⟩, ⟨_, PySem.W.mg_of X G y_CLASH_END, _, rfl⟩⟩⟩
end K04
open PySem PySem.W PyProof.Rows
set_option maxHeartbeats 0 in
theorem PySem.Challenge.cw_partclones_k04_merge_unlike_lines_holds : PySem.Challenge.rw_partclones_k04_merge_unlike_lines.Holds := by
  w_on; o_law; k_head; (case hw => w_witness2)
  k_fill
  refine L2.walk_of (l := PySem.Challenge.rw_partclones_k04_merge_unlike_lines) (n := 63) (k := 8) (x := "script") (CX := fun _ => L2.CX0) (sp := fun w => K04.sp_law _) rfl (by decide) rfl ⟨rfl, by decide, by decide⟩ (fun w h Y => PySem.W.kIn_of Y) ?F (fun _ H a ns hl _ hS => K04.sp_law_start hl hS) (fun _ _ _ _ _ h => h)
  case F =>
    intro w mg fa h KX G hmg
    refine' K04.all_mk KX G hmg ?a1 ?l1 ?c1 ?k1 ?a2 ?l2 ?c2 ?k2 ?a3 ?l3 ?c3 ?k3 ?a4 ?l4 ?c4 ?k4 ?a5 ?l5 ?c5 ?k5 ?a6 ?l6 ?c6 ?k6 ?a7 ?l7 ?c7 ?k7 ?a8 ?l8 ?c8 ?k8 ?a9 ?l9 ?c9 ?k9 ?a10 ?l10 ?c10 ?k10 ?a11 ?l11 ?c11 ?k11 ?a12 ?l12 ?c12 ?k12 ?a13 ?l13 ?c13 ?k13 ?a14 ?l14 ?c14 ?k14 ?a15 ?l15 ?c15 ?k15 ?a16 ?l16 ?c16 ?k16 ?z_abs ?z_bool ?z_dict ?z_int ?z_isinstance ?z_len ?z_list ?z_max ?z_range ?z_str ?z_tuple ?y_CLASH_START ?y_CLASH_BASE ?y_CLASH_OTHER ?y_CLASH_END
    (case a1 => k_is)
    (case l1 => k_is)
    (case c1 => k_is)
    (case k1 => k_is)
    (case a2 => k_is)
    (case l2 => k_is)
    (case c2 => k_is)
    (case k2 => k_is)
    (case a3 => k_is)
    (case l3 => k_is)
    (case c3 => k_is)
    (case k3 => k_is)
    (case a4 => k_is)
    (case l4 => k_is)
    (case c4 => k_is)
    (case k4 => k_is)
    (case a5 => k_is)
    (case l5 => k_is)
    (case c5 => k_is)
    (case k5 => k_is)
    (case a6 => k_is)
    (case l6 => k_is)
    (case c6 => k_is)
    (case k6 => k_is)
    (case a7 => k_is)
    (case l7 => k_is)
    (case c7 => k_is)
    (case k7 => k_is)
    (case a8 => k_is)
    (case l8 => k_is)
    (case c8 => k_is)
    (case k8 => k_is)
    (case a9 => k_is)
    (case l9 => k_is)
    (case c9 => k_is)
    (case k9 => k_is)
    (case a10 => k_is)
    (case l10 => k_is)
    (case c10 => k_is)
    (case k10 => k_is)
    (case a11 => k_is)
    (case l11 => k_is)
    (case c11 => k_is)
    (case k11 => k_is)
    (case a12 => k_is)
    (case l12 => k_is)
    (case c12 => k_is)
    (case k12 => k_is)
    (case a13 => k_is)
    (case l13 => k_is)
    (case c13 => k_is)
    (case k13 => k_is)
    (case a14 => k_is)
    (case l14 => k_is)
    (case c14 => k_is)
    (case k14 => k_is)
    (case a15 => k_is)
    (case l15 => k_is)
    (case c15 => k_is)
    (case k15 => k_is)
    (case a16 => k_is)
    (case l16 => k_is)
    (case c16 => k_is)
    (case k16 => k_is)
    (case z_abs => k_is)
    (case z_bool => k_is)
    (case z_dict => k_is)
    (case z_int => k_is)
    (case z_isinstance => k_is)
    (case z_len => k_is)
    (case z_list => k_is)
    (case z_max => k_is)
    (case z_range => k_is)
    (case z_str => k_is)
    (case z_tuple => k_is)
    (case y_CLASH_START => k_is)
    (case y_CLASH_BASE => k_is)
    (case y_CLASH_OTHER => k_is)
    (case y_CLASH_END => k_is)

