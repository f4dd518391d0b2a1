import PyProof.Rows.All
import Wide.All
import OpenK.AllK
import Wide.FinOn
import HandS.ForMost
import HandS.Small
import HandS.Style
import HandS.Flow
import HandS.Deep
import HandS.Ends
import PySem.Challenge.RW_partclones_k38_line_origins
set_option Elab.async false
set_option linter.all false
set_option maxRecDepth 100000
namespace Qk
open PySem PySem.Spec PyProof.Rows L2

/-! ### heaps -/
abbrev Own := List (Addr × HO)
structure Has (F : Hp) (O : Own) (H : Hp) : Prop where
  same : Same F H
  own : ∀ p ∈ O, F p.1 = none ∧ H p.1 = some p.2
  nd : (O.map (·.1)).Nodup

/-- O with the object at a changed from o to o' -/
inductive Chg : Own → Addr → HO → HO → Own → Prop
  | hd {a : Addr} {o o' : HO} {O : Own} : Chg ((a, o) :: O) a o o' ((a, o') :: O)
  | tl {a : Addr} {o o' : HO} {O O' : Own} {x : Addr × HO} : Chg O a o o' O' → Chg (x :: O) a o o' (x :: O')
theorem Chg.mem {O O' : Own} {a : Addr} {o o' : HO} (c : Chg O a o o' O') : (a, o) ∈ O := by
  induction c with
  | hd => exact List.Mem.head _
  | tl _ ih => exact List.Mem.tail _ ih
theorem Chg.fst {O O' : Own} {a : Addr} {o o' : HO} (c : Chg O a o o' O') : O'.map (·.1) = O.map (·.1) := by
  induction c with
  | hd => rfl
  | tl _ ih => rw [List.map_cons, List.map_cons, ih]
theorem Chg.own {O O' : Own} {a : Addr} {o o' : HO} (c : Chg O a o o' O') (nd : (O.map (·.1)).Nodup) : ∀ p ∈ O', p = (a, o') ∨ (p ∈ O ∧ p.1 ≠ a) := by
  induction c with
  | @hd a o o' O =>
    intro p hp
    rw [List.map_cons] at nd
    have nm := (List.nodup_cons.mp nd).1
    rcases List.mem_cons.mp hp with e | hp
    · exact .inl e
    · refine .inr ⟨List.mem_cons_of_mem _ hp, fun e => nm ?_⟩
      exact List.mem_map.mpr ⟨p, hp, e⟩
  | @tl a o o' O O' x c ih =>
    intro p hp
    rw [List.map_cons] at nd
    have nm := List.nodup_cons.mp nd
    rcases List.mem_cons.mp hp with e | hp
    · subst e
      refine .inr ⟨List.mem_cons_self, fun e => nm.1 ?_⟩
      rw [e]
      exact List.mem_map.mpr ⟨_, c.mem, rfl⟩
    · rcases ih nm.2 p hp with e | ⟨e, ne⟩
      · exact .inl e
      · exact .inr ⟨List.mem_cons_of_mem _ e, ne⟩

section
variable {F F' : Hp} {O O' : Own} {H H' : Hp} {a p : Addr} {o o' : HO} {K : PySem.W.Frag} {xs : List V}
theorem Has.start (H : Hp) : Has H [] H := ⟨Same.refl H, fun _ h => (List.not_mem_nil h).elim, List.nodup_nil⟩
theorem Has.get (h : Has F O H) (m : (a, o) ∈ O) : H a = some o := (h.own _ m).2
theorem Has.but (h : Has F O H) (c : Chg O a o o' O') (s : ∀ b u, b ≠ a → H b = some u → H' b = some u) (e : H' a = some o') : Has F O' H' := by
  have fa : F a = none := (h.own _ c.mem).1
  refine ⟨fun b u q => s b u (fun z => by rw [z, fa] at q; cases q) (h.same b u q), fun q hq => ?_, by rw [c.fst]; exact h.nd⟩
  rcases c.own h.nd q hq with rfl | ⟨m, ne⟩
  · exact ⟨fa, e⟩
  · exact ⟨(h.own _ m).1, s _ _ ne (h.own _ m).2⟩
theorem Has.put (h : Has F O H) (c : Chg O a o o' O') : Has F O' (upd H a o') := h.but c (fun b u ne q => by rw [upd_ne ne]; exact q) upd_same
theorem Has.on (h : Has F O H) (s : Same H H') : Has F O H' := ⟨h.same.trans s, fun q hq => ⟨(h.own q hq).1, s _ _ (h.own q hq).2⟩, h.nd⟩
theorem Has.made (h : Has F O H) (n : H p = none) (s : Same H H') (e : H' p = some o) : Has F ((p, o) :: O) H' := by
  refine ⟨h.same.trans s, fun q hq => ?_, ?_⟩
  · rcases List.mem_cons.mp hq with rfl | hq
    · exact ⟨h.same.free n, e⟩
    · exact ⟨(h.own q hq).1, s _ _ (h.own q hq).2⟩
  · rw [List.map_cons]
    refine List.nodup_cons.mpr ⟨fun m => ?_, h.nd⟩
    obtain ⟨q, hq, e'⟩ := List.mem_map.mp m
    have z := (h.own q hq).2
    rw [e', n] at z
    cases z
theorem same_upd (n : H p = none) : Same H (upd H p o) := fun b u q => by
  rw [upd_ne (ne_of_none q n)]
  exact q
theorem Has.new (h : Has F O H) (n : H p = none) : Has F ((p, o) :: O) (upd H p o) := h.made n (same_upd n) upd_same
theorem Has.drop {x : Addr × HO} (h : Has F (x :: O) H) : Has F O H := ⟨h.same, fun q hq => h.own q (List.mem_cons_of_mem _ hq), (List.nodup_cons.mp (by have := h.nd; rw [List.map_cons] at this; exact this)).2⟩
theorem Has.sub (h : Has F O H) (s : O'.Sublist O) : Has F O' H := ⟨h.same, fun q hq => h.own q (s.subset hq), (s.map _).nodup h.nd⟩
theorem Has.perm (h : Has F O H) (s : O'.Perm O) : Has F O' H := ⟨h.same, fun q hq => h.own q (s.subset hq), (s.map _).nodup_iff.mpr h.nd⟩
/-- the first owned object stands still from now on -/
theorem Has.frz (h : Has F ((p, o) :: O) H) : Has (upd F p o) O H := by
  have hp := h.own (p, o) List.mem_cons_self
  have nd : p ∉ O.map (·.1) ∧ (O.map (·.1)).Nodup := List.nodup_cons.mp (by have := h.nd; rw [List.map_cons] at this; exact this)
  refine ⟨fun b u q => ?_, fun q hq => ⟨?_, (h.own q (List.mem_cons_of_mem _ hq)).2⟩, nd.2⟩
  · by_cases e : b = p
    · subst e
      rw [upd_same] at q
      cases q
      exact hp.2
    · rw [upd_ne e] at q
      exact h.same b u q
  · rw [upd_ne (fun z => nd.1 (List.mem_map.mpr ⟨q, hq, z⟩))]
    exact (h.own q (List.mem_cons_of_mem _ hq)).1
theorem Has.free (h : Has F ((p, o) :: O) H) : F p = none := (h.own _ List.mem_cons_self).1
theorem Has.grow (h : Has F ((p, o) :: O) H) : Same F (upd F p o) := same_upd h.free
/-- all stands still from now on -/
theorem Has.all (h : Has F O H) : Has H [] H := Has.start H
/-- F grown by what O knows nothing of -/
theorem Has.up (h : Has F O H) (s2 : Same F' H') (s : Same H H') (d : ∀ p ∈ O, F' p.1 = none) : Has F' O H' :=
  ⟨s2, fun q hq => ⟨d q hq, s _ _ (h.own q hq).2⟩, h.nd⟩
theorem Has.sqO (h : Has F O H) (m : (a, .lst xs) ∈ O) : SqL K H a xs := SqL.of (h.get m)
theorem Has.sqF (h : Has F O H) (m : SqL K F a xs) : SqL K H a xs := h.same.seq m
theorem Same.tup {K : PySem.W.Frag} (e : Same H H') (h : SqT K H a xs) : SqT K H' a xs := by
  rcases h with (h | ⟨o, h⟩) | h
  · exact .inl (.inl (e _ _ h))
  · exact .inl (.inr ⟨o, e _ _ h⟩)
  · exact .inr h
theorem Has.stF (h : Has F O H) (m : SqT K F a xs) : SqT K H a xs := Same.tup h.same m
theorem Has.stO (h : Has F O H) (m : (a, .tup xs) ∈ O) : SqT K H a xs := SqT.of (h.get m)
end

/-! ### data -/
mutual
inductive Dq (H : Hp) : V → PyData → Prop
  | non : Dq H .non .none
  | bl (b : Bool) : Dq H (.bl b) (.bool b)
  | int (i : Int) : Dq H (.int i) (.int i)
  | str (x : Str) : Dq H (.str x) (.str x)
  | lst {a : Addr} {xs : List V} {ds : List PyData} : H a = some (.lst xs) → DqAll H xs ds → Dq H (.ref a) (.list ds)
  | tup {a : Addr} {xs : List V} {ds : List PyData} : H a = some (.tup xs) → DqAll H xs ds → Dq H (.ref a) (.tuple ds)
inductive DqAll (H : Hp) : List V → List PyData → Prop
  | nil : DqAll H [] []
  | cons {v : V} {vs : List V} {d : PyData} {ds : List PyData} : Dq H v d → DqAll H vs ds → DqAll H (v :: vs) (d :: ds)
end
mutual
theorem Dq.up {H H' : Hp} (e : Same H H') : ∀ (d : PyData) (v : V), Dq H v d → Dq H' v d
  | _, _, .non => .non
  | _, _, .bl b => .bl b
  | _, _, .int i => .int i
  | _, _, .str x => .str x
  | .list ds, _, .lst s a => .lst (e _ _ s) (DqAll.up e ds _ a)
  | .tuple ds, _, .tup s a => .tup (e _ _ s) (DqAll.up e ds _ a)
theorem DqAll.up {H H' : Hp} (e : Same H H') : ∀ (ds : List PyData) (vs : List V), DqAll H vs ds → DqAll H' vs ds
  | _, _, .nil => .nil
  | d :: ds, _, .cons h t => .cons (Dq.up e d _ h) (DqAll.up e ds _ t)
end
mutual
theorem Dq.dp (K : PySem.W.Frag) {H : Hp} : ∀ (d : PyData) (v : V), Dq H v d → Dp K H v d
  | _, _, .non => .non
  | _, _, .bl b => .bl b
  | _, _, .int i => .int i
  | _, _, .str x => .str x
  | .list ds, _, .lst s a => .lst (SqL.of s) (DqAll.dp K ds _ a)
  | .tuple ds, _, .tup s a => .tup (SqT.of s) (DqAll.dp K ds _ a)
theorem DqAll.dp (K : PySem.W.Frag) {H : Hp} : ∀ (ds : List PyData) (vs : List V), DqAll H vs ds → DpAll K H vs ds
  | _, _, .nil => .nil
  | d :: ds, _, .cons h t => .cons (Dq.dp K d _ h) (DqAll.dp K ds _ t)
end
theorem DqAll.len {H : Hp} : ∀ {vs : List V} {ds : List PyData}, DqAll H vs ds → vs.length = ds.length
  | _, _, .nil => rfl
  | _, _, .cons _ t => by rw [List.length_cons, List.length_cons, t.len]
theorem DqAll.get {H : Hp} : ∀ {vs : List V} {ds : List PyData} {i : Nat} {v : V}, DqAll H vs ds → vs[i]? = some v → ∃ d, ds[i]? = some d ∧ Dq H v d
  | _, _, _, _, .nil, e => by simp at e
  | _, _, 0, _, .cons h _, e => ⟨_, rfl, by have e' := Option.some.inj e; rw [← e']; exact h⟩
  | _, _, i + 1, _, .cons _ t, e => t.get (i := i) e
theorem DqAll.snoc {H : Hp} : ∀ {vs : List V} {ds : List PyData} {v : V} {d : PyData}, DqAll H vs ds → Dq H v d → DqAll H (vs ++ [v]) (ds ++ [d])
  | _, _, _, _, .nil, h => .cons h .nil
  | _, _, _, _, .cons h t, h' => .cons h (t.snoc h')
theorem DqAll.app {H : Hp} : ∀ {vs ws : List V} {ds es : List PyData}, DqAll H vs ds → DqAll H ws es → DqAll H (vs ++ ws) (ds ++ es)
  | _, _, _, _, .nil, h => h
  | _, _, _, _, .cons h t, h' => .cons h (t.app h')
theorem DqAll.rev {H : Hp} : ∀ {vs : List V} {ds : List PyData}, DqAll H vs ds → DqAll H vs.reverse ds.reverse
  | _, _, .nil => .nil
  | _, _, .cons h t => by
    rw [List.reverse_cons, List.reverse_cons]
    exact t.rev.snoc h
theorem DqAll.strs {H : Hp} : ∀ (xs : List Str), DqAll H (xs.map V.str) (xs.map PyData.str)
  | [] => .nil
  | x :: xs => .cons (.str x) (DqAll.strs xs)
theorem DqAll.ints {H : Hp} : ∀ (xs : List Int), DqAll H (xs.map V.int) (xs.map PyData.int)
  | [] => .nil
  | x :: xs => .cons (.int x) (DqAll.ints xs)
theorem DqAll.of_strs {H : Hp} : ∀ {vs : List V} {xs : List Str}, DqAll H vs (xs.map PyData.str) → vs = xs.map V.str
  | _, [], .nil => rfl
  | _, x :: xs, .cons h t => by
    cases h
    rw [List.map_cons, t.of_strs]
theorem Dq.of_strs {H : Hp} {v : V} {xs : List Str} (h : Dq H v (.list (xs.map PyData.str))) : ∃ a, v = .ref a ∧ H a = some (.lst (xs.map V.str)) := by
  cases h with
  | lst s a =>
    rw [a.of_strs] at s
    exact ⟨_, rfl, s⟩
theorem Dq.strs {H : Hp} {a : Addr} {xs : List Str} (h : H a = some (.lst (xs.map V.str))) : Dq H (.ref a) (.list (xs.map PyData.str)) := .lst h (DqAll.strs xs)
theorem Dq.ints {H : Hp} {a : Addr} {xs : List Int} (h : H a = some (.lst (xs.map V.int))) : Dq H (.ref a) (.list (xs.map PyData.int)) := .lst h (DqAll.ints xs)
theorem Has.gF {F : Hp} {O : Own} {H : Hp} {a : Addr} {o : HO} (h : Has F O H) (e : F a = some o) : H a = some o := h.same _ _ e
theorem Has.dq {F : Hp} {O : Own} {H : Hp} (h : Has F O H) {v : V} {d : PyData} (p : Dq F v d) : Dq H v d := p.up h.same d v

/-! ### == of data -/
theorem eqvAll_strs : ∀ xs ys : List Str, PyData.eqvAll (xs.map PyData.str) (ys.map PyData.str) = decide (xs = ys)
  | [], [] => by simp [PyData.eqvAll]
  | [], y :: ys => by simp [PyData.eqvAll]
  | x :: xs, [] => by simp [PyData.eqvAll]
  | x :: xs, y :: ys => by
    rw [List.map_cons, List.map_cons, PyData.eqvAll, eqvAll_strs xs ys, PyData.eqv]
    by_cases h : x = y
    · subst h; simp
    · simp [h]
theorem eqv_strs (xs ys : List Str) : PyData.eqv (.list (xs.map PyData.str)) (.list (ys.map PyData.str)) = decide (xs = ys) := by
  rw [PyData.eqv, eqvAll_strs]
theorem eqvAll_ints : ∀ xs ys : List Int, PyData.eqvAll (xs.map PyData.int) (ys.map PyData.int) = decide (xs = ys)
  | [], [] => by simp [PyData.eqvAll]
  | [], y :: ys => by simp [PyData.eqvAll]
  | x :: xs, [] => by simp [PyData.eqvAll]
  | x :: xs, y :: ys => by
    rw [List.map_cons, List.map_cons, PyData.eqvAll, eqvAll_ints xs ys, PyData.eqv]
    by_cases h : x = y
    · subst h; simp
    · simp [h]
theorem eqv_ints (xs ys : List Int) : PyData.eqv (.list (xs.map PyData.int)) (.list (ys.map PyData.int)) = decide (xs = ys) := by
  rw [PyData.eqv, eqvAll_ints]
theorem canLayAll_mem : ∀ {ds : List PyData}, (∀ d ∈ ds, d.canLay0 = true) → PyData.canLayAll0 ds = true
  | [], _ => rfl
  | d :: ds, h => by
    rw [PyData.canLayAll0, h d List.mem_cons_self, canLayAll_mem fun x hx => h x (List.mem_cons_of_mem _ hx)]
    rfl
theorem depthAll_le {n : Nat} : ∀ {ds : List PyData}, (∀ d ∈ ds, d.depth ≤ n) → PyData.depthAll ds ≤ n
  | [], _ => Nat.zero_le _
  | d :: ds, h => by
    rw [PyData.depthAll]
    exact Nat.max_le.mpr ⟨h d List.mem_cons_self, depthAll_le fun x hx => h x (List.mem_cons_of_mem _ hx)⟩
/-- data of depth n that can be compared -/
def Sh (n : Nat) (d : PyData) : Prop := d.canLay0 = true ∧ d.depth ≤ n
theorem Sh.list {n : Nat} {ds : List PyData} (h : ∀ d ∈ ds, Sh n d) : Sh (n + 1) (.list ds) := by
  refine ⟨?_, ?_⟩
  · rw [PyData.canLay0]
    exact canLayAll_mem fun d hd => (h d hd).1
  · rw [PyData.depth]
    have := depthAll_le (n := n) fun d hd => (h d hd).2
    omega
theorem Sh.tuple {n : Nat} {ds : List PyData} (h : ∀ d ∈ ds, Sh n d) : Sh (n + 1) (.tuple ds) := by
  refine ⟨?_, ?_⟩
  · rw [PyData.canLay0]
    exact canLayAll_mem fun d hd => (h d hd).1
  · rw [PyData.depth]
    have := depthAll_le (n := n) fun d hd => (h d hd).2
    omega
theorem Sh.ok {n : Nat} {d : PyData} (h : Sh n d) (hn : n ≤ 64) : SeqAt.shaped d = true := by
  unfold SeqAt.shaped
  rw [h.1, Bool.true_and]
  exact decide_eq_true (Nat.le_trans h.2 hn)
theorem Sh.int {n : Nat} (i : Int) : Sh n (.int i) := ⟨rfl, Nat.zero_le _⟩
theorem Sh.non {n : Nat} : Sh n .none := ⟨rfl, Nat.zero_le _⟩
theorem Sh.bl {n : Nat} (b : Bool) : Sh n (.bool b) := ⟨rfl, Nat.zero_le _⟩
theorem Sh.str {n : Nat} {x : Str} (h : PyData.strOk x = true) : Sh n (.str x) := ⟨h, Nat.zero_le _⟩
theorem Sh.strs {n : Nat} {xs : List Str} (h : ∀ x ∈ xs, PyData.strOk x = true) : Sh (n + 1) (.list (xs.map PyData.str)) := Sh.list fun d hd => by
  obtain ⟨x, hx, rfl⟩ := List.mem_map.mp hd
  exact Sh.str (h x hx)
theorem Sh.ints {n : Nat} {xs : List Int} : Sh (n + 1) (.list (xs.map PyData.int)) := Sh.list fun d hd => by
  obtain ⟨x, hx, rfl⟩ := List.mem_map.mp hd
  exact Sh.int x

/-! ### readings, in order -/
def kB (x : V) (H : Hp) (R : Bool → Hp → Prop) : Prop := ∃ k, x = .bl k ∧ R k H
def kTup (xs : List V) (H : Hp) (Q : VK) : Prop := xs.length ≤ sizeLine ∧ ∀ p, H p = none → Q (.ref p) (upd H p (.tup xs))
def kLst (xs : List V) (H : Hp) (Q : VK) : Prop := xs.length ≤ sizeLine ∧ ∀ p, H p = none → Q (.ref p) (upd H p (.lst xs))
def kBM (K : PySem.W.Frag) (T : String) (r : V → List V → Hp → VK → Prop) (t : TA) (σ : L2.St) (x : V) (H : Hp) (Q : VK) : Prop := tyV K T x H ∧ t σ H fun xs H2 => r x xs H2 Q
section
variable {K : PySem.W.Frag} {σ : L2.St} {F : Hp} {O O' : Own} {H : Hp} {Q : VK} {ta tb tc te : TE} {x y v : V} {D : Ends} {t1 t2 : TS}
theorem g_var {i : Nat} (h : σ[i]? = some (some v)) (q : Q v H) : tVar i σ H Q := ⟨v, h, q⟩
theorem g_c (q : Q v H) : tC v σ H Q := q
theorem g_op {r : R2} (q : ta σ H fun x H1 => tb σ H1 fun y H2 => r x y H2 Q) : tOp r ta tb σ H Q := q
theorem g_un {r : V → Hp → VK → Prop} (q : ta σ H fun x H1 => r x H1 Q) : tUn r ta σ H Q := q
theorem g_cons {tr : TA} {QA : List V → Hp → Prop} (q : ta σ H fun x H1 => tr σ H1 fun xs H2 => QA (x :: xs) H2) : tCons ta tr σ H QA := q
theorem g_nil {QA : List V → Hp → Prop} (q : QA [] H) : tNil σ H QA := q
theorem g_cb {r : List V → Hp → VK → Prop} {t : TA} (q : t σ H fun vs H1 => r vs H1 Q) : tCB r t σ H Q := q
theorem g_call {sp : Sp} {E : XK} {t : TA} (q : t σ H fun vs H1 => sp vs H1 Q E) : tCall sp [] E t σ H Q := by
  unfold tCall
  simp only [List.append_nil]
  exact q
theorem g_tup {t : TA} (q : t σ H fun xs H1 => kTup xs H1 Q) : tTup t σ H Q := q
theorem g_lst {t : TA} (q : t σ H fun xs H1 => kLst xs H1 Q) : tLst t σ H Q := q
theorem g_bm {T : String} {r : V → List V → Hp → VK → Prop} {t : TA} (q : ta σ H fun x H1 => kBM K T r t σ x H1 Q) : tBM K T r ta t σ H Q := q
theorem g_bm0 {T : String} {r : V → List V → Hp → VK → Prop} (q : ta σ H fun x H1 => kBM K T r tNil σ x H1 Q) : tBM0 K T r ta σ H Q := q
theorem g_kbm {r : V → List V → Hp → VK → Prop} {t : TA} {a : Addr} {xs : List V} (h : H a = some (.lst xs)) (q : t σ H fun vs H2 => r (.ref a) vs H2 Q) : kBM K "list" r t σ (.ref a) H Q := ⟨.inl ⟨rfl, _, SqL.of h⟩, q⟩
theorem g_ktup {xs : List V} (hl : xs.length ≤ sizeLine) (hH : Has F O H) (q : ∀ p H', H p = none → Has F ((p, .tup xs) :: O) H' → Q (.ref p) H') : kTup xs H Q := ⟨hl, fun p n => q p _ n (hH.new n)⟩
theorem g_klst {xs : List V} (hl : xs.length ≤ sizeLine) (hH : Has F O H) (q : ∀ p H', H p = none → Has F ((p, .lst xs) :: O) H' → Q (.ref p) H') : kLst xs H Q := ⟨hl, fun p n => q p _ n (hH.new n)⟩
/-- a tuple that stands still at once -/
theorem g_ktupF {xs : List V} (hl : xs.length ≤ sizeLine) (hH : Has F O H) (q : ∀ p H' F', H p = none → Same F F' → F' p = some (.tup xs) → Has F' O H' → Q (.ref p) H') : kTup xs H Q :=
  ⟨hl, fun p n => q p _ (upd F p (.tup xs)) n (same_upd (hH.same.free n)) upd_same (hH.new n).frz⟩
theorem g_klstF {xs : List V} (hl : xs.length ≤ sizeLine) (hH : Has F O H) (q : ∀ p H' F', H p = none → Same F F' → F' p = some (.lst xs) → Has F' O H' → Q (.ref p) H') : kLst xs H Q :=
  ⟨hl, fun p n => q p _ (upd F p (.lst xs)) n (same_upd (hH.same.free n)) upd_same (hH.new n).frz⟩
theorem g_seq (h : t1 { D with nx := t2 D } σ H) : tSeq t1 t2 D σ H := h
theorem g_asg {g : TG} (q : te σ H fun x H1 => g x σ H1 D.nx) : tAsg te g D σ H := q
theorem g_name {i : Nat} {R : L2.St → Hp → Prop} (q : R (σ.set i (some v)) H) : gName i v σ H R := q
theorem g_drop (q : te σ H fun _ H1 => D.nx σ H1) : tDrop te D σ H := q
theorem g_ret (q : te σ H fun x H1 => D.rt x H1) : tRet te D σ H := q
theorem g_retN (q : D.rt .non H) : tRetN D σ H := q
theorem g_next (q : D.nx σ H) : tNext D σ H := q
theorem g_brk (q : D.bk σ H) : tBreak D σ H := q
theorem g_cont (q : D.ct σ H) : tCont D σ H := q
theorem g_if {c : TT} (q : c σ H fun b H1 => if b = true then t1 D σ H1 else t2 D σ H1) : tIfS c t1 t2 D σ H := q
theorem g_aug {i : Nat} {ti : TIp} (h : σ[i]? = some (some x)) (q : te σ H fun y H1 => ti x y H1 fun z H2 => D.nx (σ.set i (some z)) H2) : tAug i te ti D σ H := ⟨x, h, q⟩
theorem g_ipI {f : Int → Int → Int} {i j : Int} (q : Q (.int (f i j)) H) : ipI f (.int i) (.int j) H Q := ⟨i, j, rfl, rfl, q⟩
theorem g_test {R : Bool → Hp → Prop} (q : te σ H fun x H1 => kB x H1 R) : tTest te σ H R := q
theorem g_tB {R : Bool → Hp → Prop} (q : te σ H fun x H1 => kB x H1 R) : tB te σ H R := q
theorem g_kB {b : Bool} {R : Bool → Hp → Prop} (q : R b H) : kB (.bl b) H R := ⟨b, rfl, q⟩
theorem g_not {t : TT} {R : Bool → Hp → Prop} (q : t σ H fun c H1 => R (!c) H1) : tNot t σ H R := q
theorem g_and {t u : TT} {R : Bool → Hp → Prop} (q : t σ H fun c H1 => if c = true then u σ H1 R else R false H1) : tAnd t u σ H R := q
theorem g_or {t u : TT} {R : Bool → Hp → Prop} (q : t σ H fun c H1 => if c = true then R true H1 else u σ H1 R) : tOr t u σ H R := q
theorem g_andV (q : ta σ H fun x H1 => kB x H1 fun c H2 => if c = true then tb σ H2 Q else Q (.bl false) H2) : tAndV ta tb σ H Q := q
theorem g_orV (q : ta σ H fun x H1 => kB x H1 fun c H2 => if c = true then Q (.bl true) H2 else tb σ H2 Q) : tOrV ta tb σ H Q := q
theorem g_notV (q : ta σ H fun x H1 => kB x H1 fun c H2 => Q (.bl (!c)) H2) : tNotV ta σ H Q := q
theorem g_ifE {t : TT} (q : t σ H fun c H1 => if c = true then ta σ H1 Q else tb σ H1 Q) : tIf t ta tb σ H Q := q
theorem i_d {c A B : Prop} [Decidable c] (h1 : c → A) (h2 : ¬ c → B) : if decide c = true then A else B := by
  by_cases h : c
  · rw [if_pos (decide_eq_true h)]
    exact h1 h
  · rw [if_neg (by rw [decide_eq_false h]; exact Bool.false_ne_true)]
    exact h2 h
theorem i_n {c A B : Prop} [Decidable c] (h1 : ¬ c → A) (h2 : c → B) : if (!decide c) = true then A else B := by
  by_cases h : c
  · rw [decide_eq_true h, if_neg (by decide)]
    exact h2 h
  · rw [decide_eq_false h, if_pos (by decide)]
    exact h1 h
theorem i_b {b : Bool} {A B : Prop} (h1 : b = true → A) (h2 : b = false → B) : if b = true then A else B := by
  cases b with
  | true => rw [if_pos rfl]; exact h1 rfl
  | false => rw [if_neg Bool.false_ne_true]; exact h2 rfl
theorem i_nb {b : Bool} {A B : Prop} (h1 : b = false → A) (h2 : b = true → B) : if (!b) = true then A else B := by
  cases b with
  | false =>
    show (if true = true then A else B)
    rw [if_pos rfl]
    exact h1 rfl
  | true =>
    show (if false = true then A else B)
    rw [if_neg Bool.false_ne_true]
    exact h2 rfl
/-- a test by its answer -/
theorem g_bool {t : TT} {R : Bool → Hp → Prop} (b : Bool) (h : ∀ R : Bool → Hp → Prop, R b H → t σ H R) (q : R b H) : t σ H R := h R q

/-! ### operators -/
def rAdd (K : PySem.W.Frag) : R2 := fun x y H Q => (rI0 (fun i j => .int (i + j)) x y H Q ∨ ∃ i j, x = .str i ∧ y = .str j ∧ i.length + j.length ≤ sizeLine ∧ Q (.str (i ++ j)) H) ∨ rCat x y H Q ∨ rCatT K x y H Q
theorem g_addI {i j : Int} (q : Q (.int (i + j)) H) : rAdd K (.int i) (.int j) H Q := .inl (.inl ⟨i, j, rfl, rfl, q⟩)
theorem g_addS {i j : Str} (hl : i.length + j.length ≤ sizeLine) (q : Q (.str (i ++ j)) H) : rAdd K (.str i) (.str j) H Q := .inl (.inr ⟨i, j, rfl, rfl, hl, q⟩)
theorem g_addL {a b : Addr} {xs ys : List V} (h1 : H a = some (.lst xs)) (h2 : H b = some (.lst ys)) (hl : xs.length + ys.length ≤ sizeLine) (hH : Has F O H) (q : ∀ p H', H p = none → Has F ((p, .lst (xs ++ ys)) :: O) H' → Q (.ref p) H') : rAdd K (.ref a) (.ref b) H Q :=
  .inr (.inl ⟨a, b, xs, ys, rfl, rfl, h1, h2, hl, fun p n => q p _ n (hH.new n)⟩)
theorem g_rI0 {g : Int → Int → V} {i j : Int} (q : Q (g i j) H) : rI0 g (.int i) (.int j) H Q := ⟨i, j, rfl, rfl, q⟩
theorem g_rI {C : Int → Int → Prop} {g : Int → Int → V} {i j : Int} (hc : C i j) (q : Q (g i j) H) : rI C g (.int i) (.int j) H Q := ⟨i, j, rfl, rfl, hc, q⟩
theorem g_rU {g : Int → V} {i : Int} (q : Q (g i) H) : rU g (.int i) H Q := ⟨i, rfl, q⟩
def rMul : R2 := fun x y H Q => rI CMul (fun i j => .int (i * j)) x y H Q ∨ rRep x y H Q
theorem g_mulI {i j : Int} (hc : CMul i j) (q : Q (.int (i * j)) H) : rMul (.int i) (.int j) H Q := .inl ⟨i, j, rfl, rfl, hc, q⟩
theorem g_mulL {a : Addr} {k : Int} {xs : List V} (h : H a = some (.lst xs)) (h1 : -(2 ^ 63) ≤ k) (h2 : k < 2 ^ 63) (hl : xs.length * k.toNat ≤ sizeLine) (hH : Has F O H)
    (q : ∀ p H', H p = none → Has F ((p, .lst (List.replicate k.toNat xs).flatten) :: O) H' → Q (.ref p) H') : rMul (.ref a) (.int k) H Q := .inr ⟨a, k, xs, rfl, rfl, h, h1, h2, hl, fun p n => q p _ n (hH.new n)⟩
def rEqA (K : PySem.W.Frag) : R2 := fun x y H Q => rEq x y H Q ∨ rEqD K x y H Q
def rNeA (K : PySem.W.Frag) : R2 := fun x y H Q => rNe x y H Q ∨ rNeD K x y H Q
theorem g_eqI {i j : Int} (q : Q (.bl (decide (i = j))) H) : rEqA K (.int i) (.int j) H Q := .inl ⟨rfl, by rw [dec_int, Bool.beq_eq_decide_eq]; exact q⟩
theorem g_eqS {i j : Str} (q : Q (.bl (decide (i = j))) H) : rEqA K (.str i) (.str j) H Q := .inl ⟨rfl, by rw [dec_str, Bool.beq_eq_decide_eq]; exact q⟩
theorem g_neI {i j : Int} (q : Q (.bl (!decide (i = j))) H) : rNeA K (.int i) (.int j) H Q := .inl ⟨rfl, by rw [dec_int, Bool.beq_eq_decide_eq]; exact q⟩
theorem g_neS {i j : Str} (q : Q (.bl (!decide (i = j))) H) : rNeA K (.str i) (.str j) H Q := .inl ⟨rfl, by rw [dec_str, Bool.beq_eq_decide_eq]; exact q⟩
theorem g_eqD {d e : PyData} (hx : Dq H x d) (hy : Dq H y e) (sd : SeqAt.shaped d = true) (se : SeqAt.shaped e = true) (q : Q (.bl (PyData.eqv d e)) H) : rEqA K x y H Q := .inr ⟨d, e, hx.dp K d x, hy.dp K e y, sd, se, q⟩
theorem g_neD {d e : PyData} (hx : Dq H x d) (hy : Dq H y e) (sd : SeqAt.shaped d = true) (se : SeqAt.shaped e = true) (q : Q (.bl (!PyData.eqv d e)) H) : rNeA K x y H Q := .inr ⟨d, e, hx.dp K d x, hy.dp K e y, sd, se, q⟩
def rIsN : R2 := fun x y H Q => y = .non ∧ Q (.bl (decide (x = .non))) H
def rNotN : R2 := fun x y H Q => y = .non ∧ Q (.bl (!decide (x = .non))) H
theorem g_isN (q : Q (.bl (decide (x = .non))) H) : rIsN x .non H Q := ⟨rfl, q⟩
theorem g_notN (q : Q (.bl (!decide (x = .non))) H) : rNotN x .non H Q := ⟨rfl, q⟩
theorem g_ixL {a : Addr} {xs : List V} {i : Int} (h : H a = some (.lst xs)) (ha : atI xs i = some v) (q : Q v H) : rIx K (.ref a) (.int i) H Q := .inl ⟨a, xs, i, v, rfl, rfl, SqL.of h, ha, q⟩
theorem g_ixT {a : Addr} {xs : List V} {i : Int} (h : H a = some (.tup xs)) (ha : atI xs i = some v) (q : Q v H) : rIx K (.ref a) (.int i) H Q := .inr (.inl ⟨a, xs, i, v, rfl, rfl, SqT.of h, ha, q⟩)
theorem g_ixS {z : Str} {i : Int} {c : Nat} (hl : z.length ≤ sizeLine) (ha : atI z.cps.toList i = some c) (q : Q (.str ⟨#[c]⟩) H) : rIx K (.str z) (.int i) H Q := .inr (.inr ⟨z, i, c, rfl, rfl, hl, ha, q⟩)
theorem at_n {xs : List V} {i : Int} (h0 : 0 ≤ i) (h : xs[i.toNat]? = some v) : atI xs i = some v := by
  have e : i = (i.toNat : Int) := by omega
  rw [e]
  exact atI_nat h

/-! ### calls of what is built in -/
def rLen (K : PySem.W.Frag) : List V → Hp → VK → Prop := fun xs H Q => (∃ p ys, xs = [.ref p] ∧ (SqL K H p ys ∨ SqT K H p ys) ∧ Q (.int ys.length) H) ∨ ∃ z, xs = [.str z] ∧ z.length ≤ sizeLine ∧ Q (.int z.length) H
theorem g_lenL {a : Addr} {xs : List V} (h : H a = some (.lst xs)) (q : Q (.int (xs.length : Int)) H) : rLen K [.ref a] H Q := .inl ⟨a, xs, rfl, .inl (SqL.of h), q⟩
theorem g_lenT {a : Addr} {xs : List V} (h : H a = some (.tup xs)) (q : Q (.int (xs.length : Int)) H) : rLen K [.ref a] H Q := .inl ⟨a, xs, rfl, .inr (SqT.of h), q⟩
theorem g_lenS {z : Str} (h : z.length ≤ sizeLine) (q : Q (.int (z.length : Int)) H) : rLen K [.str z] H Q := .inr ⟨z, rfl, h, q⟩
def rInt1 : List V → Hp → VK → Prop := fun xs H Q => (∃ i, xs = [.int i] ∧ Q (.int i) H) ∨ ∃ k, xs = [.bl k] ∧ Q (.int (if k then 1 else 0)) H
theorem g_int {i : Int} (q : Q (.int i) H) : rInt1 [.int i] H Q := .inl ⟨i, rfl, q⟩
theorem g_intB {k : Bool} (q : Q (.int (if k then 1 else 0)) H) : rInt1 [.bl k] H Q := .inr ⟨k, rfl, q⟩
def rAbs1 : List V → Hp → VK → Prop := fun xs H Q => ∃ i, xs = [.int i] ∧ Q (.int (if i < 0 then -i else i)) H
theorem g_abs {i : Int} (q : ∀ j : Int, 0 ≤ j → Q (.int j) H) : rAbs1 [.int i] H Q := ⟨i, rfl, q _ (by split <;> omega)⟩
def rMax2 : List V → Hp → VK → Prop := fun xs H Q => ∃ i j, xs = [.int i, .int j] ∧ Q (.int (if j > i then j else i)) H
theorem g_max2 {i j : Int} (q : Q (.int (max i j)) H) : rMax2 [.int i, .int j] H Q := ⟨i, j, rfl, by
  have e : (if j > i then j else i) = max i j := by split <;> omega
  rw [e]
  exact q⟩
def rListOf (K : PySem.W.Frag) : List V → Hp → VK → Prop := fun xs H Q => ∃ p ys, xs = [.ref p] ∧ (SqL K H p ys ∨ SqT K H p ys) ∧ ∀ l, H l = none → Q (.ref l) (upd H l (.lst ys))
theorem g_listL {a : Addr} {xs : List V} (h : H a = some (.lst xs)) (hH : Has F O H) (q : ∀ p H', H p = none → Has F ((p, .lst xs) :: O) H' → Q (.ref p) H') : rListOf K [.ref a] H Q := ⟨a, xs, rfl, .inl (SqL.of h), fun p n => q p _ n (hH.new n)⟩
theorem g_listT {a : Addr} {xs : List V} (h : H a = some (.tup xs)) (hH : Has F O H) (q : ∀ p H', H p = none → Has F ((p, .lst xs) :: O) H' → Q (.ref p) H') : rListOf K [.ref a] H Q := ⟨a, xs, rfl, .inr (SqT.of h), fun p n => q p _ n (hH.new n)⟩
def rTupleOf (K : PySem.W.Frag) : List V → Hp → VK → Prop := fun xs H Q => ∃ p ys, xs = [.ref p] ∧ ((SqL K H p ys ∧ ∀ l, H l = none → Q (.ref l) (upd H l (.tup ys))) ∨ (SqT K H p ys ∧ Q (.ref p) H))
theorem g_tupleL {a : Addr} {xs : List V} (h : H a = some (.lst xs)) (hH : Has F O H) (q : ∀ p H' F', H p = none → Same F F' → F' p = some (.tup xs) → Has F' O H' → Q (.ref p) H') : rTupleOf K [.ref a] H Q :=
  ⟨a, xs, rfl, .inl ⟨SqL.of h, fun p n => q p _ (upd F p (.tup xs)) n (same_upd (hH.same.free n)) upd_same (hH.new n).frz⟩⟩
theorem g_tupleT {a : Addr} {xs : List V} (h : H a = some (.tup xs)) (q : Q (.ref a) H) : rTupleOf K [.ref a] H Q := ⟨a, xs, rfl, .inr ⟨SqT.of h, q⟩⟩

/-! ### methods of lists, stores -/
theorem g_append {a : Addr} {xs : List V} (hH : Has F O H) (c : Chg O a (.lst xs) (.lst (xs ++ [y])) O') (hl : xs.length < sizeLine) (q : ∀ H', Has F O' H' → Q .non H') : rAppend (.ref a) [y] H Q :=
  ⟨a, xs, y, rfl, rfl, hH.get c.mem, hl, q _ (hH.put c)⟩
theorem g_popAt {a : Addr} {xs : List V} {i : Int} {k : Nat} (hH : Has F O H) (c : Chg O a (.lst xs) (.lst (xs.eraseIdx k)) O') (h1 : -(2 ^ 63) ≤ i) (h2 : i < 2 ^ 63) (hk : seqIndex? i xs.length = some k) (hy : xs[k]? = some y)
    (q : ∀ H', Has F O' H' → Q y H') : rPopAt (.ref a) [.int i] H Q := ⟨a, xs, i, k, y, rfl, rfl, hH.get c.mem, h1, h2, hk, hy, q _ (hH.put c)⟩
theorem g_clear {a : Addr} {xs : List V} (hH : Has F O H) (c : Chg O a (.lst xs) (.lst []) O') (q : ∀ H', Has F O' H' → Q .non H') : rClear (.ref a) [] H Q := ⟨a, xs, rfl, rfl, hH.get c.mem, q _ (hH.put c)⟩
/-- o[i] = v -/
def kSet (t : TSet) (R : L2.St → Hp → Prop) (σ : L2.St) (o i v : V) (H : Hp) : Prop := t o i v H fun H3 => R σ H3
theorem g_sub {to ti : TE} {t : TSet} {R : L2.St → Hp → Prop} (q : to σ H fun o H1 => ti σ H1 fun i H2 => kSet t R σ o i v H2) : gSub to ti t v σ H R := q
theorem g_setL {R : L2.St → Hp → Prop} {a : Addr} {xs : List V} {k : Int} {j : Nat} (hH : Has F O H) (c : Chg O a (.lst xs) (.lst (xs.set j v)) O') (hj : ixN xs.length k = some j) (q : ∀ H', Has F O' H' → R σ H') : kSet rSetL R σ (.ref a) (.int k) v H :=
  ⟨a, xs, k, j, rfl, rfl, hH.get c.mem, hj, q _ (hH.put c)⟩
theorem ixN_nat {n : Nat} {k : Int} (h0 : 0 ≤ k) (h : k < n) : ixN n k = some k.toNat := by
  unfold ixN
  rw [if_pos h0, if_pos h]
/-- a, b = a tuple -/
theorem g_gtup {n : Nat} {t : TGs} {a : Addr} {xs : List V} {R : L2.St → Hp → Prop} (h : H a = some (.tup xs)) (hl : xs.length = n) (q : t xs σ H R) : gTup K n t (.ref a) σ H R := ⟨a, xs, rfl, SqT.of h, hl, q⟩
theorem g_gcons {t : TG} {u : TGs} {r : List V} {R : L2.St → Hp → Prop} (q : t v σ H fun σ' H' => u r σ' H' R) : gCons t u (v :: r) σ H R := ⟨v, r, rfl, q⟩
theorem g_gnil {R : L2.St → Hp → Prop} (q : R σ H) : gNil [] σ H R := ⟨rfl, q⟩
/-- slices -/
def kSl (r : V → Option Int → Option Int → Hp → VK → Prop) (tl th : TO) (σ : L2.St) (x : V) (H : Hp) (Q : VK) : Prop := tl σ H fun l H2 => th σ H2 fun u H3 => r x l u H3 Q
theorem g_sl {r : V → Option Int → Option Int → Hp → VK → Prop} {tl th : TO} (q : te σ H fun x H1 => kSl r tl th σ x H1 Q) : tSl r te tl th σ H Q := q
theorem g_kslN {r : V → Option Int → Option Int → Hp → VK → Prop} (q : r x none none H Q) : kSl r tNoPart tNoPart σ x H Q := q
theorem g_kslL {r : V → Option Int → Option Int → Hp → VK → Prop} {tl : TE} {i : Int} (q : tl σ H fun z H1 => ∃ i, z = .int i ∧ r x (some i) none H1 Q) : kSl r (tPart tl) tNoPart σ x H Q := q
theorem g_kslH {r : V → Option Int → Option Int → Hp → VK → Prop} {tl : TE} {i : Int} (q : tl σ H fun z H1 => ∃ i, z = .int i ∧ r x none (some i) H1 Q) : kSl r tNoPart (tPart tl) σ x H Q := q
def rRevL (K : PySem.W.Frag) (x : V) (H : Hp) (Q : VK) : Prop := ∃ a xs, x = .ref a ∧ SqL K H a xs ∧ ∀ p, H p = none → Q (.ref p) (upd H p (.lst xs.reverse))
end

/-! ### loops -/
def kW (J : It) (g : TG) (tb : TS) (D : Ends) (σ : L2.St) (H : Hp) : Prop := ∃ W : Nat → Nat → L2.St → Hp → Prop, (∃ m, W 0 m σ H) ∧ ∀ i m σ H, W i m σ H →
  (J.stop i H ∧ D.nx σ H) ∨ (J.go i H ∧ ∃ N : L2.St → Hp → Prop, (∀ σ' H', N σ' H' → ∃ m', m' < m ∧ W (i + 1) m' σ' H') ∧ ∀ x H', J.yld i H x H' → g x σ H' fun σ2 H2 => tb { D with nx := N, ct := N, bk := D.nx } σ2 H2)
def kForL (K : PySem.W.Frag) (g : TG) (tb : TS) (D : Ends) (σ : L2.St) (x : V) (H : Hp) : Prop := ∃ a, x = .ref a ∧ (∃ xs, SqL K H a xs) ∧ kW (Itl K a) g tb D σ H
def kForR1 (g : TG) (tb : TS) (D : Ends) (σ : L2.St) (vs : List V) (H : Hp) : Prop := ∃ j : Int, vs = [.int j] ∧ -(2 ^ 62) ≤ j ∧ j < 2 ^ 62 ∧ kW (Itr 0 j.toNat) g tb D σ H
def kForR2 (g : TG) (tb : TS) (D : Ends) (σ : L2.St) (vs : List V) (H : Hp) : Prop := ∃ i j : Int, vs = [.int i, .int j] ∧ (-(2 ^ 62) ≤ i ∧ i < 2 ^ 62 ∧ -(2 ^ 62) ≤ j ∧ j < 2 ^ 62) ∧ kW (Itr i (j - i).toNat) g tb D σ H
def kForR3 (g : TG) (tb : TS) (D : Ends) (σ : L2.St) (vs : List V) (H : Hp) : Prop := ∃ (i j c : Int) (n : Nat), vs = [.int i, .int j, .int c] ∧ RgC i j c n ∧ kW (Itc i c n) g tb D σ H
section
variable {K : PySem.W.Frag} {σ : L2.St} {F : Hp} {O O' : Own} {H : Hp} {Q : VK} {ta tb tc te : TE} {x y v : V} {D : Ends} {t1 t2 ts : TS} {g : TG}
theorem g_forL (q : te σ H fun x H1 => kForL K g ts D σ x H1) : tFor (iList K te) g ts D σ H := q
theorem g_forR1 {ta : TA} (q : ta σ H fun vs H1 => kForR1 g ts D σ vs H1) : tFor (iRng1 ta) g ts D σ H := q
theorem g_forR2 {ta : TA} (q : ta σ H fun vs H1 => kForR2 g ts D σ vs H1) : tFor (iRng2 ta) g ts D σ H := q
theorem g_forR3 {ta : TA} (q : ta σ H fun vs H1 => kForR3 g ts D σ vs H1) : tFor (iRng3 ta) g ts D σ H := q
theorem k_forL {a : Addr} {xs : List V} (h : H a = some (.lst xs)) (Pv : Nat → L2.St → Hp → Prop) (h0 : Pv 0 σ H) (hl : ∀ i σ H, i ≤ xs.length → Pv i σ H → H a = some (.lst xs))
    (hs : ∀ i x σ H, xs[i]? = some x → Pv i σ H → g x σ H fun σ2 H2 => ts { D with nx := Pv (i + 1), ct := Pv (i + 1), bk := D.nx } σ2 H2) (hd : ∀ σ H, Pv xs.length σ H → D.nx σ H) : kForL K g ts D σ (.ref a) H :=
  ⟨a, rfl, ⟨xs, SqL.of h⟩, for_list Pv h0 (fun i σ H hi p => SqL.of (hl i σ H hi p)) hs hd⟩
theorem k_forR1 {j : Int} (Pv : Nat → L2.St → Hp → Prop) (h1 : -(2 ^ 62) ≤ j) (h2 : j < 2 ^ 62) (h0 : Pv 0 σ H)
    (hs : ∀ i σ H, i < j.toNat → Pv i σ H → g (.int (i : Int)) σ H fun σ2 H2 => ts { D with nx := Pv (i + 1), ct := Pv (i + 1), bk := D.nx } σ2 H2) (hd : ∀ σ H, Pv j.toNat σ H → D.nx σ H) : kForR1 g ts D σ [.int j] H :=
  ⟨j, rfl, h1, h2, for_range Pv h0 (fun i σ H hi p => by rw [Int.zero_add]; exact hs i σ H hi p) hd⟩
/-- n - 1 down to 0 -/
theorem k_forDown {n : Nat} {j : Int} (hj : j = (n : Int) - 1) (hn : n < 2 ^ 60) (Pv : Nat → L2.St → Hp → Prop) (h0 : Pv n σ H)
    (hs : ∀ i σ H, i < n → Pv (i + 1) σ H → g (.int (i : Int)) σ H fun σ2 H2 => ts { D with nx := Pv i, ct := Pv i, bk := D.nx } σ2 H2) (hd : ∀ σ H, Pv 0 σ H → D.nx σ H) : kForR3 g ts D σ [.int j, .int (-1), .int (-1)] H := by
  subst hj
  have e : (((n : Int) - 1) - (-1)).toNat = n := by omega
  have rg := RgC.neg (i := (n : Int) - 1) (j := -1) (by omega) (by omega) (by decide) (by decide)
  rw [e] at rg
  refine ⟨_, _, _, n, rfl, rg, for_rangeC (fun i => Pv (n - i)) h0 (fun i σ H hi p => ?_) (fun σ H p => ?_)⟩
  · have e1 : (n : Int) - 1 + (i : Nat) * (-1) = ((n - (i + 1) : Nat) : Int) := by omega
    have e2 : n - i = (n - (i + 1)) + 1 := by omega
    rw [e1]
    have p' : Pv ((n - (i + 1)) + 1) σ H := by rw [← e2]; exact p
    exact hs _ σ H (by omega) p'
  · have p' : Pv (n - n) σ H := p
    rw [Nat.sub_self] at p'
    exact hd σ H p'
/-- while -/
def kWh (Pv : Nat → L2.St → Hp → Prop) (m : Nat) (tb : TS) (D : Ends) (σ : L2.St) (b : Bool) (H : Hp) : Prop := if b = true then ∃ N : L2.St → Hp → Prop, (∀ σ' H', N σ' H' → ∃ m', m' < m ∧ Pv m' σ' H') ∧ tb { D with nx := N, ct := N, bk := D.nx } σ H else D.nx σ H
theorem g_while {c : TT} (Pv : Nat → L2.St → Hp → Prop) (m : Nat) (h0 : Pv m σ H) (hs : ∀ m σ H, Pv m σ H → c σ H fun b H1 => kWh Pv m ts D σ b H1) : tWhile c ts D σ H := ⟨Pv, ⟨m, h0⟩, hs⟩
theorem kwh_t {Pv : Nat → L2.St → Hp → Prop} {m : Nat} (q : ts { D with nx := fun σ' H' => ∃ m', m' < m ∧ Pv m' σ' H', ct := fun σ' H' => ∃ m', m' < m ∧ Pv m' σ' H', bk := D.nx } σ H) : kWh Pv m ts D σ true H := by
  unfold kWh
  rw [if_pos rfl]
  exact ⟨_, fun _ _ h => h, q⟩
theorem kwh_f {Pv : Nat → L2.St → Hp → Prop} {m : Nat} (q : D.nx σ H) : kWh Pv m ts D σ false H := by
  unfold kWh
  rw [if_neg Bool.false_ne_true]
  exact q

/-! ### list comprehensions -/
def kLc (J : It) (g : TG) (tt : TT) (te : TE) (vs : List Nat) (σ : L2.St) (H1 : Hp) (Q : VK) : Prop := ∀ D, H1 D = none → ∃ W : Nat → Nat → Hp → Prop, (∃ m, W 0 m (upd H1 D (.lst []))) ∧ ∀ i m H, W i m H →
  (J.stop i H ∧ Q (.ref D) H) ∨ (J.go i H ∧ ∃ Nx : Hp → Prop, (∀ H', Nx H' → ∃ m', m' < m ∧ W (i + 1) m' H') ∧ ∀ x H', J.yld i H x H' → g x (wipe σ vs) H' fun σ2 H2 => wipe σ2 vs = wipe σ vs ∧ tt σ2 H2 fun b H3 =>
    if b = true then te σ2 H3 fun y H4 => ∃ acc, H4 D = some (.lst acc) ∧ acc.length < sizeLine ∧ Nx (upd H4 D (.lst (acc ++ [y]))) else Nx H3)
def kLcL (K : PySem.W.Frag) (g : TG) (tt : TT) (te : TE) (vs : List Nat) (σ : L2.St) (x : V) (H : Hp) (Q : VK) : Prop := ∃ a, x = .ref a ∧ (∃ xs, SqL K H a xs) ∧ kLc (Itl K a) g tt te vs σ H Q
def kLcR1 (g : TG) (tt : TT) (te : TE) (ws : List Nat) (σ : L2.St) (vs : List V) (H : Hp) (Q : VK) : Prop := ∃ j : Int, vs = [.int j] ∧ -(2 ^ 62) ≤ j ∧ j < 2 ^ 62 ∧ kLc (Itr 0 j.toNat) g tt te ws σ H Q
theorem g_lcL {tt : TT} {vs : List Nat} (q : ta σ H fun x H1 => kLcL K g tt te vs σ x H1 Q) : tLc (iList K ta) g tt te vs σ H Q := q
theorem g_lcR1 {ta : TA} {tt : TT} {vs : List Nat} (q : ta σ H fun xs H1 => kLcR1 g tt te vs σ xs H1 Q) : tLc (iRng1 ta) g tt te vs σ H Q := q
/-- what a turn is to leave -/
def kNx (S : Nat → List V → Hp → Own → Prop) (i : Nat) (D : Addr) (H : Hp) : Prop := ∃ acc F' O', S (i + 1) acc F' O' ∧ Has F' ((D, .lst acc) :: O') H
def kTurn (D : Addr) (Nx : Hp → Prop) (y : V) (H : Hp) : Prop := ∃ acc, H D = some (.lst acc) ∧ acc.length < sizeLine ∧ Nx (upd H D (.lst (acc ++ [y])))
theorem k_turn {S : Nat → List V → Hp → Own → Prop} {i : Nat} {D : Addr} {acc : List V} {y : V} {H : Hp} {F : Hp} {O : Own} (h : Has F ((D, .lst acc) :: O) H) (hl : acc.length ≤ 100000) (s : S (i + 1) (acc ++ [y]) F O) : kTurn D (kNx S i D) y H :=
  ⟨acc, h.get (List.Mem.head _), by rw [sizeLine_eq]; omega, _, F, O, s, h.put .hd⟩
theorem k_skip {S : Nat → List V → Hp → Own → Prop} {i : Nat} {D : Addr} {acc : List V} {H : Hp} {F : Hp} {O : Own} (h : Has F ((D, .lst acc) :: O) H) (s : S (i + 1) acc F O) : kNx S i D H := ⟨acc, F, O, s, h⟩
theorem k_lc {J : It} {tt : TT} {vs : List Nat} (hH : Has F O H) (n : Nat) (S : Nat → List V → Hp → Own → Prop) (h0 : S 0 [] F O)
    (go : ∀ i acc F O D H, i < n → S i acc F O → Has F ((D, .lst acc) :: O) H → J.go i H) (stop : ∀ acc F O D H, S n acc F O → Has F ((D, .lst acc) :: O) H → J.stop n H)
    (hs : ∀ i x acc F O D H H', i < n → J.yld i H x H' → S i acc F O → Has F ((D, .lst acc) :: O) H → g x (wipe σ vs) H' fun σ2 H2 => wipe σ2 vs = wipe σ vs ∧ tt σ2 H2 fun b H3 => if b = true then te σ2 H3 fun y H4 => kTurn D (kNx S i D) y H4 else kNx S i D H3)
    (hd : ∀ acc F O D H, S n acc F O → Has F ((D, .lst acc) :: O) H → Q (.ref D) H) : kLc J g tt te vs σ H Q := by
  intro D hD
  refine ⟨fun i m H => m = n - i ∧ i ≤ n ∧ ∃ acc F O, S i acc F O ∧ Has F ((D, .lst acc) :: O) H, ⟨n, by simp, Nat.zero_le _, [], F, O, h0, hH.new hD⟩, ?_⟩
  rintro i m H1 ⟨rfl, hi, acc, F1, O1, s1, hH1⟩
  by_cases hlt : i < n
  · exact .inr ⟨go i acc F1 O1 D H1 hlt s1 hH1, kNx S i D, fun H' p => ⟨n - (i + 1), by omega, rfl, hlt, p⟩, fun x H' y => hs i x acc F1 O1 D H1 H' hlt y s1 hH1⟩
  · have e : i = n := by omega
    subst e
    exact .inl ⟨stop acc F1 O1 D H1 s1 hH1, hd acc F1 O1 D H1 s1 hH1⟩
/-- over a list that stands still -/
theorem k_lcL {a : Addr} {xs : List V} {tt : TT} {vs : List Nat} (h : H a = some (.lst xs)) (hH : Has F O H) (S : Nat → List V → Hp → Own → Prop) (h0 : S 0 [] F O) (hl : ∀ i acc F O H, S i acc F O → Has F O H → H a = some (.lst xs))
    (hs : ∀ i x acc F O D H, xs[i]? = some x → S i acc F O → Has F ((D, .lst acc) :: O) H → g x (wipe σ vs) H fun σ2 H2 => wipe σ2 vs = wipe σ vs ∧ tt σ2 H2 fun b H3 => if b = true then te σ2 H3 fun y H4 => kTurn D (kNx S i D) y H4 else kNx S i D H3)
    (hd : ∀ acc F O D H, S xs.length acc F O → Has F ((D, .lst acc) :: O) H → Q (.ref D) H) : kLcL K g tt te vs σ (.ref a) H Q := by
  refine ⟨a, rfl, ⟨xs, SqL.of h⟩, k_lc hH xs.length S h0 (fun i acc F O D H hi s hh => ?_) (fun acc F O D H s hh => ?_) (fun i x acc F O D H H' hi y s hh => ?_) hd⟩
  · exact ⟨xs, xs[i], SqL.of (hl i acc F O H s hh.drop), List.getElem?_eq_getElem hi⟩
  · exact ⟨xs, SqL.of (hl _ acc F O H s hh.drop), Nat.le_refl _⟩
  · obtain ⟨e, y⟩ := y
    subst e
    exact hs i x acc F O D _ (y xs (SqL.of (hl i acc F O _ s hh.drop))) s hh
theorem k_lcR1 {j : Int} {tt : TT} {vs : List Nat} (h1 : -(2 ^ 62) ≤ j) (h2 : j < 2 ^ 62) (hH : Has F O H) (S : Nat → List V → Hp → Own → Prop) (h0 : S 0 [] F O)
    (hs : ∀ i acc F O D H, i < j.toNat → S i acc F O → Has F ((D, .lst acc) :: O) H → g (.int (i : Int)) (wipe σ vs) H fun σ2 H2 => wipe σ2 vs = wipe σ vs ∧ tt σ2 H2 fun b H3 => if b = true then te σ2 H3 fun y H4 => kTurn D (kNx S i D) y H4 else kNx S i D H3)
    (hd : ∀ acc F O D H, S j.toNat acc F O → Has F ((D, .lst acc) :: O) H → Q (.ref D) H) : kLcR1 g tt te vs σ [.int j] H Q := by
  refine ⟨j, rfl, h1, h2, k_lc hH j.toNat S h0 (fun i acc F O D H hi s hh => hi) (fun acc F O D H s hh => Nat.le_refl _) (fun i x acc F O D H H' hi y s hh => ?_) hd⟩
  obtain ⟨e, y⟩ := y
  subst e y
  rw [Int.zero_add]
  exact hs i acc F O D _ hi s hh
end

/-! ### the rules' own soundness: one operator for several kinds -/
section
variable {X : Cx}
theorem op_addA : OpR X (binaryOp .Add) (rAdd X.K) := by
  intro pins s σ H x y v u Q I rx ry h
  rcases h with (h | h) | h | h
  · exact op_add pins s σ H x y v u Q I rx ry h
  · exact op_add_str pins s σ H x y v u Q I rx ry h
  · exact op_cat pins s σ H x y v u Q I rx ry h
  · exact op_catT pins s σ H x y v u Q I rx ry h
theorem op_mulA : OpR X (binaryOp .Mult) rMul := by
  intro pins s σ H x y v u Q I rx ry h
  rcases h with h | h
  · exact op_mul pins s σ H x y v u Q I rx ry h
  · exact op_rep pins s σ H x y v u Q I rx ry h
theorem op_eqA (hu : X.A.units + 64 < cLine) : OpR X (compareOp .Eq) (rEqA X.K) := by
  intro pins s σ H x y v u Q I rx ry h
  rcases h with h | h
  · exact op_eq pins s σ H x y v u Q I rx ry h
  · exact op_eqD hu pins s σ H x y v u Q I rx ry h
theorem op_neA (hu : X.A.units + 64 < cLine) : OpR X (compareOp .NotEq) (rNeA X.K) := by
  intro pins s σ H x y v u Q I rx ry h
  rcases h with h | h
  · exact op_ne pins s σ H x y v u Q I rx ry h
  · exact op_neD hu pins s σ H x y v u Q I rx ry h
theorem op_isNA : OpR X (compareOp .Is) rIsN := op_isN
theorem op_notNA : OpR X (compareOp .IsNot) rNotN := op_notN
theorem cr_len : CallR X (.builtin "len") (rLen X.K) := by
  intro pins s σ H xs us Q I r h
  rcases h with h | h
  · exact call_len_seq pins s σ H xs us Q I r h
  · exact call_len_str pins s σ H xs us Q I r h
theorem cr_int1 : CallR X (.type "int") rInt1 := call_int1
theorem cr_abs1 : CallR X (.builtin "abs") rAbs1 := call_abs
theorem cr_max2 (hc : X.calm = true) : CallR X (.builtin "max") rMax2 := call_max2 hc
theorem cr_listOf : CallR X (.type "list") (rListOf X.K) := call_list_of
theorem cr_tupleOf : CallR X (.type "tuple") (rTupleOf X.K) := call_tuple_of
end

/-! ### dicts -/
def rInDc : R2 := fun x y H Q => ∃ a o, y = .ref a ∧ DGet H a x o ∧ Q (.bl o.isSome) H
def rNotInDc : R2 := fun x y H Q => ∃ a o, y = .ref a ∧ DGet H a x o ∧ Q (.bl (!o.isSome)) H
section
variable {X : Cx}
theorem op_inDc (hu : X.A.units + 1 < cLine) : OpR X (compareOp .In) rInDc := by
  intro pins s σ H x y v u Q I rx ry h
  obtain ⟨a, o, rfl, g, q⟩ := h
  cases ry
  exact d_in hu I g rx fun s' I' => ⟨.bl _, H, I', rfl, q⟩
theorem op_notinDc (hu : X.A.units + 1 < cLine) : OpR X (compareOp .NotIn) rNotInDc := by
  intro pins s σ H x y v u Q I rx ry h
  obtain ⟨a, o, rfl, g, q⟩ := h
  cases ry
  exact d_notIn hu I g rx fun s' I' => ⟨.bl _, H, I', rfl, q⟩
end
def kGet2 (ty tx : TE) (σ : L2.St) (x : V) (H : Hp) (Q : VK) : Prop := ∃ a, x = .ref a ∧ IsD H a ∧ ty σ H fun y H2 => tx σ H2 fun z H3 => ∃ o, DGet H3 a y o ∧ Q (o.getD z) H3
def kGot (a : Addr) (y z : V) (H : Hp) (Q : VK) : Prop := ∃ o, DGet H a y o ∧ Q (o.getD z) H
section
variable {K : PySem.W.Frag} {σ : L2.St} {F : Hp} {O O' : Own} {H : Hp} {Q : VK} {ta tb tc te : TE} {x y v : V} {D : Ends} {t1 t2 ts : TS} {g : TG}
theorem g_dnew (hH : Has F O H) (q : ∀ p H', H p = none → Has F ((p, .dK []) :: O) H' → Q (.ref p) H') : tDNewK σ H Q := fun p n => q p _ n (hH.new n)
theorem g_inDI {a : Addr} {kvs : List (Key × V)} {i : Int} (h : H a = some (.dK kvs)) (q : Q (.bl (valV kvs (.inl i)).isSome) H) : rInDc (.int i) (.ref a) H Q := ⟨a, _, rfl, DGet.k (k := .inl i) h, q⟩
theorem g_notinDI {a : Addr} {kvs : List (Key × V)} {i : Int} (h : H a = some (.dK kvs)) (q : Q (.bl (!(valV kvs (.inl i)).isSome)) H) : rNotInDc (.int i) (.ref a) H Q := ⟨a, _, rfl, DGet.k (k := .inl i) h, q⟩
theorem g_setDI {R : L2.St → Hp → Prop} {a : Addr} {kvs : List (Key × V)} {i : Int} (hH : Has F O H) (c : Chg O a (.dK kvs) (.dK (putK kvs (.inl i) v)) O') (hl : kvs.length < sizeLine) (q : ∀ H', Has F O' H' → R σ H') : kSet rSetD R σ (.ref a) (.int i) v H :=
  ⟨a, _, rfl, DPut.k (k := .inl i) (hH.get c.mem) hl, q _ (hH.put c)⟩
theorem g_get2 (q : ta σ H fun x H1 => kGet2 tb tc σ x H1 Q) : tDGet2 ta tb tc σ H Q := q
theorem g_kget2 {a : Addr} {kvs : List (Key × V)} (h : H a = some (.dK kvs)) (q : tb σ H fun y H2 => tc σ H2 fun z H3 => kGot a y z H3 Q) : kGet2 tb tc σ (.ref a) H Q := ⟨a, rfl, .inl ⟨kvs, .inl h⟩, q⟩
theorem g_kgotI {a : Addr} {kvs : List (Key × V)} {i : Int} {z : V} (h : H a = some (.dK kvs)) (q : Q ((valV kvs (.inl i)).getD z) H) : kGot a (.int i) z H Q := ⟨_, DGet.k (k := .inl i) h, q⟩
theorem g_kgotS {a : Addr} {kvs : List (Key × V)} {i : Str} {z : V} (h : H a = some (.dK kvs)) (q : Q ((valV kvs (.inr i)).getD z) H) : kGot a (.str i) z H Q := ⟨_, DGet.k (k := .inr i) h, q⟩
end

/-! ### in, not in; o[i] = v: any of the kinds -/
def rInA (K : PySem.W.Frag) : R2 := fun x y H Q => (rIn K false x y H Q ∨ rInDc x y H Q) ∨ (∃ i j, x = .str i ∧ y = .str j ∧ Q (.bl (!(Builtin.Str.occurrences j i 0 j.length 1).isEmpty)) H) ∨ rInD K x y H Q
def rNotInA (K : PySem.W.Frag) : R2 := fun x y H Q => (rIn K true x y H Q ∨ rNotInDc x y H Q) ∨ (∃ i j, x = .str i ∧ y = .str j ∧ Q (.bl (!(!(Builtin.Str.occurrences j i 0 j.length 1).isEmpty))) H) ∨ rNotInD K x y H Q
def rSetA : TSet := fun o i v H Q => rSetL o i v H Q ∨ rSetD o i v H Q
section
variable {X : Cx}
theorem op_inA (hu : X.A.units + 64 < cLine) (hu' : X.A.units + 65 < cLine) : OpR X (compareOp .In) (rInA X.K) := by
  intro pins s σ H x y v u Q I rx ry h
  rcases h with (h | h) | h | h
  · exact op_in_seq pins s σ H x y v u Q I rx ry h
  · exact op_inDc (by omega) pins s σ H x y v u Q I rx ry h
  · exact op_in_str pins s σ H x y v u Q I rx ry h
  · exact op_inD hu' pins s σ H x y v u Q I rx ry h
theorem op_notinA (hu : X.A.units + 64 < cLine) (hu' : X.A.units + 65 < cLine) : OpR X (compareOp .NotIn) (rNotInA X.K) := by
  intro pins s σ H x y v u Q I rx ry h
  rcases h with (h | h) | h | h
  · exact op_notIn_seq pins s σ H x y v u Q I rx ry h
  · exact op_notinDc (by omega) pins s σ H x y v u Q I rx ry h
  · exact L2.op_notIn_str pins s σ H x y v u Q I rx ry h
  · exact op_notInD hu' pins s σ H x y v u Q I rx ry h
theorem set_any (hu : X.A.units + 1 < cLine) : PSet X rSetA := by
  intro pins s σ H o i v ov iv u Q I ro ri rv h
  rcases h with h | h
  · exact set_list pins s σ H o i v ov iv u Q I ro ri rv h
  · exact set_dict hu pins s σ H o i v ov iv u Q I ro ri rv h
theorem u65 {k : Nat} {A : Around} (r : Room k A) : A.units + 65 < cLine := by have := r.un; omega
end
section
variable {K : PySem.W.Frag} {σ : L2.St} {F : Hp} {O O' : Own} {H : Hp} {Q : VK} {x y v : V}
theorem g_inFL {a : Addr} {xs : List V} (h : H a = some (.lst xs)) (hx : flatV x = true) (hf : xs.all flatV = true) (q : Q (.bl (inV x xs)) H) : rInA K x (.ref a) H Q := .inl (.inl ⟨a, xs, rfl, .inl (SqL.of h), hx, hf, q⟩)
theorem g_notinFL {a : Addr} {xs : List V} (h : H a = some (.lst xs)) (hx : flatV x = true) (hf : xs.all flatV = true) (q : Q (.bl (!inV x xs)) H) : rNotInA K x (.ref a) H Q := .inl (.inl ⟨a, xs, rfl, .inl (SqL.of h), hx, hf, q⟩)
theorem g_inI {a : Addr} {kvs : List (Key × V)} {i : Int} (h : H a = some (.dK kvs)) (q : Q (.bl (valV kvs (.inl i)).isSome) H) : rInA K (.int i) (.ref a) H Q := .inl (.inr ⟨a, _, rfl, DGet.k (k := .inl i) h, q⟩)
theorem g_notinI {a : Addr} {kvs : List (Key × V)} {i : Int} (h : H a = some (.dK kvs)) (q : Q (.bl (!(valV kvs (.inl i)).isSome)) H) : rNotInA K (.int i) (.ref a) H Q := .inl (.inr ⟨a, _, rfl, DGet.k (k := .inl i) h, q⟩)
theorem g_inS {a : Addr} {kvs : List (Key × V)} {i : Str} (h : H a = some (.dK kvs)) (q : Q (.bl (valV kvs (.inr i)).isSome) H) : rInA K (.str i) (.ref a) H Q := .inl (.inr ⟨a, _, rfl, DGet.k (k := .inr i) h, q⟩)
theorem g_notinS {a : Addr} {kvs : List (Key × V)} {i : Str} (h : H a = some (.dK kvs)) (q : Q (.bl (!(valV kvs (.inr i)).isSome)) H) : rNotInA K (.str i) (.ref a) H Q := .inl (.inr ⟨a, _, rfl, DGet.k (k := .inr i) h, q⟩)
theorem g_stL {R : L2.St → Hp → Prop} {a : Addr} {xs : List V} {k : Int} {j : Nat} (hH : Has F O H) (c : Chg O a (.lst xs) (.lst (xs.set j v)) O') (hj : ixN xs.length k = some j) (q : ∀ H', Has F O' H' → R σ H') : kSet rSetA R σ (.ref a) (.int k) v H :=
  .inl ⟨a, xs, k, j, rfl, rfl, hH.get c.mem, hj, q _ (hH.put c)⟩
theorem g_stD {R : L2.St → Hp → Prop} {a : Addr} {kvs : List (Key × V)} {k : Key} {z : V} (ez : z = kV k) (hH : Has F O H) (c : Chg O a (.dK kvs) (.dK (putK kvs k v)) O') (hl : kvs.length < sizeLine) (q : ∀ H', Has F O' H' → R σ H') : kSet rSetA R σ (.ref a) z v H := by
  subst ez
  exact .inr ⟨a, _, rfl, DPut.k (hH.get c.mem) hl, q _ (hH.put c)⟩
end

/-! ### an argument that is changed -/
def rm (H : Hp) (a : Addr) : Hp := fun b => if b = a then none else H b
/-- all but a stands as it stood -/
def But (a : Addr) (H H' : Hp) : Prop := ∀ b u, b ≠ a → H b = some u → H' b = some u
theorem rm_at {H : Hp} {a : Addr} : rm H a a = none := if_pos rfl
theorem rm_ne {H : Hp} {a b : Addr} (h : b ≠ a) : rm H a b = H b := if_neg h
theorem Has.arg {H : Hp} {a : Addr} {o : HO} (h : H a = some o) : Has (rm H a) [(a, o)] H := by
  refine ⟨fun b u q => ?_, fun p hp => ?_, by simp⟩
  · by_cases e : b = a
    · subst e; rw [rm_at] at q; cases q
    · rw [rm_ne e] at q; exact q
  · have e : p = (a, o) := by simpa using hp
    subst e
    exact ⟨rm_at, h⟩
theorem But.of {H H' : Hp} {a : Addr} (h : Same (rm H a) H') : But a H H' := fun b u ne q => h b u (by rw [rm_ne ne]; exact q)
theorem But.trans {a : Addr} {H H1 H2 : Hp} (x : But a H H1) (y : But a H1 H2) : But a H H2 := fun b u ne q => y b u ne (x b u ne q)
theorem But.same {a : Addr} {H H1 H2 : Hp} (x : But a H H1) (y : Same H1 H2) : But a H H2 := fun b u ne q => y b u (x b u ne q)
section
variable {K : PySem.W.Frag} {σ : L2.St} {F : Hp} {O O' : Own} {H : Hp} {Q : VK} {x y v : V}
/-- a test by a fact about its answer -/
theorem g_fact {t : TT} {R : Bool → Hp → Prop} (C : Bool → Prop) (h : ∀ R : Bool → Hp → Prop, (∀ b, C b → R b H) → t σ H R) (q : ∀ b, C b → R b H) : t σ H R := h R q
theorem g_ixV {a : Addr} {xs : List V} {i : Int} (h : H a = some (.lst xs)) (h0 : 0 ≤ i) (hl : i < xs.length) (q : ∀ v, xs[i.toNat]? = some v → Q v H) : rIx K (.ref a) (.int i) H Q := by
  have e : i.toNat < xs.length := by omega
  exact g_ixL h (at_n h0 (List.getElem?_eq_getElem e)) (q _ (List.getElem?_eq_getElem e))
theorem g_ixI {a : Addr} {xs : List Int} {i : Int} (h : H a = some (.lst (xs.map V.int))) (h0 : 0 ≤ i) (hl : i < xs.length) (q : ∀ z, xs[i.toNat]? = some z → Q (.int z) H) : rIx K (.ref a) (.int i) H Q := by
  have e : i.toNat < xs.length := by omega
  refine g_ixL h (at_n h0 (v := .int xs[i.toNat]) ?_) (q _ (List.getElem?_eq_getElem e))
  rw [List.getElem?_map, List.getElem?_eq_getElem e]
  rfl
theorem g_ixZ {a : Addr} {xs : List Str} {i : Int} (h : H a = some (.lst (xs.map V.str))) (h0 : 0 ≤ i) (hl : i < xs.length) (q : ∀ z, xs[i.toNat]? = some z → Q (.str z) H) : rIx K (.ref a) (.int i) H Q := by
  have e : i.toNat < xs.length := by omega
  refine g_ixL h (at_n h0 (v := .str xs[i.toNat]) ?_) (q _ (List.getElem?_eq_getElem e))
  rw [List.getElem?_map, List.getElem?_eq_getElem e]
  rfl
theorem g_stI {R : L2.St → Hp → Prop} {a : Addr} {xs : List Int} {k z : Int} (hH : Has F O H) (c : Chg O a (.lst (xs.map V.int)) (.lst ((xs.set k.toNat z).map V.int)) O') (h0 : 0 ≤ k) (hl : k < xs.length) (q : ∀ H', Has F O' H' → R σ H') : kSet rSetA R σ (.ref a) (.int k) (.int z) H := by
  refine g_stL (xs := xs.map V.int) (j := k.toNat) hH ?_ (ixN_nat h0 (by rw [List.length_map]; exact hl)) q
  rw [← List.map_set]
  exact c
theorem g_popAtI {a : Addr} {xs : List Int} {i : Int} (hH : Has F O H) (c : Chg O a (.lst (xs.map V.int)) (.lst ((xs.eraseIdx i.toNat).map V.int)) O') (h0 : 0 ≤ i) (hl : i < xs.length) (h2 : xs.length ≤ 1000) (q : ∀ H' z, Has F O' H' → Q (.int z) H') : rPopAt (.ref a) [.int i] H Q := by
  have e : i.toNat < xs.length := by omega
  refine g_popAt (xs := xs.map V.int) (k := i.toNat) (y := .int xs[i.toNat]) hH ?_ (by omega) (by omega) ?_ ?_ (fun H' h => q H' _ h)
  · have : (xs.map V.int).eraseIdx i.toNat = (xs.eraseIdx i.toNat).map V.int := by
      rw [List.eraseIdx_eq_take_drop_succ, List.eraseIdx_eq_take_drop_succ, List.map_append, List.map_take, List.map_drop]
    rw [this]
    exact c
  · have := (ixN_seq (n := (xs.map V.int).length) (i := i) (j := i.toNat) (ixN_nat h0 (by rw [List.length_map]; exact hl))).1
    exact this
  · rw [List.getElem?_map, List.getElem?_eq_getElem e]
    rfl
end
theorem sz {n : Nat} (h : n ≤ 100000) : n ≤ sizeLine := by rw [sizeLine_eq]; omega
theorem szl {n : Nat} (h : n < 100000) : n < sizeLine := by rw [sizeLine_eq]; omega

section
variable {K : PySem.W.Frag} {σ : L2.St} {F : Hp} {O O' : Own} {H : Hp} {Q : VK} {x y v : V} {te ta : TE}
theorem g_yes {R : Bool → Hp → Prop} (q : R true H) : tYes σ H R := q
theorem g_wipe {σ1 σ2 : L2.St} {B : Prop} (e : σ1 = σ2) (q : B) : σ1 = σ2 ∧ B := ⟨e, q⟩
def kOI (x : V) (H : Hp) (R : Option Int → Hp → Prop) : Prop := ∃ i, x = .int i ∧ R (some i) H
theorem g_part {R : Option Int → Hp → Prop} (q : te σ H fun x H1 => kOI x H1 R) : tPart te σ H R := q
theorem g_kOI {R : Option Int → Hp → Prop} {i : Int} (q : R (some i) H) : kOI (.int i) H R := ⟨i, rfl, q⟩
theorem g_nopart {R : Option Int → Hp → Prop} (q : R none H) : tNoPart σ H R := q
theorem g_slice {r : V → Option Int → Option Int → Hp → VK → Prop} {tl th : TO} (q : te σ H fun x H1 => tl σ H1 fun l H2 => th σ H2 fun u H3 => r x l u H3 Q) : tSl r te tl th σ H Q := q
theorem g_slS {a : Addr} {xs : List V} {lo hi : Option Int} (h : SqL K H a xs) (hH : Has F O H) (q : ∀ p H', H p = none → Has F ((p, .lst (cutV xs lo hi)) :: O) H' → Q (.ref p) H') : rSlL K (.ref a) lo hi H Q := ⟨a, xs, rfl, h, fun p n => q p _ n (hH.new n)⟩
theorem g_slL {a : Addr} {xs : List V} {lo hi : Option Int} (h : H a = some (.lst xs)) (hH : Has F O H) (q : ∀ p H', H p = none → Has F ((p, .lst (cutV xs lo hi)) :: O) H' → Q (.ref p) H') : rSlL K (.ref a) lo hi H Q := g_slS (SqL.of h) hH q
theorem cutV_ints (ns : List Int) (lo hi : Option Int) : ∃ ms : List Int, cutV (ns.map V.int) lo hi = ms.map V.int ∧ ms.length ≤ ns.length := by
  refine ⟨(ns.drop (HT.sIx ns.length 0 lo)).take (HT.sIx ns.length ns.length hi - HT.sIx ns.length 0 lo), ?_, ?_⟩
  · unfold cutV
    rw [List.length_map, List.map_take, List.map_drop]
  · rw [List.length_take, List.length_drop]
    omega
theorem g_revL {a : Addr} {xs : List V} (h : H a = some (.lst xs)) (hH : Has F O H) (q : ∀ p H', H p = none → Has F ((p, .lst xs.reverse) :: O) H' → Q (.ref p) H') : (∃ b ys, V.ref a = .ref b ∧ SqL K H b ys ∧ ∀ p, H p = none → Q (.ref p) (upd H p (.lst ys.reverse))) :=
  ⟨a, xs, rfl, SqL.of h, fun p n => q p _ n (hH.new n)⟩
theorem g_tRev (q : te σ H fun x H1 => rRevL K x H1 Q) : tRevL K te σ H Q := q
theorem g_rRev {a : Addr} {xs : List V} (h : H a = some (.lst xs)) (hH : Has F O H) (q : ∀ p H', H p = none → Has F ((p, .lst xs.reverse) :: O) H' → Q (.ref p) H') : rRevL K (.ref a) H Q := ⟨a, xs, rfl, SqL.of h, fun p n => q p _ n (hH.new n)⟩
/-- an item of a list of texts that are in order, of ints from 0 to n -/
def okS : V → Bool
  | .str z => PyData.strOk z
  | _ => false
def okI (n : Int) : V → Bool
  | .int z => decide (0 ≤ z ∧ z ≤ n)
  | _ => false
theorem g_ixM {a : Addr} {xs : List V} {i : Int} (h : H a = some (.lst xs)) (ok : xs.all okS = true) (h0 : 0 ≤ i) (hl : i < xs.length) (q : ∀ z, PyData.strOk z = true → Q (.str z) H) : rIx K (.ref a) (.int i) H Q := by
  refine g_ixV h h0 hl fun v hv => ?_
  have m := List.all_eq_true.mp ok v (List.mem_of_getElem? hv)
  cases v with
  | str z => exact q z m
  | _ => cases m
theorem g_ixN {n : Int} {a : Addr} {xs : List V} {i : Int} (h : H a = some (.lst xs)) (ok : xs.all (okI n) = true) (h0 : 0 ≤ i) (hl : i < xs.length) (q : ∀ z, 0 ≤ z → z ≤ n → Q (.int z) H) : rIx K (.ref a) (.int i) H Q := by
  refine g_ixV h h0 hl fun v hv => ?_
  have m := List.all_eq_true.mp ok v (List.mem_of_getElem? hv)
  cases v with
  | int z =>
    have := of_decide_eq_true (show decide (0 ≤ z ∧ z ≤ n) = true from m)
    exact q z this.1 this.2
  | _ => cases m
end

/-! ### tables of ints: a list of rows -/
def rowO (r : Addr × List Int) : Addr × HO := (r.1, .lst (r.2.map V.int))
def tabO (t : Addr) (rows : List (Addr × List Int)) : Own := (t, .lst (rows.map fun r => V.ref r.1)) :: rows.map rowO
theorem Chg.row {r : Addr × List Int} {zs : List Int} {O : Own} : ∀ {rows : List (Addr × List Int)} {k : Nat}, rows[k]? = some r → Chg (rows.map rowO ++ O) r.1 (.lst (r.2.map V.int)) (.lst (zs.map V.int)) ((rows.set k (r.1, zs)).map rowO ++ O)
  | [], k, h => by simp at h
  | x :: rows, 0, h => by
    have e : x = r := Option.some.inj h
    subst e
    exact .hd
  | x :: rows, k + 1, h => .tl (Chg.row (rows := rows) (k := k) h)
theorem rows_ref {r : Addr × List Int} {zs : List Int} : ∀ {rows : List (Addr × List Int)} {k : Nat}, rows[k]? = some r → (rows.set k (r.1, zs)).map (fun r => V.ref r.1) = rows.map fun r => V.ref r.1
  | [], k, h => by simp at h
  | x :: rows, 0, h => by
    have e : x = r := Option.some.inj h
    subst e
    rfl
  | x :: rows, k + 1, h => by
    have := rows_ref (rows := rows) (k := k) (zs := zs) h
    show V.ref x.1 :: (rows.set k (r.1, zs)).map (fun r => V.ref r.1) = _
    rw [this]
    rfl
section
variable {K : PySem.W.Frag} {σ : L2.St} {F : Hp} {O O' : Own} {H : Hp} {Q : VK} {t : Addr} {rows : List (Addr × List Int)}
theorem Has.row {r : Addr × List Int} {k : Nat} (hH : Has F (tabO t rows ++ O) H) (hr : rows[k]? = some r) : H r.1 = some (.lst (r.2.map V.int)) :=
  hH.get (List.mem_append_left _ (List.mem_cons_of_mem _ (List.mem_map.mpr ⟨r, List.mem_of_getElem? hr, rfl⟩)))
theorem Has.tab (hH : Has F (tabO t rows ++ O) H) : H t = some (.lst (rows.map fun r => V.ref r.1)) := hH.get (List.mem_append_left _ List.mem_cons_self)
theorem g_ixRow {i : Int} (hH : Has F (tabO t rows ++ O) H) (h0 : 0 ≤ i) (hl : i < rows.length) (q : ∀ r, rows[i.toNat]? = some r → H r.1 = some (.lst (r.2.map V.int)) → Q (.ref r.1) H) : rIx K (.ref t) (.int i) H Q := by
  have e : i.toNat < rows.length := by omega
  have hr := List.getElem?_eq_getElem e
  refine g_ixL hH.tab (at_n h0 (v := .ref rows[i.toNat].1) ?_) (q _ hr (hH.row hr))
  rw [List.getElem?_map, hr]
  rfl
theorem g_setRow {R : L2.St → Hp → Prop} {r : Addr × List Int} {k : Nat} {j z : Int} (hH : Has F (tabO t rows ++ O) H) (hr : rows[k]? = some r) (h0 : 0 ≤ j) (hl : j < r.2.length) (q : ∀ H', Has F (tabO t (rows.set k (r.1, r.2.set j.toNat z)) ++ O) H' → R σ H') :
    kSet rSetA R σ (.ref r.1) (.int j) (.int z) H := by
  refine g_stI hH (xs := r.2) ?_ h0 hl q
  have c := Chg.row (O := O) (zs := r.2.set j.toNat z) hr
  unfold tabO
  rw [List.cons_append, List.cons_append, rows_ref hr]
  exact .tl c
end

/-! ### the rules with the written part by its name -/
section
variable {X : Cx}
theorem op_addK (K : PySem.W.Frag) (e : X.K = K := by rfl) : OpR X (binaryOp .Add) (rAdd K) := by subst e; exact op_addA
theorem op_eqK (K : PySem.W.Frag) (hu : X.A.units + 64 < cLine) (e : X.K = K := by rfl) : OpR X (compareOp .Eq) (rEqA K) := by subst e; exact op_eqA hu
theorem op_neK (K : PySem.W.Frag) (hu : X.A.units + 64 < cLine) (e : X.K = K := by rfl) : OpR X (compareOp .NotEq) (rNeA K) := by subst e; exact op_neA hu
theorem op_inK (K : PySem.W.Frag) (hu : X.A.units + 64 < cLine) (hu' : X.A.units + 65 < cLine) (e : X.K = K := by rfl) : OpR X (compareOp .In) (rInA K) := by subst e; exact op_inA hu hu'
theorem op_notinK (K : PySem.W.Frag) (hu : X.A.units + 64 < cLine) (hu' : X.A.units + 65 < cLine) (e : X.K = K := by rfl) : OpR X (compareOp .NotIn) (rNotInA K) := by subst e; exact op_notinA hu hu'
theorem ix_K (K : PySem.W.Frag) (e : X.K = K := by rfl) : IxR X (rIx K) := by subst e; exact ix_seq
theorem cr_lenK (K : PySem.W.Frag) (e : X.K = K := by rfl) : CallR X (.builtin "len") (rLen K) := by subst e; exact cr_len
theorem cr_listK (K : PySem.W.Frag) (e : X.K = K := by rfl) : CallR X (.type "list") (rListOf K) := by subst e; exact cr_listOf
theorem cr_tupleK (K : PySem.W.Frag) (e : X.K = K := by rfl) : CallR X (.type "tuple") (rTupleOf K) := by subst e; exact cr_tupleOf
theorem sl_K (K : PySem.W.Frag) (e : X.K = K := by rfl) : SlR X (rSlL K) := by subst e; exact sl_list
theorem k_bm {ex : Expr} {T : String} {r : V → List V → Hp → VK → Prop} {to : TE} {t : TA} (K : PySem.W.Frag) (h : PE X ex (tBM X.K T r to t)) (e : X.K = K := by rfl) : PE X ex (tBM K T r to t) := by subst e; exact h
theorem k_bm0 {ex : Expr} {T : String} {r : V → List V → Hp → VK → Prop} {to : TE} (K : PySem.W.Frag) (h : PE X ex (tBM0 X.K T r to)) (e : X.K = K := by rfl) : PE X ex (tBM0 K T r to) := by subst e; exact h
theorem k_rev {ex : Expr} {to : TE} (K : PySem.W.Frag) (h : PE X ex (tRevL X.K to)) (e : X.K = K := by rfl) : PE X ex (tRevL K to) := by subst e; exact h
theorem k_il {tg l : Expr} {tl : TE} (K : PySem.W.Frag) (h : PI X tg l (iList X.K tl)) (e : X.K = K := by rfl) : PI X tg l (iList K tl) := by subst e; exact h
theorem k_gt {tg : Expr} {n : Nat} {t : TGs} (K : PySem.W.Frag) (h : PG X tg (gTup X.K n t)) (e : X.K = K := by rfl) : PG X tg (gTup K n t) := by subst e; exact h
end
theorem g_start {t : TS} {D : Ends} {σ σ' : L2.St} {H : Hp} (e : σ = σ') (h : t D σ' H) : t D σ H := by subst e; exact h

theorem Has.argFree {H H' : Hp} {a D : Addr} {o : HO} {O : Own} (h : Has (rm H a) ((D, o) :: O) H') (m : a ∈ O.map (·.1)) : H D = none := by
  have nd : D ∉ O.map (·.1) ∧ (O.map (·.1)).Nodup := List.nodup_cons.mp (by have := h.nd; rw [List.map_cons] at this; exact this)
  have e := h.free
  rw [rm_ne (fun z => nd.1 (by rw [z]; exact m))] at e
  exact e

theorem Has.but2 {F H H' : Hp} {O O' : Own} {a p : Addr} {o o' op : HO} (h : Has F O H) (c : Chg O a o o' O') (hb : But a H H') (e : H' a = some o') (n : H p = none) (ep : H' p = some op) : Has F ((p, op) :: O') H' := by
  have h' := h.but c hb e
  refine ⟨h'.same, fun q hq => ?_, ?_⟩
  · rcases List.mem_cons.mp hq with rfl | hq
    · exact ⟨h.same.free n, ep⟩
    · exact h'.own q hq
  · rw [List.map_cons]
    refine List.nodup_cons.mpr ⟨fun m => ?_, h'.nd⟩
    rw [c.fst] at m
    obtain ⟨q, hq, e'⟩ := List.mem_map.mp m
    have z := (h.own q hq).2
    rw [e', n] at z
    cases z

theorem Has.mono {F F' H : Hp} {O : Own} (h : Has F O H) (s : Same F' F) : Has F' O H := ⟨s.trans h.same, fun q hq => ⟨s.free (h.own q hq).1, (h.own q hq).2⟩, h.nd⟩
theorem same_rm {F H : Hp} {a : Addr} (s : Same F H) (n : F a = none) : Same F (rm H a) := fun b u q => by
  rw [rm_ne (ne_of_none q n)]
  exact s b u q
theorem take_foldl {α β : Type} {f : β → α → β} {z : β} {l : List α} {i : Nat} {x : α} (h : l[i]? = some x) : (l.take (i + 1)).foldl f z = f ((l.take i).foldl f z) x := by
  rw [List.take_add_one, h, List.foldl_append]
  rfl
end Qk

namespace K38
open PySem PySem.Spec PyProof.Rows L2 Qk
/-! ### the text -/
def topS (i : Nat) : Stmt := PySem.Challenge.pw_partclones_k38_line_origins.main.body.getD i (.Pass ⟨0, 0, 0, 0⟩)
abbrev s_common_lengths : Stmt := topS 1
abbrev n_common_lengths : List Str := ["old", "new", "lengths", "i", "j", "_"]
theorem sc_common_lengths : FnScope n_common_lengths ["old", "new"] (defScope s_common_lengths) := ⟨rfl, rfl, rfl, by decide +kernel, rfl, by decide +kernel, by decide +kernel⟩
abbrev s_matched : Stmt := topS 2
abbrev n_matched : List Str := ["old", "new", "lengths", "pairs", "i", "j"]
theorem sc_matched : FnScope n_matched ["old", "new"] (defScope s_matched) := ⟨rfl, rfl, rfl, by decide +kernel, rfl, by decide +kernel, by decide +kernel⟩
abbrev s_line_origins : Stmt := topS 4
abbrev n_line_origins : List Str := ["name", "text", "elders", "found", "old", "known", "old_place", "place"]
theorem sc_line_origins : FnScope n_line_origins ["name", "text", "elders"] (defScope s_line_origins) := ⟨rfl, rfl, rfl, by decide +kernel, rfl, by decide +kernel, by decide +kernel⟩
abbrev s_l_feed : Stmt := topS 6
abbrev n_l_feed : List Str := ["script", "cell"]
theorem sc_l_feed : FnScope n_l_feed ["script"] (defScope s_l_feed) := ⟨rfl, rfl, rfl, by decide +kernel, rfl, by decide +kernel, by decide +kernel⟩
abbrev s_l_next : Stmt := topS 7
abbrev n_l_next : List Str := ["feed", "many", "cell"]
theorem sc_l_next : FnScope n_l_next ["feed", "many"] (defScope s_l_next) := ⟨rfl, rfl, rfl, by decide +kernel, rfl, by decide +kernel, by decide +kernel⟩
abbrev s_l_matched : Stmt := topS 8
abbrev n_l_matched : List Str := ["old", "new", "best", "i", "j", "pairs"]
theorem sc_l_matched : FnScope n_l_matched ["old", "new"] (defScope s_l_matched) := ⟨rfl, rfl, rfl, by decide +kernel, rfl, by decide +kernel, by decide +kernel⟩
abbrev s_l_new_lines : Stmt := topS 9
abbrev n_l_new_lines : List Str := ["feed", "menu", "turn", "j"]
theorem sc_l_new_lines : FnScope n_l_new_lines ["feed"] (defScope s_l_new_lines) := ⟨rfl, rfl, rfl, by decide +kernel, rfl, by decide +kernel, by decide +kernel⟩
abbrev s_l_new_text : Stmt := topS 10
abbrev n_l_new_text : List Str := ["feed", "lines", "shift", "most", "many", "row", "j", "at"]
theorem sc_l_new_text : FnScope n_l_new_text ["feed", "lines", "shift", "most"] (defScope s_l_new_text) := ⟨rfl, rfl, rfl, by decide +kernel, rfl, by decide +kernel, by decide +kernel⟩
abbrev s_l_new_elders : Stmt := topS 11
abbrev n_l_new_elders : List Str := ["feed", "name", "lines", "menu", "elders", "k", "old", "row", "j", "at"]
theorem sc_l_new_elders : FnScope n_l_new_elders ["feed", "name", "lines"] (defScope s_l_new_elders) := ⟨rfl, rfl, rfl, by decide +kernel, rfl, by decide +kernel, by decide +kernel⟩
abbrev s_l_own_lines : Stmt := topS 12
abbrev n_l_own_lines : List Str := ["name", "text", "elders", "found", "old", "marks", "i", "j", "mark"]
theorem sc_l_own_lines : FnScope n_l_own_lines ["name", "text", "elders"] (defScope s_l_own_lines) := ⟨rfl, rfl, rfl, by decide +kernel, rfl, by decide +kernel, by decide +kernel⟩
abbrev s_l_good : Stmt := topS 13
abbrev n_l_good : List Str := ["name", "text", "elders", "due", "sent", "passed", "told", "old", "marks"]
theorem sc_l_good : FnScope n_l_good ["name", "text", "elders"] (defScope s_l_good) := ⟨rfl, rfl, rfl, by decide +kernel, rfl, by decide +kernel, by decide +kernel⟩
abbrev s_law : Stmt := topS 14
abbrev n_law : List Str := ["script", "feed", "name", "lines", "text", "elders"]
theorem sc_law : FnScope n_law ["script"] (defScope s_law) := ⟨rfl, rfl, rfl, by decide +kernel, rfl, by decide +kernel, by decide +kernel⟩
structure Txt (K : PySem.W.Frag) (mg : Str → Option Value) where
  f_common_lengths : Addr
  fd_common_lengths : FuncData
  F_common_lengths : Fun K "_common_lengths" "_common_lengths" s_common_lengths f_common_lengths fd_common_lengths
  g_common_lengths : mg "_common_lengths" = some (.ref f_common_lengths)
  b_common_lengths : Binds K fd_common_lengths ["old", "new"] []
  f_matched : Addr
  fd_matched : FuncData
  F_matched : Fun K "matched" "matched" s_matched f_matched fd_matched
  g_matched : mg "matched" = some (.ref f_matched)
  b_matched : Binds K fd_matched ["old", "new"] []
  f_line_origins : Addr
  fd_line_origins : FuncData
  F_line_origins : Fun K "line_origins" "line_origins" s_line_origins f_line_origins fd_line_origins
  g_line_origins : mg "line_origins" = some (.ref f_line_origins)
  b_line_origins : Binds K fd_line_origins ["name", "text", "elders"] []
  f_l_feed : Addr
  fd_l_feed : FuncData
  F_l_feed : Fun K "_law_feed" "_law_feed" s_l_feed f_l_feed fd_l_feed
  g_l_feed : mg "_law_feed" = some (.ref f_l_feed)
  b_l_feed : Binds K fd_l_feed ["script"] []
  f_l_next : Addr
  fd_l_next : FuncData
  F_l_next : Fun K "_law_next" "_law_next" s_l_next f_l_next fd_l_next
  g_l_next : mg "_law_next" = some (.ref f_l_next)
  b_l_next : Binds K fd_l_next ["feed", "many"] []
  f_l_matched : Addr
  fd_l_matched : FuncData
  F_l_matched : Fun K "_law_matched" "_law_matched" s_l_matched f_l_matched fd_l_matched
  g_l_matched : mg "_law_matched" = some (.ref f_l_matched)
  b_l_matched : Binds K fd_l_matched ["old", "new"] []
  f_l_new_lines : Addr
  fd_l_new_lines : FuncData
  F_l_new_lines : Fun K "_law_new_lines" "_law_new_lines" s_l_new_lines f_l_new_lines fd_l_new_lines
  g_l_new_lines : mg "_law_new_lines" = some (.ref f_l_new_lines)
  b_l_new_lines : Binds K fd_l_new_lines ["feed"] []
  f_l_new_text : Addr
  fd_l_new_text : FuncData
  F_l_new_text : Fun K "_law_new_text" "_law_new_text" s_l_new_text f_l_new_text fd_l_new_text
  g_l_new_text : mg "_law_new_text" = some (.ref f_l_new_text)
  b_l_new_text : Binds K fd_l_new_text ["feed", "lines", "shift", "most"] []
  f_l_new_elders : Addr
  fd_l_new_elders : FuncData
  F_l_new_elders : Fun K "_law_new_elders" "_law_new_elders" s_l_new_elders f_l_new_elders fd_l_new_elders
  g_l_new_elders : mg "_law_new_elders" = some (.ref f_l_new_elders)
  b_l_new_elders : Binds K fd_l_new_elders ["feed", "name", "lines"] []
  f_l_own_lines : Addr
  fd_l_own_lines : FuncData
  F_l_own_lines : Fun K "_law_own_lines" "_law_own_lines" s_l_own_lines f_l_own_lines fd_l_own_lines
  g_l_own_lines : mg "_law_own_lines" = some (.ref f_l_own_lines)
  b_l_own_lines : Binds K fd_l_own_lines ["name", "text", "elders"] []
  f_l_good : Addr
  fd_l_good : FuncData
  F_l_good : Fun K "_law_good" "_law_good" s_l_good f_l_good fd_l_good
  g_l_good : mg "_law_good" = some (.ref f_l_good)
  b_l_good : Binds K fd_l_good ["name", "text", "elders"] []
  f_law : Addr
  fd_law : FuncData
  F_law : Fun K "law" "law" s_law f_law fd_law
  g_law : mg "law" = some (.ref f_law)
  b_law : Binds K fd_law ["script"] []
  m_abs : mg "abs" = none
  m_int : mg "int" = none
  m_len : mg "len" = none
  m_list : mg "list" = none
  m_max : mg "max" = none
  m_range : mg "range" = none

/-! ### the mathematics -/
def lc : List Str → List Str → Nat
  | [], _ => 0
  | _ :: _, [] => 0
  | x :: xs, y :: ys => if x = y then lc xs ys + 1 else max (lc xs (y :: ys)) (lc (x :: xs) ys)
termination_by xs ys => xs.length + ys.length
def mt : List Str → List Str → Nat → Nat → List (Nat × Nat)
  | [], _, _, _ => []
  | _ :: _, [], _, _ => []
  | x :: xs, y :: ys, i, j => if x = y then (i, j) :: mt xs ys (i + 1) (j + 1) else if lc xs (y :: ys) ≥ lc (x :: xs) ys then mt xs (y :: ys) (i + 1) j else mt (x :: xs) ys i (j + 1)
termination_by xs ys => xs.length + ys.length
theorem lc_nil (xs : List Str) : lc xs [] = 0 := by
  cases xs <;> rw [lc]
theorem mt_lt : ∀ (xs ys : List Str) (i j : Nat) (p : Nat × Nat), p ∈ mt xs ys i j → (i ≤ p.1 ∧ p.1 < i + xs.length) ∧ j ≤ p.2 ∧ p.2 < j + ys.length
  | [], _, _, _, _, h => by rw [mt] at h; cases h
  | _ :: _, [], _, _, _, h => by rw [mt] at h; cases h
  | x :: xs, y :: ys, i, j, p, h => by
    rw [mt] at h
    rw [List.length_cons, List.length_cons]
    split at h
    · rcases List.mem_cons.mp h with rfl | h
      · simp only; omega
      · have := mt_lt xs ys (i + 1) (j + 1) p h
        omega
    · split at h
      · have := mt_lt xs (y :: ys) (i + 1) j p h
        rw [List.length_cons] at this
        omega
      · have := mt_lt (x :: xs) ys i (j + 1) p h
        rw [List.length_cons] at this
        omega
termination_by xs ys => xs.length + ys.length
theorem lc_at {xs ys : List Str} {i j : Nat} {x y : Str} (hx : xs[i]? = some x) (hy : ys[j]? = some y) :
    lc (xs.drop i) (ys.drop j) = if x = y then lc (xs.drop (i + 1)) (ys.drop (j + 1)) + 1 else max (lc (xs.drop (i + 1)) (ys.drop j)) (lc (xs.drop i) (ys.drop (j + 1))) := by
  obtain ⟨h1, e1⟩ := List.getElem?_eq_some_iff.mp hx
  obtain ⟨h2, e2⟩ := List.getElem?_eq_some_iff.mp hy
  rw [List.drop_eq_getElem_cons h1, List.drop_eq_getElem_cons h2, e1, e2, lc]
theorem mt_at {xs ys : List Str} {i j : Nat} {x y : Str} (hx : xs[i]? = some x) (hy : ys[j]? = some y) :
    mt (xs.drop i) (ys.drop j) i j = if x = y then (i, j) :: mt (xs.drop (i + 1)) (ys.drop (j + 1)) (i + 1) (j + 1) else if lc (xs.drop (i + 1)) (ys.drop j) ≥ lc (xs.drop i) (ys.drop (j + 1)) then mt (xs.drop (i + 1)) (ys.drop j) (i + 1) j
      else mt (xs.drop i) (ys.drop (j + 1)) i (j + 1) := by
  obtain ⟨h1, e1⟩ := List.getElem?_eq_some_iff.mp hx
  obtain ⟨h2, e2⟩ := List.getElem?_eq_some_iff.mp hy
  rw [List.drop_eq_getElem_cons h1, List.drop_eq_getElem_cons h2, e1, e2, mt]
theorem mt_end {xs ys : List Str} {i j : Nat} (h : xs.length ≤ i ∨ ys.length ≤ j) : mt (xs.drop i) (ys.drop j) i j = [] := by
  rcases h with h | h
  · rw [List.drop_eq_nil_of_le h, mt]
  · rw [List.drop_eq_nil_of_le h]
    cases xs.drop i <;> rw [mt]

end K38

namespace K38
open PySem PySem.Spec PyProof.Rows L2 Qk
local macro_rules | `(tactic| walk_at "m") => `(tactic| ((repeat (first | exact List.Mem.head _ | apply List.Mem.tail)); done))
local macro_rules | `(tactic| walk_at "h") => `(tactic| first | assumption | exact Has.gF (by assumption) (by assumption) | exact Has.get (by assumption) (by walk_at "m"))
local macro_rules | `(tactic| walk_at "c") => `(tactic| ((repeat (first | exact Chg.hd | apply Chg.tl)); done))
local macro_rules | `(tactic| walk_at "g") => `(tactic| first
  | (with_reducible refine g_seq ?_)
  | (with_reducible refine g_asg ?_)
  | ((with_reducible refine g_name ?_); dsimp only [List.set, wipe, List.map])
  | ((with_reducible refine' g_var ?gv ?_); (case gv => exact rfl))
  | (with_reducible refine g_c ?_)
  | (with_reducible refine g_op ?_)
  | (with_reducible refine g_cons ?_)
  | (with_reducible refine g_nil ?_)
  | (with_reducible refine g_cb ?_)
  | (with_reducible refine g_call ?_)
  | (with_reducible refine g_tup ?_)
  | (with_reducible refine g_lst ?_)
  | (with_reducible refine g_bm ?_)
  | (with_reducible refine g_bm0 ?_)
  | ((with_reducible refine' g_kbm ?gh ?_); (case gh => walk_at "h"))
  | (with_reducible refine g_drop ?_)
  | (with_reducible refine g_ret ?_)
  | (with_reducible refine g_retN ?_)
  | (with_reducible refine g_next ?_)
  | (with_reducible refine g_brk ?_)
  | (with_reducible refine g_cont ?_)
  | (with_reducible refine g_if ?_)
  | ((with_reducible refine' g_aug ?gv ?_); (case gv => exact rfl))
  | (with_reducible refine g_ipI ?_)
  | (with_reducible refine g_test ?_)
  | (with_reducible refine g_tB ?_)
  | (with_reducible refine g_kB ?_)
  | (with_reducible refine g_not ?_)
  | (with_reducible refine g_and ?_)
  | (with_reducible refine g_or ?_)
  | (with_reducible refine g_andV ?_)
  | (with_reducible refine g_orV ?_)
  | (with_reducible refine g_notV ?_)
  | (with_reducible refine g_ifE ?_)
  | (with_reducible refine g_addI ?_)
  | (with_reducible refine g_rI0 ?_)
  | (with_reducible refine g_eqI ?_)
  | (with_reducible refine g_eqS ?_)
  | (with_reducible refine g_neI ?_)
  | (with_reducible refine g_neS ?_)
  | (with_reducible refine g_isN ?_)
  | (with_reducible refine g_notN ?_)
  | (with_reducible refine g_int ?_)
  | (with_reducible refine g_max2 ?_)
  | ((with_reducible refine' g_lenL ?gh ?_); (case gh => walk_at "h"))
  | (with_reducible refine g_sub ?_)
  | (with_reducible refine g_gcons ?_)
  | (with_reducible refine g_gnil ?_)
  | (with_reducible refine g_un ?_)
  | (with_reducible refine g_rU ?_)
  | (with_reducible refine g_forL ?_)
  | (with_reducible refine g_forR1 ?_)
  | (with_reducible refine g_forR2 ?_)
  | (with_reducible refine g_forR3 ?_)
  | (with_reducible refine g_lcL ?_)
  | (with_reducible refine g_lcR1 ?_)
  | (with_reducible refine g_slice ?_)
  | (with_reducible refine g_part ?_)
  | (with_reducible refine g_kOI ?_)
  | (with_reducible refine g_nopart ?_)
  | (with_reducible refine g_yes ?_)
  | ((with_reducible refine' g_wipe ?gv ?_); (case gv => exact rfl))
  | (with_reducible refine iteT ?_)
  | (with_reducible refine iteF ?_)
  | ((with_reducible refine' g_gtup ?gh ?gl ?_); (case gh => walk_at "h"); (case gl => exact rfl))
  | ((with_reducible refine' g_notinI ?gh ?_); (case gh => walk_at "h"))
  | ((with_reducible refine' g_inI ?gh ?_); (case gh => walk_at "h"))
  | ((with_reducible refine' g_kget2 ?gh ?_); (case gh => walk_at "h"))
  | ((with_reducible refine' g_kgotI ?gh ?_); (case gh => walk_at "h"))
  | (with_reducible refine g_tRev ?_)
  | (with_reducible refine g_get2 ?_))
local macro_rules | `(tactic| walk_at "gg") => `(tactic| repeat walk_at "g")
local macro_rules | `(tactic| walk_at "sz") => `(tactic| (refine sz ?_; simp only [List.length_cons, List.length_nil, List.length_map, List.length_append, List.length_replicate]; omega))

section
variable {P : Program} {w : World} {K : PySem.W.Frag} {mg : Str → Option Value} {base : Heap}
def sp_l_feed (K : PySem.W.Frag) : Sp := fun vs H Q _ => ∃ (a : Addr) (ns : List Int), vs = [.ref a] ∧ SqL K H a (ns.map V.int) ∧ ns.length ≤ 63 ∧
  ∀ p H' (ms : List Int), H p = none → Same H H' → H' p = some (.lst ((0 :: ms).map V.int)) → ms.length ≤ 63 → Q (.ref p) H'
theorem sp_l_feed_len {vs H Q E} (h : sp_l_feed K vs H Q E) : vs.length = 1 := by
  obtain ⟨_, _, rfl, _⟩ := h
  rfl
def sp_l_next (K : PySem.W.Frag) : Sp := fun vs H Q _ => ∃ (a : Addr) (ns : List Int) (m : Int), vs = [.ref a, .int m] ∧ H a = some (.lst (ns.map V.int)) ∧ 0 < ns.length ∧ ns.length ≤ 100 ∧ 0 < m ∧ m < 1000000 ∧
  ∀ H' (ns' : List Int) (r : Int), But a H H' → H' a = some (.lst (ns'.map V.int)) → 0 < ns'.length → ns'.length ≤ 100 → 0 ≤ r → r < m → Q (.int r) H'
theorem sp_l_next_len {vs H Q E} (h : sp_l_next K vs H Q E) : vs.length = 2 := by
  obtain ⟨_, _, _, rfl, _⟩ := h
  rfl
theorem ok_l_next (T : Txt K mg) : FnOk P w K mg base CX0 1 T.f_l_next T.fd_l_next ["feed", "many"] (sp_l_next K) := by
  refine T.F_l_next.ok sc_l_next (fun vs H Q E h => sp_l_next_len h) (fun cdv A outer s H vs Q E hr h => ?_)
  refine ⟨_, (pss_cons (ps_while PassesOwn.never (PW.pt (pw_and (pt_cmpR op_gt (pe_callB (cr_lenK K) (by rfl) T.m_len (by decide +kernel) (pa_cons (pv 0) pa_nil)) pe_int (nomark _)) (pw_and1 (PW.pt (pw_or (pt_cmpR (op_eqK K hr.units) (pe_ix (ix_K K) (pv 0) pe_int (fun _ _ => rfl)) pe_int (nomark _)) (pw_or1 (pt_cmpR (op_eqK K hr.units) (pe_ix (ix_K K) (pv 0) pe_int (fun _ _ => rfl)) pe_int (nomark _)))))))) (pss_cons (ps_expr (k_bm K (pe_bm PySem.F.plainAttrs_list PySem.F.slot_list_pop PySem.F.type_list_pop mt_popAt (pv 0) (pa_cons pe_int pa_nil))))
      (pss_one (ps_asg pe_int (pg_sub (pv 0) pe_int (set_any (hu_of hr)))))))
      (pss_cons (ps_if (pt_cmpR (op_eqK K hr.units) (pe_callB (cr_lenK K) (by rfl) T.m_len (by decide +kernel) (pa_cons (pv 0) pa_nil)) pe_int (nomark _)) (pss_one (ps_ret pe_int)) pss_nil)
      (pss_cons (ps_set (i := 2) sc_l_next.nd rfl (.inl rfl) (pe_callTy cr_int1 (by rfl) T.m_int (by decide +kernel) (pa_cons (pe_ix (ix_K K) (pv 0) pe_int (fun _ _ => rfl)) pa_nil)))
      (pss_cons (ps_asg (pe_op (op_addK K) (pe_ix (ix_K K) (pv 0) pe_int (fun _ _ => rfl)) pe_int) (pg_sub (pv 0) pe_int (set_any (hu_of hr))))
      (pss_cons (ps_asg (pe_op op_fdiv (pv 2) (pv 1)) (pg_sub (pv 0) pe_int (set_any (hu_of hr))))
      (pss_one (ps_ret (pe_op op_mod (pe_callTy cr_int1 (by rfl) T.m_int (by decide +kernel) (pa_cons (pv 2) pa_nil)) (pv 1))))))))), ?_⟩
  obtain ⟨a, ns, m, rfl, ha, hn0, hn, hm0, hm, q⟩ := h
  have hH0 := Has.arg ha
  refine g_start (σ' := [some (.ref a), some (.int m), none]) rfl ?_
  walk_at "gg"
  refine g_while (fun k σ H' => ∃ ns' : List Int, σ = [some (.ref a), some (.int m), none] ∧ k = ns'.length ∧ 0 < ns'.length ∧ ns'.length ≤ 100 ∧ Has (rm H a) [(a, .lst (ns'.map V.int))] H') ns.length ⟨ns, rfl, rfl, hn0, hn, hH0⟩ ?_
  rintro k σ H1 ⟨ns', rfl, rfl, h1, h2, hH⟩
  refine g_fact (fun b => b = true → 1 < ns'.length) (fun R r => ?_) (fun b hb => ?_)
  · walk_at "gg"
    rw [List.length_map]
    refine i_d (fun l1 => ?_) (fun l1 => r _ (fun z => by cases z))
    walk_at "gg"
    refine g_ixI (by walk_at "h") (by omega) (by omega) (fun z hz => ?_)
    walk_at "gg"
    refine i_d (fun l2 => r _ (fun z => by omega)) (fun l2 => ?_)
    walk_at "gg"
    refine g_ixI (by walk_at "h") (by omega) (by omega) (fun z hz => ?_)
    walk_at "gg"
    exact r _ (fun z => by omega)
  cases b with
  | true =>
    have l1 := hb rfl
    refine kwh_t ?_
    walk_at "gg"
    refine g_popAtI hH (by walk_at "c") (by omega) (by omega) (by omega) (fun H2 z hH2 => ?_)
    walk_at "gg"
    refine g_stI hH2 (by walk_at "c") (by omega) (by rw [List.length_eraseIdx]; split <;> omega) (fun H3 hH3 => ?_)
    refine ⟨(ns'.eraseIdx (1 : Int).toNat).length, by rw [List.length_eraseIdx]; split <;> omega, _, rfl, by rw [List.length_set], ?_, ?_, hH3⟩
    · rw [List.length_set, List.length_eraseIdx]; split <;> omega
    · rw [List.length_set, List.length_eraseIdx]; split <;> omega
  | false =>
    refine kwh_f ?_
    walk_at "gg"
    rw [List.length_map]
    refine i_d (fun l1 => ?_) (fun l1 => ?_)
    · walk_at "gg"
      exact q H1 ns' 0 (But.of hH.same) (by walk_at "h") h1 h2 (by omega) (by omega)
    walk_at "gg"
    refine g_ixI (by walk_at "h") (by omega) (by omega) (fun z hz => ?_)
    walk_at "gg"
    refine g_ixI (by walk_at "h") (by omega) (by omega) (fun z0 hz0 => ?_)
    walk_at "gg"
    refine g_stI hH (by walk_at "c") (by omega) (by omega) (fun H2 hH2 => ?_)
    walk_at "gg"
    refine g_rI ⟨by omega, by omega⟩ ?_
    walk_at "gg"
    refine g_stI hH2 (by walk_at "c") (by omega) (by rw [List.length_set]; omega) (fun H3 hH3 => ?_)
    walk_at "gg"
    refine g_rI hm0 ?_
    exact q H3 _ _ (But.of hH3.same) (by walk_at "h") (by rw [List.length_set, List.length_set]; exact h1) (by rw [List.length_set, List.length_set]; exact h2) (Int.emod_nonneg _ (by omega)) (Int.emod_lt_of_pos _ hm0)

theorem ok_l_feed (T : Txt K mg) : FnOk P w K mg base CX0 1 T.f_l_feed T.fd_l_feed ["script"] (sp_l_feed K) := by
  refine T.F_l_feed.ok sc_l_feed (fun vs H Q E h => sp_l_feed_len h) (fun cdv A outer s H vs Q E hr h => ?_)
  refine ⟨_, (pss_one (ps_ret (pe_op (op_addK K) (pe_lst (pa_cons pe_int pa_nil)) (pe_lc (own := [("cell", 1)]) (g := gName 1) (tt := tYes) rfl sc_l_feed.nd (k_il K (pi_list (pe_slice (sl_K K) (pv 0) po_none (po_some pe_int)))) (blkOk_by (N := n_l_feed) (sc := defScope s_l_feed) (by decide +kernel)) (fun _ _ _ _ _ => (pg_name (i := 1) sc_l_feed.nd rfl (.inl rfl))) (fun _ _ _ _ _ => pts_nil) (fun _ _ _ _ _ => (pe_callB cr_abs1 (by rfl) T.m_abs (by decide +kernel) (pa_cons (pe_callTy cr_int1 (by rfl) T.m_int (by decide +kernel) (pa_cons (pv 1) pa_nil)) pa_nil))))))), ?_⟩
  obtain ⟨a, ns, rfl, ha, hn, q⟩ := h
  have hH := Has.start H
  refine g_start (σ' := [some (.ref a), none]) rfl ?_
  walk_at "gg"
  refine g_klst (sz (by decide)) hH (fun p1 H1 n1 hH1 => ?_)
  walk_at "gg"
  refine g_slS ((hH1.drop.same).seq ha) hH1 (fun p2 H2 n2 hH2 => ?_)
  obtain ⟨ms, em, lm⟩ := cutV_ints ns none (some 63)
  rw [em] at hH2
  refine k_lcL (by walk_at "h") hH2 (fun i acc F' O' => ∃ ks : List Int, acc = ks.map V.int ∧ ks.length = i ∧ F' = H ∧ O' = [(p2, .lst (ms.map V.int)), (p1, .lst [.int 0])]) ⟨[], rfl, rfl, rfl, rfl⟩ ?_ ?_ ?_
  · rintro i acc F' O' H3 ⟨ks, rfl, rfl, rfl, rfl⟩ hh
    walk_at "h"
  · rintro i x acc F' O' D H3 hx ⟨ks, rfl, rfl, rfl, rfl⟩ hh
    rw [List.getElem?_map] at hx
    obtain ⟨z, hz, rfl⟩ := Option.map_eq_some_iff.mp hx
    have hl : ks.length < ms.length := (List.getElem?_eq_some_iff.mp hz).1
    walk_at "gg"
    refine g_abs (fun j hj => ?_)
    refine k_turn hh (by rw [List.length_map]; omega) ⟨ks ++ [j], by rw [List.map_append]; rfl, by rw [List.length_append]; rfl, rfl, rfl⟩
  · rintro acc F' O' D H3 ⟨ks, rfl, hk, rfl, rfl⟩ hh
    rw [List.length_map] at hk
    refine g_addL (by walk_at "h") (by walk_at "h") (sz (by rw [List.length_map]; show 1 + ks.length ≤ 100000; omega)) hh (fun p4 H4 n4 hH4 => ?_)
    exact q p4 H4 ks (hh.same.free n4) hH4.same (by walk_at "h") (by omega)

def sp_l_new_lines (K : PySem.W.Frag) : Sp := fun vs H Q _ => ∃ (a : Addr) (ns : List Int), vs = [.ref a] ∧ H a = some (.lst (ns.map V.int)) ∧ 0 < ns.length ∧ ns.length ≤ 100 ∧
  ∀ p H' (ns' : List Int) (ls : List Str), But a H H' → H p = none → H' a = some (.lst (ns'.map V.int)) → 0 < ns'.length → ns'.length ≤ 100 → H' p = some (.lst (ls.map V.str)) → ls.length = 3 → (∀ x ∈ ls, PyData.strOk x = true) → Q (.ref p) H'
theorem sp_l_new_lines_len {vs H Q E} (h : sp_l_new_lines K vs H Q E) : vs.length = 1 := by
  obtain ⟨_, _, rfl, _⟩ := h
  rfl
theorem ok_l_new_lines (T : Txt K mg) : FnOk P w K mg base CX0 2 T.f_l_new_lines T.fd_l_new_lines ["feed"] (sp_l_new_lines K) := by
  refine T.F_l_new_lines.ok sc_l_new_lines (fun vs H Q E h => sp_l_new_lines_len h) (fun cdv A outer s H vs Q E hr h => ?_)
  refine ⟨_, (pss_cons (ps_set (i := 1) sc_l_new_lines.nd rfl (.inr rfl) (pe_lst (pa_cons pe_str (pa_cons pe_str (pa_cons pe_str (pa_cons pe_str (pa_cons pe_str (pa_cons pe_str (pa_cons pe_str (pa_cons pe_str (pa_cons pe_str (pa_cons pe_str (pa_cons pe_str pa_nil)))))))))))))
      (pss_cons (ps_set (i := 1) sc_l_new_lines.nd rfl (.inr rfl) (pe_op (op_addK K) (pv 1) (pe_lst (pa_cons pe_str (pa_cons pe_str (pa_cons pe_str (pa_cons pe_str (pa_cons pe_str pa_nil))))))))
      (pss_cons (ps_set (i := 2) sc_l_new_lines.nd rfl (.inr rfl) (pe_call (ok_l_next T) (hr.mono (by decide)) (by rfl) T.g_l_next T.F_l_next.kp T.b_l_next .nil pass0 (pa_cons (pv 0) (pa_cons pe_int pa_nil))))
      (pss_one (ps_ret (pe_lc (own := [("j", 3)]) (g := gName 3) (tt := tYes) rfl sc_l_new_lines.nd (pi_range1 rfl T.m_range (pa_cons pe_int pa_nil)) (blkOk_by (N := n_l_new_lines) (sc := defScope s_l_new_lines) (by decide +kernel)) (fun _ _ _ _ _ => (pg_name (i := 3) sc_l_new_lines.nd rfl (.inl rfl))) (fun _ _ _ _ _ => pts_nil) (fun _ _ _ _ _ => (pe_ix (ix_K K) (pv 1) (pe_op op_mod (pe_callTy cr_int1 (by rfl) T.m_int (by decide +kernel) (pa_cons (pe_op (op_addK K) (pv 2) (pv 3)) pa_nil)) pe_int) (fun _ _ => rfl))))))))), ?_⟩
  obtain ⟨a, ns, rfl, ha, hn0, hn, q⟩ := h
  have hH := Has.arg ha
  refine g_start (σ' := [some (.ref a), none, none, none]) rfl ?_
  walk_at "gg"
  refine g_klst (sz (by decide)) hH (fun p1 H1 n1 hH1 => ?_)
  walk_at "gg"
  refine g_klst (sz (by decide)) hH1 (fun p2 H2 n2 hH2 => ?_)
  refine g_addL (by walk_at "h") (by walk_at "h") (sz (by decide)) hH2 (fun p3 H3 n3 hH3 => ?_)
  walk_at "gg"
  refine ⟨a, ns, 16, rfl, by walk_at "h", hn0, hn, by decide, by decide, fun H4 ns' r hb ha' l0 l1 r0 r1 => ?_⟩
  have hH4 := hH3.but (by walk_at "c") hb ha'
  walk_at "gg"
  refine k_lcR1 (by decide) (by decide) hH4 (fun i acc F' O' => ∃ ks : List Str, acc = ks.map V.str ∧ ks.length = i ∧ (∀ x ∈ ks, PyData.strOk x = true) ∧ F' = _ ∧ O' = _) ⟨[], rfl, rfl, by simp, rfl, rfl⟩ ?_ ?_
  · rintro i acc F' O' D H5 hi ⟨ks, rfl, rfl, hk, rfl, rfl⟩ hh
    walk_at "gg"
    refine g_rI (by show (0 : Int) < 16; decide) ?_
    refine g_ixM (by walk_at "h") (by decide +kernel) (Int.emod_nonneg _ (by decide)) (by show _ < (16 : Int); exact Int.emod_lt_of_pos _ (by decide)) (fun z hz => ?_)
    refine k_turn hh (by rw [List.length_map]; show _ ≤ _; have : ks.length < 3 := hi; omega) ⟨ks ++ [z], by rw [List.map_append]; rfl, by rw [List.length_append]; rfl, fun x hx => ?_, rfl, rfl⟩
    rcases List.mem_append.mp hx with hx | hx
    · exact hk x hx
    · rw [List.mem_singleton.mp hx]; exact hz
  · rintro acc F' O' D H5 ⟨ks, rfl, hk, hs, rfl, rfl⟩ hh
    exact q D H5 ns' ks (But.of hh.same) (hh.argFree (by show a ∈ [p3, p2, p1, a]; simp)) (by walk_at "h") l0 l1 (by walk_at "h") hk hs

def sp_l_new_text (K : PySem.W.Frag) : Sp := fun vs H Q _ => ∃ (a l : Addr) (ns : List Int) (ls : List Str) (sh mo : Int), vs = [.ref a, .ref l, .int sh, .int mo] ∧ H a = some (.lst (ns.map V.int)) ∧ 0 < ns.length ∧ ns.length ≤ 100 ∧
  H l = some (.lst (ls.map V.str)) ∧ l ≠ a ∧ ls.length = 3 ∧ (∀ x ∈ ls, PyData.strOk x = true) ∧ 0 ≤ mo ∧ mo ≤ 50 ∧
  ∀ p H' (ns' : List Int) (xs : List Str), But a H H' → H p = none → H' a = some (.lst (ns'.map V.int)) → 0 < ns'.length → ns'.length ≤ 100 → H' p = some (.lst (xs.map V.str)) → xs.length ≤ 50 → (∀ x ∈ xs, PyData.strOk x = true) → Q (.ref p) H'
theorem sp_l_new_text_len {vs H Q E} (h : sp_l_new_text K vs H Q E) : vs.length = 4 := by
  obtain ⟨_, _, _, _, _, _, rfl, _⟩ := h
  rfl
theorem ok_l_new_text (T : Txt K mg) : FnOk P w K mg base CX0 2 T.f_l_new_text T.fd_l_new_text ["feed", "lines", "shift", "most"] (sp_l_new_text K) := by
  refine T.F_l_new_text.ok sc_l_new_text (fun vs H Q E h => sp_l_new_text_len h) (fun cdv A outer s H vs Q E hr h => ?_)
  refine ⟨_, (pss_cons (ps_set (i := 4) sc_l_new_text.nd rfl (.inl rfl) (pe_op op_sub (pv 3) (pe_call (ok_l_next T) (hr.mono (by decide)) (by rfl) T.g_l_next T.F_l_next.kp T.b_l_next .nil pass0 (pa_cons (pv 0) (pa_cons (pe_op (op_addK K) (pv 3) pe_int) pa_nil)))))
      (pss_cons (ps_setLc (i := 5) (own := [("j", 6)]) (g := gName 6) (tt := tYes) rfl sc_l_new_text.nd rfl rfl (sw_true rfl rfl rfl (by decide +kernel)) (pi_range1 rfl T.m_range (pa_cons (pv 4) pa_nil)) (blkOk_by (N := n_l_new_text) (sc := defScope s_l_new_text) (by decide +kernel)) (fun _ _ _ _ _ => (pg_name (i := 6) sc_l_new_text.nd rfl (.inl rfl))) (fun _ _ _ _ _ => pts_nil) (fun _ _ _ _ _ => (pe_op (op_addK K) (pe_op (op_addK K) (pv 2) (pv 6)) (pe_call (ok_l_next T) (hr.mono (by decide)) (by rfl) T.g_l_next T.F_l_next.kp T.b_l_next .nil pass0 (pa_cons (pv 0) (pa_cons pe_int pa_nil))))))
      (pss_one (ps_ret (pe_lc (own := [("at", 7)]) (g := gName 7) (tt := tYes) rfl sc_l_new_text.nd (k_il K (pi_list (pv 5))) (blkOk_by (N := n_l_new_text) (sc := defScope s_l_new_text) (by decide +kernel)) (fun _ _ _ _ _ => (pg_name (i := 7) sc_l_new_text.nd rfl (.inl rfl))) (fun _ _ _ _ _ => pts_nil) (fun _ _ _ _ _ => (pe_ix (ix_K K) (pv 1) (pe_op op_mod (pe_callTy cr_int1 (by rfl) T.m_int (by decide +kernel) (pa_cons (pv 7) pa_nil)) pe_int) (fun _ _ => rfl)))))))), ?_⟩
  obtain ⟨a, l, ns, ls, sh, mo, rfl, ha, hn0, hn, hl, nla, h3, hok, m0, m1, q⟩ := h
  have hH := Has.arg ha
  have hlF : rm H a l = some (.lst (ls.map V.str)) := by rw [rm_ne nla]; exact hl
  refine g_start (σ' := [some (.ref a), some (.ref l), some (.int sh), some (.int mo), none, none, none, none]) rfl ?_
  walk_at "gg"
  refine ⟨a, ns, mo + 1, rfl, by walk_at "h", hn0, hn, by omega, by omega, fun H1 ns1 r hb ha1 l0 l1 r0 r1 => ?_⟩
  have hH1 := hH.but (by walk_at "c") hb ha1
  walk_at "gg"
  refine k_lcR1 (by omega) (by omega) hH1 (fun i acc F' O' => ∃ (ks ns2 : List Int), acc = ks.map V.int ∧ ks.length = i ∧ F' = rm H a ∧ O' = [(a, .lst (ns2.map V.int))] ∧ 0 < ns2.length ∧ ns2.length ≤ 100) ⟨[], ns1, rfl, rfl, rfl, rfl, l0, l1⟩ ?_ ?_
  · rintro i acc F' O' D H2 hi ⟨ks, ns2, rfl, rfl, rfl, rfl, g0, g1⟩ hh
    walk_at "gg"
    refine ⟨a, ns2, 3, rfl, by walk_at "h", g0, g1, by decide, by decide, fun H3 ns3 r3 hb3 ha3 l03 l13 r03 r13 => ?_⟩
    have hH3 := hh.but (by walk_at "c") hb3 ha3
    walk_at "gg"
    refine k_turn hH3 (by rw [List.length_map]; omega) ⟨ks ++ [_], ns3, by rw [List.map_append]; rfl, by rw [List.length_append]; rfl, rfl, rfl, l03, l13⟩
  · rintro acc F' O' D H2 ⟨ks, ns2, rfl, hk, rfl, rfl, g0, g1⟩ hh
    walk_at "gg"
    refine k_lcL (xs := ks.map V.int) (by walk_at "h") hh (fun i acc F' O' => ∃ zs : List Str, acc = zs.map V.str ∧ zs.length = i ∧ (∀ x ∈ zs, PyData.strOk x = true) ∧ F' = rm H a ∧ O' = [(D, .lst (ks.map V.int)), (a, .lst (ns2.map V.int))]) ⟨[], rfl, rfl, by simp, rfl, rfl⟩ ?_ ?_ ?_
    · rintro i acc F' O' H3 ⟨zs, rfl, rfl, hz, rfl, rfl⟩ hh
      walk_at "h"
    · rintro i x acc F' O' D2 H3 hx ⟨zs, rfl, rfl, hz, rfl, rfl⟩ hh
      rw [List.getElem?_map] at hx
      obtain ⟨z, hz2, rfl⟩ := Option.map_eq_some_iff.mp hx
      have hlt : zs.length < ks.length := (List.getElem?_eq_some_iff.mp hz2).1
      walk_at "gg"
      refine g_rI (by show (0 : Int) < 3; decide) ?_
      refine g_ixZ (by walk_at "h") (Int.emod_nonneg _ (by decide)) (by rw [h3]; exact Int.emod_lt_of_pos _ (by decide)) (fun y hy => ?_)
      refine k_turn hh (by rw [List.length_map]; omega) ⟨zs ++ [y], by rw [List.map_append]; rfl, by rw [List.length_append]; rfl, fun x hx => ?_, rfl, rfl⟩
      rcases List.mem_append.mp hx with hx | hx
      · exact hz x hx
      · rw [List.mem_singleton.mp hx]; exact hok y (List.mem_of_getElem? hy)
    · rintro acc F' O' D2 H3 ⟨zs, rfl, hk2, hz, rfl, rfl⟩ hh
      rw [List.length_map] at hk2
      exact q D2 H3 ns2 zs (But.of hh.same) (hh.argFree (by show a ∈ [D, a]; simp)) (by walk_at "h") g0 g1 (by walk_at "h") (by omega) hz
/-- elders: pairs of a text and its marks -/
def eld (e : List Str × List Str) : PyData := .tuple [.list (e.1.map PyData.str), .list (e.2.map PyData.str)]
def EldOk (e : List Str × List Str) : Prop := e.1.length ≤ 50 ∧ e.2.length = e.1.length ∧ (∀ x ∈ e.1, PyData.strOk x = true) ∧ ∀ x ∈ e.2, PyData.strOk x = true
def sp_l_new_elders (K : PySem.W.Frag) : Sp := fun vs H Q _ => ∃ (a l : Addr) (ns : List Int) (nm : Str) (ls : List Str), vs = [.ref a, .str nm, .ref l] ∧ H a = some (.lst (ns.map V.int)) ∧ 0 < ns.length ∧ ns.length ≤ 100 ∧
  PyData.strOk nm = true ∧ H l = some (.lst (ls.map V.str)) ∧ l ≠ a ∧ ls.length = 3 ∧ (∀ x ∈ ls, PyData.strOk x = true) ∧
  ∀ p H' (vs : List V) (es : List (List Str × List Str)), But a H H' → H p = none → H' p = some (.lst vs) → DqAll H' vs (es.map eld) → es.length ≤ 50 → (∀ e ∈ es, EldOk e) → Q (.ref p) H'
theorem sp_l_new_elders_len {vs H Q E} (h : sp_l_new_elders K vs H Q E) : vs.length = 3 := by
  obtain ⟨_, _, _, _, _, rfl, _⟩ := h
  rfl
theorem ok_l_new_elders (T : Txt K mg) : FnOk P w K mg base CX0 3 T.f_l_new_elders T.fd_l_new_elders ["feed", "name", "lines"] (sp_l_new_elders K) := by
  refine T.F_l_new_elders.ok sc_l_new_elders (fun vs H Q E h => sp_l_new_elders_len h) (fun cdv A outer s H vs Q E hr h => ?_)
  refine ⟨_, (pss_cons (ps_set (i := 3) sc_l_new_elders.nd rfl (.inr rfl) (pe_lst (pa_cons pe_str (pa_cons pe_str (pa_cons (pv 1) (pa_cons pe_str (pa_cons pe_str pa_nil)))))))
      (pss_cons (ps_set (i := 4) sc_l_new_elders.nd rfl (.inl rfl) (pe_lst pa_nil))
      (pss_cons (ps_for PassesOwn.never rfl (pi_range1 rfl T.m_range (pa_cons (pe_ix (ix_K K) (pe_lst (pa_cons pe_int (pa_cons pe_int (pa_cons pe_int (pa_cons pe_int (pa_cons pe_int (pa_cons pe_int (pa_cons pe_int (pa_cons pe_int pa_nil))))))))) (pe_call (ok_l_next T) (hr.mono (by decide)) (by rfl) T.g_l_next T.F_l_next.kp T.b_l_next .nil pass0 (pa_cons (pv 0) (pa_cons pe_int pa_nil))) (fun _ _ => rfl)) pa_nil)) (pg_name (i := 5) sc_l_new_elders.nd rfl (.inr rfl)) (pss_cons (ps_set (i := 6) sc_l_new_elders.nd rfl (.inl rfl) (pe_call (ok_l_new_text T) (hr.mono (by decide)) (by rfl) T.g_l_new_text T.F_l_new_text.kp T.b_l_new_text .nil pass0 (pa_cons (pv 0) (pa_cons (pv 2) (pa_cons (pe_op (op_addK K) (pv 5) pe_int) (pa_cons pe_int pa_nil))))))
      (pss_cons (ps_setLc (i := 7) (own := [("j", 8)]) (g := gName 8) (tt := tYes) rfl sc_l_new_elders.nd rfl rfl (sw_true rfl rfl rfl (by decide +kernel)) (pi_range1 rfl T.m_range (pa_cons (pe_callB (cr_lenK K) (by rfl) T.m_len (by decide +kernel) (pa_cons (pv 6) pa_nil)) pa_nil)) (blkOk_by (N := n_l_new_elders) (sc := defScope s_l_new_elders) (by decide +kernel)) (fun _ _ _ _ _ => (pg_name (i := 8) sc_l_new_elders.nd rfl (.inl rfl))) (fun _ _ _ _ _ => pts_nil) (fun _ _ _ _ _ => (pe_op (op_addK K) (pe_op (op_addK K) (pv 8) (pv 5)) (pe_call (ok_l_next T) (hr.mono (by decide)) (by rfl) T.g_l_next T.F_l_next.kp T.b_l_next .nil pass0 (pa_cons (pv 0) (pa_cons pe_int pa_nil))))))
      (pss_one (ps_expr (k_bm K (pe_bm PySem.F.plainAttrs_list PySem.F.slot_list_append PySem.F.type_list_append mt_append (pv 4) (pa_cons (pe_tup (pa_cons (pv 6) (pa_cons (pe_lc (own := [("at", 9)]) (g := gName 9) (tt := tYes) rfl sc_l_new_elders.nd (k_il K (pi_list (pv 7))) (blkOk_by (N := n_l_new_elders) (sc := defScope s_l_new_elders) (by decide +kernel)) (fun _ _ _ _ _ => (pg_name (i := 9) sc_l_new_elders.nd rfl (.inl rfl))) (fun _ _ _ _ _ => pts_nil) (fun _ _ _ _ _ => (pe_ix (ix_K K) (pv 3) (pe_op op_mod (pe_callTy cr_int1 (by rfl) T.m_int (by decide +kernel) (pa_cons (pv 9) pa_nil)) pe_int) (fun _ _ => rfl)))) pa_nil))) pa_nil))))))))
      (pss_one (ps_ret (pv 4)))))), ?_⟩
  obtain ⟨a, l, ns, nm, ls, rfl, ha, hn0, hn, hnm, hl, nla, h3, hok, q⟩ := h
  have hH := Has.arg ha
  have hlF : rm H a l = some (.lst (ls.map V.str)) := by rw [rm_ne nla]; exact hl
  refine g_start (σ' := [some (.ref a), some (.str nm), some (.ref l), none, none, none, none, none, none, none]) rfl ?_
  walk_at "gg"
  refine g_klst (by walk_at "sz") hH (fun me H1 n1 hH1 => ?_)
  walk_at "gg"
  refine g_klst (by walk_at "sz") hH1 (fun e H2 n2 hH2 => ?_)
  walk_at "gg"
  refine g_klst (by walk_at "sz") hH2 (fun u H3 n3 hH3 => ?_)
  walk_at "gg"
  refine ⟨a, ns, 8, rfl, by walk_at "h", hn0, hn, by decide, by decide, fun H4 ns4 r hb ha4 l0 l1 r0 r1 => ?_⟩
  have hH4 := hH3.but (by walk_at "c") hb ha4
  walk_at "gg"
  refine g_ixN (n := 10) (by walk_at "h") (by decide +kernel) r0 (by show r < 8; exact r1) (fun many m0 m1 => ?_)
  walk_at "gg"
  have hH5 := hH4.drop
  generalize hme : [V.str (Str.ofString "r"), V.str (Str.ofString "s2"), V.str nm, V.str (Str.ofString "t"), V.str (Str.ofString "u10z")] = menu at *
  have hmok : menu.all okS = true := by
    subst hme
    have e1 : okS (V.str nm) = true := hnm
    simp only [List.all_cons, List.all_nil, e1]
    decide +kernel
  have hml : menu.length = 5 := by subst hme; rfl
  refine k_forR1 (fun i σ H' => ∃ (F : Hp) (acc : List V) (es : List (List Str × List Str)) (ns' : List Int) (y5 y6 y7 : Option V), σ = [some (.ref a), some (.str nm), some (.ref l), some (.ref me), some (.ref e), y5, y6, y7, none, none] ∧ Same (rm H a) F ∧
    Has F [(e, .lst acc), (me, .lst menu), (a, .lst (ns'.map V.int))] H' ∧ DqAll F acc (es.map eld) ∧ es.length = i ∧ (∀ e ∈ es, EldOk e) ∧ 0 < ns'.length ∧ ns'.length ≤ 100) (by omega) (by omega)
    ⟨rm H a, [], [], ns4, none, none, none, rfl, Same.refl _, hH5, .nil, rfl, by simp, l0, l1⟩ ?_ ?_
  · rintro i σ H' hi ⟨F, acc, es, ns', y5, y6, y7, rfl, sF, hA, dq, rfl, hes, g0, g1⟩
    have hlF2 : F l = some (.lst (ls.map V.str)) := sF _ _ hlF
    walk_at "gg"
    refine ⟨a, l, ns', ls, _, _, rfl, by walk_at "h", g0, g1, by walk_at "h", nla, h3, hok, by decide, by decide, fun p H1 ns1 xs hb1 n1 ha1 l10 l11 hp1 lx hx => ?_⟩
    have hB := hA.but2 (by walk_at "c") hb1 ha1 n1 hp1
    walk_at "gg"
    rw [List.length_map]
    refine k_lcR1 (by omega) (by omega) hB (fun i acc' F' O' => ∃ (ks ns2 : List Int), acc' = ks.map V.int ∧ ks.length = i ∧ F = F' ∧ O' = [(p, .lst (xs.map V.str)), (e, .lst acc), (me, .lst menu), (a, .lst (ns2.map V.int))] ∧ 0 < ns2.length ∧ ns2.length ≤ 100) ⟨[], ns1, rfl, rfl, rfl, rfl, l10, l11⟩ ?_ ?_
    · rintro i acc' F' O' D H2 hi ⟨ks, ns2, rfl, rfl, rfl, rfl, g0, g1⟩ hh
      walk_at "gg"
      refine ⟨a, ns2, 5, rfl, by walk_at "h", g0, g1, by decide, by decide, fun H3 ns3 r3 hb3 ha3 l03 l13 r03 r13 => ?_⟩
      have hH3 := hh.but (by walk_at "c") hb3 ha3
      walk_at "gg"
      refine k_turn hH3 (by rw [List.length_map]; omega) ⟨ks ++ [_], ns3, by rw [List.map_append]; rfl, by rw [List.length_append]; rfl, rfl, rfl, l03, l13⟩
    · rintro acc' F' O' D H2 ⟨ks, ns2, rfl, hk, rfl, rfl, g0, g1⟩ hh
      walk_at "gg"
      refine k_lcL (xs := ks.map V.int) (by walk_at "h") hh (fun i acc' F' O' => ∃ zs : List Str, acc' = zs.map V.str ∧ zs.length = i ∧ (∀ x ∈ zs, PyData.strOk x = true) ∧ F = F' ∧ O' = [(D, .lst (ks.map V.int)), (p, .lst (xs.map V.str)), (e, .lst acc), (me, .lst menu), (a, .lst (ns2.map V.int))]) ⟨[], rfl, rfl, by simp, rfl, rfl⟩ ?_ ?_ ?_
      · rintro i acc' F' O' H3 ⟨zs, rfl, rfl, hz, rfl, rfl⟩ hh
        walk_at "h"
      · rintro i x acc' F' O' D2 H3 hx ⟨zs, rfl, rfl, hz, rfl, rfl⟩ hh
        rw [List.getElem?_map] at hx
        obtain ⟨z, hz2, rfl⟩ := Option.map_eq_some_iff.mp hx
        have hlt : zs.length < ks.length := (List.getElem?_eq_some_iff.mp hz2).1
        walk_at "gg"
        refine g_rI (by show (0 : Int) < 5; decide) ?_
        refine g_ixM (by walk_at "h") hmok (Int.emod_nonneg _ (by decide)) (by rw [hml]; exact Int.emod_lt_of_pos _ (by decide)) (fun y hy => ?_)
        refine k_turn hh (by rw [List.length_map]; omega) ⟨zs ++ [y], by rw [List.map_append]; rfl, by rw [List.length_append]; rfl, fun x hx => ?_, rfl, rfl⟩
        rcases List.mem_append.mp hx with hx | hx
        · exact hz x hx
        · rw [List.mem_singleton.mp hx]; exact hy
      · rintro acc' F' O' D2 H3 ⟨zs, rfl, hk2, hz, rfl, rfl⟩ hh
        rw [List.length_map] at hk2
        walk_at "gg"
        refine g_ktup (by walk_at "sz") hh (fun T H5 n5 h5 => ?_)
        walk_at "gg"
        have h6 := h5.sub (.cons₂ _ (.cons₂ _ (.cons _ (List.Sublist.refl _))))
        have h7 := h6.frz
        have h8 := h7.frz
        have h9 := h8.frz
        have s6 := h6.grow
        have s7 := h7.grow
        have s8 := h8.grow
        have hal : acc.length = es.length := by rw [dq.len, List.length_map]
        refine g_append h9 (by walk_at "c") (szl (by omega)) (fun H6 h10 => ?_)
        refine ⟨_, _, es ++ [(xs, zs)], ns2, _, _, _, rfl, sF.trans ((s6.trans s7).trans s8), h10, ?_, by rw [List.length_append]; rfl, ?_, g0, g1⟩
        · rw [List.map_append]
          refine (dq.up ((s6.trans s7).trans s8) _ _).snoc ?_
          exact .tup ((s7.trans s8) _ _ upd_same) (.cons (Dq.strs upd_same) (.cons (Dq.strs (s8 _ _ upd_same)) .nil))
        · intro x hx'
          rcases List.mem_append.mp hx' with hx' | hx'
          · exact hes x hx'
          · rw [List.mem_singleton.mp hx']
            exact ⟨lx, by show zs.length = xs.length; omega, hx, hz⟩
  · rintro σ H' ⟨F, acc, es, ns', y5, y6, y7, rfl, sF, hA, dq, hle, hes, g0, g1⟩
    walk_at "gg"
    refine q e H' acc es (But.of (sF.trans hA.same)) ?_ (by walk_at "h") (dq.up hA.same _ _) (by omega) hes
    exact hH5.argFree (by show a ∈ [me, a]; simp)
end
end K38

namespace K38
open PySem PySem.Spec PyProof.Rows L2 Qk
local macro_rules | `(tactic| walk_at "m") => `(tactic| ((repeat (first | exact List.Mem.head _ | apply List.Mem.tail)); done))
local macro_rules | `(tactic| walk_at "h") => `(tactic| first | assumption | exact Has.gF (by assumption) (by assumption) | exact Has.get (by assumption) (by walk_at "m"))
local macro_rules | `(tactic| walk_at "c") => `(tactic| ((repeat (first | exact Chg.hd | apply Chg.tl)); done))
local macro_rules | `(tactic| walk_at "g") => `(tactic| first
  | (with_reducible refine g_seq ?_)
  | (with_reducible refine g_asg ?_)
  | ((with_reducible refine g_name ?_); dsimp only [List.set, wipe, List.map])
  | ((with_reducible refine' g_var ?gv ?_); (case gv => exact rfl))
  | (with_reducible refine g_c ?_)
  | (with_reducible refine g_op ?_)
  | (with_reducible refine g_cons ?_)
  | (with_reducible refine g_nil ?_)
  | (with_reducible refine g_cb ?_)
  | (with_reducible refine g_call ?_)
  | (with_reducible refine g_tup ?_)
  | (with_reducible refine g_lst ?_)
  | (with_reducible refine g_bm ?_)
  | (with_reducible refine g_bm0 ?_)
  | ((with_reducible refine' g_kbm ?gh ?_); (case gh => walk_at "h"))
  | (with_reducible refine g_drop ?_)
  | (with_reducible refine g_ret ?_)
  | (with_reducible refine g_retN ?_)
  | (with_reducible refine g_next ?_)
  | (with_reducible refine g_brk ?_)
  | (with_reducible refine g_cont ?_)
  | (with_reducible refine g_if ?_)
  | ((with_reducible refine' g_aug ?gv ?_); (case gv => exact rfl))
  | (with_reducible refine g_ipI ?_)
  | (with_reducible refine g_test ?_)
  | (with_reducible refine g_tB ?_)
  | (with_reducible refine g_kB ?_)
  | (with_reducible refine g_not ?_)
  | (with_reducible refine g_and ?_)
  | (with_reducible refine g_or ?_)
  | (with_reducible refine g_andV ?_)
  | (with_reducible refine g_orV ?_)
  | (with_reducible refine g_notV ?_)
  | (with_reducible refine g_ifE ?_)
  | (with_reducible refine g_addI ?_)
  | (with_reducible refine g_rI0 ?_)
  | (with_reducible refine g_eqI ?_)
  | (with_reducible refine g_eqS ?_)
  | (with_reducible refine g_neI ?_)
  | (with_reducible refine g_neS ?_)
  | (with_reducible refine g_isN ?_)
  | (with_reducible refine g_notN ?_)
  | (with_reducible refine g_int ?_)
  | (with_reducible refine g_max2 ?_)
  | ((with_reducible refine' g_lenL ?gh ?_); (case gh => walk_at "h"))
  | (with_reducible refine g_sub ?_)
  | (with_reducible refine g_gcons ?_)
  | (with_reducible refine g_gnil ?_)
  | (with_reducible refine g_un ?_)
  | (with_reducible refine g_rU ?_)
  | (with_reducible refine g_forL ?_)
  | (with_reducible refine g_forR1 ?_)
  | (with_reducible refine g_forR2 ?_)
  | (with_reducible refine g_forR3 ?_)
  | (with_reducible refine g_lcL ?_)
  | (with_reducible refine g_lcR1 ?_)
  | (with_reducible refine g_slice ?_)
  | (with_reducible refine g_part ?_)
  | (with_reducible refine g_kOI ?_)
  | (with_reducible refine g_nopart ?_)
  | (with_reducible refine g_yes ?_)
  | ((with_reducible refine' g_wipe ?gv ?_); (case gv => exact rfl))
  | (with_reducible refine iteT ?_)
  | (with_reducible refine iteF ?_)
  | ((with_reducible refine' g_gtup ?gh ?gl ?_); (case gh => walk_at "h"); (case gl => exact rfl))
  | ((with_reducible refine' g_notinI ?gh ?_); (case gh => walk_at "h"))
  | ((with_reducible refine' g_inI ?gh ?_); (case gh => walk_at "h"))
  | ((with_reducible refine' g_kget2 ?gh ?_); (case gh => walk_at "h"))
  | ((with_reducible refine' g_kgotI ?gh ?_); (case gh => walk_at "h"))
  | (with_reducible refine g_tRev ?_)
  | (with_reducible refine g_get2 ?_))
local macro_rules | `(tactic| walk_at "gg") => `(tactic| repeat walk_at "g")
local macro_rules | `(tactic| walk_at "sz") => `(tactic| (refine sz ?_; simp only [List.length_cons, List.length_nil, List.length_map, List.length_append, List.length_replicate]; omega))

/-! ### tables -/
def tz (n m i j k l : Nat) : Prop := i < k ∨ (i = k ∧ j ≤ l) ∨ l = m ∨ k = n
/-- the rows from (i, j) on are right -/
structure Tb (xs ys : List Str) (i j : Nat) (rows : List (Addr × List Int)) : Prop where
  len : rows.length = xs.length + 1
  wid : ∀ (k : Nat) (r : Addr × List Int), rows[k]? = some r → r.2.length = ys.length + 1
  val : ∀ (k l : Nat) (r : Addr × List Int) (z : Int), rows[k]? = some r → r.2[l]? = some z → tz xs.length ys.length i j k l → z = (lc (xs.drop k) (ys.drop l) : Nat)
theorem Tb.start {xs ys : List Str} {rows : List (Addr × List Int)} (hl : rows.length = xs.length + 1) (h : ∀ r ∈ rows, r.2 = List.replicate (ys.length + 1) 0) : Tb xs ys xs.length 0 rows := by
  refine ⟨hl, fun k r hr => ?_, fun k l r z hr hz ht => ?_⟩
  · rw [h r (List.mem_of_getElem? hr), List.length_replicate]
  · have e := h r (List.mem_of_getElem? hr)
    rw [e, List.getElem?_replicate] at hz
    have hk : k < xs.length + 1 := by rw [← hl]; exact (List.getElem?_eq_some_iff.mp hr).1
    split at hz
    · have hz' : z = 0 := (Option.some.inj hz).symm
      subst hz'
      have e0 : lc (xs.drop k) (ys.drop l) = 0 := by
        rcases ht with ht | ht | ht | ht
        · omega
        · rw [← ht.1, List.drop_length, lc]
        · rw [ht, List.drop_length, lc_nil]
        · rw [ht, List.drop_length, lc]
      rw [e0]; rfl
    · cases hz
theorem Tb.row {xs ys : List Str} {i : Nat} {rows : List (Addr × List Int)} (h : Tb xs ys (i + 1) 0 rows) : Tb xs ys i ys.length rows := by
  refine ⟨h.len, h.wid, fun k l r z hr hz ht => h.val k l r z hr hz ?_⟩
  have hl : l < ys.length + 1 := by rw [← h.wid k r hr]; exact (List.getElem?_eq_some_iff.mp hz).1
  unfold tz at *
  omega
theorem Tb.set {xs ys : List Str} {i j : Nat} {rows : List (Addr × List Int)} {r : Addr × List Int} {z : Int} (h : Tb xs ys i (j + 1) rows) (hr : rows[i]? = some r) (hz : z = (lc (xs.drop i) (ys.drop j) : Nat)) (hj : j < ys.length + 1) :
    Tb xs ys i j (rows.set i (r.1, r.2.set j z)) := by
  have hi := (List.getElem?_eq_some_iff.mp hr).1
  have hw := h.wid i r hr
  refine ⟨by rw [List.length_set]; exact h.len, fun k q hq => ?_, fun k l q y hq hy ht => ?_⟩
  · by_cases e : i = k
    · subst e
      rw [List.getElem?_set_self hi] at hq
      rw [← Option.some.inj hq, List.length_set]
      exact hw
    · rw [List.getElem?_set_ne e] at hq
      exact h.wid k q hq
  · by_cases e : i = k
    · subst e
      rw [List.getElem?_set_self hi] at hq
      rw [← Option.some.inj hq] at hy
      by_cases e2 : j = l
      · subst e2
        rw [List.getElem?_set_self (by rw [hw]; exact hj)] at hy
        rw [← Option.some.inj hy]
        exact hz
      · rw [List.getElem?_set_ne e2] at hy
        refine h.val i l r y hr hy ?_
        unfold tz at *
        omega
    · rw [List.getElem?_set_ne e] at hq
      refine h.val k l q y hq hy ?_
      unfold tz at *
      omega
/-- the same place set to something first -/
theorem Tb.any {xs ys : List Str} {i j : Nat} {rows : List (Addr × List Int)} {r : Addr × List Int} {z : Int} (h : Tb xs ys i (j + 1) rows) (hr : rows[i]? = some r) (hj : j < ys.length) (hi' : i < xs.length) : Tb xs ys i (j + 1) (rows.set i (r.1, r.2.set j z)) := by
  have hi := (List.getElem?_eq_some_iff.mp hr).1
  have hw := h.wid i r hr
  refine ⟨by rw [List.length_set]; exact h.len, fun k q hq => ?_, fun k l q y hq hy ht => ?_⟩
  · by_cases e : i = k
    · subst e
      rw [List.getElem?_set_self hi] at hq
      rw [← Option.some.inj hq, List.length_set]
      exact hw
    · rw [List.getElem?_set_ne e] at hq
      exact h.wid k q hq
  · by_cases e : i = k
    · subst e
      rw [List.getElem?_set_self hi] at hq
      rw [← Option.some.inj hq] at hy
      have e2 : j ≠ l := by unfold tz at ht; omega
      rw [List.getElem?_set_ne e2] at hy
      exact h.val i l r y hr hy ht
    · rw [List.getElem?_set_ne e] at hq
      exact h.val k l q y hq hy ht
theorem Tb.get {xs ys : List Str} {i j k l : Nat} {rows : List (Addr × List Int)} {r : Addr × List Int} (h : Tb xs ys i j rows) (hr : rows[k]? = some r) (hl : l < ys.length + 1) (ht : tz xs.length ys.length i j k l) :
    r.2[l]? = some ((lc (xs.drop k) (ys.drop l) : Nat) : Int) := by
  have hw := h.wid k r hr
  have e : l < r.2.length := by omega
  have := h.val k l r _ hr (List.getElem?_eq_getElem e) ht
  rw [List.getElem?_eq_getElem e, this]
theorem flat_rep (k : Nat) (z : Int) : (List.replicate k [V.int z]).flatten = (List.replicate k z).map V.int := by
  induction k with
  | zero => rfl
  | succ k ih =>
    rw [List.replicate_succ, List.flatten_cons, ih, List.replicate_succ]
    rfl
/-- a table that stands in H -/
def Table (H : Hp) (t : Addr) (xs ys : List Str) : Prop := ∃ rows : List (Addr × List Int), Tb xs ys 0 0 rows ∧ H t = some (.lst (rows.map fun r => V.ref r.1)) ∧ ∀ r ∈ rows, H r.1 = some (.lst (r.2.map V.int))
def prd (p : Nat × Nat) : PyData := .tuple [.int p.1, .int p.2]
section
variable {P : Program} {w : World} {K : PySem.W.Frag} {mg : Str → Option Value} {base : Heap} {σ : L2.St} {F : Hp} {O O' : Own} {H : Hp} {Q : VK} {t : Addr} {xs ys : List Str}
/-- lengths[k][l] of a table that stands -/
theorem g_tabAt {i : Int} (h : Table H t xs ys) (hi : 0 ≤ i) (hi2 : i ≤ xs.length) (q : ∀ r, H r = some (.lst ((List.range (ys.length + 1)).map fun l => V.int (lc (xs.drop i.toNat) (ys.drop l) : Nat))) → Q (.ref r) H) : rIx K (.ref t) (.int i) H Q := by
  obtain ⟨rows, tb, h1, h2⟩ := h
  have e : i.toNat < rows.length := by rw [tb.len]; omega
  have hr := List.getElem?_eq_getElem e
  refine g_ixL h1 (at_n hi (v := .ref rows[i.toNat].1) ?_) (q _ ?_)
  · rw [List.getElem?_map, hr]
    rfl
  · rw [h2 _ (List.getElem_mem e)]
    congr 1
    congr 1
    apply List.ext_getElem?
    intro l
    rw [List.getElem?_map, List.getElem?_map]
    by_cases hl : l < ys.length + 1
    · rw [tb.get hr hl (by unfold tz; omega), List.getElem?_range hl]
      rfl
    · rw [List.getElem?_eq_none (by rw [tb.wid _ _ hr]; omega), List.getElem?_eq_none (by rw [List.length_range]; omega)]
      rfl
def sp_common_lengths (K : PySem.W.Frag) : Sp := fun vs H Q _ => ∃ (a b : Addr) (xs ys : List Str), vs = [.ref a, .ref b] ∧ H a = some (.lst (xs.map V.str)) ∧ H b = some (.lst (ys.map V.str)) ∧ xs.length ≤ 1000 ∧ ys.length ≤ 1000 ∧
  ∀ t H', Same H H' → H t = none → Table H' t xs ys → Q (.ref t) H'
theorem sp_common_lengths_len {vs H Q E} (h : sp_common_lengths K vs H Q E) : vs.length = 2 := by
  obtain ⟨_, _, _, _, rfl, _⟩ := h
  rfl
theorem ok_common_lengths (T : Txt K mg) : FnOk P w K mg base CX0 1 T.f_common_lengths T.fd_common_lengths ["old", "new"] (sp_common_lengths K) := by
  refine T.F_common_lengths.ok sc_common_lengths (fun vs H Q E h => sp_common_lengths_len h) (fun cdv A outer s H vs Q E hr h => ?_)
  refine ⟨_, (pss_cons (ps_setLc (i := 2) (own := [("_", 5)]) (g := gName 5) (tt := tYes) rfl sc_common_lengths.nd rfl rfl (sw_true rfl rfl rfl (by decide +kernel)) (pi_range1 rfl T.m_range (pa_cons (pe_op (op_addK K) (pe_callB (cr_lenK K) (by rfl) T.m_len (by decide +kernel) (pa_cons (pv 0) pa_nil)) pe_int) pa_nil)) (blkOk_by (N := n_common_lengths) (sc := defScope s_common_lengths) (by decide +kernel)) (fun _ _ _ _ _ => (pg_name (i := 5) sc_common_lengths.nd rfl (.inl rfl))) (fun _ _ _ _ _ => pts_nil) (fun _ _ _ _ _ => (pe_op op_mulA (pe_lst (pa_cons pe_int pa_nil)) (pe_op (op_addK K) (pe_callB (cr_lenK K) (by rfl) T.m_len (by decide +kernel) (pa_cons (pv 1) pa_nil)) pe_int))))
      (pss_cons (ps_for PassesOwn.never rfl (pi_range3 rfl T.m_range (pa_cons (pe_op op_sub (pe_callB (cr_lenK K) (by rfl) T.m_len (by decide +kernel) (pa_cons (pv 0) pa_nil)) pe_int) (pa_cons (pe_un un_neg pe_int) (pa_cons (pe_un un_neg pe_int) pa_nil)))) (pg_name (i := 3) sc_common_lengths.nd rfl (.inl rfl)) (pss_one (ps_for PassesOwn.never rfl (pi_range3 rfl T.m_range (pa_cons (pe_op op_sub (pe_callB (cr_lenK K) (by rfl) T.m_len (by decide +kernel) (pa_cons (pv 1) pa_nil)) pe_int) (pa_cons (pe_un un_neg pe_int) (pa_cons (pe_un un_neg pe_int) pa_nil)))) (pg_name (i := 4) sc_common_lengths.nd rfl (.inl rfl)) (pss_one (ps_if (pt_cmpR (op_eqK K hr.units) (pe_ix (ix_K K) (pv 0) (pv 3) (fun _ _ => rfl)) (pe_ix (ix_K K) (pv 1) (pv 4) (fun _ _ => rfl)) (nomark _)) (pss_one (ps_asg (pe_op (op_addK K) (pe_ix (ix_K K) (pe_ix (ix_K K) (pv 2) (pe_op (op_addK K) (pv 3) pe_int) (fun _ _ => rfl)) (pe_op (op_addK K) (pv 4) pe_int) (fun _ _ => rfl)) pe_int) (pg_sub (pe_ix (ix_K K) (pv 2) (pv 3) (fun _ _ => rfl)) (pv 4) (set_any (hu_of hr))))) (pss_one (ps_asg (pe_callB (cr_max2 rfl) (by rfl) T.m_max (by decide +kernel) (pa_cons (pe_ix (ix_K K) (pe_ix (ix_K K) (pv 2) (pe_op (op_addK K) (pv 3) pe_int) (fun _ _ => rfl)) (pv 4) (fun _ _ => rfl)) (pa_cons (pe_ix (ix_K K) (pe_ix (ix_K K) (pv 2) (pv 3) (fun _ _ => rfl)) (pe_op (op_addK K) (pv 4) pe_int) (fun _ _ => rfl)) pa_nil))) (pg_sub (pe_ix (ix_K K) (pv 2) (pv 3) (fun _ _ => rfl)) (pv 4) (set_any (hu_of hr))))))))))
      (pss_one (ps_ret (pv 2))))), ?_⟩
  obtain ⟨a, b, xs, ys, rfl, ha, hb, hx, hy, q⟩ := h
  have hH := Has.start H
  refine g_start (σ' := [some (.ref a), some (.ref b), none, none, none, none]) rfl ?_
  walk_at "gg"
  rw [List.length_map]
  refine k_lcR1 (by omega) (by omega) hH (fun i acc F' O' => ∃ rows : List (Addr × List Int), acc = rows.map (fun r => V.ref r.1) ∧ rows.length = i ∧ (∀ r ∈ rows, r.2 = List.replicate (ys.length + 1) 0) ∧ H = F' ∧ O' = rows.map rowO) ⟨[], rfl, rfl, by simp, rfl, rfl⟩ ?_ ?_
  · rintro i acc F' O' D H1 hi ⟨rows, rfl, rfl, hr, rfl, rfl⟩ hh
    walk_at "gg"
    refine g_klst (by walk_at "sz") hh (fun p1 H2 n2 h2 => ?_)
    walk_at "gg"
    rw [List.length_map]
    refine g_mulL (by walk_at "h") (by omega) (by omega) (sz (by show 1 * _ ≤ _; omega)) h2 (fun p2 H3 n3 h3 => ?_)
    have e1 : ((ys.length : Int) + 1).toNat = ys.length + 1 := by omega
    rw [e1, flat_rep] at h3
    have h4 := h3.sub (.cons₂ _ (.cons _ (List.Sublist.refl _)))
    have h5 : Has H ((D, .lst (rows.map fun r => V.ref r.1)) :: (rows ++ [(p2, List.replicate (ys.length + 1) 0)]).map rowO) H3 := by
      refine h4.perm ?_
      rw [List.map_append]
      exact ((List.Perm.cons _ (List.perm_append_singleton _ _)).trans (List.Perm.swap _ _ _))
    refine k_turn h5 (by rw [List.length_map]; omega) ⟨rows ++ [(p2, List.replicate (ys.length + 1) 0)], by rw [List.map_append]; rfl, by rw [List.length_append]; rfl, fun r h => ?_, rfl, rfl⟩
    rcases List.mem_append.mp h with h | h
    · exact hr r h
    · rw [List.mem_singleton.mp h]
  · rintro acc F' O' D H1 ⟨rows, rfl, hk, hr, rfl, rfl⟩ hh
    have hk' : rows.length = xs.length + 1 := by omega
    have tb0 := Tb.start (xs := xs) (ys := ys) hk' hr
    have hh1 : Has H (tabO D rows ++ []) H1 := by rw [List.append_nil]; exact hh
    walk_at "gg"
    refine k_forDown (n := xs.length) (by rw [List.length_map]) (by omega) (fun i σ H' => ∃ (rows : List (Addr × List Int)) (y3 y4 : Option V), σ = [some (.ref a), some (.ref b), some (.ref D), y3, y4, none] ∧ Has H (tabO D rows ++ []) H' ∧ Tb xs ys i 0 rows) ⟨rows, none, none, rfl, hh1, tb0⟩ ?_ ?_
    · rintro i σ H2 hi ⟨rows, y3, y4, rfl, h2, tb⟩
      walk_at "gg"
      refine k_forDown (n := ys.length) (by rw [List.length_map]) (by omega) (fun j σ H' => ∃ (rows : List (Addr × List Int)) (y4 : Option V), σ = [some (.ref a), some (.ref b), some (.ref D), some (.int i), y4, none] ∧ Has H (tabO D rows ++ []) H' ∧ Tb xs ys i j rows) ⟨rows, y4, rfl, h2, tb.row⟩ ?_ ?_
      · rintro j σ H3 hj ⟨rows, y4, rfl, h3, tb⟩
        have hxi : xs[i]? = some xs[i] := List.getElem?_eq_getElem hi
        have hyj : ys[j]? = some ys[j] := List.getElem?_eq_getElem hj
        have hlen := tb.len
        have hrow : ∀ k, k < xs.length + 1 → ∃ r, rows[k]? = some r := fun k hk => ⟨rows[k], List.getElem?_eq_getElem (by omega)⟩
        walk_at "gg"
        refine g_ixZ (by walk_at "h") (by omega) (by omega) (fun x hx' => ?_)
        walk_at "gg"
        refine g_ixZ (by walk_at "h") (by omega) (by omega) (fun y hy' => ?_)
        have ex : x = xs[i] := Option.some.inj (hx'.symm.trans hxi)
        have ey : y = ys[j] := Option.some.inj (hy'.symm.trans hyj)
        subst ex ey
        have la := lc_at hxi hyj
        walk_at "gg"
        refine i_d (fun e => ?_) (fun e => ?_)
        · rw [if_pos e] at la
          walk_at "gg"
          refine g_ixRow h3 (by omega) (by omega) (fun r hr h5 => ?_)
          have e1 : ((i : Int) + 1).toNat = i + 1 := by omega
          have e2 : ((j : Int) + 1).toNat = j + 1 := by omega
          rw [e1] at hr
          have hw := tb.wid _ _ hr
          walk_at "gg"
          refine g_ixI h5 (by omega) (by omega) (fun z hz => ?_)
          rw [e2, tb.get hr (by omega) (by unfold tz; omega)] at hz
          have hz' := (Option.some.inj hz).symm
          walk_at "gg"
          refine g_ixRow h3 (by omega) (by omega) (fun r2 hr2 h6 => ?_)
          walk_at "gg"
          have hr2' : rows[i]? = some r2 := hr2
          have hw2 := tb.wid _ _ hr2'
          refine g_setRow h3 hr2' (by omega) (by omega) (fun H4 h4 => ?_)
          exact ⟨_, _, rfl, h4, tb.set hr2' (by rw [la, hz']; omega) (by omega)⟩
        · rw [if_neg e] at la
          walk_at "gg"
          refine g_ixRow h3 (by omega) (by omega) (fun r hr h5 => ?_)
          have e1 : ((i : Int) + 1).toNat = i + 1 := by omega
          have e2 : ((j : Int) + 1).toNat = j + 1 := by omega
          rw [e1] at hr
          have hw := tb.wid _ _ hr
          walk_at "gg"
          refine g_ixI h5 (by omega) (by omega) (fun z hz => ?_)
          rw [show ((j : Int)).toNat = j from rfl, tb.get hr (by omega) (by unfold tz; omega)] at hz
          have hz' := (Option.some.inj hz).symm
          walk_at "gg"
          refine g_ixRow h3 (by omega) (by omega) (fun r3 hr3 h7 => ?_)
          have hr3' : rows[i]? = some r3 := hr3
          have hw3 := tb.wid _ _ hr3'
          walk_at "gg"
          refine g_ixI h7 (by omega) (by omega) (fun z3 hz3 => ?_)
          rw [e2, tb.get hr3' (by omega) (by unfold tz; omega)] at hz3
          have hz3' := (Option.some.inj hz3).symm
          walk_at "gg"
          refine g_ixRow h3 (by omega) (by omega) (fun r2 hr2 h6 => ?_)
          walk_at "gg"
          have hr2' : rows[i]? = some r2 := hr2
          have hw2 := tb.wid _ _ hr2'
          refine g_setRow h3 hr2' (by omega) (by omega) (fun H4 h4 => ?_)
          exact ⟨_, _, rfl, h4, tb.set hr2' (by rw [la, hz', hz3']; omega) (by omega)⟩
      · rintro σ H3 ⟨rows, y4, rfl, h3, tb⟩
        exact ⟨rows, _, _, rfl, h3, tb⟩
    · rintro σ H2 ⟨rows, y3, y4, rfl, h2, tb⟩
      walk_at "gg"
      exact q D H2 h2.same (hh.free) ⟨rows, tb, h2.tab, fun r hr => h2.get (List.mem_append_left _ (List.mem_cons_of_mem _ (List.mem_map.mpr ⟨r, hr, rfl⟩)))⟩
theorem Table.up {H H' : Hp} (h : Table H t xs ys) (s : Same H H') : Table H' t xs ys := by
  obtain ⟨rows, tb, h1, h2⟩ := h
  exact ⟨rows, tb, s _ _ h1, fun r hr => s _ _ (h2 r hr)⟩
def sp_matched (K : PySem.W.Frag) : Sp := fun vs H Q _ => ∃ (a b : Addr) (xs ys : List Str), vs = [.ref a, .ref b] ∧ H a = some (.lst (xs.map V.str)) ∧ H b = some (.lst (ys.map V.str)) ∧ xs.length ≤ 1000 ∧ ys.length ≤ 1000 ∧
  ∀ p H' (vs : List V), Same H H' → H p = none → H' p = some (.lst vs) → DqAll H' vs ((mt xs ys 0 0).map prd) → Q (.ref p) H'
theorem sp_matched_len {vs H Q E} (h : sp_matched K vs H Q E) : vs.length = 2 := by
  obtain ⟨_, _, _, _, rfl, _⟩ := h
  rfl
theorem ok_matched (T : Txt K mg) : FnOk P w K mg base CX0 2 T.f_matched T.fd_matched ["old", "new"] (sp_matched K) := by
  refine T.F_matched.ok sc_matched (fun vs H Q E h => sp_matched_len h) (fun cdv A outer s H vs Q E hr h => ?_)
  refine ⟨_, (pss_cons (ps_set (i := 2) sc_matched.nd rfl (.inl rfl) (pe_call (ok_common_lengths T) (hr.mono (by decide)) (by rfl) T.g_common_lengths T.F_common_lengths.kp T.b_common_lengths .nil pass0 (pa_cons (pv 0) (pa_cons (pv 1) pa_nil))))
      (pss_cons (ps_set (i := 3) sc_matched.nd rfl (.inl rfl) (pe_lst pa_nil))
      (pss_cons (ps_set (i := 4) sc_matched.nd rfl (.inl rfl) pe_int)
      (pss_cons (ps_set (i := 5) sc_matched.nd rfl (.inl rfl) pe_int)
      (pss_cons (ps_while PassesOwn.never (PW.pt (pw_and (pt_cmpR op_lt (pv 4) (pe_callB (cr_lenK K) (by rfl) T.m_len (by decide +kernel) (pa_cons (pv 0) pa_nil)) (nomark _)) (pw_and1 (pt_cmpR op_lt (pv 5) (pe_callB (cr_lenK K) (by rfl) T.m_len (by decide +kernel) (pa_cons (pv 1) pa_nil)) (nomark _))))) (pss_one (ps_if (pt_cmpR (op_eqK K hr.units) (pe_ix (ix_K K) (pv 0) (pv 4) (fun _ _ => rfl)) (pe_ix (ix_K K) (pv 1) (pv 5) (fun _ _ => rfl)) (nomark _)) (pss_cons (ps_expr (k_bm K (pe_bm PySem.F.plainAttrs_list PySem.F.slot_list_append PySem.F.type_list_append mt_append (pv 3) (pa_cons (pe_tup (pa_cons (pv 4) (pa_cons (pv 5) pa_nil))) pa_nil))))
      (pss_cons (ps_aug (i := 4) sc_matched.nd rfl (.inl rfl) pe_int ip_add)
      (pss_one (ps_aug (i := 5) sc_matched.nd rfl (.inl rfl) pe_int ip_add)))) (pss_one (ps_if (pt_cmpR op_ge (pe_ix (ix_K K) (pe_ix (ix_K K) (pv 2) (pe_op (op_addK K) (pv 4) pe_int) (fun _ _ => rfl)) (pv 5) (fun _ _ => rfl)) (pe_ix (ix_K K) (pe_ix (ix_K K) (pv 2) (pv 4) (fun _ _ => rfl)) (pe_op (op_addK K) (pv 5) pe_int) (fun _ _ => rfl)) (nomark _)) (pss_one (ps_aug (i := 4) sc_matched.nd rfl (.inl rfl) pe_int ip_add)) (pss_one (ps_aug (i := 5) sc_matched.nd rfl (.inl rfl) pe_int ip_add)))))))
      (pss_one (ps_ret (pv 3)))))))), ?_⟩
  obtain ⟨a, b, xs, ys, rfl, ha, hb, hx, hy, q⟩ := h
  refine g_start (σ' := [some (.ref a), some (.ref b), none, none, none, none]) rfl ?_
  walk_at "gg"
  refine ⟨a, b, xs, ys, rfl, ha, hb, hx, hy, fun t H1 s0 n1 tab => ?_⟩
  have ha1 := s0 _ _ ha
  have hb1 := s0 _ _ hb
  have hH := Has.start H1
  walk_at "gg"
  refine g_klst (by walk_at "sz") hH (fun p H2 n2 h2 => ?_)
  walk_at "gg"
  refine g_while (fun k σ H' => ∃ (i j : Nat) (acc : List (Nat × Nat)) (vs : List V) (F : Hp), σ = [some (.ref a), some (.ref b), some (.ref t), some (.ref p), some (.int i), some (.int j)] ∧ Same H1 F ∧ Has F [(p, .lst vs)] H' ∧ DqAll F vs (acc.map prd) ∧ acc ++ mt (xs.drop i) (ys.drop j) i j = mt xs ys 0 0 ∧ i ≤ xs.length ∧ j ≤ ys.length ∧ acc.length ≤ i ∧ k = (xs.length - i) + (ys.length - j)) _ ⟨0, 0, [], [], H1, rfl, Same.refl _, h2, .nil, by simp, by omega, by omega, by simp, rfl⟩ ?_
  · rintro k σ H3 ⟨i, j, acc, vs, F, rfl, sF, h3, dq, ea, hi, hj, hac, rfl⟩
    have ha3 : F a = some (.lst (xs.map V.str)) := sF _ _ ha1
    have hb3 : F b = some (.lst (ys.map V.str)) := sF _ _ hb1
    have tab3 : Table H3 t xs ys := (tab.up sF).up h3.same
    refine g_fact (fun c => c = true ↔ (i < xs.length ∧ j < ys.length)) (fun R r => ?_) (fun c hc => ?_)
    · walk_at "gg"
      rw [List.length_map]
      refine i_d (fun l1 => ?_) (fun l1 => r _ ⟨fun z => (Bool.false_ne_true z).elim, fun z => by omega⟩)
      walk_at "gg"
      rw [List.length_map]
      exact r _ ⟨fun z => by have := of_decide_eq_true z; omega, fun z => decide_eq_true (by omega)⟩
    cases c with
    | true =>
      have hij := hc.mp rfl
      have hxi : xs[i]? = some xs[i] := List.getElem?_eq_getElem hij.1
      have hyj : ys[j]? = some ys[j] := List.getElem?_eq_getElem hij.2
      have ma := mt_at hxi hyj
      refine kwh_t ?_
      walk_at "gg"
      refine g_ixZ (by walk_at "h") (by omega) (by omega) (fun x hx' => ?_)
      walk_at "gg"
      refine g_ixZ (by walk_at "h") (by omega) (by omega) (fun y hy' => ?_)
      have ex : x = xs[i] := Option.some.inj (hx'.symm.trans hxi)
      have ey : y = ys[j] := Option.some.inj (hy'.symm.trans hyj)
      subst ex ey
      walk_at "gg"
      refine i_d (fun e => ?_) (fun e => ?_)
      · rw [if_pos e] at ma
        walk_at "gg"
        refine g_ktupF (by walk_at "sz") h3 (fun T H4 F' n4 s4 hT h4 => ?_)
        walk_at "gg"
        have hvl : vs.length = acc.length := by rw [dq.len, List.length_map]
        refine g_append h4 (by walk_at "c") (szl (by omega)) (fun H5 h5 => ?_)
        walk_at "gg"
        refine ⟨(xs.length - (i + 1)) + (ys.length - (j + 1)), by omega, i + 1, j + 1, acc ++ [(i, j)], _, F', rfl, sF.trans s4, h5, ?_, ?_, by omega, by omega, by rw [List.length_append]; show acc.length + 1 ≤ _; omega, rfl⟩
        · rw [List.map_append]
          exact (dq.up s4 _ _).snoc (.tup hT (.cons (.int _) (.cons (.int _) .nil)))
        · rw [← ea, ma, List.append_assoc]
          rfl
      · rw [if_neg e] at ma
        walk_at "gg"
        refine g_tabAt tab3 (by omega) (by omega) (fun r hr => ?_)
        walk_at "gg"
        refine g_ixV hr (by omega) (by rw [List.length_map, List.length_range]; omega) (fun v hv => ?_)
        rw [List.getElem?_map, List.getElem?_range (by omega)] at hv
        have hv' := (Option.some.inj hv).symm
        subst hv'
        walk_at "gg"
        refine g_tabAt tab3 (by omega) (by omega) (fun r hr => ?_)
        walk_at "gg"
        refine g_ixV hr (by omega) (by rw [List.length_map, List.length_range]; omega) (fun v hv => ?_)
        rw [List.getElem?_map, List.getElem?_range (by omega)] at hv
        have hv' := (Option.some.inj hv).symm
        subst hv'
        walk_at "gg"
        have e1 : ((i : Int) + 1).toNat = i + 1 := by omega
        have e2 : ((j : Int) + 1).toNat = j + 1 := by omega
        rw [e1, e2]
        refine i_d (fun g => ?_) (fun g => ?_)
        · have g' : lc (xs.drop (i + 1)) (ys.drop j) ≥ lc (xs.drop i) (ys.drop (j + 1)) := Int.ofNat_le.mp g
          rw [if_pos g'] at ma
          walk_at "gg"
          exact ⟨(xs.length - (i + 1)) + (ys.length - j), by omega, i + 1, j, acc, vs, F, rfl, sF, h3, dq, by rw [← ea, ma], by omega, hj, by omega, rfl⟩
        · have g' : ¬ lc (xs.drop (i + 1)) (ys.drop j) ≥ lc (xs.drop i) (ys.drop (j + 1)) := fun z => g (Int.ofNat_le.mpr z)
          rw [if_neg g'] at ma
          walk_at "gg"
          exact ⟨(xs.length - i) + (ys.length - (j + 1)), by omega, i, j + 1, acc, vs, F, rfl, sF, h3, dq, by rw [← ea, ma], hi, by omega, by omega, rfl⟩
    | false =>
      have hij : xs.length ≤ i ∨ ys.length ≤ j := by
        have : ¬ (i < xs.length ∧ j < ys.length) := fun z => Bool.false_ne_true (hc.mpr z)
        omega
      refine kwh_f ?_
      rw [mt_end hij, List.append_nil] at ea
      subst ea
      walk_at "gg"
      exact q p H3 vs (s0.trans (sF.trans h3.same)) (s0.free n2) (by walk_at "h") (dq.up h3.same _ _)

def sp_l_matched (K : PySem.W.Frag) : Sp := sp_matched K
theorem sp_l_matched_len {vs H Q E} (h : sp_l_matched K vs H Q E) : vs.length = 2 := sp_matched_len h
theorem ok_l_matched (T : Txt K mg) : FnOk P w K mg base CX0 1 T.f_l_matched T.fd_l_matched ["old", "new"] (sp_l_matched K) := by
  refine T.F_l_matched.ok sc_l_matched (fun vs H Q E h => sp_l_matched_len h) (fun cdv A outer s H vs Q E hr h => ?_)
  refine ⟨_, (pss_cons (ps_setLc (i := 2) (own := [("i", 3)]) (g := gName 3) (tt := tYes) rfl sc_l_matched.nd rfl rfl (sw_true rfl rfl rfl (by decide +kernel)) (pi_range1 rfl T.m_range (pa_cons (pe_op (op_addK K) (pe_callB (cr_lenK K) (by rfl) T.m_len (by decide +kernel) (pa_cons (pv 0) pa_nil)) pe_int) pa_nil)) (blkOk_by (N := n_l_matched) (sc := defScope s_l_matched) (by decide +kernel)) (fun _ _ _ _ _ => (pg_name (i := 3) sc_l_matched.nd rfl (.inl rfl))) (fun _ _ _ _ _ => pts_nil) (fun _ _ _ _ _ => (pe_op op_mulA (pe_lst (pa_cons pe_int pa_nil)) (pe_op (op_addK K) (pe_callB (cr_lenK K) (by rfl) T.m_len (by decide +kernel) (pa_cons (pv 1) pa_nil)) pe_int))))
      (pss_cons (ps_for PassesOwn.never rfl (pi_range3 rfl T.m_range (pa_cons (pe_op op_sub (pe_callB (cr_lenK K) (by rfl) T.m_len (by decide +kernel) (pa_cons (pv 0) pa_nil)) pe_int) (pa_cons (pe_un un_neg pe_int) (pa_cons (pe_un un_neg pe_int) pa_nil)))) (pg_name (i := 3) sc_l_matched.nd rfl (.inl rfl)) (pss_one (ps_for PassesOwn.never rfl (pi_range3 rfl T.m_range (pa_cons (pe_op op_sub (pe_callB (cr_lenK K) (by rfl) T.m_len (by decide +kernel) (pa_cons (pv 1) pa_nil)) pe_int) (pa_cons (pe_un un_neg pe_int) (pa_cons (pe_un un_neg pe_int) pa_nil)))) (pg_name (i := 4) sc_l_matched.nd rfl (.inl rfl)) (pss_cons (ps_asg (pe_callB (cr_max2 rfl) (by rfl) T.m_max (by decide +kernel) (pa_cons (pe_ix (ix_K K) (pe_ix (ix_K K) (pv 2) (pe_op (op_addK K) (pv 3) pe_int) (fun _ _ => rfl)) (pv 4) (fun _ _ => rfl)) (pa_cons (pe_ix (ix_K K) (pe_ix (ix_K K) (pv 2) (pv 3) (fun _ _ => rfl)) (pe_op (op_addK K) (pv 4) pe_int) (fun _ _ => rfl)) pa_nil))) (pg_sub (pe_ix (ix_K K) (pv 2) (pv 3) (fun _ _ => rfl)) (pv 4) (set_any (hu_of hr))))
      (pss_one (ps_if (pt_cmpR (op_eqK K hr.units) (pe_ix (ix_K K) (pv 0) (pv 3) (fun _ _ => rfl)) (pe_ix (ix_K K) (pv 1) (pv 4) (fun _ _ => rfl)) (nomark _)) (pss_one (ps_asg (pe_op (op_addK K) (pe_ix (ix_K K) (pe_ix (ix_K K) (pv 2) (pe_op (op_addK K) (pv 3) pe_int) (fun _ _ => rfl)) (pe_op (op_addK K) (pv 4) pe_int) (fun _ _ => rfl)) pe_int) (pg_sub (pe_ix (ix_K K) (pv 2) (pv 3) (fun _ _ => rfl)) (pv 4) (set_any (hu_of hr))))) pss_nil))))))
      (pss_cons (ps_set (i := 5) sc_l_matched.nd rfl (.inl rfl) (pe_lst pa_nil))
      (pss_cons (ps_set (i := 3) sc_l_matched.nd rfl (.inl rfl) pe_int)
      (pss_cons (ps_set (i := 4) sc_l_matched.nd rfl (.inl rfl) pe_int)
      (pss_cons (ps_while PassesOwn.never (PW.pt (pw_and (pt_cmpR op_lt (pv 3) (pe_callB (cr_lenK K) (by rfl) T.m_len (by decide +kernel) (pa_cons (pv 0) pa_nil)) (nomark _)) (pw_and1 (pt_cmpR op_lt (pv 4) (pe_callB (cr_lenK K) (by rfl) T.m_len (by decide +kernel) (pa_cons (pv 1) pa_nil)) (nomark _))))) (pss_one (ps_if (pt_cmpR (op_eqK K hr.units) (pe_ix (ix_K K) (pv 0) (pv 3) (fun _ _ => rfl)) (pe_ix (ix_K K) (pv 1) (pv 4) (fun _ _ => rfl)) (nomark _)) (pss_cons (ps_expr (k_bm K (pe_bm PySem.F.plainAttrs_list PySem.F.slot_list_append PySem.F.type_list_append mt_append (pv 5) (pa_cons (pe_tup (pa_cons (pv 3) (pa_cons (pv 4) pa_nil))) pa_nil))))
      (pss_cons (ps_set (i := 3) sc_l_matched.nd rfl (.inl rfl) (pe_op (op_addK K) (pv 3) pe_int))
      (pss_one (ps_set (i := 4) sc_l_matched.nd rfl (.inl rfl) (pe_op (op_addK K) (pv 4) pe_int))))) (pss_one (ps_if (pt_cmpR op_ge (pe_ix (ix_K K) (pe_ix (ix_K K) (pv 2) (pe_op (op_addK K) (pv 3) pe_int) (fun _ _ => rfl)) (pv 4) (fun _ _ => rfl)) (pe_ix (ix_K K) (pe_ix (ix_K K) (pv 2) (pv 3) (fun _ _ => rfl)) (pe_op (op_addK K) (pv 4) pe_int) (fun _ _ => rfl)) (nomark _)) (pss_one (ps_set (i := 3) sc_l_matched.nd rfl (.inl rfl) (pe_op (op_addK K) (pv 3) pe_int))) (pss_one (ps_set (i := 4) sc_l_matched.nd rfl (.inl rfl) (pe_op (op_addK K) (pv 4) pe_int))))))))
      (pss_one (ps_ret (pv 5))))))))), ?_⟩
  obtain ⟨a, b, xs, ys, rfl, ha, hb, hx, hy, q⟩ := h
  have hH := Has.start H
  refine g_start (σ' := [some (.ref a), some (.ref b), none, none, none, none]) rfl ?_
  walk_at "gg"
  rw [List.length_map]
  refine k_lcR1 (by omega) (by omega) hH (fun i acc F' O' => ∃ rows : List (Addr × List Int), acc = rows.map (fun r => V.ref r.1) ∧ rows.length = i ∧ (∀ r ∈ rows, r.2 = List.replicate (ys.length + 1) 0) ∧ H = F' ∧ O' = rows.map rowO) ⟨[], rfl, rfl, by simp, rfl, rfl⟩ ?_ ?_
  · rintro i acc F' O' D H1 hi ⟨rows, rfl, rfl, hr, rfl, rfl⟩ hh
    walk_at "gg"
    refine g_klst (by walk_at "sz") hh (fun p1 H2 n2 h2 => ?_)
    walk_at "gg"
    rw [List.length_map]
    refine g_mulL (by walk_at "h") (by omega) (by omega) (sz (by show 1 * _ ≤ _; omega)) h2 (fun p2 H3 n3 h3 => ?_)
    have e1 : ((ys.length : Int) + 1).toNat = ys.length + 1 := by omega
    rw [e1, flat_rep] at h3
    have h4 := h3.sub (.cons₂ _ (.cons _ (List.Sublist.refl _)))
    have h5 : Has H ((D, .lst (rows.map fun r => V.ref r.1)) :: (rows ++ [(p2, List.replicate (ys.length + 1) 0)]).map rowO) H3 := by
      refine h4.perm ?_
      rw [List.map_append]
      exact ((List.Perm.cons _ (List.perm_append_singleton _ _)).trans (List.Perm.swap _ _ _))
    refine k_turn h5 (by rw [List.length_map]; omega) ⟨rows ++ [(p2, List.replicate (ys.length + 1) 0)], by rw [List.map_append]; rfl, by rw [List.length_append]; rfl, fun r h => ?_, rfl, rfl⟩
    rcases List.mem_append.mp h with h | h
    · exact hr r h
    · rw [List.mem_singleton.mp h]
  rintro acc F' O' t H1' ⟨rows, rfl, hk, hr, rfl, rfl⟩ hh
  have hk' : rows.length = xs.length + 1 := by omega
  have tb0 := Tb.start (xs := xs) (ys := ys) hk' hr
  have hh1 : Has H (tabO t rows ++ []) H1' := by rw [List.append_nil]; exact hh
  walk_at "gg"
  refine k_forDown (n := xs.length) (by rw [List.length_map]) (by omega) (fun i σ H' => ∃ (rows : List (Addr × List Int)) (y3 y4 : Option V), σ = [some (.ref a), some (.ref b), some (.ref t), y3, y4, none] ∧ Has H (tabO t rows ++ []) H' ∧ Tb xs ys i 0 rows) ⟨rows, none, none, rfl, hh1, tb0⟩ ?_ ?_
  · rintro i σ H2 hi ⟨rows, y3, y4, rfl, h2, tb⟩
    walk_at "gg"
    refine k_forDown (n := ys.length) (by rw [List.length_map]) (by omega) (fun j σ H' => ∃ (rows : List (Addr × List Int)) (y4 : Option V), σ = [some (.ref a), some (.ref b), some (.ref t), some (.int i), y4, none] ∧ Has H (tabO t rows ++ []) H' ∧ Tb xs ys i j rows) ⟨rows, y4, rfl, h2, tb.row⟩ ?_ ?_
    · rintro j σ H3 hj ⟨rows, y4, rfl, h3, tb⟩
      have hxi : xs[i]? = some xs[i] := List.getElem?_eq_getElem hi
      have hyj : ys[j]? = some ys[j] := List.getElem?_eq_getElem hj
      have hlen := tb.len
      have la := lc_at hxi hyj
      have e1 : ((i : Int) + 1).toNat = i + 1 := by omega
      have e2 : ((j : Int) + 1).toNat = j + 1 := by omega
      walk_at "gg"
      refine g_ixRow h3 (by omega) (by omega) (fun r hr h5 => ?_)
      rw [e1] at hr
      have hw := tb.wid _ _ hr
      walk_at "gg"
      refine g_ixI h5 (by omega) (by omega) (fun z hz => ?_)
      rw [show ((j : Int)).toNat = j from rfl, tb.get hr (by omega) (by unfold tz; omega)] at hz
      have hz' := (Option.some.inj hz).symm
      walk_at "gg"
      refine g_ixRow h3 (by omega) (by omega) (fun r3 hr3 h7 => ?_)
      have hr3' : rows[i]? = some r3 := hr3
      have hw3 := tb.wid _ _ hr3'
      walk_at "gg"
      refine g_ixI h7 (by omega) (by omega) (fun z3 hz3 => ?_)
      rw [e2, tb.get hr3' (by omega) (by unfold tz; omega)] at hz3
      have hz3' := (Option.some.inj hz3).symm
      walk_at "gg"
      refine g_ixRow h3 (by omega) (by omega) (fun r2 hr2 h6 => ?_)
      walk_at "gg"
      have hr2' : rows[i]? = some r2 := hr2
      have hw2 := tb.wid _ _ hr2'
      refine g_setRow h3 hr2' (by omega) (by omega) (fun H4 h4 => ?_)
      walk_at "gg"
      refine g_ixZ (by walk_at "h") (by omega) (by omega) (fun x hx' => ?_)
      walk_at "gg"
      refine g_ixZ (by walk_at "h") (by omega) (by omega) (fun y hy' => ?_)
      have ex : x = xs[i] := Option.some.inj (hx'.symm.trans hxi)
      have ey : y = ys[j] := Option.some.inj (hy'.symm.trans hyj)
      subst ex ey
      walk_at "gg"
      refine i_d (fun e => ?_) (fun e => ?_)
      · rw [if_pos e] at la
        have tb' := tb.any hr2' (z := max z z3) hj hi
        have hlen' := tb'.len
        have e0 : ((j : Int)).toNat = j := rfl
        rw [e0] at h4
        generalize hrows : rows.set i (r2.1, r2.2.set j (max z z3)) = rows' at *
        walk_at "gg"
        refine g_ixRow h4 (by omega) (by omega) (fun r hr h5 => ?_)
        rw [e1] at hr
        have hw := tb'.wid _ _ hr
        walk_at "gg"
        refine g_ixI h5 (by omega) (by omega) (fun z hz => ?_)
        rw [e2, tb'.get hr (by omega) (by unfold tz; omega)] at hz
        have hz' := (Option.some.inj hz).symm
        walk_at "gg"
        refine g_ixRow h4 (by omega) (by omega) (fun r2 hr2 h6 => ?_)
        walk_at "gg"
        have hr2' : rows'[i]? = some r2 := hr2
        have hw2 := tb'.wid _ _ hr2'
        refine g_setRow h4 hr2' (by omega) (by omega) (fun H5 h8 => ?_)
        exact ⟨_, _, rfl, h8, tb'.set hr2' (by rw [la, hz']; omega) (by omega)⟩
      · rw [if_neg e] at la
        walk_at "gg"
        exact ⟨_, _, rfl, h4, tb.set hr2' (by rw [la, hz', hz3']; omega) (by omega)⟩
    · rintro σ H3 ⟨rows, y4, rfl, h3, tb⟩
      exact ⟨rows, _, _, rfl, h3, tb⟩
  rintro σ H1 ⟨rows, y3, y4, rfl, h2', tb'⟩
  have tab : Table H1 t xs ys := ⟨rows, tb', h2'.tab, fun r hr => h2'.get (List.mem_append_left _ (List.mem_cons_of_mem _ (List.mem_map.mpr ⟨r, hr, rfl⟩)))⟩
  have s0 : Same H H1 := h2'.same
  have ha1 := s0 _ _ ha
  have hb1 := s0 _ _ hb
  have hH1 := Has.start H1
  walk_at "gg"
  refine g_klst (by walk_at "sz") hH1 (fun p H2 n2 h2 => ?_)
  walk_at "gg"
  refine g_while (fun k σ H' => ∃ (i j : Nat) (acc : List (Nat × Nat)) (vs : List V) (F : Hp), σ = [some (.ref a), some (.ref b), some (.ref t), some (.int i), some (.int j), some (.ref p)] ∧ Same H1 F ∧ Has F [(p, .lst vs)] H' ∧ DqAll F vs (acc.map prd) ∧ acc ++ mt (xs.drop i) (ys.drop j) i j = mt xs ys 0 0 ∧ i ≤ xs.length ∧ j ≤ ys.length ∧ acc.length ≤ i ∧ k = (xs.length - i) + (ys.length - j)) _ ⟨0, 0, [], [], H1, rfl, Same.refl _, h2, .nil, by simp, by omega, by omega, by simp, rfl⟩ ?_
  · rintro k σ H3 ⟨i, j, acc, vs, F, rfl, sF, h3, dq, ea, hi, hj, hac, rfl⟩
    have ha3 : F a = some (.lst (xs.map V.str)) := sF _ _ ha1
    have hb3 : F b = some (.lst (ys.map V.str)) := sF _ _ hb1
    have tab3 : Table H3 t xs ys := (tab.up sF).up h3.same
    refine g_fact (fun c => c = true ↔ (i < xs.length ∧ j < ys.length)) (fun R r => ?_) (fun c hc => ?_)
    · walk_at "gg"
      rw [List.length_map]
      refine i_d (fun l1 => ?_) (fun l1 => r _ ⟨fun z => (Bool.false_ne_true z).elim, fun z => by omega⟩)
      walk_at "gg"
      rw [List.length_map]
      exact r _ ⟨fun z => by have := of_decide_eq_true z; omega, fun z => decide_eq_true (by omega)⟩
    cases c with
    | true =>
      have hij := hc.mp rfl
      have hxi : xs[i]? = some xs[i] := List.getElem?_eq_getElem hij.1
      have hyj : ys[j]? = some ys[j] := List.getElem?_eq_getElem hij.2
      have ma := mt_at hxi hyj
      refine kwh_t ?_
      walk_at "gg"
      refine g_ixZ (by walk_at "h") (by omega) (by omega) (fun x hx' => ?_)
      walk_at "gg"
      refine g_ixZ (by walk_at "h") (by omega) (by omega) (fun y hy' => ?_)
      have ex : x = xs[i] := Option.some.inj (hx'.symm.trans hxi)
      have ey : y = ys[j] := Option.some.inj (hy'.symm.trans hyj)
      subst ex ey
      walk_at "gg"
      refine i_d (fun e => ?_) (fun e => ?_)
      · rw [if_pos e] at ma
        walk_at "gg"
        refine g_ktupF (by walk_at "sz") h3 (fun T H4 F' n4 s4 hT h4 => ?_)
        walk_at "gg"
        have hvl : vs.length = acc.length := by rw [dq.len, List.length_map]
        refine g_append h4 (by walk_at "c") (szl (by omega)) (fun H5 h5 => ?_)
        walk_at "gg"
        refine ⟨(xs.length - (i + 1)) + (ys.length - (j + 1)), by omega, i + 1, j + 1, acc ++ [(i, j)], _, F', rfl, sF.trans s4, h5, ?_, ?_, by omega, by omega, by rw [List.length_append]; show acc.length + 1 ≤ _; omega, rfl⟩
        · rw [List.map_append]
          exact (dq.up s4 _ _).snoc (.tup hT (.cons (.int _) (.cons (.int _) .nil)))
        · rw [← ea, ma, List.append_assoc]
          rfl
      · rw [if_neg e] at ma
        walk_at "gg"
        refine g_tabAt tab3 (by omega) (by omega) (fun r hr => ?_)
        walk_at "gg"
        refine g_ixV hr (by omega) (by rw [List.length_map, List.length_range]; omega) (fun v hv => ?_)
        rw [List.getElem?_map, List.getElem?_range (by omega)] at hv
        have hv' := (Option.some.inj hv).symm
        subst hv'
        walk_at "gg"
        refine g_tabAt tab3 (by omega) (by omega) (fun r hr => ?_)
        walk_at "gg"
        refine g_ixV hr (by omega) (by rw [List.length_map, List.length_range]; omega) (fun v hv => ?_)
        rw [List.getElem?_map, List.getElem?_range (by omega)] at hv
        have hv' := (Option.some.inj hv).symm
        subst hv'
        walk_at "gg"
        have e1 : ((i : Int) + 1).toNat = i + 1 := by omega
        have e2 : ((j : Int) + 1).toNat = j + 1 := by omega
        rw [e1, e2]
        refine i_d (fun g => ?_) (fun g => ?_)
        · have g' : lc (xs.drop (i + 1)) (ys.drop j) ≥ lc (xs.drop i) (ys.drop (j + 1)) := Int.ofNat_le.mp g
          rw [if_pos g'] at ma
          walk_at "gg"
          exact ⟨(xs.length - (i + 1)) + (ys.length - j), by omega, i + 1, j, acc, vs, F, rfl, sF, h3, dq, by rw [← ea, ma], by omega, hj, by omega, rfl⟩
        · have g' : ¬ lc (xs.drop (i + 1)) (ys.drop j) ≥ lc (xs.drop i) (ys.drop (j + 1)) := fun z => g (Int.ofNat_le.mpr z)
          rw [if_neg g'] at ma
          walk_at "gg"
          exact ⟨(xs.length - i) + (ys.length - (j + 1)), by omega, i, j + 1, acc, vs, F, rfl, sF, h3, dq, by rw [← ea, ma], hi, by omega, by omega, rfl⟩
    | false =>
      have hij : xs.length ≤ i ∨ ys.length ≤ j := by
        have : ¬ (i < xs.length ∧ j < ys.length) := fun z => Bool.false_ne_true (hc.mpr z)
        omega
      refine kwh_f ?_
      rw [mt_end hij, List.append_nil] at ea
      subst ea
      walk_at "gg"
      exact q p H3 vs (s0.trans (sF.trans h3.same)) (s0.free n2) (by walk_at "h") (dq.up h3.same _ _)
end
end K38

namespace K38
open PySem PySem.Spec PyProof.Rows L2 Qk
local macro_rules | `(tactic| walk_at "m") => `(tactic| ((repeat (first | exact List.Mem.head _ | apply List.Mem.tail)); done))
local macro_rules | `(tactic| walk_at "h") => `(tactic| first | assumption | exact Has.gF (by assumption) (by assumption) | exact Has.get (by assumption) (by walk_at "m"))
local macro_rules | `(tactic| walk_at "c") => `(tactic| ((repeat (first | exact Chg.hd | apply Chg.tl)); done))
local macro_rules | `(tactic| walk_at "g") => `(tactic| first
  | (with_reducible refine g_seq ?_)
  | (with_reducible refine g_asg ?_)
  | ((with_reducible refine g_name ?_); dsimp only [List.set, wipe, List.map])
  | ((with_reducible refine' g_var ?gv ?_); (case gv => exact rfl))
  | (with_reducible refine g_c ?_)
  | (with_reducible refine g_op ?_)
  | (with_reducible refine g_cons ?_)
  | (with_reducible refine g_nil ?_)
  | (with_reducible refine g_cb ?_)
  | (with_reducible refine g_call ?_)
  | (with_reducible refine g_tup ?_)
  | (with_reducible refine g_lst ?_)
  | (with_reducible refine g_bm ?_)
  | (with_reducible refine g_bm0 ?_)
  | ((with_reducible refine' g_kbm ?gh ?_); (case gh => walk_at "h"))
  | (with_reducible refine g_drop ?_)
  | (with_reducible refine g_ret ?_)
  | (with_reducible refine g_retN ?_)
  | (with_reducible refine g_next ?_)
  | (with_reducible refine g_brk ?_)
  | (with_reducible refine g_cont ?_)
  | (with_reducible refine g_if ?_)
  | ((with_reducible refine' g_aug ?gv ?_); (case gv => exact rfl))
  | (with_reducible refine g_ipI ?_)
  | (with_reducible refine g_test ?_)
  | (with_reducible refine g_tB ?_)
  | (with_reducible refine g_kB ?_)
  | (with_reducible refine g_not ?_)
  | (with_reducible refine g_and ?_)
  | (with_reducible refine g_or ?_)
  | (with_reducible refine g_andV ?_)
  | (with_reducible refine g_orV ?_)
  | (with_reducible refine g_notV ?_)
  | (with_reducible refine g_ifE ?_)
  | (with_reducible refine g_addI ?_)
  | (with_reducible refine g_rI0 ?_)
  | (with_reducible refine g_eqI ?_)
  | (with_reducible refine g_eqS ?_)
  | (with_reducible refine g_neI ?_)
  | (with_reducible refine g_neS ?_)
  | (with_reducible refine g_isN ?_)
  | (with_reducible refine g_notN ?_)
  | (with_reducible refine g_int ?_)
  | (with_reducible refine g_max2 ?_)
  | ((with_reducible refine' g_lenL ?gh ?_); (case gh => walk_at "h"))
  | (with_reducible refine g_sub ?_)
  | (with_reducible refine g_gcons ?_)
  | (with_reducible refine g_gnil ?_)
  | (with_reducible refine g_un ?_)
  | (with_reducible refine g_rU ?_)
  | (with_reducible refine g_forL ?_)
  | (with_reducible refine g_forR1 ?_)
  | (with_reducible refine g_forR2 ?_)
  | (with_reducible refine g_forR3 ?_)
  | (with_reducible refine g_lcL ?_)
  | (with_reducible refine g_lcR1 ?_)
  | (with_reducible refine g_slice ?_)
  | (with_reducible refine g_part ?_)
  | (with_reducible refine g_kOI ?_)
  | (with_reducible refine g_nopart ?_)
  | (with_reducible refine g_yes ?_)
  | ((with_reducible refine' g_wipe ?gv ?_); (case gv => exact rfl))
  | (with_reducible refine iteT ?_)
  | (with_reducible refine iteF ?_)
  | ((with_reducible refine' g_gtup ?gh ?gl ?_); (case gh => walk_at "h"); (case gl => exact rfl))
  | ((with_reducible refine' g_notinI ?gh ?_); (case gh => walk_at "h"))
  | ((with_reducible refine' g_inI ?gh ?_); (case gh => walk_at "h"))
  | ((with_reducible refine' g_kget2 ?gh ?_); (case gh => walk_at "h"))
  | ((with_reducible refine' g_kgotI ?gh ?_); (case gh => walk_at "h"))
  | (with_reducible refine g_tRev ?_)
  | (with_reducible refine g_get2 ?_))
local macro_rules | `(tactic| walk_at "gg") => `(tactic| repeat walk_at "g")
local macro_rules | `(tactic| walk_at "sz") => `(tactic| (refine sz ?_; simp only [List.length_cons, List.length_nil, List.length_map, List.length_append, List.length_replicate]; omega))

/-! ### origins -/
def o1 (marks : List Str) (fo : Nat → Option Str) (p : Nat × Nat) : Nat → Option Str := fun j => if j = p.2 ∧ fo j = none then marks[p.1]? else fo j
def oE (text : List Str) (fo : Nat → Option Str) (e : List Str × List Str) : Nat → Option Str := (mt e.1 text 0 0).foldl (o1 e.2) fo
def oAll (text : List Str) (es : List (List Str × List Str)) : Nat → Option Str := es.foldl (oE text) fun _ => none
def orig (name : Str) (text : List Str) (es : List (List Str × List Str)) : List Str := (List.range text.length).map fun j => (oAll text es j).getD name
theorem mt_len : ∀ (xs ys : List Str) (i j : Nat), (mt xs ys i j).length ≤ xs.length
  | [], _, _, _ => by rw [mt]; exact Nat.le_refl _
  | _ :: _, [], _, _ => by rw [mt]; exact Nat.zero_le _
  | x :: xs, y :: ys, i, j => by
    rw [mt]
    split
    · have := mt_len xs ys (i + 1) (j + 1)
      rw [List.length_cons, List.length_cons]; omega
    · split
      · have := mt_len xs (y :: ys) (i + 1) j
        rw [List.length_cons]; omega
      · have := mt_len (x :: xs) ys i (j + 1)
        exact this
termination_by xs ys => xs.length + ys.length
theorem eld_inv {F : Hp} {v : V} {e : List Str × List Str} (h : Dq F v (eld e)) : ∃ T o m, v = .ref T ∧ F T = some (.tup [.ref o, .ref m]) ∧ F o = some (.lst (e.1.map V.str)) ∧ F m = some (.lst (e.2.map V.str)) := by
  cases h with
  | tup hT hs =>
    cases hs with
    | cons h1 hs =>
      cases hs with
      | cons h2 hs =>
        cases hs
        obtain ⟨o, rfl, ho⟩ := h1.of_strs
        obtain ⟨m, rfl, hm⟩ := h2.of_strs
        exact ⟨_, o, m, rfl, hT, ho, hm⟩
theorem prd_inv {F : Hp} {v : V} {p : Nat × Nat} (h : Dq F v (prd p)) : ∃ T, v = .ref T ∧ F T = some (.tup [.int p.1, .int p.2]) := by
  cases h with
  | tup hT hs =>
    cases hs with
    | cons h1 hs =>
      cases hs with
      | cons h2 hs =>
        cases hs
        cases h1
        cases h2
        exact ⟨_, rfl, hT⟩
theorem prd_rm {H : Hp} {a : Addr} {o : HO} (h : H a = some o) (ho : ∀ xs, o ≠ .tup xs) : ∀ {vs : List V} {ps : List (Nat × Nat)}, DqAll H vs (ps.map prd) → DqAll (rm H a) vs (ps.map prd)
  | _, [], .nil => .nil
  | _, p :: ps, .cons d t => by
    refine .cons ?_ (prd_rm h ho t)
    obtain ⟨T, rfl, hT⟩ := prd_inv d
    refine .tup ?_ (.cons (.int _) (.cons (.int _) .nil))
    rw [rm_ne (ne_of hT h (fun e => ho _ e.symm))]
    exact hT
def ov (o : Option Str) : V := match o with
  | none => .non
  | some s => .str s
section
variable {P : Program} {w : World} {K : PySem.W.Frag} {mg : Str → Option Value} {base : Heap}
def sp_line_origins (K : PySem.W.Frag) : Sp := fun vs H Q _ => ∃ (nm : Str) (t e : Addr) (text : List Str) (us : List V) (es : List (List Str × List Str)), vs = [.str nm, .ref t, .ref e] ∧ H t = some (.lst (text.map V.str)) ∧ text.length ≤ 50 ∧ H e = some (.lst us) ∧ DqAll H us (es.map eld) ∧
  es.length ≤ 50 ∧ (∀ x ∈ es, EldOk x) ∧ ∀ p H', Same H H' → H p = none → H' p = some (.lst ((orig nm text es).map V.str)) → Q (.ref p) H'
theorem sp_line_origins_len {vs H Q E} (h : sp_line_origins K vs H Q E) : vs.length = 3 := by
  obtain ⟨_, _, _, _, _, _, rfl, _⟩ := h
  rfl
theorem ok_line_origins (T : Txt K mg) : FnOk P w K mg base CX0 3 T.f_line_origins T.fd_line_origins ["name", "text", "elders"] (sp_line_origins K) := by
  refine T.F_line_origins.ok sc_line_origins (fun vs H Q E h => sp_line_origins_len h) (fun cdv A outer s H vs Q E hr h => ?_)
  refine ⟨_, (pss_cons (ps_set (i := 3) sc_line_origins.nd rfl (.inr rfl) pe_dnewK)
      (pss_cons (ps_for PassesOwn.never rfl (k_il K (pi_list (pv 2))) (k_gt K (pg_tup (by rfl) (pgs_cons (pg_name (i := 4) sc_line_origins.nd rfl (.inl rfl)) (pgs_cons (pg_name (i := 5) sc_line_origins.nd rfl (.inl rfl)) pgs_nil)))) (pss_one (ps_for PassesOwn.never rfl (k_il K (pi_list (pe_call (ok_matched T) (hr.mono (by decide)) (by rfl) T.g_matched T.F_matched.kp T.b_matched .nil pass0 (pa_cons (pv 4) (pa_cons (pv 1) pa_nil))))) (k_gt K (pg_tup (by rfl) (pgs_cons (pg_name (i := 6) sc_line_origins.nd rfl (.inl rfl)) (pgs_cons (pg_name (i := 7) sc_line_origins.nd rfl (.inl rfl)) pgs_nil)))) (pss_one (ps_if (pt_cmpR (op_notinK K hr.units (u65 hr)) (pv 7) (pv 3) (by rfl)) (pss_one (ps_asg (pe_ix (ix_K K) (pv 5) (pv 6) (fun _ _ => rfl)) (pg_sub (pv 3) (pv 7) (set_any (hu_of hr))))) pss_nil)))))
      (pss_one (ps_ret (pe_lc (own := [("place", 7)]) (g := gName 7) (tt := tYes) rfl sc_line_origins.nd (pi_range1 rfl T.m_range (pa_cons (pe_callB (cr_lenK K) (by rfl) T.m_len (by decide +kernel) (pa_cons (pv 1) pa_nil)) pa_nil)) (blkOk_by (N := n_line_origins) (sc := defScope s_line_origins) (by decide +kernel)) (fun _ _ _ _ _ => (pg_name (i := 7) sc_line_origins.nd rfl (.inl rfl))) (fun _ _ _ _ _ => pts_nil) (fun _ _ _ _ _ => (pe_dget2 (hu_of hr) (pv 3) (pv 7) (pv 0) ⟨rfl, rfl, rfl, rfl⟩))))))), ?_⟩
  obtain ⟨nm, t, e, text, us, es, rfl, ht, htl, he, dq, hel, hes, q⟩ := h
  have hH := Has.start H
  refine g_start (σ' := [some (.str nm), some (.ref t), some (.ref e), none, none, none, none, none]) rfl ?_
  walk_at "gg"
  refine g_dnew hH (fun d H1 n1 h1 => ?_)
  walk_at "gg"
  have hul : us.length = es.length := by rw [dq.len, List.length_map]
  refine k_forL (xs := us) (by walk_at "h") (fun i σ H' => ∃ (kvs : List (Key × V)) (y4 y5 y6 y7 : Option V), σ = [some (.str nm), some (.ref t), some (.ref e), some (.ref d), y4, y5, y6, y7] ∧ Has H [(d, .dK kvs)] H' ∧
    (∀ j : Nat, valV kvs (.inl (j : Int)) = ((es.take i).foldl (oE text) (fun _ => none) j).map V.str) ∧ kvs.length ≤ 50 * i) ⟨[], none, none, none, none, rfl, h1, fun j => rfl, by simp⟩ ?_ ?_ ?_
  · rintro i σ H' hi ⟨kvs, y4, y5, y6, y7, rfl, hA, rel, kl⟩
    walk_at "h"
  · rintro i v σ H2 hv ⟨kvs, y4, y5, y6, y7, rfl, hA, rel, kl⟩
    obtain ⟨dd, hd, dv⟩ := dq.get hv
    rw [List.getElem?_map] at hd
    obtain ⟨el, hel2, rfl⟩ := Option.map_eq_some_iff.mp hd
    have hil : i < es.length := (List.getElem?_eq_some_iff.mp hel2).1
    have eok := hes el (List.mem_of_getElem? hel2)
    obtain ⟨T, o, m, rfl, hT, ho, hm⟩ := eld_inv dv
    walk_at "gg"
    refine ⟨o, t, el.1, text, rfl, by walk_at "h", by walk_at "h", by have := eok.1; omega, by omega, fun lp H3 ps s3 n3 hlp dps => ?_⟩
    have hd3 : H3 d = some (.dK kvs) := s3 _ _ (hA.get (by walk_at "m"))
    have nld : lp ≠ d := fun z => by rw [z, hA.get (List.Mem.head _)] at n3; cases n3
    have hB := Has.arg hd3
    have sF : Same H (rm H3 d) := same_rm (hA.same.trans s3) hA.free
    have dps' := prd_rm hd3 (fun xs z => by cases z) dps
    have hlp' : rm H3 d lp = some (.lst ps) := by rw [rm_ne nld]; exact hlp
    have hm' : rm H3 d m = some (.lst (el.2.map V.str)) := sF _ _ hm
    walk_at "gg"
    have hpl : ps.length = (mt el.1 text 0 0).length := by rw [dps.len, List.length_map]
    have hml := mt_len el.1 text 0 0
    refine k_forL (xs := ps) hlp (fun k σ H' => ∃ (kvs : List (Key × V)) (y6 y7 : Option V), σ = [some (.str nm), some (.ref t), some (.ref e), some (.ref d), some (.ref o), some (.ref m), y6, y7] ∧ Has (rm H3 d) [(d, .dK kvs)] H' ∧
      (∀ j : Nat, valV kvs (.inl (j : Int)) = (((mt el.1 text 0 0).take k).foldl (o1 el.2) ((es.take i).foldl (oE text) (fun _ => none)) j).map V.str) ∧ kvs.length ≤ 50 * i + k) ⟨kvs, y6, y7, rfl, hB, rel, by omega⟩ ?_ ?_ ?_
    · rintro k σ H' hk ⟨kvs, y6, y7, rfl, hA, rel, kl⟩
      walk_at "h"
    · rintro k v σ H4 hv ⟨kvs, y6, y7, rfl, hC, rel, kl⟩
      obtain ⟨dd, hd, dv⟩ := dps'.get hv
      rw [List.getElem?_map] at hd
      obtain ⟨pr, hpr, rfl⟩ := Option.map_eq_some_iff.mp hd
      have hkl : k < (mt el.1 text 0 0).length := (List.getElem?_eq_some_iff.mp hpr).1
      have hlt := mt_lt _ _ _ _ _ (List.mem_of_getElem? hpr)
      obtain ⟨T2, rfl, hT2⟩ := prd_inv dv
      walk_at "gg"
      have r2 := rel pr.2
      generalize hfo : ((mt el.1 text 0 0).take k).foldl (o1 el.2) ((es.take i).foldl (oE text) (fun _ => none)) = fo at rel r2
      have stp : ((mt el.1 text 0 0).take (k + 1)).foldl (o1 el.2) ((es.take i).foldl (oE text) (fun _ => none)) = o1 el.2 fo pr := by rw [take_foldl hpr, hfo]
      rw [r2, Option.isSome_map]
      refine i_nb (fun z => ?_) (fun z => ?_)
      · have fn : fo pr.2 = none := by cases h : fo pr.2 with | none => rfl | some _ => rw [h] at z; cases z
        walk_at "gg"
        refine g_ixZ (by walk_at "h") (by omega) (by have := eok.2.1; omega) (fun y hy => ?_)
        walk_at "gg"
        refine g_stD (k := .inl (pr.2 : Int)) rfl hC (by walk_at "c") (szl (by have := eok.1; omega)) (fun H5 h5 => ?_)
        refine ⟨_, _, _, rfl, h5, fun j => ?_, by have := length_putK kvs (.inl (pr.2 : Int)) (V.str y); omega⟩
        rw [valV_put, stp, rel j]
        unfold o1
        by_cases e : j = pr.2
        · subst e
          rw [if_pos rfl, if_pos ⟨rfl, fn⟩]
          have hy' : el.2[pr.1]? = some y := hy
          rw [hy']
          rfl
        · rw [if_neg (fun z => e (by have := Sum.inl.inj z; omega)), if_neg (fun z => e z.1)]
      · walk_at "gg"
        refine ⟨kvs, _, _, rfl, hC, fun j => ?_, by omega⟩
        rw [stp, rel j]
        unfold o1
        by_cases e : j = pr.2
        · subst e
          rw [if_neg]
          rintro ⟨_, z'⟩
          rw [z'] at z
          cases z
        · rw [if_neg (fun z => e z.1)]
    · rintro σ H4 ⟨kvs, y6, y7, rfl, hC, rel, kl⟩
      refine ⟨kvs, _, _, _, _, rfl, hC.mono sF, fun j => ?_, by have := eok.1; omega⟩
      rw [rel j, take_foldl hel2, hpl, List.take_length]
      rfl
  · rintro σ H2 ⟨kvs, y4, y5, y6, y7, rfl, hA, rel, kl⟩
    rw [hul, List.take_length] at rel
    walk_at "gg"
    rw [List.length_map]
    refine k_lcR1 (by omega) (by omega) hA (fun i acc F' O' => acc = ((List.range i).map fun j => V.str ((oAll text es j).getD nm)) ∧ H = F' ∧ O' = [(d, .dK kvs)]) ⟨rfl, rfl, rfl⟩ ?_ ?_
    · rintro i acc F' O' D H3 hi ⟨rfl, rfl, rfl⟩ hh
      walk_at "gg"
      refine k_turn hh (by rw [List.length_map, List.length_range]; omega) ⟨?_, rfl, rfl⟩
      rw [List.range_succ, List.map_append, rel i]
      congr 1
      show [_] = [_]
      congr 1
      show (Option.map V.str (oAll text es i)).getD (V.str nm) = V.str ((oAll text es i).getD nm)
      cases oAll text es i <;> rfl
    · rintro acc F' O' D H3 ⟨rfl, rfl, rfl⟩ hh
      refine q D H3 hh.same hh.free ?_
      rw [hh.get (List.Mem.head _)]
      unfold orig
      rw [List.map_map]
      rfl
end
end K38

namespace K38
open PySem PySem.Spec PyProof.Rows L2 Qk
local macro_rules | `(tactic| walk_at "m") => `(tactic| ((repeat (first | exact List.Mem.head _ | apply List.Mem.tail)); done))
local macro_rules | `(tactic| walk_at "h") => `(tactic| first | assumption | exact Has.gF (by assumption) (by assumption) | exact Has.get (by assumption) (by walk_at "m"))
local macro_rules | `(tactic| walk_at "c") => `(tactic| ((repeat (first | exact Chg.hd | apply Chg.tl)); done))
local macro_rules | `(tactic| walk_at "g") => `(tactic| first
  | (with_reducible refine g_seq ?_)
  | (with_reducible refine g_asg ?_)
  | ((with_reducible refine g_name ?_); dsimp only [List.set, wipe, List.map])
  | ((with_reducible refine' g_var ?gv ?_); (case gv => exact rfl))
  | (with_reducible refine g_c ?_)
  | (with_reducible refine g_op ?_)
  | (with_reducible refine g_cons ?_)
  | (with_reducible refine g_nil ?_)
  | (with_reducible refine g_cb ?_)
  | (with_reducible refine g_call ?_)
  | (with_reducible refine g_tup ?_)
  | (with_reducible refine g_lst ?_)
  | (with_reducible refine g_bm ?_)
  | (with_reducible refine g_bm0 ?_)
  | ((with_reducible refine' g_kbm ?gh ?_); (case gh => walk_at "h"))
  | (with_reducible refine g_drop ?_)
  | (with_reducible refine g_ret ?_)
  | (with_reducible refine g_retN ?_)
  | (with_reducible refine g_next ?_)
  | (with_reducible refine g_brk ?_)
  | (with_reducible refine g_cont ?_)
  | (with_reducible refine g_if ?_)
  | ((with_reducible refine' g_aug ?gv ?_); (case gv => exact rfl))
  | (with_reducible refine g_ipI ?_)
  | (with_reducible refine g_test ?_)
  | (with_reducible refine g_tB ?_)
  | (with_reducible refine g_kB ?_)
  | (with_reducible refine g_not ?_)
  | (with_reducible refine g_and ?_)
  | (with_reducible refine g_or ?_)
  | (with_reducible refine g_andV ?_)
  | (with_reducible refine g_orV ?_)
  | (with_reducible refine g_notV ?_)
  | (with_reducible refine g_ifE ?_)
  | (with_reducible refine g_addI ?_)
  | (with_reducible refine g_rI0 ?_)
  | (with_reducible refine g_eqI ?_)
  | (with_reducible refine g_eqS ?_)
  | (with_reducible refine g_neI ?_)
  | (with_reducible refine g_neS ?_)
  | (with_reducible refine g_isN ?_)
  | (with_reducible refine g_notN ?_)
  | (with_reducible refine g_int ?_)
  | (with_reducible refine g_max2 ?_)
  | ((with_reducible refine' g_lenL ?gh ?_); (case gh => walk_at "h"))
  | (with_reducible refine g_sub ?_)
  | (with_reducible refine g_gcons ?_)
  | (with_reducible refine g_gnil ?_)
  | (with_reducible refine g_un ?_)
  | (with_reducible refine g_rU ?_)
  | (with_reducible refine g_forL ?_)
  | (with_reducible refine g_forR1 ?_)
  | (with_reducible refine g_forR2 ?_)
  | (with_reducible refine g_forR3 ?_)
  | (with_reducible refine g_lcL ?_)
  | (with_reducible refine g_lcR1 ?_)
  | (with_reducible refine g_slice ?_)
  | (with_reducible refine g_part ?_)
  | (with_reducible refine g_kOI ?_)
  | (with_reducible refine g_nopart ?_)
  | (with_reducible refine g_yes ?_)
  | ((with_reducible refine' g_wipe ?gv ?_); (case gv => exact rfl))
  | (with_reducible refine iteT ?_)
  | (with_reducible refine iteF ?_)
  | ((with_reducible refine' g_gtup ?gh ?gl ?_); (case gh => walk_at "h"); (case gl => exact rfl))
  | ((with_reducible refine' g_notinI ?gh ?_); (case gh => walk_at "h"))
  | ((with_reducible refine' g_inI ?gh ?_); (case gh => walk_at "h"))
  | ((with_reducible refine' g_kget2 ?gh ?_); (case gh => walk_at "h"))
  | ((with_reducible refine' g_kgotI ?gh ?_); (case gh => walk_at "h"))
  | (with_reducible refine g_tRev ?_)
  | (with_reducible refine g_get2 ?_))
local macro_rules | `(tactic| walk_at "gg") => `(tactic| repeat walk_at "g")
local macro_rules | `(tactic| walk_at "sz") => `(tactic| (refine sz ?_; simp only [List.length_cons, List.length_nil, List.length_map, List.length_append, List.length_replicate]; omega))


section
variable {P : Program} {w : World} {K : PySem.W.Frag} {mg : Str → Option Value} {base : Heap}
def sp_l_own_lines (K : PySem.W.Frag) : Sp := sp_line_origins K
theorem sp_l_own_lines_len {vs H Q E} (h : sp_l_own_lines K vs H Q E) : vs.length = 3 := sp_line_origins_len h
theorem ok_l_own_lines (T : Txt K mg) : FnOk P w K mg base CX0 2 T.f_l_own_lines T.fd_l_own_lines ["name", "text", "elders"] (sp_l_own_lines K) := by
  refine T.F_l_own_lines.ok sc_l_own_lines (fun vs H Q E h => sp_l_own_lines_len h) (fun cdv A outer s H vs Q E hr h => ?_)
  refine ⟨_, (pss_cons (ps_set (i := 3) sc_l_own_lines.nd rfl (.inl rfl) (pe_op op_mulA (pe_lst (pa_cons pe_non pa_nil)) (pe_callB (cr_lenK K) (by rfl) T.m_len (by decide +kernel) (pa_cons (pv 1) pa_nil))))
      (pss_cons (ps_for PassesOwn.never rfl (k_il K (pi_list (pv 2))) (k_gt K (pg_tup (by rfl) (pgs_cons (pg_name (i := 4) sc_l_own_lines.nd rfl (.inl rfl)) (pgs_cons (pg_name (i := 5) sc_l_own_lines.nd rfl (.inl rfl)) pgs_nil)))) (pss_one (ps_for PassesOwn.never rfl (k_il K (pi_list (pe_call (ok_l_matched T) (hr.mono (by decide)) (by rfl) T.g_l_matched T.F_l_matched.kp T.b_l_matched .nil pass0 (pa_cons (pv 4) (pa_cons (pv 1) pa_nil))))) (k_gt K (pg_tup (by rfl) (pgs_cons (pg_name (i := 6) sc_l_own_lines.nd rfl (.inl rfl)) (pgs_cons (pg_name (i := 7) sc_l_own_lines.nd rfl (.inl rfl)) pgs_nil)))) (pss_one (ps_if (pt_cmpR op_isNA (pe_ix (ix_K K) (pv 3) (pv 7) (fun _ _ => rfl)) pe_non (nomark _)) (pss_one (ps_asg (pe_ix (ix_K K) (pv 5) (pv 6) (fun _ _ => rfl)) (pg_sub (pv 3) (pv 7) (set_any (hu_of hr))))) pss_nil)))))
      (pss_one (ps_ret (pe_lc (own := [("mark", 8)]) (g := gName 8) (tt := tYes) rfl sc_l_own_lines.nd (k_il K (pi_list (pv 3))) (blkOk_by (N := n_l_own_lines) (sc := defScope s_l_own_lines) (by decide +kernel)) (fun _ _ _ _ _ => (pg_name (i := 8) sc_l_own_lines.nd rfl (.inl rfl))) (fun _ _ _ _ _ => pts_nil) (fun _ _ _ _ _ => (pe_ifExp (pt_cmpR op_isNA (pv 8) pe_non (nomark _)) (pv 0) (pv 8)))))))), ?_⟩
  obtain ⟨nm, t, e, text, us, es, rfl, ht, htl, he, dq, hel, hes, q⟩ := h
  have hH := Has.start H
  refine g_start (σ' := [some (.str nm), some (.ref t), some (.ref e), none, none, none, none, none, none]) rfl ?_
  walk_at "gg"
  refine g_klst (by walk_at "sz") hH (fun n0 H0 m0 h0 => ?_)
  walk_at "gg"
  rw [List.length_map]
  refine g_mulL (by walk_at "h") (by omega) (by omega) (sz (by show 1 * _ ≤ _; omega)) h0 (fun d H1 n1 h1 => ?_)
  have h1 := h1.sub (.cons₂ _ (.cons _ (List.Sublist.refl _)))
  have e0 : (List.replicate (text.length : Int).toNat [V.non]).flatten = (List.range text.length).map fun j => ov ((fun _ => none : Nat → Option Str) j) := by
    show (List.replicate text.length [V.non]).flatten = _
    induction text.length with
    | zero => rfl
    | succ k ih =>
      rw [List.range_succ, List.map_append, ← ih, List.replicate_succ', List.flatten_append]
      rfl
  rw [e0] at h1
  walk_at "gg"
  have hul : us.length = es.length := by rw [dq.len, List.length_map]
  refine k_forL (xs := us) (by walk_at "h") (fun i σ H' => ∃ (y4 y5 y6 y7 : Option V), σ = [some (.str nm), some (.ref t), some (.ref e), some (.ref d), y4, y5, y6, y7, none] ∧
    Has H [(d, .lst ((List.range text.length).map fun j => ov ((es.take i).foldl (oE text) (fun _ => none) j)))] H') ⟨none, none, none, none, rfl, h1⟩ ?_ ?_ ?_
  · rintro i σ H' hi ⟨y4, y5, y6, y7, rfl, hA⟩
    walk_at "h"
  · rintro i v σ H2 hv ⟨y4, y5, y6, y7, rfl, hA⟩
    obtain ⟨dd, hd, dv⟩ := dq.get hv
    rw [List.getElem?_map] at hd
    obtain ⟨el, hel2, rfl⟩ := Option.map_eq_some_iff.mp hd
    have hil : i < es.length := (List.getElem?_eq_some_iff.mp hel2).1
    have eok := hes el (List.mem_of_getElem? hel2)
    obtain ⟨T, o, m, rfl, hT, ho, hm⟩ := eld_inv dv
    walk_at "gg"
    refine ⟨o, t, el.1, text, rfl, by walk_at "h", by walk_at "h", by have := eok.1; omega, by omega, fun lp H3 ps s3 n3 hlp dps => ?_⟩
    have hd3 := s3 _ _ (hA.get (List.Mem.head _))
    have nld : lp ≠ d := fun z => by rw [z, hA.get (List.Mem.head _)] at n3; cases n3
    have hB := Has.arg hd3
    have sF : Same H (rm H3 d) := same_rm (hA.same.trans s3) hA.free
    have dps' := prd_rm hd3 (fun xs z => by cases z) dps
    have hlp' : rm H3 d lp = some (.lst ps) := by rw [rm_ne nld]; exact hlp
    have hm' : rm H3 d m = some (.lst (el.2.map V.str)) := sF _ _ hm
    walk_at "gg"
    have hpl : ps.length = (mt el.1 text 0 0).length := by rw [dps.len, List.length_map]
    refine k_forL (xs := ps) hlp (fun k σ H' => ∃ (y6 y7 : Option V), σ = [some (.str nm), some (.ref t), some (.ref e), some (.ref d), some (.ref o), some (.ref m), y6, y7, none] ∧
      Has (rm H3 d) [(d, .lst ((List.range text.length).map fun j => ov (((mt el.1 text 0 0).take k).foldl (o1 el.2) ((es.take i).foldl (oE text) (fun _ => none)) j)))] H') ⟨y6, y7, rfl, hB⟩ ?_ ?_ ?_
    · rintro k σ H' hk ⟨y6, y7, rfl, hA⟩
      walk_at "h"
    · rintro k v σ H4 hv ⟨y6, y7, rfl, hC⟩
      obtain ⟨dd, hd, dv⟩ := dps'.get hv
      rw [List.getElem?_map] at hd
      obtain ⟨pr, hpr, rfl⟩ := Option.map_eq_some_iff.mp hd
      have hlt := mt_lt _ _ _ _ _ (List.mem_of_getElem? hpr)
      obtain ⟨T2, rfl, hT2⟩ := prd_inv dv
      walk_at "gg"
      generalize hfo : ((mt el.1 text 0 0).take k).foldl (o1 el.2) ((es.take i).foldl (oE text) (fun _ => none)) = fo at hC
      have stp : ((mt el.1 text 0 0).take (k + 1)).foldl (o1 el.2) ((es.take i).foldl (oE text) (fun _ => none)) = o1 el.2 fo pr := by rw [take_foldl hpr, hfo]
      refine g_ixV (by walk_at "h") (by omega) (by rw [List.length_map, List.length_range]; omega) (fun v hv => ?_)
      have hv2 : v = ov (fo pr.2) := by
        rw [List.getElem?_map, List.getElem?_range (by omega)] at hv
        exact (Option.some.inj hv).symm
      subst hv2
      walk_at "gg"
      refine i_d (fun z => ?_) (fun z => ?_)
      · have fn : fo pr.2 = none := by
          cases h : fo pr.2 with
          | none => rfl
          | some _ => rw [h] at z; cases z
        walk_at "gg"
        refine g_ixZ (by walk_at "h") (by omega) (by have := eok.2.1; omega) (fun y hy => ?_)
        walk_at "gg"
        refine g_stL (j := pr.2) hC (by walk_at "c") (by rw [ixN_nat (by omega) (by rw [List.length_map, List.length_range]; omega)]; rfl) (fun H5 h5 => ?_)
        refine ⟨_, _, rfl, ?_⟩
        rw [stp]
        have ee : ((List.range text.length).map fun j => ov (fo j)).set pr.2 (V.str y) = (List.range text.length).map fun j => ov (o1 el.2 fo pr j) := by
          apply List.ext_getElem?
          intro j
          by_cases e : pr.2 = j
          · subst e
            rw [List.getElem?_set_self (by rw [List.length_map, List.length_range]; omega), List.getElem?_map, List.getElem?_range (by omega)]
            have hy' : el.2[pr.1]? = some y := hy
            show some (V.str y) = some (ov (o1 el.2 fo pr pr.2))
            unfold o1
            rw [if_pos ⟨rfl, fn⟩, hy']
            rfl
          · rw [List.getElem?_set_ne e, List.getElem?_map, List.getElem?_map]
            by_cases hj : j < text.length
            · rw [List.getElem?_range hj]
              show some (ov (fo j)) = some (ov (o1 el.2 fo pr j))
              unfold o1
              rw [if_neg (fun z => e z.1.symm)]
            · rw [List.getElem?_eq_none (by rw [List.length_range]; omega)]
              rfl
        rw [ee] at h5
        exact h5
      · walk_at "gg"
        refine ⟨_, _, rfl, ?_⟩
        rw [stp]
        have ee : o1 el.2 fo pr = fo := by
          funext j
          unfold o1
          rw [if_neg]
          rintro ⟨rfl, z'⟩
          exact z (by rw [z']; rfl)
        rw [ee]
        exact hC
    · rintro σ H4 ⟨y6, y7, rfl, hC⟩
      refine ⟨_, _, _, _, rfl, ?_⟩
      rw [hpl, List.take_length] at hC
      rw [take_foldl hel2]
      exact hC.mono sF
  · rintro σ H2 ⟨y4, y5, y6, y7, rfl, hA⟩
    rw [hul, List.take_length] at hA
    walk_at "gg"
    refine k_lcL (xs := (List.range text.length).map fun j => ov (oAll text es j)) (by walk_at "h") hA (fun i acc F' O' => acc = ((List.range i).map fun j => V.str ((oAll text es j).getD nm)) ∧ H = F' ∧ O' = [(d, .lst ((List.range text.length).map fun j => ov (oAll text es j)))]) ⟨rfl, rfl, rfl⟩ ?_ ?_ ?_
    · rintro i acc F' O' H3 ⟨rfl, rfl, rfl⟩ hh
      walk_at "h"
    · rintro i x acc F' O' D H3 hx ⟨rfl, rfl, rfl⟩ hh
      have hil : i < text.length := by have := (List.getElem?_eq_some_iff.mp hx).1; rw [List.length_map, List.length_range] at this; exact this
      rw [List.getElem?_map, List.getElem?_range hil] at hx
      have hx' := (Option.some.inj hx).symm
      subst hx'
      have key : ∀ z : Str, (oAll text es i).getD nm = z → kTurn D (kNx (fun i acc F' O' => acc = ((List.range i).map fun j => V.str ((oAll text es j).getD nm)) ∧ H = F' ∧ O' = [(d, .lst ((List.range text.length).map fun j => ov (oAll text es j)))]) i D) (.str z) H3 := fun z hz => by
        refine k_turn hh (by rw [List.length_map, List.length_range]; omega) ⟨?_, rfl, rfl⟩
        rw [List.range_succ, List.map_append, ← hz]
        rfl
      walk_at "gg"
      refine i_d (fun z => ?_) (fun z => ?_)
      · walk_at "gg"
        refine key nm ?_
        cases h : oAll text es i with
        | none => rfl
        | some _ => rw [h] at z; cases z
      · walk_at "gg"
        cases h : oAll text es i with
        | none => exact (z (by rw [h]; rfl)).elim
        | some s => exact key s (by rw [h]; rfl)
    · rintro acc F' O' D H3 ⟨rfl, rfl, rfl⟩ hh
      rw [List.length_map, List.length_range] at hh
      refine q D H3 hh.same hh.free ?_
      rw [hh.get (List.Mem.head _)]
      unfold orig
      rw [List.map_map]
      rfl

def OkF (fo : Nat → Option Str) : Prop := ∀ j s, fo j = some s → PyData.strOk s = true
theorem foldl_ok {α β : Type} {f : β → α → β} (P : β → Prop) : ∀ (l : List α) (z : β), P z → (∀ b x, x ∈ l → P b → P (f b x)) → P (l.foldl f z)
  | [], _, h, _ => h
  | x :: l, z, h, s => foldl_ok P l (f z x) (s z x List.mem_cons_self h) fun b y hy => s b y (List.mem_cons_of_mem _ hy)
theorem o1_ok {marks : List Str} (hm : ∀ x ∈ marks, PyData.strOk x = true) {fo : Nat → Option Str} (h : OkF fo) (p : Nat × Nat) : OkF (o1 marks fo p) := fun j s e => by
  unfold o1 at e
  split at e
  · exact hm s (List.mem_of_getElem? e)
  · exact h j s e
theorem orig_ok {nm : Str} {text : List Str} {es : List (List Str × List Str)} (hn : PyData.strOk nm = true) (he : ∀ e ∈ es, EldOk e) : ∀ x ∈ orig nm text es, PyData.strOk x = true := fun x hx => by
  obtain ⟨j, _, rfl⟩ := List.mem_map.mp hx
  have h : OkF (oAll text es) := foldl_ok OkF es _ (fun j s e => by cases e) fun fo e hm h => foldl_ok OkF _ _ h fun fo p _ h => o1_ok (he e hm).2.2.2 h p
  cases e : oAll text es j with
  | none => exact hn
  | some s => exact h j s e
theorem eld_sh {e : List Str × List Str} (h : EldOk e) : Sh 2 (eld e) := Sh.tuple fun d hd => by
  rcases List.mem_cons.mp hd with rfl | hd
  · exact Sh.strs h.2.2.1
  · rw [List.mem_singleton.mp hd]
    exact Sh.strs h.2.2.2
theorem elds_sh {es : List (List Str × List Str)} (h : ∀ e ∈ es, EldOk e) : Sh 3 (.list (es.map eld)) := Sh.list fun d hd => by
  obtain ⟨e, he, rfl⟩ := List.mem_map.mp hd
  exact eld_sh (h e he)
def sp_l_good (K : PySem.W.Frag) : Sp := fun vs H Q _ => ∃ (nm : Str) (t e : Addr) (text : List Str) (us : List V) (es : List (List Str × List Str)), vs = [.str nm, .ref t, .ref e] ∧ H t = some (.lst (text.map V.str)) ∧ text.length ≤ 50 ∧ H e = some (.lst us) ∧ DqAll H us (es.map eld) ∧
  es.length ≤ 50 ∧ (∀ x ∈ es, EldOk x) ∧ PyData.strOk nm = true ∧ (∀ x ∈ text, PyData.strOk x = true) ∧ ∀ H', Same H H' → Q (.bl true) H'
theorem sp_l_good_len {vs H Q E} (h : sp_l_good K vs H Q E) : vs.length = 3 := by
  obtain ⟨_, _, _, _, _, _, rfl, _⟩ := h
  rfl
theorem ok_l_good (T : Txt K mg) : FnOk P w K mg base CX0 4 T.f_l_good T.fd_l_good ["name", "text", "elders"] (sp_l_good K) := by
  refine T.F_l_good.ok sc_l_good (fun vs H Q E h => sp_l_good_len h) (fun cdv A outer s H vs Q E hr h => ?_)
  refine ⟨_, (pss_cons (ps_set (i := 3) sc_l_good.nd rfl (.inl rfl) (pe_call (ok_l_own_lines T) (hr.mono (by decide)) (by rfl) T.g_l_own_lines T.F_l_own_lines.kp T.b_l_own_lines .nil pass0 (pa_cons (pv 0) (pa_cons (pv 1) (pa_cons (pv 2) pa_nil)))))
      (pss_cons (ps_set (i := 4) sc_l_good.nd rfl (.inl rfl) (pe_callTy (cr_listK K) (by rfl) T.m_list (by decide +kernel) (pa_cons (pv 1) pa_nil)))
      (pss_cons (ps_setLc (i := 5) (own := [("old", 7), ("marks", 8)]) (g := gTup K 2 (gCons (gName 7) (gCons (gName 8) gNil))) (tt := tYes) rfl sc_l_good.nd rfl rfl (sw_true rfl rfl rfl (by decide +kernel)) (k_il K (pi_list (pv 2))) (blkOk_by (N := n_l_good) (sc := defScope s_l_good) (by decide +kernel)) (fun _ _ _ _ _ => (k_gt K (pg_tup (by rfl) (pgs_cons (pg_name (i := 7) sc_l_good.nd rfl (.inl rfl)) (pgs_cons (pg_name (i := 8) sc_l_good.nd rfl (.inl rfl)) pgs_nil))))) (fun _ _ _ _ _ => pts_nil) (fun _ _ _ _ _ => (pe_tup (pa_cons (pe_callTy (cr_listK K) (by rfl) T.m_list (by decide +kernel) (pa_cons (pv 7) pa_nil)) (pa_cons (pe_callTy (cr_listK K) (by rfl) T.m_list (by decide +kernel) (pa_cons (pv 8) pa_nil)) pa_nil)))))
      (pss_cons (ps_set (i := 6) sc_l_good.nd rfl (.inl rfl) (pe_call (ok_line_origins T) (hr.mono (by decide)) (by rfl) T.g_line_origins T.F_line_origins.kp T.b_line_origins .nil pass0 (pa_cons (pv 0) (pa_cons (pv 4) (pa_cons (pv 5) pa_nil)))))
      (pss_cons (ps_if (PW.pt (pw_or (pt_cmpR (op_neK K hr.units) (pv 6) (pv 3) (nomark _)) (pw_or (pt_cmpR (op_neK K hr.units) (pv 4) (pv 1) (nomark _)) (pw_or1 (pt_cmpR (op_neK K hr.units) (pv 5) (pv 2) (nomark _)))))) (pss_one (ps_ret pe_bl)) pss_nil)
      (pss_cons (ps_expr (k_bm K (pe_bm PySem.F.plainAttrs_list PySem.F.slot_list_append PySem.F.type_list_append mt_append (pv 6) (pa_cons pe_str pa_nil))))
      (pss_one (ps_ret (pe_cmpR (op_eqK K hr.units) (pe_call (ok_line_origins T) (hr.mono (by decide)) (by rfl) T.g_line_origins T.F_line_origins.kp T.b_line_origins .nil pass0 (pa_cons (pv 0) (pa_cons (pv 4) (pa_cons (pv 5) pa_nil)))) (pv 3) (nomark _)))))))))), ?_⟩
  obtain ⟨nm, t, e, text, us, es, rfl, ht, htl, he, dq, hel, hes, hnm, htx, q⟩ := h
  refine g_start (σ' := [some (.str nm), some (.ref t), some (.ref e), none, none, none, none, none, none]) rfl ?_
  have hul : us.length = es.length := by rw [dq.len, List.length_map]
  walk_at "gg"
  refine ⟨nm, t, e, text, us, es, rfl, ht, htl, he, dq, hel, hes, fun d H1 s1 n1 hd => ?_⟩
  have hA := Has.start H1
  have ht1 := s1 _ _ ht
  have he1 := s1 _ _ he
  have dq1 := dq.up s1 _ _
  walk_at "gg"
  refine g_listL (by walk_at "h") hA (fun sn H2 n2 hB => ?_)
  walk_at "gg"
  refine k_lcL (xs := us) (by walk_at "h") hB (fun i acc F' O' => DqAll F' acc ((es.take i).map eld) ∧ Same H1 F' ∧ O' = [(sn, .lst (text.map V.str))]) ⟨.nil, Same.refl _, rfl⟩ ?_ ?_ ?_
  · rintro i acc F' O' H3 ⟨dq', sF, rfl⟩ hh
    exact hh.same _ _ (sF _ _ he1)
  · rintro i x acc F' O' D H3 hx ⟨dq', sF, rfl⟩ hh
    obtain ⟨dd, hdd, dv⟩ := dq1.get hx
    rw [List.getElem?_map] at hdd
    obtain ⟨el, hel2, rfl⟩ := Option.map_eq_some_iff.mp hdd
    have hil : i < es.length := (List.getElem?_eq_some_iff.mp hel2).1
    obtain ⟨T, o, m, rfl, hT, ho, hm⟩ := eld_inv dv
    have hT' := sF _ _ hT
    have ho' := sF _ _ ho
    have hm' := sF _ _ hm
    walk_at "gg"
    refine g_listL (by walk_at "h") hh (fun l1 H4 n4 h4 => ?_)
    walk_at "gg"
    refine g_listL (by walk_at "h") h4 (fun l2 H5 n5 h5 => ?_)
    walk_at "gg"
    refine g_ktup (by walk_at "sz") h5 (fun T2 H6 n6 h6 => ?_)
    have h7 := h6.frz
    have h8 := h7.frz
    have h9 := h8.frz
    have s6 := h6.grow
    have s7 := h7.grow
    have s8 := h8.grow
    have hal : acc.length = i := by rw [dq'.len, List.length_map, List.length_take]; omega
    refine k_turn h9 (by omega) ⟨?_, sF.trans ((s6.trans s7).trans s8), rfl⟩
    rw [List.take_add_one, hel2, List.map_append]
    refine (dq'.up ((s6.trans s7).trans s8) _ _).snoc ?_
    exact .tup ((s7.trans s8) _ _ upd_same) (.cons (Dq.strs upd_same) (.cons (Dq.strs (s8 _ _ upd_same)) .nil))
  · rintro acc F' O' D H3 ⟨dq', sF, rfl⟩ hh
    rw [hul, List.take_length] at dq'
    walk_at "gg"
    have s13 : Same H1 H3 := sF.trans hh.same
    have hsn : H3 sn = some (.lst (text.map V.str)) := by walk_at "h"
    have hD : H3 D = some (.lst acc) := by walk_at "h"
    have dq3 := dq'.up hh.same _ _
    refine ⟨nm, sn, D, text, acc, es, rfl, hsn, htl, hD, dq3, hel, hes, fun p H4 s4 n4 hp => ?_⟩
    have hC := (Has.start H3).made n4 s4 hp
    have hok := orig_ok (text := text) hnm hes
    have hd3 := s13 _ _ hd
    have ht3 := s13 _ _ ht1
    have he3 := s13 _ _ he1
    have dqe3 := dq1.up s13 _ _
    walk_at "gg"
    refine g_neD (Dq.strs (by walk_at "h")) (Dq.strs (xs := orig nm text es) (by walk_at "h")) ((Sh.strs (n := 0) hok).ok (by decide)) ((Sh.strs (n := 0) hok).ok (by decide)) ?_
    rw [eqv_strs]
    walk_at "gg"
    refine i_n (fun z => (z rfl).elim) (fun _ => ?_)
    walk_at "gg"
    refine g_neD (Dq.strs (by walk_at "h")) (Dq.strs (xs := text) (by walk_at "h")) ((Sh.strs (n := 0) htx).ok (by decide)) ((Sh.strs (n := 0) htx).ok (by decide)) ?_
    rw [eqv_strs]
    walk_at "gg"
    refine i_n (fun z => (z rfl).elim) (fun _ => ?_)
    walk_at "gg"
    refine g_neD (.lst (by walk_at "h") (dq3.up hC.same _ _)) (.lst (by walk_at "h") (dqe3.up hC.same _ _)) ((elds_sh hes).ok (by decide)) ((elds_sh hes).ok (by decide)) ?_
    rw [SeqAt.eqv_refl _ (elds_sh hes).1]
    walk_at "gg"
    refine i_nb (fun z => (Bool.noConfusion z)) (fun _ => ?_)
    walk_at "gg"
    refine g_append hC (by walk_at "c") (szl (by unfold orig; rw [List.length_map, List.length_map, List.length_range]; omega)) (fun H5 hE => ?_)
    walk_at "gg"
    refine ⟨nm, sn, D, text, acc, es, rfl, by walk_at "h", htl, by walk_at "h", dq3.up hE.same _ _, hel, hes, fun p2 H6 s6 n6 hp2 => ?_⟩
    walk_at "gg"
    refine g_eqD (Dq.strs hp2) (Dq.strs (xs := orig nm text es) (s6 _ _ (hE.same _ _ hd3))) ((Sh.strs (n := 0) hok).ok (by decide)) ((Sh.strs (n := 0) hok).ok (by decide)) ?_
    rw [eqv_strs, decide_eq_true rfl]
    exact q H6 (s1.trans (s13.trans (hE.same.trans s6)))
def sp_law (K : PySem.W.Frag) : Sp := fun vs H Q _ => ∃ (a : Addr) (ns : List Int), vs = [.ref a] ∧ SqL K H a (ns.map V.int) ∧ ns.length ≤ 63 ∧ ∀ H', Q (.bl true) H'
theorem sp_law_len {vs H Q E} (h : sp_law K vs H Q E) : vs.length = 1 := by
  obtain ⟨_, _, rfl, _⟩ := h
  rfl
theorem sp_law_start {H : Hp} {a : Addr} {ns : List Int} (hl : ns.length ≤ 63) (hS : SqL K H a (ns.map V.int)) : sp_law K [.ref a] H (fun v _ => v = .bl true) (fun _ _ _ => False) := ⟨a, ns, rfl, hS, hl, fun _ => rfl⟩
theorem ok_law (T : Txt K mg) : FnOk P w K mg base CX0 5 T.f_law T.fd_law ["script"] (sp_law K) := by
  refine T.F_law.ok sc_law (fun vs H Q E h => sp_law_len h) (fun cdv A outer s H vs Q E hr h => ?_)
  refine ⟨_, (pss_cons (ps_set (i := 1) sc_law.nd rfl (.inl rfl) (pe_call (ok_l_feed T) (hr.mono (by decide)) (by rfl) T.g_l_feed T.F_l_feed.kp T.b_l_feed .nil pass0 (pa_cons (pv 0) pa_nil)))
      (pss_cons (ps_set (i := 2) sc_law.nd rfl (.inl rfl) (pe_ix (ix_K K) (pe_lst (pa_cons pe_str (pa_cons pe_str (pa_cons pe_str pa_nil)))) (pe_call (ok_l_next T) (hr.mono (by decide)) (by rfl) T.g_l_next T.F_l_next.kp T.b_l_next .nil pass0 (pa_cons (pv 1) (pa_cons pe_int pa_nil))) (fun _ _ => rfl)))
      (pss_cons (ps_set (i := 3) sc_law.nd rfl (.inl rfl) (pe_call (ok_l_new_lines T) (hr.mono (by decide)) (by rfl) T.g_l_new_lines T.F_l_new_lines.kp T.b_l_new_lines .nil pass0 (pa_cons (pv 1) pa_nil)))
      (pss_cons (ps_set (i := 4) sc_law.nd rfl (.inl rfl) (pe_call (ok_l_new_text T) (hr.mono (by decide)) (by rfl) T.g_l_new_text T.F_l_new_text.kp T.b_l_new_text .nil pass0 (pa_cons (pv 1) (pa_cons (pv 3) (pa_cons pe_int (pa_cons pe_int pa_nil))))))
      (pss_cons (ps_set (i := 5) sc_law.nd rfl (.inl rfl) (pe_call (ok_l_new_elders T) (hr.mono (by decide)) (by rfl) T.g_l_new_elders T.F_l_new_elders.kp T.b_l_new_elders .nil pass0 (pa_cons (pv 1) (pa_cons (pv 2) (pa_cons (pv 3) pa_nil)))))
      (pss_cons (ps_if (pt_not (pt_val (pe_call (ok_l_good T) (hr.mono (by decide)) (by rfl) T.g_l_good T.F_l_good.kp T.b_l_good .nil pass0 (pa_cons (pv 2) (pa_cons (pv 4) (pa_cons (pv 5) pa_nil)))))) (pss_one (ps_ret pe_bl)) pss_nil)
      (pss_cons (ps_if (pt_not (pt_val (pe_call (ok_l_good T) (hr.mono (by decide)) (by rfl) T.g_l_good T.F_l_good.kp T.b_l_good .nil pass0 (pa_cons (pv 2) (pa_cons (pv 4) (pa_cons (k_rev K (pe_revL (pv 5))) pa_nil)))))) (pss_one (ps_ret pe_bl)) pss_nil)
      (pss_cons (ps_if (PW.pt (pw_or (pt_not (pt_val (pe_call (ok_l_good T) (hr.mono (by decide)) (by rfl) T.g_l_good T.F_l_good.kp T.b_l_good .nil pass0 (pa_cons (pv 2) (pa_cons (pv 4) (pa_cons (pe_lst pa_nil) pa_nil)))))) (pw_or1 (pt_not (pt_val (pe_call (ok_l_good T) (hr.mono (by decide)) (by rfl) T.g_l_good T.F_l_good.kp T.b_l_good .nil pass0 (pa_cons (pv 2) (pa_cons (pe_lst pa_nil) (pa_cons (pv 5) pa_nil))))))))) (pss_one (ps_ret pe_bl)) pss_nil)
      (pss_one (ps_ret (pe_call (ok_l_good T) (hr.mono (by decide)) (by rfl) T.g_l_good T.F_l_good.kp T.b_l_good .nil pass0 (pa_cons pe_str (pa_cons (pv 4) (pa_cons (pv 5) pa_nil)))))))))))))), ?_⟩
  obtain ⟨a, ns, rfl, hS, hl, q⟩ := h
  refine g_start (σ' := [some (.ref a), none, none, none, none, none]) rfl ?_
  walk_at "gg"
  refine ⟨a, ns, rfl, hS, hl, fun f H1 ms n1 s1 hf hml => ?_⟩
  have hA := (Has.start H).made n1 s1 hf
  walk_at "gg"
  refine g_klst (by walk_at "sz") hA (fun u H2 n2 hB => ?_)
  walk_at "gg"
  refine ⟨f, _, 3, rfl, hB.get (by walk_at "m"), by simp, by simp; omega, by decide, by decide, fun H3 ns3 r hb3 hf3 l0 l1 r0 r1 => ?_⟩
  have hC := hB.but (by walk_at "c") hb3 hf3
  walk_at "gg"
  refine g_ixM (by walk_at "h") (by decide +kernel) r0 (by show r < 3; exact r1) (fun nm hnm => ?_)
  walk_at "gg"
  refine ⟨f, ns3, rfl, by walk_at "h", l0, l1, fun l H4 ns4 ls hb4 n4 hf4 l40 l41 hl4 hll hlok => ?_⟩
  have hD := hC.but2 (by walk_at "c") hb4 hf4 n4 hl4
  walk_at "gg"
  refine ⟨f, l, ns4, ls, 0, 6, rfl, by walk_at "h", l40, l41, by walk_at "h", fun z => (by rw [z, hC.get (by walk_at "m")] at n4; cases n4), hll, hlok, by decide, by decide, fun t H5 ns5 text hb5 n5 hf5 l50 l51 ht htl htx => ?_⟩
  have hE := hD.but2 (by walk_at "c") hb5 hf5 n5 ht
  walk_at "gg"
  refine ⟨f, l, ns5, nm, ls, rfl, by walk_at "h", l50, l51, hnm, by walk_at "h", fun z => (by rw [z, hC.get (by walk_at "m")] at n4; cases n4), hll, hlok, fun e H6 us es hb6 n6 he dq hel hes => ?_⟩
  have ntf : t ≠ f := fun z => (by rw [z, hD.get (by walk_at "m")] at n5; cases n5)
  have ht6 := hb6 _ _ ntf ht
  walk_at "gg"
  refine ⟨nm, t, e, text, us, es, rfl, ht6, htl, he, dq, hel, hes, hnm, htx, fun H7 s7 => ?_⟩
  walk_at "gg"
  refine i_nb (fun z => (Bool.noConfusion z)) (fun _ => ?_)
  have hF := (Has.start H6).on s7
  walk_at "gg"
  refine g_rRev (xs := us) (by walk_at "h") hF (fun e2 H8 n8 hG => ?_)
  walk_at "gg"
  have dqr : DqAll H6 us.reverse (es.reverse.map eld) := by rw [List.map_reverse]; exact dq.rev
  refine ⟨nm, t, e2, text, us.reverse, es.reverse, rfl, by walk_at "h", htl, by walk_at "h", dqr.up hG.same _ _, by rw [List.length_reverse]; exact hel, fun x hx => hes x (List.mem_reverse.mp hx), hnm, htx, fun H9 s9 => ?_⟩
  have hI := hG.on s9
  walk_at "gg"
  refine i_nb (fun z => (Bool.noConfusion z)) (fun _ => ?_)
  walk_at "gg"
  refine g_klst (by walk_at "sz") hI (fun e3 H10 n10 hJ => ?_)
  walk_at "gg"
  refine ⟨nm, t, e3, text, [], [], rfl, by walk_at "h", htl, by walk_at "h", .nil, by simp, by simp, hnm, htx, fun H11 s11 => ?_⟩
  have hK := hJ.on s11
  walk_at "gg"
  refine i_nb (fun z => (Bool.noConfusion z)) (fun _ => ?_)
  walk_at "gg"
  refine g_klst (by walk_at "sz") hK (fun t4 H12 n12 hL => ?_)
  walk_at "gg"
  refine ⟨nm, t4, e, [], us, es, rfl, by walk_at "h", by simp, by walk_at "h", dq.up hL.same _ _, hel, hes, hnm, by simp, fun H13 s13 => ?_⟩
  have hM := hL.on s13
  walk_at "gg"
  refine i_nb (fun z => (Bool.noConfusion z)) (fun _ => ?_)
  walk_at "gg"
  refine ⟨_, t, e, text, us, es, rfl, by walk_at "h", htl, by walk_at "h", dq.up hM.same _ _, hel, hes, by decide +kernel, htx, fun H14 s14 => ?_⟩
  exact q H14
end
theorem all_mk {l : PySem.W.OpenLaw} {w : World} {K : PySem.W.Frag} {h : Heap} {mg : Str → Option Value} {fa f1 f2 f3 f4 f5 f6 f7 f8 f9 f10 f11 f12 : Addr} (X : K.In h) (G : h.Ns mainGlobals mg) (hfa : mg "law" = some (.ref fa))
    {od1 an1 od2 an2 od3 an3 od4 an4 od5 an5 od6 an6 od7 an7 od8 an8 od9 an9 od10 an10 od11 an11 od12 an12 : Option Addr} {sl1 sl2 sl3 sl4 sl5 sl6 sl7 sl8 sl9 sl10 sl11 sl12 : Array (Option Value)} {oc1 kV1 dc1 pm1 cd1 ct1 oc2 kV2 dc2 pm2 cd2 ct2 oc3 kV3 dc3 pm3 cd3 ct3 oc4 kV4 dc4 pm4 cd4 ct4 oc5 kV5 dc5 pm5 cd5 ct5 oc6 kV6 dc6 pm6 cd6 ct6 oc7 kV7 dc7 pm7 cd7 ct7 oc8 kV8 dc8 pm8 cd8 ct8 oc9 kV9 dc9 pm9 cd9 ct9 oc10 kV10 dc10 pm10 cd10 ct10 oc11 kV11 dc11 pm11 cd11 ct11 oc12 kV12 dc12 pm12 cd12 ct12 : Value}
    (a1 : PySem.W.nsIn K mainGlobals "_common_lengths" = some (some (.ref f1))) (l1 : K.lookup f1 = some ⟨oc1, od1, .func (PySem.W.fnOf "_common_lengths" "_common_lengths" (defArgs s_common_lengths) (defBody s_common_lengths) (defScope s_common_lengths) .none kV1 dc1 pm1 an1 cd1 ct1), sl1⟩) (c1 : PySem.W.codeIn K cd1 "_common_lengths" = true) (k1 : PySem.W.keepIn K (.ref f1) = true)
    (a2 : PySem.W.nsIn K mainGlobals "matched" = some (some (.ref f2))) (l2 : K.lookup f2 = some ⟨oc2, od2, .func (PySem.W.fnOf "matched" "matched" (defArgs s_matched) (defBody s_matched) (defScope s_matched) .none kV2 dc2 pm2 an2 cd2 ct2), sl2⟩) (c2 : PySem.W.codeIn K cd2 "matched" = true) (k2 : PySem.W.keepIn K (.ref f2) = true)
    (a3 : PySem.W.nsIn K mainGlobals "line_origins" = some (some (.ref f3))) (l3 : K.lookup f3 = some ⟨oc3, od3, .func (PySem.W.fnOf "line_origins" "line_origins" (defArgs s_line_origins) (defBody s_line_origins) (defScope s_line_origins) .none kV3 dc3 pm3 an3 cd3 ct3), sl3⟩) (c3 : PySem.W.codeIn K cd3 "line_origins" = true) (k3 : PySem.W.keepIn K (.ref f3) = true)
    (a4 : PySem.W.nsIn K mainGlobals "_law_feed" = some (some (.ref f4))) (l4 : K.lookup f4 = some ⟨oc4, od4, .func (PySem.W.fnOf "_law_feed" "_law_feed" (defArgs s_l_feed) (defBody s_l_feed) (defScope s_l_feed) .none kV4 dc4 pm4 an4 cd4 ct4), sl4⟩) (c4 : PySem.W.codeIn K cd4 "_law_feed" = true) (k4 : PySem.W.keepIn K (.ref f4) = true)
    (a5 : PySem.W.nsIn K mainGlobals "_law_next" = some (some (.ref f5))) (l5 : K.lookup f5 = some ⟨oc5, od5, .func (PySem.W.fnOf "_law_next" "_law_next" (defArgs s_l_next) (defBody s_l_next) (defScope s_l_next) .none kV5 dc5 pm5 an5 cd5 ct5), sl5⟩) (c5 : PySem.W.codeIn K cd5 "_law_next" = true) (k5 : PySem.W.keepIn K (.ref f5) = true)
    (a6 : PySem.W.nsIn K mainGlobals "_law_matched" = some (some (.ref f6))) (l6 : K.lookup f6 = some ⟨oc6, od6, .func (PySem.W.fnOf "_law_matched" "_law_matched" (defArgs s_l_matched) (defBody s_l_matched) (defScope s_l_matched) .none kV6 dc6 pm6 an6 cd6 ct6), sl6⟩) (c6 : PySem.W.codeIn K cd6 "_law_matched" = true) (k6 : PySem.W.keepIn K (.ref f6) = true)
    (a7 : PySem.W.nsIn K mainGlobals "_law_new_lines" = some (some (.ref f7))) (l7 : K.lookup f7 = some ⟨oc7, od7, .func (PySem.W.fnOf "_law_new_lines" "_law_new_lines" (defArgs s_l_new_lines) (defBody s_l_new_lines) (defScope s_l_new_lines) .none kV7 dc7 pm7 an7 cd7 ct7), sl7⟩) (c7 : PySem.W.codeIn K cd7 "_law_new_lines" = true) (k7 : PySem.W.keepIn K (.ref f7) = true)
    (a8 : PySem.W.nsIn K mainGlobals "_law_new_text" = some (some (.ref f8))) (l8 : K.lookup f8 = some ⟨oc8, od8, .func (PySem.W.fnOf "_law_new_text" "_law_new_text" (defArgs s_l_new_text) (defBody s_l_new_text) (defScope s_l_new_text) .none kV8 dc8 pm8 an8 cd8 ct8), sl8⟩) (c8 : PySem.W.codeIn K cd8 "_law_new_text" = true) (k8 : PySem.W.keepIn K (.ref f8) = true)
    (a9 : PySem.W.nsIn K mainGlobals "_law_new_elders" = some (some (.ref f9))) (l9 : K.lookup f9 = some ⟨oc9, od9, .func (PySem.W.fnOf "_law_new_elders" "_law_new_elders" (defArgs s_l_new_elders) (defBody s_l_new_elders) (defScope s_l_new_elders) .none kV9 dc9 pm9 an9 cd9 ct9), sl9⟩) (c9 : PySem.W.codeIn K cd9 "_law_new_elders" = true) (k9 : PySem.W.keepIn K (.ref f9) = true)
    (a10 : PySem.W.nsIn K mainGlobals "_law_own_lines" = some (some (.ref f10))) (l10 : K.lookup f10 = some ⟨oc10, od10, .func (PySem.W.fnOf "_law_own_lines" "_law_own_lines" (defArgs s_l_own_lines) (defBody s_l_own_lines) (defScope s_l_own_lines) .none kV10 dc10 pm10 an10 cd10 ct10), sl10⟩) (c10 : PySem.W.codeIn K cd10 "_law_own_lines" = true) (k10 : PySem.W.keepIn K (.ref f10) = true)
    (a11 : PySem.W.nsIn K mainGlobals "_law_good" = some (some (.ref f11))) (l11 : K.lookup f11 = some ⟨oc11, od11, .func (PySem.W.fnOf "_law_good" "_law_good" (defArgs s_l_good) (defBody s_l_good) (defScope s_l_good) .none kV11 dc11 pm11 an11 cd11 ct11), sl11⟩) (c11 : PySem.W.codeIn K cd11 "_law_good" = true) (k11 : PySem.W.keepIn K (.ref f11) = true)
    (a12 : PySem.W.nsIn K mainGlobals "law" = some (some (.ref f12))) (l12 : K.lookup f12 = some ⟨oc12, od12, .func (PySem.W.fnOf "law" "law" (defArgs s_law) (defBody s_law) (defScope s_law) .none kV12 dc12 pm12 an12 cd12 ct12), sl12⟩) (c12 : PySem.W.codeIn K cd12 "law" = true) (k12 : PySem.W.keepIn K (.ref f12) = true)
    (z_abs : PySem.W.nsIn K mainGlobals "abs" = some none)
    (z_int : PySem.W.nsIn K mainGlobals "int" = some none)
    (z_len : PySem.W.nsIn K mainGlobals "len" = some none)
    (z_list : PySem.W.nsIn K mainGlobals "list" = some none)
    (z_max : PySem.W.nsIn K mainGlobals "max" = some none)
    (z_range : PySem.W.nsIn K mainGlobals "range" = some none) :
    ∃ fd : FuncData, (∀ (s : Shared) (v : Value), BindsTo s fd ⟨[v], []⟩ [("script", v)]) ∧ ∀ base : Heap, K.In base → base.Ns mainGlobals mg → FnOk l.prog w K mg base CX0 5 fa fd ["script"] (sp_law K) := by
  have e := hfa.symm.trans (PySem.W.mg_of X G a12)
  cases e
  have F1 := fun_mk (st := s_common_lengths) l1 c1 k1
  have b1 := F1.binds (ps := ["old", "new"]) fun _ _ _ _ _ _ us hl => match us, hl with | [_, _], _ => rfl
  have F2 := fun_mk (st := s_matched) l2 c2 k2
  have b2 := F2.binds (ps := ["old", "new"]) fun _ _ _ _ _ _ us hl => match us, hl with | [_, _], _ => rfl
  have F3 := fun_mk (st := s_line_origins) l3 c3 k3
  have b3 := F3.binds (ps := ["name", "text", "elders"]) fun _ _ _ _ _ _ us hl => match us, hl with | [_, _, _], _ => rfl
  have F4 := fun_mk (st := s_l_feed) l4 c4 k4
  have b4 := F4.binds (ps := ["script"]) fun _ _ _ _ _ _ us hl => match us, hl with | [_], _ => rfl
  have F5 := fun_mk (st := s_l_next) l5 c5 k5
  have b5 := F5.binds (ps := ["feed", "many"]) fun _ _ _ _ _ _ us hl => match us, hl with | [_, _], _ => rfl
  have F6 := fun_mk (st := s_l_matched) l6 c6 k6
  have b6 := F6.binds (ps := ["old", "new"]) fun _ _ _ _ _ _ us hl => match us, hl with | [_, _], _ => rfl
  have F7 := fun_mk (st := s_l_new_lines) l7 c7 k7
  have b7 := F7.binds (ps := ["feed"]) fun _ _ _ _ _ _ us hl => match us, hl with | [_], _ => rfl
  have F8 := fun_mk (st := s_l_new_text) l8 c8 k8
  have b8 := F8.binds (ps := ["feed", "lines", "shift", "most"]) fun _ _ _ _ _ _ us hl => match us, hl with | [_, _, _, _], _ => rfl
  have F9 := fun_mk (st := s_l_new_elders) l9 c9 k9
  have b9 := F9.binds (ps := ["feed", "name", "lines"]) fun _ _ _ _ _ _ us hl => match us, hl with | [_, _, _], _ => rfl
  have F10 := fun_mk (st := s_l_own_lines) l10 c10 k10
  have b10 := F10.binds (ps := ["name", "text", "elders"]) fun _ _ _ _ _ _ us hl => match us, hl with | [_, _, _], _ => rfl
  have F11 := fun_mk (st := s_l_good) l11 c11 k11
  have b11 := F11.binds (ps := ["name", "text", "elders"]) fun _ _ _ _ _ _ us hl => match us, hl with | [_, _, _], _ => rfl
  have F12 := fun_mk (st := s_law) l12 c12 k12
  have b12 := F12.binds (ps := ["script"]) fun _ _ _ _ _ _ us hl => match us, hl with | [_], _ => rfl
  exact ⟨_, fun s v => .of_eq rfl, fun base _ _ => ok_law ⟨_, _, F1, PySem.W.mg_of X G a1, b1, _, _, F2, PySem.W.mg_of X G a2, b2, _, _, F3, PySem.W.mg_of X G a3, b3, _, _, F4, PySem.W.mg_of X G a4, b4, _, _, F5, PySem.W.mg_of X G a5, b5, _, _, F6, PySem.W.mg_of X G a6, b6, _, _, F7, PySem.W.mg_of X G a7, b7, _, _, F8, PySem.W.mg_of X G a8, b8, _, _, F9, PySem.W.mg_of X G a9, b9, _, _, F10, PySem.W.mg_of X G a10, b10, _, _, F11, PySem.W.mg_of X G a11, b11, _, _, F12, PySem.W.mg_of X G a12, b12, PySem.W.mg_none_of X G z_abs, PySem.W.mg_none_of X G z_int, PySem.W.mg_none_of X G z_len, PySem.W.mg_none_of X G z_list, PySem.W.mg_none_of X G z_max, PySem.W.mg_none_of X G z_range⟩⟩
end K38
open PySem PySem.W PyProof.Rows
set_option maxHeartbeats 0 in
theorem PySem.Challenge.cw_partclones_k38_line_origins_holds : PySem.Challenge.rw_partclones_k38_line_origins.Holds := by
  w_on; o_law; k_head; (case hw => w_witness2)
  k_fill
  refine L2.walk_of (l := PySem.Challenge.rw_partclones_k38_line_origins) (n := 63) (k := 5) (x := "script") (CX := fun _ => L2.CX0) (sp := fun w => K38.sp_law _) rfl (by decide) rfl ⟨rfl, by decide, by decide⟩ (fun w h Y => PySem.W.kIn_of Y) ?F (fun _ H a ns hl _ hS => K38.sp_law_start hl hS) (fun _ _ _ _ _ h => h)
  case F =>
    intro w mg fa h KX G hmg
    refine' K38.all_mk KX G hmg ?a1 ?l1 ?c1 ?k1 ?a2 ?l2 ?c2 ?k2 ?a3 ?l3 ?c3 ?k3 ?a4 ?l4 ?c4 ?k4 ?a5 ?l5 ?c5 ?k5 ?a6 ?l6 ?c6 ?k6 ?a7 ?l7 ?c7 ?k7 ?a8 ?l8 ?c8 ?k8 ?a9 ?l9 ?c9 ?k9 ?a10 ?l10 ?c10 ?k10 ?a11 ?l11 ?c11 ?k11 ?a12 ?l12 ?c12 ?k12 ?z_abs ?z_int ?z_len ?z_list ?z_max ?z_range
    (case a1 => k_is)
    (case l1 => k_is)
    (case c1 => k_is)
    (case k1 => k_is)
    (case a2 => k_is)
    (case l2 => k_is)
    (case c2 => k_is)
    (case k2 => k_is)
    (case a3 => k_is)
    (case l3 => k_is)
    (case c3 => k_is)
    (case k3 => k_is)
    (case a4 => k_is)
    (case l4 => k_is)
    (case c4 => k_is)
    (case k4 => k_is)
    (case a5 => k_is)
    (case l5 => k_is)
    (case c5 => k_is)
    (case k5 => k_is)
    (case a6 => k_is)
    (case l6 => k_is)
    (case c6 => k_is)
    (case k6 => k_is)
    (case a7 => k_is)
    (case l7 => k_is)
    (case c7 => k_is)
    (case k7 => k_is)
    (case a8 => k_is)
    (case l8 => k_is)
    (case c8 => k_is)
    (case k8 => k_is)
    (case a9 => k_is)
    (case l9 => k_is)
    (case c9 => k_is)
    (case k9 => k_is)
    (case a10 => k_is)
    (case l10 => k_is)
    (case c10 => k_is)
    (case k10 => k_is)
    (case a11 => k_is)
    (case l11 => k_is)
    (case c11 => k_is)
    (case k11 => k_is)
    (case a12 => k_is)
    (case l12 => k_is)
    (case c12 => k_is)
    (case k12 => k_is)
    (case z_abs => k_is)
    (case z_int => k_is)
    (case z_len => k_is)
    (case z_list => k_is)
    (case z_max => k_is)
    (case z_range => k_is)

