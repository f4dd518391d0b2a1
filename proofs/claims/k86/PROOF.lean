import PyProof.Rows.All
import Wide.All
import OpenK.AllK
import Wide.FinOn
import HandS.ForMost
import HandS.Small
import HandS.Style
import HandS.Flow
import HandS.Deep
import HandS.IsInst
import HandS.More
import HandS.Star
import HandS.TupAny
import KE.KExcIs
import HandS.ExcCtx
import HandS.ExcInit
import HandS.ExcField
import HandS.HotCalls
import HandS.Wide
import HandS.Ends
import PySem.Challenge.RW_partclones_k86_net_letters
set_option Elab.async false
set_option linter.all false
set_option maxRecDepth 100000
namespace Qk
open PySem PySem.Spec PyProof.Rows L2

/-! ### heaps -/
abbrev Own := List (Addr × HO)
structure Has (F : Hp) (O : Own) (H : Hp) : Prop where
  same : Same F H
  own : ∀ p ∈ O, F p.1 = none ∧ H p.1 = some p.2
  nd : (O.map (·.1)).Nodup

/-- O with the object at a changed from o to o' -/
inductive Chg : Own → Addr → HO → HO → Own → Prop
  | hd {a : Addr} {o o' : HO} {O : Own} : Chg ((a, o) :: O) a o o' ((a, o') :: O)
  | tl {a : Addr} {o o' : HO} {O O' : Own} {x : Addr × HO} : Chg O a o o' O' → Chg (x :: O) a o o' (x :: O')
theorem Chg.mem {O O' : Own} {a : Addr} {o o' : HO} (c : Chg O a o o' O') : (a, o) ∈ O := by
  induction c with
  | hd => exact List.Mem.head _
  | tl _ ih => exact List.Mem.tail _ ih
theorem Chg.fst {O O' : Own} {a : Addr} {o o' : HO} (c : Chg O a o o' O') : O'.map (·.1) = O.map (·.1) := by
  induction c with
  | hd => rfl
  | tl _ ih => rw [List.map_cons, List.map_cons, ih]
theorem Chg.own {O O' : Own} {a : Addr} {o o' : HO} (c : Chg O a o o' O') (nd : (O.map (·.1)).Nodup) : ∀ p ∈ O', p = (a, o') ∨ (p ∈ O ∧ p.1 ≠ a) := by
  induction c with
  | @hd a o o' O =>
    intro p hp
    rw [List.map_cons] at nd
    have nm := (List.nodup_cons.mp nd).1
    rcases List.mem_cons.mp hp with e | hp
    · exact .inl e
    · refine .inr ⟨List.mem_cons_of_mem _ hp, fun e => nm ?_⟩
      exact List.mem_map.mpr ⟨p, hp, e⟩
  | @tl a o o' O O' x c ih =>
    intro p hp
    rw [List.map_cons] at nd
    have nm := List.nodup_cons.mp nd
    rcases List.mem_cons.mp hp with e | hp
    · subst e
      refine .inr ⟨List.mem_cons_self, fun e => nm.1 ?_⟩
      rw [e]
      exact List.mem_map.mpr ⟨_, c.mem, rfl⟩
    · rcases ih nm.2 p hp with e | ⟨e, ne⟩
      · exact .inl e
      · exact .inr ⟨List.mem_cons_of_mem _ e, ne⟩

section
variable {F F' : Hp} {O O' : Own} {H H' : Hp} {a p : Addr} {o o' : HO} {K : PySem.W.Frag} {xs : List V}
theorem Has.start (H : Hp) : Has H [] H := ⟨Same.refl H, fun _ h => (List.not_mem_nil h).elim, List.nodup_nil⟩
theorem Has.get (h : Has F O H) (m : (a, o) ∈ O) : H a = some o := (h.own _ m).2
theorem Has.but (h : Has F O H) (c : Chg O a o o' O') (s : ∀ b u, b ≠ a → H b = some u → H' b = some u) (e : H' a = some o') : Has F O' H' := by
  have fa : F a = none := (h.own _ c.mem).1
  refine ⟨fun b u q => s b u (fun z => by rw [z, fa] at q; cases q) (h.same b u q), fun q hq => ?_, by rw [c.fst]; exact h.nd⟩
  rcases c.own h.nd q hq with rfl | ⟨m, ne⟩
  · exact ⟨fa, e⟩
  · exact ⟨(h.own _ m).1, s _ _ ne (h.own _ m).2⟩
theorem Has.put (h : Has F O H) (c : Chg O a o o' O') : Has F O' (upd H a o') := h.but c (fun b u ne q => by rw [upd_ne ne]; exact q) upd_same
theorem Has.on (h : Has F O H) (s : Same H H') : Has F O H' := ⟨h.same.trans s, fun q hq => ⟨(h.own q hq).1, s _ _ (h.own q hq).2⟩, h.nd⟩
theorem Has.made (h : Has F O H) (n : H p = none) (s : Same H H') (e : H' p = some o) : Has F ((p, o) :: O) H' := by
  refine ⟨h.same.trans s, fun q hq => ?_, ?_⟩
  · rcases List.mem_cons.mp hq with rfl | hq
    · exact ⟨h.same.free n, e⟩
    · exact ⟨(h.own q hq).1, s _ _ (h.own q hq).2⟩
  · rw [List.map_cons]
    refine List.nodup_cons.mpr ⟨fun m => ?_, h.nd⟩
    obtain ⟨q, hq, e'⟩ := List.mem_map.mp m
    have z := (h.own q hq).2
    rw [e', n] at z
    cases z
theorem same_upd (n : H p = none) : Same H (upd H p o) := fun b u q => by
  rw [upd_ne (ne_of_none q n)]
  exact q
theorem Has.new (h : Has F O H) (n : H p = none) : Has F ((p, o) :: O) (upd H p o) := h.made n (same_upd n) upd_same
theorem Has.drop {x : Addr × HO} (h : Has F (x :: O) H) : Has F O H := ⟨h.same, fun q hq => h.own q (List.mem_cons_of_mem _ hq), (List.nodup_cons.mp (by have := h.nd; rw [List.map_cons] at this; exact this)).2⟩
theorem Has.sub (h : Has F O H) (s : O'.Sublist O) : Has F O' H := ⟨h.same, fun q hq => h.own q (s.subset hq), (s.map _).nodup h.nd⟩
theorem Has.perm (h : Has F O H) (s : O'.Perm O) : Has F O' H := ⟨h.same, fun q hq => h.own q (s.subset hq), (s.map _).nodup_iff.mpr h.nd⟩
/-- the first owned object stands still from now on -/
theorem Has.frz (h : Has F ((p, o) :: O) H) : Has (upd F p o) O H := by
  have hp := h.own (p, o) List.mem_cons_self
  have nd : p ∉ O.map (·.1) ∧ (O.map (·.1)).Nodup := List.nodup_cons.mp (by have := h.nd; rw [List.map_cons] at this; exact this)
  refine ⟨fun b u q => ?_, fun q hq => ⟨?_, (h.own q (List.mem_cons_of_mem _ hq)).2⟩, nd.2⟩
  · by_cases e : b = p
    · subst e
      rw [upd_same] at q
      cases q
      exact hp.2
    · rw [upd_ne e] at q
      exact h.same b u q
  · rw [upd_ne (fun z => nd.1 (List.mem_map.mpr ⟨q, hq, z⟩))]
    exact (h.own q (List.mem_cons_of_mem _ hq)).1
theorem Has.free (h : Has F ((p, o) :: O) H) : F p = none := (h.own _ List.mem_cons_self).1
theorem Has.grow (h : Has F ((p, o) :: O) H) : Same F (upd F p o) := same_upd h.free
/-- all stands still from now on -/
theorem Has.all (h : Has F O H) : Has H [] H := Has.start H
/-- F grown by what O knows nothing of -/
theorem Has.up (h : Has F O H) (s2 : Same F' H') (s : Same H H') (d : ∀ p ∈ O, F' p.1 = none) : Has F' O H' :=
  ⟨s2, fun q hq => ⟨d q hq, s _ _ (h.own q hq).2⟩, h.nd⟩
theorem Has.sqO (h : Has F O H) (m : (a, .lst xs) ∈ O) : SqL K H a xs := SqL.of (h.get m)
theorem Has.sqF (h : Has F O H) (m : SqL K F a xs) : SqL K H a xs := h.same.seq m
theorem Same.tup {K : PySem.W.Frag} (e : Same H H') (h : SqT K H a xs) : SqT K H' a xs := by
  rcases h with (h | ⟨o, h⟩) | h
  · exact .inl (.inl (e _ _ h))
  · exact .inl (.inr ⟨o, e _ _ h⟩)
  · exact .inr h
theorem Has.stF (h : Has F O H) (m : SqT K F a xs) : SqT K H a xs := Same.tup h.same m
theorem Has.stO (h : Has F O H) (m : (a, .tup xs) ∈ O) : SqT K H a xs := SqT.of (h.get m)
end

/-! ### data -/
mutual
inductive Dq (H : Hp) : V → PyData → Prop
  | non : Dq H .non .none
  | bl (b : Bool) : Dq H (.bl b) (.bool b)
  | int (i : Int) : Dq H (.int i) (.int i)
  | str (x : Str) : Dq H (.str x) (.str x)
  | lst {a : Addr} {xs : List V} {ds : List PyData} : H a = some (.lst xs) → DqAll H xs ds → Dq H (.ref a) (.list ds)
  | tup {a : Addr} {xs : List V} {ds : List PyData} : H a = some (.tup xs) → DqAll H xs ds → Dq H (.ref a) (.tuple ds)
inductive DqAll (H : Hp) : List V → List PyData → Prop
  | nil : DqAll H [] []
  | cons {v : V} {vs : List V} {d : PyData} {ds : List PyData} : Dq H v d → DqAll H vs ds → DqAll H (v :: vs) (d :: ds)
end
mutual
theorem Dq.up {H H' : Hp} (e : Same H H') : ∀ (d : PyData) (v : V), Dq H v d → Dq H' v d
  | _, _, .non => .non
  | _, _, .bl b => .bl b
  | _, _, .int i => .int i
  | _, _, .str x => .str x
  | .list ds, _, .lst s a => .lst (e _ _ s) (DqAll.up e ds _ a)
  | .tuple ds, _, .tup s a => .tup (e _ _ s) (DqAll.up e ds _ a)
theorem DqAll.up {H H' : Hp} (e : Same H H') : ∀ (ds : List PyData) (vs : List V), DqAll H vs ds → DqAll H' vs ds
  | _, _, .nil => .nil
  | d :: ds, _, .cons h t => .cons (Dq.up e d _ h) (DqAll.up e ds _ t)
end
mutual
theorem Dq.dp (K : PySem.W.Frag) {H : Hp} : ∀ (d : PyData) (v : V), Dq H v d → Dp K H v d
  | _, _, .non => .non
  | _, _, .bl b => .bl b
  | _, _, .int i => .int i
  | _, _, .str x => .str x
  | .list ds, _, .lst s a => .lst (SqL.of s) (DqAll.dp K ds _ a)
  | .tuple ds, _, .tup s a => .tup (SqT.of s) (DqAll.dp K ds _ a)
theorem DqAll.dp (K : PySem.W.Frag) {H : Hp} : ∀ (ds : List PyData) (vs : List V), DqAll H vs ds → DpAll K H vs ds
  | _, _, .nil => .nil
  | d :: ds, _, .cons h t => .cons (Dq.dp K d _ h) (DqAll.dp K ds _ t)
end
theorem DqAll.len {H : Hp} : ∀ {vs : List V} {ds : List PyData}, DqAll H vs ds → vs.length = ds.length
  | _, _, .nil => rfl
  | _, _, .cons _ t => by rw [List.length_cons, List.length_cons, t.len]
theorem DqAll.get {H : Hp} : ∀ {vs : List V} {ds : List PyData} {i : Nat} {v : V}, DqAll H vs ds → vs[i]? = some v → ∃ d, ds[i]? = some d ∧ Dq H v d
  | _, _, _, _, .nil, e => by simp at e
  | _, _, 0, _, .cons h _, e => ⟨_, rfl, by have e' := Option.some.inj e; rw [← e']; exact h⟩
  | _, _, i + 1, _, .cons _ t, e => t.get (i := i) e
theorem DqAll.snoc {H : Hp} : ∀ {vs : List V} {ds : List PyData} {v : V} {d : PyData}, DqAll H vs ds → Dq H v d → DqAll H (vs ++ [v]) (ds ++ [d])
  | _, _, _, _, .nil, h => .cons h .nil
  | _, _, _, _, .cons h t, h' => .cons h (t.snoc h')
theorem DqAll.app {H : Hp} : ∀ {vs ws : List V} {ds es : List PyData}, DqAll H vs ds → DqAll H ws es → DqAll H (vs ++ ws) (ds ++ es)
  | _, _, _, _, .nil, h => h
  | _, _, _, _, .cons h t, h' => .cons h (t.app h')
theorem DqAll.rev {H : Hp} : ∀ {vs : List V} {ds : List PyData}, DqAll H vs ds → DqAll H vs.reverse ds.reverse
  | _, _, .nil => .nil
  | _, _, .cons h t => by
    rw [List.reverse_cons, List.reverse_cons]
    exact t.rev.snoc h
theorem DqAll.strs {H : Hp} : ∀ (xs : List Str), DqAll H (xs.map V.str) (xs.map PyData.str)
  | [] => .nil
  | x :: xs => .cons (.str x) (DqAll.strs xs)
theorem DqAll.ints {H : Hp} : ∀ (xs : List Int), DqAll H (xs.map V.int) (xs.map PyData.int)
  | [] => .nil
  | x :: xs => .cons (.int x) (DqAll.ints xs)
theorem DqAll.of_strs {H : Hp} : ∀ {vs : List V} {xs : List Str}, DqAll H vs (xs.map PyData.str) → vs = xs.map V.str
  | _, [], .nil => rfl
  | _, x :: xs, .cons h t => by
    cases h
    rw [List.map_cons, t.of_strs]
theorem Dq.of_strs {H : Hp} {v : V} {xs : List Str} (h : Dq H v (.list (xs.map PyData.str))) : ∃ a, v = .ref a ∧ H a = some (.lst (xs.map V.str)) := by
  cases h with
  | lst s a =>
    rw [a.of_strs] at s
    exact ⟨_, rfl, s⟩
theorem Dq.strs {H : Hp} {a : Addr} {xs : List Str} (h : H a = some (.lst (xs.map V.str))) : Dq H (.ref a) (.list (xs.map PyData.str)) := .lst h (DqAll.strs xs)
theorem Dq.ints {H : Hp} {a : Addr} {xs : List Int} (h : H a = some (.lst (xs.map V.int))) : Dq H (.ref a) (.list (xs.map PyData.int)) := .lst h (DqAll.ints xs)
theorem Has.gF {F : Hp} {O : Own} {H : Hp} {a : Addr} {o : HO} (h : Has F O H) (e : F a = some o) : H a = some o := h.same _ _ e
theorem Has.dq {F : Hp} {O : Own} {H : Hp} (h : Has F O H) {v : V} {d : PyData} (p : Dq F v d) : Dq H v d := p.up h.same d v

/-! ### == of data -/
theorem eqvAll_strs : ∀ xs ys : List Str, PyData.eqvAll (xs.map PyData.str) (ys.map PyData.str) = decide (xs = ys)
  | [], [] => by simp [PyData.eqvAll]
  | [], y :: ys => by simp [PyData.eqvAll]
  | x :: xs, [] => by simp [PyData.eqvAll]
  | x :: xs, y :: ys => by
    rw [List.map_cons, List.map_cons, PyData.eqvAll, eqvAll_strs xs ys, PyData.eqv]
    by_cases h : x = y
    · subst h; simp
    · simp [h]
theorem eqv_strs (xs ys : List Str) : PyData.eqv (.list (xs.map PyData.str)) (.list (ys.map PyData.str)) = decide (xs = ys) := by
  rw [PyData.eqv, eqvAll_strs]
theorem eqvAll_ints : ∀ xs ys : List Int, PyData.eqvAll (xs.map PyData.int) (ys.map PyData.int) = decide (xs = ys)
  | [], [] => by simp [PyData.eqvAll]
  | [], y :: ys => by simp [PyData.eqvAll]
  | x :: xs, [] => by simp [PyData.eqvAll]
  | x :: xs, y :: ys => by
    rw [List.map_cons, List.map_cons, PyData.eqvAll, eqvAll_ints xs ys, PyData.eqv]
    by_cases h : x = y
    · subst h; simp
    · simp [h]
theorem eqv_ints (xs ys : List Int) : PyData.eqv (.list (xs.map PyData.int)) (.list (ys.map PyData.int)) = decide (xs = ys) := by
  rw [PyData.eqv, eqvAll_ints]
theorem canLayAll_mem : ∀ {ds : List PyData}, (∀ d ∈ ds, d.canLay0 = true) → PyData.canLayAll0 ds = true
  | [], _ => rfl
  | d :: ds, h => by
    rw [PyData.canLayAll0, h d List.mem_cons_self, canLayAll_mem fun x hx => h x (List.mem_cons_of_mem _ hx)]
    rfl
theorem depthAll_le {n : Nat} : ∀ {ds : List PyData}, (∀ d ∈ ds, d.depth ≤ n) → PyData.depthAll ds ≤ n
  | [], _ => Nat.zero_le _
  | d :: ds, h => by
    rw [PyData.depthAll]
    exact Nat.max_le.mpr ⟨h d List.mem_cons_self, depthAll_le fun x hx => h x (List.mem_cons_of_mem _ hx)⟩
/-- data of depth n that can be compared -/
def Sh (n : Nat) (d : PyData) : Prop := d.canLay0 = true ∧ d.depth ≤ n
theorem Sh.list {n : Nat} {ds : List PyData} (h : ∀ d ∈ ds, Sh n d) : Sh (n + 1) (.list ds) := by
  refine ⟨?_, ?_⟩
  · rw [PyData.canLay0]
    exact canLayAll_mem fun d hd => (h d hd).1
  · rw [PyData.depth]
    have := depthAll_le (n := n) fun d hd => (h d hd).2
    omega
theorem Sh.tuple {n : Nat} {ds : List PyData} (h : ∀ d ∈ ds, Sh n d) : Sh (n + 1) (.tuple ds) := by
  refine ⟨?_, ?_⟩
  · rw [PyData.canLay0]
    exact canLayAll_mem fun d hd => (h d hd).1
  · rw [PyData.depth]
    have := depthAll_le (n := n) fun d hd => (h d hd).2
    omega
theorem Sh.ok {n : Nat} {d : PyData} (h : Sh n d) (hn : n ≤ 64) : SeqAt.shaped d = true := by
  unfold SeqAt.shaped
  rw [h.1, Bool.true_and]
  exact decide_eq_true (Nat.le_trans h.2 hn)
theorem Sh.int {n : Nat} (i : Int) : Sh n (.int i) := ⟨rfl, Nat.zero_le _⟩
theorem Sh.non {n : Nat} : Sh n .none := ⟨rfl, Nat.zero_le _⟩
theorem Sh.bl {n : Nat} (b : Bool) : Sh n (.bool b) := ⟨rfl, Nat.zero_le _⟩
theorem Sh.str {n : Nat} {x : Str} (h : PyData.strOk x = true) : Sh n (.str x) := ⟨h, Nat.zero_le _⟩
theorem Sh.strs {n : Nat} {xs : List Str} (h : ∀ x ∈ xs, PyData.strOk x = true) : Sh (n + 1) (.list (xs.map PyData.str)) := Sh.list fun d hd => by
  obtain ⟨x, hx, rfl⟩ := List.mem_map.mp hd
  exact Sh.str (h x hx)
theorem Sh.ints {n : Nat} {xs : List Int} : Sh (n + 1) (.list (xs.map PyData.int)) := Sh.list fun d hd => by
  obtain ⟨x, hx, rfl⟩ := List.mem_map.mp hd
  exact Sh.int x

/-! ### readings, in order -/
def kB (x : V) (H : Hp) (R : Bool → Hp → Prop) : Prop := ∃ k, x = .bl k ∧ R k H
def kTup (xs : List V) (H : Hp) (Q : VK) : Prop := xs.length ≤ sizeLine ∧ ∀ p, H p = none → Q (.ref p) (upd H p (.tup xs))
def kLst (xs : List V) (H : Hp) (Q : VK) : Prop := xs.length ≤ sizeLine ∧ ∀ p, H p = none → Q (.ref p) (upd H p (.lst xs))
def kBM (K : PySem.W.Frag) (T : String) (r : V → List V → Hp → VK → Prop) (t : TA) (σ : L2.St) (x : V) (H : Hp) (Q : VK) : Prop := tyV K T x H ∧ t σ H fun xs H2 => r x xs H2 Q
section
variable {K : PySem.W.Frag} {σ : L2.St} {F : Hp} {O O' : Own} {H : Hp} {Q : VK} {ta tb tc te : TE} {x y v : V} {D : Ends} {t1 t2 : TS}
theorem g_var {i : Nat} (h : σ[i]? = some (some v)) (q : Q v H) : tVar i σ H Q := ⟨v, h, q⟩
theorem g_c (q : Q v H) : tC v σ H Q := q
theorem g_op {r : R2} (q : ta σ H fun x H1 => tb σ H1 fun y H2 => r x y H2 Q) : tOp r ta tb σ H Q := q
theorem g_un {r : V → Hp → VK → Prop} (q : ta σ H fun x H1 => r x H1 Q) : tUn r ta σ H Q := q
theorem g_cons {tr : TA} {QA : List V → Hp → Prop} (q : ta σ H fun x H1 => tr σ H1 fun xs H2 => QA (x :: xs) H2) : tCons ta tr σ H QA := q
theorem g_nil {QA : List V → Hp → Prop} (q : QA [] H) : tNil σ H QA := q
theorem g_cb {r : List V → Hp → VK → Prop} {t : TA} (q : t σ H fun vs H1 => r vs H1 Q) : tCB r t σ H Q := q
theorem g_call {sp : Sp} {E : XK} {t : TA} (q : t σ H fun vs H1 => sp vs H1 Q E) : tCall sp [] E t σ H Q := by
  unfold tCall
  simp only [List.append_nil]
  exact q
theorem g_tup {t : TA} (q : t σ H fun xs H1 => kTup xs H1 Q) : tTup t σ H Q := q
theorem g_lst {t : TA} (q : t σ H fun xs H1 => kLst xs H1 Q) : tLst t σ H Q := q
theorem g_bm {T : String} {r : V → List V → Hp → VK → Prop} {t : TA} (q : ta σ H fun x H1 => kBM K T r t σ x H1 Q) : tBM K T r ta t σ H Q := q
theorem g_bm0 {T : String} {r : V → List V → Hp → VK → Prop} (q : ta σ H fun x H1 => kBM K T r tNil σ x H1 Q) : tBM0 K T r ta σ H Q := q
theorem g_kbm {r : V → List V → Hp → VK → Prop} {t : TA} {a : Addr} {xs : List V} (h : H a = some (.lst xs)) (q : t σ H fun vs H2 => r (.ref a) vs H2 Q) : kBM K "list" r t σ (.ref a) H Q := ⟨.inl ⟨rfl, _, SqL.of h⟩, q⟩
theorem g_ktup {xs : List V} (hl : xs.length ≤ sizeLine) (hH : Has F O H) (q : ∀ p H', H p = none → Has F ((p, .tup xs) :: O) H' → Q (.ref p) H') : kTup xs H Q := ⟨hl, fun p n => q p _ n (hH.new n)⟩
theorem g_klst {xs : List V} (hl : xs.length ≤ sizeLine) (hH : Has F O H) (q : ∀ p H', H p = none → Has F ((p, .lst xs) :: O) H' → Q (.ref p) H') : kLst xs H Q := ⟨hl, fun p n => q p _ n (hH.new n)⟩
/-- a tuple that stands still at once -/
theorem g_ktupF {xs : List V} (hl : xs.length ≤ sizeLine) (hH : Has F O H) (q : ∀ p H' F', H p = none → Same F F' → F' p = some (.tup xs) → Has F' O H' → Q (.ref p) H') : kTup xs H Q :=
  ⟨hl, fun p n => q p _ (upd F p (.tup xs)) n (same_upd (hH.same.free n)) upd_same (hH.new n).frz⟩
theorem g_klstF {xs : List V} (hl : xs.length ≤ sizeLine) (hH : Has F O H) (q : ∀ p H' F', H p = none → Same F F' → F' p = some (.lst xs) → Has F' O H' → Q (.ref p) H') : kLst xs H Q :=
  ⟨hl, fun p n => q p _ (upd F p (.lst xs)) n (same_upd (hH.same.free n)) upd_same (hH.new n).frz⟩
theorem g_seq (h : t1 { D with nx := t2 D } σ H) : tSeq t1 t2 D σ H := h
theorem g_asg {g : TG} (q : te σ H fun x H1 => g x σ H1 D.nx) : tAsg te g D σ H := q
theorem g_name {i : Nat} {R : L2.St → Hp → Prop} (q : R (σ.set i (some v)) H) : gName i v σ H R := q
theorem g_drop (q : te σ H fun _ H1 => D.nx σ H1) : tDrop te D σ H := q
theorem g_ret (q : te σ H fun x H1 => D.rt x H1) : tRet te D σ H := q
theorem g_retN (q : D.rt .non H) : tRetN D σ H := q
theorem g_next (q : D.nx σ H) : tNext D σ H := q
theorem g_brk (q : D.bk σ H) : tBreak D σ H := q
theorem g_cont (q : D.ct σ H) : tCont D σ H := q
theorem g_if {c : TT} (q : c σ H fun b H1 => if b = true then t1 D σ H1 else t2 D σ H1) : tIfS c t1 t2 D σ H := q
theorem g_aug {i : Nat} {ti : TIp} (h : σ[i]? = some (some x)) (q : te σ H fun y H1 => ti x y H1 fun z H2 => D.nx (σ.set i (some z)) H2) : tAug i te ti D σ H := ⟨x, h, q⟩
theorem g_ipI {f : Int → Int → Int} {i j : Int} (q : Q (.int (f i j)) H) : ipI f (.int i) (.int j) H Q := ⟨i, j, rfl, rfl, q⟩
theorem g_test {R : Bool → Hp → Prop} (q : te σ H fun x H1 => kB x H1 R) : tTest te σ H R := q
theorem g_tB {R : Bool → Hp → Prop} (q : te σ H fun x H1 => kB x H1 R) : tB te σ H R := q
theorem g_kB {b : Bool} {R : Bool → Hp → Prop} (q : R b H) : kB (.bl b) H R := ⟨b, rfl, q⟩
theorem g_not {t : TT} {R : Bool → Hp → Prop} (q : t σ H fun c H1 => R (!c) H1) : tNot t σ H R := q
theorem g_and {t u : TT} {R : Bool → Hp → Prop} (q : t σ H fun c H1 => if c = true then u σ H1 R else R false H1) : tAnd t u σ H R := q
theorem g_or {t u : TT} {R : Bool → Hp → Prop} (q : t σ H fun c H1 => if c = true then R true H1 else u σ H1 R) : tOr t u σ H R := q
theorem g_andV (q : ta σ H fun x H1 => kB x H1 fun c H2 => if c = true then tb σ H2 Q else Q (.bl false) H2) : tAndV ta tb σ H Q := q
theorem g_orV (q : ta σ H fun x H1 => kB x H1 fun c H2 => if c = true then Q (.bl true) H2 else tb σ H2 Q) : tOrV ta tb σ H Q := q
theorem g_notV (q : ta σ H fun x H1 => kB x H1 fun c H2 => Q (.bl (!c)) H2) : tNotV ta σ H Q := q
theorem g_ifE {t : TT} (q : t σ H fun c H1 => if c = true then ta σ H1 Q else tb σ H1 Q) : tIf t ta tb σ H Q := q
theorem i_d {c A B : Prop} [Decidable c] (h1 : c → A) (h2 : ¬ c → B) : if decide c = true then A else B := by
  by_cases h : c
  · rw [if_pos (decide_eq_true h)]
    exact h1 h
  · rw [if_neg (by rw [decide_eq_false h]; exact Bool.false_ne_true)]
    exact h2 h
theorem i_n {c A B : Prop} [Decidable c] (h1 : ¬ c → A) (h2 : c → B) : if (!decide c) = true then A else B := by
  by_cases h : c
  · rw [decide_eq_true h, if_neg (by decide)]
    exact h2 h
  · rw [decide_eq_false h, if_pos (by decide)]
    exact h1 h
theorem i_b {b : Bool} {A B : Prop} (h1 : b = true → A) (h2 : b = false → B) : if b = true then A else B := by
  cases b with
  | true => rw [if_pos rfl]; exact h1 rfl
  | false => rw [if_neg Bool.false_ne_true]; exact h2 rfl
theorem i_nb {b : Bool} {A B : Prop} (h1 : b = false → A) (h2 : b = true → B) : if (!b) = true then A else B := by
  cases b with
  | false =>
    show (if true = true then A else B)
    rw [if_pos rfl]
    exact h1 rfl
  | true =>
    show (if false = true then A else B)
    rw [if_neg Bool.false_ne_true]
    exact h2 rfl
/-- a test by its answer -/
theorem g_bool {t : TT} {R : Bool → Hp → Prop} (b : Bool) (h : ∀ R : Bool → Hp → Prop, R b H → t σ H R) (q : R b H) : t σ H R := h R q

/-! ### operators -/
def rAdd (K : PySem.W.Frag) : R2 := fun x y H Q => (rI0 (fun i j => .int (i + j)) x y H Q ∨ ∃ i j, x = .str i ∧ y = .str j ∧ i.length + j.length ≤ sizeLine ∧ Q (.str (i ++ j)) H) ∨ rCat x y H Q ∨ rCatA K x y H Q
theorem g_addI {i j : Int} (q : Q (.int (i + j)) H) : rAdd K (.int i) (.int j) H Q := .inl (.inl ⟨i, j, rfl, rfl, q⟩)
theorem g_addS {i j : Str} (hl : i.length + j.length ≤ sizeLine) (q : Q (.str (i ++ j)) H) : rAdd K (.str i) (.str j) H Q := .inl (.inr ⟨i, j, rfl, rfl, hl, q⟩)
theorem g_addL {a b : Addr} {xs ys : List V} (h1 : H a = some (.lst xs)) (h2 : H b = some (.lst ys)) (hl : xs.length + ys.length ≤ sizeLine) (hH : Has F O H) (q : ∀ p H', H p = none → Has F ((p, .lst (xs ++ ys)) :: O) H' → Q (.ref p) H') : rAdd K (.ref a) (.ref b) H Q :=
  .inr (.inl ⟨a, b, xs, ys, rfl, rfl, h1, h2, hl, fun p n => q p _ n (hH.new n)⟩)
theorem g_rI0 {g : Int → Int → V} {i j : Int} (q : Q (g i j) H) : rI0 g (.int i) (.int j) H Q := ⟨i, j, rfl, rfl, q⟩
theorem g_rI {C : Int → Int → Prop} {g : Int → Int → V} {i j : Int} (hc : C i j) (q : Q (g i j) H) : rI C g (.int i) (.int j) H Q := ⟨i, j, rfl, rfl, hc, q⟩
theorem g_rU {g : Int → V} {i : Int} (q : Q (g i) H) : rU g (.int i) H Q := ⟨i, rfl, q⟩
def rMul : R2 := fun x y H Q => rI CMul (fun i j => .int (i * j)) x y H Q ∨ rRep x y H Q
theorem g_mulI {i j : Int} (hc : CMul i j) (q : Q (.int (i * j)) H) : rMul (.int i) (.int j) H Q := .inl ⟨i, j, rfl, rfl, hc, q⟩
theorem g_mulL {a : Addr} {k : Int} {xs : List V} (h : H a = some (.lst xs)) (h1 : -(2 ^ 63) ≤ k) (h2 : k < 2 ^ 63) (hl : xs.length * k.toNat ≤ sizeLine) (hH : Has F O H)
    (q : ∀ p H', H p = none → Has F ((p, .lst (List.replicate k.toNat xs).flatten) :: O) H' → Q (.ref p) H') : rMul (.ref a) (.int k) H Q := .inr ⟨a, k, xs, rfl, rfl, h, h1, h2, hl, fun p n => q p _ n (hH.new n)⟩
def rEqA (K : PySem.W.Frag) : R2 := fun x y H Q => rEq x y H Q ∨ rEqD K x y H Q
def rNeA (K : PySem.W.Frag) : R2 := fun x y H Q => rNe x y H Q ∨ rNeD K x y H Q
theorem g_eqI {i j : Int} (q : Q (.bl (decide (i = j))) H) : rEqA K (.int i) (.int j) H Q := .inl ⟨rfl, by rw [dec_int, Bool.beq_eq_decide_eq]; exact q⟩
theorem g_eqS {i j : Str} (q : Q (.bl (decide (i = j))) H) : rEqA K (.str i) (.str j) H Q := .inl ⟨rfl, by rw [dec_str, Bool.beq_eq_decide_eq]; exact q⟩
theorem g_neI {i j : Int} (q : Q (.bl (!decide (i = j))) H) : rNeA K (.int i) (.int j) H Q := .inl ⟨rfl, by rw [dec_int, Bool.beq_eq_decide_eq]; exact q⟩
theorem g_neS {i j : Str} (q : Q (.bl (!decide (i = j))) H) : rNeA K (.str i) (.str j) H Q := .inl ⟨rfl, by rw [dec_str, Bool.beq_eq_decide_eq]; exact q⟩
theorem g_eqD {d e : PyData} (hx : Dq H x d) (hy : Dq H y e) (sd : SeqAt.shaped d = true) (se : SeqAt.shaped e = true) (q : Q (.bl (PyData.eqv d e)) H) : rEqA K x y H Q := .inr ⟨d, e, hx.dp K d x, hy.dp K e y, sd, se, q⟩
theorem g_neD {d e : PyData} (hx : Dq H x d) (hy : Dq H y e) (sd : SeqAt.shaped d = true) (se : SeqAt.shaped e = true) (q : Q (.bl (!PyData.eqv d e)) H) : rNeA K x y H Q := .inr ⟨d, e, hx.dp K d x, hy.dp K e y, sd, se, q⟩
def rIsN : R2 := fun x y H Q => y = .non ∧ Q (.bl (decide (x = .non))) H
def rNotN : R2 := fun x y H Q => y = .non ∧ Q (.bl (!decide (x = .non))) H
theorem g_isN (q : Q (.bl (decide (x = .non))) H) : rIsN x .non H Q := ⟨rfl, q⟩
theorem g_notN (q : Q (.bl (!decide (x = .non))) H) : rNotN x .non H Q := ⟨rfl, q⟩
def rIxD : R2 := fun x y H Q => ∃ a v, x = .ref a ∧ DGet H a y (some v) ∧ Q v H
def rIxA (K : PySem.W.Frag) : R2 := fun x y H Q => rIx K x y H Q ∨ rIxD x y H Q
theorem g_ixL {a : Addr} {xs : List V} {i : Int} (h : H a = some (.lst xs)) (ha : atI xs i = some v) (q : Q v H) : rIxA K (.ref a) (.int i) H Q := .inl <| .inl ⟨a, xs, i, v, rfl, rfl, SqL.of h, ha, q⟩
theorem g_ixT {a : Addr} {xs : List V} {i : Int} (h : H a = some (.tup xs)) (ha : atI xs i = some v) (q : Q v H) : rIxA K (.ref a) (.int i) H Q := .inl (.inr (.inl ⟨a, xs, i, v, rfl, rfl, SqT.of h, ha, q⟩))
theorem g_ixS {z : Str} {i : Int} {c : Nat} (hl : z.length ≤ sizeLine) (ha : atI z.cps.toList i = some c) (q : Q (.str ⟨#[c]⟩) H) : rIxA K (.str z) (.int i) H Q := .inl (.inr (.inr ⟨z, i, c, rfl, rfl, hl, ha, q⟩))
theorem at_n {xs : List V} {i : Int} (h0 : 0 ≤ i) (h : xs[i.toNat]? = some v) : atI xs i = some v := by
  have e : i = (i.toNat : Int) := by omega
  rw [e]
  exact atI_nat h

/-! ### calls of what is built in -/
def rLen (K : PySem.W.Frag) : List V → Hp → VK → Prop := fun xs H Q => (∃ p ys, xs = [.ref p] ∧ (SqL K H p ys ∨ SqT K H p ys) ∧ Q (.int ys.length) H) ∨ ∃ z, xs = [.str z] ∧ z.length ≤ sizeLine ∧ Q (.int z.length) H
theorem g_lenL {a : Addr} {xs : List V} (h : H a = some (.lst xs)) (q : Q (.int (xs.length : Int)) H) : rLen K [.ref a] H Q := .inl ⟨a, xs, rfl, .inl (SqL.of h), q⟩
theorem g_lenT {a : Addr} {xs : List V} (h : H a = some (.tup xs)) (q : Q (.int (xs.length : Int)) H) : rLen K [.ref a] H Q := .inl ⟨a, xs, rfl, .inr (SqT.of h), q⟩
theorem g_lenS {z : Str} (h : z.length ≤ sizeLine) (q : Q (.int (z.length : Int)) H) : rLen K [.str z] H Q := .inr ⟨z, rfl, h, q⟩
def rInt1 : List V → Hp → VK → Prop := fun xs H Q => (∃ i, xs = [.int i] ∧ Q (.int i) H) ∨ ∃ k, xs = [.bl k] ∧ Q (.int (if k then 1 else 0)) H
theorem g_int {i : Int} (q : Q (.int i) H) : rInt1 [.int i] H Q := .inl ⟨i, rfl, q⟩
theorem g_intB {k : Bool} (q : Q (.int (if k then 1 else 0)) H) : rInt1 [.bl k] H Q := .inr ⟨k, rfl, q⟩
def rAbs1 : List V → Hp → VK → Prop := fun xs H Q => ∃ i, xs = [.int i] ∧ Q (.int (if i < 0 then -i else i)) H
theorem g_abs {i : Int} (q : ∀ j : Int, 0 ≤ j → Q (.int j) H) : rAbs1 [.int i] H Q := ⟨i, rfl, q _ (by split <;> omega)⟩
def rMax2 : List V → Hp → VK → Prop := fun xs H Q => ∃ i j, xs = [.int i, .int j] ∧ Q (.int (if j > i then j else i)) H
theorem g_max2 {i j : Int} (q : Q (.int (max i j)) H) : rMax2 [.int i, .int j] H Q := ⟨i, j, rfl, by
  have e : (if j > i then j else i) = max i j := by split <;> omega
  rw [e]
  exact q⟩
def rListOf (K : PySem.W.Frag) : List V → Hp → VK → Prop := fun xs H Q => ∃ p ys, xs = [.ref p] ∧ (SqL K H p ys ∨ SqT K H p ys) ∧ ∀ l, H l = none → Q (.ref l) (upd H l (.lst ys))
theorem g_listL {a : Addr} {xs : List V} (h : H a = some (.lst xs)) (hH : Has F O H) (q : ∀ p H', H p = none → Has F ((p, .lst xs) :: O) H' → Q (.ref p) H') : rListOf K [.ref a] H Q := ⟨a, xs, rfl, .inl (SqL.of h), fun p n => q p _ n (hH.new n)⟩
theorem g_listT {a : Addr} {xs : List V} (h : H a = some (.tup xs)) (hH : Has F O H) (q : ∀ p H', H p = none → Has F ((p, .lst xs) :: O) H' → Q (.ref p) H') : rListOf K [.ref a] H Q := ⟨a, xs, rfl, .inr (SqT.of h), fun p n => q p _ n (hH.new n)⟩
def rTupleOf (K : PySem.W.Frag) : List V → Hp → VK → Prop := fun xs H Q => ∃ p ys, xs = [.ref p] ∧ ((SqL K H p ys ∧ ∀ l, H l = none → Q (.ref l) (upd H l (.tup ys))) ∨ (SqT K H p ys ∧ Q (.ref p) H))
theorem g_tupleL {a : Addr} {xs : List V} (h : H a = some (.lst xs)) (hH : Has F O H) (q : ∀ p H' F', H p = none → Same F F' → F' p = some (.tup xs) → Has F' O H' → Q (.ref p) H') : rTupleOf K [.ref a] H Q :=
  ⟨a, xs, rfl, .inl ⟨SqL.of h, fun p n => q p _ (upd F p (.tup xs)) n (same_upd (hH.same.free n)) upd_same (hH.new n).frz⟩⟩
theorem g_tupleT {a : Addr} {xs : List V} (h : H a = some (.tup xs)) (q : Q (.ref a) H) : rTupleOf K [.ref a] H Q := ⟨a, xs, rfl, .inr ⟨SqT.of h, q⟩⟩

/-! ### methods of lists, stores -/
theorem g_append {a : Addr} {xs : List V} (hH : Has F O H) (c : Chg O a (.lst xs) (.lst (xs ++ [y])) O') (hl : xs.length < sizeLine) (q : ∀ H', Has F O' H' → Q .non H') : rAppend (.ref a) [y] H Q :=
  ⟨a, xs, y, rfl, rfl, hH.get c.mem, hl, q _ (hH.put c)⟩
theorem g_popAt {a : Addr} {xs : List V} {i : Int} {k : Nat} (hH : Has F O H) (c : Chg O a (.lst xs) (.lst (xs.eraseIdx k)) O') (h1 : -(2 ^ 63) ≤ i) (h2 : i < 2 ^ 63) (hk : seqIndex? i xs.length = some k) (hy : xs[k]? = some y)
    (q : ∀ H', Has F O' H' → Q y H') : rPopAt (.ref a) [.int i] H Q := ⟨a, xs, i, k, y, rfl, rfl, hH.get c.mem, h1, h2, hk, hy, q _ (hH.put c)⟩
theorem g_clear {a : Addr} {xs : List V} (hH : Has F O H) (c : Chg O a (.lst xs) (.lst []) O') (q : ∀ H', Has F O' H' → Q .non H') : rClear (.ref a) [] H Q := ⟨a, xs, rfl, rfl, hH.get c.mem, q _ (hH.put c)⟩
/-- o[i] = v -/
def kSet (t : TSet) (R : L2.St → Hp → Prop) (σ : L2.St) (o i v : V) (H : Hp) : Prop := t o i v H fun H3 => R σ H3
theorem g_sub {to ti : TE} {t : TSet} {R : L2.St → Hp → Prop} (q : to σ H fun o H1 => ti σ H1 fun i H2 => kSet t R σ o i v H2) : gSub to ti t v σ H R := q
theorem g_setL {R : L2.St → Hp → Prop} {a : Addr} {xs : List V} {k : Int} {j : Nat} (hH : Has F O H) (c : Chg O a (.lst xs) (.lst (xs.set j v)) O') (hj : ixN xs.length k = some j) (q : ∀ H', Has F O' H' → R σ H') : kSet rSetL R σ (.ref a) (.int k) v H :=
  ⟨a, xs, k, j, rfl, rfl, hH.get c.mem, hj, q _ (hH.put c)⟩
theorem ixN_nat {n : Nat} {k : Int} (h0 : 0 ≤ k) (h : k < n) : ixN n k = some k.toNat := by
  unfold ixN
  rw [if_pos h0, if_pos h]
/-- a, b = a tuple -/
theorem g_gtup {n : Nat} {t : TGs} {a : Addr} {xs : List V} {R : L2.St → Hp → Prop} (h : H a = some (.tup xs)) (hl : xs.length = n) (q : t xs σ H R) : gTup K n t (.ref a) σ H R := ⟨a, xs, rfl, SqT.of h, hl, q⟩
theorem g_gcons {t : TG} {u : TGs} {r : List V} {R : L2.St → Hp → Prop} (q : t v σ H fun σ' H' => u r σ' H' R) : gCons t u (v :: r) σ H R := ⟨v, r, rfl, q⟩
theorem g_gnil {R : L2.St → Hp → Prop} (q : R σ H) : gNil [] σ H R := ⟨rfl, q⟩
/-- slices -/
def kSl (r : V → Option Int → Option Int → Hp → VK → Prop) (tl th : TO) (σ : L2.St) (x : V) (H : Hp) (Q : VK) : Prop := tl σ H fun l H2 => th σ H2 fun u H3 => r x l u H3 Q
theorem g_sl {r : V → Option Int → Option Int → Hp → VK → Prop} {tl th : TO} (q : te σ H fun x H1 => kSl r tl th σ x H1 Q) : tSl r te tl th σ H Q := q
theorem g_kslN {r : V → Option Int → Option Int → Hp → VK → Prop} (q : r x none none H Q) : kSl r tNoPart tNoPart σ x H Q := q
theorem g_kslL {r : V → Option Int → Option Int → Hp → VK → Prop} {tl : TE} {i : Int} (q : tl σ H fun z H1 => ∃ i, z = .int i ∧ r x (some i) none H1 Q) : kSl r (tPart tl) tNoPart σ x H Q := q
theorem g_kslH {r : V → Option Int → Option Int → Hp → VK → Prop} {tl : TE} {i : Int} (q : tl σ H fun z H1 => ∃ i, z = .int i ∧ r x none (some i) H1 Q) : kSl r tNoPart (tPart tl) σ x H Q := q
def rRevL (K : PySem.W.Frag) (x : V) (H : Hp) (Q : VK) : Prop := ∃ a xs, x = .ref a ∧ SqL K H a xs ∧ ∀ p, H p = none → Q (.ref p) (upd H p (.lst xs.reverse))
end

/-! ### loops -/
def kW (J : It) (g : TG) (tb : TS) (D : Ends) (σ : L2.St) (H : Hp) : Prop := ∃ W : Nat → Nat → L2.St → Hp → Prop, (∃ m, W 0 m σ H) ∧ ∀ i m σ H, W i m σ H →
  (J.stop i H ∧ D.nx σ H) ∨ (J.go i H ∧ ∃ N : L2.St → Hp → Prop, (∀ σ' H', N σ' H' → ∃ m', m' < m ∧ W (i + 1) m' σ' H') ∧ ∀ x H', J.yld i H x H' → g x σ H' fun σ2 H2 => tb { D with nx := N, ct := N, bk := D.nx } σ2 H2)
def kForL (K : PySem.W.Frag) (g : TG) (tb : TS) (D : Ends) (σ : L2.St) (x : V) (H : Hp) : Prop := ∃ a, x = .ref a ∧ (∃ xs, SqL K H a xs) ∧ kW (Itl K a) g tb D σ H
def kForR1 (g : TG) (tb : TS) (D : Ends) (σ : L2.St) (vs : List V) (H : Hp) : Prop := ∃ j : Int, vs = [.int j] ∧ -(2 ^ 62) ≤ j ∧ j < 2 ^ 62 ∧ kW (Itr 0 j.toNat) g tb D σ H
def kForR2 (g : TG) (tb : TS) (D : Ends) (σ : L2.St) (vs : List V) (H : Hp) : Prop := ∃ i j : Int, vs = [.int i, .int j] ∧ (-(2 ^ 62) ≤ i ∧ i < 2 ^ 62 ∧ -(2 ^ 62) ≤ j ∧ j < 2 ^ 62) ∧ kW (Itr i (j - i).toNat) g tb D σ H
def kForR3 (g : TG) (tb : TS) (D : Ends) (σ : L2.St) (vs : List V) (H : Hp) : Prop := ∃ (i j c : Int) (n : Nat), vs = [.int i, .int j, .int c] ∧ RgC i j c n ∧ kW (Itc i c n) g tb D σ H
section
variable {K : PySem.W.Frag} {σ : L2.St} {F : Hp} {O O' : Own} {H : Hp} {Q : VK} {ta tb tc te : TE} {x y v : V} {D : Ends} {t1 t2 ts : TS} {g : TG}
theorem g_forL (q : te σ H fun x H1 => kForL K g ts D σ x H1) : tFor (iList K te) g ts D σ H := q
theorem g_forR1 {ta : TA} (q : ta σ H fun vs H1 => kForR1 g ts D σ vs H1) : tFor (iRng1 ta) g ts D σ H := q
theorem g_forR2 {ta : TA} (q : ta σ H fun vs H1 => kForR2 g ts D σ vs H1) : tFor (iRng2 ta) g ts D σ H := q
theorem g_forR3 {ta : TA} (q : ta σ H fun vs H1 => kForR3 g ts D σ vs H1) : tFor (iRng3 ta) g ts D σ H := q
theorem k_forL {a : Addr} {xs : List V} (h : H a = some (.lst xs)) (Pv : Nat → L2.St → Hp → Prop) (h0 : Pv 0 σ H) (hl : ∀ i σ H, i ≤ xs.length → Pv i σ H → H a = some (.lst xs))
    (hs : ∀ i x σ H, xs[i]? = some x → Pv i σ H → g x σ H fun σ2 H2 => ts { D with nx := Pv (i + 1), ct := Pv (i + 1), bk := D.nx } σ2 H2) (hd : ∀ σ H, Pv xs.length σ H → D.nx σ H) : kForL K g ts D σ (.ref a) H :=
  ⟨a, rfl, ⟨xs, SqL.of h⟩, for_list Pv h0 (fun i σ H hi p => SqL.of (hl i σ H hi p)) hs hd⟩
theorem k_forR1 {j : Int} (Pv : Nat → L2.St → Hp → Prop) (h1 : -(2 ^ 62) ≤ j) (h2 : j < 2 ^ 62) (h0 : Pv 0 σ H)
    (hs : ∀ i σ H, i < j.toNat → Pv i σ H → g (.int (i : Int)) σ H fun σ2 H2 => ts { D with nx := Pv (i + 1), ct := Pv (i + 1), bk := D.nx } σ2 H2) (hd : ∀ σ H, Pv j.toNat σ H → D.nx σ H) : kForR1 g ts D σ [.int j] H :=
  ⟨j, rfl, h1, h2, for_range Pv h0 (fun i σ H hi p => by rw [Int.zero_add]; exact hs i σ H hi p) hd⟩
/-- n - 1 down to 0 -/
theorem k_forDown {n : Nat} {j : Int} (hj : j = (n : Int) - 1) (hn : n < 2 ^ 60) (Pv : Nat → L2.St → Hp → Prop) (h0 : Pv n σ H)
    (hs : ∀ i σ H, i < n → Pv (i + 1) σ H → g (.int (i : Int)) σ H fun σ2 H2 => ts { D with nx := Pv i, ct := Pv i, bk := D.nx } σ2 H2) (hd : ∀ σ H, Pv 0 σ H → D.nx σ H) : kForR3 g ts D σ [.int j, .int (-1), .int (-1)] H := by
  subst hj
  have e : (((n : Int) - 1) - (-1)).toNat = n := by omega
  have rg := RgC.neg (i := (n : Int) - 1) (j := -1) (by omega) (by omega) (by decide) (by decide)
  rw [e] at rg
  refine ⟨_, _, _, n, rfl, rg, for_rangeC (fun i => Pv (n - i)) h0 (fun i σ H hi p => ?_) (fun σ H p => ?_)⟩
  · have e1 : (n : Int) - 1 + (i : Nat) * (-1) = ((n - (i + 1) : Nat) : Int) := by omega
    have e2 : n - i = (n - (i + 1)) + 1 := by omega
    rw [e1]
    have p' : Pv ((n - (i + 1)) + 1) σ H := by rw [← e2]; exact p
    exact hs _ σ H (by omega) p'
  · have p' : Pv (n - n) σ H := p
    rw [Nat.sub_self] at p'
    exact hd σ H p'
/-- while -/
def kWh (Pv : Nat → L2.St → Hp → Prop) (m : Nat) (tb : TS) (D : Ends) (σ : L2.St) (b : Bool) (H : Hp) : Prop := if b = true then ∃ N : L2.St → Hp → Prop, (∀ σ' H', N σ' H' → ∃ m', m' < m ∧ Pv m' σ' H') ∧ tb { D with nx := N, ct := N, bk := D.nx } σ H else D.nx σ H
theorem g_while {c : TT} (Pv : Nat → L2.St → Hp → Prop) (m : Nat) (h0 : Pv m σ H) (hs : ∀ m σ H, Pv m σ H → c σ H fun b H1 => kWh Pv m ts D σ b H1) : tWhile c ts D σ H := ⟨Pv, ⟨m, h0⟩, hs⟩
theorem kwh_t {Pv : Nat → L2.St → Hp → Prop} {m : Nat} (q : ts { D with nx := fun σ' H' => ∃ m', m' < m ∧ Pv m' σ' H', ct := fun σ' H' => ∃ m', m' < m ∧ Pv m' σ' H', bk := D.nx } σ H) : kWh Pv m ts D σ true H := by
  unfold kWh
  rw [if_pos rfl]
  exact ⟨_, fun _ _ h => h, q⟩
theorem kwh_f {Pv : Nat → L2.St → Hp → Prop} {m : Nat} (q : D.nx σ H) : kWh Pv m ts D σ false H := by
  unfold kWh
  rw [if_neg Bool.false_ne_true]
  exact q

/-! ### list comprehensions -/
def kLc (J : It) (g : TG) (tt : TT) (te : TE) (vs : List Nat) (σ : L2.St) (H1 : Hp) (Q : VK) : Prop := ∀ D, H1 D = none → ∃ W : Nat → Nat → Hp → Prop, (∃ m, W 0 m (upd H1 D (.lst []))) ∧ ∀ i m H, W i m H →
  (J.stop i H ∧ Q (.ref D) H) ∨ (J.go i H ∧ ∃ Nx : Hp → Prop, (∀ H', Nx H' → ∃ m', m' < m ∧ W (i + 1) m' H') ∧ ∀ x H', J.yld i H x H' → g x (wipe σ vs) H' fun σ2 H2 => wipe σ2 vs = wipe σ vs ∧ tt σ2 H2 fun b H3 =>
    if b = true then te σ2 H3 fun y H4 => ∃ acc, H4 D = some (.lst acc) ∧ acc.length < sizeLine ∧ Nx (upd H4 D (.lst (acc ++ [y]))) else Nx H3)
def kLcL (K : PySem.W.Frag) (g : TG) (tt : TT) (te : TE) (vs : List Nat) (σ : L2.St) (x : V) (H : Hp) (Q : VK) : Prop := ∃ a, x = .ref a ∧ (∃ xs, SqL K H a xs) ∧ kLc (Itl K a) g tt te vs σ H Q
def kLcR1 (g : TG) (tt : TT) (te : TE) (ws : List Nat) (σ : L2.St) (vs : List V) (H : Hp) (Q : VK) : Prop := ∃ j : Int, vs = [.int j] ∧ -(2 ^ 62) ≤ j ∧ j < 2 ^ 62 ∧ kLc (Itr 0 j.toNat) g tt te ws σ H Q
theorem g_lcL {tt : TT} {vs : List Nat} (q : ta σ H fun x H1 => kLcL K g tt te vs σ x H1 Q) : tLc (iList K ta) g tt te vs σ H Q := q
theorem g_lcR1 {ta : TA} {tt : TT} {vs : List Nat} (q : ta σ H fun xs H1 => kLcR1 g tt te vs σ xs H1 Q) : tLc (iRng1 ta) g tt te vs σ H Q := q
/-- what a turn is to leave -/
def kNx (S : Nat → List V → Hp → Own → Prop) (i : Nat) (D : Addr) (H : Hp) : Prop := ∃ acc F' O', S (i + 1) acc F' O' ∧ Has F' ((D, .lst acc) :: O') H
def kTurn (D : Addr) (Nx : Hp → Prop) (y : V) (H : Hp) : Prop := ∃ acc, H D = some (.lst acc) ∧ acc.length < sizeLine ∧ Nx (upd H D (.lst (acc ++ [y])))
theorem k_turn {S : Nat → List V → Hp → Own → Prop} {i : Nat} {D : Addr} {acc : List V} {y : V} {H : Hp} {F : Hp} {O : Own} (h : Has F ((D, .lst acc) :: O) H) (hl : acc.length ≤ 100000) (s : S (i + 1) (acc ++ [y]) F O) : kTurn D (kNx S i D) y H :=
  ⟨acc, h.get (List.Mem.head _), by rw [sizeLine_eq]; omega, _, F, O, s, h.put .hd⟩
theorem k_skip {S : Nat → List V → Hp → Own → Prop} {i : Nat} {D : Addr} {acc : List V} {H : Hp} {F : Hp} {O : Own} (h : Has F ((D, .lst acc) :: O) H) (s : S (i + 1) acc F O) : kNx S i D H := ⟨acc, F, O, s, h⟩
theorem k_lc {J : It} {tt : TT} {vs : List Nat} (hH : Has F O H) (n : Nat) (S : Nat → List V → Hp → Own → Prop) (h0 : S 0 [] F O)
    (go : ∀ i acc F O D H, i < n → S i acc F O → Has F ((D, .lst acc) :: O) H → J.go i H) (stop : ∀ acc F O D H, S n acc F O → Has F ((D, .lst acc) :: O) H → J.stop n H)
    (hs : ∀ i x acc F O D H H', i < n → J.yld i H x H' → S i acc F O → Has F ((D, .lst acc) :: O) H → g x (wipe σ vs) H' fun σ2 H2 => wipe σ2 vs = wipe σ vs ∧ tt σ2 H2 fun b H3 => if b = true then te σ2 H3 fun y H4 => kTurn D (kNx S i D) y H4 else kNx S i D H3)
    (hd : ∀ acc F O D H, S n acc F O → Has F ((D, .lst acc) :: O) H → Q (.ref D) H) : kLc J g tt te vs σ H Q := by
  intro D hD
  refine ⟨fun i m H => m = n - i ∧ i ≤ n ∧ ∃ acc F O, S i acc F O ∧ Has F ((D, .lst acc) :: O) H, ⟨n, by simp, Nat.zero_le _, [], F, O, h0, hH.new hD⟩, ?_⟩
  rintro i m H1 ⟨rfl, hi, acc, F1, O1, s1, hH1⟩
  by_cases hlt : i < n
  · exact .inr ⟨go i acc F1 O1 D H1 hlt s1 hH1, kNx S i D, fun H' p => ⟨n - (i + 1), by omega, rfl, hlt, p⟩, fun x H' y => hs i x acc F1 O1 D H1 H' hlt y s1 hH1⟩
  · have e : i = n := by omega
    subst e
    exact .inl ⟨stop acc F1 O1 D H1 s1 hH1, hd acc F1 O1 D H1 s1 hH1⟩
/-- over a list that stands still -/
theorem k_lcL {a : Addr} {xs : List V} {tt : TT} {vs : List Nat} (h : H a = some (.lst xs)) (hH : Has F O H) (S : Nat → List V → Hp → Own → Prop) (h0 : S 0 [] F O) (hl : ∀ i acc F O H, S i acc F O → Has F O H → H a = some (.lst xs))
    (hs : ∀ i x acc F O D H, xs[i]? = some x → S i acc F O → Has F ((D, .lst acc) :: O) H → g x (wipe σ vs) H fun σ2 H2 => wipe σ2 vs = wipe σ vs ∧ tt σ2 H2 fun b H3 => if b = true then te σ2 H3 fun y H4 => kTurn D (kNx S i D) y H4 else kNx S i D H3)
    (hd : ∀ acc F O D H, S xs.length acc F O → Has F ((D, .lst acc) :: O) H → Q (.ref D) H) : kLcL K g tt te vs σ (.ref a) H Q := by
  refine ⟨a, rfl, ⟨xs, SqL.of h⟩, k_lc hH xs.length S h0 (fun i acc F O D H hi s hh => ?_) (fun acc F O D H s hh => ?_) (fun i x acc F O D H H' hi y s hh => ?_) hd⟩
  · exact ⟨xs, xs[i], SqL.of (hl i acc F O H s hh.drop), List.getElem?_eq_getElem hi⟩
  · exact ⟨xs, SqL.of (hl _ acc F O H s hh.drop), Nat.le_refl _⟩
  · obtain ⟨e, y⟩ := y
    subst e
    exact hs i x acc F O D _ (y xs (SqL.of (hl i acc F O _ s hh.drop))) s hh
theorem k_lcR1 {j : Int} {tt : TT} {vs : List Nat} (h1 : -(2 ^ 62) ≤ j) (h2 : j < 2 ^ 62) (hH : Has F O H) (S : Nat → List V → Hp → Own → Prop) (h0 : S 0 [] F O)
    (hs : ∀ i acc F O D H, i < j.toNat → S i acc F O → Has F ((D, .lst acc) :: O) H → g (.int (i : Int)) (wipe σ vs) H fun σ2 H2 => wipe σ2 vs = wipe σ vs ∧ tt σ2 H2 fun b H3 => if b = true then te σ2 H3 fun y H4 => kTurn D (kNx S i D) y H4 else kNx S i D H3)
    (hd : ∀ acc F O D H, S j.toNat acc F O → Has F ((D, .lst acc) :: O) H → Q (.ref D) H) : kLcR1 g tt te vs σ [.int j] H Q := by
  refine ⟨j, rfl, h1, h2, k_lc hH j.toNat S h0 (fun i acc F O D H hi s hh => hi) (fun acc F O D H s hh => Nat.le_refl _) (fun i x acc F O D H H' hi y s hh => ?_) hd⟩
  obtain ⟨e, y⟩ := y
  subst e y
  rw [Int.zero_add]
  exact hs i acc F O D _ hi s hh
end

/-! ### the rules' own soundness: one operator for several kinds -/
section
variable {X : Cx}
theorem op_addA : OpR X (binaryOp .Add) (rAdd X.K) := by
  intro pins s σ H x y v u Q I rx ry h
  rcases h with (h | h) | h | h
  · exact op_add pins s σ H x y v u Q I rx ry h
  · exact op_add_str pins s σ H x y v u Q I rx ry h
  · exact op_cat pins s σ H x y v u Q I rx ry h
  · exact op_catA pins s σ H x y v u Q I rx ry h
theorem op_mulA : OpR X (binaryOp .Mult) rMul := by
  intro pins s σ H x y v u Q I rx ry h
  rcases h with h | h
  · exact op_mul pins s σ H x y v u Q I rx ry h
  · exact op_rep pins s σ H x y v u Q I rx ry h
theorem op_eqA (hu : X.A.units + 64 < cLine) : OpR X (compareOp .Eq) (rEqA X.K) := by
  intro pins s σ H x y v u Q I rx ry h
  rcases h with h | h
  · exact op_eq pins s σ H x y v u Q I rx ry h
  · exact op_eqD hu pins s σ H x y v u Q I rx ry h
theorem op_neA (hu : X.A.units + 64 < cLine) : OpR X (compareOp .NotEq) (rNeA X.K) := by
  intro pins s σ H x y v u Q I rx ry h
  rcases h with h | h
  · exact op_ne pins s σ H x y v u Q I rx ry h
  · exact op_neD hu pins s σ H x y v u Q I rx ry h
theorem op_isNA : OpR X (compareOp .Is) rIsN := op_isN
theorem op_notNA : OpR X (compareOp .IsNot) rNotN := op_notN
theorem cr_len : CallR X (.builtin "len") (rLen X.K) := by
  intro pins s σ H xs us Q I r h
  rcases h with h | h
  · exact call_len_seq pins s σ H xs us Q I r h
  · exact call_len_str pins s σ H xs us Q I r h
theorem cr_int1 : CallR X (.type "int") rInt1 := call_int1
theorem cr_abs1 : CallR X (.builtin "abs") rAbs1 := call_abs
theorem cr_max2 (hc : X.calm = true) : CallR X (.builtin "max") rMax2 := call_max2 hc
theorem cr_listOf : CallR X (.type "list") (rListOf X.K) := call_list_of
theorem cr_tupleOf : CallR X (.type "tuple") (rTupleOf X.K) := call_tuple_of
end

/-! ### dicts -/
def rInDc : R2 := fun x y H Q => ∃ a o, y = .ref a ∧ DGet H a x o ∧ Q (.bl o.isSome) H
def rNotInDc : R2 := fun x y H Q => ∃ a o, y = .ref a ∧ DGet H a x o ∧ Q (.bl (!o.isSome)) H
section
variable {X : Cx}
theorem op_inDc (hu : X.A.units + 1 < cLine) : OpR X (compareOp .In) rInDc := by
  intro pins s σ H x y v u Q I rx ry h
  obtain ⟨a, o, rfl, g, q⟩ := h
  cases ry
  exact d_in hu I g rx fun s' I' => ⟨.bl _, H, I', rfl, q⟩
theorem op_notinDc (hu : X.A.units + 1 < cLine) : OpR X (compareOp .NotIn) rNotInDc := by
  intro pins s σ H x y v u Q I rx ry h
  obtain ⟨a, o, rfl, g, q⟩ := h
  cases ry
  exact d_notIn hu I g rx fun s' I' => ⟨.bl _, H, I', rfl, q⟩
end
def kGet2 (ty tx : TE) (σ : L2.St) (x : V) (H : Hp) (Q : VK) : Prop := ∃ a, x = .ref a ∧ IsD H a ∧ ty σ H fun y H2 => tx σ H2 fun z H3 => ∃ o, DGet H3 a y o ∧ Q (o.getD z) H3
def kGot (a : Addr) (y z : V) (H : Hp) (Q : VK) : Prop := ∃ o, DGet H a y o ∧ Q (o.getD z) H
section
variable {K : PySem.W.Frag} {σ : L2.St} {F : Hp} {O O' : Own} {H : Hp} {Q : VK} {ta tb tc te : TE} {x y v : V} {D : Ends} {t1 t2 ts : TS} {g : TG}
theorem g_dnew (hH : Has F O H) (q : ∀ p H', H p = none → Has F ((p, .dK []) :: O) H' → Q (.ref p) H') : tDNewK σ H Q := fun p n => q p _ n (hH.new n)
theorem g_inDI {a : Addr} {kvs : List (Key × V)} {i : Int} (h : H a = some (.dK kvs)) (q : Q (.bl (valV kvs (.inl i)).isSome) H) : rInDc (.int i) (.ref a) H Q := ⟨a, _, rfl, DGet.k (k := .inl i) h, q⟩
theorem g_notinDI {a : Addr} {kvs : List (Key × V)} {i : Int} (h : H a = some (.dK kvs)) (q : Q (.bl (!(valV kvs (.inl i)).isSome)) H) : rNotInDc (.int i) (.ref a) H Q := ⟨a, _, rfl, DGet.k (k := .inl i) h, q⟩
theorem g_setDI {R : L2.St → Hp → Prop} {a : Addr} {kvs : List (Key × V)} {i : Int} (hH : Has F O H) (c : Chg O a (.dK kvs) (.dK (putK kvs (.inl i) v)) O') (hl : kvs.length < sizeLine) (q : ∀ H', Has F O' H' → R σ H') : kSet rSetD R σ (.ref a) (.int i) v H :=
  ⟨a, _, rfl, DPut.k (k := .inl i) (hH.get c.mem) hl, q _ (hH.put c)⟩
theorem g_get2 (q : ta σ H fun x H1 => kGet2 tb tc σ x H1 Q) : tDGet2 ta tb tc σ H Q := q
theorem g_kget2 {a : Addr} {kvs : List (Key × V)} (h : H a = some (.dK kvs)) (q : tb σ H fun y H2 => tc σ H2 fun z H3 => kGot a y z H3 Q) : kGet2 tb tc σ (.ref a) H Q := ⟨a, rfl, .inl ⟨kvs, .inl h⟩, q⟩
theorem g_kgotI {a : Addr} {kvs : List (Key × V)} {i : Int} {z : V} (h : H a = some (.dK kvs)) (q : Q ((valV kvs (.inl i)).getD z) H) : kGot a (.int i) z H Q := ⟨_, DGet.k (k := .inl i) h, q⟩
theorem g_kgotS {a : Addr} {kvs : List (Key × V)} {i : Str} {z : V} (h : H a = some (.dK kvs)) (q : Q ((valV kvs (.inr i)).getD z) H) : kGot a (.str i) z H Q := ⟨_, DGet.k (k := .inr i) h, q⟩
end

/-! ### in, not in; o[i] = v: any of the kinds -/
def rInA (K : PySem.W.Frag) : R2 := fun x y H Q => (rIn K false x y H Q ∨ rInDc x y H Q) ∨ (∃ i j, x = .str i ∧ y = .str j ∧ Q (.bl (!(Builtin.Str.occurrences j i 0 j.length 1).isEmpty)) H) ∨ rInD K x y H Q
def rNotInA (K : PySem.W.Frag) : R2 := fun x y H Q => (rIn K true x y H Q ∨ rNotInDc x y H Q) ∨ (∃ i j, x = .str i ∧ y = .str j ∧ Q (.bl (!(!(Builtin.Str.occurrences j i 0 j.length 1).isEmpty))) H) ∨ rNotInD K x y H Q
def rSetA : TSet := fun o i v H Q => rSetL o i v H Q ∨ rSetD o i v H Q
section
variable {X : Cx}
theorem op_inA (hu : X.A.units + 64 < cLine) (hu' : X.A.units + 65 < cLine) : OpR X (compareOp .In) (rInA X.K) := by
  intro pins s σ H x y v u Q I rx ry h
  rcases h with (h | h) | h | h
  · exact op_in_seq pins s σ H x y v u Q I rx ry h
  · exact op_inDc (by omega) pins s σ H x y v u Q I rx ry h
  · exact op_in_str pins s σ H x y v u Q I rx ry h
  · exact op_inD hu' pins s σ H x y v u Q I rx ry h
theorem op_notinA (hu : X.A.units + 64 < cLine) (hu' : X.A.units + 65 < cLine) : OpR X (compareOp .NotIn) (rNotInA X.K) := by
  intro pins s σ H x y v u Q I rx ry h
  rcases h with (h | h) | h | h
  · exact op_notIn_seq pins s σ H x y v u Q I rx ry h
  · exact op_notinDc (by omega) pins s σ H x y v u Q I rx ry h
  · exact L2.op_notIn_str pins s σ H x y v u Q I rx ry h
  · exact op_notInD hu' pins s σ H x y v u Q I rx ry h
theorem set_any (hu : X.A.units + 1 < cLine) : PSet X rSetA := by
  intro pins s σ H o i v ov iv u Q I ro ri rv h
  rcases h with h | h
  · exact set_list pins s σ H o i v ov iv u Q I ro ri rv h
  · exact set_dict hu pins s σ H o i v ov iv u Q I ro ri rv h
theorem u65 {k : Nat} {A : Around} (r : Room k A) : A.units + 65 < cLine := by have := r.un; omega
end
section
variable {K : PySem.W.Frag} {σ : L2.St} {F : Hp} {O O' : Own} {H : Hp} {Q : VK} {x y v : V}
theorem g_inFL {a : Addr} {xs : List V} (h : H a = some (.lst xs)) (hx : flatV x = true) (hf : xs.all flatV = true) (q : Q (.bl (inV x xs)) H) : rInA K x (.ref a) H Q := .inl (.inl ⟨a, xs, rfl, .inl (SqL.of h), hx, hf, q⟩)
theorem g_notinFL {a : Addr} {xs : List V} (h : H a = some (.lst xs)) (hx : flatV x = true) (hf : xs.all flatV = true) (q : Q (.bl (!inV x xs)) H) : rNotInA K x (.ref a) H Q := .inl (.inl ⟨a, xs, rfl, .inl (SqL.of h), hx, hf, q⟩)
theorem g_inI {a : Addr} {kvs : List (Key × V)} {i : Int} (h : H a = some (.dK kvs)) (q : Q (.bl (valV kvs (.inl i)).isSome) H) : rInA K (.int i) (.ref a) H Q := .inl (.inr ⟨a, _, rfl, DGet.k (k := .inl i) h, q⟩)
theorem g_notinI {a : Addr} {kvs : List (Key × V)} {i : Int} (h : H a = some (.dK kvs)) (q : Q (.bl (!(valV kvs (.inl i)).isSome)) H) : rNotInA K (.int i) (.ref a) H Q := .inl (.inr ⟨a, _, rfl, DGet.k (k := .inl i) h, q⟩)
theorem g_inS {a : Addr} {kvs : List (Key × V)} {i : Str} (h : H a = some (.dK kvs)) (q : Q (.bl (valV kvs (.inr i)).isSome) H) : rInA K (.str i) (.ref a) H Q := .inl (.inr ⟨a, _, rfl, DGet.k (k := .inr i) h, q⟩)
theorem g_notinS {a : Addr} {kvs : List (Key × V)} {i : Str} (h : H a = some (.dK kvs)) (q : Q (.bl (!(valV kvs (.inr i)).isSome)) H) : rNotInA K (.str i) (.ref a) H Q := .inl (.inr ⟨a, _, rfl, DGet.k (k := .inr i) h, q⟩)
theorem g_stL {R : L2.St → Hp → Prop} {a : Addr} {xs : List V} {k : Int} {j : Nat} (hH : Has F O H) (c : Chg O a (.lst xs) (.lst (xs.set j v)) O') (hj : ixN xs.length k = some j) (q : ∀ H', Has F O' H' → R σ H') : kSet rSetA R σ (.ref a) (.int k) v H :=
  .inl ⟨a, xs, k, j, rfl, rfl, hH.get c.mem, hj, q _ (hH.put c)⟩
theorem g_stD {R : L2.St → Hp → Prop} {a : Addr} {kvs : List (Key × V)} {k : Key} {z : V} (ez : z = kV k) (hH : Has F O H) (c : Chg O a (.dK kvs) (.dK (putK kvs k v)) O') (hl : kvs.length < sizeLine) (q : ∀ H', Has F O' H' → R σ H') : kSet rSetA R σ (.ref a) z v H := by
  subst ez
  exact .inr ⟨a, _, rfl, DPut.k (hH.get c.mem) hl, q _ (hH.put c)⟩
end

/-! ### an argument that is changed -/
def rm (H : Hp) (a : Addr) : Hp := fun b => if b = a then none else H b
/-- all but a stands as it stood -/
def But (a : Addr) (H H' : Hp) : Prop := ∀ b u, b ≠ a → H b = some u → H' b = some u
theorem rm_at {H : Hp} {a : Addr} : rm H a a = none := if_pos rfl
theorem rm_ne {H : Hp} {a b : Addr} (h : b ≠ a) : rm H a b = H b := if_neg h
theorem Has.arg {H : Hp} {a : Addr} {o : HO} (h : H a = some o) : Has (rm H a) [(a, o)] H := by
  refine ⟨fun b u q => ?_, fun p hp => ?_, by simp⟩
  · by_cases e : b = a
    · subst e; rw [rm_at] at q; cases q
    · rw [rm_ne e] at q; exact q
  · have e : p = (a, o) := by simpa using hp
    subst e
    exact ⟨rm_at, h⟩
theorem But.of {H H' : Hp} {a : Addr} (h : Same (rm H a) H') : But a H H' := fun b u ne q => h b u (by rw [rm_ne ne]; exact q)
theorem But.trans {a : Addr} {H H1 H2 : Hp} (x : But a H H1) (y : But a H1 H2) : But a H H2 := fun b u ne q => y b u ne (x b u ne q)
theorem But.same {a : Addr} {H H1 H2 : Hp} (x : But a H H1) (y : Same H1 H2) : But a H H2 := fun b u ne q => y b u (x b u ne q)
section
variable {K : PySem.W.Frag} {σ : L2.St} {F : Hp} {O O' : Own} {H : Hp} {Q : VK} {x y v : V}
/-- a test by a fact about its answer -/
theorem g_fact {t : TT} {R : Bool → Hp → Prop} (C : Bool → Prop) (h : ∀ R : Bool → Hp → Prop, (∀ b, C b → R b H) → t σ H R) (q : ∀ b, C b → R b H) : t σ H R := h R q
theorem g_ixV {a : Addr} {xs : List V} {i : Int} (h : H a = some (.lst xs)) (h0 : 0 ≤ i) (hl : i < xs.length) (q : ∀ v, xs[i.toNat]? = some v → Q v H) : rIxA K (.ref a) (.int i) H Q := by
  have e : i.toNat < xs.length := by omega
  exact g_ixL h (at_n h0 (List.getElem?_eq_getElem e)) (q _ (List.getElem?_eq_getElem e))
theorem g_ixI {a : Addr} {xs : List Int} {i : Int} (h : H a = some (.lst (xs.map V.int))) (h0 : 0 ≤ i) (hl : i < xs.length) (q : ∀ z, xs[i.toNat]? = some z → Q (.int z) H) : rIxA K (.ref a) (.int i) H Q := by
  have e : i.toNat < xs.length := by omega
  refine g_ixL h (at_n h0 (v := .int xs[i.toNat]) ?_) (q _ (List.getElem?_eq_getElem e))
  rw [List.getElem?_map, List.getElem?_eq_getElem e]
  rfl
theorem g_ixZ {a : Addr} {xs : List Str} {i : Int} (h : H a = some (.lst (xs.map V.str))) (h0 : 0 ≤ i) (hl : i < xs.length) (q : ∀ z, xs[i.toNat]? = some z → Q (.str z) H) : rIxA K (.ref a) (.int i) H Q := by
  have e : i.toNat < xs.length := by omega
  refine g_ixL h (at_n h0 (v := .str xs[i.toNat]) ?_) (q _ (List.getElem?_eq_getElem e))
  rw [List.getElem?_map, List.getElem?_eq_getElem e]
  rfl
theorem g_stI {R : L2.St → Hp → Prop} {a : Addr} {xs : List Int} {k z : Int} (hH : Has F O H) (c : Chg O a (.lst (xs.map V.int)) (.lst ((xs.set k.toNat z).map V.int)) O') (h0 : 0 ≤ k) (hl : k < xs.length) (q : ∀ H', Has F O' H' → R σ H') : kSet rSetA R σ (.ref a) (.int k) (.int z) H := by
  refine g_stL (xs := xs.map V.int) (j := k.toNat) hH ?_ (ixN_nat h0 (by rw [List.length_map]; exact hl)) q
  rw [← List.map_set]
  exact c
theorem g_popAtI {a : Addr} {xs : List Int} {i : Int} (hH : Has F O H) (c : Chg O a (.lst (xs.map V.int)) (.lst ((xs.eraseIdx i.toNat).map V.int)) O') (h0 : 0 ≤ i) (hl : i < xs.length) (h2 : xs.length ≤ 1000) (q : ∀ H' z, Has F O' H' → Q (.int z) H') : rPopAt (.ref a) [.int i] H Q := by
  have e : i.toNat < xs.length := by omega
  refine g_popAt (xs := xs.map V.int) (k := i.toNat) (y := .int xs[i.toNat]) hH ?_ (by omega) (by omega) ?_ ?_ (fun H' h => q H' _ h)
  · have : (xs.map V.int).eraseIdx i.toNat = (xs.eraseIdx i.toNat).map V.int := by
      rw [List.eraseIdx_eq_take_drop_succ, List.eraseIdx_eq_take_drop_succ, List.map_append, List.map_take, List.map_drop]
    rw [this]
    exact c
  · have := (ixN_seq (n := (xs.map V.int).length) (i := i) (j := i.toNat) (ixN_nat h0 (by rw [List.length_map]; exact hl))).1
    exact this
  · rw [List.getElem?_map, List.getElem?_eq_getElem e]
    rfl
end
theorem sz {n : Nat} (h : n ≤ 100000) : n ≤ sizeLine := by rw [sizeLine_eq]; omega
theorem szl {n : Nat} (h : n < 100000) : n < sizeLine := by rw [sizeLine_eq]; omega

section
variable {K : PySem.W.Frag} {σ : L2.St} {F : Hp} {O O' : Own} {H : Hp} {Q : VK} {x y v : V} {te ta : TE}
theorem g_yes {R : Bool → Hp → Prop} (q : R true H) : tYes σ H R := q
theorem g_wipe {σ1 σ2 : L2.St} {B : Prop} (e : σ1 = σ2) (q : B) : σ1 = σ2 ∧ B := ⟨e, q⟩
def kOI (x : V) (H : Hp) (R : Option Int → Hp → Prop) : Prop := ∃ i, x = .int i ∧ R (some i) H
theorem g_part {R : Option Int → Hp → Prop} (q : te σ H fun x H1 => kOI x H1 R) : tPart te σ H R := q
theorem g_kOI {R : Option Int → Hp → Prop} {i : Int} (q : R (some i) H) : kOI (.int i) H R := ⟨i, rfl, q⟩
theorem g_nopart {R : Option Int → Hp → Prop} (q : R none H) : tNoPart σ H R := q
theorem g_slice {r : V → Option Int → Option Int → Hp → VK → Prop} {tl th : TO} (q : te σ H fun x H1 => tl σ H1 fun l H2 => th σ H2 fun u H3 => r x l u H3 Q) : tSl r te tl th σ H Q := q
def rSlB (K : PySem.W.Frag) : V → Option Int → Option Int → Hp → VK → Prop := fun x lo hi H Q => rSlL K x lo hi H Q ∨ rSlA K x lo hi H Q
theorem g_slS {a : Addr} {xs : List V} {lo hi : Option Int} (h : SqL K H a xs) (hH : Has F O H) (q : ∀ p H', H p = none → Has F ((p, .lst (cutV xs lo hi)) :: O) H' → Q (.ref p) H') : rSlB K (.ref a) lo hi H Q := .inl ⟨a, xs, rfl, h, fun p n => q p _ n (hH.new n)⟩
theorem g_slTF {a : Addr} {xs : List V} {lo hi : Option Int} (h : F a = some (.tup xs)) (hH : Has F O H) (q : ∀ p H' F', Same F F' → F' p = some (.tup (cutV xs lo hi)) → Has F' O H' → Q (.ref p) H') : rSlB K (.ref a) lo hi H Q :=
  .inr ⟨a, xs, rfl, SqT.of (hH.same _ _ h), fun w => q a H F (Same.refl _) (by
    have e : cutV xs lo hi = xs := by
      unfold cutV
      rw [w.1, w.2, List.drop_zero, Nat.sub_zero, List.take_length]
    rw [e]; exact h) hH, fun _ p n => q p _ (upd F p (.tup (cutV xs lo hi))) (same_upd (hH.same.free n)) upd_same (hH.new n).frz⟩
theorem g_addTF {a b : Addr} {xs ys : List V} (h1 : F a = some (.tup xs)) (h2 : F b = some (.tup ys)) (hl : xs.length + ys.length ≤ sizeLine) (hH : Has F O H) (q : ∀ p H' F', Same F F' → F' p = some (.tup (xs ++ ys)) → Has F' O H' → Q (.ref p) H') : rAdd K (.ref a) (.ref b) H Q :=
  .inr (.inr ⟨a, b, xs, ys, rfl, rfl, SqT.of (hH.same _ _ h1), SqT.of (hH.same _ _ h2), hl, fun e => q b H F (Same.refl _) (by rw [e]; exact h2) hH, fun _ e => q a H F (Same.refl _) (by rw [e, List.append_nil]; exact h1) hH,
    fun _ _ p n => q p _ (upd F p (.tup (xs ++ ys))) (same_upd (hH.same.free n)) upd_same (hH.new n).frz⟩)
theorem g_slL {a : Addr} {xs : List V} {lo hi : Option Int} (h : H a = some (.lst xs)) (hH : Has F O H) (q : ∀ p H', H p = none → Has F ((p, .lst (cutV xs lo hi)) :: O) H' → Q (.ref p) H') : rSlB K (.ref a) lo hi H Q := g_slS (SqL.of h) hH q
theorem cutV_ints (ns : List Int) (lo hi : Option Int) : ∃ ms : List Int, cutV (ns.map V.int) lo hi = ms.map V.int ∧ ms.length ≤ ns.length := by
  refine ⟨(ns.drop (HT.sIx ns.length 0 lo)).take (HT.sIx ns.length ns.length hi - HT.sIx ns.length 0 lo), ?_, ?_⟩
  · unfold cutV
    rw [List.length_map, List.map_take, List.map_drop]
  · rw [List.length_take, List.length_drop]
    omega
theorem g_revL {a : Addr} {xs : List V} (h : H a = some (.lst xs)) (hH : Has F O H) (q : ∀ p H', H p = none → Has F ((p, .lst xs.reverse) :: O) H' → Q (.ref p) H') : (∃ b ys, V.ref a = .ref b ∧ SqL K H b ys ∧ ∀ p, H p = none → Q (.ref p) (upd H p (.lst ys.reverse))) :=
  ⟨a, xs, rfl, SqL.of h, fun p n => q p _ n (hH.new n)⟩
theorem g_tRev (q : te σ H fun x H1 => rRevL K x H1 Q) : tRevL K te σ H Q := q
theorem g_rRev {a : Addr} {xs : List V} (h : H a = some (.lst xs)) (hH : Has F O H) (q : ∀ p H', H p = none → Has F ((p, .lst xs.reverse) :: O) H' → Q (.ref p) H') : rRevL K (.ref a) H Q := ⟨a, xs, rfl, SqL.of h, fun p n => q p _ n (hH.new n)⟩
/-- an item of a list of texts that are in order, of ints from 0 to n -/
def okS : V → Bool
  | .str z => PyData.strOk z
  | _ => false
def okI (n : Int) : V → Bool
  | .int z => decide (0 ≤ z ∧ z ≤ n)
  | _ => false
theorem g_ixM {a : Addr} {xs : List V} {i : Int} (h : H a = some (.lst xs)) (ok : xs.all okS = true) (h0 : 0 ≤ i) (hl : i < xs.length) (q : ∀ z, PyData.strOk z = true → Q (.str z) H) : rIxA K (.ref a) (.int i) H Q := by
  refine g_ixV h h0 hl fun v hv => ?_
  have m := List.all_eq_true.mp ok v (List.mem_of_getElem? hv)
  cases v with
  | str z => exact q z m
  | _ => cases m
theorem g_ixN {n : Int} {a : Addr} {xs : List V} {i : Int} (h : H a = some (.lst xs)) (ok : xs.all (okI n) = true) (h0 : 0 ≤ i) (hl : i < xs.length) (q : ∀ z, 0 ≤ z → z ≤ n → Q (.int z) H) : rIxA K (.ref a) (.int i) H Q := by
  refine g_ixV h h0 hl fun v hv => ?_
  have m := List.all_eq_true.mp ok v (List.mem_of_getElem? hv)
  cases v with
  | int z =>
    have := of_decide_eq_true (show decide (0 ≤ z ∧ z ≤ n) = true from m)
    exact q z this.1 this.2
  | _ => cases m
end

/-! ### tables of ints: a list of rows -/
def rowO (r : Addr × List Int) : Addr × HO := (r.1, .lst (r.2.map V.int))
def tabO (t : Addr) (rows : List (Addr × List Int)) : Own := (t, .lst (rows.map fun r => V.ref r.1)) :: rows.map rowO
theorem Chg.row {r : Addr × List Int} {zs : List Int} {O : Own} : ∀ {rows : List (Addr × List Int)} {k : Nat}, rows[k]? = some r → Chg (rows.map rowO ++ O) r.1 (.lst (r.2.map V.int)) (.lst (zs.map V.int)) ((rows.set k (r.1, zs)).map rowO ++ O)
  | [], k, h => by simp at h
  | x :: rows, 0, h => by
    have e : x = r := Option.some.inj h
    subst e
    exact .hd
  | x :: rows, k + 1, h => .tl (Chg.row (rows := rows) (k := k) h)
theorem rows_ref {r : Addr × List Int} {zs : List Int} : ∀ {rows : List (Addr × List Int)} {k : Nat}, rows[k]? = some r → (rows.set k (r.1, zs)).map (fun r => V.ref r.1) = rows.map fun r => V.ref r.1
  | [], k, h => by simp at h
  | x :: rows, 0, h => by
    have e : x = r := Option.some.inj h
    subst e
    rfl
  | x :: rows, k + 1, h => by
    have := rows_ref (rows := rows) (k := k) (zs := zs) h
    show V.ref x.1 :: (rows.set k (r.1, zs)).map (fun r => V.ref r.1) = _
    rw [this]
    rfl
section
variable {K : PySem.W.Frag} {σ : L2.St} {F : Hp} {O O' : Own} {H : Hp} {Q : VK} {t : Addr} {rows : List (Addr × List Int)}
theorem Has.row {r : Addr × List Int} {k : Nat} (hH : Has F (tabO t rows ++ O) H) (hr : rows[k]? = some r) : H r.1 = some (.lst (r.2.map V.int)) :=
  hH.get (List.mem_append_left _ (List.mem_cons_of_mem _ (List.mem_map.mpr ⟨r, List.mem_of_getElem? hr, rfl⟩)))
theorem Has.tab (hH : Has F (tabO t rows ++ O) H) : H t = some (.lst (rows.map fun r => V.ref r.1)) := hH.get (List.mem_append_left _ List.mem_cons_self)
theorem g_ixRow {i : Int} (hH : Has F (tabO t rows ++ O) H) (h0 : 0 ≤ i) (hl : i < rows.length) (q : ∀ r, rows[i.toNat]? = some r → H r.1 = some (.lst (r.2.map V.int)) → Q (.ref r.1) H) : rIxA K (.ref t) (.int i) H Q := by
  have e : i.toNat < rows.length := by omega
  have hr := List.getElem?_eq_getElem e
  refine g_ixL hH.tab (at_n h0 (v := .ref rows[i.toNat].1) ?_) (q _ hr (hH.row hr))
  rw [List.getElem?_map, hr]
  rfl
theorem g_setRow {R : L2.St → Hp → Prop} {r : Addr × List Int} {k : Nat} {j z : Int} (hH : Has F (tabO t rows ++ O) H) (hr : rows[k]? = some r) (h0 : 0 ≤ j) (hl : j < r.2.length) (q : ∀ H', Has F (tabO t (rows.set k (r.1, r.2.set j.toNat z)) ++ O) H' → R σ H') :
    kSet rSetA R σ (.ref r.1) (.int j) (.int z) H := by
  refine g_stI hH (xs := r.2) ?_ h0 hl q
  have c := Chg.row (O := O) (zs := r.2.set j.toNat z) hr
  unfold tabO
  rw [List.cons_append, List.cons_append, rows_ref hr]
  exact .tl c
end

/-! ### the rules with the written part by its name -/
section
variable {X : Cx}
theorem op_addK (K : PySem.W.Frag) (e : X.K = K := by rfl) : OpR X (binaryOp .Add) (rAdd K) := by subst e; exact op_addA
theorem op_eqK (K : PySem.W.Frag) (hu : X.A.units + 64 < cLine) (e : X.K = K := by rfl) : OpR X (compareOp .Eq) (rEqA K) := by subst e; exact op_eqA hu
theorem op_neK (K : PySem.W.Frag) (hu : X.A.units + 64 < cLine) (e : X.K = K := by rfl) : OpR X (compareOp .NotEq) (rNeA K) := by subst e; exact op_neA hu
theorem op_inK (K : PySem.W.Frag) (hu : X.A.units + 64 < cLine) (hu' : X.A.units + 65 < cLine) (e : X.K = K := by rfl) : OpR X (compareOp .In) (rInA K) := by subst e; exact op_inA hu hu'
theorem op_notinK (K : PySem.W.Frag) (hu : X.A.units + 64 < cLine) (hu' : X.A.units + 65 < cLine) (e : X.K = K := by rfl) : OpR X (compareOp .NotIn) (rNotInA K) := by subst e; exact op_notinA hu hu'
theorem ix_dict (hu : X.A.units + 1 < cLine) : IxR X rIxD := by
  intro value slice pins s σ H x y v u Q I rx ry h hs
  obtain ⟨a, z, rfl, g, q⟩ := h
  cases rx
  have hT := dict_typeIs I g
  have fin : wpAny (model X.prog X.w) X.A (subscripted slice false (.ref a) u) (fun r s₃ => wpAny (model X.prog X.w) X.A (letTemporaryGo value (.ref a) r >>= fun _ => pure r) (EP X pins σ Q) X.xe s₃) X.xe s := by
    rw [hs]
    exact wpAny_operating (wpAny_mono (d_getItem hu I g ry (Q := fun r s' => EP X pins σ Q r s') fun w' s3 I3 rw' => ⟨z, H, I3, rw', q⟩) (fun r s₃ h₃ => wpAny_bind (wpAny_letTemporaryGo (wpAny_pure h₃))) fun _ _ x => x)
  unfold subscriptTail
  refine wpAny_bind ?_
  rw [getitemInPython_of_ne hT.not_modules]
  refine wpAny_bind (wpAny_specialOf hT PySem.F.slot_dict_getitem.lookup ?_)
  first
    | exact wpAny_pure (wpAny_bind fin)
    | exact wpAny_bind (wpAny_pure (wpAny_bind fin))
    | exact wpAny_bind fin
theorem ix_K (K : PySem.W.Frag) (hu : X.A.units + 1 < cLine) (e : X.K = K := by rfl) : IxR X (rIxA K) := by subst e; exact ix_seq.or (ix_dict hu)
theorem cr_lenK (K : PySem.W.Frag) (e : X.K = K := by rfl) : CallR X (.builtin "len") (rLen K) := by subst e; exact cr_len
theorem cr_listK (K : PySem.W.Frag) (e : X.K = K := by rfl) : CallR X (.type "list") (rListOf K) := by subst e; exact cr_listOf
theorem cr_tupleK (K : PySem.W.Frag) (e : X.K = K := by rfl) : CallR X (.type "tuple") (rTupleOf K) := by subst e; exact cr_tupleOf
theorem sl_all : SlR X (rSlB X.K) := by
  intro pins s σ H x v vl vu lo hi sl Q I rx hs pl pu h
  rcases h with h | h
  · exact sl_list pins s σ H x v vl vu lo hi sl Q I rx hs pl pu h
  · exact sl_tupA pins s σ H x v vl vu lo hi sl Q I rx hs pl pu h
theorem sl_K (K : PySem.W.Frag) (e : X.K = K := by rfl) : SlR X (rSlB K) := by subst e; exact sl_all
theorem k_bm {ex : Expr} {T : String} {r : V → List V → Hp → VK → Prop} {to : TE} {t : TA} (K : PySem.W.Frag) (h : PE X ex (tBM X.K T r to t)) (e : X.K = K := by rfl) : PE X ex (tBM K T r to t) := by subst e; exact h
theorem k_bm0 {ex : Expr} {T : String} {r : V → List V → Hp → VK → Prop} {to : TE} (K : PySem.W.Frag) (h : PE X ex (tBM0 X.K T r to)) (e : X.K = K := by rfl) : PE X ex (tBM0 K T r to) := by subst e; exact h
theorem k_rev {ex : Expr} {to : TE} (K : PySem.W.Frag) (h : PE X ex (tRevL X.K to)) (e : X.K = K := by rfl) : PE X ex (tRevL K to) := by subst e; exact h
theorem k_il {tg l : Expr} {tl : TE} (K : PySem.W.Frag) (h : PI X tg l (iList X.K tl)) (e : X.K = K := by rfl) : PI X tg l (iList K tl) := by subst e; exact h
theorem k_gt {tg : Expr} {n : Nat} {t : TGs} (K : PySem.W.Frag) (h : PG X tg (gTup X.K n t)) (e : X.K = K := by rfl) : PG X tg (gTup K n t) := by subst e; exact h
end
theorem g_start {t : TS} {D : Ends} {σ σ' : L2.St} {H : Hp} (e : σ = σ') (h : t D σ' H) : t D σ H := by subst e; exact h

theorem Has.argFree {H H' : Hp} {a D : Addr} {o : HO} {O : Own} (h : Has (rm H a) ((D, o) :: O) H') (m : a ∈ O.map (·.1)) : H D = none := by
  have nd : D ∉ O.map (·.1) ∧ (O.map (·.1)).Nodup := List.nodup_cons.mp (by have := h.nd; rw [List.map_cons] at this; exact this)
  have e := h.free
  rw [rm_ne (fun z => nd.1 (by rw [z]; exact m))] at e
  exact e

theorem Has.but2 {F H H' : Hp} {O O' : Own} {a p : Addr} {o o' op : HO} (h : Has F O H) (c : Chg O a o o' O') (hb : But a H H') (e : H' a = some o') (n : H p = none) (ep : H' p = some op) : Has F ((p, op) :: O') H' := by
  have h' := h.but c hb e
  refine ⟨h'.same, fun q hq => ?_, ?_⟩
  · rcases List.mem_cons.mp hq with rfl | hq
    · exact ⟨h.same.free n, ep⟩
    · exact h'.own q hq
  · rw [List.map_cons]
    refine List.nodup_cons.mpr ⟨fun m => ?_, h'.nd⟩
    rw [c.fst] at m
    obtain ⟨q, hq, e'⟩ := List.mem_map.mp m
    have z := (h.own q hq).2
    rw [e', n] at z
    cases z

theorem Has.mono {F F' H : Hp} {O : Own} (h : Has F O H) (s : Same F' F) : Has F' O H := ⟨s.trans h.same, fun q hq => ⟨s.free (h.own q hq).1, (h.own q hq).2⟩, h.nd⟩
theorem same_rm {F H : Hp} {a : Addr} (s : Same F H) (n : F a = none) : Same F (rm H a) := fun b u q => by
  rw [rm_ne (ne_of_none q n)]
  exact s b u q
theorem take_foldl {α β : Type} {f : β → α → β} {z : β} {l : List α} {i : Nat} {x : α} (h : l[i]? = some x) : (l.take (i + 1)).foldl f z = f ((l.take i).foldl f z) x := by
  rw [List.take_add_one, h, List.foldl_append]
  rfl

/-! ### isinstance -/
def rIsA (K : PySem.W.Frag) : List V → Hp → VK → Prop := fun xs H Q => rIsi K xs H Q ∨ rIsiT K xs H Q
theorem cr_isK {X : Cx} (K : PySem.W.Frag) (e : X.K = K := by rfl) : CallR X (.builtin "isinstance") (rIsA K) := by
  subst e
  intro pins s σ H xs us Q I r h
  rcases h with h | h
  · exact call_isi pins s σ H xs us Q I r h
  · exact call_isiT pins s σ H xs us Q I r h
theorem g_is {K : PySem.W.Frag} {H : Hp} {Q : VK} {x : V} {t n : String} {b : Bool} (ty : TyX K H x (.type t)) (e : kitB t n = some b) (q : Q (.bl b) H) : rIsA K [x, .ty n] H Q := .inl ⟨x, .ty n, _, _, b, rfl, .ty n, ty, kit_ty e, q⟩
theorem g_is2 {K : PySem.W.Frag} {H : Hp} {Q : VK} {x : V} {t n m : String} {a b : Bool} {tp : Addr} (h : H tp = some (.tup [.ty n, .ty m])) (ty : TyX K H x (.type t)) (ea : kitB t n = some a) (eb : kitB t m = some b) (q : Q (.bl (a || b)) H) : rIsA K [x, .ref tp] H Q := by
  refine .inr ⟨x, tp, _, _, _, a || b, rfl, h, .cons (.ty n) (.cons (.ty m) .nil), ty, ?_, q⟩
  refine kitAny_cons (kit_ty ea) (fun z => ?_) (fun z => by rw [z]; rfl)
  refine kitAny_cons (kit_ty eb) (fun y => ?_) (fun y => by rw [z, y]; rfl)
  rw [z, y]
  exact kitAny_nil
theorem kit_list_list : kitB "list" "list" = some true := by decide +kernel
theorem kit_list_tuple : kitB "list" "tuple" = some false := by decide +kernel
theorem kit_list_dict : kitB "list" "dict" = some false := by decide +kernel
theorem kit_list_int : kitB "list" "int" = some false := by decide +kernel
theorem kit_list_bool : kitB "list" "bool" = some false := by decide +kernel
theorem kit_list_str : kitB "list" "str" = some false := by decide +kernel
theorem kit_tuple_list : kitB "tuple" "list" = some false := by decide +kernel
theorem kit_tuple_tuple : kitB "tuple" "tuple" = some true := by decide +kernel
theorem kit_tuple_dict : kitB "tuple" "dict" = some false := by decide +kernel
theorem kit_tuple_int : kitB "tuple" "int" = some false := by decide +kernel
theorem kit_tuple_bool : kitB "tuple" "bool" = some false := by decide +kernel
theorem kit_tuple_str : kitB "tuple" "str" = some false := by decide +kernel
theorem kit_dict_list : kitB "dict" "list" = some false := by decide +kernel
theorem kit_dict_tuple : kitB "dict" "tuple" = some false := by decide +kernel
theorem kit_dict_dict : kitB "dict" "dict" = some true := by decide +kernel
theorem kit_dict_int : kitB "dict" "int" = some false := by decide +kernel
theorem kit_dict_bool : kitB "dict" "bool" = some false := by decide +kernel
theorem kit_dict_str : kitB "dict" "str" = some false := by decide +kernel
theorem kit_int_list : kitB "int" "list" = some false := by decide +kernel
theorem kit_int_tuple : kitB "int" "tuple" = some false := by decide +kernel
theorem kit_int_dict : kitB "int" "dict" = some false := by decide +kernel
theorem kit_int_int : kitB "int" "int" = some true := by decide +kernel
theorem kit_int_bool : kitB "int" "bool" = some false := by decide +kernel
theorem kit_int_str : kitB "int" "str" = some false := by decide +kernel
theorem kit_bool_list : kitB "bool" "list" = some false := by decide +kernel
theorem kit_bool_tuple : kitB "bool" "tuple" = some false := by decide +kernel
theorem kit_bool_dict : kitB "bool" "dict" = some false := by decide +kernel
theorem kit_bool_int : kitB "bool" "int" = some true := by decide +kernel
theorem kit_bool_bool : kitB "bool" "bool" = some true := by decide +kernel
theorem kit_bool_str : kitB "bool" "str" = some false := by decide +kernel
theorem kit_str_list : kitB "str" "list" = some false := by decide +kernel
theorem kit_str_tuple : kitB "str" "tuple" = some false := by decide +kernel
theorem kit_str_dict : kitB "str" "dict" = some false := by decide +kernel
theorem kit_str_int : kitB "str" "int" = some false := by decide +kernel
theorem kit_str_bool : kitB "str" "bool" = some false := by decide +kernel
theorem kit_str_str : kitB "str" "str" = some true := by decide +kernel
section
variable {K : PySem.W.Frag} {H : Hp} {Q : VK}
theorem is_list_list {a : Addr} {xs : List V} (h : H a = some (.lst xs)) (q : Q (.bl true) H) : rIsA K [.ref a, .ty "list"] H Q := g_is (.base (.lst h)) kit_list_list q
theorem is_list_tuple {a : Addr} {xs : List V} (h : H a = some (.lst xs)) (q : Q (.bl false) H) : rIsA K [.ref a, .ty "tuple"] H Q := g_is (.base (.lst h)) kit_list_tuple q
theorem is_list_dict {a : Addr} {xs : List V} (h : H a = some (.lst xs)) (q : Q (.bl false) H) : rIsA K [.ref a, .ty "dict"] H Q := g_is (.base (.lst h)) kit_list_dict q
theorem is_list_int {a : Addr} {xs : List V} (h : H a = some (.lst xs)) (q : Q (.bl false) H) : rIsA K [.ref a, .ty "int"] H Q := g_is (.base (.lst h)) kit_list_int q
theorem is_list_bool {a : Addr} {xs : List V} (h : H a = some (.lst xs)) (q : Q (.bl false) H) : rIsA K [.ref a, .ty "bool"] H Q := g_is (.base (.lst h)) kit_list_bool q
theorem is_list_str {a : Addr} {xs : List V} (h : H a = some (.lst xs)) (q : Q (.bl false) H) : rIsA K [.ref a, .ty "str"] H Q := g_is (.base (.lst h)) kit_list_str q
theorem is2_list {a : Addr} {xs : List V} (h : H a = some (.lst xs)) {tp : Addr} (hp : H tp = some (.tup [.ty "list", .ty "tuple"])) (q : Q (.bl true) H) : rIsA K [.ref a, .ref tp] H Q := g_is2 hp (.base (.lst h)) kit_list_list kit_list_tuple q
theorem is_tuple_list {a : Addr} {xs : List V} (h : H a = some (.tup xs)) (q : Q (.bl false) H) : rIsA K [.ref a, .ty "list"] H Q := g_is (.base (.tup h)) kit_tuple_list q
theorem is_tuple_tuple {a : Addr} {xs : List V} (h : H a = some (.tup xs)) (q : Q (.bl true) H) : rIsA K [.ref a, .ty "tuple"] H Q := g_is (.base (.tup h)) kit_tuple_tuple q
theorem is_tuple_dict {a : Addr} {xs : List V} (h : H a = some (.tup xs)) (q : Q (.bl false) H) : rIsA K [.ref a, .ty "dict"] H Q := g_is (.base (.tup h)) kit_tuple_dict q
theorem is_tuple_int {a : Addr} {xs : List V} (h : H a = some (.tup xs)) (q : Q (.bl false) H) : rIsA K [.ref a, .ty "int"] H Q := g_is (.base (.tup h)) kit_tuple_int q
theorem is_tuple_bool {a : Addr} {xs : List V} (h : H a = some (.tup xs)) (q : Q (.bl false) H) : rIsA K [.ref a, .ty "bool"] H Q := g_is (.base (.tup h)) kit_tuple_bool q
theorem is_tuple_str {a : Addr} {xs : List V} (h : H a = some (.tup xs)) (q : Q (.bl false) H) : rIsA K [.ref a, .ty "str"] H Q := g_is (.base (.tup h)) kit_tuple_str q
theorem is2_tuple {a : Addr} {xs : List V} (h : H a = some (.tup xs)) {tp : Addr} (hp : H tp = some (.tup [.ty "list", .ty "tuple"])) (q : Q (.bl true) H) : rIsA K [.ref a, .ref tp] H Q := g_is2 hp (.base (.tup h)) kit_tuple_list kit_tuple_tuple q
theorem is_dict_list {a : Addr} {kvs : List (Key × V)} (h : H a = some (.dK kvs)) (q : Q (.bl false) H) : rIsA K [.ref a, .ty "list"] H Q := g_is (.base (.dK h)) kit_dict_list q
theorem is_dict_tuple {a : Addr} {kvs : List (Key × V)} (h : H a = some (.dK kvs)) (q : Q (.bl false) H) : rIsA K [.ref a, .ty "tuple"] H Q := g_is (.base (.dK h)) kit_dict_tuple q
theorem is_dict_dict {a : Addr} {kvs : List (Key × V)} (h : H a = some (.dK kvs)) (q : Q (.bl true) H) : rIsA K [.ref a, .ty "dict"] H Q := g_is (.base (.dK h)) kit_dict_dict q
theorem is_dict_int {a : Addr} {kvs : List (Key × V)} (h : H a = some (.dK kvs)) (q : Q (.bl false) H) : rIsA K [.ref a, .ty "int"] H Q := g_is (.base (.dK h)) kit_dict_int q
theorem is_dict_bool {a : Addr} {kvs : List (Key × V)} (h : H a = some (.dK kvs)) (q : Q (.bl false) H) : rIsA K [.ref a, .ty "bool"] H Q := g_is (.base (.dK h)) kit_dict_bool q
theorem is_dict_str {a : Addr} {kvs : List (Key × V)} (h : H a = some (.dK kvs)) (q : Q (.bl false) H) : rIsA K [.ref a, .ty "str"] H Q := g_is (.base (.dK h)) kit_dict_str q
theorem is2_dict {a : Addr} {kvs : List (Key × V)} (h : H a = some (.dK kvs)) {tp : Addr} (hp : H tp = some (.tup [.ty "list", .ty "tuple"])) (q : Q (.bl false) H) : rIsA K [.ref a, .ref tp] H Q := g_is2 hp (.base (.dK h)) kit_dict_list kit_dict_tuple q
theorem is_int_list {i : Int} (q : Q (.bl false) H) : rIsA K [.int i, .ty "list"] H Q := g_is (.base (.int i)) kit_int_list q
theorem is_int_tuple {i : Int} (q : Q (.bl false) H) : rIsA K [.int i, .ty "tuple"] H Q := g_is (.base (.int i)) kit_int_tuple q
theorem is_int_dict {i : Int} (q : Q (.bl false) H) : rIsA K [.int i, .ty "dict"] H Q := g_is (.base (.int i)) kit_int_dict q
theorem is_int_int {i : Int} (q : Q (.bl true) H) : rIsA K [.int i, .ty "int"] H Q := g_is (.base (.int i)) kit_int_int q
theorem is_int_bool {i : Int} (q : Q (.bl false) H) : rIsA K [.int i, .ty "bool"] H Q := g_is (.base (.int i)) kit_int_bool q
theorem is_int_str {i : Int} (q : Q (.bl false) H) : rIsA K [.int i, .ty "str"] H Q := g_is (.base (.int i)) kit_int_str q
theorem is2_int {i : Int} {tp : Addr} (hp : H tp = some (.tup [.ty "list", .ty "tuple"])) (q : Q (.bl false) H) : rIsA K [.int i, .ref tp] H Q := g_is2 hp (.base (.int i)) kit_int_list kit_int_tuple q
theorem is_bool_list {b : Bool} (q : Q (.bl false) H) : rIsA K [.bl b, .ty "list"] H Q := g_is (.base (.bl b)) kit_bool_list q
theorem is_bool_tuple {b : Bool} (q : Q (.bl false) H) : rIsA K [.bl b, .ty "tuple"] H Q := g_is (.base (.bl b)) kit_bool_tuple q
theorem is_bool_dict {b : Bool} (q : Q (.bl false) H) : rIsA K [.bl b, .ty "dict"] H Q := g_is (.base (.bl b)) kit_bool_dict q
theorem is_bool_int {b : Bool} (q : Q (.bl true) H) : rIsA K [.bl b, .ty "int"] H Q := g_is (.base (.bl b)) kit_bool_int q
theorem is_bool_bool {b : Bool} (q : Q (.bl true) H) : rIsA K [.bl b, .ty "bool"] H Q := g_is (.base (.bl b)) kit_bool_bool q
theorem is_bool_str {b : Bool} (q : Q (.bl false) H) : rIsA K [.bl b, .ty "str"] H Q := g_is (.base (.bl b)) kit_bool_str q
theorem is2_bool {b : Bool} {tp : Addr} (hp : H tp = some (.tup [.ty "list", .ty "tuple"])) (q : Q (.bl false) H) : rIsA K [.bl b, .ref tp] H Q := g_is2 hp (.base (.bl b)) kit_bool_list kit_bool_tuple q
theorem is_str_list {z : Str} (q : Q (.bl false) H) : rIsA K [.str z, .ty "list"] H Q := g_is (.base (.str z)) kit_str_list q
theorem is_str_tuple {z : Str} (q : Q (.bl false) H) : rIsA K [.str z, .ty "tuple"] H Q := g_is (.base (.str z)) kit_str_tuple q
theorem is_str_dict {z : Str} (q : Q (.bl false) H) : rIsA K [.str z, .ty "dict"] H Q := g_is (.base (.str z)) kit_str_dict q
theorem is_str_int {z : Str} (q : Q (.bl false) H) : rIsA K [.str z, .ty "int"] H Q := g_is (.base (.str z)) kit_str_int q
theorem is_str_bool {z : Str} (q : Q (.bl false) H) : rIsA K [.str z, .ty "bool"] H Q := g_is (.base (.str z)) kit_str_bool q
theorem is_str_str {z : Str} (q : Q (.bl true) H) : rIsA K [.str z, .ty "str"] H Q := g_is (.base (.str z)) kit_str_str q
theorem is2_str {z : Str} {tp : Addr} (hp : H tp = some (.tup [.ty "list", .ty "tuple"])) (q : Q (.bl false) H) : rIsA K [.str z, .ref tp] H Q := g_is2 hp (.base (.str z)) kit_str_list kit_str_tuple q
end
section
variable {K : PySem.W.Frag} {σ : L2.St} {F : Hp} {O O' : Own} {H : Hp} {Q : VK} {x y v : V}
theorem g_neB {i j : Bool} (q : Q (.bl (!decide (i = j))) H) : rNeA K (.bl i) (.bl j) H Q := .inl ⟨rfl, by rw [dec_bl, Bool.beq_eq_decide_eq]; exact q⟩
theorem g_eqB {i j : Bool} (q : Q (.bl (decide (i = j))) H) : rEqA K (.bl i) (.bl j) H Q := .inl ⟨rfl, by rw [dec_bl, Bool.beq_eq_decide_eq]; exact q⟩
/-! ### insert, max, the last item -/
def rInsert : V → List V → Hp → VK → Prop := fun x vs H Q => ∃ (l : Addr) (xs : List V) (i : Int) (y : V), x = .ref l ∧ vs = [.int i, y] ∧ H l = some (.lst xs) ∧ xs.length < sizeLine ∧ 0 ≤ i ∧ i < 2 ^ 63 ∧ Q .non (upd H l (.lst (xs.take i.toNat ++ [y] ++ xs.drop i.toNat)))
theorem mt_insertA {X : Cx} : MtR X "list.insert" rInsert := mt_insert
theorem g_insert {a : Addr} {xs : List V} {i : Int} (hH : Has F O H) (c : Chg O a (.lst xs) (.lst (xs.take i.toNat ++ [y] ++ xs.drop i.toNat)) O') (hl : xs.length < sizeLine) (h0 : 0 ≤ i) (h1 : i < 2 ^ 63) (q : ∀ H', Has F O' H' → Q .non H') : rInsert (.ref a) [.int i, y] H Q :=
  ⟨a, xs, i, y, rfl, rfl, hH.get c.mem, hl, h0, h1, q _ (hH.put c)⟩
theorem cr_maxK {X : Cx} (K : PySem.W.Frag) (hc : X.calm = true) (e : X.K = K := by rfl) : CallR X (.builtin "max") (rMax K) := by subst e; exact cr_max hc
theorem g_max {a : Addr} {ns : List Int} (h : H a = some (.lst (ns.map V.int))) (hl : 0 < ns.length) (q : ∀ m, m ∈ ns → (∀ y, y ∈ ns → y ≤ m) → Q (.int m) H) : rMax K [.ref a] H Q := ⟨a, ns, rfl, SqL.of h, hl, q⟩
theorem g_ixLast {a : Addr} {xs : List V} {v : V} (h : H a = some (.lst xs)) (hl : xs.getLast? = some v) (q : Q v H) : rIxA K (.ref a) (.int (-1)) H Q := by
  obtain ⟨ys, rfl⟩ := List.getLast?_eq_some_iff.mp hl
  exact g_ixL h (atI_last ys v) q
end
theorem cutV_nat (xs : List V) (a b : Nat) : cutV xs (some (a : Int)) (some (b : Int)) = (xs.drop a).take (b - a) := by
  unfold cutV
  rw [HT.sIx_nat, HT.sIx_nat]
  by_cases h : a ≤ xs.length
  · rw [Nat.min_eq_left h]
    rcases Nat.le_total b xs.length with hb | hb
    · rw [Nat.min_eq_left hb]
    · rw [Nat.min_eq_right hb, List.take_of_length_le (by rw [List.length_drop]; omega), List.take_of_length_le (by rw [List.length_drop]; omega)]
  · rw [Nat.min_eq_right (show xs.length ≤ a by omega), List.drop_of_length_le (Nat.le_refl _), List.drop_of_length_le (show xs.length ≤ a by omega), List.take_nil, List.take_nil]
theorem cutV_from (xs : List V) (a : Nat) : cutV xs (some (a : Int)) none = xs.drop a := by
  unfold cutV
  rw [HT.sIx_nat, HT.sIx_none]
  by_cases h : a ≤ xs.length
  · rw [Nat.min_eq_left h, List.take_of_length_le (by rw [List.length_drop]; omega)]
  · rw [Nat.min_eq_right (show xs.length ≤ a by omega), List.drop_of_length_le (Nat.le_refl _), List.drop_of_length_le (show xs.length ≤ a by omega), List.take_nil]
theorem cutV_to (xs : List V) (b : Nat) : cutV xs none (some (b : Int)) = xs.take b := by
  unfold cutV
  rw [HT.sIx_none, HT.sIx_nat, List.drop_zero, Nat.sub_zero]
  rcases Nat.le_total b xs.length with hb | hb
  · rw [Nat.min_eq_left hb]
  · rw [Nat.min_eq_right hb, List.take_length, List.take_of_length_le hb]
/-! ### a def that adds to what stands still -/
def Grow (F H F' : Hp) : Prop := Same F F' ∧ ∀ b, H b ≠ none → F' b = F b
theorem Has.grown {F F' H H' : Hp} {O O' : Own} {a : Addr} {o o' : HO} (h : Has F O H) (c : Chg O a o o' O') (hb : But a H H') (g : Grow F H F') (s : Same F' H') (e : H' a = some o') : Has F' O' H' := by
  have h' := h.but c hb e
  refine ⟨s, fun q hq => ⟨?_, (h'.own q hq).2⟩, h'.nd⟩
  rcases c.own h.nd q hq with rfl | ⟨m, _⟩
  · rw [g.2 a (by rw [h.get c.mem]; exact fun z => by cases z)]
    exact (h.own _ c.mem).1
  · rw [g.2 q.1 (by rw [(h.own q m).2]; exact fun z => by cases z)]
    exact (h.own q m).1

section
variable {K : PySem.W.Frag} {H : Hp} {Q : VK}
theorem g_ixVT {a : Addr} {xs : List V} {i : Int} (h : H a = some (.tup xs)) (h0 : 0 ≤ i) (hl : i < xs.length) (q : ∀ v, xs[i.toNat]? = some v → Q v H) : rIxA K (.ref a) (.int i) H Q := by
  have e : i.toNat < xs.length := by omega
  exact g_ixT h (at_n h0 (List.getElem?_eq_getElem e)) (q _ (List.getElem?_eq_getElem e))
theorem is2_non {tp : Addr} (hp : H tp = some (.tup [.ty "list", .ty "tuple"])) (q : Q (.bl false) H) : rIsA K [.non, .ref tp] H Q := g_is2 hp (.base .non) (by decide +kernel : kitB "NoneType" "list" = some false) (by decide +kernel : kitB "NoneType" "tuple" = some false) q
end

theorem i_nf {A B : Prop} (h : A) : if (!false) = true then A else B := by
  show (if true = true then A else B)
  rw [if_pos rfl]
  exact h
theorem i_nt {A B : Prop} (h : B) : if (!true) = true then A else B := by
  show (if false = true then A else B)
  rw [if_neg Bool.false_ne_true]
  exact h

/-- ways that meet: what holds where they meet -/
theorem g_join {t : TS} {D : Ends} {σ : L2.St} {H : Hp} (M : L2.St → Hp → Prop) (h : ∀ σ' H', M σ' H' → D.nx σ' H') (q : (∀ σ' H', M σ' H' → D.nx σ' H') → t D σ H) : t D σ H := q h

/-! ### all that is not owned stands still from now on -/
def rmO (O : Own) (H : Hp) : Hp := fun b => if b ∈ O.map (·.1) then none else H b
section
variable {F H : Hp} {O : Own}
theorem Has.re (h : Has F O H) : Has (rmO O H) O H := by
  refine ⟨fun b u e => ?_, fun p hp => ⟨if_pos (List.mem_map.mpr ⟨p, hp, rfl⟩), (h.own p hp).2⟩, h.nd⟩
  unfold rmO at e
  split at e
  · cases e
  · exact e
theorem Has.reF (h : Has F O H) : Same F (rmO O H) := fun b u e => by
  unfold rmO
  rw [if_neg]
  · exact h.same b u e
  · intro m
    obtain ⟨p, hp, rfl⟩ := List.mem_map.mp m
    rw [(h.own p hp).1] at e
    cases e
theorem Has.re_of (h : Has F O H) {b : Addr} {u : HO} (e : H b = some u) (ne : ∀ p ∈ O, p.2 ≠ u) : rmO O H b = some u := by
  unfold rmO
  rw [if_neg]
  · exact e
  · intro m
    obtain ⟨p, hp, rfl⟩ := List.mem_map.mp m
    rw [(h.own p hp).2] at e
    exact ne p hp (Option.some.inj e)
end

section
variable {K : PySem.W.Frag} {σ : L2.St} {F : Hp} {O O' : Own} {H : Hp} {Q : VK} {x y v : V} {ta te : TE}
theorem g_ixDI {a : Addr} {kvs : List (Key × V)} {i : Int} (h : H a = some (.dK kvs)) (hv : valV kvs (.inl i) = some v) (q : Q v H) : rIxA K (.ref a) (.int i) H Q := .inr ⟨a, v, rfl, hv ▸ DGet.k (k := .inl i) h, q⟩
theorem g_ixDS {a : Addr} {kvs : List (Key × V)} {i : Str} (h : H a = some (.dK kvs)) (hv : valV kvs (.inr i) = some v) (q : Q v H) : rIxA K (.ref a) (.str i) H Q := .inr ⟨a, v, rfl, hv ▸ DGet.k (k := .inr i) h, q⟩
/-! ### [*xs, y]; if xs:; dict(pairs) -/
def kStar (K : PySem.W.Frag) (t : TA) (σ : L2.St) (x : V) (H : Hp) (Q : List V → Hp → Prop) : Prop := ∃ p xs, x = V.ref p ∧ (SqT K H p xs ∨ SqL K H p xs) ∧ t σ H fun ys H2 => Q (xs ++ ys) H2
theorem g_star {t : TA} {QA : List V → Hp → Prop} (q : te σ H fun x H1 => kStar K t σ x H1 QA) : StX.tStar K te t σ H QA := q
theorem g_kstarL {t : TA} {QA : List V → Hp → Prop} {a : Addr} {xs : List V} (h : H a = some (.lst xs)) (q : t σ H fun ys H2 => QA (xs ++ ys) H2) : kStar K t σ (.ref a) H QA := ⟨a, xs, rfl, .inr (SqL.of h), q⟩
theorem g_kstarT {t : TA} {QA : List V → Hp → Prop} {a : Addr} {xs : List V} (h : H a = some (.tup xs)) (q : t σ H fun ys H2 => QA (xs ++ ys) H2) : kStar K t σ (.ref a) H QA := ⟨a, xs, rfl, .inl (SqT.of h), q⟩
theorem k_star {X : Cx} {es : List Expr} {t : TA} {ex : Expr} {p : Pos} (K : PySem.W.Frag) (h : PA X (.Starred ex p :: es) (StX.tStar X.K te t)) (e : X.K = K := by rfl) : PA X (.Starred ex p :: es) (StX.tStar K te t) := by subst e; exact h
def kTru (K : PySem.W.Frag) (x : V) (H : Hp) (R : Bool → Hp → Prop) : Prop := ∃ k, TruV K x H k ∧ R k H
def tTru (K : PySem.W.Frag) (te : TE) : TT := fun σ H R => te σ H fun x H1 => kTru K x H1 R
theorem pt_tru {X : Cx} {a : Expr} (K : PySem.W.Frag) (ha : PE X a ta) (he : ∀ whole, isTrue a X.env whole = (do let v ← whole; standAt a.pos; holding [v] (truthy v)) := by intro _; rfl) (e : X.K = K := by rfl) : PT X a (tTru K ta) := by subst e; exact pt_truth ha he
theorem g_tru {R : Bool → Hp → Prop} (q : te σ H fun x H1 => kTru K x H1 R) : tTru K te σ H R := q
theorem g_truL {R : Bool → Hp → Prop} {a : Addr} {xs : List V} (h : H a = some (.lst xs)) (q : R (!xs.isEmpty) H) : kTru K (.ref a) H R := ⟨_, .inl ⟨xs, SqL.of h, rfl⟩, q⟩
def rDictP (K : PySem.W.Frag) : List V → Hp → VK → Prop := fun xs H Q => ∃ (a : Addr) (ps : List Addr) (kvs : List (Key × V)), xs = [.ref a] ∧ SqL K H a (ps.map V.ref) ∧ Paired (fun p kv => SqT K H p [kV kv.1, kv.2]) ps kvs ∧ ∀ p, H p = none → Q (.ref p) (upd H p (.dK (mergeK [] kvs)))
theorem cr_dictP {X : Cx} (K : PySem.W.Frag) (hc : X.calm = true) (e : X.K = K := by rfl) : CallR X (.type "dict") (rDictP K) := by subst e; exact call_dictP hc
theorem g_dictP {a : Addr} {ps : List Addr} {kvs : List (Key × V)} (h : H a = some (.lst (ps.map V.ref))) (hp : Paired (fun p kv => SqT K H p [kV kv.1, kv.2]) ps kvs) (hH : Has F O H) (q : ∀ p H', H p = none → Has F ((p, .dK (mergeK [] kvs)) :: O) H' → Q (.ref p) H') : rDictP K [.ref a] H Q :=
  ⟨a, ps, kvs, rfl, SqL.of h, hp, fun p n => q p _ n (hH.new n)⟩
end
/-! ### data without lists; tuples of ints; pairs to a dict -/
mutual
def noL : PyData → Bool
  | .list _ => false
  | .dict _ => false
  | .tuple ds => noLs ds
  | _ => true
def noLs : List PyData → Bool
  | [] => true
  | d :: ds => noL d && noLs ds
end
theorem noLs_mem : ∀ {ds : List PyData}, (∀ d ∈ ds, noL d = true) → noLs ds = true
  | [], _ => by rw [noLs]
  | d :: ds, h => by
    rw [noLs, h d List.mem_cons_self, noLs_mem fun x hx => h x (List.mem_cons_of_mem _ hx)]
    rfl
mutual
theorem Dq.keep {H H' : Hp} (e : ∀ b xs, H b = some (.tup xs) → H' b = some (.tup xs)) : ∀ (d : PyData) (v : V), noL d = true → Dq H v d → Dq H' v d
  | _, _, _, .non => .non
  | _, _, _, .bl b => .bl b
  | _, _, _, .int i => .int i
  | _, _, _, .str x => .str x
  | .list ds, _, n, .lst s a => by rw [noL] at n; cases n
  | .tuple ds, _, n, .tup s a => .tup (e _ _ s) (DqAll.keep e ds _ (by rw [noL] at n; exact n) a)
theorem DqAll.keep {H H' : Hp} (e : ∀ b xs, H b = some (.tup xs) → H' b = some (.tup xs)) : ∀ (ds : List PyData) (vs : List V), noLs ds = true → DqAll H vs ds → DqAll H' vs ds
  | _, _, _, .nil => .nil
  | d :: ds, _, n, .cons h t => by
    rw [noLs, Bool.and_eq_true] at n
    exact .cons (Dq.keep e d _ n.1 h) (DqAll.keep e ds _ n.2 t)
end
theorem Has.keep {F H : Hp} {O : Own} (h : Has F O H) (ho : ∀ p ∈ O, ∀ xs, p.2 ≠ .tup xs) {ds : List PyData} {vs : List V} (n : ∀ d ∈ ds, noL d = true) (d : DqAll H vs ds) : DqAll (rmO O H) vs ds :=
  d.keep (fun _ _ e => h.re_of e fun p hp => ho p hp _) _ _ (noLs_mem n)
theorem eqv_tints (xs ys : List Int) : PyData.eqv (.tuple (xs.map PyData.int)) (.tuple (ys.map PyData.int)) = decide (xs = ys) := by
  rw [PyData.eqv, eqvAll_ints]
theorem eqv_tstrs (xs ys : List Str) : PyData.eqv (.tuple (xs.map PyData.str)) (.tuple (ys.map PyData.str)) = decide (xs = ys) := by
  rw [PyData.eqv, eqvAll_strs]
theorem ixN_last (n : Nat) : ixN (n + 1) (-1) = some n := by
  unfold ixN
  rw [if_neg (by decide), if_pos (by omega)]
  congr 1
  omega
theorem valV_merge (i : Key) : ∀ (kvs acc : List (Key × V)), valV (mergeK acc kvs) i = (valV kvs.reverse i).or (valV acc i)
  | [], acc => by simp [mergeK, valV]
  | p :: r, acc => by
    show valV (mergeK (putK acc p.1 p.2) r) i = _
    rw [valV_merge i r, valV_put, List.reverse_cons]
    unfold valV
    rw [List.find?_append]
    cases h : r.reverse.find? fun kv => decide (kv.1 = i) with
    | some x => simp
    | none =>
      by_cases e : p.1 = i
      · simp [List.find?_cons, e]
      · rw [if_neg (fun z => e z.symm)]; simp [List.find?_cons, e]
def kLcR2 (g : TG) (tt : TT) (te : TE) (ws : List Nat) (σ : L2.St) (vs : List V) (H : Hp) (Q : VK) : Prop := ∃ i j : Int, vs = [.int i, .int j] ∧ (-(2 ^ 62) ≤ i ∧ i < 2 ^ 62 ∧ -(2 ^ 62) ≤ j ∧ j < 2 ^ 62) ∧ kLc (Itr i (j - i).toNat) g tt te ws σ H Q
section
variable {K : PySem.W.Frag} {σ : L2.St} {F : Hp} {O O' : Own} {H : Hp} {Q : VK} {x y v : V} {ta te : TE} {g : TG}
theorem g_lcR2 {ta : TA} {tt : TT} {vs : List Nat} (q : ta σ H fun xs H1 => kLcR2 g tt te vs σ xs H1 Q) : tLc (iRng2 ta) g tt te vs σ H Q := q
theorem k_lcR2 {lo j : Int} {tt : TT} {vs : List Nat} (h0 : -(2 ^ 62) ≤ lo ∧ lo < 2 ^ 62 ∧ -(2 ^ 62) ≤ j ∧ j < 2 ^ 62) (hH : Has F O H) (S : Nat → List V → Hp → Own → Prop) (h0 : S 0 [] F O)
    (hs : ∀ i acc F O D H, i < (j - lo).toNat → S i acc F O → Has F ((D, .lst acc) :: O) H → g (.int (lo + (i : Nat))) (wipe σ vs) H fun σ2 H2 => wipe σ2 vs = wipe σ vs ∧ tt σ2 H2 fun b H3 => if b = true then te σ2 H3 fun y H4 => kTurn D (kNx S i D) y H4 else kNx S i D H3)
    (hd : ∀ acc F O D H, S (j - lo).toNat acc F O → Has F ((D, .lst acc) :: O) H → Q (.ref D) H) : kLcR2 g tt te vs σ [.int lo, .int j] H Q := by
  refine ⟨lo, j, rfl, by assumption, k_lc hH (j - lo).toNat S h0 (fun i acc F O D H hi s hh => hi) (fun acc F O D H s hh => Nat.le_refl _) (fun i x acc F O D H H' hi y s hh => ?_) hd⟩
  obtain ⟨e, y⟩ := y
  subst e y
  exact hs i acc F O D _ hi s hh
theorem g_truT {R : Bool → Hp → Prop} {a : Addr} {xs : List V} (h : H a = some (.tup xs)) (q : R (!xs.isEmpty) H) : kTru K (.ref a) H R := ⟨_, .inr (.inl ⟨xs, SqT.of h, rfl⟩), q⟩
end
/-! ### list.extend by a list, by a tuple -/
theorem ext_tup (l : Addr) (items : Array Value) (n : Nat) (b : Addr) (items2 : Array Value) (n2 : Nat) (d0 : Option Addr) (sl : Array (Option Value)) (hs0 : ¬(!items.isEmpty && Builtin.List.listTooLong (items.size + items2.size)) = true) (hs1 : items.size ≤ sizeLine) (hs2 : items.size + items2.size ≤ sizeLine + 1) :
    Meets (Builtin.«list.extend» ⟨[.ref l, .ref b], []⟩) (fun _ R s => s.heap.get? l = some { cls := .type "list", dict := none, data := .seq items n, slots := #[] } ∧ s.heap.get? b = some { cls := .type "tuple", dict := d0, data := .seq items2 n2, slots := sl } ∧ R (.ok (.ret Value.none)) { s with heap := s.heap.update l (Obj.mapSeq fun x => x ++ items2), toks := s.toks }) :=
  .of_wp fun prog w A R s h => by
    obtain ⟨hp, g, d, tk, os⟩ := s
    obtain ⟨hl, hb, h⟩ := h
    have f1 := PySem.AutoSeq1.sub_tuple_tuple
    have f2 := PySem.AutoSeq1.sub_list_list
    have f3 := PySem.AutoSeq1.sub_tuple_list
    have f4 := PySem.AutoSeq1.sub_list_tuple
    have hz' : (items ++ items2).size ≤ sizeLine + 1 := by rw [Array.size_append]; exact hs2
    wp_walk using (wpAny_updateSeq hl rfl (hz := hs1) (_hz' := hz')), PySem.AutoSeq1.wpAny_loadPart' hl, PySem.AutoSeq1.wpAny_loadPart' hb
    exact ⟨_, rfl, h⟩
section
variable {X : Cx}
def rExtendT (K : PySem.W.Frag) : V → List V → Hp → VK → Prop := fun x vs H Q => ∃ l b xs zs, x = .ref l ∧ vs = [.ref b] ∧ H l = some (.lst xs) ∧ SqT K H b zs ∧ xs.length + zs.length ≤ sizeLine ∧ Q .non (upd H l (.lst (xs ++ zs)))
theorem mt_extendT : MtM X "list.extend" (rExtendT X.K) := by
  intro pins s σ H x vs v us Q I rx rv h
  obtain ⟨l, b, xs, zs, rfl, rfl, hH, hB, hz, q⟩ := h
  cases rx
  obtain ⟨u, rfl, ru⟩ := rv.one
  cases ru
  obtain ⟨z, its, n, r, hl, e⟩ := I.lstM hH
  obtain ⟨its2, r2, ⟨⟨cl, dc, da, so⟩, e2, hc, n2, hd⟩, z2⟩ := I.tuple hB
  have hc : cl = .type "tuple" := hc
  have hd : da = .seq its2.toArray n2 := hd
  subst hc hd
  have hl2 := r2.length
  have hsz : its.toArray.size + its2.toArray.size ≤ sizeLine := by rw [List.size_toArray, List.size_toArray]; omega
  have hlong : ¬ (!its.toArray.isEmpty && Builtin.List.listTooLong (its.toArray.size + its2.toArray.size)) = true := by
    rw [notLongL hsz, Bool.and_false]
    exact Bool.false_ne_true
  refine call_meets F.slot_list_extend ⟨_, e, rfl⟩ F.entry_list_extend (F.args_list_extend_2 _ _) (ext_tup l its.toArray n b its2.toArray n2 dc so hlong (by rw [List.size_toArray]; omega) (by omega)) ⟨e, e2, ?_⟩
  refine ⟨.non, _, I.lset (its' := its ++ its2) hH e (by simp) (r.append r2) ?_, rfl, q⟩
  rw [List.length_append]
  omega
def rExtendA (K : PySem.W.Frag) : V → List V → Hp → VK → Prop := fun x vs H Q => rExtend x vs H Q ∨ rExtendT K x vs H Q
theorem mt_extendA (K : PySem.W.Frag) (e : X.K = K := by rfl) : MtR X "list.extend" (rExtendA K) := by
  subst e
  intro pins s σ H x vs v us Q I rx rv h
  rcases h with h | h
  · exact mt_extend pins s σ H x vs v us Q I rx rv h
  · exact mt_extendT pins s σ H x vs v us Q I rx rv h
end
section
variable {K : PySem.W.Frag} {F : Hp} {O O' : Own} {H : Hp} {Q : VK}
theorem g_extL {a b : Addr} {xs zs : List V} (hH : Has F O H) (hb : H b = some (.lst zs)) (c : Chg O a (.lst xs) (.lst (xs ++ zs)) O') (hl : xs.length + zs.length ≤ sizeLine) (q : ∀ H', Has F O' H' → Q .non H') : rExtendA K (.ref a) [.ref b] H Q :=
  .inl ⟨a, b, xs, zs, rfl, rfl, hH.get c.mem, hb, hl, q _ (hH.put c)⟩
theorem g_extT {a b : Addr} {xs zs : List V} (hH : Has F O H) (hb : H b = some (.tup zs)) (c : Chg O a (.lst xs) (.lst (xs ++ zs)) O') (hl : xs.length + zs.length ≤ sizeLine) (q : ∀ H', Has F O' H' → Q .non H') : rExtendA K (.ref a) [.ref b] H Q :=
  .inr ⟨a, b, xs, zs, rfl, rfl, hH.get c.mem, SqT.of hb, hl, q _ (hH.put c)⟩
end
theorem Has.made2 {F H H' : Hp} {O : Own} {p l : Addr} {o u : HO} (h : Has F O H) (np : H p = none) (nl : H l = none) (s : Same H H') (ep : H' p = some o) (el : H' l = some u) (ne : p ≠ l) : Has F ((p, o) :: (l, u) :: O) H' := by
  have h1 := h.made nl s el
  refine ⟨h1.same, fun q hq => ?_, ?_⟩
  · rcases List.mem_cons.mp hq with rfl | hq
    · exact ⟨h.same.free np, ep⟩
    · exact h1.own q hq
  · rw [List.map_cons]
    refine List.nodup_cons.mpr ⟨fun m => ?_, h1.nd⟩
    obtain ⟨q, hq, e⟩ := List.mem_map.mp m
    rcases List.mem_cons.mp hq with rfl | hq
    · exact ne e.symm
    · have := (h.own q hq).2
      rw [e, np] at this
      cases this
end Qk

namespace Qk
open PySem PySem.Spec PyProof.Rows L2

/-! ### defs that raise -/
section
variable {P : Program} {w : World} {K : PySem.W.Frag} {mg : Str → Option Value} {base : Heap}
theorem Fun.okN {x qual : Str} {st : Stmt} {f : Addr} {fd : FuncData} {N ps : List Str} {k : Nat} {sp : Sp} (F : Fun K x qual st f fd) (S : FnScope N ps (defScope st)) (len : ∀ vs H Q E, sp vs H Q E → vs.length = ps.length)
    (hbody : ∀ (cdv : Value) (A : Around) (outer : List Env) (s : Shared) (H : Hp) (vs : List V) (Q : VK) (E : XK), Room k (A.deeper (envOfC qual (defScope st) s.heap.objs.size f cdv)) → sp vs H Q E →
      ∃ t, PSs (cxOf (L2N.CX P w) P w K mg base N qual (defScope st) f cdv A outer s H E) (defBody st) t ∧ t { nx := fun _ H' => Q .non H', rt := Q } (start N vs) H) : FnOk P w K mg base (L2N.CX P w) (k + 1) f fd ps sp := by
  obtain ⟨oc, od, kV, doc, pm, an, cdv, ct, osl, rfl, lk, hcd⟩ := F.ex
  exact fn_of lk hcd S len fun A outer s H vs Q E hr hsp => hbody cdv A outer s H vs Q E hr hsp
/-- a def that is called in a suite -/
theorem Fun.okH {x qual : Str} {st : Stmt} {f : Addr} {fd : FuncData} {N ps : List Str} {k : Nat} {sp : Sp} (F : Fun K x qual st f fd) (S : FnScope N ps (defScope st)) (len : ∀ vs H Q E, sp vs H Q E → vs.length = ps.length)
    (hbody : ∀ (cdv : Value) (A : Around) (outer : List Env) (s : Shared) (H : Hp) (vs : List V) (Q : VK) (E : XK) (p : Addr × Obj), L2H.Hot1 A p → L2H.RoomH k (A.deeper (envOfC qual (defScope st) s.heap.objs.size f cdv)) → sp vs H Q E →
      ∃ t, PSs (L2H.cxH CX0 P w K mg base N qual (defScope st) f cdv A outer s H E p) (defBody st) t ∧ t { nx := fun _ H' => Q .non H', rt := Q } (start N vs) H) : L2H.FnH P w K mg base CX0 (k + 1) f fd ps sp := by
  obtain ⟨oc, od, kV, doc, pm, an, cdv, ct, osl, rfl, lk, hcd⟩ := F.ex
  exact L2H.fn_ofH lk hcd S len fun A outer s H vs Q E p hot hr hsp => hbody cdv A outer s H vs Q E p hot hr hsp
end
theorem passN {X : Cx} : Passes (L2N.CX X.prog X.w) X E0 := fun _ _ _ _ _ _ _ h => by
  obtain ⟨_, _, _, _, _, _, _, _, _, _, _, _, z⟩ := h
  exact z.elim
theorem takesN {X : Cx} : L2N.Takes X (fun _ _ _ _ => False) := fun _ _ x => by
  obtain ⟨_, _, _, _, _, _, _, _, _, _, _, _, _, _, _, _, z⟩ := x
  exact z.elim

theorem _root_.L2H.RoomH.units {k : Nat} {A : Around} (r : L2H.RoomH k A) : A.units + 64 < cLine := by
  have := r.un
  omega
theorem roomS {k j : Nat} {A : Around} {h : Option Value} (r : Room k A) (e : j ≤ k) : L2H.RoomH j (A.mark h) := by
  have h1 := r.dp
  have h2 := r.un
  exact ⟨by show A.depth + 3 * j + 5 < _; omega, by show A.units + 16 * j + 200 < _; omega⟩
theorem huH {k : Nat} {A : Around} (r : L2H.RoomH k A) : A.units + 1 < cLine := by
  have := r.un
  omega
theorem u65H {k : Nat} {A : Around} (r : L2H.RoomH k A) : A.units + 65 < cLine := by
  have := r.un
  omega
/-- ways that meet in one heap fact: refine' g_merge (F := F) (O := O) (R := _) ?a ?b -/
theorem g_merge {F : Hp} {O : Own} {G : Prop} {R : Hp → Prop} (h1 : (∀ H', Has F O H' → R H') → G) (h2 : ∀ H', Has F O H' → R H') : G := h1 h2
theorem g_merge2 {α : Type} {G : Prop} {R : α → Hp → Prop} (P : α → Hp → Prop) (h1 : (∀ x H', P x H' → R x H') → G) (h2 : ∀ x H', P x H' → R x H') : G := h1 h2
theorem g_mergeP {F : Hp} {O : Own} {P G : Prop} {R : Hp → Prop} (h1 : (∀ H', Has F O H' → P → R H') → G) (h2 : ∀ H', Has F O H' → P → R H') : G := h1 h2
/-- a constant of the program's text -/
theorem pe_gc {X : Cx} {x : Str} {pos : Pos} {v : V} (hg : Gl X x) (h : ∃ u, X.mg x = some u ∧ RelV v u) (hd : (x == ("__debug__" : Str)) = false := by decide) : PE X (.Name x pos) (tC v) := by
  obtain ⟨u, hm, r⟩ := h
  exact pe_glob hg hm r hd
/-! ### raise C(e, ..) -/
section
variable {X : Cx} {pins : List (Addr × Obj)} {σ : L2.St} {H : Hp} {hp : Heap} {g : Array GenState} {dr : Drawn} {tk : Nat} {os : OsState} {C : Addr}
/-- the tuple of the arguments and the bare exception laid behind the heap -/
abbrev barePut (hp : Heap) (C : Addr) (us : List Value) : Heap := (hp.push (PySem.W.kdv_tup us)).push (PySem.HandSPX.excO C hp.objs.size)
theorem barePut_keeps {us : List Value} (b : Addr) (o : Obj) (e : hp.get? b = some o) : (barePut hp C us).get? b = some o := Heap.get?_push_of_some _ (Heap.get?_push_of_some _ e)
theorem barePut_inv (I : Inv X pins σ H ⟨hp, g, dr, tk, os⟩) (us : List Value) : Inv X pins σ (upd H (hp.objs.size + 1) (exo (hp.objs.size + 1) C none)) ⟨barePut hp C us, g, dr, tk, os⟩ := by
  refine I.laid (t' := tk) barePut_keeps (Nat.le_succ _) (exo_ok (t1 := hp.objs.size) ?_)
  unfold barePut
  heap_get
/-- what an __init__ leaves, as an exception in hand -/
theorem in_hand {H2 : Hp} {Q : XK} {us : List Value} {s' : Shared} {d : Addr} {fs : List (Str × V)} (T : OexC X.K C) (I : Inv X pins σ H ⟨hp, g, dr, tk, os⟩) (un : Un (frs X.stack) [] (upd H (hp.objs.size + 1) (exo (hp.objs.size + 1) C none)) H2 (barePut hp C us) s'.heap)
    (ok : HOk X.prog X.w H2 s'.heap) (eo : s'.os = os) (bare : AllBare s'.gens) (ea : H2 (hp.objs.size + 1) = some (exo (hp.objs.size + 1) C (some d))) (ed : H2 d = some (exd d fs)) (nd : H d = none)
    (q : Q (.ref C) (some d) (upd (del H2 (hp.objs.size + 1)) d (.xd fs))) : L2N.MkP X pins σ Q (.ref (hp.objs.size + 1)) s' := by
  obtain ⟨h2, g2, d2, t2, o2⟩ := s'
  obtain ⟨tt, G, J, kG, gone, there, free⟩ := mk_end0 (t2 := t2) (d2 := d2) I (Nat.le_succ _) barePut_keeps un ok eo bare ea ed nd
  have zn : L2N.Zn (.ref C) (some d) ({ cls := .ref C, dict := some d, data := .fields #[.ref tt, .none, .none, .none, .bool false, .none] } : Obj) := ⟨rfl, rfl, fun vs hv => by cases hv; rfl⟩
  exact ⟨_, _, _, ⟨G, g2, d2, t2, o2⟩, _, _, some d, rfl, J, kG, gone, there, zn, rfl, rfl, free, rfl, bare, raises_own T.exC T.tyC, q⟩
end
theorem pmk_oexN {X : Cx} {e : Expr} {es : List Expr} {ta : TA} {p pos : Pos} {CX : CXT} {x : Str} {C fI : Addr} {k : Nat} {fd : FuncData} {ps : List Str} {sp : Sp} (T : OexC X.K C) (iC : PySem.W.findIn X.K (.ref C) "__init__" = some (some (.ref fI))) (tI : PySem.W.typeIn X.K (.ref fI) = some (.type "function"))
    (Fi : FnOk X.prog X.w X.K X.mg X.base CX k fI fd ps sp) (room : Room (k + 1) X.A) (binds : Binds X.K fd ps []) (pass : Passes CX X (fun _ _ _ => False)) (gl : Gl X x) (gm : X.mg x = some (.ref C)) (args : PA X (e :: es) ta)
    (dbg : (x == ("__debug__" : Str)) = false := by decide) (star : starEach (e :: es) X.env = (false, eval e X.env) :: starEach es X.env := by rfl) (plain : (backTo pos (starEach es X.env)).any (·.1) = false := by rfl) :
    L2N.PMk X (.Call (.Name x p) (e :: es) [] pos) (tMkO C sp [] ta) := fun pins s σ H Q I h => by
  obtain ⟨_, _, _, _, bm, _, _, _, _, _, _, _, _, _, _, cl, rf⟩ := T.cls
  refine wpAny_Call_Name_kw (ld_glob I gl gm (PySem.W.callWith_K (h₀ := X.base) I.ok.mod.kin T.kC (thn (args.run pos pins s σ H _ I h) fun us s1 hs => ?_) star plain) dbg)
  obtain ⟨vs, H1, J, rel, few, spq⟩ := hs
  refine ⟨J.kIn, ?_⟩
  obtain ⟨hp, g, dr, tk, os⟩ := s1
  have J2 := barePut_inv (C := C) J us
  have start := spq (hp.objs.size + 1) (J.hok.fresh (Nat.le_succ _))
  rw [List.append_nil] at start
  have vals : Vals (V.ref (hp.objs.size + 1) :: vs) (Value.ref (hp.objs.size + 1) :: us) := .cons rfl rel
  have many : (Value.ref (hp.objs.size + 1) :: us).length = ps.length := vals.length.symm.trans (Fi.len _ _ _ _ start)
  have bd := binds _ (Value.ref (hp.objs.size + 1) :: us) J2.kIn (by rw [List.append_nil]; exact many)
  rw [List.append_nil] at bd
  have room2 : us.length ≤ sizeLine := sz (by have := Paired.length rel; omega)
  have run := Fi.run _ X.stack _ _ ⟨Value.ref (hp.objs.size + 1) :: us, []⟩ (Value.ref (hp.objs.size + 1) :: us) _ _ (fun _ _ _ => False) (room.make C us []) (J2.env0.make C us []) bd vals start
  show wpAny (model X.prog X.w) X.A (call (.ref C) us) _ _ _
  refine wpAny_call (PySem.HandSPX.call_own F.excBase_ValueError (fun Y => PySem.HandSPX.refsVE_contains Y bm rf) (J.kIn _ _ cl) (PySem.W.looks_findIn J.kIn iC) (fun self => PySem.W.bind_fn J.kIn self tI) room2 (codeAny_mono run fun r s' end_ => ?_))
  match r, end_ with
  | .error er, end_ => exact pass pins σ _ _ er s' J2 end_
  | .ok (.ret u), ⟨v, H2, eo, bare, un, ok, ru, ev, d, fs, ea, ed, nd, q⟩ =>
    subst ev
    exact ⟨ru, in_hand T J un ok eo bare ea ed nd q⟩
  | .ok .next, end_ => exact end_.elim
  | .ok .brk, end_ => exact end_.elim
  | .ok .cont, end_ => exact end_.elim

/-! ### readings in order -/
/-- raise C(vs) -/
def kMk (C : Addr) (sp : Sp) (vs : List V) (H : Hp) (Q : XK) : Prop := vs.length ≤ 1000 ∧ ∀ a, H a = none → sp (.ref a :: (vs ++ [])) (upd H a (exo a C none))
  (fun v H2 => v = .non ∧ ∃ (d : Addr) (fs : List (Str × V)), H2 a = some (exo a C (some d)) ∧ H2 d = some (exd d fs) ∧ H d = none ∧ Q (.ref C) (some d) (upd (del H2 a) d (.xd fs))) (fun _ _ _ => False)
def tRaise (W : WX) (C : Addr) (sp : Sp) (ta : TA) : TS := fun _ σ H => tMkO C sp [] ta σ H fun cls d H' => W cls d σ H'
theorem k_raise {X : Cx} {W : WX} {e : Expr} {C : Addr} {sp : Sp} {ta : TA} {pos : Pos} (hc : X.calm = true) (tk : L2N.Takes X W) (he : L2N.PMk X e (tMkO C sp [] ta)) : PS X (.Raise (some e) none pos) (tRaise W C sp ta) := L2N.ps_raise hc tk he
theorem g_raise {W : WX} {C : Addr} {sp : Sp} {ta : TA} {D : Ends} {σ : L2.St} {H : Hp} (q : ta σ H fun vs H1 => kMk C sp vs H1 fun cls d H' => W cls d σ H') : tRaise W C sp ta D σ H := q
/-- try: body, except c as i: suite -/
def tTry (K : PySem.W.Frag) (c : Value) (i : Nat) (tb : WX → TS) (ts : Addr → Value → Option Addr → TS) (Wout : WX) : TS := fun D σ H => tb (wAs K c i ts Wout D) D σ H
theorem k_try {X : Cx} {x n : Str} {c : Value} {i : Nat} {body suite : List Stmt} {b₀ : Stmt} {np pos pos' : Pos} {tb : WX → TS} {ts : Addr → Value → Option Addr → TS} {Wout : WX} (K : PySem.W.Frag)
    (hs : X.stack = X.env :: X.outer) (hf : X.env.frame = some X.env.locals) (hN : X.N.Nodup) (hi : X.N[i]? = some n) (hln : X.env.kindOf n = some .local) (hc : Names X x c) (tk : L2N.Takes X Wout)
    (hb : ∀ (W : WX) (pn : List (Addr × Obj)) (xe : Value → Shared → Prop), L2N.Takes (X.tr pn xe) W → PassesOwn (model X.prog X.w) X.A X.env xe → PSs (X.tr pn xe) body (tb W))
    (hsu : ∀ (a : Addr) (oe : Obj) (cls : Value) (d : Option Addr) (pn : List (Addr × Obj)), L2N.Zn cls d oe → (∃ vs, oe.data = .fields vs) → PSs (X.suite a ((a, oe) :: pn)) (b₀ :: suite) (ts a cls d)) (e : X.K = K := by rfl) :
    PS X (.Try body [.ExceptHandler (some (.Name x np)) (some n) (b₀ :: suite) pos'] [] [] pos) (tTry K c i tb ts Wout) := by subst e; exact L2N.ps_try_as hs hf hN hi hln hc tk hb hsu
/-- the way into the suite -/
theorem g_caught {K : PySem.W.Frag} {c cls : Value} {i : Nat} {ts : Addr → Value → Option Addr → TS} {Wout : WX} {D : Ends} {d : Option Addr} {σ : L2.St} {H : Hp} (m : PySem.W.exmOne K cls c = some true)
    (q : ∀ a, H a = none → ts a cls d { nx := fun σ' H' => D.nx (σ'.set i none) H', rt := D.rt, bk := fun σ' H' => D.bk (σ'.set i none) H', ct := fun σ' H' => D.ct (σ'.set i none) H' } (σ.set i (some (.ref a))) H) : wAs K c i ts Wout D cls d σ H :=
  ⟨true, m, fun _ => q, fun z => by cases z⟩
theorem g_try {K : PySem.W.Frag} {c : Value} {i : Nat} {tb : WX → TS} {ts : Addr → Value → Option Addr → TS} {Wout : WX} {D : Ends} {σ : L2.St} {H : Hp} (q : tb (wAs K c i ts Wout D) D σ H) : tTry K c i tb ts Wout D σ H := q
theorem g_callS {sp : Sp} {E : L2.St → XK} {t : TA} {σ : L2.St} {H : Hp} {Q : VK} (q : t σ H fun vs H1 => sp vs H1 Q (E σ)) : tCallS sp E t σ H Q := q

theorem g_ost {K : PySem.W.Frag} {f : Str} {to te : TE} {D : Ends} {σ : L2.St} {H : Hp} (q : tOst K f to te D σ H) : tOst K f to te D σ H := q
theorem upd_over {H : Hp} {dx a : Addr} {e1 e2 x : HO} (ne : dx ≠ a) : upd (upd (upd H dx e1) a x) dx e2 = upd (upd H dx e2) a x := by
  funext b
  by_cases h1 : b = dx
  · subst h1
    rw [upd_same, upd_ne ne, upd_same]
  · rw [upd_ne h1]
    by_cases h2 : b = a
    · subst h2
      rw [upd_same, upd_same]
    · rw [upd_ne h2, upd_ne h2, upd_ne h1, upd_ne h1]
/-- __init__ that keeps each argument in a field of its name -/
def sp_oinit (C : Addr) (names : List Str) : Sp := fun vs H Q _ => ∃ (a : Addr) (ws : List V), vs = .ref a :: ws ∧ ws.length = names.length ∧ H a = some (exo a C none) ∧
  ∀ dx, H dx = none → dx ≠ a → Q .non (upd (upd H dx (exd dx (names.zip ws).reverse)) a (exo a C (some dx)))
theorem sp_oinit_len {C : Addr} {names : List Str} {vs H Q E} (h : sp_oinit C names vs H Q E) : vs.length = names.length + 1 := by
  obtain ⟨a, ws, rfl, hl, _⟩ := h
  rw [List.length_cons, hl]
theorem g_mk {C : Addr} {names : List Str} {vs : List V} {F H : Hp} {O : Own} {Q : XK} (hl : vs.length = names.length) (hs : names.length ≤ 1000) (hH : Has F O H) (q : ∀ d H', H d = none → Has F ((d, .xd (names.zip vs).reverse) :: O) H' → Q (.ref C) (some d) H') : kMk C (sp_oinit C names) vs H Q := by
  refine ⟨by omega, fun a n => ⟨a, vs ++ [], rfl, by rw [List.append_nil]; exact hl, upd_same, fun dx n1 ne => ⟨rfl, dx, (names.zip vs).reverse, upd_same, ?_, ?_, ?_⟩⟩⟩
  · rw [upd_ne ne, upd_same, List.append_nil]
  · rw [upd_ne ne] at n1
    exact n1
  · rw [upd_ne ne] at n1
    have e : upd (del (upd (upd (upd H a (exo a C none)) dx (exd dx (names.zip (vs ++ [])).reverse)) a (exo a C (some dx))) a) dx (.xd (names.zip vs).reverse) = upd H dx (.xd (names.zip vs).reverse) := by
      funext b
      by_cases h1 : b = dx
      · subst h1
        rw [upd_same, upd_same]
      · rw [upd_ne h1, upd_ne h1]
        by_cases h2 : b = a
        · subst h2
          rw [del_same, n]
        · rw [del_ne h2, upd_ne h2, upd_ne h1, upd_ne h2]
    rw [e]
    exact q dx _ n1 (hH.new n1)
/-! ### in a suite: isinstance, a field, a call -/
structure IsC (K : PySem.W.Frag) (D : Addr) : Prop where
  cl : (PySem.W.clsIn K D).isSome = true
  hg : PySem.W.findIn K (.ref D) "__getattribute__" = some (some (.builtin "BaseException.__getattribute__"))
  hk : PySem.W.findIn K (.ref D) "__getattr__" = some none
  hs : PySem.W.subIn K (.ref D) (.type "BaseException") = some true
  hd : PySem.W.hasDictIn K D = true
  ha : PySem.W.findIn K (.ref D) "__class__" = some (some (.builtin "object.__class__"))
  hn : PySem.W.specialIn K (.builtin "object.__class__") "__get__" = some (some (.builtin "getset_descriptor.__get__"))
  ht : PySem.W.takesIn K (.builtin "object.__class__") = some true
  hm : PySem.W.mroIn K D (.type "object") = some true
/-- isinstance(e, c) for the caught e: a is where it stands -/
def rIsX (K : PySem.W.Frag) (a : Addr) (cls : Value) (d : Option Addr) : List V → Hp → VK → Prop := fun xs H Q => ∃ (D : Addr) (c : V) (cv : Value) (b : Bool), cls = .ref D ∧ IsC K D ∧ (d = none ∨ ∃ dd fs, d = some dd ∧ H dd = some (.xd fs)) ∧ xs = [.ref a, c] ∧ (∀ u, RelV c u → u = cv) ∧ PySem.W.kitOne K (.ref D) cv = some b ∧ Q (.bl b) H
def rIsY (K : PySem.W.Frag) (a : Addr) (cls : Value) (d : Option Addr) : List V → Hp → VK → Prop := fun xs H Q => rIsX K a cls d xs H Q ∨ rIsA K xs H Q
theorem cr_isX {X : Cx} {a : Addr} {oe : Obj} {cls : Value} {d : Option Addr} {pn : List (Addr × Obj)} (K : PySem.W.Frag) (hz : L2N.Zn cls d oe) (hf : ∃ vs, oe.data = .fields vs) (e : X.K = K := by rfl) : CallR (X.suite a ((a, oe) :: pn)) (.builtin "isinstance") (rIsY K a cls d) := by
  subst e
  intro pins s σ H xs us Q I r h
  rcases h with h | h
  · obtain ⟨D, c, cv, b, ecl, C, hd, rfl, hcv, e, q⟩ := h
    cases r with
    | cons rx rr =>
      cases rr with
      | cons rt rr =>
        cases rr
        cases rx
        have ec := hcv _ rt
        subst ec
        obtain ⟨hget, _⟩ := I.pin (a, oe) (List.mem_append.mpr (.inl List.mem_cons_self))
        obtain ⟨vs, hv⟩ := hf
        have hcl : oe.cls = .ref D := hz.1.trans ecl
        have hdx := hz.2.1
        have key : ∀ od, PySem.W.InstAt s.heap a oe D od → wpAny (model X.prog X.w) (X.suite a ((a, oe) :: pn)).A (call (.builtin "isinstance") [.ref a, _]) (EP (X.suite a ((a, oe) :: pn)) pins σ Q) (X.suite a ((a, oe) :: pn)).xe s := fun od J =>
          PySem.W.kia_one (PySem.W.kitx_exc C.cl C.hg C.hk C.hs C.ha C.hn C.ht C.hm) I.kIn J e (fun z => nomatch z) fun tk => ⟨.bl b, H, I.kept (t' := tk) fun _ _ z => z, rfl, q⟩
        rcases hd with hd | ⟨dd, fs, hd, ea⟩
        · refine key none ?_
          rw [hd] at hdx
          exact ⟨hget, hcl, by unfold PySem.W.notCls; rw [hv] <;> rfl, by rw [hdx]; trivial⟩
        · have hx : ObjOk X.prog X.w H s.heap dd (.xd fs) := I.hok dd _ ea
          obtain ⟨mA, hns, hr⟩ := hx
          obtain ⟨od, ho, hl⟩ := lookIn_ns hns
          refine key (some od) ?_
          rw [hd] at hdx
          exact ⟨hget, hcl, by unfold PySem.W.notCls; rw [hv] <;> rfl, by rw [hdx]; exact ho⟩
  · exact cr_isK X.K (X := X.suite a ((a, oe) :: pn)) rfl pins s σ H xs us Q I r h
/-- e.f for the caught e -/
def tXfA (K : PySem.W.Frag) (a : Addr) (cls : Value) (d : Option Addr) (f : Str) (te : TE) : TE := fun σ H Q => te σ H fun x H1 => x = .ref a ∧ ∃ (C dd : Addr) (fs : List (Str × V)) (v : V), cls = .ref C ∧ XfC K C ∧ PySem.W.findIn K (.ref C) f = some none ∧ d = some dd ∧ H1 dd = some (.xd fs) ∧ fs.lookup f = some v ∧ Q v H1
theorem pe_xfA {X : Cx} {a : Addr} {oe : Obj} {cls : Value} {d : Option Addr} {pn : List (Addr × Obj)} {e : Expr} {te : TE} {pos : Pos} {n : Str} (K : PySem.W.Frag) (hz : L2N.Zn cls d oe) (hf : ∃ vs, oe.data = .fields vs) (he : PE (X.suite a ((a, oe) :: pn)) e te) (ek : X.K = K := by rfl) (hb : attributeBase e n X.env (eval e X.env) = eval e X.env := by rfl) :
    PE (X.suite a ((a, oe) :: pn)) (.Attribute e n pos) (tXfA K a cls d n te) := by
  subst ek
  refine ⟨fun pins s σ H Q I h => ?_⟩
  refine attr_of hb (thn (he.run pins s σ H _ I h) fun u s1 hh => ?_)
  obtain ⟨x, H1, I1, rx, ex, C, dd, fs, v, ec, T, hno, ed, ea, l, q⟩ := hh
  subst ex
  obtain rfl : u = Value.ref a := rx
  subst ec
  subst ed
  obtain ⟨ha, _⟩ := I1.pin (a, oe) (List.mem_append_left _ List.mem_cons_self)
  obtain ⟨vs, hd⟩ := hf
  have hx : ObjOk X.prog X.w H1 s1.heap dd (.xd fs) := I1.hok dd _ ea
  obtain ⟨mA, hns, hr⟩ := hx
  obtain ⟨od, ho, hl⟩ := lookIn_ns hns
  obtain ⟨u, hu, ru⟩ := RelO.some_of (v := v) (o := mA n) (by rw [← l]; exact hr n)
  have J : PySem.W.InstAt s1.heap a oe C (some od) := ⟨ha, hz.1, by unfold PySem.W.notCls; rw [hd] <;> rfl, by rw [hz.2.1]; exact ho⟩
  exact HandSPX.exc_get I1.kIn J T.ga T.gg T.exC (PySem.W.findObj_own T.hdC hno rfl (by rw [hl, hu])) (handed_of ru) ⟨v, H1, I1.tok _, ru, q⟩
def kXf (K : PySem.W.Frag) (a : Addr) (cls : Value) (d : Option Addr) (f : Str) (x : V) (H1 : Hp) (Q : VK) : Prop := x = .ref a ∧ ∃ (C dd : Addr) (fs : List (Str × V)) (v : V), cls = .ref C ∧ XfC K C ∧ PySem.W.findIn K (.ref C) f = some none ∧ d = some dd ∧ H1 dd = some (.xd fs) ∧ fs.lookup f = some v ∧ Q v H1
theorem g_xf {K : PySem.W.Frag} {a : Addr} {cls : Value} {d : Option Addr} {f : Str} {te : TE} {σ : L2.St} {H : Hp} {Q : VK} (q : te σ H fun x H1 => kXf K a cls d f x H1 Q) : tXfA K a cls d f te σ H Q := q
theorem g_kxf {K : PySem.W.Frag} {a C dd : Addr} {f : Str} {fs : List (Str × V)} {v : V} {H : Hp} {Q : VK} (X : XfC K C) (n : PySem.W.findIn K (.ref C) f = some none) (hd : H dd = some (.xd fs)) (l : fs.lookup f = some v) (q : Q v H) : kXf K a (.ref C) (some dd) f (.ref a) H Q :=
  ⟨rfl, C, dd, fs, v, rfl, X, n, rfl, hd, l, q⟩
theorem g_isX {K : PySem.W.Frag} {a D C dd : Addr} {fs : List (Str × V)} {b : Bool} {H : Hp} {Q : VK} (I : IsC K D) (hd : H dd = some (.xd fs)) (k : PySem.W.kitOne K (.ref D) (.ref C) = some b) (q : Q (.bl b) H) : rIsY K a (.ref D) (some dd) [.ref a, .ref C] H Q :=
  .inl ⟨D, .ref C, .ref C, b, rfl, I, .inr ⟨dd, fs, rfl, hd⟩, rfl, fun u r => r, k, q⟩
theorem g_isXT {K : PySem.W.Frag} {a D dd : Addr} {n : String} {fs : List (Str × V)} {b : Bool} {H : Hp} {Q : VK} (I : IsC K D) (hd : H dd = some (.xd fs)) (k : PySem.W.kitOne K (.ref D) (.type n) = some b) (q : Q (.bl b) H) : rIsY K a (.ref D) (some dd) [.ref a, .ty n] H Q :=
  .inl ⟨D, .ty n, .type n, b, rfl, I, .inr ⟨dd, fs, rfl, hd⟩, rfl, fun u r => r, k, q⟩
theorem exm_own {K : PySem.W.Frag} {C : Addr} {cls : Value} {b : Bool} (h1 : PySem.W.subIn K (.ref C) (.type "BaseException") = some true) (hc : PySem.W.isClsIn K C = true) (ht : PySem.W.typeIn K (.ref C) = some (.type "type")) (h4 : PySem.W.subIn K cls (.ref C) = some b) : PySem.W.exmOne K cls (.ref C) = some b := by
  have hc' : (PySem.W.clsIn K C).isSome = true := hc
  have e1 : (PySem.W.subIn K (.ref C) (.type "BaseException") == some true) = true := by rw [h1] <;> rfl
  have e2 : ((PySem.W.clsIn K C).isSome && PySem.W.typeIn K (.ref C) == some (.type "type")) = true := by rw [hc', ht] <;> rfl
  show (if (PySem.W.subIn K (.ref C) (.type "BaseException") == some true) = true then (if ((PySem.W.clsIn K C).isSome && PySem.W.typeIn K (.ref C) == some (.type "type")) = true then PySem.W.subIn K cls (.ref C) else none) else none) = some b
  rw [if_pos e1, if_pos e2]
  exact h4
theorem kit_own {K : PySem.W.Frag} {D C : Addr} {b : Bool} (hs : PySem.W.subIn K (.ref D) (.ref D) = some true) (h4 : PySem.W.subIn K (.ref D) (.ref C) = some b) (hc : PySem.W.isClsIn K C = true) (ht : PySem.W.typeIn K (.ref C) = some (.type "type")) : PySem.W.kitOne K (.ref D) (.ref C) = some b := by
  have hc' : (PySem.W.clsIn K C).isSome = true := hc
  unfold PySem.W.kitOne
  by_cases e : (Value.ref D == Value.ref C) = true
  · rw [if_pos e]
    have e2 : D = C := Value.ref.inj (beq_iff_eq.mp e)
    subst e2
    rw [hs] at h4
    exact h4
  · rw [if_neg e]
    have e2 : ((PySem.W.clsIn K C).isSome && PySem.W.typeIn K (.ref C) == some (.type "type")) = true := by rw [hc', ht] <;> rfl
    show (if ((PySem.W.clsIn K C).isSome && PySem.W.typeIn K (.ref C) == some (.type "type")) = true then PySem.W.subIn K (.ref D) (.ref C) else none) = some b
    rw [if_pos e2]
    exact h4
theorem kit_ve {K : PySem.W.Frag} {D : Addr} (h : PySem.W.subIn K (.ref D) (.type "ValueError") = some true) : PySem.W.kitOne K (.ref D) (.type "ValueError") = some true := by
  have e : ¬ (Value.ref D == Value.type "ValueError") = true := by
    intro z
    cases (beq_iff_eq.mp z)
  unfold PySem.W.kitOne
  rw [if_neg e]
  show (if PySem.W.kitMeta "ValueError" = true then PySem.W.subIn K (.ref D) (.type "ValueError") else none) = some true
  rw [if_pos (by decide +kernel)]
  exact h
theorem hot_suite {X : Cx} {a : Addr} {oe : Obj} {cls : Value} {d : Option Addr} {pn : List (Addr × Obj)} (hz : L2N.Zn cls d oe) (hf : ∃ vs, oe.data = .fields vs) : L2H.HotC (X.suite a ((a, oe) :: pn)) := by
  obtain ⟨vs, hv⟩ := hf
  exact ⟨(a, oe), ⟨rfl, vs, hv, hz.2.2 vs hv⟩, List.mem_cons_self⟩

/-! ### objects -/
section
variable {X : Cx} {K : PySem.W.Frag} {σ : L2.St} {F : Hp} {O O' : Own} {H : Hp} {Q : VK} {ta te tv : TE} {x y v : V} {D : Ends}
theorem k_fld {ex : Expr} {f : Str} (K : PySem.W.Frag) (h : PE X ex (tFld X.K te f)) (e : X.K = K := by rfl) : PE X ex (tFld K te f) := by subst e; exact h
def kFld (K : PySem.W.Frag) (f : Str) (x : V) (H1 : Hp) (Q : VK) : Prop := ∃ a C dx fs v, x = .ref a ∧ H1 a = some (.ins C dx fs) ∧ Cls K C ∧ NoAttr K C f ∧ fs.lookup f = some v ∧ Q v H1
theorem g_fld {f : Str} (q : te σ H fun x H1 => kFld K f x H1 Q) : tFld K te f σ H Q := q
theorem g_kfld {a C dx : Addr} {fs : List (Str × V)} {f : Str} (h : H a = some (.ins C dx fs)) (c : Cls K C) (n : NoAttr K C f) (l : fs.lookup f = some v) (q : Q v H) : kFld K f (.ref a) H Q := ⟨a, C, dx, fs, v, rfl, h, c, n, l, q⟩
theorem k_sfld {st : Stmt} {f : Str} (K : PySem.W.Frag) (h : PS X st (sFld X.K ta tv f)) (e : X.K = K := by rfl) : PS X st (sFld K ta tv f) := by subst e; exact h
def kSFld (K : PySem.W.Frag) (f : Str) (x y : V) (D : Ends) (σ : L2.St) (H2 : Hp) : Prop := ∃ a C dx fs, x = .ref a ∧ H2 a = some (.ins C dx fs) ∧ Cls K C ∧ NoAttr K C f ∧ fs.length < 1000 ∧ D.nx σ (upd H2 a (.ins C dx (putF f y fs)))
theorem g_sfld {f : Str} (q : tv σ H fun y H1 => ta σ H1 fun x H2 => kSFld K f x y D σ H2) : sFld K ta tv f D σ H := q
theorem g_ksfld {a C dx : Addr} {fs fs' : List (Str × V)} {f : Str} (hH : Has F O H) (c : Chg O a (.ins C dx fs) (.ins C dx fs') O') (e : putF f y fs = fs') (cl : Cls K C) (n : NoAttr K C f) (hl : fs.length < 1000) (q : ∀ H', Has F O' H' → D.nx σ H') : kSFld K f (.ref a) y D σ H := by
  subst e
  exact ⟨a, C, dx, fs, rfl, hH.get c.mem, cl, n, hl, q _ (hH.put c)⟩
/-- o.m(..), what is let out told at the slots -/
def tMethS (C : Addr) (m : Str) (sp : Sp) (E : L2.St → XK) (ta : TE) (t : TA) : TE := fun σ H Q => ta σ H fun x H1 => ∃ a dx fs, x = .ref a ∧ H1 a = some (.ins C dx fs) ∧ fs.lookup m = none ∧ t σ H1 fun vs H2 => sp (x :: vs) H2 Q (E σ)
def kMeth (C : Addr) (m : Str) (sp : Sp) (E : L2.St → XK) (t : TA) (σ : L2.St) (x : V) (H1 : Hp) (Q : VK) : Prop := ∃ a dx fs, x = .ref a ∧ H1 a = some (.ins C dx fs) ∧ fs.lookup m = none ∧ t σ H1 fun vs H2 => sp (x :: vs) H2 Q (E σ)
theorem g_meth {C : Addr} {m : Str} {sp : Sp} {E : L2.St → XK} {t : TA} (q : ta σ H fun x H1 => kMeth C m sp E t σ x H1 Q) : tMethS C m sp E ta t σ H Q := q
theorem g_kmeth {C : Addr} {m : Str} {sp : Sp} {E : L2.St → XK} {t : TA} {a dx : Addr} {fs : List (Str × V)} (h : H a = some (.ins C dx fs)) (l : fs.lookup m = none) (q : t σ H fun vs H2 => sp (.ref a :: vs) H2 Q (E σ)) : kMeth C m sp E t σ (.ref a) H Q := ⟨a, dx, fs, rfl, h, l, q⟩
variable {CX : CXT} {k : Nat} {f C : Addr} {fd : FuncData} {ps : List Str} {sp : Sp} {E : L2.St → XK} {m : Str} {pos apos : Pos} {e o : Expr} {es : List Expr} {t : TA}
theorem pe_methW {pl : Sem Bool} (ho : PE X o ta) (cl : Cls X.K C) (me : Meth X.K C m f) (G : FnOk X.prog X.w X.K X.mg X.base CX k f fd ps sp) (room : Room k X.A) (bd : Binds X.K fd ps []) (pass : ∀ σ, PassesAt CX X σ (E σ)) (args : PA X (e :: es) t)
    (star : starEach (e :: es) X.env = (false, eval e X.env) :: starEach es X.env := by rfl) (plain : (backTo pos (starEach es X.env)).any (·.1) = false := by rfl)
    (tree : eval (.Call (.Attribute o m apos) (e :: es) [] pos) X.env = (do
      let ov ← eval o X.env
      standAt apos.atName
      let (f, first) ← holding [ov] (getMethod ov m pl)
      callWith pos f first (backTo pos (starEach (e :: es) X.env)) (backToKw pos (keywordEach [] X.env))) := by rfl) :
    PE X (.Call (.Attribute o m apos) (e :: es) [] pos) (tMethS C m sp E ta t) := ⟨fun pins s σ H Q I h => by
  refine PySem.W.methodCall_KW (pl := pl) (thn (ho.run pins s σ H _ I h) fun u s1 hu => ?_) tree
  obtain ⟨x, H1, J, rx, a, dx, fs, rfl, there, none_, go⟩ := hu
  cases (show u = Value.ref a from rx)
  refine getmeth_ok J there cl me none_ (PySem.W.callWith_K (first := [.ref a]) (h₀ := X.base) I.ok.mod.kin me.kp (thn (args.run pos pins s1 σ H1 _ J go) fun us s2 hs => ?_) star plain)
  obtain ⟨vs, H2, J2, rel, pr⟩ := hs
  exact ⟨J2.kIn, run_fnS (us := .ref a :: us) (vs := .ref a :: vs) G room bd (pass σ) J2 (.cons rfl rel) pr⟩⟩
theorem pe_methW0 {pl : Sem Bool} (ho : PE X o ta) (cl : Cls X.K C) (me : Meth X.K C m f) (G : FnOk X.prog X.w X.K X.mg X.base CX k f fd ps sp) (room : Room k X.A) (bd : Binds X.K fd ps []) (pass : ∀ σ, PassesAt CX X σ (E σ))
    (tree : eval (.Call (.Attribute o m apos) [] [] pos) X.env = (do
      let ov ← eval o X.env
      standAt apos.atName
      let (f, first) ← holding [ov] (getMethod ov m pl)
      callWith pos f first (backTo pos (starEach [] X.env)) (backToKw pos (keywordEach [] X.env))) := by rfl) :
    PE X (.Call (.Attribute o m apos) [] [] pos) (tMethS C m sp E ta tNil) := ⟨fun pins s σ H Q I h => by
  refine PySem.W.methodCall_KW (pl := pl) (thn (ho.run pins s σ H _ I h) fun u s1 hu => ?_) tree
  obtain ⟨x, H1, J, rx, a, dx, fs, rfl, there, none_, go⟩ := hu
  cases (show u = Value.ref a from rx)
  exact getmeth_ok J there cl me none_ (PySem.W.callWith_K0 (first := [.ref a]) J.kIn me.kp (run_fnS (us := [.ref a]) (vs := [.ref a]) G room bd (pass σ) J (.cons rfl .nil) go))⟩
theorem pass0S {X : Cx} {E : L2.St → XK} : ∀ σ, PassesAt CX0 X σ (E σ) := fun _ _ _ _ _ _ _ h => h.elim
theorem passNS {X : Cx} : ∀ σ, PassesAt (L2N.CX X.prog X.w) X σ ((fun _ => E0) σ) := fun _ _ _ _ _ _ _ h => by
  obtain ⟨_, _, _, _, _, _, _, _, _, _, _, _, z⟩ := h
  exact z.elim
/-- C(..) -/
def kMake (C : Addr) (sp : Sp) (E : XK) (vs : List V) (H1 : Hp) (Q : VK) : Prop := ∀ x dx, H1 x = none → H1 dx = none → dx ≠ x → sp (.ref x :: (vs ++ [])) (upd (upd H1 dx (.own x)) x (.ins C dx [])) (fun v H2 => v = .non ∧ Q (.ref x) H2) E
theorem g_make {E : XK} (q : t σ H fun vs H1 => kMake C sp E vs H1 Q) : tMake C sp [] E t σ H Q := q
theorem g_kmake {E : XK} {vs : List V} (hH : Has F O H) (q : ∀ x dx H', H x = none → Has F ((x, .ins C dx []) :: (dx, .own x) :: O) H' → sp (.ref x :: vs) H' (fun v H2 => v = .non ∧ Q (.ref x) H2) E) : kMake C sp E vs H Q := by
  intro x dx nx nd ne
  rw [List.append_nil]
  refine q x dx _ nx ((hH.new nd).new (by rw [upd_ne (Ne.symm ne)]; exact nx))
/-- del d[k] -/
def kDel (x y : V) (D : Ends) (σ : L2.St) (H2 : Hp) : Prop := ∃ a kvs k, x = .ref a ∧ H2 a = some (.dK kvs) ∧ y = kV k ∧ (valV kvs k).isSome = true ∧ D.nx σ (upd H2 a (.dK (dropK kvs k)))
end
section
variable {X : Cx} {K : PySem.W.Frag} {σ : L2.St} {F : Hp} {O O' : Own} {H : Hp} {Q : VK} {td ty : TE} {D : Ends}
theorem g_del (q : td σ H fun x H1 => ty σ H1 fun y H2 => kDel x y D σ H2) : sDDel td ty D σ H := q
theorem g_kdel {a : Addr} {kvs : List (Key × V)} {z : V} {k : Key} (ez : z = kV k) (hH : Has F O H) (c : Chg O a (.dK kvs) (.dK (dropK kvs k)) O') (i : (valV kvs k).isSome = true) (q : ∀ H', Has F O' H' → D.nx σ H') : kDel (.ref a) z D σ H :=
  ⟨a, kvs, k, rfl, hH.get c.mem, ez, i, q _ (hH.put c)⟩
theorem g_dnewK (hH : Has F O H) (q : ∀ p H', H p = none → Has F ((p, .dK []) :: O) H' → Q (.ref p) H') : tDNewK σ H Q := fun p n => q p _ n (hH.new n)
/-! ### sorted -/
def rSortA (K : PySem.W.Frag) : List V → Hp → VK → Prop := fun vs H Q => (rSorted K vs H Q ∨ rSortedS K vs H Q) ∨
  (∃ (a : Addr) (kvs : List (Key × V)) (ks : List Str), vs = [.ref a] ∧ Rd H a (.dK kvs) ∧ kvs.map (·.1) = ks.map Sum.inr ∧ ks.length < 64 ∧ ∀ ys p, ys.Perm ks → sortedS ys = true → H p = none → Q (.ref p) (upd H p (.lst (ys.map V.str)))) ∨
  (∃ (a : Addr) (kvs : List (Key × V)) (ks : List Int), vs = [.ref a] ∧ Rd H a (.dK kvs) ∧ kvs.map (·.1) = ks.map Sum.inl ∧ ks.length < 64 ∧ ∀ (ys : List Int) (p : Addr), ys.Perm ks → ys.Pairwise (· ≤ ·) → H p = none → Q (.ref p) (upd H p (.lst (ys.map V.int))))
theorem cr_sortA (K : PySem.W.Frag) (hc : X.calm = true) (e : X.K = K := by rfl) : CallR X (.builtin "sorted") (rSortA K) := by
  subst e
  intro pins s σ H xs us Q I r h
  rcases h with (h | h) | h | h
  · exact cr_sorted pins s σ H xs us Q I r h
  · exact cr_sortedS pins s σ H xs us Q I r h
  · exact call_sortedD hc pins s σ H xs us Q I r h
  · exact call_sortedDI hc pins s σ H xs us Q I r h
theorem g_sortI {a : Addr} {ns : List Int} (h : H a = some (.lst (ns.map V.int))) (l : ns.length < 64) (hH : Has F O H) (q : ∀ (ys : List Int) p H', ys.Perm ns → ys.Pairwise (· ≤ ·) → H p = none → Has F ((p, .lst (ys.map V.int)) :: O) H' → Q (.ref p) H') : rSortA K [.ref a] H Q :=
  .inl (.inl ⟨a, ns, rfl, SqL.of h, l, fun ys p e s n => q ys p _ e s n (hH.new n)⟩)
theorem g_sortS {a : Addr} {ns : List Str} (h : H a = some (.lst (ns.map V.str))) (l : ns.length < 64) (hH : Has F O H) (q : ∀ (ys : List Str) p H', ys.Perm ns → sortedS ys = true → H p = none → Has F ((p, .lst (ys.map V.str)) :: O) H' → Q (.ref p) H') : rSortA K [.ref a] H Q :=
  .inl (.inr ⟨a, ns, rfl, SqL.of h, l, fun ys p e s n => q ys p _ e s n (hH.new n)⟩)
theorem g_sortDS {a : Addr} {kvs : List (Key × V)} {ks : List Str} (h : H a = some (.dK kvs)) (e : kvs.map (·.1) = ks.map Sum.inr) (l : ks.length < 64) (hH : Has F O H) (q : ∀ (ys : List Str) p H', ys.Perm ks → sortedS ys = true → H p = none → Has F ((p, .lst (ys.map V.str)) :: O) H' → Q (.ref p) H') : rSortA K [.ref a] H Q :=
  .inr (.inl ⟨a, kvs, ks, rfl, .inl h, e, l, fun ys p e s n => q ys p _ e s n (hH.new n)⟩)
theorem g_sortDI {a : Addr} {kvs : List (Key × V)} {ks : List Int} (h : H a = some (.dK kvs)) (e : kvs.map (·.1) = ks.map Sum.inl) (l : ks.length < 64) (hH : Has F O H) (q : ∀ (ys : List Int) p H', ys.Perm ks → ys.Pairwise (· ≤ ·) → H p = none → Has F ((p, .lst (ys.map V.int)) :: O) H' → Q (.ref p) H') : rSortA K [.ref a] H Q :=
  .inr (.inr ⟨a, kvs, ks, rfl, .inl h, e, l, fun ys p e s n => q ys p _ e s n (hH.new n)⟩)
end
/-! ### what a method changes -/
section
variable {F F1 F' H H' H1 : Hp} {A A' R : Own}
def ButA (A : Own) (H H' : Hp) : Prop := ∀ b u, b ∉ A.map (·.1) → H b = some u → H' b = some u
theorem Has.grownA (h : Has F (A ++ R) H) (hb : ButA A H H') (g : Grow F H F') (hA : Has F' A' H') (ea : ∀ q ∈ A', q.1 ∈ A.map (·.1) ∨ H q.1 = none) : Has F' (A' ++ R) H' := by
  have nd := h.nd
  rw [List.map_append, List.nodup_append] at nd
  refine ⟨hA.same, fun q hq => ?_, ?_⟩
  · rcases List.mem_append.mp hq with hq | hq
    · exact hA.own q hq
    · obtain ⟨f0, h0⟩ := h.own q (List.mem_append_right _ hq)
      refine ⟨by rw [g.2 _ (by rw [h0]; exact fun z => by cases z)]; exact f0, hb _ _ (fun m => ?_) h0⟩
      exact nd.2.2 _ m _ (List.mem_map.mpr ⟨q, hq, rfl⟩) rfl
  · rw [List.map_append, List.nodup_append]
    refine ⟨hA.nd, nd.2.1, fun x hx y hy e => ?_⟩
    obtain ⟨q, hq, rfl⟩ := List.mem_map.mp hx
    obtain ⟨r, hr, rfl⟩ := List.mem_map.mp hy
    rcases ea q hq with m | n
    · exact nd.2.2 _ m _ (List.mem_map.mpr ⟨r, hr, rfl⟩) e
    · rw [e, (h.own r (List.mem_append_right _ hr)).2] at n
      cases n
theorem Grow.refl : Grow F H F := ⟨Same.refl F, fun _ _ => rfl⟩
/-- what stands still: of old what stood still, of new what stands still now -/
def mixF (F H F1 : Hp) : Hp := fun b => match H b with
  | none => F1 b
  | some _ => F b
theorem mix_at {b : Addr} (n : H b = none) : mixF F H F1 b = F1 b := by
  unfold mixF
  rw [n]
theorem mix_old {b : Addr} (n : H b ≠ none) : mixF F H F1 b = F b := by
  unfold mixF
  cases e : H b with
  | none => exact (n e).elim
  | some u => rfl
theorem mix_grow (h : Has F A H) (s : Same (rmO A H) F1) : Grow F H (mixF F H F1) := by
  refine ⟨fun b u e => ?_, fun b n => mix_old n⟩
  rw [mix_old (by rw [h.same _ _ e]; exact fun z => by cases z)]
  exact e
theorem mix_but (h : Has F A H) (s : Same (rmO A H) F1) (h1 : Has F1 A' H1) : ButA A H H1 := fun b u n e => h1.same _ _ (s _ _ (by
  unfold rmO
  rw [if_neg n]
  exact e))
theorem mix_has (h : Has F A H) (s : Same (rmO A H) F1) (h1 : Has F1 A' H1) (ea : ∀ q ∈ A', q.1 ∈ A.map (·.1) ∨ H q.1 = none) : Has (mixF F H F1) A' H1 := by
  refine ⟨fun b u e => ?_, fun q hq => ⟨?_, (h1.own q hq).2⟩, h1.nd⟩
  · cases eh : H b with
    | none =>
      rw [mix_at eh] at e
      exact h1.same _ _ e
    | some o =>
      rw [mix_old (by rw [eh]; exact fun z => by cases z)] at e
      have := h.same _ _ e
      refine mix_but h s h1 b u (fun m => ?_) this
      obtain ⟨q, hq, rfl⟩ := List.mem_map.mp m
      rw [(h.own q hq).1] at e
      cases e
  · rcases ea q hq with m | n
    · obtain ⟨p, hp, e⟩ := List.mem_map.mp m
      have o := h.own p hp
      rw [← e, mix_old (by rw [o.2]; exact fun z => by cases z)]
      exact o.1
    · rw [mix_at n]
      exact (h1.own q hq).1
end
theorem ButA.step {F H H1 H2 : Hp} {A O1 O2 : Own} (hb : ButA A H H1) (h1 : Has F O1 H1) (nw : ∀ x ∈ O1, x.1 ∈ A.map (·.1) ∨ H x.1 = none) (h2 : Has (rmO O1 H1) O2 H2) : ButA A H H2 := fun b u n e => h2.same _ _ (by
  unfold rmO
  rw [if_neg (fun m => ?_)]
  · exact hb b u n e
  · obtain ⟨x, hx, rfl⟩ := List.mem_map.mp m
    rcases nw x hx with m' | z
    · exact n m'
    · rw [e] at z; cases z)
/-- what is new now was new then -/
theorem newp {F F1 H H1 : Hp} {A O1 : Own} {p : Addr} (h : Has F A H) (hb : ButA A H H1) (h1 : Has F1 O1 H1) (ea : ∀ q ∈ A, q.1 ∈ O1.map (·.1)) (n : H1 p = none) : H p = none := by
  cases e : H p with
  | none => rfl
  | some u =>
    by_cases m : p ∈ A.map (·.1)
    · obtain ⟨q, hq, rfl⟩ := List.mem_map.mp m
      obtain ⟨x, hx, ex⟩ := List.mem_map.mp (ea q hq)
      have := (h1.own x hx).2
      rw [ex, n] at this
      cases this
    · rw [hb p u m e] at n
      cases n
end Qk

namespace K86
open PySem PySem.Spec PyProof.Rows L2 Qk
/-! ### the text -/
def topS (i : Nat) : Stmt := PySem.Challenge.pw_partclones_k86_net_letters.main.body.getD i (.Pass ⟨0, 0, 0, 0⟩)
abbrev s_l_cells : Stmt := topS 6
abbrev n_l_cells : List Str := ["script", "cell"]
theorem sc_l_cells : FnScope n_l_cells ["script"] (defScope s_l_cells) := ⟨rfl, rfl, rfl, by decide +kernel, rfl, by decide +kernel, by decide +kernel⟩
abbrev s_l_next : Stmt := topS 7
abbrev n_l_next : List Str := ["feed", "many", "cell"]
theorem sc_l_next : FnScope n_l_next ["feed", "many"] (defScope s_l_next) := ⟨rfl, rfl, rfl, by decide +kernel, rfl, by decide +kernel, by decide +kernel⟩
abbrev s_l_text : Stmt := topS 8
abbrev n_l_text : List Str := ["feed", "at", "signs", "many", "found", "k", "place"]
theorem sc_l_text : FnScope n_l_text ["feed", "at"] (defScope s_l_text) := ⟨rfl, rfl, rfl, by decide +kernel, rfl, by decide +kernel, by decide +kernel⟩
abbrev s_l_words : Stmt := topS 9
abbrev n_l_words : List Str := ["feed", "at", "many", "j"]
theorem sc_l_words : FnScope n_l_words ["feed", "at"] (defScope s_l_words) := ⟨rfl, rfl, rfl, by decide +kernel, rfl, by decide +kernel, by decide +kernel⟩
abbrev s_l_pick : Stmt := topS 10
abbrev n_l_pick : List Str := ["feed", "rows", "last", "kind", "sign"]
theorem sc_l_pick : FnScope n_l_pick ["feed", "rows", "last"] (defScope s_l_pick) := ⟨rfl, rfl, rfl, by decide +kernel, rfl, by decide +kernel, by decide +kernel⟩
abbrev s_l_int : Stmt := topS 11
abbrev n_l_int : List Str := ["told", "due"]
theorem sc_l_int : FnScope n_l_int ["told", "due"] (defScope s_l_int) := ⟨rfl, rfl, rfl, by decide +kernel, rfl, by decide +kernel, by decide +kernel⟩
abbrev s_l_same : Stmt := topS 12
abbrev n_l_same : List Str := ["told", "row"]
theorem sc_l_same : FnScope n_l_same ["told", "row"] (defScope s_l_same) := ⟨rfl, rfl, rfl, by decide +kernel, rfl, by decide +kernel, by decide +kernel⟩
abbrev s_l_lists : Stmt := topS 13
abbrev n_l_lists : List Str := ["net", "rows", "told", "row", "one"]
theorem sc_l_lists : FnScope n_l_lists ["net", "rows"] (defScope s_l_lists) := ⟨rfl, rfl, rfl, by decide +kernel, rfl, by decide +kernel, by decide +kernel⟩
abbrev s_l_shows : Stmt := topS 14
abbrev n_l_shows : List Str := ["net", "rows", "row", "seen"]
theorem sc_l_shows : FnScope n_l_shows ["net", "rows"] (defScope s_l_shows) := ⟨rfl, rfl, rfl, by decide +kernel, rfl, by decide +kernel, by decide +kernel⟩
abbrev s_l_ask : Stmt := topS 15
abbrev n_l_ask : List Str := ["net", "word", "serial", "e", "base"]
theorem sc_l_ask : FnScope n_l_ask ["net", "word", "serial"] (defScope s_l_ask) := ⟨rfl, rfl, rfl, by decide +kernel, rfl, by decide +kernel, by decide +kernel⟩
abbrev s_l_right : Stmt := topS 16
abbrev n_l_right : List Str := ["told", "word", "found", "last"]
theorem sc_l_right : FnScope n_l_right ["told", "word", "found", "last"] (defScope s_l_right) := ⟨rfl, rfl, rfl, by decide +kernel, rfl, by decide +kernel, by decide +kernel⟩
abbrev s_l_left : Stmt := topS 17
abbrev n_l_left : List Str := ["rows", "word", "found", "last", "row"]
theorem sc_l_left : FnScope n_l_left ["rows", "word", "found", "last"] (defScope s_l_left) := ⟨rfl, rfl, rfl, by decide +kernel, rfl, by decide +kernel, by decide +kernel⟩
abbrev s_l_sent : Stmt := topS 18
abbrev n_l_sent : List Str := ["feed", "net", "rows", "last", "at", "strings", "sender", "row", "told"]
theorem sc_l_sent : FnScope n_l_sent ["feed", "net", "rows", "last", "at"] (defScope s_l_sent) := ⟨rfl, rfl, rfl, by decide +kernel, rfl, by decide +kernel, by decide +kernel⟩
abbrev s_law : Stmt := topS 19
abbrev n_law : List Str := ["script", "feed", "turn", "plan", "net", "other", "rows", "last", "others", "k", "word", "serial", "found", "told", "row"]
theorem sc_law : FnScope n_law ["script"] (defScope s_law) := ⟨rfl, rfl, rfl, by decide +kernel, rfl, by decide +kernel, by decide +kernel⟩
abbrev s_Net___init__ : Stmt := inClass (topS 4) 0
abbrev n_Net___init__ : List Str := ["self"]
theorem sc_Net___init__ : FnScope n_Net___init__ ["self"] (defScope s_Net___init__) := ⟨rfl, rfl, rfl, by decide +kernel, rfl, by decide +kernel, by decide +kernel⟩
abbrev s_Net_send : Stmt := inClass (topS 4) 1
abbrev n_Net_send : List Str := ["self", "sender", "receiver", "strings", "serial"]
theorem sc_Net_send : FnScope n_Net_send ["self", "sender", "receiver", "strings"] (defScope s_Net_send) := ⟨rfl, rfl, rfl, by decide +kernel, rfl, by decide +kernel, by decide +kernel⟩
abbrev s_Net_waiting : Stmt := inClass (topS 4) 2
abbrev n_Net_waiting : List Str := ["self", "found", "serial", "sender", "receiver", "_"]
theorem sc_Net_waiting : FnScope n_Net_waiting ["self"] (defScope s_Net_waiting) := ⟨rfl, rfl, rfl, by decide +kernel, rfl, by decide +kernel, by decide +kernel⟩
abbrev s_Net_look : Stmt := inClass (topS 4) 3
abbrev n_Net_look : List Str := ["self", "serial", "sender", "receiver", "strings"]
theorem sc_Net_look : FnScope n_Net_look ["self", "serial"] (defScope s_Net_look) := ⟨rfl, rfl, rfl, by decide +kernel, rfl, by decide +kernel, by decide +kernel⟩
abbrev s_Net_deliver : Stmt := inClass (topS 4) 4
abbrev n_Net_deliver : List Str := ["self", "serial", "found"]
theorem sc_Net_deliver : FnScope n_Net_deliver ["self", "serial"] (defScope s_Net_deliver) := ⟨rfl, rfl, rfl, by decide +kernel, rfl, by decide +kernel, by decide +kernel⟩
abbrev s_Net_double : Stmt := inClass (topS 4) 5
abbrev n_Net_double : List Str := ["self", "serial", "sender", "receiver", "strings"]
theorem sc_Net_double : FnScope n_Net_double ["self", "serial"] (defScope s_Net_double) := ⟨rfl, rfl, rfl, by decide +kernel, rfl, by decide +kernel, by decide +kernel⟩
abbrev s_Net_lose : Stmt := inClass (topS 4) 6
abbrev n_Net_lose : List Str := ["self", "serial"]
theorem sc_Net_lose : FnScope n_Net_lose ["self", "serial"] (defScope s_Net_lose) := ⟨rfl, rfl, rfl, by decide +kernel, rfl, by decide +kernel, by decide +kernel⟩
structure Txt (K : PySem.W.Frag) (mg : Str → Option Value) where
  f_l_cells : Addr
  fd_l_cells : FuncData
  F_l_cells : Fun K "_law_cells" "_law_cells" s_l_cells f_l_cells fd_l_cells
  g_l_cells : mg "_law_cells" = some (.ref f_l_cells)
  b_l_cells : Binds K fd_l_cells ["script"] []
  f_l_next : Addr
  fd_l_next : FuncData
  F_l_next : Fun K "_law_next" "_law_next" s_l_next f_l_next fd_l_next
  g_l_next : mg "_law_next" = some (.ref f_l_next)
  b_l_next : Binds K fd_l_next ["feed", "many"] []
  f_l_text : Addr
  fd_l_text : FuncData
  F_l_text : Fun K "_law_text" "_law_text" s_l_text f_l_text fd_l_text
  g_l_text : mg "_law_text" = some (.ref f_l_text)
  b_l_text : Binds K fd_l_text ["feed", "at"] []
  f_l_words : Addr
  fd_l_words : FuncData
  F_l_words : Fun K "_law_words" "_law_words" s_l_words f_l_words fd_l_words
  g_l_words : mg "_law_words" = some (.ref f_l_words)
  b_l_words : Binds K fd_l_words ["feed", "at"] []
  f_l_pick : Addr
  fd_l_pick : FuncData
  F_l_pick : Fun K "_law_pick" "_law_pick" s_l_pick f_l_pick fd_l_pick
  g_l_pick : mg "_law_pick" = some (.ref f_l_pick)
  b_l_pick : Binds K fd_l_pick ["feed", "rows", "last"] []
  f_l_int : Addr
  fd_l_int : FuncData
  F_l_int : Fun K "_law_int" "_law_int" s_l_int f_l_int fd_l_int
  g_l_int : mg "_law_int" = some (.ref f_l_int)
  b_l_int : Binds K fd_l_int ["told", "due"] []
  f_l_same : Addr
  fd_l_same : FuncData
  F_l_same : Fun K "_law_same" "_law_same" s_l_same f_l_same fd_l_same
  g_l_same : mg "_law_same" = some (.ref f_l_same)
  b_l_same : Binds K fd_l_same ["told", "row"] []
  f_l_lists : Addr
  fd_l_lists : FuncData
  F_l_lists : Fun K "_law_lists" "_law_lists" s_l_lists f_l_lists fd_l_lists
  g_l_lists : mg "_law_lists" = some (.ref f_l_lists)
  b_l_lists : Binds K fd_l_lists ["net", "rows"] []
  f_l_shows : Addr
  fd_l_shows : FuncData
  F_l_shows : Fun K "_law_shows" "_law_shows" s_l_shows f_l_shows fd_l_shows
  g_l_shows : mg "_law_shows" = some (.ref f_l_shows)
  b_l_shows : Binds K fd_l_shows ["net", "rows"] []
  f_l_ask : Addr
  fd_l_ask : FuncData
  F_l_ask : Fun K "_law_ask" "_law_ask" s_l_ask f_l_ask fd_l_ask
  g_l_ask : mg "_law_ask" = some (.ref f_l_ask)
  b_l_ask : Binds K fd_l_ask ["net", "word", "serial"] []
  f_l_right : Addr
  fd_l_right : FuncData
  F_l_right : Fun K "_law_right" "_law_right" s_l_right f_l_right fd_l_right
  g_l_right : mg "_law_right" = some (.ref f_l_right)
  b_l_right : Binds K fd_l_right ["told", "word", "found", "last"] []
  f_l_left : Addr
  fd_l_left : FuncData
  F_l_left : Fun K "_law_left" "_law_left" s_l_left f_l_left fd_l_left
  g_l_left : mg "_law_left" = some (.ref f_l_left)
  b_l_left : Binds K fd_l_left ["rows", "word", "found", "last"] []
  f_l_sent : Addr
  fd_l_sent : FuncData
  F_l_sent : Fun K "_law_sent" "_law_sent" s_l_sent f_l_sent fd_l_sent
  g_l_sent : mg "_law_sent" = some (.ref f_l_sent)
  b_l_sent : Binds K fd_l_sent ["feed", "net", "rows", "last", "at"] []
  f_law : Addr
  fd_law : FuncData
  F_law : Fun K "law" "law" s_law f_law fd_law
  g_law : mg "law" = some (.ref f_law)
  b_law : Binds K fd_law ["script"] []
  f_Net___init__ : Addr
  fd_Net___init__ : FuncData
  F_Net___init__ : Fun K "__init__" "Net.__init__" s_Net___init__ f_Net___init__ fd_Net___init__
  b_Net___init__ : Binds K fd_Net___init__ ["self"] []
  f_Net_send : Addr
  fd_Net_send : FuncData
  F_Net_send : Fun K "send" "Net.send" s_Net_send f_Net_send fd_Net_send
  b_Net_send : Binds K fd_Net_send ["self", "sender", "receiver", "strings"] []
  f_Net_waiting : Addr
  fd_Net_waiting : FuncData
  F_Net_waiting : Fun K "waiting" "Net.waiting" s_Net_waiting f_Net_waiting fd_Net_waiting
  b_Net_waiting : Binds K fd_Net_waiting ["self"] []
  f_Net_look : Addr
  fd_Net_look : FuncData
  F_Net_look : Fun K "look" "Net.look" s_Net_look f_Net_look fd_Net_look
  b_Net_look : Binds K fd_Net_look ["self", "serial"] []
  f_Net_deliver : Addr
  fd_Net_deliver : FuncData
  F_Net_deliver : Fun K "deliver" "Net.deliver" s_Net_deliver f_Net_deliver fd_Net_deliver
  b_Net_deliver : Binds K fd_Net_deliver ["self", "serial"] []
  f_Net_double : Addr
  fd_Net_double : FuncData
  F_Net_double : Fun K "double" "Net.double" s_Net_double f_Net_double fd_Net_double
  b_Net_double : Binds K fd_Net_double ["self", "serial"] []
  f_Net_lose : Addr
  fd_Net_lose : FuncData
  F_Net_lose : Fun K "lose" "Net.lose" s_Net_lose f_Net_lose fd_Net_lose
  b_Net_lose : Binds K fd_Net_lose ["self", "serial"] []
  C_Net : Addr
  g_Net : mg "Net" = some (.ref C_Net)
  cl_Net : Cls K C_Net
  nA_Net__letters : NoAttr K C_Net "_letters"
  nA_Net__last : NoAttr K C_Net "_last"
  Mk_Net : Mk K C_Net f_Net___init__
  M_Net_send : Meth K C_Net "send" f_Net_send
  M_Net_waiting : Meth K C_Net "waiting" f_Net_waiting
  M_Net_look : Meth K C_Net "look" f_Net_look
  M_Net_deliver : Meth K C_Net "deliver" f_Net_deliver
  M_Net_double : Meth K C_Net "double" f_Net_double
  M_Net_lose : Meth K C_Net "lose" f_Net_lose
  C_PartError : Addr
  g_PartError : mg "PartError" = some (.ref C_PartError)
  C_NoLetter : Addr
  g_NoLetter : mg "NoLetter" = some (.ref C_NoLetter)
  fi_NoLetter : Addr
  fdi_NoLetter : FuncData
  Fi_NoLetter : Fun K "__init__" "NoLetter.__init__" (inClass (topS 2) 0) fi_NoLetter fdi_NoLetter
  bi_NoLetter : Binds K fdi_NoLetter ["self", "serial"] []
  O_NoLetter : OexC K C_NoLetter
  iC_NoLetter : PySem.W.findIn K (.ref C_NoLetter) "__init__" = some (some (.ref fi_NoLetter))
  tI_NoLetter : PySem.W.typeIn K (.ref fi_NoLetter) = some (.type "function")
  N_NoLetter_serial : PySem.W.findIn K (.ref C_NoLetter) "serial" = some none
  XF_NoLetter : XfC K C_NoLetter
  IS_NoLetter : IsC K C_NoLetter
  M_NoLetter_NoLetter : PySem.W.exmOne K (.ref C_NoLetter) (.ref C_NoLetter) = some true
  K_NoLetter_PartError : PySem.W.kitOne K (.ref C_NoLetter) (.ref C_PartError) = some true
  K_NoLetter_ValueError : PySem.W.kitOne K (.ref C_NoLetter) (.type "ValueError") = some true
  m_ValueError : mg "ValueError" = none
  m_abs : mg "abs" = none
  m_bool : mg "bool" = none
  m_int : mg "int" = none
  m_isinstance : mg "isinstance" = none
  m_len : mg "len" = none
  m_list : mg "list" = none
  m_range : mg "range" = none
  m_sorted : mg "sorted" = none
  m_tuple : mg "tuple" = none
section
variable {P : Program} {w : World} {K : PySem.W.Frag} {mg : Str → Option Value} {base : Heap}
theorem sc_init_NoLetter : FnScope ["self", "serial"] ["self", "serial"] (defScope (inClass (topS 2) 0)) := ⟨rfl, rfl, rfl, by decide +kernel, rfl, by decide +kernel, by decide +kernel⟩
theorem ok_init_NoLetter (T : Txt K mg) : FnOk P w K mg base CX0 1 T.fi_NoLetter T.fdi_NoLetter ["self", "serial"] (sp_oinit T.C_NoLetter ["serial"]) := by
  refine T.Fi_NoLetter.ok sc_init_NoLetter (fun vs H Q E h => sp_oinit_len h) (fun cdv A outer s H vs Q E hr h => ?_)
  refine ⟨_, (pss_one (ps_ost (pv 0) (pv 1))), ?_⟩
  obtain ⟨a, ws, rfl, hl, ha, q⟩ := h
  match ws, hl with
  | [v1], _ =>
  refine ⟨_, rfl, _, rfl, a, T.C_NoLetter, rfl, T.O_NoLetter, T.N_NoLetter_serial, .inl ⟨ha, fun dx n ne => ?_⟩⟩
  have z := q dx n ne
  first | exact z | (rw [upd_over ne]; exact z) | (rw [upd_over ne, upd_over ne]; exact z)
end
local macro_rules | `(tactic| walk_at "m") => `(tactic| ((repeat (first | exact List.Mem.head _ | apply List.Mem.tail)); done))
local macro_rules | `(tactic| walk_at "h") => `(tactic| first | assumption | exact Has.gF (by assumption) (by assumption) | exact Has.get (by assumption) (by walk_at "m"))
local macro_rules | `(tactic| walk_at "c") => `(tactic| ((repeat (first | exact Chg.hd | apply Chg.tl)); done))
local macro_rules | `(tactic| walk_at "is") => `(tactic| first
  | ((with_reducible refine' is2_non ?gh ?_); (case gh => walk_at "h"))
  | (with_reducible refine is_int_list ?_)
  | (with_reducible refine is_int_tuple ?_)
  | (with_reducible refine is_int_dict ?_)
  | (with_reducible refine is_int_int ?_)
  | (with_reducible refine is_int_bool ?_)
  | (with_reducible refine is_int_str ?_)
  | ((with_reducible refine' is2_int ?gh ?_); (case gh => walk_at "h"))
  | (with_reducible refine is_str_list ?_)
  | (with_reducible refine is_str_tuple ?_)
  | (with_reducible refine is_str_dict ?_)
  | (with_reducible refine is_str_int ?_)
  | (with_reducible refine is_str_bool ?_)
  | (with_reducible refine is_str_str ?_)
  | ((with_reducible refine' is2_str ?gh ?_); (case gh => walk_at "h"))
  | (with_reducible refine is_bool_list ?_)
  | (with_reducible refine is_bool_tuple ?_)
  | (with_reducible refine is_bool_dict ?_)
  | (with_reducible refine is_bool_int ?_)
  | (with_reducible refine is_bool_bool ?_)
  | (with_reducible refine is_bool_str ?_)
  | ((with_reducible refine' is2_bool ?gh ?_); (case gh => walk_at "h"))
  | ((with_reducible refine' is_list_list ?gh ?_); (case gh => walk_at "h"))
  | ((with_reducible refine' is_list_tuple ?gh ?_); (case gh => walk_at "h"))
  | ((with_reducible refine' is_list_dict ?gh ?_); (case gh => walk_at "h"))
  | ((with_reducible refine' is_list_int ?gh ?_); (case gh => walk_at "h"))
  | ((with_reducible refine' is_list_bool ?gh ?_); (case gh => walk_at "h"))
  | ((with_reducible refine' is_list_str ?gh ?_); (case gh => walk_at "h"))
  | ((with_reducible refine' is2_list ?ga ?gb ?_); (case ga => walk_at "h"); (case gb => walk_at "h"))
  | ((with_reducible refine' is_tuple_list ?gh ?_); (case gh => walk_at "h"))
  | ((with_reducible refine' is_tuple_tuple ?gh ?_); (case gh => walk_at "h"))
  | ((with_reducible refine' is_tuple_dict ?gh ?_); (case gh => walk_at "h"))
  | ((with_reducible refine' is_tuple_int ?gh ?_); (case gh => walk_at "h"))
  | ((with_reducible refine' is_tuple_bool ?gh ?_); (case gh => walk_at "h"))
  | ((with_reducible refine' is_tuple_str ?gh ?_); (case gh => walk_at "h"))
  | ((with_reducible refine' is2_tuple ?ga ?gb ?_); (case ga => walk_at "h"); (case gb => walk_at "h"))
  | ((with_reducible refine' is_dict_list ?gh ?_); (case gh => walk_at "h"))
  | ((with_reducible refine' is_dict_tuple ?gh ?_); (case gh => walk_at "h"))
  | ((with_reducible refine' is_dict_dict ?gh ?_); (case gh => walk_at "h"))
  | ((with_reducible refine' is_dict_int ?gh ?_); (case gh => walk_at "h"))
  | ((with_reducible refine' is_dict_bool ?gh ?_); (case gh => walk_at "h"))
  | ((with_reducible refine' is_dict_str ?gh ?_); (case gh => walk_at "h"))
  | ((with_reducible refine' is2_dict ?ga ?gb ?_); (case ga => walk_at "h"); (case gb => walk_at "h")))
local macro_rules | `(tactic| walk_at "g") => `(tactic| first
  | (with_reducible refine g_seq ?_)
  | (with_reducible refine g_asg ?_)
  | ((with_reducible refine g_name ?_); dsimp only [List.set, wipe, List.map])
  | ((with_reducible refine' g_var ?gv ?_); (case gv => exact rfl))
  | (with_reducible refine g_c ?_)
  | (with_reducible refine g_op ?_)
  | (with_reducible refine g_cons ?_)
  | (with_reducible refine g_nil ?_)
  | (with_reducible refine g_cb ?_)
  | (with_reducible refine g_call ?_)
  | (with_reducible refine g_tup ?_)
  | (with_reducible refine g_lst ?_)
  | (with_reducible refine g_bm ?_)
  | (with_reducible refine g_bm0 ?_)
  | ((with_reducible refine' g_kbm ?gh ?_); (case gh => walk_at "h"))
  | (with_reducible refine g_drop ?_)
  | (with_reducible refine g_ret ?_)
  | (with_reducible refine g_retN ?_)
  | (with_reducible refine g_next ?_)
  | (with_reducible refine g_brk ?_)
  | (with_reducible refine g_cont ?_)
  | (with_reducible refine g_if ?_)
  | ((with_reducible refine' g_aug ?gv ?_); (case gv => exact rfl))
  | (with_reducible refine g_ipI ?_)
  | (with_reducible refine g_test ?_)
  | (with_reducible refine g_tB ?_)
  | (with_reducible refine g_kB ?_)
  | (with_reducible refine g_not ?_)
  | (with_reducible refine g_and ?_)
  | (with_reducible refine g_or ?_)
  | (with_reducible refine g_andV ?_)
  | (with_reducible refine g_orV ?_)
  | (with_reducible refine g_notV ?_)
  | (with_reducible refine g_ifE ?_)
  | (with_reducible refine g_addI ?_)
  | (with_reducible refine g_rI0 ?_)
  | (with_reducible refine g_eqI ?_)
  | (with_reducible refine g_eqS ?_)
  | (with_reducible refine g_neI ?_)
  | (with_reducible refine g_neS ?_)
  | (with_reducible refine g_isN ?_)
  | (with_reducible refine g_notN ?_)
  | (with_reducible refine g_int ?_)
  | (with_reducible refine g_max2 ?_)
  | ((with_reducible refine' g_lenL ?gh ?_); (case gh => walk_at "h"))
  | (with_reducible refine g_sub ?_)
  | (with_reducible refine g_gcons ?_)
  | (with_reducible refine g_gnil ?_)
  | (with_reducible refine g_un ?_)
  | (with_reducible refine g_rU ?_)
  | (with_reducible refine g_forL ?_)
  | (with_reducible refine g_forR1 ?_)
  | (with_reducible refine g_forR2 ?_)
  | (with_reducible refine g_forR3 ?_)
  | (with_reducible refine g_lcL ?_)
  | (with_reducible refine g_lcR1 ?_)
  | (with_reducible refine g_lcR2 ?_)
  | (with_reducible refine g_slice ?_)
  | (with_reducible refine g_part ?_)
  | (with_reducible refine g_kOI ?_)
  | (with_reducible refine g_nopart ?_)
  | (with_reducible refine g_yes ?_)
  | ((with_reducible refine' g_wipe ?gv ?_); (case gv => exact rfl))
  | (with_reducible refine iteT ?_)
  | (with_reducible refine iteF ?_)
  | (with_reducible refine i_nf ?_)
  | (with_reducible refine i_nt ?_)
  | ((with_reducible refine' g_gtup ?gh ?gl ?_); (case gh => walk_at "h"); (case gl => exact rfl))
  | ((with_reducible refine' g_notinI ?gh ?_); (case gh => walk_at "h"))
  | ((with_reducible refine' g_inI ?gh ?_); (case gh => walk_at "h"))
  | ((with_reducible refine' g_kget2 ?gh ?_); (case gh => walk_at "h"))
  | ((with_reducible refine' g_kgotI ?gh ?_); (case gh => walk_at "h"))
  | (with_reducible refine g_tRev ?_)
  | (with_reducible refine g_neB ?_)
  | (with_reducible refine g_eqB ?_)
  | ((with_reducible refine' g_lenT ?gh ?_); (case gh => walk_at "h"))
  | (with_reducible refine g_star ?_)
  | ((with_reducible refine' g_kstarL ?gh ?_); (case gh => walk_at "h"))
  | ((with_reducible refine' g_kstarT ?gh ?_); (case gh => walk_at "h"))
  | (with_reducible refine g_tru ?_)
  | ((with_reducible refine' g_truL ?gh ?_); (case gh => walk_at "h"))
  | (with_reducible refine g_get2 ?_)
  | (with_reducible refine g_try ?_)
  | (with_reducible refine g_fld ?_)
  | (with_reducible refine g_sfld ?_)
  | (with_reducible refine g_meth ?_)
  | (with_reducible refine g_make ?_)
  | (with_reducible refine g_del ?_)
  | (with_reducible refine g_callS ?_)
  | (with_reducible refine g_raise ?_)
  | (with_reducible refine g_xf ?_)
  | walk_at "is")
local macro_rules | `(tactic| walk_at "gg") => `(tactic| repeat walk_at "g")
local macro_rules | `(tactic| walk_at "sz") => `(tactic| (refine sz ?_; simp only [List.length_cons, List.length_nil, List.length_map, List.length_append, List.length_replicate]; omega))
local macro_rules | `(tactic| walk_at "sub") => `(tactic| ((repeat (first | exact List.Sublist.slnil | with_reducible apply List.Sublist.cons_cons | with_reducible apply List.Sublist.cons)); done))

/-! ### letters -/
abbrev Row := Int × Str × Str × List Str
def okL (xs : List Str) : Prop := ∀ x ∈ xs, PyData.strOk x = true
def tS (ls : List Str) : PyData := .tuple (ls.map PyData.str)
theorem dq_tS {H : Hp} {a : Addr} {xs : List Str} (h : H a = some (.tup (xs.map V.str))) : Dq H (.ref a) (tS xs) := .tup h (DqAll.strs xs)
theorem tS_inv {H : Hp} {v : V} {xs : List Str} (h : Dq H v (tS xs)) : ∃ a, v = .ref a ∧ H a = some (.tup (xs.map V.str)) := by
  cases h with
  | tup s a =>
    rw [a.of_strs] at s
    exact ⟨_, rfl, s⟩
theorem tS_noL (xs : List Str) : noL (tS xs) = true := by
  unfold tS
  rw [noL]
  exact noLs_mem fun d hd => by
    obtain ⟨x, _, rfl⟩ := List.mem_map.mp hd
    rfl
theorem sh_tS {n : Nat} {xs : List Str} (h : okL xs) : Sh (n + 1) (tS xs) := Sh.tuple fun d hd => by
  obtain ⟨x, hx, rfl⟩ := List.mem_map.mp hd
  exact Sh.str (h x hx)
def rowT (r : Row) : PyData := .tuple [.int r.1, .str r.2.1, .str r.2.2.1, tS r.2.2.2]
def letD (r : Row) : PyData := .tuple [.str r.2.1, .str r.2.2.1, tS r.2.2.2]
def waD (r : Row) : PyData := .tuple [.int r.1, .str r.2.1, .str r.2.2.1]
def okR (r : Row) : Prop := PyData.strOk r.2.1 = true ∧ PyData.strOk r.2.2.1 = true ∧ okL r.2.2.2 ∧ r.2.2.2.length ≤ 20
theorem letD_at {F : Hp} {v : V} {r : Row} (h : Dq F v (letD r)) : ∃ T tr, v = .ref T ∧ F T = some (.tup [.str r.2.1, .str r.2.2.1, .ref tr]) ∧ F tr = some (.tup (r.2.2.2.map V.str)) := by
  cases h with
  | @tup T _ _ hT hs =>
    cases hs with
    | cons h1 hs =>
      cases hs with
      | cons h2 hs =>
        cases hs with
        | cons h3 hs =>
          cases hs
          cases h1
          cases h2
          obtain ⟨tr, rfl, er⟩ := tS_inv h3
          exact ⟨T, tr, rfl, hT, er⟩
theorem rowT_at {F : Hp} {v : V} {r : Row} (h : Dq F v (rowT r)) : ∃ T tr, v = .ref T ∧ F T = some (.tup [.int r.1, .str r.2.1, .str r.2.2.1, .ref tr]) ∧ F tr = some (.tup (r.2.2.2.map V.str)) := by
  cases h with
  | @tup T _ _ hT hs =>
    cases hs with
    | cons h0 hs =>
      cases hs with
      | cons h1 hs =>
        cases hs with
        | cons h2 hs =>
          cases hs with
          | cons h3 hs =>
            cases hs
            cases h0
            cases h1
            cases h2
            obtain ⟨tr, rfl, er⟩ := tS_inv h3
            exact ⟨T, tr, rfl, hT, er⟩
/-- the letters of a net: kvs in the dict, rows the table, n the last number -/
structure NetOk (F : Hp) (kvs : List (Key × V)) (rows : List Row) (n : Int) : Prop where
  keys : kvs.map (·.1) = rows.map fun r => (Sum.inl r.1 : Key)
  dq : DqAll F (kvs.map (·.2)) (rows.map letD)
  up : rows.Pairwise fun r s => r.1 < s.1
  ok : ∀ r ∈ rows, r.1 ≤ n ∧ okR r
  few : rows.length ≤ 40
theorem NetOk.mono {F F' : Hp} {kvs : List (Key × V)} {rows : List Row} {n : Int} (h : NetOk F kvs rows n) (s : Same F F') : NetOk F' kvs rows n := ⟨h.keys, h.dq.up s _ _, h.up, h.ok, h.few⟩
theorem NetOk.empty {F : Hp} : NetOk F [] [] 0 := ⟨rfl, .nil, List.Pairwise.nil, (fun r h => by cases h), Nat.zero_le _⟩
theorem kvs_find : ∀ {kvs : List (Key × V)} {rows : List Row} {F : Hp} {k : Int}, kvs.map (·.1) = rows.map (fun r => (Sum.inl r.1 : Key)) → DqAll F (kvs.map (·.2)) (rows.map letD) →
    (∀ r, rows.find? (fun r => decide (r.1 = k)) = some r → ∃ v, valV kvs (.inl k) = some v ∧ Dq F v (letD r)) ∧ (rows.find? (fun r => decide (r.1 = k)) = none → valV kvs (.inl k) = none)
  | [], [], _, _, _, _ => ⟨fun r h => (by cases h), fun _ => rfl⟩
  | p :: kvs, [], _, _, e, _ => by cases e
  | [], r :: rows, _, _, e, _ => by cases e
  | (q, v) :: kvs, r :: rows, F, k, e, d => by
    rw [List.map_cons, List.map_cons] at e
    injection e with e1 e2
    rw [List.map_cons, List.map_cons] at d
    cases d with
    | cons d1 d2 =>
      have e1 : q = .inl r.1 := e1
      subst e1
      obtain ⟨i1, i2⟩ := kvs_find (k := k) e2 d2
      by_cases h : r.1 = k
      · subst h
        rw [List.find?_cons_of_pos (by simp)]
        exact ⟨fun r' h' => by cases h'; exact ⟨v, valV_pos rfl, d1⟩, fun h' => by cases h'⟩
      · rw [List.find?_cons_of_neg (by simpa using h), valV_neg (p := (Sum.inl r.1, v)) (by intro z; exact h (Sum.inl.inj z))]
        exact ⟨i1, i2⟩
theorem NetOk.found {F : Hp} {kvs : List (Key × V)} {rows : List Row} {n k : Int} (h : NetOk F kvs rows n) {r : Row} (e : rows.find? (fun r => decide (r.1 = k)) = some r) : ∃ v, valV kvs (.inl k) = some v ∧ Dq F v (letD r) := (kvs_find h.keys h.dq).1 r e
theorem NetOk.gone {F : Hp} {kvs : List (Key × V)} {rows : List Row} {n k : Int} (h : NetOk F kvs rows n) (e : rows.find? (fun r => decide (r.1 = k)) = none) : valV kvs (.inl k) = none := (kvs_find h.keys h.dq).2 e
theorem NetOk.snoc {F : Hp} {kvs : List (Key × V)} {rows : List Row} {n : Int} (h : NetOk F kvs rows n) {v : V} {s r : Str} {ss : List Str} (d : Dq F v (letD (n + 1, s, r, ss))) (ok : okR (n + 1, s, r, ss)) (few : rows.length < 40) :
    NetOk F (putK kvs (.inl (n + 1)) v) (rows ++ [(n + 1, s, r, ss)]) (n + 1) := by
  have no : rows.find? (fun r => decide (r.1 = n + 1)) = none := by
    rw [List.find?_eq_none]
    intro x hx
    have := (h.ok x hx).1
    simp
    omega
  rw [putK_new v (h.gone no)]
  refine ⟨?_, ?_, ?_, fun x hx => ?_, by rw [List.length_append]; show _ + 1 ≤ 40; omega⟩
  · rw [List.map_append, List.map_append, h.keys]
    rfl
  · rw [List.map_append, List.map_append]
    exact h.dq.snoc d
  · rw [List.pairwise_append]
    refine ⟨h.up, List.pairwise_singleton _ _, fun a ha b hb => ?_⟩
    rw [List.mem_singleton.mp hb]
    have := (h.ok a ha).1
    show a.1 < n + 1
    omega
  · rcases List.mem_append.mp hx with hx | hx
    · exact ⟨by have := (h.ok x hx).1; omega, (h.ok x hx).2⟩
    · rw [List.mem_singleton.mp hx]
      exact ⟨Int.le_refl _, ok⟩
theorem drop_pairs : ∀ {kvs : List (Key × V)} {rows : List Row} {F : Hp} {k : Int}, kvs.map (·.1) = rows.map (fun r => (Sum.inl r.1 : Key)) → DqAll F (kvs.map (·.2)) (rows.map letD) →
    (dropK kvs (.inl k)).map (·.1) = (rows.filter fun r => decide (r.1 ≠ k)).map (fun r => (Sum.inl r.1 : Key)) ∧ DqAll F ((dropK kvs (.inl k)).map (·.2)) ((rows.filter fun r => decide (r.1 ≠ k)).map letD)
  | [], [], _, _, _, _ => ⟨rfl, .nil⟩
  | p :: kvs, [], _, _, e, _ => by cases e
  | [], r :: rows, _, _, e, _ => by cases e
  | (q, v) :: kvs, r :: rows, F, k, e, d => by
    rw [List.map_cons, List.map_cons] at e
    injection e with e1 e2
    rw [List.map_cons, List.map_cons] at d
    cases d with
    | cons d1 d2 =>
      have e1 : q = .inl r.1 := e1
      subst e1
      obtain ⟨i1, i2⟩ := drop_pairs (k := k) e2 d2
      by_cases h : r.1 = k
      · subst h
        rw [dropK_pos rfl, List.filter_cons_of_neg (by simp)]
        exact ⟨i1, i2⟩
      · rw [dropK_neg (p := (Sum.inl r.1, v)) (by intro z; exact h (Sum.inl.inj z)), List.filter_cons_of_pos (by simpa using h), List.map_cons, List.map_cons, List.map_cons, List.map_cons, i1]
        exact ⟨rfl, .cons d1 i2⟩
theorem NetOk.drop {F : Hp} {kvs : List (Key × V)} {rows : List Row} {n k : Int} (h : NetOk F kvs rows n) : NetOk F (dropK kvs (.inl k)) (rows.filter fun r => decide (r.1 ≠ k)) n := by
  obtain ⟨h1, h2⟩ := drop_pairs (k := k) h.keys h.dq
  exact ⟨h1, h2, h.up.filter _, fun r hr => h.ok r (List.mem_filter.mp hr).1, Nat.le_trans (List.length_filter_le _ _) h.few⟩
/-- an ascending list's only ascending order is itself -/
theorem perm_up : ∀ {xs ys : List Int}, ys.Perm xs → ys.Pairwise (· ≤ ·) → xs.Pairwise (· < ·) → ys = xs
  | [], ys, p, _, _ => List.perm_nil.mp p
  | x :: xs, [], p, _, _ => by have := p.length_eq; cases this
  | x :: xs, y :: ys, p, h1, h2 => by
    obtain ⟨a1, a2⟩ := List.pairwise_cons.mp h1
    obtain ⟨b1, b2⟩ := List.pairwise_cons.mp h2
    have e : y = x := by
      have m1 : y ∈ x :: xs := p.mem_iff.mp List.mem_cons_self
      have m2 : x ∈ y :: ys := p.mem_iff.mpr List.mem_cons_self
      rcases List.mem_cons.mp m1 with e | m1
      · exact e
      · rcases List.mem_cons.mp m2 with e | m2
        · exact e.symm
        · have := b1 y m1
          have := a1 x m2
          omega
    subst e
    rw [perm_up (List.Perm.cons_inv p) a2 b2]
theorem NetOk.sorted {F : Hp} {kvs : List (Key × V)} {rows : List Row} {n : Int} (h : NetOk F kvs rows n) {ys : List Int} (p : ys.Perm (rows.map (·.1))) (s : ys.Pairwise (· ≤ ·)) : ys = rows.map (·.1) := perm_up p s (List.pairwise_map.mpr h.up)
theorem find_self {rows : List Row} (up : rows.Pairwise fun r s => r.1 < s.1) {i : Nat} {r : Row} (e : rows[i]? = some r) : rows.find? (fun s => decide (s.1 = r.1)) = some r := by
  induction rows generalizing i with
  | nil => simp at e
  | cons x rows ih =>
    obtain ⟨a1, a2⟩ := List.pairwise_cons.mp up
    cases i with
    | zero =>
      have e : x = r := Option.some.inj e
      subst e
      rw [List.find?_cons_of_pos (by simp)]
    | succ i =>
      have := a1 r (List.mem_of_getElem? (i := i) e)
      rw [List.find?_cons_of_neg (by simp; omega)]
      exact ih a2 e

/-! ### the net -/
section
variable {P : Program} {w : World} {K : PySem.W.Frag} {mg : Str → Option Value} {base : Heap}
def nf (d : Addr) (n : Int) : List (Str × V) := [("_letters", .ref d), ("_last", .int n)]
def NetO (T : Txt K mg) (a dx d : Addr) (kvs : List (Key × V)) (n : Int) : Own := [(a, .ins T.C_Net dx (nf d n)), (dx, .own a), (d, .dK kvs)]
theorem netO_a {T : Txt K mg} {F H : Hp} {R : Own} {a dx d : Addr} {kvs : List (Key × V)} {n : Int} (h : Has F (NetO T a dx d kvs n ++ R) H) : H a = some (.ins T.C_Net dx (nf d n)) := h.get (List.Mem.head _)
theorem netO_d {T : Txt K mg} {F H : Hp} {R : Own} {a dx d : Addr} {kvs : List (Key × V)} {n : Int} (h : Has F (NetO T a dx d kvs n ++ R) H) : H d = some (.dK kvs) := h.get (List.Mem.tail _ (List.Mem.tail _ (List.Mem.head _)))
def sp_Net___init__ (T : Txt K mg) : Sp := fun vs H Q _ => ∃ (a dx : Addr) (F : Hp), vs = [.ref a] ∧ Has F [(a, .ins T.C_Net dx []), (dx, .own a)] H ∧
  ∀ d H', H d = none → ButA [(a, .ins T.C_Net dx []), (dx, .own a)] H H' → Has F (NetO T a dx d [] 0) H' → Q .non H'
theorem sp_Net___init___len {T : Txt K mg} {vs H Q E} (h : sp_Net___init__ T vs H Q E) : vs.length = 1 := by
  obtain ⟨_, _, _, rfl, _⟩ := h
  rfl
theorem ok_Net___init__ (T : Txt K mg) : FnOk P w K mg base CX0 1 T.f_Net___init__ T.fd_Net___init__ ["self"] (sp_Net___init__ T) := by
  refine T.F_Net___init__.ok sc_Net___init__ (fun vs H Q E h => sp_Net___init___len h) (fun cdv A outer s H vs Q E hr h => ?_)
  refine ⟨_, (pss_cons (k_sfld K (ps_fld (pv 0) pe_dnewK rfl))
      (pss_one (k_sfld K (ps_fld (pv 0) pe_int rfl)))), ?_⟩
  obtain ⟨a, dx, F, rfl, hH, q⟩ := h
  refine g_start (σ' := [some (.ref a)]) rfl ?_
  walk_at "gg"
  have hr := hH.re
  refine g_dnewK hr (fun d H1 n1 h1 => ?_)
  walk_at "gg"
  refine g_ksfld (fs' := [("_letters", .ref d)]) h1 (by walk_at "c") rfl T.cl_Net T.nA_Net__letters (by decide) (fun H2 h2 => ?_)
  walk_at "gg"
  refine g_ksfld (fs' := nf d 0) h2 (by walk_at "c") rfl T.cl_Net T.nA_Net__last (by show 1 < 1000; decide) (fun H3 h3 => ?_)
  have h3' : Has (rmO [(a, .ins T.C_Net dx []), (dx, .own a)] H) (NetO T a dx d [] 0) H3 := h3.perm (List.perm_append_comm (l₁ := [(a, HO.ins T.C_Net dx (nf d 0)), (dx, HO.own a)]) (l₂ := [(d, HO.dK [])]))
  refine q d H3 n1 (mix_but hH (Same.refl _) h3') ?_
  have := mix_has hH (Same.refl _) h3' (fun q hq => by
    simp only [NetO, List.mem_cons, List.not_mem_nil, or_false] at hq
    rcases hq with rfl | rfl | rfl
    · exact .inl (by simp)
    · exact .inl (by simp)
    · exact .inr n1)
  exact this.mono (fun b u e => by
    rw [mix_old (by rw [hH.same _ _ e]; exact fun z => by cases z)]
    exact e)
def sp_Net_send (T : Txt K mg) : Sp := fun vs H Q _ => ∃ (a dx d l : Addr) (F : Hp) (kvs : List (Key × V)) (rows : List Row) (n : Int) (s r : Str) (ss : List Str), vs = [.ref a, .str s, .str r, .ref l] ∧ Has F (NetO T a dx d kvs n) H ∧ NetOk F kvs rows n ∧ H l = some (.lst (ss.map V.str)) ∧ okR (n + 1, s, r, ss) ∧ rows.length < 40 ∧
  ∀ H' F' kvs', ButA (NetO T a dx d kvs n) H H' → Grow F H F' → Has F' (NetO T a dx d kvs' (n + 1)) H' → NetOk F' kvs' (rows ++ [(n + 1, s, r, ss)]) (n + 1) → Q (.int (n + 1)) H'
theorem sp_Net_send_len {T : Txt K mg} {vs H Q E} (h : sp_Net_send T vs H Q E) : vs.length = 4 := by
  obtain ⟨_, _, _, _, _, _, _, _, _, _, _, rfl, _⟩ := h
  rfl
theorem netO_addr {T : Txt K mg} {H : Hp} {a dx d : Addr} {kvs kvs' : List (Key × V)} {n n' : Int} : ∀ q ∈ NetO T a dx d kvs' n', q.1 ∈ (NetO T a dx d kvs n).map (·.1) ∨ H q.1 = none := fun q hq => by
  simp only [NetO, List.mem_cons, List.not_mem_nil, or_false] at hq
  rcases hq with rfl | rfl | rfl <;> exact .inl (by simp [NetO])
theorem ok_Net_send (T : Txt K mg) : FnOk P w K mg base CX0 1 T.f_Net_send T.fd_Net_send ["self", "sender", "receiver", "strings"] (sp_Net_send T) := by
  refine T.F_Net_send.ok sc_Net_send (fun vs H Q E h => sp_Net_send_len h) (fun cdv A outer s H vs Q E hr h => ?_)
  refine ⟨_, (pss_cons (ps_set (i := 4) sc_Net_send.nd rfl (.inl rfl) (pe_op (op_addK K) (k_fld K (pe_fld (pv 0) rfl)) pe_int))
      (pss_cons (ps_asg (pe_tup (pa_cons (pv 1) (pa_cons (pv 2) (pa_cons (pe_callTy (cr_tupleK K) (by rfl) T.m_tuple (by decide +kernel) (pa_cons (pv 3) pa_nil)) pa_nil)))) (pg_sub (k_fld K (pe_fld (pv 0) rfl)) (pv 4) (set_any (hu_of hr))))
      (pss_cons (k_sfld K (ps_fld (pv 0) (pv 4) rfl))
      (pss_one (ps_ret (pv 4)))))), ?_⟩
  obtain ⟨a, dx, d, l, F, kvs, rows, n, s, r, ss, rfl, hH, ok, hl, okr, few, q⟩ := h
  refine g_start (σ' := [some (.ref a), some (.str s), some (.str r), some (.ref l), none]) rfl ?_
  have hkl : kvs.length = rows.length := by
    have := congrArg List.length ok.keys
    rw [List.length_map, List.length_map] at this
    exact this
  have hlN : ∀ p ∈ NetO T a dx d kvs n, p.2 ≠ .lst (ss.map V.str) := fun p hp => by
    simp only [NetO, List.mem_cons, List.not_mem_nil, or_false] at hp
    rcases hp with rfl | rfl | rfl <;> exact fun z => by cases z
  have hr := hH.re
  have fl := hH.re_of hl hlN
  have s0 : Same F (rmO (NetO T a dx d kvs n) H) := hH.reF
  walk_at "gg"
  refine g_kfld (hr.get (List.Mem.head _)) T.cl_Net T.nA_Net__last rfl ?_
  walk_at "gg"
  refine g_tupleL (by walk_at "h") hr (fun t1 H1 F1 n1 s1 f1 h1 => ?_)
  walk_at "gg"
  refine g_ktupF (by walk_at "sz") h1 (fun t2 H2 F2 n2 s2 f2 h2 => ?_)
  walk_at "gg"
  refine g_kfld (h2.get (List.Mem.head _)) T.cl_Net T.nA_Net__letters rfl ?_
  walk_at "gg"
  refine g_stD (k := .inl (n + 1)) rfl h2 (.tl (.tl .hd)) (szl (by omega)) (fun H3 h3 => ?_)
  walk_at "gg"
  refine g_ksfld (fs' := nf d (n + 1)) h3 .hd rfl T.cl_Net T.nA_Net__last (by show 2 < 1000; decide) (fun H4 h4 => ?_)
  walk_at "gg"
  have n2' : H t2 = none := by
    have := h1.same.free n2
    have := s1.free this
    unfold rmO at this
    split at this
    · rename_i m
      obtain ⟨p, hp, e⟩ := List.mem_map.mp m
      have := h1.get (a := p.1) (o := p.2) hp
      rw [e, n2] at this
      cases this
    · exact this
  have n1' : H t1 = none := n1
  have h4' : Has F2 (NetO T a dx d (putK kvs (.inl (n + 1)) (.ref t2)) (n + 1)) H4 := h4
  refine q H4 (mixF F H F2) _ (mix_but hH (s1.trans s2) h4') (mix_grow hH (s1.trans s2)) (mix_has hH (s1.trans s2) h4' netO_addr) ?_
  have ok' := ok.mono (mix_grow hH (s1.trans s2)).1
  refine ok'.snoc (.tup (by rw [mix_at n2']; exact f2) (.cons (.str _) (.cons (.str _) (.cons (dq_tS (by rw [mix_at n1']; exact s2 _ _ f1)) .nil)))) okr few
end

end K86

namespace K86
open PySem PySem.Spec PyProof.Rows L2 Qk
local macro_rules | `(tactic| walk_at "m") => `(tactic| ((repeat (first | exact List.Mem.head _ | apply List.Mem.tail)); done))
local macro_rules | `(tactic| walk_at "h") => `(tactic| first | assumption | exact Has.gF (by assumption) (by assumption) | exact Has.get (by assumption) (by walk_at "m"))
local macro_rules | `(tactic| walk_at "c") => `(tactic| ((repeat (first | exact Chg.hd | apply Chg.tl)); done))
local macro_rules | `(tactic| walk_at "is") => `(tactic| first
  | ((with_reducible refine' is2_non ?gh ?_); (case gh => walk_at "h"))
  | (with_reducible refine is_int_list ?_)
  | (with_reducible refine is_int_tuple ?_)
  | (with_reducible refine is_int_dict ?_)
  | (with_reducible refine is_int_int ?_)
  | (with_reducible refine is_int_bool ?_)
  | (with_reducible refine is_int_str ?_)
  | ((with_reducible refine' is2_int ?gh ?_); (case gh => walk_at "h"))
  | (with_reducible refine is_str_list ?_)
  | (with_reducible refine is_str_tuple ?_)
  | (with_reducible refine is_str_dict ?_)
  | (with_reducible refine is_str_int ?_)
  | (with_reducible refine is_str_bool ?_)
  | (with_reducible refine is_str_str ?_)
  | ((with_reducible refine' is2_str ?gh ?_); (case gh => walk_at "h"))
  | (with_reducible refine is_bool_list ?_)
  | (with_reducible refine is_bool_tuple ?_)
  | (with_reducible refine is_bool_dict ?_)
  | (with_reducible refine is_bool_int ?_)
  | (with_reducible refine is_bool_bool ?_)
  | (with_reducible refine is_bool_str ?_)
  | ((with_reducible refine' is2_bool ?gh ?_); (case gh => walk_at "h"))
  | ((with_reducible refine' is_list_list ?gh ?_); (case gh => walk_at "h"))
  | ((with_reducible refine' is_list_tuple ?gh ?_); (case gh => walk_at "h"))
  | ((with_reducible refine' is_list_dict ?gh ?_); (case gh => walk_at "h"))
  | ((with_reducible refine' is_list_int ?gh ?_); (case gh => walk_at "h"))
  | ((with_reducible refine' is_list_bool ?gh ?_); (case gh => walk_at "h"))
  | ((with_reducible refine' is_list_str ?gh ?_); (case gh => walk_at "h"))
  | ((with_reducible refine' is2_list ?ga ?gb ?_); (case ga => walk_at "h"); (case gb => walk_at "h"))
  | ((with_reducible refine' is_tuple_list ?gh ?_); (case gh => walk_at "h"))
  | ((with_reducible refine' is_tuple_tuple ?gh ?_); (case gh => walk_at "h"))
  | ((with_reducible refine' is_tuple_dict ?gh ?_); (case gh => walk_at "h"))
  | ((with_reducible refine' is_tuple_int ?gh ?_); (case gh => walk_at "h"))
  | ((with_reducible refine' is_tuple_bool ?gh ?_); (case gh => walk_at "h"))
  | ((with_reducible refine' is_tuple_str ?gh ?_); (case gh => walk_at "h"))
  | ((with_reducible refine' is2_tuple ?ga ?gb ?_); (case ga => walk_at "h"); (case gb => walk_at "h"))
  | ((with_reducible refine' is_dict_list ?gh ?_); (case gh => walk_at "h"))
  | ((with_reducible refine' is_dict_tuple ?gh ?_); (case gh => walk_at "h"))
  | ((with_reducible refine' is_dict_dict ?gh ?_); (case gh => walk_at "h"))
  | ((with_reducible refine' is_dict_int ?gh ?_); (case gh => walk_at "h"))
  | ((with_reducible refine' is_dict_bool ?gh ?_); (case gh => walk_at "h"))
  | ((with_reducible refine' is_dict_str ?gh ?_); (case gh => walk_at "h"))
  | ((with_reducible refine' is2_dict ?ga ?gb ?_); (case ga => walk_at "h"); (case gb => walk_at "h")))
local macro_rules | `(tactic| walk_at "g") => `(tactic| first
  | (with_reducible refine g_seq ?_)
  | (with_reducible refine g_asg ?_)
  | ((with_reducible refine g_name ?_); dsimp only [List.set, wipe, List.map])
  | ((with_reducible refine' g_var ?gv ?_); (case gv => exact rfl))
  | (with_reducible refine g_c ?_)
  | (with_reducible refine g_op ?_)
  | (with_reducible refine g_cons ?_)
  | (with_reducible refine g_nil ?_)
  | (with_reducible refine g_cb ?_)
  | (with_reducible refine g_call ?_)
  | (with_reducible refine g_tup ?_)
  | (with_reducible refine g_lst ?_)
  | (with_reducible refine g_bm ?_)
  | (with_reducible refine g_bm0 ?_)
  | ((with_reducible refine' g_kbm ?gh ?_); (case gh => walk_at "h"))
  | (with_reducible refine g_drop ?_)
  | (with_reducible refine g_ret ?_)
  | (with_reducible refine g_retN ?_)
  | (with_reducible refine g_next ?_)
  | (with_reducible refine g_brk ?_)
  | (with_reducible refine g_cont ?_)
  | (with_reducible refine g_if ?_)
  | ((with_reducible refine' g_aug ?gv ?_); (case gv => exact rfl))
  | (with_reducible refine g_ipI ?_)
  | (with_reducible refine g_test ?_)
  | (with_reducible refine g_tB ?_)
  | (with_reducible refine g_kB ?_)
  | (with_reducible refine g_not ?_)
  | (with_reducible refine g_and ?_)
  | (with_reducible refine g_or ?_)
  | (with_reducible refine g_andV ?_)
  | (with_reducible refine g_orV ?_)
  | (with_reducible refine g_notV ?_)
  | (with_reducible refine g_ifE ?_)
  | (with_reducible refine g_addI ?_)
  | (with_reducible refine g_rI0 ?_)
  | (with_reducible refine g_eqI ?_)
  | (with_reducible refine g_eqS ?_)
  | (with_reducible refine g_neI ?_)
  | (with_reducible refine g_neS ?_)
  | (with_reducible refine g_isN ?_)
  | (with_reducible refine g_notN ?_)
  | (with_reducible refine g_int ?_)
  | (with_reducible refine g_max2 ?_)
  | ((with_reducible refine' g_lenL ?gh ?_); (case gh => walk_at "h"))
  | (with_reducible refine g_sub ?_)
  | (with_reducible refine g_gcons ?_)
  | (with_reducible refine g_gnil ?_)
  | (with_reducible refine g_un ?_)
  | (with_reducible refine g_rU ?_)
  | (with_reducible refine g_forL ?_)
  | (with_reducible refine g_forR1 ?_)
  | (with_reducible refine g_forR2 ?_)
  | (with_reducible refine g_forR3 ?_)
  | (with_reducible refine g_lcL ?_)
  | (with_reducible refine g_lcR1 ?_)
  | (with_reducible refine g_lcR2 ?_)
  | (with_reducible refine g_slice ?_)
  | (with_reducible refine g_part ?_)
  | (with_reducible refine g_kOI ?_)
  | (with_reducible refine g_nopart ?_)
  | (with_reducible refine g_yes ?_)
  | ((with_reducible refine' g_wipe ?gv ?_); (case gv => exact rfl))
  | (with_reducible refine iteT ?_)
  | (with_reducible refine iteF ?_)
  | (with_reducible refine i_nf ?_)
  | (with_reducible refine i_nt ?_)
  | ((with_reducible refine' g_gtup ?gh ?gl ?_); (case gh => walk_at "h"); (case gl => exact rfl))
  | ((with_reducible refine' g_notinI ?gh ?_); (case gh => walk_at "h"))
  | ((with_reducible refine' g_inI ?gh ?_); (case gh => walk_at "h"))
  | ((with_reducible refine' g_kget2 ?gh ?_); (case gh => walk_at "h"))
  | ((with_reducible refine' g_kgotI ?gh ?_); (case gh => walk_at "h"))
  | (with_reducible refine g_tRev ?_)
  | (with_reducible refine g_neB ?_)
  | (with_reducible refine g_eqB ?_)
  | ((with_reducible refine' g_lenT ?gh ?_); (case gh => walk_at "h"))
  | (with_reducible refine g_star ?_)
  | ((with_reducible refine' g_kstarL ?gh ?_); (case gh => walk_at "h"))
  | ((with_reducible refine' g_kstarT ?gh ?_); (case gh => walk_at "h"))
  | (with_reducible refine g_tru ?_)
  | ((with_reducible refine' g_truL ?gh ?_); (case gh => walk_at "h"))
  | (with_reducible refine g_get2 ?_)
  | (with_reducible refine g_try ?_)
  | (with_reducible refine g_fld ?_)
  | (with_reducible refine g_sfld ?_)
  | (with_reducible refine g_meth ?_)
  | (with_reducible refine g_make ?_)
  | (with_reducible refine g_del ?_)
  | (with_reducible refine g_callS ?_)
  | (with_reducible refine g_raise ?_)
  | (with_reducible refine g_xf ?_)
  | walk_at "is")
local macro_rules | `(tactic| walk_at "gg") => `(tactic| repeat walk_at "g")
local macro_rules | `(tactic| walk_at "sz") => `(tactic| (refine sz ?_; simp only [List.length_cons, List.length_nil, List.length_map, List.length_append, List.length_replicate]; omega))
local macro_rules | `(tactic| walk_at "sub") => `(tactic| ((repeat (first | exact List.Sublist.slnil | with_reducible apply List.Sublist.cons_cons | with_reducible apply List.Sublist.cons)); done))

/-! ### waiting, look, deliver, double, lose -/
section
variable {P : Program} {w : World} {K : PySem.W.Frag} {mg : Str → Option Value} {base : Heap}
def NetAt (T : Txt K mg) (H : Hp) (a dx d : Addr) (kvs : List (Key × V)) (n : Int) : Prop := H a = some (.ins T.C_Net dx (nf d n)) ∧ H d = some (.dK kvs)
theorem netAt {T : Txt K mg} {F H : Hp} {R : Own} {a dx d : Addr} {kvs : List (Key × V)} {n : Int} (h : Has F (NetO T a dx d kvs n ++ R) H) : NetAt T H a dx d kvs n := ⟨netO_a h, netO_d h⟩
theorem netAt0 {T : Txt K mg} {F H : Hp} {a dx d : Addr} {kvs : List (Key × V)} {n : Int} (h : Has F (NetO T a dx d kvs n) H) : NetAt T H a dx d kvs n := ⟨h.get (List.Mem.head _), h.get (List.Mem.tail _ (List.Mem.tail _ (List.Mem.head _)))⟩
def fnd (rows : List Row) (k : Int) : Option Row := rows.find? fun r => decide (r.1 = k)
def sp_Net_waiting (T : Txt K mg) : Sp := fun vs H Q _ => ∃ (a dx d : Addr) (kvs : List (Key × V)) (rows : List Row) (n : Int), vs = [.ref a] ∧ NetAt T H a dx d kvs n ∧ NetOk H kvs rows n ∧
  ∀ p H' us, Same H H' → H p = none → H' p = some (.lst us) → DqAll H' us (rows.map waD) → Q (.ref p) H'
theorem sp_Net_waiting_len {T : Txt K mg} {vs H Q E} (h : sp_Net_waiting T vs H Q E) : vs.length = 1 := by
  obtain ⟨_, _, _, _, _, _, rfl, _⟩ := h
  rfl
theorem map_take1 {α β : Type} (f : α → β) {l : List α} {i : Nat} {x : α} (h : l[i]? = some x) : (l.take (i + 1)).map f = (l.take i).map f ++ [f x] := by
  rw [List.take_add_one, h, List.map_append]
  rfl
theorem ok_Net_waiting (T : Txt K mg) : FnOk P w K mg base CX0 1 T.f_Net_waiting T.fd_Net_waiting ["self"] (sp_Net_waiting T) := by
  refine T.F_Net_waiting.ok sc_Net_waiting (fun vs H Q E h => sp_Net_waiting_len h) (fun cdv A outer s H vs Q E hr h => ?_)
  refine ⟨_, (pss_cons (ps_set (i := 1) sc_Net_waiting.nd rfl (.inl rfl) (pe_lst pa_nil))
      (pss_cons (ps_for PassesOwn.never rfl (k_il K (pi_list (pe_callB (cr_sortA K rfl) (by rfl) T.m_sorted (by decide +kernel) (pa_cons (k_fld K (pe_fld (pv 0) rfl)) pa_nil)))) (pg_name (i := 2) sc_Net_waiting.nd rfl (.inl rfl)) (pss_cons (ps_asg (pe_ix (ix_K K (hu_of hr)) (k_fld K (pe_fld (pv 0) rfl)) (pv 2) (fun _ _ => rfl)) (k_gt K (pg_tup (by rfl) (pgs_cons (pg_name (i := 3) sc_Net_waiting.nd rfl (.inl rfl)) (pgs_cons (pg_name (i := 4) sc_Net_waiting.nd rfl (.inl rfl)) (pgs_cons (pg_name (i := 5) sc_Net_waiting.nd rfl (.inl rfl)) pgs_nil))))))
      (pss_one (ps_expr (k_bm K (pe_bm PySem.F.plainAttrs_list PySem.F.slot_list_append PySem.F.type_list_append mt_append (pv 1) (pa_cons (pe_tup (pa_cons (pv 2) (pa_cons (pv 3) (pa_cons (pv 4) pa_nil)))) pa_nil)))))))
      (pss_one (ps_ret (pv 1))))), ?_⟩
  obtain ⟨a, dx, d, kvs, rows, n, rfl, ⟨ha, hd⟩, ok, q⟩ := h
  have hH := Has.start H
  refine g_start (σ' := [some (.ref a), none, none, none, none, none]) rfl ?_
  walk_at "gg"
  refine g_klst (by walk_at "sz") hH (fun p H1 n1 h1 => ?_)
  walk_at "gg"
  refine g_kfld (by walk_at "h") T.cl_Net T.nA_Net__letters rfl ?_
  walk_at "gg"
  refine g_sortDI (ks := rows.map (·.1)) (by walk_at "h") (by rw [ok.keys, List.map_map]; rfl) (by rw [List.length_map]; have := ok.few; omega) h1 (fun ys sl H2 hp hs n2 h2 => ?_)
  have ey := ok.sorted hp hs
  subst ey
  refine k_forL (by walk_at "h") (fun i σ H' => ∃ (F : Hp) (acc : List V) (y2 y3 y4 y5 : Option V), σ = [some (.ref a), some (.ref p), y2, y3, y4, y5] ∧ Same H F ∧ Has F [(sl, .lst ((rows.map (·.1)).map V.int)), (p, .lst acc)] H' ∧ DqAll F acc ((rows.take i).map waD)) ⟨H, [], _, _, _, _, rfl, Same.refl _, h2, .nil⟩ ?_ ?_ ?_
  · rintro i σ H3 _ ⟨F, acc, _, _, _, _, _, _, h3, _⟩
    exact h3.get (List.Mem.head _)
  · rintro i x σ H3 hx ⟨F, acc, y2, y3, y4, y5, rfl, sF, h3, dq⟩
    rw [List.map_map, List.getElem?_map] at hx
    obtain ⟨r, hr, rfl⟩ := Option.map_eq_some_iff.mp hx
    obtain ⟨v, hv, dv⟩ := ok.found (find_self ok.up hr)
    obtain ⟨t, tr, rfl, ht, htr⟩ := letD_at (dv.up sF _ _)
    have hi : i < rows.length := (List.getElem?_eq_some_iff.mp hr).1
    have hal : acc.length ≤ 40 := by
      have := ok.few
      rw [dq.len, List.length_map, List.length_take]
      omega
    walk_at "gg"
    refine g_kfld (h3.same _ _ (sF _ _ ha)) T.cl_Net T.nA_Net__letters rfl ?_
    walk_at "gg"
    refine g_ixDI (h3.same _ _ (sF _ _ hd)) hv ?_
    walk_at "gg"
    refine g_ktupF (by walk_at "sz") h3 (fun tt H4 F4 n4 s4 f4 h4 => ?_)
    walk_at "gg"
    refine g_append h4 (by walk_at "c") (szl (by omega)) (fun H5 h5 => ?_)
    walk_at "gg"
    refine ⟨F4, _, _, _, _, _, rfl, sF.trans s4, h5, ?_⟩
    rw [map_take1 waD hr]
    exact (dq.up s4 _ _).snoc (.tup f4 (.cons (.int _) (.cons (.str _) (.cons (.str _) .nil))))
  · rintro σ H3 ⟨F, acc, y2, y3, y4, y5, rfl, sF, h3, dq⟩
    rw [List.length_map, List.length_map, List.take_length] at dq
    walk_at "gg"
    exact q p H3 acc (sF.trans h3.same) n1 (h3.get (by walk_at "m")) (dq.up h3.same _ _)
def lost_at (C : Addr) (H : Hp) (E : XK) (k : Int) : Prop := ∀ e H', Same H H' → H e = none → H' e = some (.xd [("serial", .int k)]) → E (.ref C) (some e) H'
def sp_Net_look (T : Txt K mg) : Sp := fun vs H Q E => ∃ (a dx d : Addr) (kvs : List (Key × V)) (rows : List Row) (n k : Int), vs = [.ref a, .int k] ∧ NetAt T H a dx d kvs n ∧ NetOk H kvs rows n ∧
  (∀ r, fnd rows k = some r → ∀ p l H', Same H H' → H p = none → H l = none → p ≠ l → H' p = some (.tup [.str r.2.1, .str r.2.2.1, .ref l]) → H' l = some (.lst (r.2.2.2.map V.str)) → Q (.ref p) H') ∧
  (fnd rows k = none → lost_at T.C_NoLetter H E k)
theorem sp_Net_look_len {T : Txt K mg} {vs H Q E} (h : sp_Net_look T vs H Q E) : vs.length = 2 := by
  obtain ⟨_, _, _, _, _, _, _, rfl, _⟩ := h
  rfl
theorem ok_Net_look (T : Txt K mg) : FnOk P w K mg base (L2N.CX P w) 3 T.f_Net_look T.fd_Net_look ["self", "serial"] (sp_Net_look T) := by
  refine Fun.okN T.F_Net_look sc_Net_look (fun vs H Q E h => sp_Net_look_len h) (fun cdv A outer s H vs Q E hr h => ?_)
  refine ⟨_, (pss_cons (ps_if (pt_cmpR (op_notinK K hr.units (u65 hr)) (pv 1) (k_fld K (pe_fld (pv 0) rfl)) (by rfl)) (pss_one (k_raise rfl (L2N.takes_of rfl rfl rfl rfl) (pmk_oexN T.O_NoLetter T.iC_NoLetter T.tI_NoLetter (ok_init_NoLetter T) (hr.mono (by decide)) T.bi_NoLetter pass0 (by rfl) T.g_NoLetter (pa_cons (pv 1) pa_nil)))) pss_nil)
      (pss_cons (ps_asg (pe_ix (ix_K K (hu_of hr)) (k_fld K (pe_fld (pv 0) rfl)) (pv 1) (fun _ _ => rfl)) (k_gt K (pg_tup (by rfl) (pgs_cons (pg_name (i := 2) sc_Net_look.nd rfl (.inl rfl)) (pgs_cons (pg_name (i := 3) sc_Net_look.nd rfl (.inl rfl)) (pgs_cons (pg_name (i := 4) sc_Net_look.nd rfl (.inl rfl)) pgs_nil))))))
      (pss_one (ps_ret (pe_tup (pa_cons (pv 2) (pa_cons (pv 3) (pa_cons (pe_callTy (cr_listK K) (by rfl) T.m_list (by decide +kernel) (pa_cons (pv 4) pa_nil)) pa_nil)))))))), ?_⟩
  obtain ⟨a, dx, d, kvs, rows, n, k, rfl, ⟨ha, hd⟩, ok, q, qe⟩ := h
  have hH := Has.start H
  refine g_start (σ' := [some (.ref a), some (.int k), none, none, none]) rfl ?_
  walk_at "gg"
  refine g_kfld (by walk_at "h") T.cl_Net T.nA_Net__letters rfl ?_
  walk_at "gg"
  cases hf : fnd rows k with
  | none =>
    rw [ok.gone hf]
    refine i_nf ?_
    refine g_raise ?_
    walk_at "gg"
    exact g_mk rfl (by decide) hH (fun e H' n' h' => qe hf e H' h'.same n' (h'.get (List.Mem.head _)))
  | some r =>
    obtain ⟨v, hv, dv⟩ := ok.found hf
    obtain ⟨t, tr, rfl, ht, htr⟩ := letD_at dv
    rw [hv]
    refine i_nt ?_
    walk_at "gg"
    refine g_kfld (by walk_at "h") T.cl_Net T.nA_Net__letters rfl ?_
    walk_at "gg"
    refine g_ixDI hd hv ?_
    walk_at "gg"
    refine g_listT htr hH (fun l H1 n1 h1 => ?_)
    walk_at "gg"
    refine g_ktup (by walk_at "sz") h1 (fun p H2 n2 h2 => ?_)
    exact q r hf p l H2 h2.same (h1.same.free n2) n1 (ne_of_none (h1.get (List.Mem.head _)) n2).symm (h2.get (List.Mem.head _)) (h2.get (by walk_at "m"))
def sp_Net_deliver (T : Txt K mg) : Sp := fun vs H Q E => ∃ (a dx d : Addr) (F : Hp) (kvs : List (Key × V)) (rows : List Row) (n k : Int), vs = [.ref a, .int k] ∧ Has F (NetO T a dx d kvs n) H ∧ NetOk F kvs rows n ∧
  (∀ r, fnd rows k = some r → ∀ p l H' kvs', H p = none → H l = none → ButA (NetO T a dx d kvs n) H H' → Has F ((p, .tup [.str r.2.1, .str r.2.2.1, .ref l]) :: (l, .lst (r.2.2.2.map V.str)) :: NetO T a dx d kvs' n) H' →
    NetOk F kvs' (rows.filter fun r => decide (r.1 ≠ k)) n → Q (.ref p) H') ∧
  (fnd rows k = none → lost_at T.C_NoLetter H E k)
theorem sp_Net_deliver_len {T : Txt K mg} {vs H Q E} (h : sp_Net_deliver T vs H Q E) : vs.length = 2 := by
  obtain ⟨_, _, _, _, _, _, _, _, rfl, _⟩ := h
  rfl
theorem ok_Net_deliver (T : Txt K mg) : FnOk P w K mg base (L2N.CX P w) 4 T.f_Net_deliver T.fd_Net_deliver ["self", "serial"] (sp_Net_deliver T) := by
  refine Fun.okN T.F_Net_deliver sc_Net_deliver (fun vs H Q E h => sp_Net_deliver_len h) (fun cdv A outer s H vs Q E hr h => ?_)
  refine ⟨_, (pss_cons (ps_set (i := 2) sc_Net_deliver.nd rfl (.inl rfl) (pe_methW (pv 0) T.cl_Net T.M_Net_look (ok_Net_look T) (hr.mono (by decide)) T.b_Net_look (fun σ => L2N.passAt (L2N.takes_of rfl rfl rfl rfl) σ) (pa_cons (pv 1) pa_nil)))
      (pss_cons (ps_ddel (k_fld K (pe_fld (pv 0) rfl)) (pv 1))
      (pss_one (ps_ret (pv 2))))), ?_⟩
  obtain ⟨a, dx, d, F, kvs, rows, n, k, rfl, hH, ok, q, qe⟩ := h
  refine g_start (σ' := [some (.ref a), some (.int k), none]) rfl ?_
  have hr := hH.re
  walk_at "gg"
  refine g_kmeth (netAt0 hH).1 rfl ?_
  walk_at "gg"
  refine ⟨a, dx, d, kvs, rows, n, k, rfl, netAt0 hH, ok.mono hH.same, fun r hf p l H1 s1 np nl ne hp hl => ?_, fun hf => qe hf⟩
  have h1 := hr.made2 np nl s1 hp hl ne
  obtain ⟨v, hv, dv⟩ := ok.found hf
  walk_at "gg"
  refine g_kfld (h1.get (by walk_at "m")) T.cl_Net T.nA_Net__letters rfl ?_
  walk_at "gg"
  refine g_kdel (k := .inl k) rfl h1 (.tl (.tl (.tl (.tl .hd)))) (by rw [hv]; rfl) (fun H2 h2 => ?_)
  walk_at "gg"
  have h2' : Has (rmO (NetO T a dx d kvs n) H) ((p, .tup [.str r.2.1, .str r.2.2.1, .ref l]) :: (l, .lst (r.2.2.2.map V.str)) :: NetO T a dx d (dropK kvs (.inl k)) n) H2 := h2
  exact q r hf p l H2 _ np nl (mix_but hH (Same.refl _) h2') (h2'.mono hH.reF) ok.drop
def sp_Net_lose (T : Txt K mg) : Sp := fun vs H Q E => ∃ (a dx d : Addr) (F : Hp) (kvs : List (Key × V)) (rows : List Row) (n k : Int), vs = [.ref a, .int k] ∧ Has F (NetO T a dx d kvs n) H ∧ NetOk F kvs rows n ∧
  (∀ r, fnd rows k = some r → ∀ H' kvs', ButA (NetO T a dx d kvs n) H H' → Has F (NetO T a dx d kvs' n) H' → NetOk F kvs' (rows.filter fun r => decide (r.1 ≠ k)) n → Q .non H') ∧
  (fnd rows k = none → lost_at T.C_NoLetter H E k)
theorem sp_Net_lose_len {T : Txt K mg} {vs H Q E} (h : sp_Net_lose T vs H Q E) : vs.length = 2 := by
  obtain ⟨_, _, _, _, _, _, _, _, rfl, _⟩ := h
  rfl
theorem ok_Net_lose (T : Txt K mg) : FnOk P w K mg base (L2N.CX P w) 3 T.f_Net_lose T.fd_Net_lose ["self", "serial"] (sp_Net_lose T) := by
  refine Fun.okN T.F_Net_lose sc_Net_lose (fun vs H Q E h => sp_Net_lose_len h) (fun cdv A outer s H vs Q E hr h => ?_)
  refine ⟨_, (pss_cons (ps_if (pt_cmpR (op_notinK K hr.units (u65 hr)) (pv 1) (k_fld K (pe_fld (pv 0) rfl)) (by rfl)) (pss_one (k_raise rfl (L2N.takes_of rfl rfl rfl rfl) (pmk_oexN T.O_NoLetter T.iC_NoLetter T.tI_NoLetter (ok_init_NoLetter T) (hr.mono (by decide)) T.bi_NoLetter pass0 (by rfl) T.g_NoLetter (pa_cons (pv 1) pa_nil)))) pss_nil)
      (pss_one (ps_ddel (k_fld K (pe_fld (pv 0) rfl)) (pv 1)))), ?_⟩
  obtain ⟨a, dx, d, F, kvs, rows, n, k, rfl, hH, ok, q, qe⟩ := h
  refine g_start (σ' := [some (.ref a), some (.int k)]) rfl ?_
  have hr := hH.re
  walk_at "gg"
  refine g_kfld (netAt0 hH).1 T.cl_Net T.nA_Net__letters rfl ?_
  have hd := (netAt0 hH).2
  walk_at "gg"
  cases hf : fnd rows k with
  | none =>
    rw [ok.gone hf]
    refine i_nf ?_
    refine g_raise ?_
    walk_at "gg"
    exact g_mk rfl (by decide) (Has.start H) (fun e H' n' h' => qe hf e H' h'.same n' (h'.get (List.Mem.head _)))
  | some r =>
    obtain ⟨v, hv, dv⟩ := ok.found hf
    rw [hv]
    refine i_nt ?_
    walk_at "gg"
    refine g_kfld (netAt0 hH).1 T.cl_Net T.nA_Net__letters rfl ?_
    walk_at "gg"
    refine g_kdel (k := .inl k) rfl hr (.tl (.tl .hd)) (by rw [hv]; rfl) (fun H2 h2 => ?_)
    walk_at "gg"
    have h2' : Has (rmO (NetO T a dx d kvs n) H) (NetO T a dx d (dropK kvs (.inl k)) n) H2 := h2
    exact q r hf H2 _ (mix_but hH (Same.refl _) h2') (h2'.mono hH.reF) ok.drop
def sp_Net_double (T : Txt K mg) : Sp := fun vs H Q E => ∃ (a dx d : Addr) (F : Hp) (kvs : List (Key × V)) (rows : List Row) (n k : Int), vs = [.ref a, .int k] ∧ Has F (NetO T a dx d kvs n) H ∧ NetOk F kvs rows n ∧ rows.length < 40 ∧
  (∀ r, fnd rows k = some r → ∀ H' F' kvs', ButA (NetO T a dx d kvs n) H H' → Grow F H F' → Has F' (NetO T a dx d kvs' (n + 1)) H' → NetOk F' kvs' (rows ++ [(n + 1, r.2)]) (n + 1) → Q (.int (n + 1)) H') ∧
  (fnd rows k = none → lost_at T.C_NoLetter H E k)
theorem sp_Net_double_len {T : Txt K mg} {vs H Q E} (h : sp_Net_double T vs H Q E) : vs.length = 2 := by
  obtain ⟨_, _, _, _, _, _, _, _, rfl, _⟩ := h
  rfl
theorem fnd_mem {rows : List Row} {k : Int} {r : Row} (h : fnd rows k = some r) : r ∈ rows ∧ r.1 = k := ⟨List.mem_of_find?_eq_some h, by simpa using List.find?_some h⟩
theorem ok_Net_double (T : Txt K mg) : FnOk P w K mg base (L2N.CX P w) 4 T.f_Net_double T.fd_Net_double ["self", "serial"] (sp_Net_double T) := by
  refine Fun.okN T.F_Net_double sc_Net_double (fun vs H Q E h => sp_Net_double_len h) (fun cdv A outer s H vs Q E hr h => ?_)
  refine ⟨_, (pss_cons (ps_asg (pe_methW (pv 0) T.cl_Net T.M_Net_look (ok_Net_look T) (hr.mono (by decide)) T.b_Net_look (fun σ => L2N.passAt (L2N.takes_of rfl rfl rfl rfl) σ) (pa_cons (pv 1) pa_nil)) (k_gt K (pg_tup (by rfl) (pgs_cons (pg_name (i := 2) sc_Net_double.nd rfl (.inl rfl)) (pgs_cons (pg_name (i := 3) sc_Net_double.nd rfl (.inl rfl)) (pgs_cons (pg_name (i := 4) sc_Net_double.nd rfl (.inl rfl)) pgs_nil))))))
      (pss_one (ps_ret (pe_methW (pv 0) T.cl_Net T.M_Net_send (ok_Net_send T) (hr.mono (by decide)) T.b_Net_send (pass0S (E := fun _ => E0)) (pa_cons (pv 2) (pa_cons (pv 3) (pa_cons (pv 4) pa_nil))))))), ?_⟩
  obtain ⟨a, dx, d, F, kvs, rows, n, k, rfl, hH, ok, few, q, qe⟩ := h
  refine g_start (σ' := [some (.ref a), some (.int k), none, none, none]) rfl ?_
  have hr := hH.re
  walk_at "gg"
  refine g_kmeth (netAt0 hH).1 rfl ?_
  walk_at "gg"
  refine ⟨a, dx, d, kvs, rows, n, k, rfl, netAt0 hH, ok.mono hH.same, fun r hf p l H1 s1 np nl ne hp hl => ?_, fun hf => qe hf⟩
  have h1 := hr.made2 np nl s1 hp hl ne
  walk_at "gg"
  refine g_kmeth (h1.get (by walk_at "m")) rfl ?_
  walk_at "gg"
  have h1' : Has F (NetO T a dx d kvs n) H1 := h1.drop.drop.mono hH.reF
  refine ⟨a, dx, d, l, F, kvs, rows, n, r.2.1, r.2.2.1, r.2.2.2, rfl, h1', ok, h1.get (by walk_at "m"), (ok.ok r (fnd_mem hf).1).2, few, fun H' F' kvs' hb g h' ok' => ?_⟩
  refine q r hf H' F' kvs' (fun b u m e => hb b u m (s1 _ _ e)) ⟨g.1, fun b nb => g.2 b (fun z => ?_)⟩ h' ok'
  cases e : H b with
  | none => exact nb e
  | some u => rw [s1 _ _ e] at z; cases z
end

end K86

namespace K86
open PySem PySem.Spec PyProof.Rows L2 Qk
local macro_rules | `(tactic| walk_at "m") => `(tactic| ((repeat (first | exact List.Mem.head _ | apply List.Mem.tail)); done))
local macro_rules | `(tactic| walk_at "h") => `(tactic| first | assumption | exact Has.gF (by assumption) (by assumption) | exact Has.get (by assumption) (by walk_at "m"))
local macro_rules | `(tactic| walk_at "c") => `(tactic| ((repeat (first | exact Chg.hd | apply Chg.tl)); done))
local macro_rules | `(tactic| walk_at "is") => `(tactic| first
  | ((with_reducible refine' is2_non ?gh ?_); (case gh => walk_at "h"))
  | (with_reducible refine is_int_list ?_)
  | (with_reducible refine is_int_tuple ?_)
  | (with_reducible refine is_int_dict ?_)
  | (with_reducible refine is_int_int ?_)
  | (with_reducible refine is_int_bool ?_)
  | (with_reducible refine is_int_str ?_)
  | ((with_reducible refine' is2_int ?gh ?_); (case gh => walk_at "h"))
  | (with_reducible refine is_str_list ?_)
  | (with_reducible refine is_str_tuple ?_)
  | (with_reducible refine is_str_dict ?_)
  | (with_reducible refine is_str_int ?_)
  | (with_reducible refine is_str_bool ?_)
  | (with_reducible refine is_str_str ?_)
  | ((with_reducible refine' is2_str ?gh ?_); (case gh => walk_at "h"))
  | (with_reducible refine is_bool_list ?_)
  | (with_reducible refine is_bool_tuple ?_)
  | (with_reducible refine is_bool_dict ?_)
  | (with_reducible refine is_bool_int ?_)
  | (with_reducible refine is_bool_bool ?_)
  | (with_reducible refine is_bool_str ?_)
  | ((with_reducible refine' is2_bool ?gh ?_); (case gh => walk_at "h"))
  | ((with_reducible refine' is_list_list ?gh ?_); (case gh => walk_at "h"))
  | ((with_reducible refine' is_list_tuple ?gh ?_); (case gh => walk_at "h"))
  | ((with_reducible refine' is_list_dict ?gh ?_); (case gh => walk_at "h"))
  | ((with_reducible refine' is_list_int ?gh ?_); (case gh => walk_at "h"))
  | ((with_reducible refine' is_list_bool ?gh ?_); (case gh => walk_at "h"))
  | ((with_reducible refine' is_list_str ?gh ?_); (case gh => walk_at "h"))
  | ((with_reducible refine' is2_list ?ga ?gb ?_); (case ga => walk_at "h"); (case gb => walk_at "h"))
  | ((with_reducible refine' is_tuple_list ?gh ?_); (case gh => walk_at "h"))
  | ((with_reducible refine' is_tuple_tuple ?gh ?_); (case gh => walk_at "h"))
  | ((with_reducible refine' is_tuple_dict ?gh ?_); (case gh => walk_at "h"))
  | ((with_reducible refine' is_tuple_int ?gh ?_); (case gh => walk_at "h"))
  | ((with_reducible refine' is_tuple_bool ?gh ?_); (case gh => walk_at "h"))
  | ((with_reducible refine' is_tuple_str ?gh ?_); (case gh => walk_at "h"))
  | ((with_reducible refine' is2_tuple ?ga ?gb ?_); (case ga => walk_at "h"); (case gb => walk_at "h"))
  | ((with_reducible refine' is_dict_list ?gh ?_); (case gh => walk_at "h"))
  | ((with_reducible refine' is_dict_tuple ?gh ?_); (case gh => walk_at "h"))
  | ((with_reducible refine' is_dict_dict ?gh ?_); (case gh => walk_at "h"))
  | ((with_reducible refine' is_dict_int ?gh ?_); (case gh => walk_at "h"))
  | ((with_reducible refine' is_dict_bool ?gh ?_); (case gh => walk_at "h"))
  | ((with_reducible refine' is_dict_str ?gh ?_); (case gh => walk_at "h"))
  | ((with_reducible refine' is2_dict ?ga ?gb ?_); (case ga => walk_at "h"); (case gb => walk_at "h")))
local macro_rules | `(tactic| walk_at "g") => `(tactic| first
  | (with_reducible refine g_seq ?_)
  | (with_reducible refine g_asg ?_)
  | ((with_reducible refine g_name ?_); dsimp only [List.set, wipe, List.map])
  | ((with_reducible refine' g_var ?gv ?_); (case gv => exact rfl))
  | (with_reducible refine g_c ?_)
  | (with_reducible refine g_op ?_)
  | (with_reducible refine g_cons ?_)
  | (with_reducible refine g_nil ?_)
  | (with_reducible refine g_cb ?_)
  | (with_reducible refine g_call ?_)
  | (with_reducible refine g_tup ?_)
  | (with_reducible refine g_lst ?_)
  | (with_reducible refine g_bm ?_)
  | (with_reducible refine g_bm0 ?_)
  | ((with_reducible refine' g_kbm ?gh ?_); (case gh => walk_at "h"))
  | (with_reducible refine g_drop ?_)
  | (with_reducible refine g_ret ?_)
  | (with_reducible refine g_retN ?_)
  | (with_reducible refine g_next ?_)
  | (with_reducible refine g_brk ?_)
  | (with_reducible refine g_cont ?_)
  | (with_reducible refine g_if ?_)
  | ((with_reducible refine' g_aug ?gv ?_); (case gv => exact rfl))
  | (with_reducible refine g_ipI ?_)
  | (with_reducible refine g_test ?_)
  | (with_reducible refine g_tB ?_)
  | (with_reducible refine g_kB ?_)
  | (with_reducible refine g_not ?_)
  | (with_reducible refine g_and ?_)
  | (with_reducible refine g_or ?_)
  | (with_reducible refine g_andV ?_)
  | (with_reducible refine g_orV ?_)
  | (with_reducible refine g_notV ?_)
  | (with_reducible refine g_ifE ?_)
  | (with_reducible refine g_addI ?_)
  | (with_reducible refine g_rI0 ?_)
  | (with_reducible refine g_eqI ?_)
  | (with_reducible refine g_eqS ?_)
  | (with_reducible refine g_neI ?_)
  | (with_reducible refine g_neS ?_)
  | (with_reducible refine g_isN ?_)
  | (with_reducible refine g_notN ?_)
  | (with_reducible refine g_int ?_)
  | (with_reducible refine g_max2 ?_)
  | ((with_reducible refine' g_lenL ?gh ?_); (case gh => walk_at "h"))
  | (with_reducible refine g_sub ?_)
  | (with_reducible refine g_gcons ?_)
  | (with_reducible refine g_gnil ?_)
  | (with_reducible refine g_un ?_)
  | (with_reducible refine g_rU ?_)
  | (with_reducible refine g_forL ?_)
  | (with_reducible refine g_forR1 ?_)
  | (with_reducible refine g_forR2 ?_)
  | (with_reducible refine g_forR3 ?_)
  | (with_reducible refine g_lcL ?_)
  | (with_reducible refine g_lcR1 ?_)
  | (with_reducible refine g_lcR2 ?_)
  | (with_reducible refine g_slice ?_)
  | (with_reducible refine g_part ?_)
  | (with_reducible refine g_kOI ?_)
  | (with_reducible refine g_nopart ?_)
  | (with_reducible refine g_yes ?_)
  | ((with_reducible refine' g_wipe ?gv ?_); (case gv => exact rfl))
  | (with_reducible refine iteT ?_)
  | (with_reducible refine iteF ?_)
  | (with_reducible refine i_nf ?_)
  | (with_reducible refine i_nt ?_)
  | ((with_reducible refine' g_gtup ?gh ?gl ?_); (case gh => walk_at "h"); (case gl => exact rfl))
  | ((with_reducible refine' g_notinI ?gh ?_); (case gh => walk_at "h"))
  | ((with_reducible refine' g_inI ?gh ?_); (case gh => walk_at "h"))
  | ((with_reducible refine' g_kget2 ?gh ?_); (case gh => walk_at "h"))
  | ((with_reducible refine' g_kgotI ?gh ?_); (case gh => walk_at "h"))
  | (with_reducible refine g_tRev ?_)
  | (with_reducible refine g_neB ?_)
  | (with_reducible refine g_eqB ?_)
  | ((with_reducible refine' g_lenT ?gh ?_); (case gh => walk_at "h"))
  | (with_reducible refine g_star ?_)
  | ((with_reducible refine' g_kstarL ?gh ?_); (case gh => walk_at "h"))
  | ((with_reducible refine' g_kstarT ?gh ?_); (case gh => walk_at "h"))
  | (with_reducible refine g_tru ?_)
  | ((with_reducible refine' g_truL ?gh ?_); (case gh => walk_at "h"))
  | (with_reducible refine g_get2 ?_)
  | (with_reducible refine g_try ?_)
  | (with_reducible refine g_fld ?_)
  | (with_reducible refine g_sfld ?_)
  | (with_reducible refine g_meth ?_)
  | (with_reducible refine g_make ?_)
  | (with_reducible refine g_del ?_)
  | (with_reducible refine g_callS ?_)
  | (with_reducible refine g_raise ?_)
  | (with_reducible refine g_xf ?_)
  | walk_at "is")
local macro_rules | `(tactic| walk_at "gg") => `(tactic| repeat walk_at "g")
local macro_rules | `(tactic| walk_at "sz") => `(tactic| (refine sz ?_; simp only [List.length_cons, List.length_nil, List.length_map, List.length_append, List.length_replicate]; omega))
local macro_rules | `(tactic| walk_at "sub") => `(tactic| ((repeat (first | exact List.Sublist.slnil | with_reducible apply List.Sublist.cons_cons | with_reducible apply List.Sublist.cons)); done))

/-! ### the draws: a list of ints, the count first -/
section
variable {P : Program} {w : World} {K : PySem.W.Frag} {mg : Str → Option Value} {base : Heap}
def FeedO (c : Addr) (ns : List Int) : Own := [(c, .lst (ns.map V.int))]
def FeedOk (ns : List Int) : Prop := 1 ≤ ns.length ∧ ns.length ≤ 64
def sp_l_cells (T : Txt K mg) : Sp := fun vs H Q _ => ∃ (a : Addr) (ns : List Int), vs = [.ref a] ∧ SqL K H a (ns.map V.int) ∧ ns.length ≤ 63 ∧
  ∀ p H' (ns : List Int), H p = none → Has H (FeedO p ns) H' → FeedOk ns → Q (.ref p) H'
theorem sp_l_cells_len {T : Txt K mg} {vs H Q E} (h : sp_l_cells T vs H Q E) : vs.length = 1 := by
  obtain ⟨_, _, rfl, _⟩ := h
  rfl
theorem ok_l_cells (T : Txt K mg) : FnOk P w K mg base CX0 1 T.f_l_cells T.fd_l_cells ["script"] (sp_l_cells T) := by
  refine T.F_l_cells.ok sc_l_cells (fun vs H Q E h => sp_l_cells_len h) (fun cdv A outer s H vs Q E hr h => ?_)
  refine ⟨_, (pss_one (ps_ret (pe_op (op_addK K) (pe_lst (pa_cons pe_int pa_nil)) (pe_lc (own := [("cell", 1)]) (g := gName 1) (tt := tYes) rfl sc_l_cells.nd (k_il K (pi_list (pe_slice (sl_K K) (pv 0) po_none (po_some pe_int)))) (blkOk_by (N := n_l_cells) (sc := defScope s_l_cells) (by decide +kernel)) (fun _ _ _ _ _ => (pg_name (i := 1) sc_l_cells.nd rfl (.inl rfl))) (fun _ _ _ _ _ => pts_nil) (fun _ _ _ _ _ => (pe_callB cr_abs1 (by rfl) T.m_abs (by decide +kernel) (pa_cons (pe_callTy cr_int1 (by rfl) T.m_int (by decide +kernel) (pa_cons (pv 1) pa_nil)) pa_nil))))))), ?_⟩
  obtain ⟨a, ns, rfl, ha, hn, q⟩ := h
  have hH := Has.start H
  refine g_start (σ' := [some (.ref a), none]) rfl ?_
  walk_at "gg"
  refine g_klst (by walk_at "sz") hH (fun p1 H1 n1 h1 => ?_)
  walk_at "gg"
  refine g_slS (h1.same.seq ha) h1 (fun p2 H2 n2 h2 => ?_)
  obtain ⟨ms, em, lm⟩ := cutV_ints ns none (some 63)
  rw [em] at h2
  refine k_lcL (by walk_at "h") h2 (fun i acc F' O' => ∃ ks : List Int, acc = ks.map V.int ∧ ks.length = i ∧ F' = H ∧ O' = [(p2, .lst (ms.map V.int)), (p1, .lst [.int 0])]) ⟨[], rfl, rfl, rfl, rfl⟩ ?_ ?_ ?_
  · rintro i acc F' O' H3 ⟨ks, rfl, rfl, rfl, rfl⟩ hh
    walk_at "h"
  · rintro i x acc F' O' D H3 hx ⟨ks, rfl, rfl, rfl, rfl⟩ hh
    rw [List.getElem?_map] at hx
    obtain ⟨z, hz, rfl⟩ := Option.map_eq_some_iff.mp hx
    have hl : ks.length < ms.length := (List.getElem?_eq_some_iff.mp hz).1
    walk_at "gg"
    refine g_abs (fun j hj => ?_)
    exact k_turn hh (by rw [List.length_map]; omega) ⟨ks ++ [j], by rw [List.map_append]; rfl, by rw [List.length_append]; rfl, rfl, rfl⟩
  rintro acc F' O' D H3 ⟨ks, rfl, hkl, rfl, rfl⟩ h3
  rw [List.length_map] at hkl
  refine g_addL (h3.get (by walk_at "m")) (h3.get (List.Mem.head _)) (sz (by rw [List.length_map]; show 1 + _ ≤ _; omega)) h3 (fun p H4 n4 h4 => ?_)
  have e : [V.int 0] ++ ks.map V.int = ((0 : Int) :: ks).map V.int := rfl
  rw [e] at h4
  exact q p H4 (0 :: ks) (h3.same.free n4) (h4.sub (by unfold FeedO; walk_at "sub")) ⟨by rw [List.length_cons]; omega, by rw [List.length_cons]; omega⟩
def sp_l_next (T : Txt K mg) : Sp := fun vs H Q _ => ∃ (a : Addr) (ns : List Int) (m : Int), vs = [.ref a, .int m] ∧ H a = some (.lst (ns.map V.int)) ∧ FeedOk ns ∧ 0 < m ∧ m < 10000000000000 ∧
  ∀ H' (ns' : List Int) (r : Int), But a H H' → H' a = some (.lst (ns'.map V.int)) → FeedOk ns' → 0 ≤ r → r < m → Q (.int r) H'
theorem sp_l_next_len {T : Txt K mg} {vs H Q E} (h : sp_l_next T vs H Q E) : vs.length = 2 := by
  obtain ⟨_, _, _, rfl, _⟩ := h
  rfl
theorem cdivw {m : Int} (h0 : 0 < m) (h1 : m < 10000000000000) (i : Int) : CDivW i m := by
  refine ⟨h0, ?_⟩
  have : m.natAbs < 2 ^ 64 := by
    have : m.natAbs < 10000000000000 := by omega
    exact Nat.lt_trans this (by decide)
  exact Nat.lt_trans ((Nat.log2_lt (by omega)).mpr this) (by decide)
theorem ok_l_next (T : Txt K mg) : FnOk P w K mg base CX0 1 T.f_l_next T.fd_l_next ["feed", "many"] (sp_l_next T) := by
  refine T.F_l_next.ok sc_l_next (fun vs H Q E h => sp_l_next_len h) (fun cdv A outer s H vs Q E hr h => ?_)
  refine ⟨_, (pss_cons (ps_while PassesOwn.never (PW.pt (pw_and (pt_cmpR op_gt (pe_callB (cr_lenK K) (by rfl) T.m_len (by decide +kernel) (pa_cons (pv 0) pa_nil)) pe_int (nomark _)) (pw_and1 (PW.pt (pw_or (pt_cmpR (op_eqK K hr.units) (pe_ix (ix_K K (hu_of hr)) (pv 0) pe_int (fun _ _ => rfl)) pe_int (nomark _)) (pw_or1 (pt_cmpR (op_eqK K hr.units) (pe_ix (ix_K K (hu_of hr)) (pv 0) pe_int (fun _ _ => rfl)) pe_int (nomark _)))))))) (pss_cons (ps_expr (k_bm K (pe_bm PySem.F.plainAttrs_list PySem.F.slot_list_pop PySem.F.type_list_pop mt_popAt (pv 0) (pa_cons pe_int pa_nil))))
      (pss_one (ps_asg pe_int (pg_sub (pv 0) pe_int (set_any (hu_of hr)))))))
      (pss_cons (ps_if (pt_cmpR (op_eqK K hr.units) (pe_callB (cr_lenK K) (by rfl) T.m_len (by decide +kernel) (pa_cons (pv 0) pa_nil)) pe_int (nomark _)) (pss_one (ps_ret pe_int)) pss_nil)
      (pss_cons (ps_set (i := 2) sc_l_next.nd rfl (.inl rfl) (pe_callTy cr_int1 (by rfl) T.m_int (by decide +kernel) (pa_cons (pe_ix (ix_K K (hu_of hr)) (pv 0) pe_int (fun _ _ => rfl)) pa_nil)))
      (pss_cons (ps_asg (pe_op (op_addK K) (pe_ix (ix_K K (hu_of hr)) (pv 0) pe_int (fun _ _ => rfl)) pe_int) (pg_sub (pv 0) pe_int (set_any (hu_of hr))))
      (pss_cons (ps_asg (pe_op op_fdivW (pv 2) (pv 1)) (pg_sub (pv 0) pe_int (set_any (hu_of hr))))
      (pss_one (ps_ret (pe_op op_mod (pe_callTy cr_int1 (by rfl) T.m_int (by decide +kernel) (pa_cons (pv 2) pa_nil)) (pv 1))))))))), ?_⟩
  obtain ⟨a, ns, m, rfl, ha, ⟨hn0, hn⟩, hm0, hm, q⟩ := h
  have hH0 := Has.arg ha
  refine g_start (σ' := [some (.ref a), some (.int m), none]) rfl ?_
  walk_at "gg"
  refine g_while (fun k σ H' => ∃ ns' : List Int, σ = [some (.ref a), some (.int m), none] ∧ k = ns'.length ∧ 0 < ns'.length ∧ ns'.length ≤ 64 ∧ Has (rm H a) [(a, .lst (ns'.map V.int))] H') ns.length ⟨ns, rfl, rfl, hn0, hn, hH0⟩ ?_
  rintro k σ H1 ⟨ns', rfl, rfl, h1, h2, hH⟩
  refine g_fact (fun b => b = true → 1 < ns'.length) (fun R r => ?_) (fun b hb => ?_)
  · walk_at "gg"
    rw [List.length_map]
    refine i_d (fun l1 => ?_) (fun l1 => r _ (fun z => by cases z))
    walk_at "gg"
    refine g_ixI (by walk_at "h") (by omega) (by omega) (fun z hz => ?_)
    walk_at "gg"
    refine i_d (fun l2 => r _ (fun z => by omega)) (fun l2 => ?_)
    walk_at "gg"
    refine g_ixI (by walk_at "h") (by omega) (by omega) (fun z hz => ?_)
    walk_at "gg"
    exact r _ (fun z => by omega)
  cases b with
  | true =>
    have l1 := hb rfl
    refine kwh_t ?_
    walk_at "gg"
    refine g_popAtI hH (by walk_at "c") (by omega) (by omega) (by omega) (fun H2 z hH2 => ?_)
    walk_at "gg"
    refine g_stI hH2 (by walk_at "c") (by omega) (by rw [List.length_eraseIdx]; split <;> omega) (fun H3 hH3 => ?_)
    refine ⟨(ns'.eraseIdx (1 : Int).toNat).length, by rw [List.length_eraseIdx]; split <;> omega, _, rfl, by rw [List.length_set], ?_, ?_, hH3⟩
    · rw [List.length_set, List.length_eraseIdx]; split <;> omega
    · rw [List.length_set, List.length_eraseIdx]; split <;> omega
  | false =>
    refine kwh_f ?_
    walk_at "gg"
    rw [List.length_map]
    refine i_d (fun l1 => ?_) (fun l1 => ?_)
    · walk_at "gg"
      exact q H1 ns' 0 (But.of hH.same) (by walk_at "h") ⟨h1, h2⟩ (by omega) (by omega)
    walk_at "gg"
    refine g_ixI (by walk_at "h") (by omega) (by omega) (fun z hz => ?_)
    walk_at "gg"
    refine g_ixI (by walk_at "h") (by omega) (by omega) (fun z0 hz0 => ?_)
    walk_at "gg"
    refine g_stI hH (by walk_at "c") (by omega) (by omega) (fun H2 hH2 => ?_)
    walk_at "gg"
    refine g_rI (cdivw hm0 hm _) ?_
    walk_at "gg"
    refine g_stI hH2 (by walk_at "c") (by omega) (by rw [List.length_set]; omega) (fun H3 hH3 => ?_)
    walk_at "gg"
    refine g_rI hm0 ?_
    exact q H3 _ _ (But.of hH3.same) (by walk_at "h") ⟨by rw [List.length_set, List.length_set]; exact h1, by rw [List.length_set, List.length_set]; exact h2⟩ (Int.emod_nonneg _ (by omega)) (Int.emod_lt_of_pos _ hm0)
/-- a draw in a place where c is owned -/
theorem Has.draw {F H H' : Hp} {O O' : Own} {c : Addr} {ns ns' : List Int} (h : Has F O H) (c1 : Chg O c (.lst (ns.map V.int)) (.lst (ns'.map V.int)) O') (hb : But c H H') (e : H' c = some (.lst (ns'.map V.int))) : Has F O' H' := h.but c1 hb e
end

end K86

namespace K86
open PySem PySem.Spec PyProof.Rows L2 Qk
local macro_rules | `(tactic| walk_at "m") => `(tactic| ((repeat (first | exact List.Mem.head _ | apply List.Mem.tail)); done))
local macro_rules | `(tactic| walk_at "h") => `(tactic| first | assumption | exact Has.gF (by assumption) (by assumption) | exact Has.get (by assumption) (by walk_at "m"))
local macro_rules | `(tactic| walk_at "c") => `(tactic| ((repeat (first | exact Chg.hd | apply Chg.tl)); done))
local macro_rules | `(tactic| walk_at "is") => `(tactic| first
  | ((with_reducible refine' is2_non ?gh ?_); (case gh => walk_at "h"))
  | (with_reducible refine is_int_list ?_)
  | (with_reducible refine is_int_tuple ?_)
  | (with_reducible refine is_int_dict ?_)
  | (with_reducible refine is_int_int ?_)
  | (with_reducible refine is_int_bool ?_)
  | (with_reducible refine is_int_str ?_)
  | ((with_reducible refine' is2_int ?gh ?_); (case gh => walk_at "h"))
  | (with_reducible refine is_str_list ?_)
  | (with_reducible refine is_str_tuple ?_)
  | (with_reducible refine is_str_dict ?_)
  | (with_reducible refine is_str_int ?_)
  | (with_reducible refine is_str_bool ?_)
  | (with_reducible refine is_str_str ?_)
  | ((with_reducible refine' is2_str ?gh ?_); (case gh => walk_at "h"))
  | (with_reducible refine is_bool_list ?_)
  | (with_reducible refine is_bool_tuple ?_)
  | (with_reducible refine is_bool_dict ?_)
  | (with_reducible refine is_bool_int ?_)
  | (with_reducible refine is_bool_bool ?_)
  | (with_reducible refine is_bool_str ?_)
  | ((with_reducible refine' is2_bool ?gh ?_); (case gh => walk_at "h"))
  | ((with_reducible refine' is_list_list ?gh ?_); (case gh => walk_at "h"))
  | ((with_reducible refine' is_list_tuple ?gh ?_); (case gh => walk_at "h"))
  | ((with_reducible refine' is_list_dict ?gh ?_); (case gh => walk_at "h"))
  | ((with_reducible refine' is_list_int ?gh ?_); (case gh => walk_at "h"))
  | ((with_reducible refine' is_list_bool ?gh ?_); (case gh => walk_at "h"))
  | ((with_reducible refine' is_list_str ?gh ?_); (case gh => walk_at "h"))
  | ((with_reducible refine' is2_list ?ga ?gb ?_); (case ga => walk_at "h"); (case gb => walk_at "h"))
  | ((with_reducible refine' is_tuple_list ?gh ?_); (case gh => walk_at "h"))
  | ((with_reducible refine' is_tuple_tuple ?gh ?_); (case gh => walk_at "h"))
  | ((with_reducible refine' is_tuple_dict ?gh ?_); (case gh => walk_at "h"))
  | ((with_reducible refine' is_tuple_int ?gh ?_); (case gh => walk_at "h"))
  | ((with_reducible refine' is_tuple_bool ?gh ?_); (case gh => walk_at "h"))
  | ((with_reducible refine' is_tuple_str ?gh ?_); (case gh => walk_at "h"))
  | ((with_reducible refine' is2_tuple ?ga ?gb ?_); (case ga => walk_at "h"); (case gb => walk_at "h"))
  | ((with_reducible refine' is_dict_list ?gh ?_); (case gh => walk_at "h"))
  | ((with_reducible refine' is_dict_tuple ?gh ?_); (case gh => walk_at "h"))
  | ((with_reducible refine' is_dict_dict ?gh ?_); (case gh => walk_at "h"))
  | ((with_reducible refine' is_dict_int ?gh ?_); (case gh => walk_at "h"))
  | ((with_reducible refine' is_dict_bool ?gh ?_); (case gh => walk_at "h"))
  | ((with_reducible refine' is_dict_str ?gh ?_); (case gh => walk_at "h"))
  | ((with_reducible refine' is2_dict ?ga ?gb ?_); (case ga => walk_at "h"); (case gb => walk_at "h")))
local macro_rules | `(tactic| walk_at "g") => `(tactic| first
  | (with_reducible refine g_seq ?_)
  | (with_reducible refine g_asg ?_)
  | ((with_reducible refine g_name ?_); dsimp only [List.set, wipe, List.map])
  | ((with_reducible refine' g_var ?gv ?_); (case gv => exact rfl))
  | (with_reducible refine g_c ?_)
  | (with_reducible refine g_op ?_)
  | (with_reducible refine g_cons ?_)
  | (with_reducible refine g_nil ?_)
  | (with_reducible refine g_cb ?_)
  | (with_reducible refine g_call ?_)
  | (with_reducible refine g_tup ?_)
  | (with_reducible refine g_lst ?_)
  | (with_reducible refine g_bm ?_)
  | (with_reducible refine g_bm0 ?_)
  | ((with_reducible refine' g_kbm ?gh ?_); (case gh => walk_at "h"))
  | (with_reducible refine g_drop ?_)
  | (with_reducible refine g_ret ?_)
  | (with_reducible refine g_retN ?_)
  | (with_reducible refine g_next ?_)
  | (with_reducible refine g_brk ?_)
  | (with_reducible refine g_cont ?_)
  | (with_reducible refine g_if ?_)
  | ((with_reducible refine' g_aug ?gv ?_); (case gv => exact rfl))
  | (with_reducible refine g_ipI ?_)
  | (with_reducible refine g_test ?_)
  | (with_reducible refine g_tB ?_)
  | (with_reducible refine g_kB ?_)
  | (with_reducible refine g_not ?_)
  | (with_reducible refine g_and ?_)
  | (with_reducible refine g_or ?_)
  | (with_reducible refine g_andV ?_)
  | (with_reducible refine g_orV ?_)
  | (with_reducible refine g_notV ?_)
  | (with_reducible refine g_ifE ?_)
  | (with_reducible refine g_addI ?_)
  | (with_reducible refine g_rI0 ?_)
  | (with_reducible refine g_eqI ?_)
  | (with_reducible refine g_eqS ?_)
  | (with_reducible refine g_neI ?_)
  | (with_reducible refine g_neS ?_)
  | (with_reducible refine g_isN ?_)
  | (with_reducible refine g_notN ?_)
  | (with_reducible refine g_int ?_)
  | (with_reducible refine g_max2 ?_)
  | ((with_reducible refine' g_lenL ?gh ?_); (case gh => walk_at "h"))
  | (with_reducible refine g_sub ?_)
  | (with_reducible refine g_gcons ?_)
  | (with_reducible refine g_gnil ?_)
  | (with_reducible refine g_un ?_)
  | (with_reducible refine g_rU ?_)
  | (with_reducible refine g_forL ?_)
  | (with_reducible refine g_forR1 ?_)
  | (with_reducible refine g_forR2 ?_)
  | (with_reducible refine g_forR3 ?_)
  | (with_reducible refine g_lcL ?_)
  | (with_reducible refine g_lcR1 ?_)
  | (with_reducible refine g_lcR2 ?_)
  | (with_reducible refine g_slice ?_)
  | (with_reducible refine g_part ?_)
  | (with_reducible refine g_kOI ?_)
  | (with_reducible refine g_nopart ?_)
  | (with_reducible refine g_yes ?_)
  | ((with_reducible refine' g_wipe ?gv ?_); (case gv => exact rfl))
  | (with_reducible refine iteT ?_)
  | (with_reducible refine iteF ?_)
  | (with_reducible refine i_nf ?_)
  | (with_reducible refine i_nt ?_)
  | ((with_reducible refine' g_gtup ?gh ?gl ?_); (case gh => walk_at "h"); (case gl => exact rfl))
  | ((with_reducible refine' g_notinI ?gh ?_); (case gh => walk_at "h"))
  | ((with_reducible refine' g_inI ?gh ?_); (case gh => walk_at "h"))
  | ((with_reducible refine' g_kget2 ?gh ?_); (case gh => walk_at "h"))
  | ((with_reducible refine' g_kgotI ?gh ?_); (case gh => walk_at "h"))
  | (with_reducible refine g_tRev ?_)
  | (with_reducible refine g_neB ?_)
  | (with_reducible refine g_eqB ?_)
  | ((with_reducible refine' g_lenT ?gh ?_); (case gh => walk_at "h"))
  | (with_reducible refine g_star ?_)
  | ((with_reducible refine' g_kstarL ?gh ?_); (case gh => walk_at "h"))
  | ((with_reducible refine' g_kstarT ?gh ?_); (case gh => walk_at "h"))
  | (with_reducible refine g_tru ?_)
  | ((with_reducible refine' g_truL ?gh ?_); (case gh => walk_at "h"))
  | (with_reducible refine g_get2 ?_)
  | (with_reducible refine g_try ?_)
  | (with_reducible refine g_fld ?_)
  | (with_reducible refine g_sfld ?_)
  | (with_reducible refine g_meth ?_)
  | (with_reducible refine g_make ?_)
  | (with_reducible refine g_del ?_)
  | (with_reducible refine g_callS ?_)
  | (with_reducible refine g_raise ?_)
  | (with_reducible refine g_xf ?_)
  | walk_at "is")
local macro_rules | `(tactic| walk_at "gg") => `(tactic| repeat walk_at "g")
local macro_rules | `(tactic| walk_at "sz") => `(tactic| (refine sz ?_; simp only [List.length_cons, List.length_nil, List.length_map, List.length_append, List.length_replicate]; omega))
local macro_rules | `(tactic| walk_at "sub") => `(tactic| ((repeat (first | exact List.Sublist.slnil | with_reducible apply List.Sublist.cons_cons | with_reducible apply List.Sublist.cons)); done))

/-! ### texts, words, numbers -/
theorem strOk_app (a b : Str) (ha : PyData.strOk a = true) (hb : PyData.strOk b = true) : PyData.strOk (a ++ b) = true := by
  unfold PyData.strOk at *
  show (a.cps ++ b.cps).all _ = true
  rw [Array.all_append, ha, hb]
  rfl
theorem length_app (a b : Str) : (a ++ b).length = a.length + b.length := by
  show (a.cps ++ b.cps).size = _
  rw [Array.size_append]
  rfl
theorem strOk_at {z : Str} (h : PyData.strOk z = true) {i : Nat} {c : Nat} (e : z.cps.toList[i]? = some c) : PyData.strOk ⟨#[c]⟩ = true := by
  unfold PyData.strOk at *
  rw [Array.all_eq_true_iff_forall_mem] at h
  have := h c (by rw [← Array.mem_toList_iff]; exact List.mem_of_getElem? e)
  simpa using this
section
variable {P : Program} {w : World} {K : PySem.W.Frag} {mg : Str → Option Value} {base : Heap}
theorem g_signs {K : PySem.W.Frag} {Q : VK} {H : Hp} {z : Str} {i : Int} (ok : PyData.strOk z = true) (l : z.length ≤ sizeLine) (h0 : 0 ≤ i) (h1 : i < z.length) (q : ∀ y, PyData.strOk y = true → y.length = 1 → Q (.str y) H) : rIxA K (.str z) (.int i) H Q := by
  obtain ⟨k, rfl⟩ : ∃ k : Nat, i = (k : Int) := ⟨i.toNat, by omega⟩
  have hl : k < z.cps.toList.length := by
    have : z.cps.toList.length = z.length := by simp [PySem.Str.length]
    omega
  have e := List.getElem?_eq_getElem hl
  exact g_ixS (c := z.cps.toList[k]) l (atI_nat e) (q _ (strOk_at ok e) rfl)
def sp_l_text (T : Txt K mg) : Sp := fun vs H Q _ => ∃ (c : Addr) (ns : List Int) (i : Int), vs = [.ref c, .int i] ∧ H c = some (.lst (ns.map V.int)) ∧ FeedOk ns ∧
  ∀ H' (ns' : List Int) z, But c H H' → H' c = some (.lst (ns'.map V.int)) → FeedOk ns' → PyData.strOk z = true → Q (.str z) H'
theorem sp_l_text_len {T : Txt K mg} {vs H Q E} (h : sp_l_text T vs H Q E) : vs.length = 2 := by
  obtain ⟨_, _, _, rfl, _⟩ := h
  rfl
theorem ok_l_text (T : Txt K mg) : FnOk P w K mg base CX0 2 T.f_l_text T.fd_l_text ["feed", "at"] (sp_l_text T) := by
  refine T.F_l_text.ok sc_l_text (fun vs H Q E h => sp_l_text_len h) (fun cdv A outer s H vs Q E hr h => ?_)
  refine ⟨_, (pss_cons (ps_set (i := 2) sc_l_text.nd rfl (.inl rfl) pe_str)
      (pss_cons (ps_set (i := 3) sc_l_text.nd rfl (.inl rfl) (pe_ix (ix_K K (hu_of hr)) (pe_lst (pa_cons pe_int (pa_cons pe_int (pa_cons pe_int (pa_cons pe_int (pa_cons pe_int pa_nil)))))) (pe_op op_mod (pe_callTy cr_int1 (by rfl) T.m_int (by decide +kernel) (pa_cons (pe_op (op_addK K) (pv 1) (pe_call (ok_l_next T) (hr.mono (by decide)) (by rfl) T.g_l_next T.F_l_next.kp T.b_l_next .nil pass0 (pa_cons (pv 0) (pa_cons pe_int pa_nil)))) pa_nil)) pe_int) (fun _ _ => rfl)))
      (pss_cons (ps_set (i := 4) sc_l_text.nd rfl (.inl rfl) pe_str)
      (pss_cons (ps_for PassesOwn.never rfl (pi_range1 rfl T.m_range (pa_cons (pv 3) pa_nil)) (pg_name (i := 5) sc_l_text.nd rfl (.inl rfl)) (pss_cons (ps_set (i := 6) sc_l_text.nd rfl (.inl rfl) (pe_op op_mod (pe_callTy cr_int1 (by rfl) T.m_int (by decide +kernel) (pa_cons (pe_op (op_addK K) (pe_op (op_addK K) (pv 1) (pv 5)) (pe_call (ok_l_next T) (hr.mono (by decide)) (by rfl) T.g_l_next T.F_l_next.kp T.b_l_next .nil pass0 (pa_cons (pv 0) (pa_cons pe_int pa_nil)))) pa_nil)) (pe_callB (cr_lenK K) (by rfl) T.m_len (by decide +kernel) (pa_cons (pv 2) pa_nil))))
      (pss_one (ps_set (i := 4) sc_l_text.nd rfl (.inl rfl) (pe_op (op_addK K) (pv 4) (pe_ix (ix_K K (hu_of hr)) (pv 2) (pv 6) (fun _ _ => rfl)))))))
      (pss_one (ps_ret (pv 4))))))), ?_⟩
  obtain ⟨c, ns, i, rfl, hc, ok, q⟩ := h
  refine g_start (σ' := [some (.ref c), some (.int i), none, none, none, none, none]) rfl ?_
  have hH := Has.arg hc
  walk_at "gg"
  refine g_klst (by walk_at "sz") hH (fun p1 H1 n1 h1 => ?_)
  walk_at "gg"
  refine ⟨c, ns, 5, rfl, by walk_at "h", ok, by decide, by decide, fun H2 ns2 r hb e ok2 r0 r1 => ?_⟩
  have h2 := h1.but (.tl .hd) hb e
  walk_at "gg"
  refine g_rI (by show (0 : Int) < 5; decide) ?_
  refine g_ixI (xs := [3, 1, 0, 2, 6]) (h2.get (List.Mem.head _)) (Int.emod_nonneg _ (by decide)) (by show _ < (5 : Int); exact Int.emod_lt_of_pos _ (by decide)) (fun m hm => ?_)
  have hm' : 0 ≤ m ∧ m ≤ 6 := by
    have := List.mem_of_getElem? hm
    simp only [List.mem_cons, List.not_mem_nil, or_false] at this
    omega
  walk_at "gg"
  refine k_forR1 (fun t σ H' => ∃ (ns : List Int) (z : Str) (y5 y6 : Option V) (sg : Str), σ = [some (.ref c), some (.int i), some (.str sg), some (.int m), some (.str z), y5, y6] ∧ Has (rm H c) [(c, .lst (ns.map V.int))] H' ∧ FeedOk ns ∧ PyData.strOk z = true ∧ z.length ≤ t ∧ PyData.strOk sg = true ∧ sg.length = 39) (by omega) (by omega) ⟨ns2, _, _, _, _, rfl, h2.drop, ok2, by decide +kernel, Nat.le_refl _, by decide +kernel, by decide +kernel⟩ ?_ ?_
  · rintro t σ H3 ht ⟨ns, z, y5, y6, sg, rfl, h3, ok, oz, lz, osg, lsg⟩
    walk_at "gg"
    refine ⟨c, ns, 39, rfl, by walk_at "h", ok, by decide, by decide, fun H4 ns4 r hb e ok4 r0 r1 => ?_⟩
    have h4 := h3.but .hd hb e
    walk_at "gg"
    refine g_lenS (sz (by omega)) ?_
    rw [lsg]
    refine g_rI (by show (0 : Int) < 39; decide) ?_
    walk_at "gg"
    refine g_signs osg (sz (by omega)) (Int.emod_nonneg _ (by decide)) (by rw [lsg]; exact Int.emod_lt_of_pos _ (by decide)) (fun y oy ly => ?_)
    refine g_addS (sz (by omega)) ?_
    walk_at "gg"
    exact ⟨ns4, _, _, _, _, rfl, h4, ok4, strOk_app _ _ oz oy, by rw [length_app]; omega, osg, lsg⟩
  · rintro σ H3 ⟨ns, z, y5, y6, sg, rfl, h3, ok, oz, lz, osg, lsg⟩
    walk_at "gg"
    exact q H3 ns z (But.of h3.same) (by walk_at "h") ok oz
def sp_l_words (T : Txt K mg) : Sp := fun vs H Q _ => ∃ (c : Addr) (ns : List Int) (i : Int), vs = [.ref c, .int i] ∧ H c = some (.lst (ns.map V.int)) ∧ FeedOk ns ∧
  ∀ p H' (ns' : List Int) (ss : List Str), H p = none → But c H H' → H' c = some (.lst (ns'.map V.int)) → FeedOk ns' → H' p = some (.lst (ss.map V.str)) → okL ss → ss.length ≤ 9 → Q (.ref p) H'
theorem sp_l_words_len {T : Txt K mg} {vs H Q E} (h : sp_l_words T vs H Q E) : vs.length = 2 := by
  obtain ⟨_, _, _, rfl, _⟩ := h
  rfl
theorem okL_snoc {xs : List Str} {z : Str} (h : okL xs) (hz : PyData.strOk z = true) : okL (xs ++ [z]) := fun x hx => by
  rcases List.mem_append.mp hx with hx | hx
  · exact h x hx
  · rw [List.mem_singleton.mp hx]; exact hz
theorem okL_nil : okL [] := fun x hx => by cases hx
theorem ok_l_words (T : Txt K mg) : FnOk P w K mg base CX0 3 T.f_l_words T.fd_l_words ["feed", "at"] (sp_l_words T) := by
  refine T.F_l_words.ok sc_l_words (fun vs H Q E h => sp_l_words_len h) (fun cdv A outer s H vs Q E hr h => ?_)
  refine ⟨_, (pss_cons (ps_set (i := 2) sc_l_words.nd rfl (.inl rfl) (pe_ix (ix_K K (hu_of hr)) (pe_lst (pa_cons pe_int (pa_cons pe_int (pa_cons pe_int (pa_cons pe_int (pa_cons pe_int pa_nil)))))) (pe_op op_mod (pe_callTy cr_int1 (by rfl) T.m_int (by decide +kernel) (pa_cons (pe_op (op_addK K) (pv 1) (pe_call (ok_l_next T) (hr.mono (by decide)) (by rfl) T.g_l_next T.F_l_next.kp T.b_l_next .nil pass0 (pa_cons (pv 0) (pa_cons pe_int pa_nil)))) pa_nil)) pe_int) (fun _ _ => rfl)))
      (pss_one (ps_ret (pe_lc (own := [("j", 3)]) (g := gName 3) (tt := tYes) rfl sc_l_words.nd (pi_range1 rfl T.m_range (pa_cons (pv 2) pa_nil)) (blkOk_by (N := n_l_words) (sc := defScope s_l_words) (by decide +kernel)) (fun _ _ _ _ _ => (pg_name (i := 3) sc_l_words.nd rfl (.inl rfl))) (fun _ _ _ _ _ => pts_nil) (fun _ _ _ _ _ => (pe_call (ok_l_text T) (hr.mono (by decide)) (by rfl) T.g_l_text T.F_l_text.kp T.b_l_text .nil pass0 (pa_cons (pv 0) (pa_cons (pe_op (op_addK K) (pv 1) (pv 3)) pa_nil)))))))), ?_⟩
  obtain ⟨c, ns, i, rfl, hc, ok, q⟩ := h
  refine g_start (σ' := [some (.ref c), some (.int i), none, none]) rfl ?_
  have hH := Has.arg hc
  walk_at "gg"
  refine g_klst (by walk_at "sz") hH (fun p1 H1 n1 h1 => ?_)
  walk_at "gg"
  refine ⟨c, ns, 5, rfl, by walk_at "h", ok, by decide, by decide, fun H2 ns2 r hb e ok2 r0 r1 => ?_⟩
  have h2 := h1.but (.tl .hd) hb e
  walk_at "gg"
  refine g_rI (by show (0 : Int) < 5; decide) ?_
  refine g_ixI (xs := [2, 0, 1, 9, 3]) (h2.get (List.Mem.head _)) (Int.emod_nonneg _ (by decide)) (by show _ < (5 : Int); exact Int.emod_lt_of_pos _ (by decide)) (fun m hm => ?_)
  have hm' : 0 ≤ m ∧ m ≤ 9 := by
    have := List.mem_of_getElem? hm
    simp only [List.mem_cons, List.not_mem_nil, or_false] at this
    omega
  walk_at "gg"
  refine k_lcR1 (by omega) (by omega) h2.drop (fun t acc F' O' => ∃ (ns : List Int) (ss : List Str), acc = ss.map V.str ∧ ss.length = t ∧ okL ss ∧ FeedOk ns ∧ F' = rm H c ∧ O' = [(c, .lst (ns.map V.int))]) ⟨ns2, [], rfl, rfl, okL_nil, ok2, rfl, rfl⟩ ?_ ?_
  · rintro t acc F' O' D H3 ht ⟨ns, ss, rfl, rfl, os, ok, rfl, rfl⟩ hh
    walk_at "gg"
    refine ⟨c, ns, _, rfl, by walk_at "h", ok, fun H4 ns4 z hb e ok4 oz => ?_⟩
    have h4 := hh.but (.tl .hd) hb e
    exact k_turn h4 (by rw [List.length_map]; omega) ⟨ns4, ss ++ [z], by rw [List.map_append]; rfl, by rw [List.length_append]; rfl, okL_snoc os oz, ok4, rfl, rfl⟩
  rintro acc F' O' D H3 ⟨ns, ss, rfl, hsl, os, ok, rfl, rfl⟩ hh
  exact q D H3 ns ss (hh.argFree (by simp)) (But.of hh.same) (by walk_at "h") ok (hh.get (List.Mem.head _)) os (by omega)
def sp_l_int (T : Txt K mg) : Sp := fun vs H Q _ => ∃ i j : Int, vs = [.int i, .int j] ∧ Q (.bl (decide (i = j))) H
theorem sp_l_int_len {T : Txt K mg} {vs H Q E} (h : sp_l_int T vs H Q E) : vs.length = 2 := by
  obtain ⟨_, _, rfl, _⟩ := h
  rfl
theorem ok_l_int (T : Txt K mg) : FnOk P w K mg base CX0 1 T.f_l_int T.fd_l_int ["told", "due"] (sp_l_int T) := by
  refine T.F_l_int.ok sc_l_int (fun vs H Q E h => sp_l_int_len h) (fun cdv A outer s H vs Q E hr h => ?_)
  refine ⟨_, (pss_cons (ps_if (PW.pt (pw_or (pt_not (pt_val (pe_callB (cr_isK K) (by rfl) T.m_isinstance (by decide +kernel) (pa_cons (pv 0) (pa_cons (pe_bltn (v := .ty "int") (by rfl) T.m_int (by decide +kernel) rfl) pa_nil))))) (pw_or1 (pt_val (pe_callB (cr_isK K) (by rfl) T.m_isinstance (by decide +kernel) (pa_cons (pv 0) (pa_cons (pe_bltn (v := .ty "bool") (by rfl) T.m_bool (by decide +kernel) rfl) pa_nil))))))) (pss_one (ps_ret pe_bl)) pss_nil)
      (pss_one (ps_ret (pe_cmpR (op_eqK K hr.units) (pv 0) (pv 1) (nomark _))))), ?_⟩
  obtain ⟨i, j, rfl, q⟩ := h
  refine g_start (σ' := [some (.int i), some (.int j)]) rfl ?_
  walk_at "gg"
  exact q
def sp_l_int_h (K : PySem.W.Frag) : Sp := fun vs H Q _ => ∃ i j : Int, vs = [.int i, .int j] ∧ Q (.bl (decide (i = j))) H
theorem sp_l_int_h_len {vs H Q E} (h : sp_l_int_h K vs H Q E) : vs.length = 2 := by
  obtain ⟨_, _, rfl, _⟩ := h
  rfl
theorem ok_l_int_h (T : Txt K mg) : L2H.FnH P w K mg base CX0 1 T.f_l_int T.fd_l_int ["told", "due"] (sp_l_int_h K) := by
  refine Fun.okH T.F_l_int sc_l_int (fun vs H Q E h => sp_l_int_h_len h) (fun cdv A outer s H vs Q E p hot hr h => ?_)
  refine ⟨_, (pss_cons (ps_if (PW.pt (pw_or (pt_not (pt_val (pe_callB (cr_isK K) (by rfl) T.m_isinstance (by decide +kernel) (pa_cons (pv 0) (pa_cons (pe_bltn (v := .ty "int") (by rfl) T.m_int (by decide +kernel) rfl) pa_nil))))) (pw_or1 (pt_val (pe_callB (cr_isK K) (by rfl) T.m_isinstance (by decide +kernel) (pa_cons (pv 0) (pa_cons (pe_bltn (v := .ty "bool") (by rfl) T.m_bool (by decide +kernel) rfl) pa_nil))))))) (pss_one (ps_ret pe_bl)) pss_nil)
      (pss_one (ps_ret (pe_cmpR (op_eqK K hr.units) (pv 0) (pv 1) (nomark _))))), ?_⟩
  obtain ⟨i, j, rfl, q⟩ := h
  refine g_start (σ' := [some (.int i), some (.int j)]) rfl ?_
  walk_at "gg"
  exact q
def sp_l_same (T : Txt K mg) : Sp := fun vs H Q _ => ∃ (p l t tr : Addr) (r : Row), vs = [.ref p, .ref t] ∧ H p = some (.tup [.str r.2.1, .str r.2.2.1, .ref l]) ∧ H l = some (.lst (r.2.2.2.map V.str)) ∧ H t = some (.tup [.int r.1, .str r.2.1, .str r.2.2.1, .ref tr]) ∧ H tr = some (.tup (r.2.2.2.map V.str)) ∧ okR r ∧
  ∀ H', Same H H' → Q (.bl true) H'
theorem sp_l_same_len {T : Txt K mg} {vs H Q E} (h : sp_l_same T vs H Q E) : vs.length = 2 := by
  obtain ⟨_, _, _, _, _, rfl, _⟩ := h
  rfl
def toldD (r : Row) : PyData := .tuple [.str r.2.1, .str r.2.2.1, .list (r.2.2.2.map PyData.str)]
theorem sh_toldD {r : Row} (h : okR r) : Sh 2 (toldD r) := Sh.tuple fun d hd => by
  simp only [List.mem_cons, List.not_mem_nil, or_false] at hd
  rcases hd with rfl | rfl | rfl
  · exact Sh.str h.1
  · exact Sh.str h.2.1
  · exact Sh.strs h.2.2.1
theorem ok_l_same (T : Txt K mg) : FnOk P w K mg base CX0 1 T.f_l_same T.fd_l_same ["told", "row"] (sp_l_same T) := by
  refine T.F_l_same.ok sc_l_same (fun vs H Q E h => sp_l_same_len h) (fun cdv A outer s H vs Q E hr h => ?_)
  refine ⟨_, (pss_cons (ps_if (PW.pt (pw_or (pt_not (pt_val (pe_callB (cr_isK K) (by rfl) T.m_isinstance (by decide +kernel) (pa_cons (pv 0) (pa_cons (pe_bltn (v := .ty "tuple") (by rfl) T.m_tuple (by decide +kernel) rfl) pa_nil))))) (pw_or1 (pt_cmpR (op_neK K hr.units) (pe_callB (cr_lenK K) (by rfl) T.m_len (by decide +kernel) (pa_cons (pv 0) pa_nil)) pe_int (nomark _))))) (pss_one (ps_ret pe_bl)) pss_nil)
      (pss_cons (ps_if (pt_not (pt_val (pe_callB (cr_isK K) (by rfl) T.m_isinstance (by decide +kernel) (pa_cons (pe_ix (ix_K K (hu_of hr)) (pv 0) pe_int (fun _ _ => rfl)) (pa_cons (pe_bltn (v := .ty "list") (by rfl) T.m_list (by decide +kernel) rfl) pa_nil))))) (pss_one (ps_ret pe_bl)) pss_nil)
      (pss_one (ps_ret (pe_cmpR (op_eqK K hr.units) (pv 0) (pe_tup (pa_cons (pe_ix (ix_K K (hu_of hr)) (pv 1) pe_int (fun _ _ => rfl)) (pa_cons (pe_ix (ix_K K (hu_of hr)) (pv 1) pe_int (fun _ _ => rfl)) (pa_cons (pe_callTy (cr_listK K) (by rfl) T.m_list (by decide +kernel) (pa_cons (pe_ix (ix_K K (hu_of hr)) (pv 1) pe_int (fun _ _ => rfl)) pa_nil)) pa_nil)))) (nomark _)))))), ?_⟩
  obtain ⟨p, l, t, tr, r, rfl, hp, hl, ht, htr, ok, q⟩ := h
  have hH := Has.start H
  refine g_start (σ' := [some (.ref p), some (.ref t)]) rfl ?_
  walk_at "gg"
  refine i_n (fun z => (z rfl).elim) (fun _ => ?_)
  walk_at "gg"
  refine g_ixT (v := .ref l) (by walk_at "h") (atI_nat (j := 2) rfl) ?_
  walk_at "gg"
  refine g_ixT (v := .str r.2.1) (by walk_at "h") (atI_nat (j := 1) rfl) ?_
  walk_at "gg"
  refine g_ixT (v := .str r.2.2.1) (by walk_at "h") (atI_nat (j := 2) rfl) ?_
  walk_at "gg"
  refine g_ixT (v := .ref tr) (by walk_at "h") (atI_nat (j := 3) rfl) ?_
  walk_at "gg"
  refine g_listT (by walk_at "h") hH (fun l2 H1 n1 h1 => ?_)
  walk_at "gg"
  refine g_ktup (by walk_at "sz") h1 (fun p2 H2 n2 h2 => ?_)
  refine g_eqD (d := toldD r) (e := toldD r) (.tup (h2.same _ _ hp) (.cons (.str _) (.cons (.str _) (.cons (Dq.strs (h2.same _ _ hl)) .nil)))) (.tup (h2.get (List.Mem.head _)) (.cons (.str _) (.cons (.str _) (.cons (Dq.strs (h2.get (by walk_at "m"))) .nil)))) ((sh_toldD ok).ok (by decide)) ((sh_toldD ok).ok (by decide)) ?_
  rw [SeqAt.eqv_refl _ (sh_toldD ok).1]
  exact q H2 h2.same
end

end K86

namespace K86
open PySem PySem.Spec PyProof.Rows L2 Qk
local macro_rules | `(tactic| walk_at "m") => `(tactic| ((repeat (first | exact List.Mem.head _ | apply List.Mem.tail)); done))
local macro_rules | `(tactic| walk_at "h") => `(tactic| first | assumption | exact Has.gF (by assumption) (by assumption) | exact Has.get (by assumption) (by walk_at "m"))
local macro_rules | `(tactic| walk_at "c") => `(tactic| ((repeat (first | exact Chg.hd | apply Chg.tl)); done))
local macro_rules | `(tactic| walk_at "is") => `(tactic| first
  | ((with_reducible refine' is2_non ?gh ?_); (case gh => walk_at "h"))
  | (with_reducible refine is_int_list ?_)
  | (with_reducible refine is_int_tuple ?_)
  | (with_reducible refine is_int_dict ?_)
  | (with_reducible refine is_int_int ?_)
  | (with_reducible refine is_int_bool ?_)
  | (with_reducible refine is_int_str ?_)
  | ((with_reducible refine' is2_int ?gh ?_); (case gh => walk_at "h"))
  | (with_reducible refine is_str_list ?_)
  | (with_reducible refine is_str_tuple ?_)
  | (with_reducible refine is_str_dict ?_)
  | (with_reducible refine is_str_int ?_)
  | (with_reducible refine is_str_bool ?_)
  | (with_reducible refine is_str_str ?_)
  | ((with_reducible refine' is2_str ?gh ?_); (case gh => walk_at "h"))
  | (with_reducible refine is_bool_list ?_)
  | (with_reducible refine is_bool_tuple ?_)
  | (with_reducible refine is_bool_dict ?_)
  | (with_reducible refine is_bool_int ?_)
  | (with_reducible refine is_bool_bool ?_)
  | (with_reducible refine is_bool_str ?_)
  | ((with_reducible refine' is2_bool ?gh ?_); (case gh => walk_at "h"))
  | ((with_reducible refine' is_list_list ?gh ?_); (case gh => walk_at "h"))
  | ((with_reducible refine' is_list_tuple ?gh ?_); (case gh => walk_at "h"))
  | ((with_reducible refine' is_list_dict ?gh ?_); (case gh => walk_at "h"))
  | ((with_reducible refine' is_list_int ?gh ?_); (case gh => walk_at "h"))
  | ((with_reducible refine' is_list_bool ?gh ?_); (case gh => walk_at "h"))
  | ((with_reducible refine' is_list_str ?gh ?_); (case gh => walk_at "h"))
  | ((with_reducible refine' is2_list ?ga ?gb ?_); (case ga => walk_at "h"); (case gb => walk_at "h"))
  | ((with_reducible refine' is_tuple_list ?gh ?_); (case gh => walk_at "h"))
  | ((with_reducible refine' is_tuple_tuple ?gh ?_); (case gh => walk_at "h"))
  | ((with_reducible refine' is_tuple_dict ?gh ?_); (case gh => walk_at "h"))
  | ((with_reducible refine' is_tuple_int ?gh ?_); (case gh => walk_at "h"))
  | ((with_reducible refine' is_tuple_bool ?gh ?_); (case gh => walk_at "h"))
  | ((with_reducible refine' is_tuple_str ?gh ?_); (case gh => walk_at "h"))
  | ((with_reducible refine' is2_tuple ?ga ?gb ?_); (case ga => walk_at "h"); (case gb => walk_at "h"))
  | ((with_reducible refine' is_dict_list ?gh ?_); (case gh => walk_at "h"))
  | ((with_reducible refine' is_dict_tuple ?gh ?_); (case gh => walk_at "h"))
  | ((with_reducible refine' is_dict_dict ?gh ?_); (case gh => walk_at "h"))
  | ((with_reducible refine' is_dict_int ?gh ?_); (case gh => walk_at "h"))
  | ((with_reducible refine' is_dict_bool ?gh ?_); (case gh => walk_at "h"))
  | ((with_reducible refine' is_dict_str ?gh ?_); (case gh => walk_at "h"))
  | ((with_reducible refine' is2_dict ?ga ?gb ?_); (case ga => walk_at "h"); (case gb => walk_at "h")))
local macro_rules | `(tactic| walk_at "g") => `(tactic| first
  | (with_reducible refine g_seq ?_)
  | (with_reducible refine g_asg ?_)
  | ((with_reducible refine g_name ?_); dsimp only [List.set, wipe, List.map])
  | ((with_reducible refine' g_var ?gv ?_); (case gv => exact rfl))
  | (with_reducible refine g_c ?_)
  | (with_reducible refine g_op ?_)
  | (with_reducible refine g_cons ?_)
  | (with_reducible refine g_nil ?_)
  | (with_reducible refine g_cb ?_)
  | (with_reducible refine g_call ?_)
  | (with_reducible refine g_tup ?_)
  | (with_reducible refine g_lst ?_)
  | (with_reducible refine g_bm ?_)
  | (with_reducible refine g_bm0 ?_)
  | ((with_reducible refine' g_kbm ?gh ?_); (case gh => walk_at "h"))
  | (with_reducible refine g_drop ?_)
  | (with_reducible refine g_ret ?_)
  | (with_reducible refine g_retN ?_)
  | (with_reducible refine g_next ?_)
  | (with_reducible refine g_brk ?_)
  | (with_reducible refine g_cont ?_)
  | (with_reducible refine g_if ?_)
  | ((with_reducible refine' g_aug ?gv ?_); (case gv => exact rfl))
  | (with_reducible refine g_ipI ?_)
  | (with_reducible refine g_test ?_)
  | (with_reducible refine g_tB ?_)
  | (with_reducible refine g_kB ?_)
  | (with_reducible refine g_not ?_)
  | (with_reducible refine g_and ?_)
  | (with_reducible refine g_or ?_)
  | (with_reducible refine g_andV ?_)
  | (with_reducible refine g_orV ?_)
  | (with_reducible refine g_notV ?_)
  | (with_reducible refine g_ifE ?_)
  | (with_reducible refine g_addI ?_)
  | (with_reducible refine g_rI0 ?_)
  | (with_reducible refine g_eqI ?_)
  | (with_reducible refine g_eqS ?_)
  | (with_reducible refine g_neI ?_)
  | (with_reducible refine g_neS ?_)
  | (with_reducible refine g_isN ?_)
  | (with_reducible refine g_notN ?_)
  | (with_reducible refine g_int ?_)
  | (with_reducible refine g_max2 ?_)
  | ((with_reducible refine' g_lenL ?gh ?_); (case gh => walk_at "h"))
  | (with_reducible refine g_sub ?_)
  | (with_reducible refine g_gcons ?_)
  | (with_reducible refine g_gnil ?_)
  | (with_reducible refine g_un ?_)
  | (with_reducible refine g_rU ?_)
  | (with_reducible refine g_forL ?_)
  | (with_reducible refine g_forR1 ?_)
  | (with_reducible refine g_forR2 ?_)
  | (with_reducible refine g_forR3 ?_)
  | (with_reducible refine g_lcL ?_)
  | (with_reducible refine g_lcR1 ?_)
  | (with_reducible refine g_lcR2 ?_)
  | (with_reducible refine g_slice ?_)
  | (with_reducible refine g_part ?_)
  | (with_reducible refine g_kOI ?_)
  | (with_reducible refine g_nopart ?_)
  | (with_reducible refine g_yes ?_)
  | ((with_reducible refine' g_wipe ?gv ?_); (case gv => exact rfl))
  | (with_reducible refine iteT ?_)
  | (with_reducible refine iteF ?_)
  | (with_reducible refine i_nf ?_)
  | (with_reducible refine i_nt ?_)
  | ((with_reducible refine' g_gtup ?gh ?gl ?_); (case gh => walk_at "h"); (case gl => exact rfl))
  | ((with_reducible refine' g_notinI ?gh ?_); (case gh => walk_at "h"))
  | ((with_reducible refine' g_inI ?gh ?_); (case gh => walk_at "h"))
  | ((with_reducible refine' g_kget2 ?gh ?_); (case gh => walk_at "h"))
  | ((with_reducible refine' g_kgotI ?gh ?_); (case gh => walk_at "h"))
  | (with_reducible refine g_tRev ?_)
  | (with_reducible refine g_neB ?_)
  | (with_reducible refine g_eqB ?_)
  | ((with_reducible refine' g_lenT ?gh ?_); (case gh => walk_at "h"))
  | (with_reducible refine g_star ?_)
  | ((with_reducible refine' g_kstarL ?gh ?_); (case gh => walk_at "h"))
  | ((with_reducible refine' g_kstarT ?gh ?_); (case gh => walk_at "h"))
  | (with_reducible refine g_tru ?_)
  | ((with_reducible refine' g_truL ?gh ?_); (case gh => walk_at "h"))
  | (with_reducible refine g_get2 ?_)
  | (with_reducible refine g_try ?_)
  | (with_reducible refine g_fld ?_)
  | (with_reducible refine g_sfld ?_)
  | (with_reducible refine g_meth ?_)
  | (with_reducible refine g_make ?_)
  | (with_reducible refine g_del ?_)
  | (with_reducible refine g_callS ?_)
  | (with_reducible refine g_raise ?_)
  | (with_reducible refine g_xf ?_)
  | walk_at "is")
local macro_rules | `(tactic| walk_at "gg") => `(tactic| repeat walk_at "g")
local macro_rules | `(tactic| walk_at "sz") => `(tactic| (refine sz ?_; simp only [List.length_cons, List.length_nil, List.length_map, List.length_append, List.length_replicate]; omega))
local macro_rules | `(tactic| walk_at "sub") => `(tactic| ((repeat (first | exact List.Sublist.slnil | with_reducible apply List.Sublist.cons_cons | with_reducible apply List.Sublist.cons)); done))

/-! ### picks, lists, shows -/
section
variable {P : Program} {w : World} {K : PySem.W.Frag} {mg : Str → Option Value} {base : Heap}
theorem rmO_one {c : Addr} {o : HO} {H : Hp} : rmO [(c, o)] H = rm H c := by
  funext b
  unfold rmO rm
  simp
theorem rowT_noL {rows : List Row} : ∀ d ∈ rows.map rowT, noL d = true := fun d hd => by
  obtain ⟨r, _, rfl⟩ := List.mem_map.mp hd
  unfold rowT
  rw [noL]
  refine noLs_mem fun d hd => ?_
  simp only [List.mem_cons, List.not_mem_nil, or_false] at hd
  rcases hd with rfl | rfl | rfl | rfl
  · rfl
  · rfl
  · rfl
  · exact tS_noL _
theorem waD_noL {rows : List Row} : ∀ d ∈ rows.map waD, noL d = true := fun d hd => by
  obtain ⟨r, _, rfl⟩ := List.mem_map.mp hd
  unfold waD
  rw [noL]
  refine noLs_mem fun d hd => ?_
  simp only [List.mem_cons, List.not_mem_nil, or_false] at hd
  rcases hd with rfl | rfl | rfl <;> rfl
theorem sh_rowT {r : Row} (h : okR r) : Sh 2 (rowT r) := Sh.tuple fun d hd => by
  simp only [List.mem_cons, List.not_mem_nil, or_false] at hd
  rcases hd with rfl | rfl | rfl | rfl
  · exact Sh.int _
  · exact Sh.str h.1
  · exact Sh.str h.2.1
  · exact sh_tS h.2.2.1
theorem sh_rows {rows : List Row} (h : ∀ r ∈ rows, okR r) : Sh 3 (.list (rows.map rowT)) := Sh.list fun d hd => by
  obtain ⟨r, hr, rfl⟩ := List.mem_map.mp hd
  exact sh_rowT (h r hr)
theorem sh_was {rows : List Row} (h : ∀ r ∈ rows, okR r) : Sh 3 (.list (rows.map waD)) := Sh.list fun d hd => by
  obtain ⟨r, hr, rfl⟩ := List.mem_map.mp hd
  refine Sh.tuple fun d hd => ?_
  simp only [List.mem_cons, List.not_mem_nil, or_false] at hd
  rcases hd with rfl | rfl | rfl
  · exact Sh.int _
  · exact Sh.str (h r hr).1
  · exact Sh.str (h r hr).2.1
theorem sh_nil {n : Nat} : Sh (n + 1) (.list []) := Sh.list fun d hd => by cases hd
theorem eqv_nil (ds : List PyData) : PyData.eqv (.list ds) (.list []) = ds.isEmpty := by
  cases ds with
  | nil => simp [PyData.eqv, PyData.eqvAll]
  | cons d ds => simp [PyData.eqv, PyData.eqvAll]
def sp_l_pick (T : Txt K mg) : Sp := fun vs H Q _ => ∃ (c rw_ : Addr) (ns : List Int) (us : List V) (rows : List Row) (n : Int), vs = [.ref c, .ref rw_, .int n] ∧ H c = some (.lst (ns.map V.int)) ∧ FeedOk ns ∧ c ≠ rw_ ∧ H rw_ = some (.lst us) ∧ DqAll H us (rows.map rowT) ∧ (∀ r ∈ rows, okR r) ∧ rows.length ≤ 40 ∧ 0 ≤ n ∧ n ≤ 1000 ∧
  ∀ H' (ns' : List Int) (k : Int), But c H H' → H' c = some (.lst (ns'.map V.int)) → FeedOk ns' → Q (.int k) H'
theorem sp_l_pick_len {T : Txt K mg} {vs H Q E} (h : sp_l_pick T vs H Q E) : vs.length = 3 := by
  obtain ⟨_, _, _, _, _, _, rfl, _⟩ := h
  rfl
theorem ok_l_pick (T : Txt K mg) : FnOk P w K mg base CX0 2 T.f_l_pick T.fd_l_pick ["feed", "rows", "last"] (sp_l_pick T) := by
  refine T.F_l_pick.ok sc_l_pick (fun vs H Q E h => sp_l_pick_len h) (fun cdv A outer s H vs Q E hr h => ?_)
  refine ⟨_, (pss_cons (ps_set (i := 3) sc_l_pick.nd rfl (.inl rfl) (pe_call (ok_l_next T) (hr.mono (by decide)) (by rfl) T.g_l_next T.F_l_next.kp T.b_l_next .nil pass0 (pa_cons (pv 0) (pa_cons pe_int pa_nil))))
      (pss_cons (ps_if (pt_cmpR (op_eqK K hr.units) (pv 3) pe_int (nomark _)) (pss_cons (ps_set (i := 4) sc_l_pick.nd rfl (.inl rfl) (pe_op op_sub pe_int (pe_op op_mulA pe_int (pe_call (ok_l_next T) (hr.mono (by decide)) (by rfl) T.g_l_next T.F_l_next.kp T.b_l_next .nil pass0 (pa_cons (pv 0) (pa_cons pe_int pa_nil))))))
      (pss_one (ps_ret (pe_op op_mulA (pv 4) (pe_op (op_addK K) pe_int (pe_call (ok_l_next T) (hr.mono (by decide)) (by rfl) T.g_l_next T.F_l_next.kp T.b_l_next .nil pass0 (pa_cons (pv 0) (pa_cons pe_int pa_nil)))))))) pss_nil)
      (pss_cons (ps_if (PW.pt (pw_or (pt_cmpR (op_eqK K hr.units) (pv 3) pe_int (nomark _)) (pw_or1 (pt_cmpR (op_eqK K hr.units) (pv 1) (pe_lst pa_nil) (nomark _))))) (pss_one (ps_ret (pe_op op_sub (pe_call (ok_l_next T) (hr.mono (by decide)) (by rfl) T.g_l_next T.F_l_next.kp T.b_l_next .nil pass0 (pa_cons (pv 0) (pa_cons (pe_op (op_addK K) (pv 2) pe_int) pa_nil))) pe_int))) pss_nil)
      (pss_one (ps_ret (pe_ix (ix_K K (hu_of hr)) (pe_ix (ix_K K (hu_of hr)) (pv 1) (pe_call (ok_l_next T) (hr.mono (by decide)) (by rfl) T.g_l_next T.F_l_next.kp T.b_l_next .nil pass0 (pa_cons (pv 0) (pa_cons (pe_callB (cr_lenK K) (by rfl) T.m_len (by decide +kernel) (pa_cons (pv 1) pa_nil)) pa_nil))) (fun _ _ => rfl)) pe_int (fun _ _ => rfl))))))), ?_⟩
  obtain ⟨c, rw_, ns, us, rows, n, rfl, hc, ok, ne, hr, du, okr, few, n0, n1, q⟩ := h
  refine g_start (σ' := [some (.ref c), some (.ref rw_), some (.int n), none, none]) rfl ?_
  have hH := Has.arg hc
  have du := hH.keep (fun p hp xs => by rw [List.mem_singleton.mp hp]; exact fun z => by cases z) rowT_noL du
  rw [rmO_one] at du
  have hr : rm H c rw_ = some (.lst us) := by rw [rm_ne (Ne.symm ne)]; exact hr
  have hul : us.length = rows.length := by rw [du.len, List.length_map]
  generalize hF : rm H c = F at hH du hr
  have fin : ∀ H' (ns' : List Int) (k : Int), Has F [(c, .lst (ns'.map V.int))] H' → FeedOk ns' → Q (.int k) H' := fun H' ns' k h ok => q H' ns' k (But.of (by rw [hF]; exact h.same)) (h.get (List.Mem.head _)) ok
  walk_at "gg"
  refine ⟨c, ns, 4, rfl, by walk_at "h", ok, by decide, by decide, fun H2 ns2 r hb e ok2 r0 r1 => ?_⟩
  have h2 := hH.but .hd hb e
  walk_at "gg"
  refine i_d (fun z => ?_) (fun z => ?_)
  · walk_at "gg"
    refine ⟨c, ns2, 2, rfl, by walk_at "h", ok2, by decide, by decide, fun H3 ns3 s hb e ok3 s0 s1 => ?_⟩
    have h3 := h2.but .hd hb e
    refine g_mulI (.inl ⟨by decide, by decide⟩) ?_
    walk_at "gg"
    refine ⟨c, ns3, _, rfl, by walk_at "h", ok3, by decide, by decide, fun H4 ns4 s' hb e ok4 t0 t1 => ?_⟩
    have h4 := h3.but .hd hb e
    walk_at "gg"
    refine g_mulI (.inl ⟨by omega, by omega⟩) ?_
    exact fin H4 ns4 _ h4 ok4
  have low : ∀ H' (ns' : List Int), Has F [(c, .lst (ns'.map V.int))] H' → FeedOk ns' → sp_l_next T [.ref c, .int (n + 5)] H' (fun x H'' => ∃ i, x = .int i ∧ Q (.int (i - 2)) H'') E0 := fun H' ns' h ok =>
    ⟨c, ns', _, rfl, h.get (List.Mem.head _), ok, by omega, by omega, fun H'' ns'' r hb e ok' _ _ => ⟨r, rfl, fin H'' ns'' _ (h.but .hd hb e) ok'⟩⟩
  walk_at "gg"
  refine i_d (fun z => ?_) (fun z => ?_)
  · walk_at "gg"
    refine ⟨c, ns2, _, rfl, by walk_at "h", ok2, by omega, by omega, fun H3 ns3 s hb e ok3 s0 s1 => ?_⟩
    have h3 := h2.but .hd hb e
    walk_at "gg"
    exact fin H3 ns3 _ h3 ok3
  walk_at "gg"
  refine g_klst (by walk_at "sz") h2 (fun p1 H3 n3 h3 => ?_)
  refine g_eqD (d := .list (rows.map rowT)) (e := .list []) (.lst (h3.same _ _ hr) (du.up h3.same _ _)) (.lst (h3.get (List.Mem.head _)) .nil) ((sh_rows okr).ok (by decide)) (sh_nil.ok (n := 1) (by decide)) ?_
  rw [eqv_nil]
  have h3 := h3.drop
  walk_at "gg"
  cases rows with
  | nil =>
    refine iteT ?_
    walk_at "gg"
    refine ⟨c, ns2, _, rfl, by walk_at "h", ok2, by omega, by omega, fun H4 ns4 s hb e ok4 s0 s1 => ?_⟩
    have h4 := h3.but .hd hb e
    walk_at "gg"
    exact fin H4 ns4 _ h4 ok4
  | cons r0 rows =>
    refine iteF ?_
    rw [List.length_cons] at hul few
    walk_at "gg"
    refine ⟨c, ns2, _, rfl, by walk_at "h", ok2, by omega, by omega, fun H4 ns4 s hb e ok4 s0 s1 => ?_⟩
    have h4 := h3.but .hd hb e
    refine g_ixV (h4.same _ _ hr) s0 (by omega) (fun v hv => ?_)
    obtain ⟨d, hd, dv⟩ := du.get hv
    rw [List.getElem?_map] at hd
    obtain ⟨r', hr', rfl⟩ := Option.map_eq_some_iff.mp hd
    obtain ⟨t, tr, rfl, ht, htr⟩ := rowT_at dv
    walk_at "gg"
    refine g_ixT (v := .int r'.1) (h4.same _ _ ht) (atI_nat (j := 0) rfl) ?_
    exact fin H4 ns4 _ h4 ok4
def sp_l_lists (T : Txt K mg) : Sp := fun vs H Q _ => ∃ (a dx d rw_ : Addr) (kvs : List (Key × V)) (us : List V) (rows : List Row) (n : Int), vs = [.ref a, .ref rw_] ∧ NetAt T H a dx d kvs n ∧ NetOk H kvs rows n ∧ H rw_ = some (.lst us) ∧ DqAll H us (rows.map rowT) ∧
  ∀ H', Same H H' → Q (.bl true) H'
theorem sp_l_lists_len {T : Txt K mg} {vs H Q E} (h : sp_l_lists T vs H Q E) : vs.length = 2 := by
  obtain ⟨_, _, _, _, _, _, _, _, rfl, _⟩ := h
  rfl
theorem ok_l_lists (T : Txt K mg) : FnOk P w K mg base CX0 2 T.f_l_lists T.fd_l_lists ["net", "rows"] (sp_l_lists T) := by
  refine T.F_l_lists.ok sc_l_lists (fun vs H Q E h => sp_l_lists_len h) (fun cdv A outer s H vs Q E hr h => ?_)
  refine ⟨_, (pss_cons (ps_set (i := 2) sc_l_lists.nd rfl (.inl rfl) (pe_methW0 (pv 0) T.cl_Net T.M_Net_waiting (ok_Net_waiting T) (hr.mono (by decide)) T.b_Net_waiting (pass0S (E := fun _ => E0))))
      (pss_cons (ps_if (pt_not (pt_val (pe_callB (cr_isK K) (by rfl) T.m_isinstance (by decide +kernel) (pa_cons (pv 2) (pa_cons (pe_bltn (v := .ty "list") (by rfl) T.m_list (by decide +kernel) rfl) pa_nil))))) (pss_one (ps_ret pe_bl)) pss_nil)
      (pss_cons (ps_if (pt_cmpR (op_neK K hr.units) (pv 2) (pe_lc (own := [("row", 3)]) (g := gName 3) (tt := tYes) rfl sc_l_lists.nd (k_il K (pi_list (pv 1))) (blkOk_by (N := n_l_lists) (sc := defScope s_l_lists) (by decide +kernel)) (fun _ _ _ _ _ => (pg_name (i := 3) sc_l_lists.nd rfl (.inl rfl))) (fun _ _ _ _ _ => pts_nil) (fun _ _ _ _ _ => (pe_slice (sl_K K) (pv 3) po_none (po_some pe_int)))) (nomark _)) (pss_one (ps_ret pe_bl)) pss_nil)
      (pss_cons (ps_if (pt_cmpR (op_neK K hr.units) (pe_lc (own := [("one", 4)]) (g := gName 4) rfl sc_l_lists.nd (k_il K (pi_list (pv 2))) (blkOk_by (N := n_l_lists) (sc := defScope s_l_lists) (by decide +kernel)) (fun _ _ _ _ _ => (pg_name (i := 4) sc_l_lists.nd rfl (.inl rfl))) (fun _ _ _ _ _ => (pts_one (pt_val (pe_callB (cr_isK K) (by rfl) T.m_isinstance (by decide +kernel) (pa_cons (pe_ix (ix_K K (hu_of hr)) (pv 4) pe_int (fun _ _ => rfl)) (pa_cons (pe_bltn (v := .ty "bool") (by rfl) T.m_bool (by decide +kernel) rfl) pa_nil)))))) (fun _ _ _ _ _ => (pv 4))) (pe_lst pa_nil) (nomark _)) (pss_one (ps_ret pe_bl)) pss_nil)
      (pss_cons (ps_expr (k_bm K (pe_bm PySem.F.plainAttrs_list PySem.F.slot_list_append PySem.F.type_list_append mt_append (pv 2) (pa_cons (pe_tup (pa_cons pe_int (pa_cons pe_str (pa_cons pe_str pa_nil)))) pa_nil))))
      (pss_one (ps_ret (pe_cmpR (op_eqK K hr.units) (pe_methW0 (pv 0) T.cl_Net T.M_Net_waiting (ok_Net_waiting T) (hr.mono (by decide)) T.b_Net_waiting (pass0S (E := fun _ => E0))) (pe_lc (own := [("row", 3)]) (g := gName 3) (tt := tYes) rfl sc_l_lists.nd (k_il K (pi_list (pv 1))) (blkOk_by (N := n_l_lists) (sc := defScope s_l_lists) (by decide +kernel)) (fun _ _ _ _ _ => (pg_name (i := 3) sc_l_lists.nd rfl (.inl rfl))) (fun _ _ _ _ _ => pts_nil) (fun _ _ _ _ _ => (pe_slice (sl_K K) (pv 3) po_none (po_some pe_int)))) (nomark _))))))))), ?_⟩
  obtain ⟨a, dx, d, rw_, kvs, us, rows, n, rfl, at_, ok, hr, du, q⟩ := h
  have hH := Has.start H
  refine g_start (σ' := [some (.ref a), some (.ref rw_), none, none, none]) rfl ?_
  have hul : us.length = rows.length := by rw [du.len, List.length_map]
  have shw := sh_was fun r hr => (ok.ok r hr).2
  have few := ok.few
  walk_at "gg"
  refine g_kmeth at_.1 rfl ?_
  walk_at "gg"
  refine ⟨a, dx, d, kvs, rows, n, rfl, at_, ok, fun p H1 ws s1 np hp dw => ?_⟩
  have h1 := hH.made np s1 hp
  have hwl : ws.length = rows.length := by rw [dw.len, List.length_map]
  have dw := h1.keep (fun p hp xs => by rw [List.mem_singleton.mp hp]; exact fun z => by cases z) waD_noL dw
  have sF := h1.reF
  have h1 := h1.re
  generalize rmO [(p, HO.lst ws)] H1 = F at h1 dw sF
  have hr := sF _ _ hr
  have du := du.up sF _ _
  walk_at "gg"
  refine k_lcL (by walk_at "h") h1 (fun i acc F' O' => DqAll F' acc ((rows.take i).map waD) ∧ Same F F' ∧ O' = [(p, .lst ws)]) ⟨.nil, Same.refl _, rfl⟩ ?_ ?_ ?_
  · rintro i acc F' O' H2 ⟨_, s2, rfl⟩ hh
    exact hh.same _ _ (s2 _ _ hr)
  · rintro i x acc F' O' D H2 hx ⟨da, s2, rfl⟩ hh
    obtain ⟨d', hd', dx'⟩ := du.get hx
    rw [List.getElem?_map] at hd'
    obtain ⟨r, hr', rfl⟩ := Option.map_eq_some_iff.mp hd'
    obtain ⟨t, tr, rfl, ht, htr⟩ := rowT_at (dx'.up s2 _ _)
    have hi : i < rows.length := (List.getElem?_eq_some_iff.mp hr').1
    have hal : acc.length ≤ 40 := by rw [da.len, List.length_map, List.length_take]; omega
    walk_at "gg"
    refine g_slTF ht hh (fun t3 H3 F3 s3 f3 h3 => ?_)
    have e3 : cutV [V.int r.1, V.str r.2.1, V.str r.2.2.1, V.ref tr] none (some 3) = [V.int r.1, V.str r.2.1, V.str r.2.2.1] := cutV_to _ 3
    rw [e3] at f3
    refine k_turn h3 (by omega) ⟨?_, s2.trans s3, rfl⟩
    rw [map_take1 waD hr']
    exact (da.up s3 _ _).snoc (.tup f3 (.cons (.int _) (.cons (.str _) (.cons (.str _) .nil))))
  rintro acc F2 O2 D H2 ⟨da, s2, rfl⟩ h2
  rw [hul, List.take_length] at da
  refine g_neD (d := .list (rows.map waD)) (e := .list (rows.map waD)) (.lst (h2.get (by walk_at "m")) ((dw.up s2 _ _).up h2.same _ _)) (.lst (h2.get (List.Mem.head _)) (da.up h2.same _ _)) (shw.ok (by decide)) (shw.ok (by decide)) ?_
  rw [SeqAt.eqv_refl _ shw.1]
  have h2 := h2.drop
  have dw := dw.up s2 _ _
  walk_at "gg"
  refine k_lcL (by walk_at "h") h2 (fun i acc F' O' => acc = [] ∧ F' = F2 ∧ O' = [(p, .lst ws)]) ⟨rfl, rfl, rfl⟩ ?_ ?_ ?_
  · rintro i acc F' O' H3 ⟨rfl, rfl, rfl⟩ hh
    walk_at "h"
  · rintro i x acc F' O' D H3 hx ⟨rfl, rfl, rfl⟩ hh
    obtain ⟨d', hd', dx'⟩ := dw.get hx
    rw [List.getElem?_map] at hd'
    obtain ⟨r, hr', rfl⟩ := Option.map_eq_some_iff.mp hd'
    cases dx' with
    | @tup t xs _ ht hs =>
      cases hs with
      | cons h1' hs =>
        cases h1'
        walk_at "gg"
        refine g_ixT (v := .int r.1) (hh.same _ _ ht) (atI_nat (j := 0) rfl) ?_
        walk_at "gg"
        exact k_skip hh ⟨rfl, rfl, rfl⟩
  rintro acc F3 O3 D3 H3 ⟨rfl, rfl, rfl⟩ h3
  walk_at "gg"
  refine g_klst (by walk_at "sz") h3 (fun p4 H4 n4 h4 => ?_)
  refine g_neD (d := .list []) (e := .list []) (.lst (h4.get (by walk_at "m")) .nil) (.lst (h4.get (List.Mem.head _)) .nil) (sh_nil.ok (n := 1) (by decide)) (sh_nil.ok (n := 1) (by decide)) ?_
  rw [eqv_nil, show ([] : List PyData).isEmpty = true from rfl]
  have h4 : Has F3 [(p, .lst ws)] H4 := h4.drop.drop
  walk_at "gg"
  refine g_ktup (by walk_at "sz") h4 (fun t5 H5 n5 h5 => ?_)
  walk_at "gg"
  refine g_append h5 (by walk_at "c") (szl (by omega)) (fun H6 h6 => ?_)
  have s06 : Same H H6 := sF.trans (s2.trans h6.same)
  walk_at "gg"
  refine g_kmeth (s06 _ _ at_.1) rfl ?_
  walk_at "gg"
  refine ⟨a, dx, d, kvs, rows, n, rfl, ⟨s06 _ _ at_.1, s06 _ _ at_.2⟩, ok.mono s06, fun p7 H7 ws7 s7 n7 hp7 dw7 => ?_⟩
  have h7 := Has.start H7
  have s27 := s2.trans (h6.same.trans s7)
  have hr := s27 _ _ hr
  have du := du.up s27 _ _
  walk_at "gg"
  refine k_lcL hr h7 (fun i acc F' O' => DqAll F' acc ((rows.take i).map waD) ∧ Same H7 F' ∧ O' = []) ⟨.nil, Same.refl _, rfl⟩ ?_ ?_ ?_
  · rintro i acc F' O' H2 ⟨_, s2, rfl⟩ hh
    exact hh.same _ _ (s2 _ _ hr)
  · rintro i x acc F' O' D H2 hx ⟨da, s2, rfl⟩ hh
    obtain ⟨d', hd', dx'⟩ := du.get hx
    rw [List.getElem?_map] at hd'
    obtain ⟨r, hr', rfl⟩ := Option.map_eq_some_iff.mp hd'
    obtain ⟨t, tr, rfl, ht, htr⟩ := rowT_at (dx'.up s2 _ _)
    have hi : i < rows.length := (List.getElem?_eq_some_iff.mp hr').1
    have hal : acc.length ≤ 40 := by rw [da.len, List.length_map, List.length_take]; omega
    walk_at "gg"
    refine g_slTF ht hh (fun t3 H3 F3 s3 f3 h3 => ?_)
    have e3 : cutV [V.int r.1, V.str r.2.1, V.str r.2.2.1, V.ref tr] none (some 3) = [V.int r.1, V.str r.2.1, V.str r.2.2.1] := cutV_to _ 3
    rw [e3] at f3
    refine k_turn h3 (by omega) ⟨?_, s2.trans s3, rfl⟩
    rw [map_take1 waD hr']
    exact (da.up s3 _ _).snoc (.tup f3 (.cons (.int _) (.cons (.str _) (.cons (.str _) .nil))))
  rintro acc F8 O8 D8 H8 ⟨da, s8, rfl⟩ h8
  rw [hul, List.take_length] at da
  refine g_eqD (d := .list (rows.map waD)) (e := .list (rows.map waD)) (.lst (h8.same _ _ (s8 _ _ hp7)) ((dw7.up s8 _ _).up h8.same _ _)) (.lst (h8.get (List.Mem.head _)) (da.up h8.same _ _)) (shw.ok (by decide)) (shw.ok (by decide)) ?_
  rw [SeqAt.eqv_refl _ shw.1]
  exact q H8 (s06.trans (s7.trans (s8.trans h8.same)))
def sp_l_shows (T : Txt K mg) : Sp := fun vs H Q _ => ∃ (a dx d rw_ : Addr) (kvs : List (Key × V)) (us : List V) (rows : List Row) (n : Int), vs = [.ref a, .ref rw_] ∧ NetAt T H a dx d kvs n ∧ NetOk H kvs rows n ∧ H rw_ = some (.lst us) ∧ DqAll H us (rows.map rowT) ∧
  ∀ H', Same H H' → Q (.bl true) H'
theorem sp_l_shows_len {T : Txt K mg} {vs H Q E} (h : sp_l_shows T vs H Q E) : vs.length = 2 := by
  obtain ⟨_, _, _, _, _, _, _, _, rfl, _⟩ := h
  rfl
theorem ok_l_shows (T : Txt K mg) : FnOk P w K mg base CX0 4 T.f_l_shows T.fd_l_shows ["net", "rows"] (sp_l_shows T) := by
  refine T.F_l_shows.ok sc_l_shows (fun vs H Q E h => sp_l_shows_len h) (fun cdv A outer s H vs Q E hr h => ?_)
  refine ⟨_, (pss_cons (ps_if (pt_not (pt_val (pe_call (ok_l_lists T) (hr.mono (by decide)) (by rfl) T.g_l_lists T.F_l_lists.kp T.b_l_lists .nil pass0 (pa_cons (pv 0) (pa_cons (pv 1) pa_nil))))) (pss_one (ps_ret pe_bl)) pss_nil)
      (pss_cons (ps_for PassesOwn.never rfl (k_il K (pi_list (pv 1))) (pg_name (i := 2) sc_l_shows.nd rfl (.inl rfl)) (pss_cons (ps_set (i := 3) sc_l_shows.nd rfl (.inl rfl) (pe_methW (pv 0) T.cl_Net T.M_Net_look (ok_Net_look T) (hr.mono (by decide)) T.b_Net_look passNS (pa_cons (pe_ix (ix_K K (hu_of hr)) (pv 2) pe_int (fun _ _ => rfl)) pa_nil)))
      (pss_cons (ps_if (pt_not (pt_val (pe_call (ok_l_same T) (hr.mono (by decide)) (by rfl) T.g_l_same T.F_l_same.kp T.b_l_same .nil pass0 (pa_cons (pv 3) (pa_cons (pv 2) pa_nil))))) (pss_one (ps_ret pe_bl)) pss_nil)
      (pss_cons (ps_expr (k_bm K (pe_bm PySem.F.plainAttrs_list PySem.F.slot_list_append PySem.F.type_list_append mt_append (pe_ix (ix_K K (hu_of hr)) (pv 3) pe_int (fun _ _ => rfl)) (pa_cons pe_str pa_nil))))
      (pss_one (ps_if (pt_not (pt_val (pe_call (ok_l_same T) (hr.mono (by decide)) (by rfl) T.g_l_same T.F_l_same.kp T.b_l_same .nil pass0 (pa_cons (pe_methW (pv 0) T.cl_Net T.M_Net_look (ok_Net_look T) (hr.mono (by decide)) T.b_Net_look passNS (pa_cons (pe_ix (ix_K K (hu_of hr)) (pv 2) pe_int (fun _ _ => rfl)) pa_nil)) (pa_cons (pv 2) pa_nil))))) (pss_one (ps_ret pe_bl)) pss_nil))))))
      (pss_one (ps_ret pe_bl)))), ?_⟩
  obtain ⟨a, dx, d, rw_, kvs, us, rows, n, rfl, at_, ok, hr, du, q⟩ := h
  have hH := Has.start H
  refine g_start (σ' := [some (.ref a), some (.ref rw_), none, none]) rfl ?_
  have hul : us.length = rows.length := by rw [du.len, List.length_map]
  walk_at "gg"
  refine ⟨a, dx, d, rw_, kvs, us, rows, n, rfl, at_, ok, hr, du, fun H1 s1 => ?_⟩
  have h1 := hH.on s1
  walk_at "gg"
  refine k_forL (by walk_at "h") (fun i σ H' => ∃ (y2 y3 : Option V), σ = [some (.ref a), some (.ref rw_), y2, y3] ∧ Has H [] H') ⟨_, _, rfl, h1⟩ ?_ ?_ ?_
  · rintro i σ H2 _ ⟨_, _, _, h2⟩
    exact h2.same _ _ hr
  · rintro i x σ H2 hx ⟨y2, y3, rfl, h2⟩
    obtain ⟨d', hd', dx'⟩ := du.get hx
    rw [List.getElem?_map] at hd'
    obtain ⟨r, hr', rfl⟩ := Option.map_eq_some_iff.mp hd'
    obtain ⟨t, tr, rfl, ht, htr⟩ := rowT_at dx'
    have hf : fnd rows r.1 = some r := find_self ok.up hr'
    have okr := (ok.ok r (List.mem_of_getElem? hr')).2
    walk_at "gg"
    refine g_kmeth (h2.same _ _ at_.1) rfl ?_
    walk_at "gg"
    refine g_ixT (v := .int r.1) (by walk_at "h") (atI_nat (j := 0) rfl) ?_
    walk_at "gg"
    refine ⟨a, dx, d, kvs, rows, n, r.1, rfl, ⟨h2.same _ _ at_.1, h2.same _ _ at_.2⟩, ok.mono h2.same, fun r' hf' p l H3 s3 np nl ne hp hl => ?_, fun hf' => by rw [hf] at hf'; cases hf'⟩
    rw [hf] at hf'
    cases hf'
    have h3 := h2.made2 np nl s3 hp hl ne
    walk_at "gg"
    refine ⟨p, l, t, tr, r, rfl, hp, hl, by walk_at "h", by walk_at "h", okr, fun H4 s4 => ?_⟩
    have h4 := h3.on s4
    walk_at "gg"
    refine g_ixT (v := .ref l) (by walk_at "h") (atI_nat (j := 2) rfl) ?_
    walk_at "gg"
    have okl := okr.2.2.2
    refine g_append h4 (by walk_at "c") (szl (by rw [List.length_map]; omega)) (fun H5 h5 => ?_)
    walk_at "gg"
    refine g_kmeth (h5.same _ _ at_.1) rfl ?_
    walk_at "gg"
    refine g_ixT (v := .int r.1) (h5.same _ _ ht) (atI_nat (j := 0) rfl) ?_
    walk_at "gg"
    refine ⟨a, dx, d, kvs, rows, n, r.1, rfl, ⟨h5.same _ _ at_.1, h5.same _ _ at_.2⟩, ok.mono h5.same, fun r' hf' p6 l6 H6 s6 np6 nl6 ne6 hp6 hl6 => ?_, fun hf' => by rw [hf] at hf'; cases hf'⟩
    rw [hf] at hf'
    cases hf'
    have h6 := h5.on s6
    walk_at "gg"
    refine ⟨p6, l6, t, tr, r, rfl, hp6, hl6, h6.same _ _ ht, h6.same _ _ htr, okr, fun H7 s7 => ?_⟩
    have h7 := h6.on s7
    walk_at "gg"
    exact ⟨_, _, rfl, h7.sub (List.nil_sublist _)⟩
  · rintro σ H2 ⟨y2, y3, rfl, h2⟩
    walk_at "gg"
    exact q H2 h2.same
end

end K86

namespace K86
open PySem PySem.Spec PyProof.Rows L2 Qk
local macro_rules | `(tactic| walk_at "m") => `(tactic| ((repeat (first | exact List.Mem.head _ | apply List.Mem.tail)); done))
local macro_rules | `(tactic| walk_at "h") => `(tactic| first | assumption | exact Has.gF (by assumption) (by assumption) | exact Has.get (by assumption) (by walk_at "m"))
local macro_rules | `(tactic| walk_at "c") => `(tactic| ((repeat (first | exact Chg.hd | apply Chg.tl)); done))
local macro_rules | `(tactic| walk_at "is") => `(tactic| first
  | ((with_reducible refine' is2_non ?gh ?_); (case gh => walk_at "h"))
  | (with_reducible refine is_int_list ?_)
  | (with_reducible refine is_int_tuple ?_)
  | (with_reducible refine is_int_dict ?_)
  | (with_reducible refine is_int_int ?_)
  | (with_reducible refine is_int_bool ?_)
  | (with_reducible refine is_int_str ?_)
  | ((with_reducible refine' is2_int ?gh ?_); (case gh => walk_at "h"))
  | (with_reducible refine is_str_list ?_)
  | (with_reducible refine is_str_tuple ?_)
  | (with_reducible refine is_str_dict ?_)
  | (with_reducible refine is_str_int ?_)
  | (with_reducible refine is_str_bool ?_)
  | (with_reducible refine is_str_str ?_)
  | ((with_reducible refine' is2_str ?gh ?_); (case gh => walk_at "h"))
  | (with_reducible refine is_bool_list ?_)
  | (with_reducible refine is_bool_tuple ?_)
  | (with_reducible refine is_bool_dict ?_)
  | (with_reducible refine is_bool_int ?_)
  | (with_reducible refine is_bool_bool ?_)
  | (with_reducible refine is_bool_str ?_)
  | ((with_reducible refine' is2_bool ?gh ?_); (case gh => walk_at "h"))
  | ((with_reducible refine' is_list_list ?gh ?_); (case gh => walk_at "h"))
  | ((with_reducible refine' is_list_tuple ?gh ?_); (case gh => walk_at "h"))
  | ((with_reducible refine' is_list_dict ?gh ?_); (case gh => walk_at "h"))
  | ((with_reducible refine' is_list_int ?gh ?_); (case gh => walk_at "h"))
  | ((with_reducible refine' is_list_bool ?gh ?_); (case gh => walk_at "h"))
  | ((with_reducible refine' is_list_str ?gh ?_); (case gh => walk_at "h"))
  | ((with_reducible refine' is2_list ?ga ?gb ?_); (case ga => walk_at "h"); (case gb => walk_at "h"))
  | ((with_reducible refine' is_tuple_list ?gh ?_); (case gh => walk_at "h"))
  | ((with_reducible refine' is_tuple_tuple ?gh ?_); (case gh => walk_at "h"))
  | ((with_reducible refine' is_tuple_dict ?gh ?_); (case gh => walk_at "h"))
  | ((with_reducible refine' is_tuple_int ?gh ?_); (case gh => walk_at "h"))
  | ((with_reducible refine' is_tuple_bool ?gh ?_); (case gh => walk_at "h"))
  | ((with_reducible refine' is_tuple_str ?gh ?_); (case gh => walk_at "h"))
  | ((with_reducible refine' is2_tuple ?ga ?gb ?_); (case ga => walk_at "h"); (case gb => walk_at "h"))
  | ((with_reducible refine' is_dict_list ?gh ?_); (case gh => walk_at "h"))
  | ((with_reducible refine' is_dict_tuple ?gh ?_); (case gh => walk_at "h"))
  | ((with_reducible refine' is_dict_dict ?gh ?_); (case gh => walk_at "h"))
  | ((with_reducible refine' is_dict_int ?gh ?_); (case gh => walk_at "h"))
  | ((with_reducible refine' is_dict_bool ?gh ?_); (case gh => walk_at "h"))
  | ((with_reducible refine' is_dict_str ?gh ?_); (case gh => walk_at "h"))
  | ((with_reducible refine' is2_dict ?ga ?gb ?_); (case ga => walk_at "h"); (case gb => walk_at "h")))
local macro_rules | `(tactic| walk_at "g") => `(tactic| first
  | (with_reducible refine g_seq ?_)
  | (with_reducible refine g_asg ?_)
  | ((with_reducible refine g_name ?_); dsimp only [List.set, wipe, List.map])
  | ((with_reducible refine' g_var ?gv ?_); (case gv => exact rfl))
  | (with_reducible refine g_c ?_)
  | (with_reducible refine g_op ?_)
  | (with_reducible refine g_cons ?_)
  | (with_reducible refine g_nil ?_)
  | (with_reducible refine g_cb ?_)
  | (with_reducible refine g_call ?_)
  | (with_reducible refine g_tup ?_)
  | (with_reducible refine g_lst ?_)
  | (with_reducible refine g_bm ?_)
  | (with_reducible refine g_bm0 ?_)
  | ((with_reducible refine' g_kbm ?gh ?_); (case gh => walk_at "h"))
  | (with_reducible refine g_drop ?_)
  | (with_reducible refine g_ret ?_)
  | (with_reducible refine g_retN ?_)
  | (with_reducible refine g_next ?_)
  | (with_reducible refine g_brk ?_)
  | (with_reducible refine g_cont ?_)
  | (with_reducible refine g_if ?_)
  | ((with_reducible refine' g_aug ?gv ?_); (case gv => exact rfl))
  | (with_reducible refine g_ipI ?_)
  | (with_reducible refine g_test ?_)
  | (with_reducible refine g_tB ?_)
  | (with_reducible refine g_kB ?_)
  | (with_reducible refine g_not ?_)
  | (with_reducible refine g_and ?_)
  | (with_reducible refine g_or ?_)
  | (with_reducible refine g_andV ?_)
  | (with_reducible refine g_orV ?_)
  | (with_reducible refine g_notV ?_)
  | (with_reducible refine g_ifE ?_)
  | (with_reducible refine g_addI ?_)
  | (with_reducible refine g_rI0 ?_)
  | (with_reducible refine g_eqI ?_)
  | (with_reducible refine g_eqS ?_)
  | (with_reducible refine g_neI ?_)
  | (with_reducible refine g_neS ?_)
  | (with_reducible refine g_isN ?_)
  | (with_reducible refine g_notN ?_)
  | (with_reducible refine g_int ?_)
  | (with_reducible refine g_max2 ?_)
  | ((with_reducible refine' g_lenL ?gh ?_); (case gh => walk_at "h"))
  | (with_reducible refine g_sub ?_)
  | (with_reducible refine g_gcons ?_)
  | (with_reducible refine g_gnil ?_)
  | (with_reducible refine g_un ?_)
  | (with_reducible refine g_rU ?_)
  | (with_reducible refine g_forL ?_)
  | (with_reducible refine g_forR1 ?_)
  | (with_reducible refine g_forR2 ?_)
  | (with_reducible refine g_forR3 ?_)
  | (with_reducible refine g_lcL ?_)
  | (with_reducible refine g_lcR1 ?_)
  | (with_reducible refine g_lcR2 ?_)
  | (with_reducible refine g_slice ?_)
  | (with_reducible refine g_part ?_)
  | (with_reducible refine g_kOI ?_)
  | (with_reducible refine g_nopart ?_)
  | (with_reducible refine g_yes ?_)
  | ((with_reducible refine' g_wipe ?gv ?_); (case gv => exact rfl))
  | (with_reducible refine iteT ?_)
  | (with_reducible refine iteF ?_)
  | (with_reducible refine i_nf ?_)
  | (with_reducible refine i_nt ?_)
  | ((with_reducible refine' g_gtup ?gh ?gl ?_); (case gh => walk_at "h"); (case gl => exact rfl))
  | ((with_reducible refine' g_notinI ?gh ?_); (case gh => walk_at "h"))
  | ((with_reducible refine' g_inI ?gh ?_); (case gh => walk_at "h"))
  | ((with_reducible refine' g_kget2 ?gh ?_); (case gh => walk_at "h"))
  | ((with_reducible refine' g_kgotI ?gh ?_); (case gh => walk_at "h"))
  | (with_reducible refine g_tRev ?_)
  | (with_reducible refine g_neB ?_)
  | (with_reducible refine g_eqB ?_)
  | ((with_reducible refine' g_lenT ?gh ?_); (case gh => walk_at "h"))
  | (with_reducible refine g_star ?_)
  | ((with_reducible refine' g_kstarL ?gh ?_); (case gh => walk_at "h"))
  | ((with_reducible refine' g_kstarT ?gh ?_); (case gh => walk_at "h"))
  | (with_reducible refine g_tru ?_)
  | ((with_reducible refine' g_truL ?gh ?_); (case gh => walk_at "h"))
  | (with_reducible refine g_get2 ?_)
  | (with_reducible refine g_try ?_)
  | (with_reducible refine g_fld ?_)
  | (with_reducible refine g_sfld ?_)
  | (with_reducible refine g_meth ?_)
  | (with_reducible refine g_make ?_)
  | (with_reducible refine g_del ?_)
  | (with_reducible refine g_callS ?_)
  | (with_reducible refine g_raise ?_)
  | (with_reducible refine g_xf ?_)
  | walk_at "is")
local macro_rules | `(tactic| walk_at "gg") => `(tactic| repeat walk_at "g")
local macro_rules | `(tactic| walk_at "sz") => `(tactic| (refine sz ?_; simp only [List.length_cons, List.length_nil, List.length_map, List.length_append, List.length_replicate]; omega))
local macro_rules | `(tactic| walk_at "sub") => `(tactic| ((repeat (first | exact List.Sublist.slnil | with_reducible apply List.Sublist.cons_cons | with_reducible apply List.Sublist.cons)); done))

/-! ### ask, right, left -/
def lft (word : Str) (rows : List Row) (r : Row) (n : Int) : List Row := if word = "look" then rows else if word = "double" then rows ++ [(n + 1, r.2)] else rows.filter fun s => decide (s.1 ≠ r.1)
def nxt (word : Str) (n : Int) : Int := if word = "double" then n + 1 else n
def ToldIs (word : Str) (r : Row) (n : Int) (v : V) (X : Own) : Prop :=
  ((word = "look" ∨ word = "deliver") ∧ ∃ q l, v = .ref q ∧ X = [(q, .tup [.str r.2.1, .str r.2.2.1, .ref l]), (l, .lst (r.2.2.2.map V.str))]) ∨ (word = "double" ∧ v = .int (n + 1) ∧ X = []) ∨ (word ≠ "look" ∧ word ≠ "deliver" ∧ word ≠ "double" ∧ v = .non ∧ X = [])
section
variable {P : Program} {w : World} {K : PySem.W.Frag} {mg : Str → Option Value} {base : Heap}
theorem netO_new {T : Txt K mg} {H : Hp} {a dx d : Addr} {kvs kvs' : List (Key × V)} {n n' : Int} {X : Own} (hX : ∀ x ∈ X, H x.1 = none) : ∀ x ∈ X ++ NetO T a dx d kvs' n', x.1 ∈ (NetO T a dx d kvs n).map (·.1) ∨ H x.1 = none := fun x hx => by
  rcases List.mem_append.mp hx with hx | hx
  · exact .inr (hX x hx)
  · exact netO_addr x hx
theorem netO_addr' {T : Txt K mg} {a dx d : Addr} {kvs kvs' : List (Key × V)} {n n' : Int} {X : Own} : ∀ q ∈ NetO T a dx d kvs n, q.1 ∈ (X ++ NetO T a dx d kvs' n').map (·.1) := fun q hq => by
  rw [List.map_append]
  simp only [NetO, List.mem_cons, List.not_mem_nil, or_false] at hq
  rcases hq with rfl | rfl | rfl <;> exact List.mem_append_right _ (by simp [NetO])
def sp_l_ask (T : Txt K mg) : Sp := fun vs H Q _ => ∃ (a dx d : Addr) (F : Hp) (kvs : List (Key × V)) (rows : List Row) (n k : Int) (word : Str), vs = [.ref a, .str word, .int k] ∧ Has F (NetO T a dx d kvs n) H ∧ NetOk F kvs rows n ∧ rows.length < 40 ∧
  (∀ r, fnd rows k = some r → ∀ p H' F' kvs' v X, H p = none → (∀ x ∈ X, H x.1 = none) → ButA (NetO T a dx d kvs n) H H' → Grow F H F' → Has F' ((p, .tup [.str "told", v]) :: (X ++ NetO T a dx d kvs' (nxt word n))) H' →
    NetOk F' kvs' (lft word rows r n) (nxt word n) → ToldIs word r n v X → Q (.ref p) H') ∧
  (fnd rows k = none → ∀ p H', Same H H' → H p = none → H' p = some (.tup [.str "none", .bl true]) → Q (.ref p) H')
theorem sp_l_ask_len {T : Txt K mg} {vs H Q E} (h : sp_l_ask T vs H Q E) : vs.length = 3 := by
  obtain ⟨_, _, _, _, _, _, _, _, _, rfl, _⟩ := h
  rfl
theorem nw_ld : ¬ ("deliver" : Str) = "look" := by decide +kernel
theorem nw_lb : ¬ ("double" : Str) = "look" := by decide +kernel
theorem nw_db : ¬ ("double" : Str) = "deliver" := by decide +kernel
theorem nw_dd : ¬ ("deliver" : Str) = "double" := by decide +kernel
theorem nw_ldb : ¬ ("look" : Str) = "double" := by decide +kernel
theorem ok_l_ask (T : Txt K mg) : FnOk P w K mg base CX0 5 T.f_l_ask T.fd_l_ask ["net", "word", "serial"] (sp_l_ask T) := by
  refine T.F_l_ask.ok sc_l_ask (fun vs H Q E h => sp_l_ask_len h) (fun cdv A outer s H vs Q E hr h => ?_)
  refine ⟨_, (pss_one (k_try K (i := 3) (Wout := fun _ _ _ _ => False) rfl rfl sc_l_ask.nd rfl rfl ⟨rfl, by decide, Or.inl T.g_NoLetter⟩ takesN (fun W pn xe tk hown => (pss_cons (ps_if (pt_cmpR (op_eqK K hr.units) (pv 1) pe_str (nomark _)) (pss_one (ps_ret (pe_tup (pa_cons pe_str (pa_cons (pe_methW (pv 0) T.cl_Net T.M_Net_look (ok_Net_look T) (hr.mono (by decide)) T.b_Net_look (fun σ => L2N.passAt tk σ) (pa_cons (pv 2) pa_nil)) pa_nil))))) pss_nil)
      (pss_cons (ps_if (pt_cmpR (op_eqK K hr.units) (pv 1) pe_str (nomark _)) (pss_one (ps_ret (pe_tup (pa_cons pe_str (pa_cons (pe_methW (pv 0) T.cl_Net T.M_Net_deliver (ok_Net_deliver T) (hr.mono (by decide)) T.b_Net_deliver (fun σ => L2N.passAt tk σ) (pa_cons (pv 2) pa_nil)) pa_nil))))) pss_nil)
      (pss_cons (ps_if (pt_cmpR (op_eqK K hr.units) (pv 1) pe_str (nomark _)) (pss_one (ps_ret (pe_tup (pa_cons pe_str (pa_cons (pe_methW (pv 0) T.cl_Net T.M_Net_double (ok_Net_double T) (hr.mono (by decide)) T.b_Net_double (fun σ => L2N.passAt tk σ) (pa_cons (pv 2) pa_nil)) pa_nil))))) pss_nil)
      (pss_one (ps_ret (pe_tup (pa_cons pe_str (pa_cons (pe_methW (pv 0) T.cl_Net T.M_Net_lose (ok_Net_lose T) (hr.mono (by decide)) T.b_Net_lose (fun σ => L2N.passAt tk σ) (pa_cons (pv 2) pa_nil)) pa_nil))))))))) (fun a oe cls d pn hz hf => (pss_cons (ps_set (i := 4) sc_l_ask.nd rfl (.inl rfl) (pe_and (pe_callB (cr_isX K hz hf) (by rfl) T.m_isinstance (by decide +kernel) (pa_cons (pv 3) (pa_cons (pe_gc (v := .ref T.C_PartError) (by rfl) ⟨_, T.g_PartError, rfl⟩) pa_nil))) (pe_one (pe_callB (cr_isX K hz hf) (by rfl) T.m_isinstance (by decide +kernel) (pa_cons (pv 3) (pa_cons (pe_bltn (v := .ty "ValueError") (by rfl) T.m_ValueError (by decide +kernel) rfl) pa_nil))))))
      (pss_one (ps_ret (pe_tup (pa_cons pe_str (pa_cons (pe_and (pv 4) (pe_one (L2H.pe_callH (E := fun _ => E0) (ok_l_int_h T) (roomS hr (by decide)) (hot_suite hz hf) (by rfl) T.g_l_int T.F_l_int.kp T.b_l_int (fun _ _ _ _ _ _ _ h => h.elim) (pa_cons (pe_xfA K hz hf (pv 3)) (pa_cons (pv 2) pa_nil))))) pa_nil))))))))), ?_⟩
  obtain ⟨a, dx, d, F, kvs, rows, n, k, word, rfl, hH, ok, few, q, qn⟩ := h
  refine g_start (σ' := [some (.ref a), some (.str word), some (.int k), none, none]) rfl ?_
  have hr := hH.re
  have hat := netAt0 hH
  walk_at "gg"
  refine i_d (fun z => ?_) (fun z1 => ?_)
  · subst z
    walk_at "gg"
    refine g_kmeth hat.1 rfl ?_
    walk_at "gg"
    refine ⟨a, dx, d, kvs, rows, n, k, rfl, hat, ok.mono hH.same, fun r hf p l H1 s1 np nl ne hp hl => ?_, fun hf e H1 s1 ne he => ?_⟩
    · have h1 := hr.made2 np nl s1 hp hl ne
      walk_at "gg"
      refine g_ktup (by walk_at "sz") h1 (fun p2 H2 n2 h2 => ?_)
      exact q r hf p2 H2 F kvs (.ref p) [(p, .tup [.str r.2.1, .str r.2.2.1, .ref l]), (l, .lst (r.2.2.2.map V.str))] (s1.free n2) (fun x hx => by
        simp only [List.mem_cons, List.not_mem_nil, or_false] at hx
        rcases hx with rfl | rfl
        · exact np
        · exact nl) (mix_but hH (Same.refl _) h2) Grow.refl (by unfold nxt; rw [if_neg nw_ldb]; exact h2.mono hH.reF) (by unfold nxt lft; rw [if_neg nw_ldb, if_pos rfl]; exact ok) (.inl ⟨.inl rfl, p, l, rfl, rfl⟩)
    · refine g_caught T.M_NoLetter_NoLetter (fun ex nx => ?_)
      have h1 := (Has.start H).made ne s1 he
      walk_at "gg"
      refine g_isX T.IS_NoLetter (by walk_at "h") T.K_NoLetter_PartError ?_
      walk_at "gg"
      refine g_isXT T.IS_NoLetter (by walk_at "h") T.K_NoLetter_ValueError ?_
      walk_at "gg"
      refine g_kxf T.XF_NoLetter T.N_NoLetter_serial (by walk_at "h") rfl ?_
      walk_at "gg"
      refine ⟨_, _, rfl, ?_⟩
      rw [decide_eq_true rfl]
      walk_at "gg"
      refine g_ktup (by walk_at "sz") h1 (fun p2 H2 n2 h2 => ?_)
      exact qn hf p2 H2 h2.same (s1.free n2) (h2.get (List.Mem.head _))
  walk_at "gg"
  refine i_d (fun z => ?_) (fun z2 => ?_)
  · subst z
    walk_at "gg"
    refine g_kmeth hat.1 rfl ?_
    walk_at "gg"
    refine ⟨a, dx, d, F, kvs, rows, n, k, rfl, hH, ok, fun r hf p l H1 kvs' np nl hb h1 ok' => ?_, fun hf e H1 s1 ne he => ?_⟩
    · have hX : ∀ x ∈ ([(p, .tup [.str r.2.1, .str r.2.2.1, .ref l]), (l, .lst (r.2.2.2.map V.str))] : Own), H x.1 = none := fun x hx => by
        simp only [List.mem_cons, List.not_mem_nil, or_false] at hx
        rcases hx with rfl | rfl
        · exact np
        · exact nl
      have h1r := h1.re
      walk_at "gg"
      refine g_ktup (by walk_at "sz") h1r (fun p2 H2 n2 h2 => ?_)
      have hb2 := hb.step h1 (netO_new hX) h2
      exact q r hf p2 H2 F kvs' (.ref p) _ (newp hH hb h1 (netO_addr' (X := [(p, .tup [.str r.2.1, .str r.2.2.1, .ref l]), (l, .lst (r.2.2.2.map V.str))])) n2) hX hb2 Grow.refl (by unfold nxt; rw [if_neg nw_dd]; exact h2.mono h1.reF) (by unfold nxt lft; rw [if_neg nw_dd, if_neg nw_ld, if_neg nw_dd, (fnd_mem hf).2]; exact ok') (.inl ⟨.inr rfl, p, l, rfl, rfl⟩)
    · refine g_caught T.M_NoLetter_NoLetter (fun ex nx => ?_)
      have h1 := (Has.start H).made ne s1 he
      walk_at "gg"
      refine g_isX T.IS_NoLetter (by walk_at "h") T.K_NoLetter_PartError ?_
      walk_at "gg"
      refine g_isXT T.IS_NoLetter (by walk_at "h") T.K_NoLetter_ValueError ?_
      walk_at "gg"
      refine g_kxf T.XF_NoLetter T.N_NoLetter_serial (by walk_at "h") rfl ?_
      walk_at "gg"
      refine ⟨_, _, rfl, ?_⟩
      rw [decide_eq_true rfl]
      walk_at "gg"
      refine g_ktup (by walk_at "sz") h1 (fun p2 H2 n2 h2 => ?_)
      exact qn hf p2 H2 h2.same (s1.free n2) (h2.get (List.Mem.head _))
  walk_at "gg"
  refine i_d (fun z => ?_) (fun z3 => ?_)
  · subst z
    walk_at "gg"
    refine g_kmeth hat.1 rfl ?_
    walk_at "gg"
    refine ⟨a, dx, d, F, kvs, rows, n, k, rfl, hH, ok, few, fun r hf H1 F1 kvs' hb g h1 ok' => ?_, fun hf e H1 s1 ne he => ?_⟩
    · have hX : ∀ x ∈ ([] : Own), H x.1 = none := fun x hx => by cases hx
      have h1r := h1.re
      walk_at "gg"
      refine g_ktup (by walk_at "sz") h1r (fun p2 H2 n2 h2 => ?_)
      have hb2 := hb.step h1 (netO_new (X := []) hX) h2
      exact q r hf p2 H2 F1 kvs' (.int (n + 1)) [] (newp hH hb h1 (netO_addr' (X := [])) n2) hX hb2 g (by unfold nxt; rw [if_pos rfl]; exact h2.mono h1.reF) (by unfold nxt lft; rw [if_pos rfl, if_neg nw_lb, if_pos rfl]; exact ok') (.inr (.inl ⟨rfl, rfl, rfl⟩))
    · refine g_caught T.M_NoLetter_NoLetter (fun ex nx => ?_)
      have h1 := (Has.start H).made ne s1 he
      walk_at "gg"
      refine g_isX T.IS_NoLetter (by walk_at "h") T.K_NoLetter_PartError ?_
      walk_at "gg"
      refine g_isXT T.IS_NoLetter (by walk_at "h") T.K_NoLetter_ValueError ?_
      walk_at "gg"
      refine g_kxf T.XF_NoLetter T.N_NoLetter_serial (by walk_at "h") rfl ?_
      walk_at "gg"
      refine ⟨_, _, rfl, ?_⟩
      rw [decide_eq_true rfl]
      walk_at "gg"
      refine g_ktup (by walk_at "sz") h1 (fun p2 H2 n2 h2 => ?_)
      exact qn hf p2 H2 h2.same (s1.free n2) (h2.get (List.Mem.head _))
  walk_at "gg"
  refine g_kmeth hat.1 rfl ?_
  walk_at "gg"
  refine ⟨a, dx, d, F, kvs, rows, n, k, rfl, hH, ok, fun r hf H1 kvs' hb h1 ok' => ?_, fun hf e H1 s1 ne he => ?_⟩
  · have hX : ∀ x ∈ ([] : Own), H x.1 = none := fun x hx => by cases hx
    have h1r := h1.re
    walk_at "gg"
    refine g_ktup (by walk_at "sz") h1r (fun p2 H2 n2 h2 => ?_)
    have hb2 := hb.step h1 (netO_new (X := []) hX) h2
    exact q r hf p2 H2 F kvs' .non [] (newp hH hb h1 (netO_addr' (X := [])) n2) hX hb2 Grow.refl (by unfold nxt; rw [if_neg z3]; exact h2.mono h1.reF) (by unfold nxt lft; rw [if_neg z3, if_neg z1, if_neg z3, (fnd_mem hf).2]; exact ok') (.inr (.inr ⟨z1, z2, z3, rfl, rfl⟩))
  · refine g_caught T.M_NoLetter_NoLetter (fun ex nx => ?_)
    have h1 := (Has.start H).made ne s1 he
    walk_at "gg"
    refine g_isX T.IS_NoLetter (by walk_at "h") T.K_NoLetter_PartError ?_
    walk_at "gg"
    refine g_isXT T.IS_NoLetter (by walk_at "h") T.K_NoLetter_ValueError ?_
    walk_at "gg"
    refine g_kxf T.XF_NoLetter T.N_NoLetter_serial (by walk_at "h") rfl ?_
    walk_at "gg"
    refine ⟨_, _, rfl, ?_⟩
    rw [decide_eq_true rfl]
    walk_at "gg"
    refine g_ktup (by walk_at "sz") h1 (fun p2 H2 n2 h2 => ?_)
    exact qn hf p2 H2 h2.same (s1.free n2) (h2.get (List.Mem.head _))
end

end K86

namespace K86
open PySem PySem.Spec PyProof.Rows L2 Qk
local macro_rules | `(tactic| walk_at "m") => `(tactic| ((repeat (first | exact List.Mem.head _ | apply List.Mem.tail)); done))
local macro_rules | `(tactic| walk_at "h") => `(tactic| first | assumption | exact Has.gF (by assumption) (by assumption) | exact Has.get (by assumption) (by walk_at "m"))
local macro_rules | `(tactic| walk_at "c") => `(tactic| ((repeat (first | exact Chg.hd | apply Chg.tl)); done))
local macro_rules | `(tactic| walk_at "is") => `(tactic| first
  | ((with_reducible refine' is2_non ?gh ?_); (case gh => walk_at "h"))
  | (with_reducible refine is_int_list ?_)
  | (with_reducible refine is_int_tuple ?_)
  | (with_reducible refine is_int_dict ?_)
  | (with_reducible refine is_int_int ?_)
  | (with_reducible refine is_int_bool ?_)
  | (with_reducible refine is_int_str ?_)
  | ((with_reducible refine' is2_int ?gh ?_); (case gh => walk_at "h"))
  | (with_reducible refine is_str_list ?_)
  | (with_reducible refine is_str_tuple ?_)
  | (with_reducible refine is_str_dict ?_)
  | (with_reducible refine is_str_int ?_)
  | (with_reducible refine is_str_bool ?_)
  | (with_reducible refine is_str_str ?_)
  | ((with_reducible refine' is2_str ?gh ?_); (case gh => walk_at "h"))
  | (with_reducible refine is_bool_list ?_)
  | (with_reducible refine is_bool_tuple ?_)
  | (with_reducible refine is_bool_dict ?_)
  | (with_reducible refine is_bool_int ?_)
  | (with_reducible refine is_bool_bool ?_)
  | (with_reducible refine is_bool_str ?_)
  | ((with_reducible refine' is2_bool ?gh ?_); (case gh => walk_at "h"))
  | ((with_reducible refine' is_list_list ?gh ?_); (case gh => walk_at "h"))
  | ((with_reducible refine' is_list_tuple ?gh ?_); (case gh => walk_at "h"))
  | ((with_reducible refine' is_list_dict ?gh ?_); (case gh => walk_at "h"))
  | ((with_reducible refine' is_list_int ?gh ?_); (case gh => walk_at "h"))
  | ((with_reducible refine' is_list_bool ?gh ?_); (case gh => walk_at "h"))
  | ((with_reducible refine' is_list_str ?gh ?_); (case gh => walk_at "h"))
  | ((with_reducible refine' is2_list ?ga ?gb ?_); (case ga => walk_at "h"); (case gb => walk_at "h"))
  | ((with_reducible refine' is_tuple_list ?gh ?_); (case gh => walk_at "h"))
  | ((with_reducible refine' is_tuple_tuple ?gh ?_); (case gh => walk_at "h"))
  | ((with_reducible refine' is_tuple_dict ?gh ?_); (case gh => walk_at "h"))
  | ((with_reducible refine' is_tuple_int ?gh ?_); (case gh => walk_at "h"))
  | ((with_reducible refine' is_tuple_bool ?gh ?_); (case gh => walk_at "h"))
  | ((with_reducible refine' is_tuple_str ?gh ?_); (case gh => walk_at "h"))
  | ((with_reducible refine' is2_tuple ?ga ?gb ?_); (case ga => walk_at "h"); (case gb => walk_at "h"))
  | ((with_reducible refine' is_dict_list ?gh ?_); (case gh => walk_at "h"))
  | ((with_reducible refine' is_dict_tuple ?gh ?_); (case gh => walk_at "h"))
  | ((with_reducible refine' is_dict_dict ?gh ?_); (case gh => walk_at "h"))
  | ((with_reducible refine' is_dict_int ?gh ?_); (case gh => walk_at "h"))
  | ((with_reducible refine' is_dict_bool ?gh ?_); (case gh => walk_at "h"))
  | ((with_reducible refine' is_dict_str ?gh ?_); (case gh => walk_at "h"))
  | ((with_reducible refine' is2_dict ?ga ?gb ?_); (case ga => walk_at "h"); (case gb => walk_at "h")))
local macro_rules | `(tactic| walk_at "g") => `(tactic| first
  | (with_reducible refine g_seq ?_)
  | (with_reducible refine g_asg ?_)
  | ((with_reducible refine g_name ?_); dsimp only [List.set, wipe, List.map])
  | ((with_reducible refine' g_var ?gv ?_); (case gv => exact rfl))
  | (with_reducible refine g_c ?_)
  | (with_reducible refine g_op ?_)
  | (with_reducible refine g_cons ?_)
  | (with_reducible refine g_nil ?_)
  | (with_reducible refine g_cb ?_)
  | (with_reducible refine g_call ?_)
  | (with_reducible refine g_tup ?_)
  | (with_reducible refine g_lst ?_)
  | (with_reducible refine g_bm ?_)
  | (with_reducible refine g_bm0 ?_)
  | ((with_reducible refine' g_kbm ?gh ?_); (case gh => walk_at "h"))
  | (with_reducible refine g_drop ?_)
  | (with_reducible refine g_ret ?_)
  | (with_reducible refine g_retN ?_)
  | (with_reducible refine g_next ?_)
  | (with_reducible refine g_brk ?_)
  | (with_reducible refine g_cont ?_)
  | (with_reducible refine g_if ?_)
  | ((with_reducible refine' g_aug ?gv ?_); (case gv => exact rfl))
  | (with_reducible refine g_ipI ?_)
  | (with_reducible refine g_test ?_)
  | (with_reducible refine g_tB ?_)
  | (with_reducible refine g_kB ?_)
  | (with_reducible refine g_not ?_)
  | (with_reducible refine g_and ?_)
  | (with_reducible refine g_or ?_)
  | (with_reducible refine g_andV ?_)
  | (with_reducible refine g_orV ?_)
  | (with_reducible refine g_notV ?_)
  | (with_reducible refine g_ifE ?_)
  | (with_reducible refine g_addI ?_)
  | (with_reducible refine g_rI0 ?_)
  | (with_reducible refine g_eqI ?_)
  | (with_reducible refine g_eqS ?_)
  | (with_reducible refine g_neI ?_)
  | (with_reducible refine g_neS ?_)
  | (with_reducible refine g_isN ?_)
  | (with_reducible refine g_notN ?_)
  | (with_reducible refine g_int ?_)
  | (with_reducible refine g_max2 ?_)
  | ((with_reducible refine' g_lenL ?gh ?_); (case gh => walk_at "h"))
  | (with_reducible refine g_sub ?_)
  | (with_reducible refine g_gcons ?_)
  | (with_reducible refine g_gnil ?_)
  | (with_reducible refine g_un ?_)
  | (with_reducible refine g_rU ?_)
  | (with_reducible refine g_forL ?_)
  | (with_reducible refine g_forR1 ?_)
  | (with_reducible refine g_forR2 ?_)
  | (with_reducible refine g_forR3 ?_)
  | (with_reducible refine g_lcL ?_)
  | (with_reducible refine g_lcR1 ?_)
  | (with_reducible refine g_lcR2 ?_)
  | (with_reducible refine g_slice ?_)
  | (with_reducible refine g_part ?_)
  | (with_reducible refine g_kOI ?_)
  | (with_reducible refine g_nopart ?_)
  | (with_reducible refine g_yes ?_)
  | ((with_reducible refine' g_wipe ?gv ?_); (case gv => exact rfl))
  | (with_reducible refine iteT ?_)
  | (with_reducible refine iteF ?_)
  | (with_reducible refine i_nf ?_)
  | (with_reducible refine i_nt ?_)
  | ((with_reducible refine' g_gtup ?gh ?gl ?_); (case gh => walk_at "h"); (case gl => exact rfl))
  | ((with_reducible refine' g_notinI ?gh ?_); (case gh => walk_at "h"))
  | ((with_reducible refine' g_inI ?gh ?_); (case gh => walk_at "h"))
  | ((with_reducible refine' g_kget2 ?gh ?_); (case gh => walk_at "h"))
  | ((with_reducible refine' g_kgotI ?gh ?_); (case gh => walk_at "h"))
  | (with_reducible refine g_tRev ?_)
  | (with_reducible refine g_neB ?_)
  | (with_reducible refine g_eqB ?_)
  | ((with_reducible refine' g_lenT ?gh ?_); (case gh => walk_at "h"))
  | (with_reducible refine g_star ?_)
  | ((with_reducible refine' g_kstarL ?gh ?_); (case gh => walk_at "h"))
  | ((with_reducible refine' g_kstarT ?gh ?_); (case gh => walk_at "h"))
  | (with_reducible refine g_tru ?_)
  | ((with_reducible refine' g_truL ?gh ?_); (case gh => walk_at "h"))
  | (with_reducible refine g_get2 ?_)
  | (with_reducible refine g_try ?_)
  | (with_reducible refine g_fld ?_)
  | (with_reducible refine g_sfld ?_)
  | (with_reducible refine g_meth ?_)
  | (with_reducible refine g_make ?_)
  | (with_reducible refine g_del ?_)
  | (with_reducible refine g_callS ?_)
  | (with_reducible refine g_raise ?_)
  | (with_reducible refine g_xf ?_)
  | walk_at "is")
local macro_rules | `(tactic| walk_at "gg") => `(tactic| repeat walk_at "g")
local macro_rules | `(tactic| walk_at "sz") => `(tactic| (refine sz ?_; simp only [List.length_cons, List.length_nil, List.length_map, List.length_append, List.length_replicate]; omega))
local macro_rules | `(tactic| walk_at "sub") => `(tactic| ((repeat (first | exact List.Sublist.slnil | with_reducible apply List.Sublist.cons_cons | with_reducible apply List.Sublist.cons)); done))

/-! ### right, left, sent -/
def FoundAt (H : Hp) (fo : Addr) : Option Row → Prop
  | none => H fo = some (.lst [])
  | some r => ∃ t tr, H fo = some (.lst [.ref t]) ∧ H t = some (.tup [.int r.1, .str r.2.1, .str r.2.2.1, .ref tr]) ∧ H tr = some (.tup (r.2.2.2.map V.str))
theorem FoundAt.up {H H' : Hp} {fo : Addr} {ro : Option Row} (h : FoundAt H fo ro) (s : Same H H') : FoundAt H' fo ro := by
  cases ro with
  | none => exact s _ _ h
  | some r =>
    obtain ⟨t, tr, h1, h2, h3⟩ := h
    exact ⟨t, tr, s _ _ h1, s _ _ h2, s _ _ h3⟩
def TellAt (H : Hp) (p : Addr) (word : Str) (n : Int) : Option Row → Prop
  | none => H p = some (.tup [.str "none", .bl true])
  | some r => ∃ v, H p = some (.tup [.str "told", v]) ∧ (((word = "look" ∨ word = "deliver") ∧ ∃ q l, v = .ref q ∧ H q = some (.tup [.str r.2.1, .str r.2.2.1, .ref l]) ∧ H l = some (.lst (r.2.2.2.map V.str))) ∨ (word = "double" ∧ v = .int (n + 1)) ∨ (word = "lose" ∧ v = .non))
section
variable {P : Program} {w : World} {K : PySem.W.Frag} {mg : Str → Option Value} {base : Heap}
theorem rowT_mk {F : Hp} {t tr : Addr} {r : Row} (ht : F t = some (.tup [.int r.1, .str r.2.1, .str r.2.2.1, .ref tr])) (htr : F tr = some (.tup (r.2.2.2.map V.str))) : Dq F (.ref t) (rowT r) := .tup ht (.cons (.int _) (.cons (.str _) (.cons (.str _) (.cons (dq_tS htr) .nil))))
/-- found == [] -/
theorem found_nil {K : PySem.W.Frag} {H : Hp} {fo p : Addr} {ro : Option Row} {Q : VK} (h : FoundAt H fo ro) (hp : H p = some (.lst [])) (ok : ∀ r, ro = some r → okR r) (q : Q (.bl ro.isNone) H) : rEqA K (.ref fo) (.ref p) H Q := by
  cases ro with
  | none =>
    refine g_eqD (d := .list []) (e := .list []) (.lst h .nil) (.lst hp .nil) (sh_nil.ok (n := 1) (by decide)) (sh_nil.ok (n := 1) (by decide)) ?_
    rw [eqv_nil]
    exact q
  | some r =>
    obtain ⟨t, tr, h1, h2, h3⟩ := h
    refine g_eqD (d := .list ([r].map rowT)) (e := .list []) (.lst h1 (.cons (rowT_mk h2 h3) .nil)) (.lst hp .nil) ((sh_rows fun x hx => by rw [List.mem_singleton.mp hx]; exact ok r rfl).ok (by decide)) (sh_nil.ok (n := 1) (by decide)) ?_
    rw [eqv_nil]
    exact q
def nonD : PyData := .tuple [.str "none", .bool true]
theorem sh_nonD : Sh 1 nonD := Sh.tuple fun d hd => by
  simp only [List.mem_cons, List.not_mem_nil, or_false] at hd
  rcases hd with rfl | rfl
  · exact Sh.str (by decide +kernel)
  · exact Sh.bl _
def sp_l_right (T : Txt K mg) : Sp := fun vs H Q _ => ∃ (p fo : Addr) (word : Str) (n : Int) (ro : Option Row), vs = [.ref p, .str word, .ref fo, .int n] ∧ FoundAt H fo ro ∧ TellAt H p word n ro ∧ (∀ r, ro = some r → okR r) ∧ ∀ H', Same H H' → Q (.bl true) H'
theorem sp_l_right_len {T : Txt K mg} {vs H Q E} (h : sp_l_right T vs H Q E) : vs.length = 4 := by
  obtain ⟨_, _, _, _, _, rfl, _⟩ := h
  rfl
theorem ok_l_right (T : Txt K mg) : FnOk P w K mg base CX0 2 T.f_l_right T.fd_l_right ["told", "word", "found", "last"] (sp_l_right T) := by
  refine T.F_l_right.ok sc_l_right (fun vs H Q E h => sp_l_right_len h) (fun cdv A outer s H vs Q E hr h => ?_)
  refine ⟨_, (pss_cons (ps_if (pt_cmpR (op_eqK K hr.units) (pv 2) (pe_lst pa_nil) (nomark _)) (pss_one (ps_ret (pe_cmpR (op_eqK K hr.units) (pv 0) (pe_tup (pa_cons pe_str (pa_cons pe_bl pa_nil))) (nomark _)))) pss_nil)
      (pss_cons (ps_if (pt_cmpR (op_neK K hr.units) (pe_ix (ix_K K (hu_of hr)) (pv 0) pe_int (fun _ _ => rfl)) pe_str (nomark _)) (pss_one (ps_ret pe_bl)) pss_nil)
      (pss_cons (ps_if (pt_cmpR (op_eqK K hr.units) (pv 1) pe_str (nomark _)) (pss_one (ps_ret (pe_call (ok_l_int T) (hr.mono (by decide)) (by rfl) T.g_l_int T.F_l_int.kp T.b_l_int .nil pass0 (pa_cons (pe_ix (ix_K K (hu_of hr)) (pv 0) pe_int (fun _ _ => rfl)) (pa_cons (pe_op (op_addK K) (pv 3) pe_int) pa_nil))))) pss_nil)
      (pss_cons (ps_if (pt_cmpR (op_eqK K hr.units) (pv 1) pe_str (nomark _)) (pss_one (ps_ret (pe_cmpR op_isNA (pe_ix (ix_K K (hu_of hr)) (pv 0) pe_int (fun _ _ => rfl)) pe_non (nomark _)))) pss_nil)
      (pss_one (ps_ret (pe_call (ok_l_same T) (hr.mono (by decide)) (by rfl) T.g_l_same T.F_l_same.kp T.b_l_same .nil pass0 (pa_cons (pe_ix (ix_K K (hu_of hr)) (pv 0) pe_int (fun _ _ => rfl)) (pa_cons (pe_ix (ix_K K (hu_of hr)) (pv 2) pe_int (fun _ _ => rfl)) pa_nil))))))))), ?_⟩
  obtain ⟨p, fo, word, n, ro, rfl, hf, ht, ok, q⟩ := h
  have hH := Has.start H
  refine g_start (σ' := [some (.ref p), some (.str word), some (.ref fo), some (.int n)]) rfl ?_
  walk_at "gg"
  refine g_klst (by walk_at "sz") hH (fun p1 H1 n1 h1 => ?_)
  refine found_nil (hf.up h1.same) (h1.get (List.Mem.head _)) ok ?_
  have h1 := h1.drop
  cases ro with
  | none =>
    rw [show (none : Option Row).isNone = true from rfl]
    walk_at "gg"
    refine g_ktup (by walk_at "sz") h1 (fun p2 H2 n2 h2 => ?_)
    refine g_eqD (d := nonD) (e := nonD) (.tup (h2.same _ _ ht) (.cons (.str _) (.cons (.bl _) .nil))) (.tup (h2.get (List.Mem.head _)) (.cons (.str _) (.cons (.bl _) .nil))) (sh_nonD.ok (by decide)) (sh_nonD.ok (by decide)) ?_
    rw [SeqAt.eqv_refl _ sh_nonD.1]
    exact q H2 h2.same
  | some r =>
    rw [show (some r : Option Row).isNone = false from rfl]
    obtain ⟨v, hp, hv⟩ := ht
    obtain ⟨t, tr, f1, f2, f3⟩ := hf
    walk_at "gg"
    refine g_ixT (v := .str "told") (by walk_at "h") (atI_nat (j := 0) rfl) ?_
    walk_at "gg"
    refine i_n (fun z => (z rfl).elim) (fun _ => ?_)
    walk_at "gg"
    refine i_d (fun z => ?_) (fun z => ?_)
    · subst z
      rcases hv with ⟨h, _⟩ | ⟨_, rfl⟩ | ⟨h, _⟩
      · rcases h with h | h
        · exact (nw_lb h).elim
        · exact (nw_db h).elim
      · walk_at "gg"
        refine g_ixT (v := .int (n + 1)) (by walk_at "h") (atI_nat (j := 1) rfl) ?_
        walk_at "gg"
        refine ⟨_, _, rfl, ?_⟩
        rw [decide_eq_true rfl]
        exact q H1 h1.same
      · exact absurd h (by decide +kernel)
    walk_at "gg"
    refine i_d (fun z2 => ?_) (fun z2 => ?_)
    · subst z2
      rcases hv with ⟨h, _⟩ | ⟨h, _⟩ | ⟨_, rfl⟩
      · rcases h with h | h
        · exact absurd h (by decide +kernel)
        · exact absurd h (by decide +kernel)
      · exact (z h).elim
      · walk_at "gg"
        refine g_ixT (v := .non) (by walk_at "h") (atI_nat (j := 1) rfl) ?_
        walk_at "gg"
        rw [decide_eq_true rfl]
        exact q H1 h1.same
    · rcases hv with ⟨_, q', l, rfl, hq, hl⟩ | ⟨h, _⟩ | ⟨h, _⟩
      · walk_at "gg"
        refine g_ixT (v := .ref q') (by walk_at "h") (atI_nat (j := 1) rfl) ?_
        walk_at "gg"
        refine g_ixL (v := .ref t) (by walk_at "h") (atI_nat (j := 0) rfl) ?_
        walk_at "gg"
        exact ⟨q', l, t, tr, r, rfl, by walk_at "h", by walk_at "h", by walk_at "h", by walk_at "h", ok r rfl, fun H3 s3 => q H3 (h1.same.trans s3)⟩
      · exact (z h).elim
      · exact (z2 h).elim
def sp_l_left (T : Txt K mg) : Sp := fun vs H Q _ => ∃ (rw_ fo : Addr) (word : Str) (n : Int) (us : List V) (rows : List Row) (ro : Option Row), vs = [.ref rw_, .str word, .ref fo, .int n] ∧ H rw_ = some (.lst us) ∧ DqAll H us (rows.map rowT) ∧ rows.length ≤ 40 ∧ FoundAt H fo ro ∧ (∀ r, ro = some r → okR r) ∧
  ((ro = none ∨ word = "look") → ∀ H', Same H H' → Q (.ref rw_) H') ∧
  (∀ r, ro = some r → word ≠ "look" → ∀ p H' us', Same H H' → H p = none → H' p = some (.lst us') → DqAll H' us' ((lft word rows r n).map rowT) → Q (.ref p) H')
theorem sp_l_left_len {T : Txt K mg} {vs H Q E} (h : sp_l_left T vs H Q E) : vs.length = 4 := by
  obtain ⟨_, _, _, _, _, _, _, rfl, _⟩ := h
  rfl
theorem ok_l_left (T : Txt K mg) : FnOk P w K mg base CX0 1 T.f_l_left T.fd_l_left ["rows", "word", "found", "last"] (sp_l_left T) := by
  refine T.F_l_left.ok sc_l_left (fun vs H Q E h => sp_l_left_len h) (fun cdv A outer s H vs Q E hr h => ?_)
  refine ⟨_, (pss_cons (ps_if (PW.pt (pw_or (pt_cmpR (op_eqK K hr.units) (pv 2) (pe_lst pa_nil) (nomark _)) (pw_or1 (pt_cmpR (op_eqK K hr.units) (pv 1) pe_str (nomark _))))) (pss_one (ps_ret (pv 0))) pss_nil)
      (pss_cons (ps_if (pt_cmpR (op_eqK K hr.units) (pv 1) pe_str (nomark _)) (pss_one (ps_ret (pe_op (op_addK K) (pv 0) (pe_lst (pa_cons (pe_op (op_addK K) (pe_tup (pa_cons (pe_op (op_addK K) (pv 3) pe_int) pa_nil)) (pe_slice (sl_K K) (pe_ix (ix_K K (hu_of hr)) (pv 2) pe_int (fun _ _ => rfl)) (po_some pe_int) po_none)) pa_nil))))) pss_nil)
      (pss_one (ps_ret (pe_lc (own := [("row", 4)]) (g := gName 4) rfl sc_l_left.nd (k_il K (pi_list (pv 0))) (blkOk_by (N := n_l_left) (sc := defScope s_l_left) (by decide +kernel)) (fun _ _ _ _ _ => (pg_name (i := 4) sc_l_left.nd rfl (.inl rfl))) (fun _ _ _ _ _ => (pts_one (pt_cmpR (op_neK K hr.units) (pe_ix (ix_K K (hu_of hr)) (pv 4) pe_int (fun _ _ => rfl)) (pe_ix (ix_K K (hu_of hr)) (pe_ix (ix_K K (hu_of hr)) (pv 2) pe_int (fun _ _ => rfl)) pe_int (fun _ _ => rfl)) (nomark _)))) (fun _ _ _ _ _ => (pv 4))))))), ?_⟩
  obtain ⟨rw_, fo, word, n, us, rows, ro, rfl, hr, du, few, hf, ok, q1, q2⟩ := h
  have hH := Has.start H
  refine g_start (σ' := [some (.ref rw_), some (.str word), some (.ref fo), some (.int n), none]) rfl ?_
  have hul : us.length = rows.length := by rw [du.len, List.length_map]
  walk_at "gg"
  refine g_klst (by walk_at "sz") hH (fun p1 H1 n1 h1 => ?_)
  refine found_nil (hf.up h1.same) (h1.get (List.Mem.head _)) ok ?_
  have h1 := h1.drop
  cases ro with
  | none =>
    rw [show (none : Option Row).isNone = true from rfl]
    walk_at "gg"
    exact q1 (.inl rfl) H1 h1.same
  | some r =>
    rw [show (some r : Option Row).isNone = false from rfl]
    obtain ⟨t, tr, f1, f2, f3⟩ := hf
    walk_at "gg"
    refine i_d (fun z => ?_) (fun z => ?_)
    · walk_at "gg"
      exact q1 (.inr z) H1 h1.same
    walk_at "gg"
    refine i_d (fun z2 => ?_) (fun z2 => ?_)
    · walk_at "gg"
      refine g_ktupF (by walk_at "sz") h1 (fun t1 H2 F2 n2 s2 f2' h2 => ?_)
      walk_at "gg"
      refine g_ixL (v := .ref t) (h2.same _ _ (s2 _ _ f1)) (atI_nat (j := 0) rfl) ?_
      walk_at "gg"
      refine g_slTF (s2 _ _ f2) h2 (fun t2 H3 F3 s3 f3' h3 => ?_)
      have e1 : cutV [V.int r.1, V.str r.2.1, V.str r.2.2.1, V.ref tr] (some 1) none = [V.str r.2.1, V.str r.2.2.1, V.ref tr] := cutV_from _ 1
      rw [e1] at f3'
      refine g_addTF (s3 _ _ f2') f3' (by walk_at "sz") h3 (fun t4 H4 F4 s4 f4 h4 => ?_)
      walk_at "gg"
      refine g_klst (by walk_at "sz") h4 (fun p5 H5 n5 h5 => ?_)
      have s24 := s2.trans (s3.trans s4)
      refine g_addL (h5.same _ _ (s24 _ _ hr)) (h5.get (List.Mem.head _)) (sz (by rw [hul]; show _ + 1 ≤ _; omega)) h5 (fun p6 H6 n6 h6 => ?_)
      have e2 : lft word rows r n = rows ++ [(n + 1, r.2)] := by unfold lft; rw [if_neg z, if_pos z2]
      refine q2 r rfl z p6 H6 _ (s24.trans h6.same) ((s24.trans h5.same).free n6) (h6.get (List.Mem.head _)) ?_
      rw [e2, List.map_append]
      exact ((du.up s24 _ _).up h6.same _ _).snoc (Dq.up h6.same _ _ (rowT_mk (r := (n + 1, r.2)) f4 (s24 _ _ f3)))
    · walk_at "gg"
      refine k_lcL (h1.same _ _ hr) h1 (fun i acc F' O' => DqAll H acc (((rows.take i).filter fun s => decide (s.1 ≠ r.1)).map rowT) ∧ F' = H ∧ O' = []) ⟨.nil, rfl, rfl⟩ ?_ ?_ ?_
      · rintro i acc F' O' H2 ⟨_, rfl, rfl⟩ hh
        exact hh.same _ _ hr
      · rintro i x acc F' O' D H2 hx ⟨da, rfl, rfl⟩ hh
        obtain ⟨d', hd', dx'⟩ := du.get hx
        rw [List.getElem?_map] at hd'
        obtain ⟨r', hr', rfl⟩ := Option.map_eq_some_iff.mp hd'
        obtain ⟨t', tr', rfl, ht', htr'⟩ := rowT_at dx'
        have hal : acc.length ≤ 40 := by
          rw [da.len, List.length_map]
          refine Nat.le_trans (List.length_filter_le _ _) ?_
          rw [List.length_take]
          omega
        have et : (rows.take (i + 1)).filter (fun s => decide (s.1 ≠ r.1)) = (rows.take i).filter (fun s => decide (s.1 ≠ r.1)) ++ [r'].filter (fun s => decide (s.1 ≠ r.1)) := by
          rw [List.take_add_one, hr', List.filter_append]
          rfl
        walk_at "gg"
        refine g_ixT (v := .int r'.1) (by walk_at "h") (atI_nat (j := 0) rfl) ?_
        walk_at "gg"
        refine g_ixL (v := .ref t) (by walk_at "h") (atI_nat (j := 0) rfl) ?_
        walk_at "gg"
        refine g_ixT (v := .int r.1) (by walk_at "h") (atI_nat (j := 0) rfl) ?_
        walk_at "gg"
        refine i_n (fun z3 => ?_) (fun z3 => ?_)
        · walk_at "gg"
          refine k_turn hh (by omega) ⟨?_, rfl, rfl⟩
          rw [et, List.filter_cons_of_pos (by simpa using z3), List.filter_nil, List.map_append]
          exact da.snoc dx'
        · refine k_skip hh ⟨?_, rfl, rfl⟩
          rw [et, List.filter_cons_of_neg (by simpa using z3), List.filter_nil, List.append_nil]
          exact da
      rintro acc F2 O2 D H2 ⟨da, rfl, rfl⟩ h2
      rw [hul, List.take_length] at da
      have e2 : lft word rows r n = rows.filter fun s => decide (s.1 ≠ r.1) := by unfold lft; rw [if_neg z, if_neg z2]
      refine q2 r rfl z D H2 acc h2.same h2.free (h2.get (List.Mem.head _)) ?_
      rw [e2]
      exact da.up h2.same _ _
def SentA (T : Txt K mg) (a dx d c : Addr) (kvs : List (Key × V)) (n : Int) (ns : List Int) : Own := NetO T a dx d kvs n ++ [(c, .lst (ns.map V.int))]
theorem sentA_addr {T : Txt K mg} {H : Hp} {a dx d c : Addr} {kvs kvs' : List (Key × V)} {n n' : Int} {ns ns' : List Int} : ∀ q ∈ SentA T a dx d c kvs' n' ns', q.1 ∈ (SentA T a dx d c kvs n ns).map (·.1) ∨ H q.1 = none := fun q hq => by
  simp only [SentA, NetO, List.cons_append, List.nil_append, List.mem_cons, List.not_mem_nil, or_false] at hq
  rcases hq with rfl | rfl | rfl | rfl <;> exact .inl (by simp [SentA, NetO])
theorem sentA_in {T : Txt K mg} {a dx d c : Addr} {kvs kvs' : List (Key × V)} {n n' : Int} {ns ns' : List Int} (X : Own) : ∀ q ∈ SentA T a dx d c kvs n ns, q.1 ∈ (X ++ SentA T a dx d c kvs' n' ns').map (·.1) := fun q hq => by
  rw [List.map_append]
  simp only [SentA, NetO, List.cons_append, List.nil_append, List.mem_cons, List.not_mem_nil, or_false] at hq
  rcases hq with rfl | rfl | rfl | rfl <;> exact List.mem_append_right _ (by simp [SentA, NetO])
def sp_l_sent (T : Txt K mg) : Sp := fun vs H Q _ => ∃ (a dx d c rw_ : Addr) (F : Hp) (kvs : List (Key × V)) (rows : List Row) (n i : Int) (ns : List Int) (us : List V), vs = [.ref c, .ref a, .ref rw_, .int n, .int i] ∧ Has F (SentA T a dx d c kvs n ns) H ∧ NetOk F kvs rows n ∧ rows.length < 40 ∧ FeedOk ns ∧ F rw_ = some (.lst us) ∧ DqAll F us (rows.map rowT) ∧
  ∀ p H' F' kvs' ns' us' row, H p = none → ButA (SentA T a dx d c kvs n ns) H H' → Grow F H F' → Has F' (SentA T a dx d c kvs' (n + 1) ns') H' → F' p = some (.lst us') → DqAll F' us' ((rows ++ [row]).map rowT) → NetOk F' kvs' (rows ++ [row]) (n + 1) → FeedOk ns' → Q (.ref p) H'
theorem sp_l_sent_len {T : Txt K mg} {vs H Q E} (h : sp_l_sent T vs H Q E) : vs.length = 5 := by
  obtain ⟨_, _, _, _, _, _, _, _, _, _, _, _, rfl, _⟩ := h
  rfl
theorem ok_l_sent (T : Txt K mg) : FnOk P w K mg base CX0 4 T.f_l_sent T.fd_l_sent ["feed", "net", "rows", "last", "at"] (sp_l_sent T) := by
  refine T.F_l_sent.ok sc_l_sent (fun vs H Q E h => sp_l_sent_len h) (fun cdv A outer s H vs Q E hr h => ?_)
  refine ⟨_, (pss_cons (ps_set (i := 5) sc_l_sent.nd rfl (.inl rfl) (pe_call (ok_l_words T) (hr.mono (by decide)) (by rfl) T.g_l_words T.F_l_words.kp T.b_l_words .nil pass0 (pa_cons (pv 0) (pa_cons (pv 4) pa_nil))))
      (pss_cons (ps_set (i := 6) sc_l_sent.nd rfl (.inl rfl) (pe_call (ok_l_text T) (hr.mono (by decide)) (by rfl) T.g_l_text T.F_l_text.kp T.b_l_text .nil pass0 (pa_cons (pv 0) (pa_cons (pv 4) pa_nil))))
      (pss_cons (ps_set (i := 7) sc_l_sent.nd rfl (.inl rfl) (pe_tup (pa_cons (pe_op (op_addK K) (pv 3) pe_int) (pa_cons (pv 6) (pa_cons (pe_call (ok_l_text T) (hr.mono (by decide)) (by rfl) T.g_l_text T.F_l_text.kp T.b_l_text .nil pass0 (pa_cons (pv 0) (pa_cons (pe_op (op_addK K) (pv 4) pe_int) pa_nil))) (pa_cons (pe_callTy (cr_tupleK K) (by rfl) T.m_tuple (by decide +kernel) (pa_cons (pv 5) pa_nil)) pa_nil))))))
      (pss_cons (ps_set (i := 8) sc_l_sent.nd rfl (.inl rfl) (pe_methW (pv 1) T.cl_Net T.M_Net_send (ok_Net_send T) (hr.mono (by decide)) T.b_Net_send (pass0S (E := fun _ => E0)) (pa_cons (pe_ix (ix_K K (hu_of hr)) (pv 7) pe_int (fun _ _ => rfl)) (pa_cons (pe_ix (ix_K K (hu_of hr)) (pv 7) pe_int (fun _ _ => rfl)) (pa_cons (pv 5) pa_nil)))))
      (pss_cons (ps_expr (k_bm K (pe_bm PySem.F.plainAttrs_list PySem.F.slot_list_append PySem.F.type_list_append mt_append (pv 5) (pa_cons pe_str pa_nil))))
      (pss_cons (ps_if (pt_not (pt_val (pe_call (ok_l_int T) (hr.mono (by decide)) (by rfl) T.g_l_int T.F_l_int.kp T.b_l_int .nil pass0 (pa_cons (pv 8) (pa_cons (pe_op (op_addK K) (pv 3) pe_int) pa_nil))))) (pss_one (ps_ret (pe_lst pa_nil))) pss_nil)
      (pss_one (ps_ret (pe_op (op_addK K) (pv 2) (pe_lst (pa_cons (pv 7) pa_nil))))))))))), ?_⟩
  obtain ⟨a, dx, d, c, rw_, F, kvs, rows, n, i, ns, us, rfl, hH, ok, few, fok, hr, du, q⟩ := h
  refine g_start (σ' := [some (.ref c), some (.ref a), some (.ref rw_), some (.int n), some (.int i), none, none, none, none]) rfl ?_
  have hul : us.length = rows.length := by rw [du.len, List.length_map]
  have h0 := hH.re
  have s0 := hH.reF
  generalize hF0 : rmO (SentA T a dx d c kvs n ns) H = F0 at h0 s0
  have fc : ∀ {O : Own}, Chg (NetO T a dx d kvs n ++ [(c, .lst (ns.map V.int))]) c (.lst (ns.map V.int)) (.lst (ns.map V.int)) (NetO T a dx d kvs n ++ [(c, .lst (ns.map V.int))]) := .tl (.tl (.tl .hd))
  walk_at "gg"
  refine ⟨c, ns, i, rfl, h0.get (by unfold SentA NetO; walk_at "m"), fok, fun l H1 ns1 ss nl hb e fok1 hl okss lss => ?_⟩
  have h1 : Has F0 ((l, .lst (ss.map V.str)) :: SentA T a dx d c kvs n ns1) H1 := h0.but2 (.tl (.tl (.tl .hd))) hb e nl hl
  walk_at "gg"
  refine ⟨c, ns1, i, rfl, h1.get (by unfold SentA NetO; walk_at "m"), fok1, fun H2 ns2 z1 hb e fok2 oz1 => ?_⟩
  have h2 : Has F0 ((l, .lst (ss.map V.str)) :: SentA T a dx d c kvs n ns2) H2 := h1.but (.tl (.tl (.tl (.tl .hd)))) hb e
  walk_at "gg"
  refine ⟨c, ns2, _, rfl, h2.get (by unfold SentA NetO; walk_at "m"), fok2, fun H3 ns3 z2 hb e fok3 oz2 => ?_⟩
  have h3 : Has F0 ((l, .lst (ss.map V.str)) :: SentA T a dx d c kvs n ns3) H3 := h2.but (.tl (.tl (.tl (.tl .hd)))) hb e
  walk_at "gg"
  refine g_tupleL (h3.get (List.Mem.head _)) h3 (fun t1 H4 F4 n4 s4 f4 h4 => ?_)
  walk_at "gg"
  refine g_ktupF (by walk_at "sz") h4 (fun t2 H5 F5 n5 s5 f5 h5 => ?_)
  walk_at "gg"
  refine g_kmeth (h5.get (by unfold SentA NetO; walk_at "m")) rfl ?_
  walk_at "gg"
  refine g_ixT (v := .str z1) (h5.same _ _ f5) (atI_nat (j := 1) rfl) ?_
  walk_at "gg"
  refine g_ixT (v := .str z2) (h5.same _ _ f5) (atI_nat (j := 2) rfl) ?_
  walk_at "gg"
  have s45 := s4.trans s5
  subst hF0
  have hb5 := mix_but hH s45 h5
  have g5 := mix_grow hH s45
  have nl0 : H l = none := newp hH (mix_but hH (Same.refl _) h0) h0 (fun q hq => List.mem_map.mpr ⟨q, hq, rfl⟩) nl
  have h5m : Has (mixF F H F5) ((l, .lst (ss.map V.str)) :: SentA T a dx d c kvs n ns3) H5 := mix_has hH s45 h5 (fun q hq => by
    rcases List.mem_cons.mp hq with rfl | hq
    · exact .inr nl0
    · exact sentA_addr q hq)
  have n4' : H t1 = none := newp hH (mix_but hH (Same.refl _) h3) h3 (sentA_in [(l, .lst (ss.map V.str))]) n4
  have n5' : H t2 = none := newp hH (mix_but hH s4 h4) h4 (sentA_in [(l, .lst (ss.map V.str))]) n5
  have f4m : mixF F H F5 t1 = some (.tup (ss.map V.str)) := (mix_at n4').trans (s5 _ _ f4)
  have f5m : mixF F H F5 t2 = some (.tup [.int (n + 1), .str z1, .str z2, .ref t1]) := (mix_at n5').trans f5
  have okr : okR (n + 1, z1, z2, ss) := ⟨oz1, oz2, okss, by show ss.length ≤ 20; omega⟩
  refine ⟨a, dx, d, l, mixF F H F5, kvs, rows, n, z1, z2, ss, rfl, h5m.sub (List.Sublist.cons _ (List.sublist_append_left _ _)), ok.mono g5.1, h5m.get (List.Mem.head _), okr, few, fun H6 F6 kvs' hb6 g6 h6 ok6 => ?_⟩
  have h5p : Has (mixF F H F5) (NetO T a dx d kvs n ++ [(l, .lst (ss.map V.str)), (c, .lst (ns3.map V.int))]) H5 := h5m.perm List.perm_middle
  have h6' := Has.grownA h5p hb6 g6 h6 netO_addr
  have hbA6 : ButA (SentA T a dx d c kvs n ns) H H6 := fun b u m e => hb6 b u (fun z => m (by unfold SentA; rw [List.map_append]; exact List.mem_append_left _ z)) (hb5 b u m e)
  have nw : ∀ x ∈ NetO T a dx d kvs' (n + 1) ++ [(l, .lst (ss.map V.str)), (c, .lst (ns3.map V.int))], x.1 ∈ (SentA T a dx d c kvs n ns).map (·.1) ∨ H x.1 = none := fun x hx => by
    simp only [NetO, List.cons_append, List.nil_append, List.mem_cons, List.not_mem_nil, or_false] at hx
    rcases hx with rfl | rfl | rfl | rfl | rfl
    · exact .inl (by simp [SentA, NetO])
    · exact .inl (by simp [SentA, NetO])
    · exact .inl (by simp [SentA, NetO])
    · exact .inr nl0
    · exact .inl (by simp [SentA, NetO])
  have h6r := h6'.re
  have s6r := h6'.reF
  generalize hF6 : rmO (NetO T a dx d kvs' (n + 1) ++ [(l, .lst (ss.map V.str)), (c, .lst (ns3.map V.int))]) H6 = F7 at h6r s6r
  walk_at "gg"
  refine g_append h6r (.tl (.tl (.tl .hd))) (szl (by rw [List.length_map]; omega)) (fun H7 h7 => ?_)
  walk_at "gg"
  refine ⟨_, _, rfl, ?_⟩
  walk_at "gg"
  refine i_n (fun z => (z rfl).elim) (fun _ => ?_)
  walk_at "gg"
  refine g_klst (by walk_at "sz") h7 (fun q1 H8 n8 h8 => ?_)
  have hrF := s6r _ _ (g6.1 _ _ (g5.1 _ _ hr))
  refine g_addL (h8.same _ _ hrF) (h8.get (List.Mem.head _)) (sz (by rw [hul]; show _ + 1 ≤ _; omega)) h8 (fun p H9 n9 h9 => ?_)
  subst hF6
  have hb8 := hbA6.step h6' nw h8
  have hb9 := hbA6.step h6' nw h9
  have np : H p = none := newp hH hb8 h8 (fun q hq => by
    simp only [SentA, NetO, List.cons_append, List.nil_append, List.mem_cons, List.not_mem_nil, or_false] at hq
    rcases hq with rfl | rfl | rfl | rfl <;> simp) n9
  have h9F := h9.mono s6r
  have h9s : Has F6 [(p, .lst (us ++ [.ref t2])), (a, .ins T.C_Net dx (nf d (n + 1))), (dx, .own a), (d, .dK kvs'), (c, .lst (ns3.map V.int))] H9 := h9F.sub (by walk_at "sub")
  have gr := h9s.grow
  have old : ∀ b, H b ≠ none → H5 b ≠ none := fun b nb => by
    intro z
    exact nb (newp hH hb5 h5 (sentA_in [(l, .lst (ss.map V.str))]) z)
  refine q p H9 (upd F6 p (.lst (us ++ [.ref t2]))) kvs' ns3 _ (n + 1, z1, z2, ss) np hb9 ⟨g5.1.trans (g6.1.trans gr), fun b nb => ?_⟩ h9s.frz upd_same ?_ (ok6.mono gr) fok3
  · rw [upd_ne (fun z => by rw [z, np] at nb; exact nb rfl), g6.2 b (old b nb), mix_old nb]
  · rw [List.map_append]
    have s5f := g6.1.trans gr
    exact (du.up (g5.1.trans s5f) _ _).snoc (rowT_mk (r := (n + 1, z1, z2, ss)) (s5f _ _ f5m) (s5f _ _ f4m))
end

end K86

namespace K86
open PySem PySem.Spec PyProof.Rows L2 Qk
local macro_rules | `(tactic| walk_at "m") => `(tactic| ((repeat (first | exact List.Mem.head _ | apply List.Mem.tail)); done))
local macro_rules | `(tactic| walk_at "h") => `(tactic| first | assumption | exact Has.gF (by assumption) (by assumption) | exact Has.get (by assumption) (by walk_at "m"))
local macro_rules | `(tactic| walk_at "c") => `(tactic| ((repeat (first | exact Chg.hd | apply Chg.tl)); done))
local macro_rules | `(tactic| walk_at "is") => `(tactic| first
  | ((with_reducible refine' is2_non ?gh ?_); (case gh => walk_at "h"))
  | (with_reducible refine is_int_list ?_)
  | (with_reducible refine is_int_tuple ?_)
  | (with_reducible refine is_int_dict ?_)
  | (with_reducible refine is_int_int ?_)
  | (with_reducible refine is_int_bool ?_)
  | (with_reducible refine is_int_str ?_)
  | ((with_reducible refine' is2_int ?gh ?_); (case gh => walk_at "h"))
  | (with_reducible refine is_str_list ?_)
  | (with_reducible refine is_str_tuple ?_)
  | (with_reducible refine is_str_dict ?_)
  | (with_reducible refine is_str_int ?_)
  | (with_reducible refine is_str_bool ?_)
  | (with_reducible refine is_str_str ?_)
  | ((with_reducible refine' is2_str ?gh ?_); (case gh => walk_at "h"))
  | (with_reducible refine is_bool_list ?_)
  | (with_reducible refine is_bool_tuple ?_)
  | (with_reducible refine is_bool_dict ?_)
  | (with_reducible refine is_bool_int ?_)
  | (with_reducible refine is_bool_bool ?_)
  | (with_reducible refine is_bool_str ?_)
  | ((with_reducible refine' is2_bool ?gh ?_); (case gh => walk_at "h"))
  | ((with_reducible refine' is_list_list ?gh ?_); (case gh => walk_at "h"))
  | ((with_reducible refine' is_list_tuple ?gh ?_); (case gh => walk_at "h"))
  | ((with_reducible refine' is_list_dict ?gh ?_); (case gh => walk_at "h"))
  | ((with_reducible refine' is_list_int ?gh ?_); (case gh => walk_at "h"))
  | ((with_reducible refine' is_list_bool ?gh ?_); (case gh => walk_at "h"))
  | ((with_reducible refine' is_list_str ?gh ?_); (case gh => walk_at "h"))
  | ((with_reducible refine' is2_list ?ga ?gb ?_); (case ga => walk_at "h"); (case gb => walk_at "h"))
  | ((with_reducible refine' is_tuple_list ?gh ?_); (case gh => walk_at "h"))
  | ((with_reducible refine' is_tuple_tuple ?gh ?_); (case gh => walk_at "h"))
  | ((with_reducible refine' is_tuple_dict ?gh ?_); (case gh => walk_at "h"))
  | ((with_reducible refine' is_tuple_int ?gh ?_); (case gh => walk_at "h"))
  | ((with_reducible refine' is_tuple_bool ?gh ?_); (case gh => walk_at "h"))
  | ((with_reducible refine' is_tuple_str ?gh ?_); (case gh => walk_at "h"))
  | ((with_reducible refine' is2_tuple ?ga ?gb ?_); (case ga => walk_at "h"); (case gb => walk_at "h"))
  | ((with_reducible refine' is_dict_list ?gh ?_); (case gh => walk_at "h"))
  | ((with_reducible refine' is_dict_tuple ?gh ?_); (case gh => walk_at "h"))
  | ((with_reducible refine' is_dict_dict ?gh ?_); (case gh => walk_at "h"))
  | ((with_reducible refine' is_dict_int ?gh ?_); (case gh => walk_at "h"))
  | ((with_reducible refine' is_dict_bool ?gh ?_); (case gh => walk_at "h"))
  | ((with_reducible refine' is_dict_str ?gh ?_); (case gh => walk_at "h"))
  | ((with_reducible refine' is2_dict ?ga ?gb ?_); (case ga => walk_at "h"); (case gb => walk_at "h")))
local macro_rules | `(tactic| walk_at "g") => `(tactic| first
  | (with_reducible refine g_seq ?_)
  | (with_reducible refine g_asg ?_)
  | ((with_reducible refine g_name ?_); dsimp only [List.set, wipe, List.map])
  | ((with_reducible refine' g_var ?gv ?_); (case gv => exact rfl))
  | (with_reducible refine g_c ?_)
  | (with_reducible refine g_op ?_)
  | (with_reducible refine g_cons ?_)
  | (with_reducible refine g_nil ?_)
  | (with_reducible refine g_cb ?_)
  | (with_reducible refine g_call ?_)
  | (with_reducible refine g_tup ?_)
  | (with_reducible refine g_lst ?_)
  | (with_reducible refine g_bm ?_)
  | (with_reducible refine g_bm0 ?_)
  | ((with_reducible refine' g_kbm ?gh ?_); (case gh => walk_at "h"))
  | (with_reducible refine g_drop ?_)
  | (with_reducible refine g_ret ?_)
  | (with_reducible refine g_retN ?_)
  | (with_reducible refine g_next ?_)
  | (with_reducible refine g_brk ?_)
  | (with_reducible refine g_cont ?_)
  | (with_reducible refine g_if ?_)
  | ((with_reducible refine' g_aug ?gv ?_); (case gv => exact rfl))
  | (with_reducible refine g_ipI ?_)
  | (with_reducible refine g_test ?_)
  | (with_reducible refine g_tB ?_)
  | (with_reducible refine g_kB ?_)
  | (with_reducible refine g_not ?_)
  | (with_reducible refine g_and ?_)
  | (with_reducible refine g_or ?_)
  | (with_reducible refine g_andV ?_)
  | (with_reducible refine g_orV ?_)
  | (with_reducible refine g_notV ?_)
  | (with_reducible refine g_ifE ?_)
  | (with_reducible refine g_addI ?_)
  | (with_reducible refine g_rI0 ?_)
  | (with_reducible refine g_eqI ?_)
  | (with_reducible refine g_eqS ?_)
  | (with_reducible refine g_neI ?_)
  | (with_reducible refine g_neS ?_)
  | (with_reducible refine g_isN ?_)
  | (with_reducible refine g_notN ?_)
  | (with_reducible refine g_int ?_)
  | (with_reducible refine g_max2 ?_)
  | ((with_reducible refine' g_lenL ?gh ?_); (case gh => walk_at "h"))
  | (with_reducible refine g_sub ?_)
  | (with_reducible refine g_gcons ?_)
  | (with_reducible refine g_gnil ?_)
  | (with_reducible refine g_un ?_)
  | (with_reducible refine g_rU ?_)
  | (with_reducible refine g_forL ?_)
  | (with_reducible refine g_forR1 ?_)
  | (with_reducible refine g_forR2 ?_)
  | (with_reducible refine g_forR3 ?_)
  | (with_reducible refine g_lcL ?_)
  | (with_reducible refine g_lcR1 ?_)
  | (with_reducible refine g_lcR2 ?_)
  | (with_reducible refine g_slice ?_)
  | (with_reducible refine g_part ?_)
  | (with_reducible refine g_kOI ?_)
  | (with_reducible refine g_nopart ?_)
  | (with_reducible refine g_yes ?_)
  | ((with_reducible refine' g_wipe ?gv ?_); (case gv => exact rfl))
  | (with_reducible refine iteT ?_)
  | (with_reducible refine iteF ?_)
  | (with_reducible refine i_nf ?_)
  | (with_reducible refine i_nt ?_)
  | ((with_reducible refine' g_gtup ?gh ?gl ?_); (case gh => walk_at "h"); (case gl => exact rfl))
  | ((with_reducible refine' g_notinI ?gh ?_); (case gh => walk_at "h"))
  | ((with_reducible refine' g_inI ?gh ?_); (case gh => walk_at "h"))
  | ((with_reducible refine' g_kget2 ?gh ?_); (case gh => walk_at "h"))
  | ((with_reducible refine' g_kgotI ?gh ?_); (case gh => walk_at "h"))
  | (with_reducible refine g_tRev ?_)
  | (with_reducible refine g_neB ?_)
  | (with_reducible refine g_eqB ?_)
  | ((with_reducible refine' g_lenT ?gh ?_); (case gh => walk_at "h"))
  | (with_reducible refine g_star ?_)
  | ((with_reducible refine' g_kstarL ?gh ?_); (case gh => walk_at "h"))
  | ((with_reducible refine' g_kstarT ?gh ?_); (case gh => walk_at "h"))
  | (with_reducible refine g_tru ?_)
  | ((with_reducible refine' g_truL ?gh ?_); (case gh => walk_at "h"))
  | (with_reducible refine g_get2 ?_)
  | (with_reducible refine g_try ?_)
  | (with_reducible refine g_fld ?_)
  | (with_reducible refine g_sfld ?_)
  | (with_reducible refine g_meth ?_)
  | (with_reducible refine g_make ?_)
  | (with_reducible refine g_del ?_)
  | (with_reducible refine g_callS ?_)
  | (with_reducible refine g_raise ?_)
  | (with_reducible refine g_xf ?_)
  | walk_at "is")
local macro_rules | `(tactic| walk_at "gg") => `(tactic| repeat walk_at "g")
local macro_rules | `(tactic| walk_at "sz") => `(tactic| (refine sz ?_; simp only [List.length_cons, List.length_nil, List.length_map, List.length_append, List.length_replicate]; omega))
local macro_rules | `(tactic| walk_at "sub") => `(tactic| ((repeat (first | exact List.Sublist.slnil | with_reducible apply List.Sublist.cons_cons | with_reducible apply List.Sublist.cons)); done))

/-! ### what stands between the turns -/
structure Ad where
  c : Addr
  a1 : Addr
  x1 : Addr
  d1 : Addr
  a2 : Addr
  x2 : Addr
  d2 : Addr
section
variable {P : Program} {w : World} {K : PySem.W.Frag} {mg : Str → Option Value} {base : Heap}
def AllO (T : Txt K mg) (A : Ad) (kvs kvs2 : List (Key × V)) (n n2 : Int) (ns : List Int) : Own := SentA T A.a1 A.x1 A.d1 A.c kvs n ns ++ NetO T A.a2 A.x2 A.d2 kvs2 n2
structure RowsAt (F : Hp) (r : Addr) (rows : List Row) : Prop where
  ex : ∃ us, F r = some (.lst us) ∧ DqAll F us (rows.map rowT)
theorem RowsAt.up {F F' : Hp} {r : Addr} {rows : List Row} (h : RowsAt F r rows) (s : Same F F') : RowsAt F' r rows := by
  obtain ⟨us, h1, h2⟩ := h.ex
  exact ⟨us, s _ _ h1, h2.up s _ _⟩
def StF (T : Txt K mg) (A : Ad) (F H : Hp) (r1 r2 : Addr) (rows rows2 : List Row) (n n2 : Int) : Prop := ∃ kvs kvs2 ns, Has F (AllO T A kvs kvs2 n n2 ns) H ∧ NetOk F kvs rows n ∧ NetOk F kvs2 rows2 n2 ∧ FeedOk ns ∧ RowsAt F r1 rows ∧ RowsAt F r2 rows2
theorem StF.next {T : Txt K mg} {A : Ad} {F H : Hp} {r1 r2 : Addr} {rows rows2 : List Row} {n n2 m : Int} {Q : VK} {E : XK} (st : StF T A F H r1 r2 rows rows2 n n2) (m0 : 0 < m) (m1 : m < 10000000000000) (q : ∀ H' r, StF T A F H' r1 r2 rows rows2 n n2 → 0 ≤ r → r < m → Q (.int r) H') : sp_l_next T [.ref A.c, .int m] H Q E := by
  obtain ⟨kvs, kvs2, ns, h, ok, ok2, fok, ra, rb⟩ := st
  exact ⟨A.c, ns, m, rfl, h.get (by unfold AllO SentA NetO; walk_at "m"), fok, m0, m1, fun H' ns' r hb e fok' h0 h1 => q H' r ⟨kvs, kvs2, ns', h.but (.tl (.tl (.tl .hd))) hb e, ok, ok2, fok', ra, rb⟩ h0 h1⟩
theorem StF.at1 {T : Txt K mg} {A : Ad} {F H : Hp} {r1 r2 : Addr} {rows rows2 : List Row} {n n2 : Int} (st : StF T A F H r1 r2 rows rows2 n n2) : ∃ kvs us, NetAt T H A.a1 A.x1 A.d1 kvs n ∧ NetOk H kvs rows n ∧ H r1 = some (.lst us) ∧ DqAll H us (rows.map rowT) := by
  obtain ⟨kvs, kvs2, ns, h, ok, ok2, fok, ra, rb⟩ := st
  obtain ⟨us, h1, h2⟩ := ra.ex
  exact ⟨kvs, us, ⟨h.get (by unfold AllO SentA NetO; walk_at "m"), h.get (by unfold AllO SentA NetO; walk_at "m")⟩, ok.mono h.same, h.same _ _ h1, h2.up h.same _ _⟩
theorem StF.at2 {T : Txt K mg} {A : Ad} {F H : Hp} {r1 r2 : Addr} {rows rows2 : List Row} {n n2 : Int} (st : StF T A F H r1 r2 rows rows2 n n2) : ∃ kvs us, NetAt T H A.a2 A.x2 A.d2 kvs n2 ∧ NetOk H kvs rows2 n2 ∧ H r2 = some (.lst us) ∧ DqAll H us (rows2.map rowT) := by
  obtain ⟨kvs, kvs2, ns, h, ok, ok2, fok, ra, rb⟩ := st
  obtain ⟨us, h1, h2⟩ := rb.ex
  exact ⟨kvs2, us, ⟨h.get (by unfold AllO SentA NetO; walk_at "m"), h.get (by unfold AllO SentA NetO; walk_at "m")⟩, ok2.mono h.same, h.same _ _ h1, h2.up h.same _ _⟩
theorem StF.on {T : Txt K mg} {A : Ad} {F H H' : Hp} {r1 r2 : Addr} {rows rows2 : List Row} {n n2 : Int} (st : StF T A F H r1 r2 rows rows2 n n2) (s : Same H H') : StF T A F H' r1 r2 rows rows2 n n2 := by
  obtain ⟨kvs, kvs2, ns, h, ok, ok2, fok, ra, rb⟩ := st
  exact ⟨kvs, kvs2, ns, h.on s, ok, ok2, fok, ra, rb⟩
theorem StF.shows1 {T : Txt K mg} {A : Ad} {F H : Hp} {r1 r2 : Addr} {rows rows2 : List Row} {n n2 : Int} {Q : VK} {E : XK} (st : StF T A F H r1 r2 rows rows2 n n2) (q : ∀ H', StF T A F H' r1 r2 rows rows2 n n2 → Q (.bl true) H') : sp_l_shows T [.ref A.a1, .ref r1] H Q E := by
  obtain ⟨kvs, us, h1, h2, h3, h4⟩ := st.at1
  exact ⟨A.a1, A.x1, A.d1, r1, kvs, us, rows, n, rfl, h1, h2, h3, h4, fun H' s => q H' (st.on s)⟩
theorem StF.shows2 {T : Txt K mg} {A : Ad} {F H : Hp} {r1 r2 : Addr} {rows rows2 : List Row} {n n2 : Int} {Q : VK} {E : XK} (st : StF T A F H r1 r2 rows rows2 n n2) (q : ∀ H', Q (.bl true) H') : sp_l_shows T [.ref A.a2, .ref r2] H Q E := by
  obtain ⟨kvs, us, h1, h2, h3, h4⟩ := st.at2
  exact ⟨A.a2, A.x2, A.d2, r2, kvs, us, rows2, n2, rfl, h1, h2, h3, h4, fun H' s => q H'⟩
theorem StF.sent1 {T : Txt K mg} {A : Ad} {F H : Hp} {r1 r2 : Addr} {rows rows2 : List Row} {n n2 i : Int} {Q : VK} {E : XK} (st : StF T A F H r1 r2 rows rows2 n n2) (few : rows.length < 40) (q : ∀ p F' H' row, Same F F' → StF T A F' H' p r2 (rows ++ [row]) rows2 (n + 1) n2 → Q (.ref p) H') : sp_l_sent T [.ref A.c, .ref A.a1, .ref r1, .int n, .int i] H Q E := by
  obtain ⟨kvs, kvs2, ns, h, ok, ok2, fok, ra, rb⟩ := st
  obtain ⟨us, h1, h2⟩ := ra.ex
  refine ⟨A.a1, A.x1, A.d1, A.c, r1, F, kvs, rows, n, i, ns, us, rfl, h.sub (List.sublist_append_left _ _), ok, few, fok, h1, h2, fun p H' F' kvs' ns' us' row np hb g h' hp du ok' fok' => ?_⟩
  exact q p F' H' row g.1 ⟨kvs', kvs2, ns', Has.grownA h hb g h' sentA_addr, ok', ok2.mono g.1, fok', ⟨us', hp, du⟩, rb.up g.1⟩
theorem perm_rot {α : Type} (A B C : List α) : ((A ++ B) ++ C).Perm ((C ++ B) ++ A) := by
  refine (List.perm_append_comm (l₁ := A ++ B) (l₂ := C)).trans ?_
  have e : (C ++ B) ++ A = C ++ (B ++ A) := List.append_assoc C B A
  rw [e]
  exact List.Perm.append_left C List.perm_append_comm
theorem allO_perm {T : Txt K mg} {A : Ad} {kvs kvs2 : List (Key × V)} {n n2 : Int} {ns : List Int} : (SentA T A.a2 A.x2 A.d2 A.c kvs2 n2 ns ++ NetO T A.a1 A.x1 A.d1 kvs n).Perm (AllO T A kvs kvs2 n n2 ns) := by
  unfold AllO SentA
  exact perm_rot _ _ _
theorem StF.sent2 {T : Txt K mg} {A : Ad} {F H : Hp} {r1 r2 : Addr} {rows rows2 : List Row} {n n2 i : Int} {Q : VK} {E : XK} (st : StF T A F H r1 r2 rows rows2 n n2) (few : rows2.length < 40) (q : ∀ p F' H' row, Same F F' → StF T A F' H' r1 p rows (rows2 ++ [row]) n (n2 + 1) → Q (.ref p) H') : sp_l_sent T [.ref A.c, .ref A.a2, .ref r2, .int n2, .int i] H Q E := by
  obtain ⟨kvs, kvs2, ns, h, ok, ok2, fok, ra, rb⟩ := st
  obtain ⟨us, h1, h2⟩ := rb.ex
  have h := h.perm allO_perm
  refine ⟨A.a2, A.x2, A.d2, A.c, r2, F, kvs2, rows2, n2, i, ns, us, rfl, h.sub (List.sublist_append_left _ _), ok2, few, fok, h1, h2, fun p H' F' kvs' ns' us' row np hb g h' hp du ok' fok' => ?_⟩
  exact q p F' H' row g.1 ⟨kvs, kvs', ns', (Has.grownA h hb g h' sentA_addr).perm allO_perm.symm, ok.mono g.1, ok', fok', ra.up g.1, ⟨us', hp, du⟩⟩
theorem StF.pick {T : Txt K mg} {A : Ad} {F H : Hp} {r1 r2 : Addr} {rows rows2 : List Row} {n n2 : Int} {Q : VK} {E : XK} (st : StF T A F H r1 r2 rows rows2 n n2) (n0 : 0 ≤ n) (n1 : n ≤ 1000) (q : ∀ H' k, StF T A F H' r1 r2 rows rows2 n n2 → Q (.int k) H') : sp_l_pick T [.ref A.c, .ref r1, .int n] H Q E := by
  obtain ⟨kvs, kvs2, ns, h, ok, ok2, fok, ra, rb⟩ := st
  obtain ⟨us, h1, h2⟩ := ra.ex
  have nc : F A.c = none := (h.own (A.c, .lst (ns.map V.int)) (by unfold AllO SentA NetO; walk_at "m")).1
  exact ⟨A.c, r1, ns, us, rows, n, rfl, h.get (by unfold AllO SentA NetO; walk_at "m"), fok, (fun z => by rw [z, h1] at nc; cases nc), h.same _ _ h1, h2.up h.same _ _, (fun r hr => (ok.ok r hr).2), ok.few, n0, n1, fun H' ns' k hb e fok' => q H' k ⟨kvs, kvs2, ns', h.but (.tl (.tl (.tl .hd))) hb e, ok, ok2, fok', ra, rb⟩⟩
/-- rows == [] -/
theorem rows_nil {K : PySem.W.Frag} {T : Txt K mg} {A : Ad} {F H : Hp} {r1 r2 p : Addr} {rows rows2 : List Row} {n n2 : Int} {Q : VK} (st : StF T A F H r1 r2 rows rows2 n n2) (hp : H p = some (.lst [])) (q : Q (.bl rows.isEmpty) H) : rEqA K (.ref r1) (.ref p) H Q := by
  obtain ⟨kvs, us, h1, h2, h3, h4⟩ := st.at1
  refine g_eqD (d := .list (rows.map rowT)) (e := .list []) (.lst h3 h4) (.lst hp .nil) ((sh_rows fun r hr => (h2.ok r hr).2).ok (by decide)) (sh_nil.ok (n := 1) (by decide)) ?_
  rw [eqv_nil, List.isEmpty_map]
  exact q
theorem rows2_nil {K : PySem.W.Frag} {T : Txt K mg} {A : Ad} {F H : Hp} {r1 r2 p : Addr} {rows rows2 : List Row} {n n2 : Int} {Q : VK} (st : StF T A F H r1 r2 rows rows2 n n2) (hp : H p = some (.lst [])) (q : Q (.bl rows2.isEmpty) H) : rEqA K (.ref r2) (.ref p) H Q := by
  obtain ⟨kvs, us, h1, h2, h3, h4⟩ := st.at2
  refine g_eqD (d := .list (rows2.map rowT)) (e := .list []) (.lst h3 h4) (.lst hp .nil) ((sh_rows fun r hr => (h2.ok r hr).2).ok (by decide)) (sh_nil.ok (n := 1) (by decide)) ?_
  rw [eqv_nil, List.isEmpty_map]
  exact q
theorem isEmpty_snoc (rows : List Row) (r : Row) : (rows ++ [r]).isEmpty = false := by
  cases rows <;> rfl
/-- a new list that is let go at once -/
theorem StF.tmp {T : Txt K mg} {A : Ad} {F H : Hp} {r1 r2 : Addr} {rows rows2 : List Row} {n n2 : Int} {xs : List V} {Q : VK} (st : StF T A F H r1 r2 rows rows2 n n2) (hl : xs.length ≤ sizeLine) (q : ∀ p H', H' p = some (.lst xs) → StF T A F H' r1 r2 rows rows2 n n2 → Q (.ref p) H') : kLst xs H Q :=
  ⟨hl, fun p np => q p _ upd_same (st.on (same_upd np))⟩
theorem lft_len (word : Str) (rows : List Row) (r : Row) (n : Int) : (lft word rows r n).length ≤ rows.length + 1 := by
  unfold lft
  split
  · omega
  · split
    · rw [List.length_append]; show rows.length + 1 ≤ _; omega
    · exact Nat.le_trans (List.length_filter_le _ _) (by omega)
end

end K86

namespace K86
open PySem PySem.Spec PyProof.Rows L2 Qk
local macro_rules | `(tactic| walk_at "m") => `(tactic| ((repeat (first | exact List.Mem.head _ | apply List.Mem.tail)); done))
local macro_rules | `(tactic| walk_at "h") => `(tactic| first | assumption | exact Has.gF (by assumption) (by assumption) | exact Has.get (by assumption) (by walk_at "m"))
local macro_rules | `(tactic| walk_at "c") => `(tactic| ((repeat (first | exact Chg.hd | apply Chg.tl)); done))
local macro_rules | `(tactic| walk_at "is") => `(tactic| first
  | ((with_reducible refine' is2_non ?gh ?_); (case gh => walk_at "h"))
  | (with_reducible refine is_int_list ?_)
  | (with_reducible refine is_int_tuple ?_)
  | (with_reducible refine is_int_dict ?_)
  | (with_reducible refine is_int_int ?_)
  | (with_reducible refine is_int_bool ?_)
  | (with_reducible refine is_int_str ?_)
  | ((with_reducible refine' is2_int ?gh ?_); (case gh => walk_at "h"))
  | (with_reducible refine is_str_list ?_)
  | (with_reducible refine is_str_tuple ?_)
  | (with_reducible refine is_str_dict ?_)
  | (with_reducible refine is_str_int ?_)
  | (with_reducible refine is_str_bool ?_)
  | (with_reducible refine is_str_str ?_)
  | ((with_reducible refine' is2_str ?gh ?_); (case gh => walk_at "h"))
  | (with_reducible refine is_bool_list ?_)
  | (with_reducible refine is_bool_tuple ?_)
  | (with_reducible refine is_bool_dict ?_)
  | (with_reducible refine is_bool_int ?_)
  | (with_reducible refine is_bool_bool ?_)
  | (with_reducible refine is_bool_str ?_)
  | ((with_reducible refine' is2_bool ?gh ?_); (case gh => walk_at "h"))
  | ((with_reducible refine' is_list_list ?gh ?_); (case gh => walk_at "h"))
  | ((with_reducible refine' is_list_tuple ?gh ?_); (case gh => walk_at "h"))
  | ((with_reducible refine' is_list_dict ?gh ?_); (case gh => walk_at "h"))
  | ((with_reducible refine' is_list_int ?gh ?_); (case gh => walk_at "h"))
  | ((with_reducible refine' is_list_bool ?gh ?_); (case gh => walk_at "h"))
  | ((with_reducible refine' is_list_str ?gh ?_); (case gh => walk_at "h"))
  | ((with_reducible refine' is2_list ?ga ?gb ?_); (case ga => walk_at "h"); (case gb => walk_at "h"))
  | ((with_reducible refine' is_tuple_list ?gh ?_); (case gh => walk_at "h"))
  | ((with_reducible refine' is_tuple_tuple ?gh ?_); (case gh => walk_at "h"))
  | ((with_reducible refine' is_tuple_dict ?gh ?_); (case gh => walk_at "h"))
  | ((with_reducible refine' is_tuple_int ?gh ?_); (case gh => walk_at "h"))
  | ((with_reducible refine' is_tuple_bool ?gh ?_); (case gh => walk_at "h"))
  | ((with_reducible refine' is_tuple_str ?gh ?_); (case gh => walk_at "h"))
  | ((with_reducible refine' is2_tuple ?ga ?gb ?_); (case ga => walk_at "h"); (case gb => walk_at "h"))
  | ((with_reducible refine' is_dict_list ?gh ?_); (case gh => walk_at "h"))
  | ((with_reducible refine' is_dict_tuple ?gh ?_); (case gh => walk_at "h"))
  | ((with_reducible refine' is_dict_dict ?gh ?_); (case gh => walk_at "h"))
  | ((with_reducible refine' is_dict_int ?gh ?_); (case gh => walk_at "h"))
  | ((with_reducible refine' is_dict_bool ?gh ?_); (case gh => walk_at "h"))
  | ((with_reducible refine' is_dict_str ?gh ?_); (case gh => walk_at "h"))
  | ((with_reducible refine' is2_dict ?ga ?gb ?_); (case ga => walk_at "h"); (case gb => walk_at "h")))
local macro_rules | `(tactic| walk_at "g") => `(tactic| first
  | (with_reducible refine g_seq ?_)
  | (with_reducible refine g_asg ?_)
  | ((with_reducible refine g_name ?_); dsimp only [List.set, wipe, List.map])
  | ((with_reducible refine' g_var ?gv ?_); (case gv => exact rfl))
  | (with_reducible refine g_c ?_)
  | (with_reducible refine g_op ?_)
  | (with_reducible refine g_cons ?_)
  | (with_reducible refine g_nil ?_)
  | (with_reducible refine g_cb ?_)
  | (with_reducible refine g_call ?_)
  | (with_reducible refine g_tup ?_)
  | (with_reducible refine g_lst ?_)
  | (with_reducible refine g_bm ?_)
  | (with_reducible refine g_bm0 ?_)
  | ((with_reducible refine' g_kbm ?gh ?_); (case gh => walk_at "h"))
  | (with_reducible refine g_drop ?_)
  | (with_reducible refine g_ret ?_)
  | (with_reducible refine g_retN ?_)
  | (with_reducible refine g_next ?_)
  | (with_reducible refine g_brk ?_)
  | (with_reducible refine g_cont ?_)
  | (with_reducible refine g_if ?_)
  | ((with_reducible refine' g_aug ?gv ?_); (case gv => exact rfl))
  | (with_reducible refine g_ipI ?_)
  | (with_reducible refine g_test ?_)
  | (with_reducible refine g_tB ?_)
  | (with_reducible refine g_kB ?_)
  | (with_reducible refine g_not ?_)
  | (with_reducible refine g_and ?_)
  | (with_reducible refine g_or ?_)
  | (with_reducible refine g_andV ?_)
  | (with_reducible refine g_orV ?_)
  | (with_reducible refine g_notV ?_)
  | (with_reducible refine g_ifE ?_)
  | (with_reducible refine g_addI ?_)
  | (with_reducible refine g_rI0 ?_)
  | (with_reducible refine g_eqI ?_)
  | (with_reducible refine g_eqS ?_)
  | (with_reducible refine g_neI ?_)
  | (with_reducible refine g_neS ?_)
  | (with_reducible refine g_isN ?_)
  | (with_reducible refine g_notN ?_)
  | (with_reducible refine g_int ?_)
  | (with_reducible refine g_max2 ?_)
  | ((with_reducible refine' g_lenL ?gh ?_); (case gh => walk_at "h"))
  | (with_reducible refine g_sub ?_)
  | (with_reducible refine g_gcons ?_)
  | (with_reducible refine g_gnil ?_)
  | (with_reducible refine g_un ?_)
  | (with_reducible refine g_rU ?_)
  | (with_reducible refine g_forL ?_)
  | (with_reducible refine g_forR1 ?_)
  | (with_reducible refine g_forR2 ?_)
  | (with_reducible refine g_forR3 ?_)
  | (with_reducible refine g_lcL ?_)
  | (with_reducible refine g_lcR1 ?_)
  | (with_reducible refine g_lcR2 ?_)
  | (with_reducible refine g_slice ?_)
  | (with_reducible refine g_part ?_)
  | (with_reducible refine g_kOI ?_)
  | (with_reducible refine g_nopart ?_)
  | (with_reducible refine g_yes ?_)
  | ((with_reducible refine' g_wipe ?gv ?_); (case gv => exact rfl))
  | (with_reducible refine iteT ?_)
  | (with_reducible refine iteF ?_)
  | (with_reducible refine i_nf ?_)
  | (with_reducible refine i_nt ?_)
  | ((with_reducible refine' g_gtup ?gh ?gl ?_); (case gh => walk_at "h"); (case gl => exact rfl))
  | ((with_reducible refine' g_notinI ?gh ?_); (case gh => walk_at "h"))
  | ((with_reducible refine' g_inI ?gh ?_); (case gh => walk_at "h"))
  | ((with_reducible refine' g_kget2 ?gh ?_); (case gh => walk_at "h"))
  | ((with_reducible refine' g_kgotI ?gh ?_); (case gh => walk_at "h"))
  | (with_reducible refine g_tRev ?_)
  | (with_reducible refine g_neB ?_)
  | (with_reducible refine g_eqB ?_)
  | ((with_reducible refine' g_lenT ?gh ?_); (case gh => walk_at "h"))
  | (with_reducible refine g_star ?_)
  | ((with_reducible refine' g_kstarL ?gh ?_); (case gh => walk_at "h"))
  | ((with_reducible refine' g_kstarT ?gh ?_); (case gh => walk_at "h"))
  | (with_reducible refine g_tru ?_)
  | ((with_reducible refine' g_truL ?gh ?_); (case gh => walk_at "h"))
  | (with_reducible refine g_get2 ?_)
  | (with_reducible refine g_try ?_)
  | (with_reducible refine g_fld ?_)
  | (with_reducible refine g_sfld ?_)
  | (with_reducible refine g_meth ?_)
  | (with_reducible refine g_make ?_)
  | (with_reducible refine g_del ?_)
  | (with_reducible refine g_callS ?_)
  | (with_reducible refine g_raise ?_)
  | (with_reducible refine g_xf ?_)
  | walk_at "is")
local macro_rules | `(tactic| walk_at "gg") => `(tactic| repeat walk_at "g")
local macro_rules | `(tactic| walk_at "sz") => `(tactic| (refine sz ?_; simp only [List.length_cons, List.length_nil, List.length_map, List.length_append, List.length_replicate]; omega))
local macro_rules | `(tactic| walk_at "sub") => `(tactic| ((repeat (first | exact List.Sublist.slnil | with_reducible apply List.Sublist.cons_cons | with_reducible apply List.Sublist.cons)); done))

/-! ### the turn: found, ask, left -/
def nro (word : Str) (ro : Option Row) (n : Int) : Int := match ro with
  | none => n
  | some _ => nxt word n
def lro (word : Str) (rows : List Row) (ro : Option Row) (n : Int) : List Row := match ro with
  | none => rows
  | some r => lft word rows r n
/-- what the answer of ask is, X what of it may change -/
def Tld (F : Hp) (X : Own) (p : Addr) (word : Str) (n : Int) : Option Row → Prop
  | none => X = [] ∧ F p = some (.tup [.str "none", .bl true])
  | some r => ∃ v, F p = some (.tup [.str "told", v]) ∧ (((word = "look" ∨ word = "deliver") ∧ ∃ q l, v = .ref q ∧ F q = some (.tup [.str r.2.1, .str r.2.2.1, .ref l]) ∧ X = [(l, .lst (r.2.2.2.map V.str))]) ∨
    (word = "double" ∧ v = .int (n + 1) ∧ X = []) ∨ (word ≠ "look" ∧ word ≠ "deliver" ∧ word ≠ "double" ∧ v = .non ∧ X = []))
theorem Tld.tell {F H : Hp} {X R : Own} {p : Addr} {word : Str} {n : Int} {ro : Option Row} (hw : word = "double" ∨ word = "deliver" ∨ word = "look" ∨ word = "lose") (t : Tld F X p word n ro) (h : Has F (X ++ R) H) : TellAt H p word n ro := by
  cases ro with
  | none => exact h.same _ _ t.2
  | some r =>
    obtain ⟨v, hp, hv⟩ := t
    refine ⟨v, h.same _ _ hp, ?_⟩
    rcases hv with ⟨a, q, l, rfl, hq, rfl⟩ | ⟨a, b, _⟩ | ⟨a, b, c, d, _⟩
    · exact .inl ⟨a, q, l, rfl, h.same _ _ hq, h.get (List.mem_append_left _ (List.Mem.head _))⟩
    · exact .inr (.inl ⟨a, b⟩)
    · refine .inr (.inr ⟨?_, d⟩)
      rcases hw with w | w | w | w
      · exact (c w).elim
      · exact (b w).elim
      · exact (a w).elim
      · exact w
section
variable {P : Program} {w : World} {K : PySem.W.Frag} {mg : Str → Option Value} {base : Heap}
theorem ask_all {T : Txt K mg} {a dx d : Addr} {F H : Hp} {kvs : List (Key × V)} {R : Own} {rows : List Row} {n k : Int} {word : Str} {Q : VK} {E : XK} (h : Has F (NetO T a dx d kvs n ++ R) H) (ok : NetOk F kvs rows n) (few : rows.length < 40)
    (q : ∀ p F' H' X kvs', Same F F' → Has F' (X ++ (NetO T a dx d kvs' (nro word (fnd rows k) n) ++ R)) H' → NetOk F' kvs' (lro word rows (fnd rows k) n) (nro word (fnd rows k) n) → Tld F' X p word n (fnd rows k) → Q (.ref p) H') :
    sp_l_ask T [.ref a, .str word, .int k] H Q E := by
  have h0 := h.sub (List.sublist_append_left _ _)
  refine ⟨a, dx, d, F, kvs, rows, n, k, word, rfl, h0, ok, few, fun r hf p H' F' kvs' v X np nX hb g h' ok' tl => ?_, fun hf p H' s np hp => ?_⟩
  · have h1 := Has.grownA (A := NetO T a dx d kvs n) (A' := (p, .tup [.str "told", v]) :: (X ++ NetO T a dx d kvs' (nxt word n))) h hb g h' (fun x hx => by
      rcases List.mem_cons.mp hx with rfl | hx
      · exact .inr np
      · exact netO_new nX x hx)
    have h1 : Has F' ((p, .tup [.str "told", v]) :: (X ++ NetO T a dx d kvs' (nxt word n) ++ R)) H' := h1
    have h2 := h1.frz
    have s2 := h1.grow
    have fp : upd F' p (.tup [.str "told", v]) p = some (.tup [.str "told", v]) := upd_same
    generalize upd F' p (.tup [.str "told", v]) = F2 at h2 s2 fp
    have ok2 := ok'.mono s2
    have s02 := g.1.trans s2
    rw [List.append_assoc] at h2
    rcases tl with ⟨a1, q1, l, rfl, rfl⟩ | ⟨a1, rfl, rfl⟩ | ⟨a1, a2, a3, rfl, rfl⟩
    · have h2 : Has F2 ((q1, .tup [.str r.2.1, .str r.2.2.1, .ref l]) :: ((l, .lst (r.2.2.2.map V.str)) :: (NetO T a dx d kvs' (nxt word n) ++ R))) H' := h2
      have h3 := h2.frz
      have s3 := h2.grow
      exact q p _ H' [(l, .lst (r.2.2.2.map V.str))] kvs' (s02.trans s3) (by rw [hf]; exact h3) (by rw [hf]; exact ok2.mono s3) (by rw [hf]; exact ⟨_, s3 _ _ fp, .inl ⟨a1, q1, l, rfl, upd_same, rfl⟩⟩)
    · exact q p F2 H' [] kvs' s02 (by rw [hf]; exact h2) (by rw [hf]; exact ok2) (by rw [hf]; exact ⟨_, fp, .inr (.inl ⟨a1, rfl, rfl⟩)⟩)
    · exact q p F2 H' [] kvs' s02 (by rw [hf]; exact h2) (by rw [hf]; exact ok2) (by rw [hf]; exact ⟨_, fp, .inr (.inr ⟨a1, a2, a3, rfl, rfl⟩)⟩)
  · have h1 := h.made np s hp
    exact q p _ H' [] kvs h1.grow (by rw [hf]; exact h1.frz) (by rw [hf]; exact ok.mono h1.grow) (by rw [hf]; exact ⟨rfl, upd_same⟩)
theorem left_all {T : Txt K mg} {F H : Hp} {O : Own} {rw_ fo : Addr} {word : Str} {n : Int} {us : List V} {rows : List Row} {ro : Option Row} {Q : VK} {E : XK} (h : Has F O H) (nt : ∀ p ∈ O, ∀ xs, p.2 ≠ .tup xs) (hr : F rw_ = some (.lst us)) (du : DqAll F us (rows.map rowT))
    (few : rows.length ≤ 40) (hf : FoundAt H fo ro) (ok : ∀ r, ro = some r → okR r) (q : ∀ p F' H', Same F F' → Has F' O H' → RowsAt F' p (lro word rows ro n) → Q (.ref p) H') : sp_l_left T [.ref rw_, .str word, .ref fo, .int n] H Q E := by
  refine ⟨rw_, fo, word, n, us, rows, ro, rfl, h.same _ _ hr, du.up h.same _ _, few, hf, ok, fun z H' s => ?_, fun r er nl p H' us' s np hp du' => ?_⟩
  · refine q rw_ F H' (Same.refl _) (h.on s) ⟨us, hr, ?_⟩
    cases ro with
    | none => exact du
    | some r =>
      rcases z with z | z
      · cases z
      · show DqAll F us ((lft word rows r n).map rowT)
        unfold lft
        rw [if_pos z]
        exact du
  · subst er
    have h1 := h.made np s hp
    have d1 := h1.keep (fun x hx xs => by
      rcases List.mem_cons.mp hx with rfl | hx
      · exact fun z => by cases z
      · exact nt x hx xs) rowT_noL du'
    have s1 := h1.reF
    have h2 := h1.re
    generalize rmO ((p, HO.lst us') :: O) H' = F2 at d1 s1 h2
    exact q p _ H' (s1.trans h2.grow) h2.frz ⟨us', upd_same, d1.up h2.grow _ _⟩
/-- found != [] -/
theorem found_nn {K : PySem.W.Frag} {H : Hp} {fo p : Addr} {ro : Option Row} {Q : VK} (h : FoundAt H fo ro) (hp : H p = some (.lst [])) (ok : ∀ r, ro = some r → okR r) (q : Q (.bl ro.isSome) H) : rNeA K (.ref fo) (.ref p) H Q := by
  cases ro with
  | none =>
    refine g_neD (d := .list []) (e := .list []) (.lst h .nil) (.lst hp .nil) (sh_nil.ok (n := 1) (by decide)) (sh_nil.ok (n := 1) (by decide)) ?_
    rw [eqv_nil]
    exact q
  | some r =>
    obtain ⟨t, tr, h1, h2, h3⟩ := h
    refine g_neD (d := .list ([r].map rowT)) (e := .list []) (.lst h1 (.cons (rowT_mk h2 h3) .nil)) (.lst hp .nil) ((sh_rows fun x hx => by rw [List.mem_singleton.mp hx]; exact ok r rfl).ok (by decide)) (sh_nil.ok (n := 1) (by decide)) ?_
    rw [eqv_nil]
    exact q
/-- the items of found -/
def FndA (F : Hp) : Option Row → List V → Prop
  | none, acc => acc = []
  | some r, acc => ∃ t tr, acc = [.ref t] ∧ F t = some (.tup [.int r.1, .str r.2.1, .str r.2.2.1, .ref tr]) ∧ F tr = some (.tup (r.2.2.2.map V.str))
theorem FndA.at {F H : Hp} {fo : Addr} {ro : Option Row} {acc : List V} (h : FndA F ro acc) (s : Same F H) (e : H fo = some (.lst acc)) : FoundAt H fo ro := by
  cases ro with
  | none =>
    rw [show acc = [] from h] at e
    exact e
  | some r =>
    obtain ⟨t, tr, rfl, h2, h3⟩ := h
    exact ⟨t, tr, e, s _ _ h2, s _ _ h3⟩
theorem FndA.len {F : Hp} {ro : Option Row} {acc : List V} (h : FndA F ro acc) : acc.length ≤ 1 := by
  cases ro with
  | none =>
    rw [show acc = [] from h]
    exact Nat.zero_le _
  | some r =>
    obtain ⟨t, tr, rfl, _⟩ := h
    exact Nat.le_refl _
theorem fnd_step {rows : List Row} {i : Nat} {r : Row} {k : Int} (up : rows.Pairwise fun r s => r.1 < s.1) (e : rows[i]? = some r) : (r.1 = k → fnd (rows.take i) k = none ∧ fnd (rows.take (i + 1)) k = some r) ∧ (r.1 ≠ k → fnd (rows.take (i + 1)) k = fnd (rows.take i) k) := by
  have t1 : rows.take (i + 1) = rows.take i ++ [r] := by rw [List.take_add_one, e]; rfl
  have f1 : fnd (rows.take (i + 1)) k = (fnd (rows.take i) k).or (fnd [r] k) := by
    unfold fnd
    rw [t1, List.find?_append]
  refine ⟨fun z => ?_, fun z => ?_⟩
  · have f0 : fnd (rows.take i) k = none := by
      cases hf : fnd (rows.take i) k with
      | none => rfl
      | some s =>
        exfalso
        obtain ⟨m, es⟩ := fnd_mem hf
        have p2 : (rows.take (i + 1)).Pairwise fun r s => r.1 < s.1 := up.sublist (List.take_sublist _ _)
        rw [t1] at p2
        have := (List.pairwise_append.mp p2).2.2 s m r (List.mem_singleton.mpr rfl)
        omega
    refine ⟨f0, ?_⟩
    rw [f1, f0]
    unfold fnd
    rw [List.find?_cons_of_pos (by simpa using z)]
    rfl
  · rw [f1]
    have : fnd [r] k = none := by
      unfold fnd
      rw [List.find?_cons_of_neg (by simpa using z)]
      rfl
    rw [this, Option.or_none]
end

end K86

namespace K86
open PySem PySem.Spec PyProof.Rows L2 Qk
local macro_rules | `(tactic| walk_at "m") => `(tactic| ((repeat (first | exact List.Mem.head _ | apply List.Mem.tail)); done))
local macro_rules | `(tactic| walk_at "h") => `(tactic| first | assumption | exact Has.gF (by assumption) (by assumption) | exact Has.get (by assumption) (by walk_at "m"))
local macro_rules | `(tactic| walk_at "c") => `(tactic| ((repeat (first | exact Chg.hd | apply Chg.tl)); done))
local macro_rules | `(tactic| walk_at "is") => `(tactic| first
  | ((with_reducible refine' is2_non ?gh ?_); (case gh => walk_at "h"))
  | (with_reducible refine is_int_list ?_)
  | (with_reducible refine is_int_tuple ?_)
  | (with_reducible refine is_int_dict ?_)
  | (with_reducible refine is_int_int ?_)
  | (with_reducible refine is_int_bool ?_)
  | (with_reducible refine is_int_str ?_)
  | ((with_reducible refine' is2_int ?gh ?_); (case gh => walk_at "h"))
  | (with_reducible refine is_str_list ?_)
  | (with_reducible refine is_str_tuple ?_)
  | (with_reducible refine is_str_dict ?_)
  | (with_reducible refine is_str_int ?_)
  | (with_reducible refine is_str_bool ?_)
  | (with_reducible refine is_str_str ?_)
  | ((with_reducible refine' is2_str ?gh ?_); (case gh => walk_at "h"))
  | (with_reducible refine is_bool_list ?_)
  | (with_reducible refine is_bool_tuple ?_)
  | (with_reducible refine is_bool_dict ?_)
  | (with_reducible refine is_bool_int ?_)
  | (with_reducible refine is_bool_bool ?_)
  | (with_reducible refine is_bool_str ?_)
  | ((with_reducible refine' is2_bool ?gh ?_); (case gh => walk_at "h"))
  | ((with_reducible refine' is_list_list ?gh ?_); (case gh => walk_at "h"))
  | ((with_reducible refine' is_list_tuple ?gh ?_); (case gh => walk_at "h"))
  | ((with_reducible refine' is_list_dict ?gh ?_); (case gh => walk_at "h"))
  | ((with_reducible refine' is_list_int ?gh ?_); (case gh => walk_at "h"))
  | ((with_reducible refine' is_list_bool ?gh ?_); (case gh => walk_at "h"))
  | ((with_reducible refine' is_list_str ?gh ?_); (case gh => walk_at "h"))
  | ((with_reducible refine' is2_list ?ga ?gb ?_); (case ga => walk_at "h"); (case gb => walk_at "h"))
  | ((with_reducible refine' is_tuple_list ?gh ?_); (case gh => walk_at "h"))
  | ((with_reducible refine' is_tuple_tuple ?gh ?_); (case gh => walk_at "h"))
  | ((with_reducible refine' is_tuple_dict ?gh ?_); (case gh => walk_at "h"))
  | ((with_reducible refine' is_tuple_int ?gh ?_); (case gh => walk_at "h"))
  | ((with_reducible refine' is_tuple_bool ?gh ?_); (case gh => walk_at "h"))
  | ((with_reducible refine' is_tuple_str ?gh ?_); (case gh => walk_at "h"))
  | ((with_reducible refine' is2_tuple ?ga ?gb ?_); (case ga => walk_at "h"); (case gb => walk_at "h"))
  | ((with_reducible refine' is_dict_list ?gh ?_); (case gh => walk_at "h"))
  | ((with_reducible refine' is_dict_tuple ?gh ?_); (case gh => walk_at "h"))
  | ((with_reducible refine' is_dict_dict ?gh ?_); (case gh => walk_at "h"))
  | ((with_reducible refine' is_dict_int ?gh ?_); (case gh => walk_at "h"))
  | ((with_reducible refine' is_dict_bool ?gh ?_); (case gh => walk_at "h"))
  | ((with_reducible refine' is_dict_str ?gh ?_); (case gh => walk_at "h"))
  | ((with_reducible refine' is2_dict ?ga ?gb ?_); (case ga => walk_at "h"); (case gb => walk_at "h")))
local macro_rules | `(tactic| walk_at "g") => `(tactic| first
  | (with_reducible refine g_seq ?_)
  | (with_reducible refine g_asg ?_)
  | ((with_reducible refine g_name ?_); dsimp only [List.set, wipe, List.map])
  | ((with_reducible refine' g_var ?gv ?_); (case gv => exact rfl))
  | (with_reducible refine g_c ?_)
  | (with_reducible refine g_op ?_)
  | (with_reducible refine g_cons ?_)
  | (with_reducible refine g_nil ?_)
  | (with_reducible refine g_cb ?_)
  | (with_reducible refine g_call ?_)
  | (with_reducible refine g_tup ?_)
  | (with_reducible refine g_lst ?_)
  | (with_reducible refine g_bm ?_)
  | (with_reducible refine g_bm0 ?_)
  | ((with_reducible refine' g_kbm ?gh ?_); (case gh => walk_at "h"))
  | (with_reducible refine g_drop ?_)
  | (with_reducible refine g_ret ?_)
  | (with_reducible refine g_retN ?_)
  | (with_reducible refine g_next ?_)
  | (with_reducible refine g_brk ?_)
  | (with_reducible refine g_cont ?_)
  | (with_reducible refine g_if ?_)
  | ((with_reducible refine' g_aug ?gv ?_); (case gv => exact rfl))
  | (with_reducible refine g_ipI ?_)
  | (with_reducible refine g_test ?_)
  | (with_reducible refine g_tB ?_)
  | (with_reducible refine g_kB ?_)
  | (with_reducible refine g_not ?_)
  | (with_reducible refine g_and ?_)
  | (with_reducible refine g_or ?_)
  | (with_reducible refine g_andV ?_)
  | (with_reducible refine g_orV ?_)
  | (with_reducible refine g_notV ?_)
  | (with_reducible refine g_ifE ?_)
  | (with_reducible refine g_addI ?_)
  | (with_reducible refine g_rI0 ?_)
  | (with_reducible refine g_eqI ?_)
  | (with_reducible refine g_eqS ?_)
  | (with_reducible refine g_neI ?_)
  | (with_reducible refine g_neS ?_)
  | (with_reducible refine g_isN ?_)
  | (with_reducible refine g_notN ?_)
  | (with_reducible refine g_int ?_)
  | (with_reducible refine g_max2 ?_)
  | ((with_reducible refine' g_lenL ?gh ?_); (case gh => walk_at "h"))
  | (with_reducible refine g_sub ?_)
  | (with_reducible refine g_gcons ?_)
  | (with_reducible refine g_gnil ?_)
  | (with_reducible refine g_un ?_)
  | (with_reducible refine g_rU ?_)
  | (with_reducible refine g_forL ?_)
  | (with_reducible refine g_forR1 ?_)
  | (with_reducible refine g_forR2 ?_)
  | (with_reducible refine g_forR3 ?_)
  | (with_reducible refine g_lcL ?_)
  | (with_reducible refine g_lcR1 ?_)
  | (with_reducible refine g_lcR2 ?_)
  | (with_reducible refine g_slice ?_)
  | (with_reducible refine g_part ?_)
  | (with_reducible refine g_kOI ?_)
  | (with_reducible refine g_nopart ?_)
  | (with_reducible refine g_yes ?_)
  | ((with_reducible refine' g_wipe ?gv ?_); (case gv => exact rfl))
  | (with_reducible refine iteT ?_)
  | (with_reducible refine iteF ?_)
  | (with_reducible refine i_nf ?_)
  | (with_reducible refine i_nt ?_)
  | ((with_reducible refine' g_gtup ?gh ?gl ?_); (case gh => walk_at "h"); (case gl => exact rfl))
  | ((with_reducible refine' g_notinI ?gh ?_); (case gh => walk_at "h"))
  | ((with_reducible refine' g_inI ?gh ?_); (case gh => walk_at "h"))
  | ((with_reducible refine' g_kget2 ?gh ?_); (case gh => walk_at "h"))
  | ((with_reducible refine' g_kgotI ?gh ?_); (case gh => walk_at "h"))
  | (with_reducible refine g_tRev ?_)
  | (with_reducible refine g_neB ?_)
  | (with_reducible refine g_eqB ?_)
  | ((with_reducible refine' g_lenT ?gh ?_); (case gh => walk_at "h"))
  | (with_reducible refine g_star ?_)
  | ((with_reducible refine' g_kstarL ?gh ?_); (case gh => walk_at "h"))
  | ((with_reducible refine' g_kstarT ?gh ?_); (case gh => walk_at "h"))
  | (with_reducible refine g_tru ?_)
  | ((with_reducible refine' g_truL ?gh ?_); (case gh => walk_at "h"))
  | (with_reducible refine g_get2 ?_)
  | (with_reducible refine g_try ?_)
  | (with_reducible refine g_fld ?_)
  | (with_reducible refine g_sfld ?_)
  | (with_reducible refine g_meth ?_)
  | (with_reducible refine g_make ?_)
  | (with_reducible refine g_del ?_)
  | (with_reducible refine g_callS ?_)
  | (with_reducible refine g_raise ?_)
  | (with_reducible refine g_xf ?_)
  | walk_at "is")
local macro_rules | `(tactic| walk_at "gg") => `(tactic| repeat walk_at "g")
local macro_rules | `(tactic| walk_at "sz") => `(tactic| (refine sz ?_; simp only [List.length_cons, List.length_nil, List.length_map, List.length_append, List.length_replicate]; omega))
local macro_rules | `(tactic| walk_at "sub") => `(tactic| ((repeat (first | exact List.Sublist.slnil | with_reducible apply List.Sublist.cons_cons | with_reducible apply List.Sublist.cons)); done))

section
variable {P : Program} {w : World} {K : PySem.W.Frag} {mg : Str → Option Value} {base : Heap}
def sp_law (K : PySem.W.Frag) : Sp := fun vs H Q _ => ∃ (a : Addr) (ns : List Int), vs = [.ref a] ∧ SqL K H a (ns.map V.int) ∧ ns.length ≤ 63 ∧ ∀ H', Q (.bl true) H'
theorem sp_law_len {vs H Q E} (h : sp_law K vs H Q E) : vs.length = 1 := by
  obtain ⟨_, _, rfl, _⟩ := h
  rfl
theorem sp_law_start {H : Hp} {a : Addr} {ns : List Int} (hl : ns.length ≤ 63) (hS : SqL K H a (ns.map V.int)) : sp_law K [.ref a] H (fun v _ => v = .bl true) (fun _ _ _ => False) := ⟨a, ns, rfl, hS, hl, fun _ => rfl⟩
def planW : List Str := ["send", "send", "double", "deliver", "look", "lose", "send", "double", "lose", "deliver"]
theorem plan_mem {z : Str} (h : z ∈ planW) (ns : z ≠ "send") : z = "double" ∨ z = "deliver" ∨ z = "look" ∨ z = "lose" := by
  unfold planW at h
  simp only [List.mem_cons, List.not_mem_nil, or_false] at h
  rcases h with rfl | rfl | rfl | rfl | rfl | rfl | rfl | rfl | rfl | rfl
  · exact (ns rfl).elim
  · exact (ns rfl).elim
  · exact .inl rfl
  · exact .inr (.inl rfl)
  · exact .inr (.inr (.inl rfl))
  · exact .inr (.inr (.inr rfl))
  · exact (ns rfl).elim
  · exact .inl rfl
  · exact .inr (.inr (.inr rfl))
  · exact .inr (.inl rfl)
theorem Tld.up {F F' : Hp} {X : Own} {p : Addr} {word : Str} {n : Int} {ro : Option Row} (t : Tld F X p word n ro) (s : Same F F') : Tld F' X p word n ro := by
  cases ro with
  | none => exact ⟨t.1, s _ _ t.2⟩
  | some r =>
    obtain ⟨v, hp, hv⟩ := t
    refine ⟨v, s _ _ hp, ?_⟩
    rcases hv with ⟨a, q, l, rfl, hq, rfl⟩ | h | h
    · exact .inl ⟨a, q, l, rfl, s _ _ hq, rfl⟩
    · exact .inr (.inl h)
    · exact .inr (.inr h)
theorem Tld.X {F : Hp} {X : Own} {p : Addr} {word : Str} {n : Int} {ro : Option Row} (t : Tld F X p word n ro) : ∀ x ∈ X, ∀ xs, x.2 ≠ .tup xs := by
  cases ro with
  | none => rw [t.1]; exact fun x hx => by cases hx
  | some r =>
    obtain ⟨v, hp, hv⟩ := t
    rcases hv with ⟨a, q, l, rfl, hq, rfl⟩ | ⟨_, _, rfl⟩ | ⟨_, _, _, _, rfl⟩
    · exact fun x hx xs => by rw [List.mem_singleton.mp hx]; exact fun z => by cases z
    · exact fun x hx => by cases hx
    · exact fun x hx => by cases hx
theorem Tld.nt {T : Txt K mg} {a1 x1 d1 a2 x2 d2 c : Addr} {kvs kvs2 : List (Key × V)} {n1 n2 : Int} {cs : List V} {F : Hp} {X : Own} {p : Addr} {word : Str} {n : Int} {ro : Option Row} (t : Tld F X p word n ro) :
    ∀ x ∈ X ++ (NetO T a1 x1 d1 kvs n1 ++ ((c, .lst cs) :: NetO T a2 x2 d2 kvs2 n2)), ∀ xs, x.2 ≠ .tup xs := by
  intro x hx xs
  rcases List.mem_append.mp hx with hx | hx
  · exact t.X x hx xs
  · simp only [NetO, List.cons_append, List.nil_append, List.mem_cons, List.not_mem_nil, or_false] at hx
    rcases hx with rfl | rfl | rfl | rfl | rfl | rfl | rfl <;> exact fun z => by cases z
/-- ways that meet; the rest of the way out of sight -/
theorem g_joinD {t : TS} {D : Ends} {σ : L2.St} {H : Hp} (M : L2.St → Hp → Prop) (h : ∀ σ' H', M σ' H' → D.nx σ' H') (q : ∀ nx' : L2.St → Hp → Prop, (∀ σ' H', M σ' H' → nx' σ' H') → t { D with nx := nx' } σ H) : t D σ H := q D.nx h
theorem init_addr {T : Txt K mg} {H : Hp} {a x d : Addr} (n : H d = none) : ∀ q ∈ NetO T a x d [] 0, q.1 ∈ ([(a, HO.ins T.C_Net x []), (x, HO.own a)] : Own).map (·.1) ∨ H q.1 = none := fun q hq => by
  simp only [NetO, List.mem_cons, List.not_mem_nil, or_false] at hq
  rcases hq with rfl | rfl | rfl
  · exact .inl (by simp)
  · exact .inl (by simp)
  · exact .inr n
set_option maxHeartbeats 4000000 in
theorem ok_law (T : Txt K mg) : FnOk P w K mg base CX0 6 T.f_law T.fd_law ["script"] (sp_law K) := by
  refine T.F_law.ok sc_law (fun vs H Q E h => sp_law_len h) (fun cdv A outer s H vs Q E hr h => ?_)
  refine ⟨_, (pss_cons (ps_set (i := 1) sc_law.nd rfl (.inl rfl) (pe_call (ok_l_cells T) (hr.mono (by decide)) (by rfl) T.g_l_cells T.F_l_cells.kp T.b_l_cells .nil pass0 (pa_cons (pv 0) pa_nil)))
      (pss_cons (ps_set (i := 2) sc_law.nd rfl (.inl rfl) (pe_call (ok_l_next T) (hr.mono (by decide)) (by rfl) T.g_l_next T.F_l_next.kp T.b_l_next .nil pass0 (pa_cons (pv 1) (pa_cons pe_int pa_nil))))
      (pss_cons (ps_set (i := 3) sc_law.nd rfl (.inl rfl) (pe_lst (pa_cons pe_str (pa_cons pe_str (pa_cons pe_str (pa_cons pe_str (pa_cons pe_str (pa_cons pe_str (pa_cons pe_str (pa_cons pe_str (pa_cons pe_str (pa_cons pe_str pa_nil))))))))))))
      (pss_cons (ps_set (i := 4) sc_law.nd rfl (.inl rfl) (pe_make0 T.Mk_Net (ok_Net___init__ T) (hr.mono (by decide)) (by rfl) T.g_Net T.b_Net___init__ .nil pass0))
      (pss_cons (ps_set (i := 5) sc_law.nd rfl (.inl rfl) (pe_make0 T.Mk_Net (ok_Net___init__ T) (hr.mono (by decide)) (by rfl) T.g_Net T.b_Net___init__ .nil pass0))
      (pss_cons (ps_set (i := 6) sc_law.nd rfl (.inl rfl) (pe_lst pa_nil))
      (pss_cons (ps_set (i := 7) sc_law.nd rfl (.inl rfl) pe_int)
      (pss_cons (ps_set (i := 8) sc_law.nd rfl (.inl rfl) (pe_lst pa_nil))
      (pss_cons (ps_if (pt_not (pt_val (pe_call (ok_l_shows T) (hr.mono (by decide)) (by rfl) T.g_l_shows T.F_l_shows.kp T.b_l_shows .nil pass0 (pa_cons (pv 4) (pa_cons (pv 6) pa_nil))))) (pss_one (ps_ret pe_bl)) pss_nil)
      (pss_cons (ps_for PassesOwn.never rfl (pi_range1 rfl T.m_range (pa_cons (pe_op op_mod (pe_callTy cr_int1 (by rfl) T.m_int (by decide +kernel) (pa_cons (pe_op (op_addK K) pe_int (pe_call (ok_l_next T) (hr.mono (by decide)) (by rfl) T.g_l_next T.F_l_next.kp T.b_l_next .nil pass0 (pa_cons (pv 1) (pa_cons pe_int pa_nil)))) pa_nil)) pe_int) pa_nil)) (pg_name (i := 9) sc_law.nd rfl (.inl rfl)) (pss_cons (ps_set (i := 6) sc_law.nd rfl (.inl rfl) (pe_call (ok_l_sent T) (hr.mono (by decide)) (by rfl) T.g_l_sent T.F_l_sent.kp T.b_l_sent .nil pass0 (pa_cons (pv 1) (pa_cons (pv 4) (pa_cons (pv 6) (pa_cons (pv 7) (pa_cons (pv 9) pa_nil)))))))
      (pss_cons (ps_if (pt_cmpR (op_eqK K hr.units) (pv 6) (pe_lst pa_nil) (nomark _)) (pss_one (ps_ret pe_bl)) pss_nil)
      (pss_one (ps_set (i := 7) sc_law.nd rfl (.inl rfl) (pe_op (op_addK K) (pv 7) pe_int))))))
      (pss_cons (ps_for PassesOwn.never rfl (pi_range1 rfl T.m_range (pa_cons pe_int pa_nil)) (pg_name (i := 9) sc_law.nd rfl (.inl rfl)) (pss_cons (ps_set (i := 10) sc_law.nd rfl (.inl rfl) (pe_ix (ix_K K (hu_of hr)) (pv 3) (pe_op op_mod (pe_callTy cr_int1 (by rfl) T.m_int (by decide +kernel) (pa_cons (pe_op (op_addK K) (pe_op (op_addK K) (pv 9) (pv 2)) (pe_call (ok_l_next T) (hr.mono (by decide)) (by rfl) T.g_l_next T.F_l_next.kp T.b_l_next .nil pass0 (pa_cons (pv 1) (pa_cons pe_int pa_nil)))) pa_nil)) pe_int) (fun _ _ => rfl)))
      (pss_cons (ps_if (pt_cmpR (op_eqK K hr.units) (pv 10) pe_str (nomark _)) (pss_cons (ps_set (i := 6) sc_law.nd rfl (.inl rfl) (pe_call (ok_l_sent T) (hr.mono (by decide)) (by rfl) T.g_l_sent T.F_l_sent.kp T.b_l_sent .nil pass0 (pa_cons (pv 1) (pa_cons (pv 4) (pa_cons (pv 6) (pa_cons (pv 7) (pa_cons (pv 9) pa_nil)))))))
      (pss_cons (ps_if (pt_cmpR (op_eqK K hr.units) (pv 6) (pe_lst pa_nil) (nomark _)) (pss_one (ps_ret pe_bl)) pss_nil)
      (pss_one (ps_set (i := 7) sc_law.nd rfl (.inl rfl) (pe_op (op_addK K) (pv 7) pe_int))))) (pss_cons (ps_set (i := 11) sc_law.nd rfl (.inr rfl) (pe_call (ok_l_pick T) (hr.mono (by decide)) (by rfl) T.g_l_pick T.F_l_pick.kp T.b_l_pick .nil pass0 (pa_cons (pv 1) (pa_cons (pv 6) (pa_cons (pv 7) pa_nil)))))
      (pss_cons (ps_setLc (i := 12) (own := [("row", 14)]) (g := gName 14) rfl sc_law.nd rfl rfl (sw_true rfl rfl rfl (by decide +kernel)) (k_il K (pi_list (pv 6))) (blkOk_by (N := n_law) (sc := defScope s_law) (by decide +kernel)) (fun _ _ _ _ _ => (pg_name (i := 14) sc_law.nd rfl (.inl rfl))) (fun _ _ _ _ _ => (pts_one (pt_cmpR (op_eqK K hr.units) (pe_ix (ix_K K (hu_of hr)) (pv 14) pe_int (fun _ _ => rfl)) (pv 11) (nomark _)))) (fun _ _ _ _ _ => (pv 14)))
      (pss_cons (ps_set (i := 13) sc_law.nd rfl (.inl rfl) (pe_call (ok_l_ask T) (hr.mono (by decide)) (by rfl) T.g_l_ask T.F_l_ask.kp T.b_l_ask .nil pass0 (pa_cons (pv 4) (pa_cons (pv 10) (pa_cons (pv 11) pa_nil)))))
      (pss_cons (ps_if (pt_not (pt_val (pe_call (ok_l_right T) (hr.mono (by decide)) (by rfl) T.g_l_right T.F_l_right.kp T.b_l_right .nil pass0 (pa_cons (pv 13) (pa_cons (pv 10) (pa_cons (pv 12) (pa_cons (pv 7) pa_nil))))))) (pss_one (ps_ret pe_bl)) pss_nil)
      (pss_cons (ps_set (i := 6) sc_law.nd rfl (.inl rfl) (pe_call (ok_l_left T) (hr.mono (by decide)) (by rfl) T.g_l_left T.F_l_left.kp T.b_l_left .nil pass0 (pa_cons (pv 6) (pa_cons (pv 10) (pa_cons (pv 12) (pa_cons (pv 7) pa_nil))))))
      (pss_cons (ps_if (PW.pt (pw_and (pt_cmpR (op_eqK K hr.units) (pv 10) pe_str (nomark _)) (pw_and1 (pt_cmpR (op_neK K hr.units) (pv 12) (pe_lst pa_nil) (nomark _))))) (pss_one (ps_set (i := 7) sc_law.nd rfl (.inl rfl) (pe_op (op_addK K) (pv 7) pe_int))) pss_nil)
      (pss_one (ps_if (PW.pt (pw_and (pt_cmpR (op_eqK K hr.units) (pe_ix (ix_K K (hu_of hr)) (pv 13) pe_int (fun _ _ => rfl)) pe_str (nomark _)) (pw_and1 (pt_cmpR (op_inK K hr.units (u65 hr)) (pv 10) (pe_lst (pa_cons pe_str (pa_cons pe_str pa_nil))) (by rfl))))) (pss_one (ps_expr (k_bm K (pe_bm PySem.F.plainAttrs_list PySem.F.slot_list_append PySem.F.type_list_append mt_append (pe_ix (ix_K K (hu_of hr)) (pe_ix (ix_K K (hu_of hr)) (pv 13) pe_int (fun _ _ => rfl)) pe_int (fun _ _ => rfl)) (pa_cons pe_str pa_nil))))) pss_nil)))))))))
      (pss_cons (ps_if (pt_cmpR (op_eqK K hr.units) (pe_call (ok_l_next T) (hr.mono (by decide)) (by rfl) T.g_l_next T.F_l_next.kp T.b_l_next .nil pass0 (pa_cons (pv 1) (pa_cons pe_int pa_nil))) (pe_callTy cr_int1 (by rfl) T.m_int (by decide +kernel) (pa_cons (pe_cmpR (op_eqK K hr.units) (pe_op op_mod (pv 9) pe_int) pe_int (nomark _)) pa_nil)) (nomark _)) (pss_cons (ps_set (i := 8) sc_law.nd rfl (.inl rfl) (pe_call (ok_l_sent T) (hr.mono (by decide)) (by rfl) T.g_l_sent T.F_l_sent.kp T.b_l_sent .nil pass0 (pa_cons (pv 1) (pa_cons (pv 5) (pa_cons (pv 8) (pa_cons (pe_callB (cr_lenK K) (by rfl) T.m_len (by decide +kernel) (pa_cons (pv 8) pa_nil)) (pa_cons (pe_op (op_addK K) (pv 9) pe_int) pa_nil)))))))
      (pss_one (ps_if (pt_cmpR (op_eqK K hr.units) (pv 8) (pe_lst pa_nil) (nomark _)) (pss_one (ps_ret pe_bl)) pss_nil))) pss_nil)
      (pss_one (ps_if (pt_not (pt_val (pe_call (ok_l_shows T) (hr.mono (by decide)) (by rfl) T.g_l_shows T.F_l_shows.kp T.b_l_shows .nil pass0 (pa_cons (pv 4) (pa_cons (pv 6) pa_nil))))) (pss_one (ps_ret pe_bl)) pss_nil))))))
      (pss_one (ps_ret (pe_call (ok_l_shows T) (hr.mono (by decide)) (by rfl) T.g_l_shows T.F_l_shows.kp T.b_l_shows .nil pass0 (pa_cons (pv 5) (pa_cons (pv 8) pa_nil)))))))))))))))), ?_⟩
  obtain ⟨sc, ns, rfl, hS, hl, q⟩ := h
  refine g_start (σ' := [some (.ref sc), none, none, none, none, none, none, none, none, none, none, none, none, none, none]) rfl ?_
  walk_at "gg"
  refine ⟨sc, ns, rfl, hS, hl, fun c H1 ns1 n1 h1 ok1 => ?_⟩
  unfold FeedO at h1
  walk_at "gg"
  refine ⟨c, ns1, 10, rfl, h1.get (List.Mem.head _), ok1, by decide, by decide, fun H2 ns2 turn hb e ok2 t0 t1 => ?_⟩
  have h2 := h1.but .hd hb e
  walk_at "gg"
  refine g_klstF (by walk_at "sz") h2 (fun pl H3 F3 n3 s3 fpl h3 => ?_)
  walk_at "gg"
  have fpl : F3 pl = some (.lst (planW.map V.str)) := fpl
  refine g_kmake h3 (fun a1 x1 H4 n4 h4 => ?_)
  refine ⟨a1, x1, F3, rfl, h4.sub (by walk_at "sub"), fun d1 H5 n5 hb5 h5 => ⟨rfl, ?_⟩⟩
  have h5 := Has.grownA (A := [(a1, .ins T.C_Net x1 []), (x1, .own a1)]) (R := [(c, .lst (ns2.map V.int))]) h4 hb5 Grow.refl h5 (init_addr n5)
  walk_at "gg"
  refine g_kmake h5 (fun a2 x2 H6 n6 h6 => ?_)
  refine ⟨a2, x2, F3, rfl, h6.sub (List.sublist_append_left [(a2, HO.ins T.C_Net x2 []), (x2, HO.own a2)] _), fun d2 H7 n7 hb7 h7 => ⟨rfl, ?_⟩⟩
  have h7 := Has.grownA (A := [(a2, .ins T.C_Net x2 []), (x2, .own a2)]) (R := NetO T a1 x1 d1 [] 0 ++ [(c, .lst (ns2.map V.int))]) h6 hb7 Grow.refl h7 (init_addr n7)
  have h7 := h7.perm (List.perm_append_comm (l₁ := NetO T a1 x1 d1 [] 0 ++ [(c, HO.lst (ns2.map V.int))]) (l₂ := NetO T a2 x2 d2 [] 0))
  walk_at "gg"
  refine g_klstF (by walk_at "sz") h7 (fun r1 H8 F8 n8 s8 fr1 h8 => ?_)
  walk_at "gg"
  refine g_klstF (by walk_at "sz") h8 (fun r2 H9 F9 n9 s9 fr2 h9 => ?_)
  have fr1 := s9 _ _ fr1
  have fpl := s9 _ _ (s8 _ _ fpl)
  have st : StF T ⟨c, a1, x1, d1, a2, x2, d2⟩ F9 H9 r1 r2 [] [] 0 0 := ⟨[], [], ns2, h9, NetOk.empty, NetOk.empty, ok2, ⟨[], fr1, .nil⟩, ⟨[], fr2, .nil⟩⟩
  walk_at "gg"
  refine st.shows1 (fun H10 st => ?_)
  walk_at "gg"
  refine st.next (by decide) (by decide) (fun H11 r st g0 g1 => ?_)
  walk_at "gg"
  refine g_rI (by show (0 : Int) < 12; decide) ?_
  walk_at "gg"
  have em0 : 0 ≤ (9 + r) % 12 := Int.emod_nonneg _ (by decide)
  have em1 : (9 + r) % 12 < 12 := Int.emod_lt_of_pos _ (by decide)
  generalize (9 + r) % 12 = m at em0 em1
  refine k_forR1 (fun t σ H' => ∃ (r1 : Addr) (rows : List Row) (n : Int) (F : Hp) (y9 : Option V), σ = [some (.ref sc), some (.ref c), some (.int turn), some (.ref pl), some (.ref a1), some (.ref a2), some (.ref r1), some (.int n), some (.ref r2), y9, none, none, none, none, none] ∧
    StF T ⟨c, a1, x1, d1, a2, x2, d2⟩ F H' r1 r2 rows [] n 0 ∧ F pl = some (.lst (planW.map V.str)) ∧ rows.length ≤ t ∧ n = t) (by omega) (by omega) ⟨r1, [], 0, F9, _, rfl, st, fpl, Nat.le_refl _, rfl⟩ ?_ ?_
  · rintro t σ H' ht ⟨r1, rows, n, F, y9, rfl, st, fpl, lr, rfl⟩
    walk_at "gg"
    refine st.sent1 (by omega) (fun p F1 H1 row s st => ?_)
    walk_at "gg"
    refine st.tmp (by walk_at "sz") (fun p5 H5 hp5 st => ?_)
    refine rows_nil st hp5 ?_
    rw [isEmpty_snoc]
    walk_at "gg"
    exact ⟨p, rows ++ [row], _, F1, _, rfl, st, s _ _ fpl, by rw [List.length_append]; show _ + 1 ≤ _; omega, by omega⟩
  rintro σ H' ⟨r1, rows, n, F, y9, rfl, st, fpl, lr, rfl⟩
  walk_at "gg"
  refine k_forR1 (fun t σ H' => ∃ (r1 r2 : Addr) (rows rows2 : List Row) (n n2 : Int) (F : Hp) (y9 y10 y11 y12 y13 y14 : Option V), σ = [some (.ref sc), some (.ref c), some (.int turn), some (.ref pl), some (.ref a1), some (.ref a2), some (.ref r1), some (.int n), some (.ref r2), y9, y10, y11, y12, y13, y14] ∧
    StF T ⟨c, a1, x1, d1, a2, x2, d2⟩ F H' r1 r2 rows rows2 n n2 ∧ F pl = some (.lst (planW.map V.str)) ∧ rows.length ≤ 11 + t ∧ 0 ≤ n ∧ n ≤ 11 + t ∧ n2 = rows2.length ∧ rows2.length ≤ t) (by decide) (by decide) ⟨r1, r2, rows, [], _, 0, F, _, _, _, _, _, _, rfl, st, fpl, by omega, by omega, by omega, rfl, Nat.zero_le _⟩ ?_ ?_
  · rintro t σ H1 ht ⟨r1, r2, rows, rows2, n, n2, F, y9, y10, y11, y12, y13, y14, rfl, st, fpl, lr, n0, n1, e2, l2⟩
    have ht : t < 10 := ht
    walk_at "gg"
    refine st.next (by decide) (by decide) (fun H2 r st g0 g1 => ?_)
    walk_at "gg"
    refine g_rI (by show (0 : Int) < 10; decide) ?_
    have fpl2 : H2 pl = some (.lst (planW.map V.str)) := by
      obtain ⟨_, _, _, h, _⟩ := st
      exact h.same _ _ fpl
    refine g_ixZ fpl2 (Int.emod_nonneg _ (by decide)) (by show _ < (10 : Int); exact Int.emod_lt_of_pos _ (by decide)) (fun word hz => ?_)
    have wm := List.mem_of_getElem? hz
    clear hz
    walk_at "g"
    walk_at "g"
    refine g_joinD (fun σ' H' => ∃ (r1 : Addr) (rows : List Row) (n : Int) (F : Hp) (y11 y12 y13 y14 : Option V), σ' = [some (.ref sc), some (.ref c), some (.int turn), some (.ref pl), some (.ref a1), some (.ref a2), some (.ref r1), some (.int n), some (.ref r2), some (.int (t : Int)), some (.str word), y11, y12, y13, y14] ∧
      StF T ⟨c, a1, x1, d1, a2, x2, d2⟩ F H' r1 r2 rows rows2 n n2 ∧ F pl = some (.lst (planW.map V.str)) ∧ rows.length ≤ 12 + t ∧ 0 ≤ n ∧ n ≤ 12 + t) ?_ (fun nx' key => ?_)
    · rintro σ' H' ⟨r1, rows, n, F, y11, y12, y13, y14, rfl, st, fpl, lr, n0, n1⟩
      subst e2
      walk_at "gg"
      refine st.next (by decide) (by decide) (fun H3 r3 st g0 g1 => ?_)
      walk_at "gg"
      refine g_rI (by show (0 : Int) < 3; decide) ?_
      walk_at "gg"
      refine g_intB ?_
      walk_at "gg"
      refine i_d (fun z => ?_) (fun z => ?_)
      · obtain ⟨_, us2, _, _, hr2, du2⟩ := st.at2
        have lu : us2.length = rows2.length := by rw [du2.len, List.length_map]
        walk_at "gg"
        rw [lu]
        refine st.sent2 (by omega) (fun p F4 H4 row s st => ?_)
        walk_at "gg"
        refine st.tmp (by walk_at "sz") (fun p5 H5 hp5 st => ?_)
        refine rows2_nil st hp5 ?_
        rw [isEmpty_snoc]
        walk_at "gg"
        refine st.shows1 (fun H6 st => ?_)
        walk_at "gg"
        exact ⟨r1, p, rows, rows2 ++ [row], n, _, F4, _, _, _, _, _, _, rfl, st, s _ _ fpl, by omega, n0, by omega, by rw [List.length_append]; rfl, by rw [List.length_append]; show _ + 1 ≤ _; omega⟩
      · walk_at "gg"
        refine st.shows1 (fun H6 st => ?_)
        walk_at "gg"
        exact ⟨r1, r2, rows, rows2, n, _, F, _, _, _, _, _, _, rfl, st, fpl, by omega, n0, by omega, rfl, by omega⟩
    walk_at "gg"
    refine i_d (fun z => ?_) (fun z => ?_)
    · walk_at "gg"
      refine st.sent1 (by omega) (fun p F1 H3 row s st => ?_)
      walk_at "gg"
      refine st.tmp (by walk_at "sz") (fun p5 H5 hp5 st => ?_)
      refine rows_nil st hp5 ?_
      rw [isEmpty_snoc]
      walk_at "gg"
      exact key _ _ ⟨p, rows ++ [row], _, F1, _, _, _, _, rfl, st, s _ _ fpl, by rw [List.length_append]; show _ + 1 ≤ _; omega, by omega, by omega⟩
    have wc := plan_mem wm z
    walk_at "gg"
    refine st.pick n0 (by omega) (fun H3 k st => ?_)
    walk_at "gg"
    obtain ⟨kvs, kvs2, ns, h, ok, ok2, fok, ra, rb⟩ := st
    obtain ⟨us, hr, du⟩ := ra.ex
    have hul : us.length = rows.length := by rw [du.len, List.length_map]
    refine k_lcL (h.same _ _ hr) h (fun i acc F' O' => FndA F' (fnd (rows.take i) k) acc ∧ F' = F ∧ O' = AllO T ⟨c, a1, x1, d1, a2, x2, d2⟩ kvs kvs2 n n2 ns) ⟨rfl, rfl, rfl⟩ ?_ ?_ ?_
    · rintro i acc F' O' H4 ⟨_, rfl, rfl⟩ hh
      exact hh.same _ _ hr
    · rintro i x acc F' O' D H4 hx ⟨fa, rfl, rfl⟩ hh
      obtain ⟨d', hd', dx'⟩ := du.get hx
      rw [List.getElem?_map] at hd'
      obtain ⟨r', hr', rfl⟩ := Option.map_eq_some_iff.mp hd'
      obtain ⟨t', tr, rfl, ht', htr⟩ := rowT_at dx'
      walk_at "gg"
      refine g_ixT (v := .int r'.1) (hh.same _ _ ht') (atI_nat (j := 0) rfl) ?_
      walk_at "gg"
      have st2 := fnd_step (k := k) ok.up hr'
      refine i_d (fun z => ?_) (fun z => ?_)
      · walk_at "gg"
        have s2 := st2.1 z
        rw [s2.1] at fa
        have fa : acc = [] := fa
        subst fa
        exact k_turn hh (Nat.zero_le _) ⟨by rw [s2.2]; exact ⟨t', tr, rfl, ht', htr⟩, rfl, rfl⟩
      · exact k_skip hh ⟨by rw [st2.2 z]; exact fa, rfl, rfl⟩
    rintro acc F5 O5 fo H5 ⟨fa, rfl, rfl⟩ hh
    rw [hul, List.take_length] at fa
    have h5 := hh.frz
    have s5 := hh.grow
    have ffo : upd F5 fo (.lst acc) fo = some (.lst acc) := upd_same
    generalize upd F5 fo (.lst acc) = F6 at h5 s5 ffo
    have hf := fa.at s5 ffo
    have ok := ok.mono s5
    have ok2 := ok2.mono s5
    have hr := s5 _ _ hr
    have du := du.up s5 _ _
    have rb := rb.up s5
    have fpl := s5 _ _ fpl
    have okro : ∀ r, fnd rows k = some r → okR r := fun r e => (ok.ok r (fnd_mem e).1).2
    have h5 : Has F6 (NetO T a1 x1 d1 kvs n ++ ((c, .lst (ns.map V.int)) :: NetO T a2 x2 d2 kvs2 n2)) H5 := h5
    walk_at "gg"
    refine ask_all h5 ok (by omega) (fun told F7 H7 X kvs' s7 h7 ok7 tl => ?_)
    generalize fnd rows k = ro at hf okro h7 ok7 tl
    walk_at "gg"
    refine ⟨told, fo, word, n, ro, rfl, (hf.up s7).up h7.same, tl.tell wc h7, okro, fun H8 s8 => ?_⟩
    have h8 := h7.on s8
    walk_at "gg"
    refine left_all h8 (tl.nt) (s7 _ _ hr) (du.up s7 _ _) (by omega) ((hf.up s7).up h8.same) okro (fun p F9 H9 s9 h9 rp => ?_)
    have s69 := s7.trans s9
    have ok9 := ok7.mono s9
    have ok2 := ok2.mono s69
    have rb := rb.up s69
    have fpl := s69 _ _ fpl
    have hf := hf.up s69
    have tl := tl.up s9
    walk_at "gg"
    cases ro with
    | none =>
      obtain ⟨rfl, hp⟩ := tl
      have h9 : Has F9 (AllO T ⟨c, a1, x1, d1, a2, x2, d2⟩ kvs' kvs2 n n2 ns) H9 := h9
      have e0 : ¬ (("none" : Str) = "told") := by decide +kernel
      refine i_d (fun z1 => ?_) (fun z1 => ?_)
      · walk_at "gg"
        refine g_klst (by walk_at "sz") h9 (fun p2 H10 n10 h10 => ?_)
        refine found_nn (hf.up h10.same) (h10.get (List.Mem.head _)) okro ?_
        have h10 := h10.drop
        rw [show (none : Option Row).isSome = false from rfl]
        walk_at "gg"
        refine g_ixT (v := .str "none") (by walk_at "h") (atI_nat (j := 0) rfl) ?_
        walk_at "gg"
        refine i_d (fun z => (e0 z).elim) (fun _ => ?_)
        walk_at "gg"
        exact key _ _ ⟨p, rows, n, F9, _, _, _, _, rfl, ⟨kvs', kvs2, ns, h10, ok9, ok2, fok, rp, rb⟩, fpl, by omega, n0, by omega⟩
      · walk_at "gg"
        refine g_ixT (v := .str "none") (by walk_at "h") (atI_nat (j := 0) rfl) ?_
        walk_at "gg"
        refine i_d (fun z => (e0 z).elim) (fun _ => ?_)
        walk_at "gg"
        exact key _ _ ⟨p, rows, n, F9, _, _, _, _, rfl, ⟨kvs', kvs2, ns, h9, ok9, ok2, fok, rp, rb⟩, fpl, by omega, n0, by omega⟩
    | some r =>
      obtain ⟨v, hp, hv⟩ := tl
      have ll := lft_len word rows r n
      rcases hv with ⟨wd, q1, l, rfl, hq, rfl⟩ | ⟨wd, rfl, rfl⟩ | ⟨w1, w2, w3, rfl, rfl⟩
      · have nd : word ≠ "double" := by
          rcases wd with rfl | rfl
          · decide +kernel
          · decide +kernel
        have iw : inV (.str word) [.str "look", .str "deliver"] = true := by
          rcases wd with rfl | rfl
          · decide +kernel
          · decide +kernel
        have en : nxt word n = n := if_neg nd
        refine i_d (fun z1 => (nd z1).elim) (fun _ => ?_)
        walk_at "gg"
        refine g_ixT (v := .str "told") (by walk_at "h") (atI_nat (j := 0) rfl) ?_
        walk_at "gg"
        refine i_d (fun _ => ?_) (fun z => (z rfl).elim)
        walk_at "gg"
        refine g_klst (by walk_at "sz") h9 (fun p2 H10 n10 h10 => ?_)
        refine g_inFL (h10.get (List.Mem.head _)) rfl rfl ?_
        have h10 := h10.drop
        rw [iw]
        walk_at "gg"
        refine g_ixT (v := .ref q1) (by walk_at "h") (atI_nat (j := 1) rfl) ?_
        walk_at "gg"
        refine g_ixT (v := .ref l) (by walk_at "h") (atI_nat (j := 2) rfl) ?_
        walk_at "gg"
        refine g_append h10 .hd (szl (by rw [List.length_map]; have := (okro r rfl).2.2.2; omega)) (fun H11 h11 => ?_)
        have h11 := h11.drop
        walk_at "gg"
        exact key _ _ ⟨p, lft word rows r n, nxt word n, F9, _, _, _, _, by rw [en], ⟨kvs', kvs2, ns, h11, ok9, ok2, fok, rp, rb⟩, fpl, by omega, by omega, by omega⟩
      · have h9 : Has F9 (AllO T ⟨c, a1, x1, d1, a2, x2, d2⟩ kvs' kvs2 (nxt word n) n2 ns) H9 := h9
        have iw : inV (.str word) [.str "look", .str "deliver"] = false := by
          subst wd
          decide +kernel
        have en : nxt word n = n + 1 := if_pos wd
        refine i_d (fun _ => ?_) (fun z => (z wd).elim)
        walk_at "gg"
        refine g_klst (by walk_at "sz") h9 (fun p2 H10 n10 h10 => ?_)
        refine found_nn (hf.up h10.same) (h10.get (List.Mem.head _)) okro ?_
        have h10 := h10.drop
        rw [show (some r : Option Row).isSome = true from rfl]
        walk_at "gg"
        refine g_ixT (v := .str "told") (by walk_at "h") (atI_nat (j := 0) rfl) ?_
        walk_at "gg"
        refine i_d (fun _ => ?_) (fun z => (z rfl).elim)
        walk_at "gg"
        refine g_klst (by walk_at "sz") h10 (fun p3 H11 n11 h11 => ?_)
        refine g_inFL (h11.get (List.Mem.head _)) rfl rfl ?_
        have h11 := h11.drop
        rw [iw]
        walk_at "gg"
        exact key _ _ ⟨p, lft word rows r n, nxt word n, F9, _, _, _, _, by rw [en], ⟨kvs', kvs2, ns, h11, ok9, ok2, fok, rp, rb⟩, fpl, by omega, by omega, by omega⟩
      · have h9 : Has F9 (AllO T ⟨c, a1, x1, d1, a2, x2, d2⟩ kvs' kvs2 (nxt word n) n2 ns) H9 := h9
        have wl : word = "lose" := by
          rcases wc with w | w | w | w
          · exact (w3 w).elim
          · exact (w2 w).elim
          · exact (w1 w).elim
          · exact w
        have iw : inV (.str word) [.str "look", .str "deliver"] = false := by
          subst wl
          decide +kernel
        have en : nxt word n = n := if_neg w3
        refine i_d (fun z1 => (w3 z1).elim) (fun _ => ?_)
        walk_at "gg"
        refine g_ixT (v := .str "told") (by walk_at "h") (atI_nat (j := 0) rfl) ?_
        walk_at "gg"
        refine i_d (fun _ => ?_) (fun z => (z rfl).elim)
        walk_at "gg"
        refine g_klst (by walk_at "sz") h9 (fun p3 H11 n11 h11 => ?_)
        refine g_inFL (h11.get (List.Mem.head _)) rfl rfl ?_
        have h11 := h11.drop
        rw [iw]
        walk_at "gg"
        exact key _ _ ⟨p, lft word rows r n, nxt word n, F9, _, _, _, _, by rw [en], ⟨kvs', kvs2, ns, h11, ok9, ok2, fok, rp, rb⟩, fpl, by omega, by omega, by omega⟩
  · rintro σ H1 ⟨r1, r2, rows, rows2, n, n2, F, y9, y10, y11, y12, y13, y14, rfl, st, fpl, lr, n0, n1, e2, l2⟩
    walk_at "gg"
    refine st.shows2 (fun H2 => ?_)
    exact q H2
end
theorem all_mk {l : PySem.W.OpenLaw} {w : World} {K : PySem.W.Frag} {h : Heap} {mg : Str → Option Value} {fa f1 f2 f3 f4 f5 f6 f7 f8 f9 f10 f11 f12 f13 f14 f15 f16 f17 f18 f19 f20 f21 c_Net c_PartError c_NoLetter fi_NoLetter : Addr} (X : K.In h) (G : h.Ns mainGlobals mg) (hfa : mg "law" = some (.ref fa))
    {od1 an1 od2 an2 od3 an3 od4 an4 od5 an5 od6 an6 od7 an7 od8 an8 od9 an9 od10 an10 od11 an11 od12 an12 od13 an13 od14 an14 od15 an15 od16 an16 od17 an17 od18 an18 od19 an19 od20 an20 od21 an21 : Option Addr} {sl1 sl2 sl3 sl4 sl5 sl6 sl7 sl8 sl9 sl10 sl11 sl12 sl13 sl14 sl15 sl16 sl17 sl18 sl19 sl20 sl21 : Array (Option Value)} {oc1 kV1 dc1 pm1 cd1 ct1 oc2 kV2 dc2 pm2 cd2 ct2 oc3 kV3 dc3 pm3 cd3 ct3 oc4 kV4 dc4 pm4 cd4 ct4 oc5 kV5 dc5 pm5 cd5 ct5 oc6 kV6 dc6 pm6 cd6 ct6 oc7 kV7 dc7 pm7 cd7 ct7 oc8 kV8 dc8 pm8 cd8 ct8 oc9 kV9 dc9 pm9 cd9 ct9 oc10 kV10 dc10 pm10 cd10 ct10 oc11 kV11 dc11 pm11 cd11 ct11 oc12 kV12 dc12 pm12 cd12 ct12 oc13 kV13 dc13 pm13 cd13 ct13 oc14 kV14 dc14 pm14 cd14 ct14 oc15 kV15 dc15 pm15 cd15 ct15 oc16 kV16 dc16 pm16 cd16 ct16 oc17 kV17 dc17 pm17 cd17 ct17 oc18 kV18 dc18 pm18 cd18 ct18 oc19 kV19 dc19 pm19 cd19 ct19 oc20 kV20 dc20 pm20 cd20 ct20 oc21 kV21 dc21 pm21 cd21 ct21 : Value}
    (ac_Net : PySem.W.nsIn K mainGlobals "Net" = some (some (.ref c_Net)))
    (pg_Net : PySem.W.plainGet K c_Net Str.empty = true)
    (hd_Net : PySem.W.hasDictIn K c_Net = true)
    (po_Net : PySem.W.plainOver K c_Net = true)
    (sa_Net : PySem.W.findIn K (.ref c_Net) "__setattr__" = some (some (.builtin "object.__setattr__")))
    (mk_Net : PySem.W.makesIn K c_Net = true)
    (kc_Net : PySem.W.keepIn K (.ref c_Net) = true)
    (na__letters_Net : PySem.W.findIn K (.ref c_Net) "_letters" = some none)
    (na__last_Net : PySem.W.findIn K (.ref c_Net) "_last" = some none)
    (a1 : PySem.W.nsIn K mainGlobals "_law_cells" = some (some (.ref f1))) (l1 : K.lookup f1 = some ⟨oc1, od1, .func (PySem.W.fnOf "_law_cells" "_law_cells" (defArgs s_l_cells) (defBody s_l_cells) (defScope s_l_cells) .none kV1 dc1 pm1 an1 cd1 ct1), sl1⟩) (c1 : PySem.W.codeIn K cd1 "_law_cells" = true) (k1 : PySem.W.keepIn K (.ref f1) = true)
    (a2 : PySem.W.nsIn K mainGlobals "_law_next" = some (some (.ref f2))) (l2 : K.lookup f2 = some ⟨oc2, od2, .func (PySem.W.fnOf "_law_next" "_law_next" (defArgs s_l_next) (defBody s_l_next) (defScope s_l_next) .none kV2 dc2 pm2 an2 cd2 ct2), sl2⟩) (c2 : PySem.W.codeIn K cd2 "_law_next" = true) (k2 : PySem.W.keepIn K (.ref f2) = true)
    (a3 : PySem.W.nsIn K mainGlobals "_law_text" = some (some (.ref f3))) (l3 : K.lookup f3 = some ⟨oc3, od3, .func (PySem.W.fnOf "_law_text" "_law_text" (defArgs s_l_text) (defBody s_l_text) (defScope s_l_text) .none kV3 dc3 pm3 an3 cd3 ct3), sl3⟩) (c3 : PySem.W.codeIn K cd3 "_law_text" = true) (k3 : PySem.W.keepIn K (.ref f3) = true)
    (a4 : PySem.W.nsIn K mainGlobals "_law_words" = some (some (.ref f4))) (l4 : K.lookup f4 = some ⟨oc4, od4, .func (PySem.W.fnOf "_law_words" "_law_words" (defArgs s_l_words) (defBody s_l_words) (defScope s_l_words) .none kV4 dc4 pm4 an4 cd4 ct4), sl4⟩) (c4 : PySem.W.codeIn K cd4 "_law_words" = true) (k4 : PySem.W.keepIn K (.ref f4) = true)
    (a5 : PySem.W.nsIn K mainGlobals "_law_pick" = some (some (.ref f5))) (l5 : K.lookup f5 = some ⟨oc5, od5, .func (PySem.W.fnOf "_law_pick" "_law_pick" (defArgs s_l_pick) (defBody s_l_pick) (defScope s_l_pick) .none kV5 dc5 pm5 an5 cd5 ct5), sl5⟩) (c5 : PySem.W.codeIn K cd5 "_law_pick" = true) (k5 : PySem.W.keepIn K (.ref f5) = true)
    (a6 : PySem.W.nsIn K mainGlobals "_law_int" = some (some (.ref f6))) (l6 : K.lookup f6 = some ⟨oc6, od6, .func (PySem.W.fnOf "_law_int" "_law_int" (defArgs s_l_int) (defBody s_l_int) (defScope s_l_int) .none kV6 dc6 pm6 an6 cd6 ct6), sl6⟩) (c6 : PySem.W.codeIn K cd6 "_law_int" = true) (k6 : PySem.W.keepIn K (.ref f6) = true)
    (a7 : PySem.W.nsIn K mainGlobals "_law_same" = some (some (.ref f7))) (l7 : K.lookup f7 = some ⟨oc7, od7, .func (PySem.W.fnOf "_law_same" "_law_same" (defArgs s_l_same) (defBody s_l_same) (defScope s_l_same) .none kV7 dc7 pm7 an7 cd7 ct7), sl7⟩) (c7 : PySem.W.codeIn K cd7 "_law_same" = true) (k7 : PySem.W.keepIn K (.ref f7) = true)
    (a8 : PySem.W.nsIn K mainGlobals "_law_lists" = some (some (.ref f8))) (l8 : K.lookup f8 = some ⟨oc8, od8, .func (PySem.W.fnOf "_law_lists" "_law_lists" (defArgs s_l_lists) (defBody s_l_lists) (defScope s_l_lists) .none kV8 dc8 pm8 an8 cd8 ct8), sl8⟩) (c8 : PySem.W.codeIn K cd8 "_law_lists" = true) (k8 : PySem.W.keepIn K (.ref f8) = true)
    (a9 : PySem.W.nsIn K mainGlobals "_law_shows" = some (some (.ref f9))) (l9 : K.lookup f9 = some ⟨oc9, od9, .func (PySem.W.fnOf "_law_shows" "_law_shows" (defArgs s_l_shows) (defBody s_l_shows) (defScope s_l_shows) .none kV9 dc9 pm9 an9 cd9 ct9), sl9⟩) (c9 : PySem.W.codeIn K cd9 "_law_shows" = true) (k9 : PySem.W.keepIn K (.ref f9) = true)
    (a10 : PySem.W.nsIn K mainGlobals "_law_ask" = some (some (.ref f10))) (l10 : K.lookup f10 = some ⟨oc10, od10, .func (PySem.W.fnOf "_law_ask" "_law_ask" (defArgs s_l_ask) (defBody s_l_ask) (defScope s_l_ask) .none kV10 dc10 pm10 an10 cd10 ct10), sl10⟩) (c10 : PySem.W.codeIn K cd10 "_law_ask" = true) (k10 : PySem.W.keepIn K (.ref f10) = true)
    (a11 : PySem.W.nsIn K mainGlobals "_law_right" = some (some (.ref f11))) (l11 : K.lookup f11 = some ⟨oc11, od11, .func (PySem.W.fnOf "_law_right" "_law_right" (defArgs s_l_right) (defBody s_l_right) (defScope s_l_right) .none kV11 dc11 pm11 an11 cd11 ct11), sl11⟩) (c11 : PySem.W.codeIn K cd11 "_law_right" = true) (k11 : PySem.W.keepIn K (.ref f11) = true)
    (a12 : PySem.W.nsIn K mainGlobals "_law_left" = some (some (.ref f12))) (l12 : K.lookup f12 = some ⟨oc12, od12, .func (PySem.W.fnOf "_law_left" "_law_left" (defArgs s_l_left) (defBody s_l_left) (defScope s_l_left) .none kV12 dc12 pm12 an12 cd12 ct12), sl12⟩) (c12 : PySem.W.codeIn K cd12 "_law_left" = true) (k12 : PySem.W.keepIn K (.ref f12) = true)
    (a13 : PySem.W.nsIn K mainGlobals "_law_sent" = some (some (.ref f13))) (l13 : K.lookup f13 = some ⟨oc13, od13, .func (PySem.W.fnOf "_law_sent" "_law_sent" (defArgs s_l_sent) (defBody s_l_sent) (defScope s_l_sent) .none kV13 dc13 pm13 an13 cd13 ct13), sl13⟩) (c13 : PySem.W.codeIn K cd13 "_law_sent" = true) (k13 : PySem.W.keepIn K (.ref f13) = true)
    (a14 : PySem.W.nsIn K mainGlobals "law" = some (some (.ref f14))) (l14 : K.lookup f14 = some ⟨oc14, od14, .func (PySem.W.fnOf "law" "law" (defArgs s_law) (defBody s_law) (defScope s_law) .none kV14 dc14 pm14 an14 cd14 ct14), sl14⟩) (c14 : PySem.W.codeIn K cd14 "law" = true) (k14 : PySem.W.keepIn K (.ref f14) = true)
    (a15 : PySem.W.findIn K (.ref c_Net) "__init__" = some (some (.ref f15))) (i15 : PySem.W.isFn K (.ref f15) = true) (l15 : K.lookup f15 = some ⟨oc15, od15, .func (PySem.W.fnOf "__init__" "Net.__init__" (defArgs s_Net___init__) (defBody s_Net___init__) (defScope s_Net___init__) .none kV15 dc15 pm15 an15 cd15 ct15), sl15⟩) (c15 : PySem.W.codeIn K cd15 "Net.__init__" = true) (k15 : PySem.W.keepIn K (.ref f15) = true)
    (a16 : PySem.W.findIn K (.ref c_Net) "send" = some (some (.ref f16))) (i16 : PySem.W.isFn K (.ref f16) = true) (l16 : K.lookup f16 = some ⟨oc16, od16, .func (PySem.W.fnOf "send" "Net.send" (defArgs s_Net_send) (defBody s_Net_send) (defScope s_Net_send) .none kV16 dc16 pm16 an16 cd16 ct16), sl16⟩) (c16 : PySem.W.codeIn K cd16 "Net.send" = true) (k16 : PySem.W.keepIn K (.ref f16) = true)
    (a17 : PySem.W.findIn K (.ref c_Net) "waiting" = some (some (.ref f17))) (i17 : PySem.W.isFn K (.ref f17) = true) (l17 : K.lookup f17 = some ⟨oc17, od17, .func (PySem.W.fnOf "waiting" "Net.waiting" (defArgs s_Net_waiting) (defBody s_Net_waiting) (defScope s_Net_waiting) .none kV17 dc17 pm17 an17 cd17 ct17), sl17⟩) (c17 : PySem.W.codeIn K cd17 "Net.waiting" = true) (k17 : PySem.W.keepIn K (.ref f17) = true)
    (a18 : PySem.W.findIn K (.ref c_Net) "look" = some (some (.ref f18))) (i18 : PySem.W.isFn K (.ref f18) = true) (l18 : K.lookup f18 = some ⟨oc18, od18, .func (PySem.W.fnOf "look" "Net.look" (defArgs s_Net_look) (defBody s_Net_look) (defScope s_Net_look) .none kV18 dc18 pm18 an18 cd18 ct18), sl18⟩) (c18 : PySem.W.codeIn K cd18 "Net.look" = true) (k18 : PySem.W.keepIn K (.ref f18) = true)
    (a19 : PySem.W.findIn K (.ref c_Net) "deliver" = some (some (.ref f19))) (i19 : PySem.W.isFn K (.ref f19) = true) (l19 : K.lookup f19 = some ⟨oc19, od19, .func (PySem.W.fnOf "deliver" "Net.deliver" (defArgs s_Net_deliver) (defBody s_Net_deliver) (defScope s_Net_deliver) .none kV19 dc19 pm19 an19 cd19 ct19), sl19⟩) (c19 : PySem.W.codeIn K cd19 "Net.deliver" = true) (k19 : PySem.W.keepIn K (.ref f19) = true)
    (a20 : PySem.W.findIn K (.ref c_Net) "double" = some (some (.ref f20))) (i20 : PySem.W.isFn K (.ref f20) = true) (l20 : K.lookup f20 = some ⟨oc20, od20, .func (PySem.W.fnOf "double" "Net.double" (defArgs s_Net_double) (defBody s_Net_double) (defScope s_Net_double) .none kV20 dc20 pm20 an20 cd20 ct20), sl20⟩) (c20 : PySem.W.codeIn K cd20 "Net.double" = true) (k20 : PySem.W.keepIn K (.ref f20) = true)
    (a21 : PySem.W.findIn K (.ref c_Net) "lose" = some (some (.ref f21))) (i21 : PySem.W.isFn K (.ref f21) = true) (l21 : K.lookup f21 = some ⟨oc21, od21, .func (PySem.W.fnOf "lose" "Net.lose" (defArgs s_Net_lose) (defBody s_Net_lose) (defScope s_Net_lose) .none kV21 dc21 pm21 an21 cd21 ct21), sl21⟩) (c21 : PySem.W.codeIn K cd21 "Net.lose" = true) (k21 : PySem.W.keepIn K (.ref f21) = true)
    (ac_PartError : PySem.W.nsIn K mainGlobals "PartError" = some (some (.ref c_PartError)))
    (ec_PartError : PySem.W.subIn K (.ref c_PartError) (.type "BaseException") = some true)
    (tc_PartError : PySem.W.typeIn K (.ref c_PartError) = some (.type "type"))
    (ic_PartError : PySem.W.isClsIn K c_PartError = true)
    (ac_NoLetter : PySem.W.nsIn K mainGlobals "NoLetter" = some (some (.ref c_NoLetter)))
    (ec_NoLetter : PySem.W.subIn K (.ref c_NoLetter) (.type "BaseException") = some true)
    (tc_NoLetter : PySem.W.typeIn K (.ref c_NoLetter) = some (.type "type"))
    (ic_NoLetter : PySem.W.isClsIn K c_NoLetter = true)
    {nm_NoLetter q_NoLetter : Str} {ns_NoLetter : Addr} {bs_NoLetter : List Value} {sn_NoLetter : List Str} {sub_NoLetter : List Value} {ab_NoLetter : Bool} {col_NoLetter : Option Bool} {dd_NoLetter : Option Addr} {m0_NoLetter m1_NoLetter m2_NoLetter m3_NoLetter m5_NoLetter : Option Value}
    (xL_NoLetter : K.lookup c_NoLetter = some (excClassObj nm_NoLetter q_NoLetter c_NoLetter ns_NoLetter bs_NoLetter [.ref c_PartError, .type "ValueError", .type "Exception", .type "BaseException", .type "object"] true sn_NoLetter sub_NoLetter ab_NoLetter col_NoLetter dd_NoLetter m0_NoLetter m1_NoLetter m2_NoLetter m3_NoLetter m5_NoLetter "ValueError.__new__"))
    (sa_NoLetter : PySem.W.findIn K (.ref c_NoLetter) "__setattr__" = some (some (.builtin "object.__setattr__")))
    (ga_NoLetter : PySem.W.findIn K (.ref c_NoLetter) "__getattribute__" = some (some (.builtin "BaseException.__getattribute__")))
    (gg_NoLetter : PySem.W.findIn K (.ref c_NoLetter) "__getattr__" = some none)
    (gk_NoLetter : PySem.W.findIn K (.ref c_NoLetter) "__class__" = some (some (.builtin "object.__class__")))
    (gm_NoLetter : PySem.W.mroIn K c_NoLetter (.type "object") = some true)
    (n_serial_NoLetter : PySem.W.findIn K (.ref c_NoLetter) "serial" = some none)
    (ai_NoLetter : PySem.W.findIn K (.ref c_NoLetter) "__init__" = some (some (.ref fi_NoLetter)))
    (ti_NoLetter : PySem.W.typeIn K (.ref fi_NoLetter) = some (.type "function"))
    {odi_NoLetter ani_NoLetter : Option Addr} {sli_NoLetter : Array (Option Value)} {oci_NoLetter kVi_NoLetter dci_NoLetter pmi_NoLetter cdi_NoLetter cti_NoLetter : Value}
    (li_NoLetter : K.lookup fi_NoLetter = some ⟨oci_NoLetter, odi_NoLetter, .func (PySem.W.fnOf "__init__" "NoLetter.__init__" (defArgs (inClass (topS 2) 0)) (defBody (inClass (topS 2) 0)) (defScope (inClass (topS 2) 0)) .none kVi_NoLetter dci_NoLetter pmi_NoLetter ani_NoLetter cdi_NoLetter cti_NoLetter), sli_NoLetter⟩)
    (ci_NoLetter : PySem.W.codeIn K cdi_NoLetter "NoLetter.__init__" = true)
    (ki_NoLetter : PySem.W.keepIn K (.ref fi_NoLetter) = true)
    (kc_NoLetter : PySem.W.keepIn K (.ref c_NoLetter) = true)
    (hc_NoLetter : PySem.W.hasDictIn K c_NoLetter = true)
    (ss_NoLetter_NoLetter : PySem.W.subIn K (.ref c_NoLetter) (.ref c_NoLetter) = some true)
    (ss_NoLetter_PartError : PySem.W.subIn K (.ref c_NoLetter) (.ref c_PartError) = some true)
    (sv_NoLetter : PySem.W.subIn K (.ref c_NoLetter) (.type "ValueError") = some true)
    (xn : PySem.W.specialIn K (.builtin "object.__class__") "__get__" = some (some (.builtin "getset_descriptor.__get__"))) (xt : PySem.W.takesIn K (.builtin "object.__class__") = some true)
    (z_ValueError : PySem.W.nsIn K mainGlobals "ValueError" = some none)
    (z_abs : PySem.W.nsIn K mainGlobals "abs" = some none)
    (z_bool : PySem.W.nsIn K mainGlobals "bool" = some none)
    (z_int : PySem.W.nsIn K mainGlobals "int" = some none)
    (z_isinstance : PySem.W.nsIn K mainGlobals "isinstance" = some none)
    (z_len : PySem.W.nsIn K mainGlobals "len" = some none)
    (z_list : PySem.W.nsIn K mainGlobals "list" = some none)
    (z_range : PySem.W.nsIn K mainGlobals "range" = some none)
    (z_sorted : PySem.W.nsIn K mainGlobals "sorted" = some none)
    (z_tuple : PySem.W.nsIn K mainGlobals "tuple" = some none) :
    ∃ fd : FuncData, (∀ (s : Shared) (v : Value), BindsTo s fd ⟨[v], []⟩ [("script", v)]) ∧ ∀ base : Heap, K.In base → base.Ns mainGlobals mg → FnOk l.prog w K mg base CX0 6 fa fd ["script"] (sp_law K) := by
  have e := hfa.symm.trans (PySem.W.mg_of X G a14)
  cases e
  have F1 := fun_mk (st := s_l_cells) l1 c1 k1
  have b1 := F1.binds (ps := ["script"]) fun _ _ _ _ _ _ us hl => match us, hl with | [_], _ => rfl
  have F2 := fun_mk (st := s_l_next) l2 c2 k2
  have b2 := F2.binds (ps := ["feed", "many"]) fun _ _ _ _ _ _ us hl => match us, hl with | [_, _], _ => rfl
  have F3 := fun_mk (st := s_l_text) l3 c3 k3
  have b3 := F3.binds (ps := ["feed", "at"]) fun _ _ _ _ _ _ us hl => match us, hl with | [_, _], _ => rfl
  have F4 := fun_mk (st := s_l_words) l4 c4 k4
  have b4 := F4.binds (ps := ["feed", "at"]) fun _ _ _ _ _ _ us hl => match us, hl with | [_, _], _ => rfl
  have F5 := fun_mk (st := s_l_pick) l5 c5 k5
  have b5 := F5.binds (ps := ["feed", "rows", "last"]) fun _ _ _ _ _ _ us hl => match us, hl with | [_, _, _], _ => rfl
  have F6 := fun_mk (st := s_l_int) l6 c6 k6
  have b6 := F6.binds (ps := ["told", "due"]) fun _ _ _ _ _ _ us hl => match us, hl with | [_, _], _ => rfl
  have F7 := fun_mk (st := s_l_same) l7 c7 k7
  have b7 := F7.binds (ps := ["told", "row"]) fun _ _ _ _ _ _ us hl => match us, hl with | [_, _], _ => rfl
  have F8 := fun_mk (st := s_l_lists) l8 c8 k8
  have b8 := F8.binds (ps := ["net", "rows"]) fun _ _ _ _ _ _ us hl => match us, hl with | [_, _], _ => rfl
  have F9 := fun_mk (st := s_l_shows) l9 c9 k9
  have b9 := F9.binds (ps := ["net", "rows"]) fun _ _ _ _ _ _ us hl => match us, hl with | [_, _], _ => rfl
  have F10 := fun_mk (st := s_l_ask) l10 c10 k10
  have b10 := F10.binds (ps := ["net", "word", "serial"]) fun _ _ _ _ _ _ us hl => match us, hl with | [_, _, _], _ => rfl
  have F11 := fun_mk (st := s_l_right) l11 c11 k11
  have b11 := F11.binds (ps := ["told", "word", "found", "last"]) fun _ _ _ _ _ _ us hl => match us, hl with | [_, _, _, _], _ => rfl
  have F12 := fun_mk (st := s_l_left) l12 c12 k12
  have b12 := F12.binds (ps := ["rows", "word", "found", "last"]) fun _ _ _ _ _ _ us hl => match us, hl with | [_, _, _, _], _ => rfl
  have F13 := fun_mk (st := s_l_sent) l13 c13 k13
  have b13 := F13.binds (ps := ["feed", "net", "rows", "last", "at"]) fun _ _ _ _ _ _ us hl => match us, hl with | [_, _, _, _, _], _ => rfl
  have F14 := fun_mk (st := s_law) l14 c14 k14
  have b14 := F14.binds (ps := ["script"]) fun _ _ _ _ _ _ us hl => match us, hl with | [_], _ => rfl
  have F15 := fun_mk (st := s_Net___init__) l15 c15 k15
  have b15 := F15.binds (ps := ["self"]) fun _ _ _ _ _ _ us hl => match us, hl with | [_], _ => rfl
  have F16 := fun_mk (st := s_Net_send) l16 c16 k16
  have b16 := F16.binds (ps := ["self", "sender", "receiver", "strings"]) fun _ _ _ _ _ _ us hl => match us, hl with | [_, _, _, _], _ => rfl
  have F17 := fun_mk (st := s_Net_waiting) l17 c17 k17
  have b17 := F17.binds (ps := ["self"]) fun _ _ _ _ _ _ us hl => match us, hl with | [_], _ => rfl
  have F18 := fun_mk (st := s_Net_look) l18 c18 k18
  have b18 := F18.binds (ps := ["self", "serial"]) fun _ _ _ _ _ _ us hl => match us, hl with | [_, _], _ => rfl
  have F19 := fun_mk (st := s_Net_deliver) l19 c19 k19
  have b19 := F19.binds (ps := ["self", "serial"]) fun _ _ _ _ _ _ us hl => match us, hl with | [_, _], _ => rfl
  have F20 := fun_mk (st := s_Net_double) l20 c20 k20
  have b20 := F20.binds (ps := ["self", "serial"]) fun _ _ _ _ _ _ us hl => match us, hl with | [_, _], _ => rfl
  have F21 := fun_mk (st := s_Net_lose) l21 c21 k21
  have b21 := F21.binds (ps := ["self", "serial"]) fun _ _ _ _ _ _ us hl => match us, hl with | [_, _], _ => rfl
  have Fi_NoLetter := fun_mk (st := inClass (topS 2) 0) li_NoLetter ci_NoLetter ki_NoLetter
  have bi_NoLetter := Fi_NoLetter.binds (ps := ["self", "serial"]) fun _ _ _ _ _ _ us hl => match us, hl with | [_, _], _ => rfl
  exact ⟨_, fun s v => .of_eq rfl, fun base _ _ => ok_law ⟨_, _, F1, PySem.W.mg_of X G a1, b1, _, _, F2, PySem.W.mg_of X G a2, b2, _, _, F3, PySem.W.mg_of X G a3, b3, _, _, F4, PySem.W.mg_of X G a4, b4, _, _, F5, PySem.W.mg_of X G a5, b5, _, _, F6, PySem.W.mg_of X G a6, b6, _, _, F7, PySem.W.mg_of X G a7, b7, _, _, F8, PySem.W.mg_of X G a8, b8, _, _, F9, PySem.W.mg_of X G a9, b9, _, _, F10, PySem.W.mg_of X G a10, b10, _, _, F11, PySem.W.mg_of X G a11, b11, _, _, F12, PySem.W.mg_of X G a12, b12, _, _, F13, PySem.W.mg_of X G a13, b13, _, _, F14, PySem.W.mg_of X G a14, b14, _, _, F15, b15, _, _, F16, b16, _, _, F17, b17, _, _, F18, b18, _, _, F19, b19, _, _, F20, b20, _, _, F21, b21, c_Net, PySem.W.mg_of X G ac_Net, ⟨pg_Net, hd_Net, po_Net, sa_Net⟩, na__letters_Net, na__last_Net, ⟨mk_Net, a15, i15, kc_Net⟩, ⟨a16, i16, k16⟩, ⟨a17, i17, k17⟩, ⟨a18, i18, k18⟩, ⟨a19, i19, k19⟩, ⟨a20, i20, k20⟩, ⟨a21, i21, k21⟩, c_PartError, PySem.W.mg_of X G ac_PartError, c_NoLetter, PySem.W.mg_of X G ac_NoLetter, fi_NoLetter, _, Fi_NoLetter, bi_NoLetter, ⟨⟨_, _, _, _, _, _, _, _, _, _, _, _, _, _, _, xL_NoLetter, by rfl⟩, sa_NoLetter, ec_NoLetter, tc_NoLetter, kc_NoLetter⟩, ai_NoLetter, ti_NoLetter, n_serial_NoLetter, ⟨ga_NoLetter, gg_NoLetter, ec_NoLetter, hc_NoLetter⟩, ⟨by unfold PySem.W.clsIn; rw [xL_NoLetter] <;> rfl, ga_NoLetter, gg_NoLetter, ec_NoLetter, hc_NoLetter, gk_NoLetter, xn, xt, gm_NoLetter⟩, exm_own ec_NoLetter ic_NoLetter tc_NoLetter ss_NoLetter_NoLetter, kit_own ss_NoLetter_NoLetter ss_NoLetter_PartError ic_PartError tc_PartError, kit_ve sv_NoLetter, PySem.W.mg_none_of X G z_ValueError, PySem.W.mg_none_of X G z_abs, PySem.W.mg_none_of X G z_bool, PySem.W.mg_none_of X G z_int, PySem.W.mg_none_of X G z_isinstance, PySem.W.mg_none_of X G z_len, PySem.W.mg_none_of X G z_list, PySem.W.mg_none_of X G z_range, PySem.W.mg_none_of X G z_sorted, PySem.W.mg_none_of X G z_tuple⟩⟩
end K86
open PySem PySem.W PyProof.Rows
set_option maxHeartbeats 0 in
theorem PySem.Challenge.cw_partclones_k86_net_letters_holds : PySem.Challenge.rw_partclones_k86_net_letters.Holds := by
  w_on; o_law; k_head; (case hw => w_witness2)
  k_fill
  refine L2.walk_of (l := PySem.Challenge.rw_partclones_k86_net_letters) (n := 63) (k := 6) (x := "script") (CX := fun _ => L2.CX0) (sp := fun w => K86.sp_law _) rfl (by decide) rfl ⟨rfl, by decide, by decide⟩ (fun w h Y => PySem.W.kIn_of Y) ?F (fun _ H a ns hl _ hS => K86.sp_law_start hl hS) (fun _ _ _ _ _ h => h)
  case F =>
    intro w mg fa h KX G hmg
    refine' K86.all_mk KX G hmg ?ac_Net ?pg_Net ?hd_Net ?po_Net ?sa_Net ?mk_Net ?kc_Net ?na__letters_Net ?na__last_Net ?a1 ?l1 ?c1 ?k1 ?a2 ?l2 ?c2 ?k2 ?a3 ?l3 ?c3 ?k3 ?a4 ?l4 ?c4 ?k4 ?a5 ?l5 ?c5 ?k5 ?a6 ?l6 ?c6 ?k6 ?a7 ?l7 ?c7 ?k7 ?a8 ?l8 ?c8 ?k8 ?a9 ?l9 ?c9 ?k9 ?a10 ?l10 ?c10 ?k10 ?a11 ?l11 ?c11 ?k11 ?a12 ?l12 ?c12 ?k12 ?a13 ?l13 ?c13 ?k13 ?a14 ?l14 ?c14 ?k14 ?a15 ?i15 ?l15 ?c15 ?k15 ?a16 ?i16 ?l16 ?c16 ?k16 ?a17 ?i17 ?l17 ?c17 ?k17 ?a18 ?i18 ?l18 ?c18 ?k18 ?a19 ?i19 ?l19 ?c19 ?k19 ?a20 ?i20 ?l20 ?c20 ?k20 ?a21 ?i21 ?l21 ?c21 ?k21 ?ac_PartError ?ec_PartError ?tc_PartError ?ic_PartError ?ac_NoLetter ?ec_NoLetter ?tc_NoLetter ?ic_NoLetter ?xL_NoLetter ?sa_NoLetter ?ga_NoLetter ?gg_NoLetter ?gk_NoLetter ?gm_NoLetter ?n_serial_NoLetter ?ai_NoLetter ?ti_NoLetter ?li_NoLetter ?ci_NoLetter ?ki_NoLetter ?kc_NoLetter ?hc_NoLetter ?ss_NoLetter_NoLetter ?ss_NoLetter_PartError ?sv_NoLetter ?xn ?xt ?z_ValueError ?z_abs ?z_bool ?z_int ?z_isinstance ?z_len ?z_list ?z_range ?z_sorted ?z_tuple
    (case ac_Net => k_is)
    (case pg_Net => k_is)
    (case hd_Net => k_is)
    (case po_Net => k_is)
    (case sa_Net => k_is)
    (case mk_Net => k_is)
    (case kc_Net => k_is)
    (case na__letters_Net => k_is)
    (case na__last_Net => k_is)
    (case a1 => k_is)
    (case l1 => k_is)
    (case c1 => k_is)
    (case k1 => k_is)
    (case a2 => k_is)
    (case l2 => k_is)
    (case c2 => k_is)
    (case k2 => k_is)
    (case a3 => k_is)
    (case l3 => k_is)
    (case c3 => k_is)
    (case k3 => k_is)
    (case a4 => k_is)
    (case l4 => k_is)
    (case c4 => k_is)
    (case k4 => k_is)
    (case a5 => k_is)
    (case l5 => k_is)
    (case c5 => k_is)
    (case k5 => k_is)
    (case a6 => k_is)
    (case l6 => k_is)
    (case c6 => k_is)
    (case k6 => k_is)
    (case a7 => k_is)
    (case l7 => k_is)
    (case c7 => k_is)
    (case k7 => k_is)
    (case a8 => k_is)
    (case l8 => k_is)
    (case c8 => k_is)
    (case k8 => k_is)
    (case a9 => k_is)
    (case l9 => k_is)
    (case c9 => k_is)
    (case k9 => k_is)
    (case a10 => k_is)
    (case l10 => k_is)
    (case c10 => k_is)
    (case k10 => k_is)
    (case a11 => k_is)
    (case l11 => k_is)
    (case c11 => k_is)
    (case k11 => k_is)
    (case a12 => k_is)
    (case l12 => k_is)
    (case c12 => k_is)
    (case k12 => k_is)
    (case a13 => k_is)
    (case l13 => k_is)
    (case c13 => k_is)
    (case k13 => k_is)
    (case a14 => k_is)
    (case l14 => k_is)
    (case c14 => k_is)
    (case k14 => k_is)
    (case a15 => k_is)
    (case i15 => k_is)
    (case l15 => k_is)
    (case c15 => k_is)
    (case k15 => k_is)
    (case a16 => k_is)
    (case i16 => k_is)
    (case l16 => k_is)
    (case c16 => k_is)
    (case k16 => k_is)
    (case a17 => k_is)
    (case i17 => k_is)
    (case l17 => k_is)
    (case c17 => k_is)
    (case k17 => k_is)
    (case a18 => k_is)
    (case i18 => k_is)
    (case l18 => k_is)
    (case c18 => k_is)
    (case k18 => k_is)
    (case a19 => k_is)
    (case i19 => k_is)
    (case l19 => k_is)
    (case c19 => k_is)
    (case k19 => k_is)
    (case a20 => k_is)
    (case i20 => k_is)
    (case l20 => k_is)
    (case c20 => k_is)
    (case k20 => k_is)
    (case a21 => k_is)
    (case i21 => k_is)
    (case l21 => k_is)
    (case c21 => k_is)
    (case k21 => k_is)
    (case ac_PartError => k_is)
    (case ec_PartError => k_is)
    (case tc_PartError => k_is)
    (case ic_PartError => k_is)
    (case ac_NoLetter => k_is)
    (case ec_NoLetter => k_is)
    (case tc_NoLetter => k_is)
    (case ic_NoLetter => k_is)
    (case xL_NoLetter => k_is)
    (case sa_NoLetter => k_is)
    (case ga_NoLetter => k_is)
    (case gg_NoLetter => k_is)
    (case gk_NoLetter => k_is)
    (case gm_NoLetter => k_is)
    (case n_serial_NoLetter => k_is)
    (case ai_NoLetter => k_is)
    (case ti_NoLetter => k_is)
    (case li_NoLetter => k_is)
    (case ci_NoLetter => k_is)
    (case ki_NoLetter => k_is)
    (case kc_NoLetter => k_is)
    (case hc_NoLetter => k_is)
    (case ss_NoLetter_NoLetter => k_is)
    (case ss_NoLetter_PartError => k_is)
    (case sv_NoLetter => k_is)
    (case xn => k_is)
    (case xt => k_is)
    (case z_ValueError => k_is)
    (case z_abs => k_is)
    (case z_bool => k_is)
    (case z_int => k_is)
    (case z_isinstance => k_is)
    (case z_len => k_is)
    (case z_list => k_is)
    (case z_range => k_is)
    (case z_sorted => k_is)
    (case z_tuple => k_is)

