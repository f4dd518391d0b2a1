import PyProof.Rows.All
import Wide.All
import OpenK.AllK
import Wide.FinOn
import HandS.ForMost
import HandS.Small
import HandS.Style
import HandS.Flow
import HandS.Deep
import HandS.IsInst
import HandS.More
import HandS.Star
import HandS.TupAny
import KE.KExcIs
import HandS.ExcCtx
import HandS.ExcInit
import HandS.ExcField
import HandS.HotCalls
import HandS.Wide
import HandS.Strs
import HandS.SetKeys
import HandS.Text
import HandS.Iter
import HandS.WideBits
import HandS.Dict
import HandS.WordsDict
import HandS.Conv
import HandS.List
import HandS.SetBool
import HandS.DictComp
import HandS.ListItems
import HandS.Ends
import PySem.Challenge.RW_partclones_k10_merge_too_large
set_option Elab.async false
set_option linter.all false
set_option maxRecDepth 100000
namespace Qk
open PySem PySem.Spec PyProof.Rows L2

/-! ### heaps -/
abbrev Own := List (Addr × HO)
structure Has (F : Hp) (O : Own) (H : Hp) : Prop where
  same : Same F H
  own : ∀ p ∈ O, F p.1 = none ∧ H p.1 = some p.2
  nd : (O.map (·.1)).Nodup

/-- O with the object at a changed from o to o' -/
inductive Chg : Own → Addr → HO → HO → Own → Prop
  | hd {a : Addr} {o o' : HO} {O : Own} : Chg ((a, o) :: O) a o o' ((a, o') :: O)
  | tl {a : Addr} {o o' : HO} {O O' : Own} {x : Addr × HO} : Chg O a o o' O' → Chg (x :: O) a o o' (x :: O')
theorem Chg.mem {O O' : Own} {a : Addr} {o o' : HO} (c : Chg O a o o' O') : (a, o) ∈ O := by
  induction c with
  | hd => exact List.Mem.head _
  | tl _ ih => exact List.Mem.tail _ ih
theorem Chg.fst {O O' : Own} {a : Addr} {o o' : HO} (c : Chg O a o o' O') : O'.map (·.1) = O.map (·.1) := by
  induction c with
  | hd => rfl
  | tl _ ih => rw [List.map_cons, List.map_cons, ih]
theorem Chg.own {O O' : Own} {a : Addr} {o o' : HO} (c : Chg O a o o' O') (nd : (O.map (·.1)).Nodup) : ∀ p ∈ O', p = (a, o') ∨ (p ∈ O ∧ p.1 ≠ a) := by
  induction c with
  | @hd a o o' O =>
    intro p hp
    rw [List.map_cons] at nd
    have nm := (List.nodup_cons.mp nd).1
    rcases List.mem_cons.mp hp with e | hp
    · exact .inl e
    · refine .inr ⟨List.mem_cons_of_mem _ hp, fun e => nm ?_⟩
      exact List.mem_map.mpr ⟨p, hp, e⟩
  | @tl a o o' O O' x c ih =>
    intro p hp
    rw [List.map_cons] at nd
    have nm := List.nodup_cons.mp nd
    rcases List.mem_cons.mp hp with e | hp
    · subst e
      refine .inr ⟨List.mem_cons_self, fun e => nm.1 ?_⟩
      rw [e]
      exact List.mem_map.mpr ⟨_, c.mem, rfl⟩
    · rcases ih nm.2 p hp with e | ⟨e, ne⟩
      · exact .inl e
      · exact .inr ⟨List.mem_cons_of_mem _ e, ne⟩

section
variable {F F' : Hp} {O O' : Own} {H H' : Hp} {a p : Addr} {o o' : HO} {K : PySem.W.Frag} {xs : List V}
theorem Has.start (H : Hp) : Has H [] H := ⟨Same.refl H, fun _ h => (List.not_mem_nil h).elim, List.nodup_nil⟩
theorem Has.get (h : Has F O H) (m : (a, o) ∈ O) : H a = some o := (h.own _ m).2
theorem Has.but (h : Has F O H) (c : Chg O a o o' O') (s : ∀ b u, b ≠ a → H b = some u → H' b = some u) (e : H' a = some o') : Has F O' H' := by
  have fa : F a = none := (h.own _ c.mem).1
  refine ⟨fun b u q => s b u (fun z => by rw [z, fa] at q; cases q) (h.same b u q), fun q hq => ?_, by rw [c.fst]; exact h.nd⟩
  rcases c.own h.nd q hq with rfl | ⟨m, ne⟩
  · exact ⟨fa, e⟩
  · exact ⟨(h.own _ m).1, s _ _ ne (h.own _ m).2⟩
theorem Has.put (h : Has F O H) (c : Chg O a o o' O') : Has F O' (upd H a o') := h.but c (fun b u ne q => by rw [upd_ne ne]; exact q) upd_same
theorem Has.on (h : Has F O H) (s : Same H H') : Has F O H' := ⟨h.same.trans s, fun q hq => ⟨(h.own q hq).1, s _ _ (h.own q hq).2⟩, h.nd⟩
theorem Has.made (h : Has F O H) (n : H p = none) (s : Same H H') (e : H' p = some o) : Has F ((p, o) :: O) H' := by
  refine ⟨h.same.trans s, fun q hq => ?_, ?_⟩
  · rcases List.mem_cons.mp hq with rfl | hq
    · exact ⟨h.same.free n, e⟩
    · exact ⟨(h.own q hq).1, s _ _ (h.own q hq).2⟩
  · rw [List.map_cons]
    refine List.nodup_cons.mpr ⟨fun m => ?_, h.nd⟩
    obtain ⟨q, hq, e'⟩ := List.mem_map.mp m
    have z := (h.own q hq).2
    rw [e', n] at z
    cases z
theorem same_upd (n : H p = none) : Same H (upd H p o) := fun b u q => by
  rw [upd_ne (ne_of_none q n)]
  exact q
theorem Has.new (h : Has F O H) (n : H p = none) : Has F ((p, o) :: O) (upd H p o) := h.made n (same_upd n) upd_same
theorem Has.drop {x : Addr × HO} (h : Has F (x :: O) H) : Has F O H := ⟨h.same, fun q hq => h.own q (List.mem_cons_of_mem _ hq), (List.nodup_cons.mp (by have := h.nd; rw [List.map_cons] at this; exact this)).2⟩
theorem Has.sub (h : Has F O H) (s : O'.Sublist O) : Has F O' H := ⟨h.same, fun q hq => h.own q (s.subset hq), (s.map _).nodup h.nd⟩
theorem Has.perm (h : Has F O H) (s : O'.Perm O) : Has F O' H := ⟨h.same, fun q hq => h.own q (s.subset hq), (s.map _).nodup_iff.mpr h.nd⟩
/-- the first owned object stands still from now on -/
theorem Has.frz (h : Has F ((p, o) :: O) H) : Has (upd F p o) O H := by
  have hp := h.own (p, o) List.mem_cons_self
  have nd : p ∉ O.map (·.1) ∧ (O.map (·.1)).Nodup := List.nodup_cons.mp (by have := h.nd; rw [List.map_cons] at this; exact this)
  refine ⟨fun b u q => ?_, fun q hq => ⟨?_, (h.own q (List.mem_cons_of_mem _ hq)).2⟩, nd.2⟩
  · by_cases e : b = p
    · subst e
      rw [upd_same] at q
      cases q
      exact hp.2
    · rw [upd_ne e] at q
      exact h.same b u q
  · rw [upd_ne (fun z => nd.1 (List.mem_map.mpr ⟨q, hq, z⟩))]
    exact (h.own q (List.mem_cons_of_mem _ hq)).1
theorem Has.free (h : Has F ((p, o) :: O) H) : F p = none := (h.own _ List.mem_cons_self).1
theorem Has.grow (h : Has F ((p, o) :: O) H) : Same F (upd F p o) := same_upd h.free
/-- all stands still from now on -/
theorem Has.all (h : Has F O H) : Has H [] H := Has.start H
/-- F grown by what O knows nothing of -/
theorem Has.up (h : Has F O H) (s2 : Same F' H') (s : Same H H') (d : ∀ p ∈ O, F' p.1 = none) : Has F' O H' :=
  ⟨s2, fun q hq => ⟨d q hq, s _ _ (h.own q hq).2⟩, h.nd⟩
theorem Has.sqO (h : Has F O H) (m : (a, .lst xs) ∈ O) : SqL K H a xs := SqL.of (h.get m)
theorem Has.sqF (h : Has F O H) (m : SqL K F a xs) : SqL K H a xs := h.same.seq m
theorem Same.tup {K : PySem.W.Frag} (e : Same H H') (h : SqT K H a xs) : SqT K H' a xs := by
  rcases h with (h | ⟨o, h⟩) | h
  · exact .inl (.inl (e _ _ h))
  · exact .inl (.inr ⟨o, e _ _ h⟩)
  · exact .inr h
theorem Has.stF (h : Has F O H) (m : SqT K F a xs) : SqT K H a xs := Same.tup h.same m
theorem Has.stO (h : Has F O H) (m : (a, .tup xs) ∈ O) : SqT K H a xs := SqT.of (h.get m)
end

/-! ### data -/
mutual
inductive Dq (H : Hp) : V → PyData → Prop
  | non : Dq H .non .none
  | bl (b : Bool) : Dq H (.bl b) (.bool b)
  | int (i : Int) : Dq H (.int i) (.int i)
  | str (x : Str) : Dq H (.str x) (.str x)
  | lst {a : Addr} {xs : List V} {ds : List PyData} : H a = some (.lst xs) → DqAll H xs ds → Dq H (.ref a) (.list ds)
  | tup {a : Addr} {xs : List V} {ds : List PyData} : H a = some (.tup xs) → DqAll H xs ds → Dq H (.ref a) (.tuple ds)
inductive DqAll (H : Hp) : List V → List PyData → Prop
  | nil : DqAll H [] []
  | cons {v : V} {vs : List V} {d : PyData} {ds : List PyData} : Dq H v d → DqAll H vs ds → DqAll H (v :: vs) (d :: ds)
end
mutual
theorem Dq.up {H H' : Hp} (e : Same H H') : ∀ (d : PyData) (v : V), Dq H v d → Dq H' v d
  | _, _, .non => .non
  | _, _, .bl b => .bl b
  | _, _, .int i => .int i
  | _, _, .str x => .str x
  | .list ds, _, .lst s a => .lst (e _ _ s) (DqAll.up e ds _ a)
  | .tuple ds, _, .tup s a => .tup (e _ _ s) (DqAll.up e ds _ a)
theorem DqAll.up {H H' : Hp} (e : Same H H') : ∀ (ds : List PyData) (vs : List V), DqAll H vs ds → DqAll H' vs ds
  | _, _, .nil => .nil
  | d :: ds, _, .cons h t => .cons (Dq.up e d _ h) (DqAll.up e ds _ t)
end
mutual
theorem Dq.dp (K : PySem.W.Frag) {H : Hp} : ∀ (d : PyData) (v : V), Dq H v d → Dp K H v d
  | _, _, .non => .non
  | _, _, .bl b => .bl b
  | _, _, .int i => .int i
  | _, _, .str x => .str x
  | .list ds, _, .lst s a => .lst (SqL.of s) (DqAll.dp K ds _ a)
  | .tuple ds, _, .tup s a => .tup (SqT.of s) (DqAll.dp K ds _ a)
theorem DqAll.dp (K : PySem.W.Frag) {H : Hp} : ∀ (ds : List PyData) (vs : List V), DqAll H vs ds → DpAll K H vs ds
  | _, _, .nil => .nil
  | d :: ds, _, .cons h t => .cons (Dq.dp K d _ h) (DqAll.dp K ds _ t)
end
theorem DqAll.len {H : Hp} : ∀ {vs : List V} {ds : List PyData}, DqAll H vs ds → vs.length = ds.length
  | _, _, .nil => rfl
  | _, _, .cons _ t => by rw [List.length_cons, List.length_cons, t.len]
theorem DqAll.get {H : Hp} : ∀ {vs : List V} {ds : List PyData} {i : Nat} {v : V}, DqAll H vs ds → vs[i]? = some v → ∃ d, ds[i]? = some d ∧ Dq H v d
  | _, _, _, _, .nil, e => by simp at e
  | _, _, 0, _, .cons h _, e => ⟨_, rfl, by have e' := Option.some.inj e; rw [← e']; exact h⟩
  | _, _, i + 1, _, .cons _ t, e => t.get (i := i) e
theorem DqAll.snoc {H : Hp} : ∀ {vs : List V} {ds : List PyData} {v : V} {d : PyData}, DqAll H vs ds → Dq H v d → DqAll H (vs ++ [v]) (ds ++ [d])
  | _, _, _, _, .nil, h => .cons h .nil
  | _, _, _, _, .cons h t, h' => .cons h (t.snoc h')
theorem DqAll.app {H : Hp} : ∀ {vs ws : List V} {ds es : List PyData}, DqAll H vs ds → DqAll H ws es → DqAll H (vs ++ ws) (ds ++ es)
  | _, _, _, _, .nil, h => h
  | _, _, _, _, .cons h t, h' => .cons h (t.app h')
theorem DqAll.rev {H : Hp} : ∀ {vs : List V} {ds : List PyData}, DqAll H vs ds → DqAll H vs.reverse ds.reverse
  | _, _, .nil => .nil
  | _, _, .cons h t => by
    rw [List.reverse_cons, List.reverse_cons]
    exact t.rev.snoc h
theorem DqAll.strs {H : Hp} : ∀ (xs : List Str), DqAll H (xs.map V.str) (xs.map PyData.str)
  | [] => .nil
  | x :: xs => .cons (.str x) (DqAll.strs xs)
theorem DqAll.ints {H : Hp} : ∀ (xs : List Int), DqAll H (xs.map V.int) (xs.map PyData.int)
  | [] => .nil
  | x :: xs => .cons (.int x) (DqAll.ints xs)
theorem DqAll.of_strs {H : Hp} : ∀ {vs : List V} {xs : List Str}, DqAll H vs (xs.map PyData.str) → vs = xs.map V.str
  | _, [], .nil => rfl
  | _, x :: xs, .cons h t => by
    cases h
    rw [List.map_cons, t.of_strs]
theorem Dq.of_strs {H : Hp} {v : V} {xs : List Str} (h : Dq H v (.list (xs.map PyData.str))) : ∃ a, v = .ref a ∧ H a = some (.lst (xs.map V.str)) := by
  cases h with
  | lst s a =>
    rw [a.of_strs] at s
    exact ⟨_, rfl, s⟩
theorem Dq.strs {H : Hp} {a : Addr} {xs : List Str} (h : H a = some (.lst (xs.map V.str))) : Dq H (.ref a) (.list (xs.map PyData.str)) := .lst h (DqAll.strs xs)
theorem Dq.ints {H : Hp} {a : Addr} {xs : List Int} (h : H a = some (.lst (xs.map V.int))) : Dq H (.ref a) (.list (xs.map PyData.int)) := .lst h (DqAll.ints xs)
theorem Has.gF {F : Hp} {O : Own} {H : Hp} {a : Addr} {o : HO} (h : Has F O H) (e : F a = some o) : H a = some o := h.same _ _ e
theorem Has.dq {F : Hp} {O : Own} {H : Hp} (h : Has F O H) {v : V} {d : PyData} (p : Dq F v d) : Dq H v d := p.up h.same d v

/-! ### == of data -/
theorem eqvAll_strs : ∀ xs ys : List Str, PyData.eqvAll (xs.map PyData.str) (ys.map PyData.str) = decide (xs = ys)
  | [], [] => by simp [PyData.eqvAll]
  | [], y :: ys => by simp [PyData.eqvAll]
  | x :: xs, [] => by simp [PyData.eqvAll]
  | x :: xs, y :: ys => by
    rw [List.map_cons, List.map_cons, PyData.eqvAll, eqvAll_strs xs ys, PyData.eqv]
    by_cases h : x = y
    · subst h; simp
    · simp [h]
theorem eqv_strs (xs ys : List Str) : PyData.eqv (.list (xs.map PyData.str)) (.list (ys.map PyData.str)) = decide (xs = ys) := by
  rw [PyData.eqv, eqvAll_strs]
theorem eqvAll_ints : ∀ xs ys : List Int, PyData.eqvAll (xs.map PyData.int) (ys.map PyData.int) = decide (xs = ys)
  | [], [] => by simp [PyData.eqvAll]
  | [], y :: ys => by simp [PyData.eqvAll]
  | x :: xs, [] => by simp [PyData.eqvAll]
  | x :: xs, y :: ys => by
    rw [List.map_cons, List.map_cons, PyData.eqvAll, eqvAll_ints xs ys, PyData.eqv]
    by_cases h : x = y
    · subst h; simp
    · simp [h]
theorem eqv_ints (xs ys : List Int) : PyData.eqv (.list (xs.map PyData.int)) (.list (ys.map PyData.int)) = decide (xs = ys) := by
  rw [PyData.eqv, eqvAll_ints]
theorem canLayAll_mem : ∀ {ds : List PyData}, (∀ d ∈ ds, d.canLay0 = true) → PyData.canLayAll0 ds = true
  | [], _ => rfl
  | d :: ds, h => by
    rw [PyData.canLayAll0, h d List.mem_cons_self, canLayAll_mem fun x hx => h x (List.mem_cons_of_mem _ hx)]
    rfl
theorem depthAll_le {n : Nat} : ∀ {ds : List PyData}, (∀ d ∈ ds, d.depth ≤ n) → PyData.depthAll ds ≤ n
  | [], _ => Nat.zero_le _
  | d :: ds, h => by
    rw [PyData.depthAll]
    exact Nat.max_le.mpr ⟨h d List.mem_cons_self, depthAll_le fun x hx => h x (List.mem_cons_of_mem _ hx)⟩
/-- data of depth n that can be compared -/
def Sh (n : Nat) (d : PyData) : Prop := d.canLay0 = true ∧ d.depth ≤ n
theorem Sh.list {n : Nat} {ds : List PyData} (h : ∀ d ∈ ds, Sh n d) : Sh (n + 1) (.list ds) := by
  refine ⟨?_, ?_⟩
  · rw [PyData.canLay0]
    exact canLayAll_mem fun d hd => (h d hd).1
  · rw [PyData.depth]
    have := depthAll_le (n := n) fun d hd => (h d hd).2
    omega
theorem Sh.tuple {n : Nat} {ds : List PyData} (h : ∀ d ∈ ds, Sh n d) : Sh (n + 1) (.tuple ds) := by
  refine ⟨?_, ?_⟩
  · rw [PyData.canLay0]
    exact canLayAll_mem fun d hd => (h d hd).1
  · rw [PyData.depth]
    have := depthAll_le (n := n) fun d hd => (h d hd).2
    omega
theorem Sh.ok {n : Nat} {d : PyData} (h : Sh n d) (hn : n ≤ 64) : SeqAt.shaped d = true := by
  unfold SeqAt.shaped
  rw [h.1, Bool.true_and]
  exact decide_eq_true (Nat.le_trans h.2 hn)
theorem Sh.int {n : Nat} (i : Int) : Sh n (.int i) := ⟨rfl, Nat.zero_le _⟩
theorem Sh.non {n : Nat} : Sh n .none := ⟨rfl, Nat.zero_le _⟩
theorem Sh.bl {n : Nat} (b : Bool) : Sh n (.bool b) := ⟨rfl, Nat.zero_le _⟩
theorem Sh.str {n : Nat} {x : Str} (h : PyData.strOk x = true) : Sh n (.str x) := ⟨h, Nat.zero_le _⟩
theorem Sh.strs {n : Nat} {xs : List Str} (h : ∀ x ∈ xs, PyData.strOk x = true) : Sh (n + 1) (.list (xs.map PyData.str)) := Sh.list fun d hd => by
  obtain ⟨x, hx, rfl⟩ := List.mem_map.mp hd
  exact Sh.str (h x hx)
theorem Sh.ints {n : Nat} {xs : List Int} : Sh (n + 1) (.list (xs.map PyData.int)) := Sh.list fun d hd => by
  obtain ⟨x, hx, rfl⟩ := List.mem_map.mp hd
  exact Sh.int x

/-! ### readings, in order -/
def kB (x : V) (H : Hp) (R : Bool → Hp → Prop) : Prop := ∃ k, x = .bl k ∧ R k H
def kTup (xs : List V) (H : Hp) (Q : VK) : Prop := xs.length ≤ sizeLine ∧ ∀ p, H p = none → Q (.ref p) (upd H p (.tup xs))
def kLst (xs : List V) (H : Hp) (Q : VK) : Prop := xs.length ≤ sizeLine ∧ ∀ p, H p = none → Q (.ref p) (upd H p (.lst xs))
def kBM (K : PySem.W.Frag) (T : String) (r : V → List V → Hp → VK → Prop) (t : TA) (σ : L2.St) (x : V) (H : Hp) (Q : VK) : Prop := tyV K T x H ∧ t σ H fun xs H2 => r x xs H2 Q
section
variable {K : PySem.W.Frag} {σ : L2.St} {F : Hp} {O O' : Own} {H : Hp} {Q : VK} {ta tb tc te : TE} {x y v : V} {D : Ends} {t1 t2 : TS}
theorem g_var {i : Nat} (h : σ[i]? = some (some v)) (q : Q v H) : tVar i σ H Q := ⟨v, h, q⟩
theorem g_c (q : Q v H) : tC v σ H Q := q
theorem g_op {r : R2} (q : ta σ H fun x H1 => tb σ H1 fun y H2 => r x y H2 Q) : tOp r ta tb σ H Q := q
theorem g_un {r : V → Hp → VK → Prop} (q : ta σ H fun x H1 => r x H1 Q) : tUn r ta σ H Q := q
theorem g_cons {tr : TA} {QA : List V → Hp → Prop} (q : ta σ H fun x H1 => tr σ H1 fun xs H2 => QA (x :: xs) H2) : tCons ta tr σ H QA := q
theorem g_nil {QA : List V → Hp → Prop} (q : QA [] H) : tNil σ H QA := q
theorem g_cb {r : List V → Hp → VK → Prop} {t : TA} (q : t σ H fun vs H1 => r vs H1 Q) : tCB r t σ H Q := q
theorem g_call {sp : Sp} {E : XK} {t : TA} (q : t σ H fun vs H1 => sp vs H1 Q E) : tCall sp [] E t σ H Q := by
  unfold tCall
  simp only [List.append_nil]
  exact q
theorem g_tup {t : TA} (q : t σ H fun xs H1 => kTup xs H1 Q) : tTup t σ H Q := q
theorem g_lst {t : TA} (q : t σ H fun xs H1 => kLst xs H1 Q) : tLst t σ H Q := q
theorem g_bm {T : String} {r : V → List V → Hp → VK → Prop} {t : TA} (q : ta σ H fun x H1 => kBM K T r t σ x H1 Q) : tBM K T r ta t σ H Q := q
theorem g_bm0 {T : String} {r : V → List V → Hp → VK → Prop} (q : ta σ H fun x H1 => kBM K T r tNil σ x H1 Q) : tBM0 K T r ta σ H Q := q
theorem g_kbm {r : V → List V → Hp → VK → Prop} {t : TA} {a : Addr} {xs : List V} (h : H a = some (.lst xs)) (q : t σ H fun vs H2 => r (.ref a) vs H2 Q) : kBM K "list" r t σ (.ref a) H Q := ⟨.inl ⟨rfl, _, SqL.of h⟩, q⟩
theorem g_ktup {xs : List V} (hl : xs.length ≤ sizeLine) (hH : Has F O H) (q : ∀ p H', H p = none → Has F ((p, .tup xs) :: O) H' → Q (.ref p) H') : kTup xs H Q := ⟨hl, fun p n => q p _ n (hH.new n)⟩
theorem g_klst {xs : List V} (hl : xs.length ≤ sizeLine) (hH : Has F O H) (q : ∀ p H', H p = none → Has F ((p, .lst xs) :: O) H' → Q (.ref p) H') : kLst xs H Q := ⟨hl, fun p n => q p _ n (hH.new n)⟩
/-- a tuple that stands still at once -/
theorem g_ktupF {xs : List V} (hl : xs.length ≤ sizeLine) (hH : Has F O H) (q : ∀ p H' F', H p = none → Same F F' → F' p = some (.tup xs) → Has F' O H' → Q (.ref p) H') : kTup xs H Q :=
  ⟨hl, fun p n => q p _ (upd F p (.tup xs)) n (same_upd (hH.same.free n)) upd_same (hH.new n).frz⟩
theorem g_klstF {xs : List V} (hl : xs.length ≤ sizeLine) (hH : Has F O H) (q : ∀ p H' F', H p = none → Same F F' → F' p = some (.lst xs) → Has F' O H' → Q (.ref p) H') : kLst xs H Q :=
  ⟨hl, fun p n => q p _ (upd F p (.lst xs)) n (same_upd (hH.same.free n)) upd_same (hH.new n).frz⟩
theorem g_seq (h : t1 { D with nx := t2 D } σ H) : tSeq t1 t2 D σ H := h
theorem g_asg {g : TG} (q : te σ H fun x H1 => g x σ H1 D.nx) : tAsg te g D σ H := q
theorem g_name {i : Nat} {R : L2.St → Hp → Prop} (q : R (σ.set i (some v)) H) : gName i v σ H R := q
theorem g_drop (q : te σ H fun _ H1 => D.nx σ H1) : tDrop te D σ H := q
theorem g_ret (q : te σ H fun x H1 => D.rt x H1) : tRet te D σ H := q
theorem g_retN (q : D.rt .non H) : tRetN D σ H := q
theorem g_next (q : D.nx σ H) : tNext D σ H := q
theorem g_brk (q : D.bk σ H) : tBreak D σ H := q
theorem g_cont (q : D.ct σ H) : tCont D σ H := q
theorem g_if {c : TT} (q : c σ H fun b H1 => if b = true then t1 D σ H1 else t2 D σ H1) : tIfS c t1 t2 D σ H := q
theorem g_aug {i : Nat} {ti : TIp} (h : σ[i]? = some (some x)) (q : te σ H fun y H1 => ti x y H1 fun z H2 => D.nx (σ.set i (some z)) H2) : tAug i te ti D σ H := ⟨x, h, q⟩
theorem g_ipI {f : Int → Int → Int} {i j : Int} (q : Q (.int (f i j)) H) : ipI f (.int i) (.int j) H Q := ⟨i, j, rfl, rfl, q⟩
theorem g_test {R : Bool → Hp → Prop} (q : te σ H fun x H1 => kB x H1 R) : tTest te σ H R := q
theorem g_tB {R : Bool → Hp → Prop} (q : te σ H fun x H1 => kB x H1 R) : tB te σ H R := q
theorem g_kB {b : Bool} {R : Bool → Hp → Prop} (q : R b H) : kB (.bl b) H R := ⟨b, rfl, q⟩
theorem g_not {t : TT} {R : Bool → Hp → Prop} (q : t σ H fun c H1 => R (!c) H1) : tNot t σ H R := q
theorem g_and {t u : TT} {R : Bool → Hp → Prop} (q : t σ H fun c H1 => if c = true then u σ H1 R else R false H1) : tAnd t u σ H R := q
theorem g_or {t u : TT} {R : Bool → Hp → Prop} (q : t σ H fun c H1 => if c = true then R true H1 else u σ H1 R) : tOr t u σ H R := q
theorem g_andV (q : ta σ H fun x H1 => kB x H1 fun c H2 => if c = true then tb σ H2 Q else Q (.bl false) H2) : tAndV ta tb σ H Q := q
theorem g_orV (q : ta σ H fun x H1 => kB x H1 fun c H2 => if c = true then Q (.bl true) H2 else tb σ H2 Q) : tOrV ta tb σ H Q := q
theorem g_notV (q : ta σ H fun x H1 => kB x H1 fun c H2 => Q (.bl (!c)) H2) : tNotV ta σ H Q := q
theorem g_ifE {t : TT} (q : t σ H fun c H1 => if c = true then ta σ H1 Q else tb σ H1 Q) : tIf t ta tb σ H Q := q
theorem i_d {c A B : Prop} [Decidable c] (h1 : c → A) (h2 : ¬ c → B) : if decide c = true then A else B := by
  by_cases h : c
  · rw [if_pos (decide_eq_true h)]
    exact h1 h
  · rw [if_neg (by rw [decide_eq_false h]; exact Bool.false_ne_true)]
    exact h2 h
theorem i_n {c A B : Prop} [Decidable c] (h1 : ¬ c → A) (h2 : c → B) : if (!decide c) = true then A else B := by
  by_cases h : c
  · rw [decide_eq_true h, if_neg (by decide)]
    exact h2 h
  · rw [decide_eq_false h, if_pos (by decide)]
    exact h1 h
theorem i_b {b : Bool} {A B : Prop} (h1 : b = true → A) (h2 : b = false → B) : if b = true then A else B := by
  cases b with
  | true => rw [if_pos rfl]; exact h1 rfl
  | false => rw [if_neg Bool.false_ne_true]; exact h2 rfl
theorem i_nb {b : Bool} {A B : Prop} (h1 : b = false → A) (h2 : b = true → B) : if (!b) = true then A else B := by
  cases b with
  | false =>
    show (if true = true then A else B)
    rw [if_pos rfl]
    exact h1 rfl
  | true =>
    show (if false = true then A else B)
    rw [if_neg Bool.false_ne_true]
    exact h2 rfl
/-- a test by its answer -/
theorem g_bool {t : TT} {R : Bool → Hp → Prop} (b : Bool) (h : ∀ R : Bool → Hp → Prop, R b H → t σ H R) (q : R b H) : t σ H R := h R q

/-! ### operators -/
def rAdd (K : PySem.W.Frag) : R2 := fun x y H Q => (rI0 (fun i j => .int (i + j)) x y H Q ∨ ∃ i j, x = .str i ∧ y = .str j ∧ i.length + j.length ≤ sizeLine ∧ Q (.str (i ++ j)) H) ∨ rCat x y H Q ∨ rCatA K x y H Q
theorem g_addI {i j : Int} (q : Q (.int (i + j)) H) : rAdd K (.int i) (.int j) H Q := .inl (.inl ⟨i, j, rfl, rfl, q⟩)
theorem g_addS {i j : Str} (hl : i.length + j.length ≤ sizeLine) (q : Q (.str (i ++ j)) H) : rAdd K (.str i) (.str j) H Q := .inl (.inr ⟨i, j, rfl, rfl, hl, q⟩)
theorem g_addL {a b : Addr} {xs ys : List V} (h1 : H a = some (.lst xs)) (h2 : H b = some (.lst ys)) (hl : xs.length + ys.length ≤ sizeLine) (hH : Has F O H) (q : ∀ p H', H p = none → Has F ((p, .lst (xs ++ ys)) :: O) H' → Q (.ref p) H') : rAdd K (.ref a) (.ref b) H Q :=
  .inr (.inl ⟨a, b, xs, ys, rfl, rfl, h1, h2, hl, fun p n => q p _ n (hH.new n)⟩)
theorem g_rI0 {g : Int → Int → V} {i j : Int} (q : Q (g i j) H) : rI0 g (.int i) (.int j) H Q := ⟨i, j, rfl, rfl, q⟩
theorem g_rI {C : Int → Int → Prop} {g : Int → Int → V} {i j : Int} (hc : C i j) (q : Q (g i j) H) : rI C g (.int i) (.int j) H Q := ⟨i, j, rfl, rfl, hc, q⟩
theorem g_rU {g : Int → V} {i : Int} (q : Q (g i) H) : rU g (.int i) H Q := ⟨i, rfl, q⟩
def rMul : R2 := fun x y H Q => rI CMul (fun i j => .int (i * j)) x y H Q ∨ rRep x y H Q
theorem g_mulI {i j : Int} (hc : CMul i j) (q : Q (.int (i * j)) H) : rMul (.int i) (.int j) H Q := .inl ⟨i, j, rfl, rfl, hc, q⟩
theorem g_mulL {a : Addr} {k : Int} {xs : List V} (h : H a = some (.lst xs)) (h1 : -(2 ^ 63) ≤ k) (h2 : k < 2 ^ 63) (hl : xs.length * k.toNat ≤ sizeLine) (hH : Has F O H)
    (q : ∀ p H', H p = none → Has F ((p, .lst (List.replicate k.toNat xs).flatten) :: O) H' → Q (.ref p) H') : rMul (.ref a) (.int k) H Q := .inr ⟨a, k, xs, rfl, rfl, h, h1, h2, hl, fun p n => q p _ n (hH.new n)⟩
def rEqA (K : PySem.W.Frag) : R2 := fun x y H Q => rEq x y H Q ∨ rEqD K x y H Q
def rNeA (K : PySem.W.Frag) : R2 := fun x y H Q => rNe x y H Q ∨ rNeD K x y H Q
theorem g_eqI {i j : Int} (q : Q (.bl (decide (i = j))) H) : rEqA K (.int i) (.int j) H Q := .inl ⟨rfl, by rw [dec_int, Bool.beq_eq_decide_eq]; exact q⟩
theorem g_eqS {i j : Str} (q : Q (.bl (decide (i = j))) H) : rEqA K (.str i) (.str j) H Q := .inl ⟨rfl, by rw [dec_str, Bool.beq_eq_decide_eq]; exact q⟩
theorem g_neI {i j : Int} (q : Q (.bl (!decide (i = j))) H) : rNeA K (.int i) (.int j) H Q := .inl ⟨rfl, by rw [dec_int, Bool.beq_eq_decide_eq]; exact q⟩
theorem g_neS {i j : Str} (q : Q (.bl (!decide (i = j))) H) : rNeA K (.str i) (.str j) H Q := .inl ⟨rfl, by rw [dec_str, Bool.beq_eq_decide_eq]; exact q⟩
theorem g_eqD {d e : PyData} (hx : Dq H x d) (hy : Dq H y e) (sd : SeqAt.shaped d = true) (se : SeqAt.shaped e = true) (q : Q (.bl (PyData.eqv d e)) H) : rEqA K x y H Q := .inr ⟨d, e, hx.dp K d x, hy.dp K e y, sd, se, q⟩
theorem g_neD {d e : PyData} (hx : Dq H x d) (hy : Dq H y e) (sd : SeqAt.shaped d = true) (se : SeqAt.shaped e = true) (q : Q (.bl (!PyData.eqv d e)) H) : rNeA K x y H Q := .inr ⟨d, e, hx.dp K d x, hy.dp K e y, sd, se, q⟩
def rIsN : R2 := fun x y H Q => y = .non ∧ Q (.bl (decide (x = .non))) H
def rNotN : R2 := fun x y H Q => y = .non ∧ Q (.bl (!decide (x = .non))) H
theorem g_isN (q : Q (.bl (decide (x = .non))) H) : rIsN x .non H Q := ⟨rfl, q⟩
theorem g_notN (q : Q (.bl (!decide (x = .non))) H) : rNotN x .non H Q := ⟨rfl, q⟩
def rIxD : R2 := fun x y H Q => ∃ a v, x = .ref a ∧ DGet H a y (some v) ∧ Q v H
def rIxA (K : PySem.W.Frag) : R2 := fun x y H Q => rIx K x y H Q ∨ rIxD x y H Q
theorem g_ixL {a : Addr} {xs : List V} {i : Int} (h : H a = some (.lst xs)) (ha : atI xs i = some v) (q : Q v H) : rIxA K (.ref a) (.int i) H Q := .inl <| .inl ⟨a, xs, i, v, rfl, rfl, SqL.of h, ha, q⟩
theorem g_ixT {a : Addr} {xs : List V} {i : Int} (h : H a = some (.tup xs)) (ha : atI xs i = some v) (q : Q v H) : rIxA K (.ref a) (.int i) H Q := .inl (.inr (.inl ⟨a, xs, i, v, rfl, rfl, SqT.of h, ha, q⟩))
theorem g_ixS {z : Str} {i : Int} {c : Nat} (hl : z.length ≤ sizeLine) (ha : atI z.cps.toList i = some c) (q : Q (.str ⟨#[c]⟩) H) : rIxA K (.str z) (.int i) H Q := .inl (.inr (.inr ⟨z, i, c, rfl, rfl, hl, ha, q⟩))
theorem at_n {xs : List V} {i : Int} (h0 : 0 ≤ i) (h : xs[i.toNat]? = some v) : atI xs i = some v := by
  have e : i = (i.toNat : Int) := by omega
  rw [e]
  exact atI_nat h

/-! ### calls of what is built in -/
def rLen (K : PySem.W.Frag) : List V → Hp → VK → Prop := fun xs H Q => (∃ p ys, xs = [.ref p] ∧ (SqL K H p ys ∨ SqT K H p ys) ∧ Q (.int ys.length) H) ∨ ∃ z, xs = [.str z] ∧ z.length ≤ sizeLine ∧ Q (.int z.length) H
theorem g_lenL {a : Addr} {xs : List V} (h : H a = some (.lst xs)) (q : Q (.int (xs.length : Int)) H) : rLen K [.ref a] H Q := .inl ⟨a, xs, rfl, .inl (SqL.of h), q⟩
theorem g_lenT {a : Addr} {xs : List V} (h : H a = some (.tup xs)) (q : Q (.int (xs.length : Int)) H) : rLen K [.ref a] H Q := .inl ⟨a, xs, rfl, .inr (SqT.of h), q⟩
theorem g_lenS {z : Str} (h : z.length ≤ sizeLine) (q : Q (.int (z.length : Int)) H) : rLen K [.str z] H Q := .inr ⟨z, rfl, h, q⟩
def rInt1 : List V → Hp → VK → Prop := fun xs H Q => (∃ i, xs = [.int i] ∧ Q (.int i) H) ∨ ∃ k, xs = [.bl k] ∧ Q (.int (if k then 1 else 0)) H
theorem g_int {i : Int} (q : Q (.int i) H) : rInt1 [.int i] H Q := .inl ⟨i, rfl, q⟩
theorem g_intB {k : Bool} (q : Q (.int (if k then 1 else 0)) H) : rInt1 [.bl k] H Q := .inr ⟨k, rfl, q⟩
def rAbs1 : List V → Hp → VK → Prop := fun xs H Q => ∃ i, xs = [.int i] ∧ Q (.int (if i < 0 then -i else i)) H
theorem g_abs {i : Int} (q : ∀ j : Int, 0 ≤ j → Q (.int j) H) : rAbs1 [.int i] H Q := ⟨i, rfl, q _ (by split <;> omega)⟩
def rMax2 : List V → Hp → VK → Prop := fun xs H Q => ∃ i j, xs = [.int i, .int j] ∧ Q (.int (if j > i then j else i)) H
theorem g_max2 {i j : Int} (q : Q (.int (max i j)) H) : rMax2 [.int i, .int j] H Q := ⟨i, j, rfl, by
  have e : (if j > i then j else i) = max i j := by split <;> omega
  rw [e]
  exact q⟩
def rListOf (K : PySem.W.Frag) : List V → Hp → VK → Prop := fun xs H Q => ∃ p ys, xs = [.ref p] ∧ (SqL K H p ys ∨ SqT K H p ys) ∧ ∀ l, H l = none → Q (.ref l) (upd H l (.lst ys))
theorem g_listL {a : Addr} {xs : List V} (h : H a = some (.lst xs)) (hH : Has F O H) (q : ∀ p H', H p = none → Has F ((p, .lst xs) :: O) H' → Q (.ref p) H') : rListOf K [.ref a] H Q := ⟨a, xs, rfl, .inl (SqL.of h), fun p n => q p _ n (hH.new n)⟩
theorem g_listT {a : Addr} {xs : List V} (h : H a = some (.tup xs)) (hH : Has F O H) (q : ∀ p H', H p = none → Has F ((p, .lst xs) :: O) H' → Q (.ref p) H') : rListOf K [.ref a] H Q := ⟨a, xs, rfl, .inr (SqT.of h), fun p n => q p _ n (hH.new n)⟩
def rTupleOf (K : PySem.W.Frag) : List V → Hp → VK → Prop := fun xs H Q => ∃ p ys, xs = [.ref p] ∧ ((SqL K H p ys ∧ ∀ l, H l = none → Q (.ref l) (upd H l (.tup ys))) ∨ (SqT K H p ys ∧ Q (.ref p) H))
theorem g_tupleL {a : Addr} {xs : List V} (h : H a = some (.lst xs)) (hH : Has F O H) (q : ∀ p H' F', H p = none → Same F F' → F' p = some (.tup xs) → Has F' O H' → Q (.ref p) H') : rTupleOf K [.ref a] H Q :=
  ⟨a, xs, rfl, .inl ⟨SqL.of h, fun p n => q p _ (upd F p (.tup xs)) n (same_upd (hH.same.free n)) upd_same (hH.new n).frz⟩⟩
theorem g_tupleT {a : Addr} {xs : List V} (h : H a = some (.tup xs)) (q : Q (.ref a) H) : rTupleOf K [.ref a] H Q := ⟨a, xs, rfl, .inr ⟨SqT.of h, q⟩⟩

/-! ### methods of lists, stores -/
theorem g_append {a : Addr} {xs : List V} (hH : Has F O H) (c : Chg O a (.lst xs) (.lst (xs ++ [y])) O') (hl : xs.length < sizeLine) (q : ∀ H', Has F O' H' → Q .non H') : rAppend (.ref a) [y] H Q :=
  ⟨a, xs, y, rfl, rfl, hH.get c.mem, hl, q _ (hH.put c)⟩
theorem g_popAt {a : Addr} {xs : List V} {i : Int} {k : Nat} (hH : Has F O H) (c : Chg O a (.lst xs) (.lst (xs.eraseIdx k)) O') (h1 : -(2 ^ 63) ≤ i) (h2 : i < 2 ^ 63) (hk : seqIndex? i xs.length = some k) (hy : xs[k]? = some y)
    (q : ∀ H', Has F O' H' → Q y H') : rPopAt (.ref a) [.int i] H Q := ⟨a, xs, i, k, y, rfl, rfl, hH.get c.mem, h1, h2, hk, hy, q _ (hH.put c)⟩
theorem g_clear {a : Addr} {xs : List V} (hH : Has F O H) (c : Chg O a (.lst xs) (.lst []) O') (q : ∀ H', Has F O' H' → Q .non H') : rClear (.ref a) [] H Q := ⟨a, xs, rfl, rfl, hH.get c.mem, q _ (hH.put c)⟩
/-- o[i] = v -/
def kSet (t : TSet) (R : L2.St → Hp → Prop) (σ : L2.St) (o i v : V) (H : Hp) : Prop := t o i v H fun H3 => R σ H3
theorem g_sub {to ti : TE} {t : TSet} {R : L2.St → Hp → Prop} (q : to σ H fun o H1 => ti σ H1 fun i H2 => kSet t R σ o i v H2) : gSub to ti t v σ H R := q
theorem g_setL {R : L2.St → Hp → Prop} {a : Addr} {xs : List V} {k : Int} {j : Nat} (hH : Has F O H) (c : Chg O a (.lst xs) (.lst (xs.set j v)) O') (hj : ixN xs.length k = some j) (q : ∀ H', Has F O' H' → R σ H') : kSet rSetL R σ (.ref a) (.int k) v H :=
  ⟨a, xs, k, j, rfl, rfl, hH.get c.mem, hj, q _ (hH.put c)⟩
theorem ixN_nat {n : Nat} {k : Int} (h0 : 0 ≤ k) (h : k < n) : ixN n k = some k.toNat := by
  unfold ixN
  rw [if_pos h0, if_pos h]
/-- a, b = a tuple -/
theorem g_gtup {n : Nat} {t : TGs} {a : Addr} {xs : List V} {R : L2.St → Hp → Prop} (h : H a = some (.tup xs)) (hl : xs.length = n) (q : t xs σ H R) : gTup K n t (.ref a) σ H R := ⟨a, xs, rfl, SqT.of h, hl, q⟩
theorem g_gcons {t : TG} {u : TGs} {r : List V} {R : L2.St → Hp → Prop} (q : t v σ H fun σ' H' => u r σ' H' R) : gCons t u (v :: r) σ H R := ⟨v, r, rfl, q⟩
theorem g_gnil {R : L2.St → Hp → Prop} (q : R σ H) : gNil [] σ H R := ⟨rfl, q⟩
/-- slices -/
def kSl (r : V → Option Int → Option Int → Hp → VK → Prop) (tl th : TO) (σ : L2.St) (x : V) (H : Hp) (Q : VK) : Prop := tl σ H fun l H2 => th σ H2 fun u H3 => r x l u H3 Q
theorem g_sl {r : V → Option Int → Option Int → Hp → VK → Prop} {tl th : TO} (q : te σ H fun x H1 => kSl r tl th σ x H1 Q) : tSl r te tl th σ H Q := q
theorem g_kslN {r : V → Option Int → Option Int → Hp → VK → Prop} (q : r x none none H Q) : kSl r tNoPart tNoPart σ x H Q := q
theorem g_kslL {r : V → Option Int → Option Int → Hp → VK → Prop} {tl : TE} {i : Int} (q : tl σ H fun z H1 => ∃ i, z = .int i ∧ r x (some i) none H1 Q) : kSl r (tPart tl) tNoPart σ x H Q := q
theorem g_kslH {r : V → Option Int → Option Int → Hp → VK → Prop} {tl : TE} {i : Int} (q : tl σ H fun z H1 => ∃ i, z = .int i ∧ r x none (some i) H1 Q) : kSl r tNoPart (tPart tl) σ x H Q := q
def rRevL (K : PySem.W.Frag) (x : V) (H : Hp) (Q : VK) : Prop := ∃ a xs, x = .ref a ∧ SqL K H a xs ∧ ∀ p, H p = none → Q (.ref p) (upd H p (.lst xs.reverse))
end

/-! ### loops -/
def kW (J : It) (g : TG) (tb : TS) (D : Ends) (σ : L2.St) (H : Hp) : Prop := ∃ W : Nat → Nat → L2.St → Hp → Prop, (∃ m, W 0 m σ H) ∧ ∀ i m σ H, W i m σ H →
  (J.stop i H ∧ D.nx σ H) ∨ (J.go i H ∧ ∃ N : L2.St → Hp → Prop, (∀ σ' H', N σ' H' → ∃ m', m' < m ∧ W (i + 1) m' σ' H') ∧ ∀ x H', J.yld i H x H' → g x σ H' fun σ2 H2 => tb { D with nx := N, ct := N, bk := D.nx } σ2 H2)
def kForL (K : PySem.W.Frag) (g : TG) (tb : TS) (D : Ends) (σ : L2.St) (x : V) (H : Hp) : Prop := ∃ a, x = .ref a ∧ (∃ xs, SqL K H a xs) ∧ kW (Itl K a) g tb D σ H
def kForR1 (g : TG) (tb : TS) (D : Ends) (σ : L2.St) (vs : List V) (H : Hp) : Prop := ∃ j : Int, vs = [.int j] ∧ -(2 ^ 62) ≤ j ∧ j < 2 ^ 62 ∧ kW (Itr 0 j.toNat) g tb D σ H
def kForR2 (g : TG) (tb : TS) (D : Ends) (σ : L2.St) (vs : List V) (H : Hp) : Prop := ∃ i j : Int, vs = [.int i, .int j] ∧ (-(2 ^ 62) ≤ i ∧ i < 2 ^ 62 ∧ -(2 ^ 62) ≤ j ∧ j < 2 ^ 62) ∧ kW (Itr i (j - i).toNat) g tb D σ H
def kForR3 (g : TG) (tb : TS) (D : Ends) (σ : L2.St) (vs : List V) (H : Hp) : Prop := ∃ (i j c : Int) (n : Nat), vs = [.int i, .int j, .int c] ∧ RgC i j c n ∧ kW (Itc i c n) g tb D σ H
section
variable {K : PySem.W.Frag} {σ : L2.St} {F : Hp} {O O' : Own} {H : Hp} {Q : VK} {ta tb tc te : TE} {x y v : V} {D : Ends} {t1 t2 ts : TS} {g : TG}
theorem g_forL (q : te σ H fun x H1 => kForL K g ts D σ x H1) : tFor (iList K te) g ts D σ H := q
theorem g_forR1 {ta : TA} (q : ta σ H fun vs H1 => kForR1 g ts D σ vs H1) : tFor (iRng1 ta) g ts D σ H := q
theorem g_forR2 {ta : TA} (q : ta σ H fun vs H1 => kForR2 g ts D σ vs H1) : tFor (iRng2 ta) g ts D σ H := q
theorem g_forR3 {ta : TA} (q : ta σ H fun vs H1 => kForR3 g ts D σ vs H1) : tFor (iRng3 ta) g ts D σ H := q
theorem k_forL {a : Addr} {xs : List V} (h : H a = some (.lst xs)) (Pv : Nat → L2.St → Hp → Prop) (h0 : Pv 0 σ H) (hl : ∀ i σ H, i ≤ xs.length → Pv i σ H → H a = some (.lst xs))
    (hs : ∀ i x σ H, xs[i]? = some x → Pv i σ H → g x σ H fun σ2 H2 => ts { D with nx := Pv (i + 1), ct := Pv (i + 1), bk := D.nx } σ2 H2) (hd : ∀ σ H, Pv xs.length σ H → D.nx σ H) : kForL K g ts D σ (.ref a) H :=
  ⟨a, rfl, ⟨xs, SqL.of h⟩, for_list Pv h0 (fun i σ H hi p => SqL.of (hl i σ H hi p)) hs hd⟩
theorem k_forR1 {j : Int} (Pv : Nat → L2.St → Hp → Prop) (h1 : -(2 ^ 62) ≤ j) (h2 : j < 2 ^ 62) (h0 : Pv 0 σ H)
    (hs : ∀ i σ H, i < j.toNat → Pv i σ H → g (.int (i : Int)) σ H fun σ2 H2 => ts { D with nx := Pv (i + 1), ct := Pv (i + 1), bk := D.nx } σ2 H2) (hd : ∀ σ H, Pv j.toNat σ H → D.nx σ H) : kForR1 g ts D σ [.int j] H :=
  ⟨j, rfl, h1, h2, for_range Pv h0 (fun i σ H hi p => by rw [Int.zero_add]; exact hs i σ H hi p) hd⟩
/-- n - 1 down to 0 -/
theorem k_forDown {n : Nat} {j : Int} (hj : j = (n : Int) - 1) (hn : n < 2 ^ 60) (Pv : Nat → L2.St → Hp → Prop) (h0 : Pv n σ H)
    (hs : ∀ i σ H, i < n → Pv (i + 1) σ H → g (.int (i : Int)) σ H fun σ2 H2 => ts { D with nx := Pv i, ct := Pv i, bk := D.nx } σ2 H2) (hd : ∀ σ H, Pv 0 σ H → D.nx σ H) : kForR3 g ts D σ [.int j, .int (-1), .int (-1)] H := by
  subst hj
  have e : (((n : Int) - 1) - (-1)).toNat = n := by omega
  have rg := RgC.neg (i := (n : Int) - 1) (j := -1) (by omega) (by omega) (by decide) (by decide)
  rw [e] at rg
  refine ⟨_, _, _, n, rfl, rg, for_rangeC (fun i => Pv (n - i)) h0 (fun i σ H hi p => ?_) (fun σ H p => ?_)⟩
  · have e1 : (n : Int) - 1 + (i : Nat) * (-1) = ((n - (i + 1) : Nat) : Int) := by omega
    have e2 : n - i = (n - (i + 1)) + 1 := by omega
    rw [e1]
    have p' : Pv ((n - (i + 1)) + 1) σ H := by rw [← e2]; exact p
    exact hs _ σ H (by omega) p'
  · have p' : Pv (n - n) σ H := p
    rw [Nat.sub_self] at p'
    exact hd σ H p'
/-- while -/
def kWh (Pv : Nat → L2.St → Hp → Prop) (m : Nat) (tb : TS) (D : Ends) (σ : L2.St) (b : Bool) (H : Hp) : Prop := if b = true then ∃ N : L2.St → Hp → Prop, (∀ σ' H', N σ' H' → ∃ m', m' < m ∧ Pv m' σ' H') ∧ tb { D with nx := N, ct := N, bk := D.nx } σ H else D.nx σ H
theorem g_while {c : TT} (Pv : Nat → L2.St → Hp → Prop) (m : Nat) (h0 : Pv m σ H) (hs : ∀ m σ H, Pv m σ H → c σ H fun b H1 => kWh Pv m ts D σ b H1) : tWhile c ts D σ H := ⟨Pv, ⟨m, h0⟩, hs⟩
theorem kwh_t {Pv : Nat → L2.St → Hp → Prop} {m : Nat} (q : ts { D with nx := fun σ' H' => ∃ m', m' < m ∧ Pv m' σ' H', ct := fun σ' H' => ∃ m', m' < m ∧ Pv m' σ' H', bk := D.nx } σ H) : kWh Pv m ts D σ true H := by
  unfold kWh
  rw [if_pos rfl]
  exact ⟨_, fun _ _ h => h, q⟩
theorem kwh_f {Pv : Nat → L2.St → Hp → Prop} {m : Nat} (q : D.nx σ H) : kWh Pv m ts D σ false H := by
  unfold kWh
  rw [if_neg Bool.false_ne_true]
  exact q

/-! ### list comprehensions -/
def kLc (J : It) (g : TG) (tt : TT) (te : TE) (vs : List Nat) (σ : L2.St) (H1 : Hp) (Q : VK) : Prop := ∀ D, H1 D = none → ∃ W : Nat → Nat → Hp → Prop, (∃ m, W 0 m (upd H1 D (.lst []))) ∧ ∀ i m H, W i m H →
  (J.stop i H ∧ Q (.ref D) H) ∨ (J.go i H ∧ ∃ Nx : Hp → Prop, (∀ H', Nx H' → ∃ m', m' < m ∧ W (i + 1) m' H') ∧ ∀ x H', J.yld i H x H' → g x (wipe σ vs) H' fun σ2 H2 => wipe σ2 vs = wipe σ vs ∧ tt σ2 H2 fun b H3 =>
    if b = true then te σ2 H3 fun y H4 => ∃ acc, H4 D = some (.lst acc) ∧ acc.length < sizeLine ∧ Nx (upd H4 D (.lst (acc ++ [y]))) else Nx H3)
def kLcL (K : PySem.W.Frag) (g : TG) (tt : TT) (te : TE) (vs : List Nat) (σ : L2.St) (x : V) (H : Hp) (Q : VK) : Prop := ∃ a, x = .ref a ∧ (∃ xs, SqL K H a xs) ∧ kLc (Itl K a) g tt te vs σ H Q
def kLcR1 (g : TG) (tt : TT) (te : TE) (ws : List Nat) (σ : L2.St) (vs : List V) (H : Hp) (Q : VK) : Prop := ∃ j : Int, vs = [.int j] ∧ -(2 ^ 62) ≤ j ∧ j < 2 ^ 62 ∧ kLc (Itr 0 j.toNat) g tt te ws σ H Q
theorem g_lcL {tt : TT} {vs : List Nat} (q : ta σ H fun x H1 => kLcL K g tt te vs σ x H1 Q) : tLc (iList K ta) g tt te vs σ H Q := q
theorem g_lcR1 {ta : TA} {tt : TT} {vs : List Nat} (q : ta σ H fun xs H1 => kLcR1 g tt te vs σ xs H1 Q) : tLc (iRng1 ta) g tt te vs σ H Q := q
/-- what a turn is to leave -/
def kNx (S : Nat → List V → Hp → Own → Prop) (i : Nat) (D : Addr) (H : Hp) : Prop := ∃ acc F' O', S (i + 1) acc F' O' ∧ Has F' ((D, .lst acc) :: O') H
def kTurn (D : Addr) (Nx : Hp → Prop) (y : V) (H : Hp) : Prop := ∃ acc, H D = some (.lst acc) ∧ acc.length < sizeLine ∧ Nx (upd H D (.lst (acc ++ [y])))
theorem k_turn {S : Nat → List V → Hp → Own → Prop} {i : Nat} {D : Addr} {acc : List V} {y : V} {H : Hp} {F : Hp} {O : Own} (h : Has F ((D, .lst acc) :: O) H) (hl : acc.length ≤ 100000) (s : S (i + 1) (acc ++ [y]) F O) : kTurn D (kNx S i D) y H :=
  ⟨acc, h.get (List.Mem.head _), by rw [sizeLine_eq]; omega, _, F, O, s, h.put .hd⟩
theorem k_skip {S : Nat → List V → Hp → Own → Prop} {i : Nat} {D : Addr} {acc : List V} {H : Hp} {F : Hp} {O : Own} (h : Has F ((D, .lst acc) :: O) H) (s : S (i + 1) acc F O) : kNx S i D H := ⟨acc, F, O, s, h⟩
theorem k_lc {J : It} {tt : TT} {vs : List Nat} (hH : Has F O H) (n : Nat) (S : Nat → List V → Hp → Own → Prop) (h0 : S 0 [] F O)
    (go : ∀ i acc F O D H, i < n → S i acc F O → Has F ((D, .lst acc) :: O) H → J.go i H) (stop : ∀ acc F O D H, S n acc F O → Has F ((D, .lst acc) :: O) H → J.stop n H)
    (hs : ∀ i x acc F O D H H', i < n → J.yld i H x H' → S i acc F O → Has F ((D, .lst acc) :: O) H → g x (wipe σ vs) H' fun σ2 H2 => wipe σ2 vs = wipe σ vs ∧ tt σ2 H2 fun b H3 => if b = true then te σ2 H3 fun y H4 => kTurn D (kNx S i D) y H4 else kNx S i D H3)
    (hd : ∀ acc F O D H, S n acc F O → Has F ((D, .lst acc) :: O) H → Q (.ref D) H) : kLc J g tt te vs σ H Q := by
  intro D hD
  refine ⟨fun i m H => m = n - i ∧ i ≤ n ∧ ∃ acc F O, S i acc F O ∧ Has F ((D, .lst acc) :: O) H, ⟨n, by simp, Nat.zero_le _, [], F, O, h0, hH.new hD⟩, ?_⟩
  rintro i m H1 ⟨rfl, hi, acc, F1, O1, s1, hH1⟩
  by_cases hlt : i < n
  · exact .inr ⟨go i acc F1 O1 D H1 hlt s1 hH1, kNx S i D, fun H' p => ⟨n - (i + 1), by omega, rfl, hlt, p⟩, fun x H' y => hs i x acc F1 O1 D H1 H' hlt y s1 hH1⟩
  · have e : i = n := by omega
    subst e
    exact .inl ⟨stop acc F1 O1 D H1 s1 hH1, hd acc F1 O1 D H1 s1 hH1⟩
/-- over a list that stands still -/
theorem k_lcL {a : Addr} {xs : List V} {tt : TT} {vs : List Nat} (h : H a = some (.lst xs)) (hH : Has F O H) (S : Nat → List V → Hp → Own → Prop) (h0 : S 0 [] F O) (hl : ∀ i acc F O H, S i acc F O → Has F O H → H a = some (.lst xs))
    (hs : ∀ i x acc F O D H, xs[i]? = some x → S i acc F O → Has F ((D, .lst acc) :: O) H → g x (wipe σ vs) H fun σ2 H2 => wipe σ2 vs = wipe σ vs ∧ tt σ2 H2 fun b H3 => if b = true then te σ2 H3 fun y H4 => kTurn D (kNx S i D) y H4 else kNx S i D H3)
    (hd : ∀ acc F O D H, S xs.length acc F O → Has F ((D, .lst acc) :: O) H → Q (.ref D) H) : kLcL K g tt te vs σ (.ref a) H Q := by
  refine ⟨a, rfl, ⟨xs, SqL.of h⟩, k_lc hH xs.length S h0 (fun i acc F O D H hi s hh => ?_) (fun acc F O D H s hh => ?_) (fun i x acc F O D H H' hi y s hh => ?_) hd⟩
  · exact ⟨xs, xs[i], SqL.of (hl i acc F O H s hh.drop), List.getElem?_eq_getElem hi⟩
  · exact ⟨xs, SqL.of (hl _ acc F O H s hh.drop), Nat.le_refl _⟩
  · obtain ⟨e, y⟩ := y
    subst e
    exact hs i x acc F O D _ (y xs (SqL.of (hl i acc F O _ s hh.drop))) s hh
theorem k_lcR1 {j : Int} {tt : TT} {vs : List Nat} (h1 : -(2 ^ 62) ≤ j) (h2 : j < 2 ^ 62) (hH : Has F O H) (S : Nat → List V → Hp → Own → Prop) (h0 : S 0 [] F O)
    (hs : ∀ i acc F O D H, i < j.toNat → S i acc F O → Has F ((D, .lst acc) :: O) H → g (.int (i : Int)) (wipe σ vs) H fun σ2 H2 => wipe σ2 vs = wipe σ vs ∧ tt σ2 H2 fun b H3 => if b = true then te σ2 H3 fun y H4 => kTurn D (kNx S i D) y H4 else kNx S i D H3)
    (hd : ∀ acc F O D H, S j.toNat acc F O → Has F ((D, .lst acc) :: O) H → Q (.ref D) H) : kLcR1 g tt te vs σ [.int j] H Q := by
  refine ⟨j, rfl, h1, h2, k_lc hH j.toNat S h0 (fun i acc F O D H hi s hh => hi) (fun acc F O D H s hh => Nat.le_refl _) (fun i x acc F O D H H' hi y s hh => ?_) hd⟩
  obtain ⟨e, y⟩ := y
  subst e y
  rw [Int.zero_add]
  exact hs i acc F O D _ hi s hh
end

/-! ### the rules' own soundness: one operator for several kinds -/
section
variable {X : Cx}
theorem op_addA : OpR X (binaryOp .Add) (rAdd X.K) := by
  intro pins s σ H x y v u Q I rx ry h
  rcases h with (h | h) | h | h
  · exact op_add pins s σ H x y v u Q I rx ry h
  · exact op_add_str pins s σ H x y v u Q I rx ry h
  · exact op_cat pins s σ H x y v u Q I rx ry h
  · exact op_catA pins s σ H x y v u Q I rx ry h
theorem op_mulA : OpR X (binaryOp .Mult) rMul := by
  intro pins s σ H x y v u Q I rx ry h
  rcases h with h | h
  · exact op_mul pins s σ H x y v u Q I rx ry h
  · exact op_rep pins s σ H x y v u Q I rx ry h
theorem op_eqA (hu : X.A.units + 64 < cLine) : OpR X (compareOp .Eq) (rEqA X.K) := by
  intro pins s σ H x y v u Q I rx ry h
  rcases h with h | h
  · exact op_eq pins s σ H x y v u Q I rx ry h
  · exact op_eqD hu pins s σ H x y v u Q I rx ry h
theorem op_neA (hu : X.A.units + 64 < cLine) : OpR X (compareOp .NotEq) (rNeA X.K) := by
  intro pins s σ H x y v u Q I rx ry h
  rcases h with h | h
  · exact op_ne pins s σ H x y v u Q I rx ry h
  · exact op_neD hu pins s σ H x y v u Q I rx ry h
theorem op_isNA : OpR X (compareOp .Is) rIsN := op_isN
theorem op_notNA : OpR X (compareOp .IsNot) rNotN := op_notN
theorem cr_len : CallR X (.builtin "len") (rLen X.K) := by
  intro pins s σ H xs us Q I r h
  rcases h with h | h
  · exact call_len_seq pins s σ H xs us Q I r h
  · exact call_len_str pins s σ H xs us Q I r h
theorem cr_int1 : CallR X (.type "int") rInt1 := call_int1
theorem cr_abs1 : CallR X (.builtin "abs") rAbs1 := call_abs
theorem cr_max2 (hc : X.calm = true) : CallR X (.builtin "max") rMax2 := call_max2 hc
theorem cr_listOf : CallR X (.type "list") (rListOf X.K) := call_list_of
theorem cr_tupleOf : CallR X (.type "tuple") (rTupleOf X.K) := call_tuple_of
end

/-! ### dicts -/
def rInDc : R2 := fun x y H Q => ∃ a o, y = .ref a ∧ DGet H a x o ∧ Q (.bl o.isSome) H
def rNotInDc : R2 := fun x y H Q => ∃ a o, y = .ref a ∧ DGet H a x o ∧ Q (.bl (!o.isSome)) H
section
variable {X : Cx}
theorem op_inDc (hu : X.A.units + 1 < cLine) : OpR X (compareOp .In) rInDc := by
  intro pins s σ H x y v u Q I rx ry h
  obtain ⟨a, o, rfl, g, q⟩ := h
  cases ry
  exact d_in hu I g rx fun s' I' => ⟨.bl _, H, I', rfl, q⟩
theorem op_notinDc (hu : X.A.units + 1 < cLine) : OpR X (compareOp .NotIn) rNotInDc := by
  intro pins s σ H x y v u Q I rx ry h
  obtain ⟨a, o, rfl, g, q⟩ := h
  cases ry
  exact d_notIn hu I g rx fun s' I' => ⟨.bl _, H, I', rfl, q⟩
end
def kGet2 (ty tx : TE) (σ : L2.St) (x : V) (H : Hp) (Q : VK) : Prop := ∃ a, x = .ref a ∧ IsD H a ∧ ty σ H fun y H2 => tx σ H2 fun z H3 => ∃ o, DGet H3 a y o ∧ Q (o.getD z) H3
def kGot (a : Addr) (y z : V) (H : Hp) (Q : VK) : Prop := ∃ o, DGet H a y o ∧ Q (o.getD z) H
section
variable {K : PySem.W.Frag} {σ : L2.St} {F : Hp} {O O' : Own} {H : Hp} {Q : VK} {ta tb tc te : TE} {x y v : V} {D : Ends} {t1 t2 ts : TS} {g : TG}
theorem g_dnew (hH : Has F O H) (q : ∀ p H', H p = none → Has F ((p, .dK []) :: O) H' → Q (.ref p) H') : tDNewK σ H Q := fun p n => q p _ n (hH.new n)
theorem g_inDI {a : Addr} {kvs : List (Key × V)} {i : Int} (h : H a = some (.dK kvs)) (q : Q (.bl (valV kvs (.inl i)).isSome) H) : rInDc (.int i) (.ref a) H Q := ⟨a, _, rfl, DGet.k (k := .inl i) h, q⟩
theorem g_notinDI {a : Addr} {kvs : List (Key × V)} {i : Int} (h : H a = some (.dK kvs)) (q : Q (.bl (!(valV kvs (.inl i)).isSome)) H) : rNotInDc (.int i) (.ref a) H Q := ⟨a, _, rfl, DGet.k (k := .inl i) h, q⟩
theorem g_setDI {R : L2.St → Hp → Prop} {a : Addr} {kvs : List (Key × V)} {i : Int} (hH : Has F O H) (c : Chg O a (.dK kvs) (.dK (putK kvs (.inl i) v)) O') (hl : kvs.length < sizeLine) (q : ∀ H', Has F O' H' → R σ H') : kSet rSetD R σ (.ref a) (.int i) v H :=
  ⟨a, _, rfl, DPut.k (k := .inl i) (hH.get c.mem) hl, q _ (hH.put c)⟩
theorem g_get2 (q : ta σ H fun x H1 => kGet2 tb tc σ x H1 Q) : tDGet2 ta tb tc σ H Q := q
theorem g_kget2 {a : Addr} {kvs : List (Key × V)} (h : H a = some (.dK kvs)) (q : tb σ H fun y H2 => tc σ H2 fun z H3 => kGot a y z H3 Q) : kGet2 tb tc σ (.ref a) H Q := ⟨a, rfl, .inl ⟨kvs, .inl h⟩, q⟩
theorem g_kgotI {a : Addr} {kvs : List (Key × V)} {i : Int} {z : V} (h : H a = some (.dK kvs)) (q : Q ((valV kvs (.inl i)).getD z) H) : kGot a (.int i) z H Q := ⟨_, DGet.k (k := .inl i) h, q⟩
theorem g_kgotS {a : Addr} {kvs : List (Key × V)} {i : Str} {z : V} (h : H a = some (.dK kvs)) (q : Q ((valV kvs (.inr i)).getD z) H) : kGot a (.str i) z H Q := ⟨_, DGet.k (k := .inr i) h, q⟩
end

/-! ### in, not in; o[i] = v: any of the kinds -/
def rInA (K : PySem.W.Frag) : R2 := fun x y H Q => (rIn K false x y H Q ∨ rInDc x y H Q) ∨ (∃ i j, x = .str i ∧ y = .str j ∧ Q (.bl (!(Builtin.Str.occurrences j i 0 j.length 1).isEmpty)) H) ∨ rInD K x y H Q
def rNotInA (K : PySem.W.Frag) : R2 := fun x y H Q => (rIn K true x y H Q ∨ rNotInDc x y H Q) ∨ (∃ i j, x = .str i ∧ y = .str j ∧ Q (.bl (!(!(Builtin.Str.occurrences j i 0 j.length 1).isEmpty))) H) ∨ rNotInD K x y H Q
def rSetA : TSet := fun o i v H Q => rSetL o i v H Q ∨ rSetD o i v H Q
section
variable {X : Cx}
theorem op_inA (hu : X.A.units + 64 < cLine) (hu' : X.A.units + 65 < cLine) : OpR X (compareOp .In) (rInA X.K) := by
  intro pins s σ H x y v u Q I rx ry h
  rcases h with (h | h) | h | h
  · exact op_in_seq pins s σ H x y v u Q I rx ry h
  · exact op_inDc (by omega) pins s σ H x y v u Q I rx ry h
  · exact op_in_str pins s σ H x y v u Q I rx ry h
  · exact op_inD hu' pins s σ H x y v u Q I rx ry h
theorem op_notinA (hu : X.A.units + 64 < cLine) (hu' : X.A.units + 65 < cLine) : OpR X (compareOp .NotIn) (rNotInA X.K) := by
  intro pins s σ H x y v u Q I rx ry h
  rcases h with (h | h) | h | h
  · exact op_notIn_seq pins s σ H x y v u Q I rx ry h
  · exact op_notinDc (by omega) pins s σ H x y v u Q I rx ry h
  · exact L2.op_notIn_str pins s σ H x y v u Q I rx ry h
  · exact op_notInD hu' pins s σ H x y v u Q I rx ry h
theorem set_any (hu : X.A.units + 1 < cLine) : PSet X rSetA := by
  intro pins s σ H o i v ov iv u Q I ro ri rv h
  rcases h with h | h
  · exact set_list pins s σ H o i v ov iv u Q I ro ri rv h
  · exact set_dict hu pins s σ H o i v ov iv u Q I ro ri rv h
theorem u65 {k : Nat} {A : Around} (r : Room k A) : A.units + 65 < cLine := by have := r.un; omega
end
section
variable {K : PySem.W.Frag} {σ : L2.St} {F : Hp} {O O' : Own} {H : Hp} {Q : VK} {x y v : V}
theorem g_inFL {a : Addr} {xs : List V} (h : H a = some (.lst xs)) (hx : flatV x = true) (hf : xs.all flatV = true) (q : Q (.bl (inV x xs)) H) : rInA K x (.ref a) H Q := .inl (.inl ⟨a, xs, rfl, .inl (SqL.of h), hx, hf, q⟩)
theorem g_notinFL {a : Addr} {xs : List V} (h : H a = some (.lst xs)) (hx : flatV x = true) (hf : xs.all flatV = true) (q : Q (.bl (!inV x xs)) H) : rNotInA K x (.ref a) H Q := .inl (.inl ⟨a, xs, rfl, .inl (SqL.of h), hx, hf, q⟩)
theorem g_inI {a : Addr} {kvs : List (Key × V)} {i : Int} (h : H a = some (.dK kvs)) (q : Q (.bl (valV kvs (.inl i)).isSome) H) : rInA K (.int i) (.ref a) H Q := .inl (.inr ⟨a, _, rfl, DGet.k (k := .inl i) h, q⟩)
theorem g_notinI {a : Addr} {kvs : List (Key × V)} {i : Int} (h : H a = some (.dK kvs)) (q : Q (.bl (!(valV kvs (.inl i)).isSome)) H) : rNotInA K (.int i) (.ref a) H Q := .inl (.inr ⟨a, _, rfl, DGet.k (k := .inl i) h, q⟩)
theorem g_inS {a : Addr} {kvs : List (Key × V)} {i : Str} (h : H a = some (.dK kvs)) (q : Q (.bl (valV kvs (.inr i)).isSome) H) : rInA K (.str i) (.ref a) H Q := .inl (.inr ⟨a, _, rfl, DGet.k (k := .inr i) h, q⟩)
theorem g_notinS {a : Addr} {kvs : List (Key × V)} {i : Str} (h : H a = some (.dK kvs)) (q : Q (.bl (!(valV kvs (.inr i)).isSome)) H) : rNotInA K (.str i) (.ref a) H Q := .inl (.inr ⟨a, _, rfl, DGet.k (k := .inr i) h, q⟩)
theorem g_stL {R : L2.St → Hp → Prop} {a : Addr} {xs : List V} {k : Int} {j : Nat} (hH : Has F O H) (c : Chg O a (.lst xs) (.lst (xs.set j v)) O') (hj : ixN xs.length k = some j) (q : ∀ H', Has F O' H' → R σ H') : kSet rSetA R σ (.ref a) (.int k) v H :=
  .inl ⟨a, xs, k, j, rfl, rfl, hH.get c.mem, hj, q _ (hH.put c)⟩
theorem g_stD {R : L2.St → Hp → Prop} {a : Addr} {kvs : List (Key × V)} {k : Key} {z : V} (ez : z = kV k) (hH : Has F O H) (c : Chg O a (.dK kvs) (.dK (putK kvs k v)) O') (hl : kvs.length < sizeLine) (q : ∀ H', Has F O' H' → R σ H') : kSet rSetA R σ (.ref a) z v H := by
  subst ez
  exact .inr ⟨a, _, rfl, DPut.k (hH.get c.mem) hl, q _ (hH.put c)⟩
end

/-! ### an argument that is changed -/
def rm (H : Hp) (a : Addr) : Hp := fun b => if b = a then none else H b
/-- all but a stands as it stood -/
def But (a : Addr) (H H' : Hp) : Prop := ∀ b u, b ≠ a → H b = some u → H' b = some u
theorem rm_at {H : Hp} {a : Addr} : rm H a a = none := if_pos rfl
theorem rm_ne {H : Hp} {a b : Addr} (h : b ≠ a) : rm H a b = H b := if_neg h
theorem Has.arg {H : Hp} {a : Addr} {o : HO} (h : H a = some o) : Has (rm H a) [(a, o)] H := by
  refine ⟨fun b u q => ?_, fun p hp => ?_, by simp⟩
  · by_cases e : b = a
    · subst e; rw [rm_at] at q; cases q
    · rw [rm_ne e] at q; exact q
  · have e : p = (a, o) := by simpa using hp
    subst e
    exact ⟨rm_at, h⟩
theorem But.of {H H' : Hp} {a : Addr} (h : Same (rm H a) H') : But a H H' := fun b u ne q => h b u (by rw [rm_ne ne]; exact q)
theorem But.trans {a : Addr} {H H1 H2 : Hp} (x : But a H H1) (y : But a H1 H2) : But a H H2 := fun b u ne q => y b u ne (x b u ne q)
theorem But.same {a : Addr} {H H1 H2 : Hp} (x : But a H H1) (y : Same H1 H2) : But a H H2 := fun b u ne q => y b u (x b u ne q)
section
variable {K : PySem.W.Frag} {σ : L2.St} {F : Hp} {O O' : Own} {H : Hp} {Q : VK} {x y v : V}
/-- a test by a fact about its answer -/
theorem g_fact {t : TT} {R : Bool → Hp → Prop} (C : Bool → Prop) (h : ∀ R : Bool → Hp → Prop, (∀ b, C b → R b H) → t σ H R) (q : ∀ b, C b → R b H) : t σ H R := h R q
theorem g_ixV {a : Addr} {xs : List V} {i : Int} (h : H a = some (.lst xs)) (h0 : 0 ≤ i) (hl : i < xs.length) (q : ∀ v, xs[i.toNat]? = some v → Q v H) : rIxA K (.ref a) (.int i) H Q := by
  have e : i.toNat < xs.length := by omega
  exact g_ixL h (at_n h0 (List.getElem?_eq_getElem e)) (q _ (List.getElem?_eq_getElem e))
theorem g_ixI {a : Addr} {xs : List Int} {i : Int} (h : H a = some (.lst (xs.map V.int))) (h0 : 0 ≤ i) (hl : i < xs.length) (q : ∀ z, xs[i.toNat]? = some z → Q (.int z) H) : rIxA K (.ref a) (.int i) H Q := by
  have e : i.toNat < xs.length := by omega
  refine g_ixL h (at_n h0 (v := .int xs[i.toNat]) ?_) (q _ (List.getElem?_eq_getElem e))
  rw [List.getElem?_map, List.getElem?_eq_getElem e]
  rfl
theorem g_ixZ {a : Addr} {xs : List Str} {i : Int} (h : H a = some (.lst (xs.map V.str))) (h0 : 0 ≤ i) (hl : i < xs.length) (q : ∀ z, xs[i.toNat]? = some z → Q (.str z) H) : rIxA K (.ref a) (.int i) H Q := by
  have e : i.toNat < xs.length := by omega
  refine g_ixL h (at_n h0 (v := .str xs[i.toNat]) ?_) (q _ (List.getElem?_eq_getElem e))
  rw [List.getElem?_map, List.getElem?_eq_getElem e]
  rfl
theorem g_stI {R : L2.St → Hp → Prop} {a : Addr} {xs : List Int} {k z : Int} (hH : Has F O H) (c : Chg O a (.lst (xs.map V.int)) (.lst ((xs.set k.toNat z).map V.int)) O') (h0 : 0 ≤ k) (hl : k < xs.length) (q : ∀ H', Has F O' H' → R σ H') : kSet rSetA R σ (.ref a) (.int k) (.int z) H := by
  refine g_stL (xs := xs.map V.int) (j := k.toNat) hH ?_ (ixN_nat h0 (by rw [List.length_map]; exact hl)) q
  rw [← List.map_set]
  exact c
theorem g_popAtI {a : Addr} {xs : List Int} {i : Int} (hH : Has F O H) (c : Chg O a (.lst (xs.map V.int)) (.lst ((xs.eraseIdx i.toNat).map V.int)) O') (h0 : 0 ≤ i) (hl : i < xs.length) (h2 : xs.length ≤ 1000) (q : ∀ H' z, Has F O' H' → Q (.int z) H') : rPopAt (.ref a) [.int i] H Q := by
  have e : i.toNat < xs.length := by omega
  refine g_popAt (xs := xs.map V.int) (k := i.toNat) (y := .int xs[i.toNat]) hH ?_ (by omega) (by omega) ?_ ?_ (fun H' h => q H' _ h)
  · have : (xs.map V.int).eraseIdx i.toNat = (xs.eraseIdx i.toNat).map V.int := by
      rw [List.eraseIdx_eq_take_drop_succ, List.eraseIdx_eq_take_drop_succ, List.map_append, List.map_take, List.map_drop]
    rw [this]
    exact c
  · have := (ixN_seq (n := (xs.map V.int).length) (i := i) (j := i.toNat) (ixN_nat h0 (by rw [List.length_map]; exact hl))).1
    exact this
  · rw [List.getElem?_map, List.getElem?_eq_getElem e]
    rfl
end
theorem sz {n : Nat} (h : n ≤ 100000) : n ≤ sizeLine := by rw [sizeLine_eq]; omega
theorem szl {n : Nat} (h : n < 100000) : n < sizeLine := by rw [sizeLine_eq]; omega

section
variable {K : PySem.W.Frag} {σ : L2.St} {F : Hp} {O O' : Own} {H : Hp} {Q : VK} {x y v : V} {te ta : TE}
theorem g_yes {R : Bool → Hp → Prop} (q : R true H) : tYes σ H R := q
theorem g_wipe {σ1 σ2 : L2.St} {B : Prop} (e : σ1 = σ2) (q : B) : σ1 = σ2 ∧ B := ⟨e, q⟩
def kOI (x : V) (H : Hp) (R : Option Int → Hp → Prop) : Prop := ∃ i, x = .int i ∧ R (some i) H
theorem g_part {R : Option Int → Hp → Prop} (q : te σ H fun x H1 => kOI x H1 R) : tPart te σ H R := q
theorem g_kOI {R : Option Int → Hp → Prop} {i : Int} (q : R (some i) H) : kOI (.int i) H R := ⟨i, rfl, q⟩
theorem g_nopart {R : Option Int → Hp → Prop} (q : R none H) : tNoPart σ H R := q
theorem g_slice {r : V → Option Int → Option Int → Hp → VK → Prop} {tl th : TO} (q : te σ H fun x H1 => tl σ H1 fun l H2 => th σ H2 fun u H3 => r x l u H3 Q) : tSl r te tl th σ H Q := q
def rSlB (K : PySem.W.Frag) : V → Option Int → Option Int → Hp → VK → Prop := fun x lo hi H Q => rSlL K x lo hi H Q ∨ rSlA K x lo hi H Q
theorem g_slS {a : Addr} {xs : List V} {lo hi : Option Int} (h : SqL K H a xs) (hH : Has F O H) (q : ∀ p H', H p = none → Has F ((p, .lst (cutV xs lo hi)) :: O) H' → Q (.ref p) H') : rSlB K (.ref a) lo hi H Q := .inl ⟨a, xs, rfl, h, fun p n => q p _ n (hH.new n)⟩
theorem g_slTF {a : Addr} {xs : List V} {lo hi : Option Int} (h : F a = some (.tup xs)) (hH : Has F O H) (q : ∀ p H' F', Same F F' → F' p = some (.tup (cutV xs lo hi)) → Has F' O H' → Q (.ref p) H') : rSlB K (.ref a) lo hi H Q :=
  .inr ⟨a, xs, rfl, SqT.of (hH.same _ _ h), fun w => q a H F (Same.refl _) (by
    have e : cutV xs lo hi = xs := by
      unfold cutV
      rw [w.1, w.2, List.drop_zero, Nat.sub_zero, List.take_length]
    rw [e]; exact h) hH, fun _ p n => q p _ (upd F p (.tup (cutV xs lo hi))) (same_upd (hH.same.free n)) upd_same (hH.new n).frz⟩
theorem g_addTF {a b : Addr} {xs ys : List V} (h1 : F a = some (.tup xs)) (h2 : F b = some (.tup ys)) (hl : xs.length + ys.length ≤ sizeLine) (hH : Has F O H) (q : ∀ p H' F', Same F F' → F' p = some (.tup (xs ++ ys)) → Has F' O H' → Q (.ref p) H') : rAdd K (.ref a) (.ref b) H Q :=
  .inr (.inr ⟨a, b, xs, ys, rfl, rfl, SqT.of (hH.same _ _ h1), SqT.of (hH.same _ _ h2), hl, fun e => q b H F (Same.refl _) (by rw [e]; exact h2) hH, fun _ e => q a H F (Same.refl _) (by rw [e, List.append_nil]; exact h1) hH,
    fun _ _ p n => q p _ (upd F p (.tup (xs ++ ys))) (same_upd (hH.same.free n)) upd_same (hH.new n).frz⟩)
theorem g_slL {a : Addr} {xs : List V} {lo hi : Option Int} (h : H a = some (.lst xs)) (hH : Has F O H) (q : ∀ p H', H p = none → Has F ((p, .lst (cutV xs lo hi)) :: O) H' → Q (.ref p) H') : rSlB K (.ref a) lo hi H Q := g_slS (SqL.of h) hH q
theorem cutV_ints (ns : List Int) (lo hi : Option Int) : ∃ ms : List Int, cutV (ns.map V.int) lo hi = ms.map V.int ∧ ms.length ≤ ns.length := by
  refine ⟨(ns.drop (HT.sIx ns.length 0 lo)).take (HT.sIx ns.length ns.length hi - HT.sIx ns.length 0 lo), ?_, ?_⟩
  · unfold cutV
    rw [List.length_map, List.map_take, List.map_drop]
  · rw [List.length_take, List.length_drop]
    omega
theorem g_revL {a : Addr} {xs : List V} (h : H a = some (.lst xs)) (hH : Has F O H) (q : ∀ p H', H p = none → Has F ((p, .lst xs.reverse) :: O) H' → Q (.ref p) H') : (∃ b ys, V.ref a = .ref b ∧ SqL K H b ys ∧ ∀ p, H p = none → Q (.ref p) (upd H p (.lst ys.reverse))) :=
  ⟨a, xs, rfl, SqL.of h, fun p n => q p _ n (hH.new n)⟩
theorem g_tRev (q : te σ H fun x H1 => rRevL K x H1 Q) : tRevL K te σ H Q := q
theorem g_rRev {a : Addr} {xs : List V} (h : H a = some (.lst xs)) (hH : Has F O H) (q : ∀ p H', H p = none → Has F ((p, .lst xs.reverse) :: O) H' → Q (.ref p) H') : rRevL K (.ref a) H Q := ⟨a, xs, rfl, SqL.of h, fun p n => q p _ n (hH.new n)⟩
/-- an item of a list of texts that are in order, of ints from 0 to n -/
def okS : V → Bool
  | .str z => PyData.strOk z
  | _ => false
def okI (n : Int) : V → Bool
  | .int z => decide (0 ≤ z ∧ z ≤ n)
  | _ => false
theorem g_ixM {a : Addr} {xs : List V} {i : Int} (h : H a = some (.lst xs)) (ok : xs.all okS = true) (h0 : 0 ≤ i) (hl : i < xs.length) (q : ∀ z, PyData.strOk z = true → Q (.str z) H) : rIxA K (.ref a) (.int i) H Q := by
  refine g_ixV h h0 hl fun v hv => ?_
  have m := List.all_eq_true.mp ok v (List.mem_of_getElem? hv)
  cases v with
  | str z => exact q z m
  | _ => cases m
theorem g_ixN {n : Int} {a : Addr} {xs : List V} {i : Int} (h : H a = some (.lst xs)) (ok : xs.all (okI n) = true) (h0 : 0 ≤ i) (hl : i < xs.length) (q : ∀ z, 0 ≤ z → z ≤ n → Q (.int z) H) : rIxA K (.ref a) (.int i) H Q := by
  refine g_ixV h h0 hl fun v hv => ?_
  have m := List.all_eq_true.mp ok v (List.mem_of_getElem? hv)
  cases v with
  | int z =>
    have := of_decide_eq_true (show decide (0 ≤ z ∧ z ≤ n) = true from m)
    exact q z this.1 this.2
  | _ => cases m
end

/-! ### tables of ints: a list of rows -/
def rowO (r : Addr × List Int) : Addr × HO := (r.1, .lst (r.2.map V.int))
def tabO (t : Addr) (rows : List (Addr × List Int)) : Own := (t, .lst (rows.map fun r => V.ref r.1)) :: rows.map rowO
theorem Chg.row {r : Addr × List Int} {zs : List Int} {O : Own} : ∀ {rows : List (Addr × List Int)} {k : Nat}, rows[k]? = some r → Chg (rows.map rowO ++ O) r.1 (.lst (r.2.map V.int)) (.lst (zs.map V.int)) ((rows.set k (r.1, zs)).map rowO ++ O)
  | [], k, h => by simp at h
  | x :: rows, 0, h => by
    have e : x = r := Option.some.inj h
    subst e
    exact .hd
  | x :: rows, k + 1, h => .tl (Chg.row (rows := rows) (k := k) h)
theorem rows_ref {r : Addr × List Int} {zs : List Int} : ∀ {rows : List (Addr × List Int)} {k : Nat}, rows[k]? = some r → (rows.set k (r.1, zs)).map (fun r => V.ref r.1) = rows.map fun r => V.ref r.1
  | [], k, h => by simp at h
  | x :: rows, 0, h => by
    have e : x = r := Option.some.inj h
    subst e
    rfl
  | x :: rows, k + 1, h => by
    have := rows_ref (rows := rows) (k := k) (zs := zs) h
    show V.ref x.1 :: (rows.set k (r.1, zs)).map (fun r => V.ref r.1) = _
    rw [this]
    rfl
section
variable {K : PySem.W.Frag} {σ : L2.St} {F : Hp} {O O' : Own} {H : Hp} {Q : VK} {t : Addr} {rows : List (Addr × List Int)}
theorem Has.row {r : Addr × List Int} {k : Nat} (hH : Has F (tabO t rows ++ O) H) (hr : rows[k]? = some r) : H r.1 = some (.lst (r.2.map V.int)) :=
  hH.get (List.mem_append_left _ (List.mem_cons_of_mem _ (List.mem_map.mpr ⟨r, List.mem_of_getElem? hr, rfl⟩)))
theorem Has.tab (hH : Has F (tabO t rows ++ O) H) : H t = some (.lst (rows.map fun r => V.ref r.1)) := hH.get (List.mem_append_left _ List.mem_cons_self)
theorem g_ixRow {i : Int} (hH : Has F (tabO t rows ++ O) H) (h0 : 0 ≤ i) (hl : i < rows.length) (q : ∀ r, rows[i.toNat]? = some r → H r.1 = some (.lst (r.2.map V.int)) → Q (.ref r.1) H) : rIxA K (.ref t) (.int i) H Q := by
  have e : i.toNat < rows.length := by omega
  have hr := List.getElem?_eq_getElem e
  refine g_ixL hH.tab (at_n h0 (v := .ref rows[i.toNat].1) ?_) (q _ hr (hH.row hr))
  rw [List.getElem?_map, hr]
  rfl
theorem g_setRow {R : L2.St → Hp → Prop} {r : Addr × List Int} {k : Nat} {j z : Int} (hH : Has F (tabO t rows ++ O) H) (hr : rows[k]? = some r) (h0 : 0 ≤ j) (hl : j < r.2.length) (q : ∀ H', Has F (tabO t (rows.set k (r.1, r.2.set j.toNat z)) ++ O) H' → R σ H') :
    kSet rSetA R σ (.ref r.1) (.int j) (.int z) H := by
  refine g_stI hH (xs := r.2) ?_ h0 hl q
  have c := Chg.row (O := O) (zs := r.2.set j.toNat z) hr
  unfold tabO
  rw [List.cons_append, List.cons_append, rows_ref hr]
  exact .tl c
end

/-! ### the rules with the written part by its name -/
section
variable {X : Cx}
theorem op_addK (K : PySem.W.Frag) (e : X.K = K := by rfl) : OpR X (binaryOp .Add) (rAdd K) := by subst e; exact op_addA
theorem op_eqK (K : PySem.W.Frag) (hu : X.A.units + 64 < cLine) (e : X.K = K := by rfl) : OpR X (compareOp .Eq) (rEqA K) := by subst e; exact op_eqA hu
theorem op_neK (K : PySem.W.Frag) (hu : X.A.units + 64 < cLine) (e : X.K = K := by rfl) : OpR X (compareOp .NotEq) (rNeA K) := by subst e; exact op_neA hu
theorem op_inK (K : PySem.W.Frag) (hu : X.A.units + 64 < cLine) (hu' : X.A.units + 65 < cLine) (e : X.K = K := by rfl) : OpR X (compareOp .In) (rInA K) := by subst e; exact op_inA hu hu'
theorem op_notinK (K : PySem.W.Frag) (hu : X.A.units + 64 < cLine) (hu' : X.A.units + 65 < cLine) (e : X.K = K := by rfl) : OpR X (compareOp .NotIn) (rNotInA K) := by subst e; exact op_notinA hu hu'
theorem ix_dict (hu : X.A.units + 1 < cLine) : IxR X rIxD := by
  intro value slice pins s σ H x y v u Q I rx ry h hs
  obtain ⟨a, z, rfl, g, q⟩ := h
  cases rx
  have hT := dict_typeIs I g
  have fin : wpAny (model X.prog X.w) X.A (subscripted slice false (.ref a) u) (fun r s₃ => wpAny (model X.prog X.w) X.A (letTemporaryGo value (.ref a) r >>= fun _ => pure r) (EP X pins σ Q) X.xe s₃) X.xe s := by
    rw [hs]
    exact wpAny_operating (wpAny_mono (d_getItem hu I g ry (Q := fun r s' => EP X pins σ Q r s') fun w' s3 I3 rw' => ⟨z, H, I3, rw', q⟩) (fun r s₃ h₃ => wpAny_bind (wpAny_letTemporaryGo (wpAny_pure h₃))) fun _ _ x => x)
  unfold subscriptTail
  refine wpAny_bind ?_
  rw [getitemInPython_of_ne hT.not_modules]
  refine wpAny_bind (wpAny_specialOf hT PySem.F.slot_dict_getitem.lookup ?_)
  first
    | exact wpAny_pure (wpAny_bind fin)
    | exact wpAny_bind (wpAny_pure (wpAny_bind fin))
    | exact wpAny_bind fin
theorem ix_K (K : PySem.W.Frag) (hu : X.A.units + 1 < cLine) (e : X.K = K := by rfl) : IxR X (rIxA K) := by subst e; exact ix_seq.or (ix_dict hu)
theorem cr_lenK (K : PySem.W.Frag) (e : X.K = K := by rfl) : CallR X (.builtin "len") (rLen K) := by subst e; exact cr_len
theorem cr_listK (K : PySem.W.Frag) (e : X.K = K := by rfl) : CallR X (.type "list") (rListOf K) := by subst e; exact cr_listOf
theorem cr_tupleK (K : PySem.W.Frag) (e : X.K = K := by rfl) : CallR X (.type "tuple") (rTupleOf K) := by subst e; exact cr_tupleOf
theorem sl_all : SlR X (rSlB X.K) := by
  intro pins s σ H x v vl vu lo hi sl Q I rx hs pl pu h
  rcases h with h | h
  · exact sl_list pins s σ H x v vl vu lo hi sl Q I rx hs pl pu h
  · exact sl_tupA pins s σ H x v vl vu lo hi sl Q I rx hs pl pu h
theorem sl_K (K : PySem.W.Frag) (e : X.K = K := by rfl) : SlR X (rSlB K) := by subst e; exact sl_all
theorem k_bm {ex : Expr} {T : String} {r : V → List V → Hp → VK → Prop} {to : TE} {t : TA} (K : PySem.W.Frag) (h : PE X ex (tBM X.K T r to t)) (e : X.K = K := by rfl) : PE X ex (tBM K T r to t) := by subst e; exact h
theorem k_bm0 {ex : Expr} {T : String} {r : V → List V → Hp → VK → Prop} {to : TE} (K : PySem.W.Frag) (h : PE X ex (tBM0 X.K T r to)) (e : X.K = K := by rfl) : PE X ex (tBM0 K T r to) := by subst e; exact h
theorem k_rev {ex : Expr} {to : TE} (K : PySem.W.Frag) (h : PE X ex (tRevL X.K to)) (e : X.K = K := by rfl) : PE X ex (tRevL K to) := by subst e; exact h
theorem k_il {tg l : Expr} {tl : TE} (K : PySem.W.Frag) (h : PI X tg l (iList X.K tl)) (e : X.K = K := by rfl) : PI X tg l (iList K tl) := by subst e; exact h
theorem k_gt {tg : Expr} {n : Nat} {t : TGs} (K : PySem.W.Frag) (h : PG X tg (gTup X.K n t)) (e : X.K = K := by rfl) : PG X tg (gTup K n t) := by subst e; exact h
end
theorem g_start {t : TS} {D : Ends} {σ σ' : L2.St} {H : Hp} (e : σ = σ') (h : t D σ' H) : t D σ H := by subst e; exact h

theorem Has.argFree {H H' : Hp} {a D : Addr} {o : HO} {O : Own} (h : Has (rm H a) ((D, o) :: O) H') (m : a ∈ O.map (·.1)) : H D = none := by
  have nd : D ∉ O.map (·.1) ∧ (O.map (·.1)).Nodup := List.nodup_cons.mp (by have := h.nd; rw [List.map_cons] at this; exact this)
  have e := h.free
  rw [rm_ne (fun z => nd.1 (by rw [z]; exact m))] at e
  exact e

theorem Has.but2 {F H H' : Hp} {O O' : Own} {a p : Addr} {o o' op : HO} (h : Has F O H) (c : Chg O a o o' O') (hb : But a H H') (e : H' a = some o') (n : H p = none) (ep : H' p = some op) : Has F ((p, op) :: O') H' := by
  have h' := h.but c hb e
  refine ⟨h'.same, fun q hq => ?_, ?_⟩
  · rcases List.mem_cons.mp hq with rfl | hq
    · exact ⟨h.same.free n, ep⟩
    · exact h'.own q hq
  · rw [List.map_cons]
    refine List.nodup_cons.mpr ⟨fun m => ?_, h'.nd⟩
    rw [c.fst] at m
    obtain ⟨q, hq, e'⟩ := List.mem_map.mp m
    have z := (h.own q hq).2
    rw [e', n] at z
    cases z

theorem Has.mono {F F' H : Hp} {O : Own} (h : Has F O H) (s : Same F' F) : Has F' O H := ⟨s.trans h.same, fun q hq => ⟨s.free (h.own q hq).1, (h.own q hq).2⟩, h.nd⟩
theorem same_rm {F H : Hp} {a : Addr} (s : Same F H) (n : F a = none) : Same F (rm H a) := fun b u q => by
  rw [rm_ne (ne_of_none q n)]
  exact s b u q
theorem take_foldl {α β : Type} {f : β → α → β} {z : β} {l : List α} {i : Nat} {x : α} (h : l[i]? = some x) : (l.take (i + 1)).foldl f z = f ((l.take i).foldl f z) x := by
  rw [List.take_add_one, h, List.foldl_append]
  rfl

/-! ### isinstance -/
def rIsA (K : PySem.W.Frag) : List V → Hp → VK → Prop := fun xs H Q => rIsi K xs H Q ∨ rIsiT K xs H Q
theorem cr_isK {X : Cx} (K : PySem.W.Frag) (e : X.K = K := by rfl) : CallR X (.builtin "isinstance") (rIsA K) := by
  subst e
  intro pins s σ H xs us Q I r h
  rcases h with h | h
  · exact call_isi pins s σ H xs us Q I r h
  · exact call_isiT pins s σ H xs us Q I r h
theorem g_is {K : PySem.W.Frag} {H : Hp} {Q : VK} {x : V} {t n : String} {b : Bool} (ty : TyX K H x (.type t)) (e : kitB t n = some b) (q : Q (.bl b) H) : rIsA K [x, .ty n] H Q := .inl ⟨x, .ty n, _, _, b, rfl, .ty n, ty, kit_ty e, q⟩
theorem g_is2 {K : PySem.W.Frag} {H : Hp} {Q : VK} {x : V} {t n m : String} {a b : Bool} {tp : Addr} (h : H tp = some (.tup [.ty n, .ty m])) (ty : TyX K H x (.type t)) (ea : kitB t n = some a) (eb : kitB t m = some b) (q : Q (.bl (a || b)) H) : rIsA K [x, .ref tp] H Q := by
  refine .inr ⟨x, tp, _, _, _, a || b, rfl, h, .cons (.ty n) (.cons (.ty m) .nil), ty, ?_, q⟩
  refine kitAny_cons (kit_ty ea) (fun z => ?_) (fun z => by rw [z]; rfl)
  refine kitAny_cons (kit_ty eb) (fun y => ?_) (fun y => by rw [z, y]; rfl)
  rw [z, y]
  exact kitAny_nil
theorem kit_list_list : kitB "list" "list" = some true := by decide +kernel
theorem kit_list_tuple : kitB "list" "tuple" = some false := by decide +kernel
theorem kit_list_dict : kitB "list" "dict" = some false := by decide +kernel
theorem kit_list_int : kitB "list" "int" = some false := by decide +kernel
theorem kit_list_bool : kitB "list" "bool" = some false := by decide +kernel
theorem kit_list_str : kitB "list" "str" = some false := by decide +kernel
theorem kit_tuple_list : kitB "tuple" "list" = some false := by decide +kernel
theorem kit_tuple_tuple : kitB "tuple" "tuple" = some true := by decide +kernel
theorem kit_tuple_dict : kitB "tuple" "dict" = some false := by decide +kernel
theorem kit_tuple_int : kitB "tuple" "int" = some false := by decide +kernel
theorem kit_tuple_bool : kitB "tuple" "bool" = some false := by decide +kernel
theorem kit_tuple_str : kitB "tuple" "str" = some false := by decide +kernel
theorem kit_dict_list : kitB "dict" "list" = some false := by decide +kernel
theorem kit_dict_tuple : kitB "dict" "tuple" = some false := by decide +kernel
theorem kit_dict_dict : kitB "dict" "dict" = some true := by decide +kernel
theorem kit_dict_int : kitB "dict" "int" = some false := by decide +kernel
theorem kit_dict_bool : kitB "dict" "bool" = some false := by decide +kernel
theorem kit_dict_str : kitB "dict" "str" = some false := by decide +kernel
theorem kit_int_list : kitB "int" "list" = some false := by decide +kernel
theorem kit_int_tuple : kitB "int" "tuple" = some false := by decide +kernel
theorem kit_int_dict : kitB "int" "dict" = some false := by decide +kernel
theorem kit_int_int : kitB "int" "int" = some true := by decide +kernel
theorem kit_int_bool : kitB "int" "bool" = some false := by decide +kernel
theorem kit_int_str : kitB "int" "str" = some false := by decide +kernel
theorem kit_bool_list : kitB "bool" "list" = some false := by decide +kernel
theorem kit_bool_tuple : kitB "bool" "tuple" = some false := by decide +kernel
theorem kit_bool_dict : kitB "bool" "dict" = some false := by decide +kernel
theorem kit_bool_int : kitB "bool" "int" = some true := by decide +kernel
theorem kit_bool_bool : kitB "bool" "bool" = some true := by decide +kernel
theorem kit_bool_str : kitB "bool" "str" = some false := by decide +kernel
theorem kit_str_list : kitB "str" "list" = some false := by decide +kernel
theorem kit_str_tuple : kitB "str" "tuple" = some false := by decide +kernel
theorem kit_str_dict : kitB "str" "dict" = some false := by decide +kernel
theorem kit_str_int : kitB "str" "int" = some false := by decide +kernel
theorem kit_str_bool : kitB "str" "bool" = some false := by decide +kernel
theorem kit_str_str : kitB "str" "str" = some true := by decide +kernel
section
variable {K : PySem.W.Frag} {H : Hp} {Q : VK}
theorem is_list_list {a : Addr} {xs : List V} (h : H a = some (.lst xs)) (q : Q (.bl true) H) : rIsA K [.ref a, .ty "list"] H Q := g_is (.base (.lst h)) kit_list_list q
theorem is_list_tuple {a : Addr} {xs : List V} (h : H a = some (.lst xs)) (q : Q (.bl false) H) : rIsA K [.ref a, .ty "tuple"] H Q := g_is (.base (.lst h)) kit_list_tuple q
theorem is_list_dict {a : Addr} {xs : List V} (h : H a = some (.lst xs)) (q : Q (.bl false) H) : rIsA K [.ref a, .ty "dict"] H Q := g_is (.base (.lst h)) kit_list_dict q
theorem is_list_int {a : Addr} {xs : List V} (h : H a = some (.lst xs)) (q : Q (.bl false) H) : rIsA K [.ref a, .ty "int"] H Q := g_is (.base (.lst h)) kit_list_int q
theorem is_list_bool {a : Addr} {xs : List V} (h : H a = some (.lst xs)) (q : Q (.bl false) H) : rIsA K [.ref a, .ty "bool"] H Q := g_is (.base (.lst h)) kit_list_bool q
theorem is_list_str {a : Addr} {xs : List V} (h : H a = some (.lst xs)) (q : Q (.bl false) H) : rIsA K [.ref a, .ty "str"] H Q := g_is (.base (.lst h)) kit_list_str q
theorem is2_list {a : Addr} {xs : List V} (h : H a = some (.lst xs)) {tp : Addr} (hp : H tp = some (.tup [.ty "list", .ty "tuple"])) (q : Q (.bl true) H) : rIsA K [.ref a, .ref tp] H Q := g_is2 hp (.base (.lst h)) kit_list_list kit_list_tuple q
theorem is_tuple_list {a : Addr} {xs : List V} (h : H a = some (.tup xs)) (q : Q (.bl false) H) : rIsA K [.ref a, .ty "list"] H Q := g_is (.base (.tup h)) kit_tuple_list q
theorem is_tuple_tuple {a : Addr} {xs : List V} (h : H a = some (.tup xs)) (q : Q (.bl true) H) : rIsA K [.ref a, .ty "tuple"] H Q := g_is (.base (.tup h)) kit_tuple_tuple q
theorem is_tuple_dict {a : Addr} {xs : List V} (h : H a = some (.tup xs)) (q : Q (.bl false) H) : rIsA K [.ref a, .ty "dict"] H Q := g_is (.base (.tup h)) kit_tuple_dict q
theorem is_tuple_int {a : Addr} {xs : List V} (h : H a = some (.tup xs)) (q : Q (.bl false) H) : rIsA K [.ref a, .ty "int"] H Q := g_is (.base (.tup h)) kit_tuple_int q
theorem is_tuple_bool {a : Addr} {xs : List V} (h : H a = some (.tup xs)) (q : Q (.bl false) H) : rIsA K [.ref a, .ty "bool"] H Q := g_is (.base (.tup h)) kit_tuple_bool q
theorem is_tuple_str {a : Addr} {xs : List V} (h : H a = some (.tup xs)) (q : Q (.bl false) H) : rIsA K [.ref a, .ty "str"] H Q := g_is (.base (.tup h)) kit_tuple_str q
theorem is2_tuple {a : Addr} {xs : List V} (h : H a = some (.tup xs)) {tp : Addr} (hp : H tp = some (.tup [.ty "list", .ty "tuple"])) (q : Q (.bl true) H) : rIsA K [.ref a, .ref tp] H Q := g_is2 hp (.base (.tup h)) kit_tuple_list kit_tuple_tuple q
theorem is_dict_list {a : Addr} {kvs : List (Key × V)} (h : H a = some (.dK kvs)) (q : Q (.bl false) H) : rIsA K [.ref a, .ty "list"] H Q := g_is (.base (.dK h)) kit_dict_list q
theorem is_dict_tuple {a : Addr} {kvs : List (Key × V)} (h : H a = some (.dK kvs)) (q : Q (.bl false) H) : rIsA K [.ref a, .ty "tuple"] H Q := g_is (.base (.dK h)) kit_dict_tuple q
theorem is_dict_dict {a : Addr} {kvs : List (Key × V)} (h : H a = some (.dK kvs)) (q : Q (.bl true) H) : rIsA K [.ref a, .ty "dict"] H Q := g_is (.base (.dK h)) kit_dict_dict q
theorem is_dict_int {a : Addr} {kvs : List (Key × V)} (h : H a = some (.dK kvs)) (q : Q (.bl false) H) : rIsA K [.ref a, .ty "int"] H Q := g_is (.base (.dK h)) kit_dict_int q
theorem is_dict_bool {a : Addr} {kvs : List (Key × V)} (h : H a = some (.dK kvs)) (q : Q (.bl false) H) : rIsA K [.ref a, .ty "bool"] H Q := g_is (.base (.dK h)) kit_dict_bool q
theorem is_dict_str {a : Addr} {kvs : List (Key × V)} (h : H a = some (.dK kvs)) (q : Q (.bl false) H) : rIsA K [.ref a, .ty "str"] H Q := g_is (.base (.dK h)) kit_dict_str q
theorem is2_dict {a : Addr} {kvs : List (Key × V)} (h : H a = some (.dK kvs)) {tp : Addr} (hp : H tp = some (.tup [.ty "list", .ty "tuple"])) (q : Q (.bl false) H) : rIsA K [.ref a, .ref tp] H Q := g_is2 hp (.base (.dK h)) kit_dict_list kit_dict_tuple q
theorem is_int_list {i : Int} (q : Q (.bl false) H) : rIsA K [.int i, .ty "list"] H Q := g_is (.base (.int i)) kit_int_list q
theorem is_int_tuple {i : Int} (q : Q (.bl false) H) : rIsA K [.int i, .ty "tuple"] H Q := g_is (.base (.int i)) kit_int_tuple q
theorem is_int_dict {i : Int} (q : Q (.bl false) H) : rIsA K [.int i, .ty "dict"] H Q := g_is (.base (.int i)) kit_int_dict q
theorem is_int_int {i : Int} (q : Q (.bl true) H) : rIsA K [.int i, .ty "int"] H Q := g_is (.base (.int i)) kit_int_int q
theorem is_int_bool {i : Int} (q : Q (.bl false) H) : rIsA K [.int i, .ty "bool"] H Q := g_is (.base (.int i)) kit_int_bool q
theorem is_int_str {i : Int} (q : Q (.bl false) H) : rIsA K [.int i, .ty "str"] H Q := g_is (.base (.int i)) kit_int_str q
theorem is2_int {i : Int} {tp : Addr} (hp : H tp = some (.tup [.ty "list", .ty "tuple"])) (q : Q (.bl false) H) : rIsA K [.int i, .ref tp] H Q := g_is2 hp (.base (.int i)) kit_int_list kit_int_tuple q
theorem is_bool_list {b : Bool} (q : Q (.bl false) H) : rIsA K [.bl b, .ty "list"] H Q := g_is (.base (.bl b)) kit_bool_list q
theorem is_bool_tuple {b : Bool} (q : Q (.bl false) H) : rIsA K [.bl b, .ty "tuple"] H Q := g_is (.base (.bl b)) kit_bool_tuple q
theorem is_bool_dict {b : Bool} (q : Q (.bl false) H) : rIsA K [.bl b, .ty "dict"] H Q := g_is (.base (.bl b)) kit_bool_dict q
theorem is_bool_int {b : Bool} (q : Q (.bl true) H) : rIsA K [.bl b, .ty "int"] H Q := g_is (.base (.bl b)) kit_bool_int q
theorem is_bool_bool {b : Bool} (q : Q (.bl true) H) : rIsA K [.bl b, .ty "bool"] H Q := g_is (.base (.bl b)) kit_bool_bool q
theorem is_bool_str {b : Bool} (q : Q (.bl false) H) : rIsA K [.bl b, .ty "str"] H Q := g_is (.base (.bl b)) kit_bool_str q
theorem is2_bool {b : Bool} {tp : Addr} (hp : H tp = some (.tup [.ty "list", .ty "tuple"])) (q : Q (.bl false) H) : rIsA K [.bl b, .ref tp] H Q := g_is2 hp (.base (.bl b)) kit_bool_list kit_bool_tuple q
theorem is_str_list {z : Str} (q : Q (.bl false) H) : rIsA K [.str z, .ty "list"] H Q := g_is (.base (.str z)) kit_str_list q
theorem is_str_tuple {z : Str} (q : Q (.bl false) H) : rIsA K [.str z, .ty "tuple"] H Q := g_is (.base (.str z)) kit_str_tuple q
theorem is_str_dict {z : Str} (q : Q (.bl false) H) : rIsA K [.str z, .ty "dict"] H Q := g_is (.base (.str z)) kit_str_dict q
theorem is_str_int {z : Str} (q : Q (.bl false) H) : rIsA K [.str z, .ty "int"] H Q := g_is (.base (.str z)) kit_str_int q
theorem is_str_bool {z : Str} (q : Q (.bl false) H) : rIsA K [.str z, .ty "bool"] H Q := g_is (.base (.str z)) kit_str_bool q
theorem is_str_str {z : Str} (q : Q (.bl true) H) : rIsA K [.str z, .ty "str"] H Q := g_is (.base (.str z)) kit_str_str q
theorem is2_str {z : Str} {tp : Addr} (hp : H tp = some (.tup [.ty "list", .ty "tuple"])) (q : Q (.bl false) H) : rIsA K [.str z, .ref tp] H Q := g_is2 hp (.base (.str z)) kit_str_list kit_str_tuple q
end
section
variable {K : PySem.W.Frag} {σ : L2.St} {F : Hp} {O O' : Own} {H : Hp} {Q : VK} {x y v : V}
theorem g_neB {i j : Bool} (q : Q (.bl (!decide (i = j))) H) : rNeA K (.bl i) (.bl j) H Q := .inl ⟨rfl, by rw [dec_bl, Bool.beq_eq_decide_eq]; exact q⟩
theorem g_eqB {i j : Bool} (q : Q (.bl (decide (i = j))) H) : rEqA K (.bl i) (.bl j) H Q := .inl ⟨rfl, by rw [dec_bl, Bool.beq_eq_decide_eq]; exact q⟩
/-! ### insert, max, the last item -/
def rInsert : V → List V → Hp → VK → Prop := fun x vs H Q => ∃ (l : Addr) (xs : List V) (i : Int) (y : V), x = .ref l ∧ vs = [.int i, y] ∧ H l = some (.lst xs) ∧ xs.length < sizeLine ∧ 0 ≤ i ∧ i < 2 ^ 63 ∧ Q .non (upd H l (.lst (xs.take i.toNat ++ [y] ++ xs.drop i.toNat)))
theorem mt_insertA {X : Cx} : MtR X "list.insert" rInsert := mt_insert
theorem g_insert {a : Addr} {xs : List V} {i : Int} (hH : Has F O H) (c : Chg O a (.lst xs) (.lst (xs.take i.toNat ++ [y] ++ xs.drop i.toNat)) O') (hl : xs.length < sizeLine) (h0 : 0 ≤ i) (h1 : i < 2 ^ 63) (q : ∀ H', Has F O' H' → Q .non H') : rInsert (.ref a) [.int i, y] H Q :=
  ⟨a, xs, i, y, rfl, rfl, hH.get c.mem, hl, h0, h1, q _ (hH.put c)⟩
theorem cr_maxK {X : Cx} (K : PySem.W.Frag) (hc : X.calm = true) (e : X.K = K := by rfl) : CallR X (.builtin "max") (rMax K) := by subst e; exact cr_max hc
theorem g_max {a : Addr} {ns : List Int} (h : H a = some (.lst (ns.map V.int))) (hl : 0 < ns.length) (q : ∀ m, m ∈ ns → (∀ y, y ∈ ns → y ≤ m) → Q (.int m) H) : rMax K [.ref a] H Q := ⟨a, ns, rfl, SqL.of h, hl, q⟩
theorem g_ixLast {a : Addr} {xs : List V} {v : V} (h : H a = some (.lst xs)) (hl : xs.getLast? = some v) (q : Q v H) : rIxA K (.ref a) (.int (-1)) H Q := by
  obtain ⟨ys, rfl⟩ := List.getLast?_eq_some_iff.mp hl
  exact g_ixL h (atI_last ys v) q
end
theorem cutV_nat (xs : List V) (a b : Nat) : cutV xs (some (a : Int)) (some (b : Int)) = (xs.drop a).take (b - a) := by
  unfold cutV
  rw [HT.sIx_nat, HT.sIx_nat]
  by_cases h : a ≤ xs.length
  · rw [Nat.min_eq_left h]
    rcases Nat.le_total b xs.length with hb | hb
    · rw [Nat.min_eq_left hb]
    · rw [Nat.min_eq_right hb, List.take_of_length_le (by rw [List.length_drop]; omega), List.take_of_length_le (by rw [List.length_drop]; omega)]
  · rw [Nat.min_eq_right (show xs.length ≤ a by omega), List.drop_of_length_le (Nat.le_refl _), List.drop_of_length_le (show xs.length ≤ a by omega), List.take_nil, List.take_nil]
theorem cutV_from (xs : List V) (a : Nat) : cutV xs (some (a : Int)) none = xs.drop a := by
  unfold cutV
  rw [HT.sIx_nat, HT.sIx_none]
  by_cases h : a ≤ xs.length
  · rw [Nat.min_eq_left h, List.take_of_length_le (by rw [List.length_drop]; omega)]
  · rw [Nat.min_eq_right (show xs.length ≤ a by omega), List.drop_of_length_le (Nat.le_refl _), List.drop_of_length_le (show xs.length ≤ a by omega), List.take_nil]
theorem cutV_to (xs : List V) (b : Nat) : cutV xs none (some (b : Int)) = xs.take b := by
  unfold cutV
  rw [HT.sIx_none, HT.sIx_nat, List.drop_zero, Nat.sub_zero]
  rcases Nat.le_total b xs.length with hb | hb
  · rw [Nat.min_eq_left hb]
  · rw [Nat.min_eq_right hb, List.take_length, List.take_of_length_le hb]
/-! ### a def that adds to what stands still -/
def Grow (F H F' : Hp) : Prop := Same F F' ∧ ∀ b, H b ≠ none → F' b = F b
theorem Has.grown {F F' H H' : Hp} {O O' : Own} {a : Addr} {o o' : HO} (h : Has F O H) (c : Chg O a o o' O') (hb : But a H H') (g : Grow F H F') (s : Same F' H') (e : H' a = some o') : Has F' O' H' := by
  have h' := h.but c hb e
  refine ⟨s, fun q hq => ⟨?_, (h'.own q hq).2⟩, h'.nd⟩
  rcases c.own h.nd q hq with rfl | ⟨m, _⟩
  · rw [g.2 a (by rw [h.get c.mem]; exact fun z => by cases z)]
    exact (h.own _ c.mem).1
  · rw [g.2 q.1 (by rw [(h.own q m).2]; exact fun z => by cases z)]
    exact (h.own q m).1

section
variable {K : PySem.W.Frag} {H : Hp} {Q : VK}
theorem g_ixVT {a : Addr} {xs : List V} {i : Int} (h : H a = some (.tup xs)) (h0 : 0 ≤ i) (hl : i < xs.length) (q : ∀ v, xs[i.toNat]? = some v → Q v H) : rIxA K (.ref a) (.int i) H Q := by
  have e : i.toNat < xs.length := by omega
  exact g_ixT h (at_n h0 (List.getElem?_eq_getElem e)) (q _ (List.getElem?_eq_getElem e))
theorem is2_non {tp : Addr} (hp : H tp = some (.tup [.ty "list", .ty "tuple"])) (q : Q (.bl false) H) : rIsA K [.non, .ref tp] H Q := g_is2 hp (.base .non) (by decide +kernel : kitB "NoneType" "list" = some false) (by decide +kernel : kitB "NoneType" "tuple" = some false) q
end

theorem i_nf {A B : Prop} (h : A) : if (!false) = true then A else B := by
  show (if true = true then A else B)
  rw [if_pos rfl]
  exact h
theorem i_nt {A B : Prop} (h : B) : if (!true) = true then A else B := by
  show (if false = true then A else B)
  rw [if_neg Bool.false_ne_true]
  exact h

/-- ways that meet: what holds where they meet -/
theorem g_join {t : TS} {D : Ends} {σ : L2.St} {H : Hp} (M : L2.St → Hp → Prop) (h : ∀ σ' H', M σ' H' → D.nx σ' H') (q : (∀ σ' H', M σ' H' → D.nx σ' H') → t D σ H) : t D σ H := q h

/-! ### all that is not owned stands still from now on -/
def rmO (O : Own) (H : Hp) : Hp := fun b => if b ∈ O.map (·.1) then none else H b
section
variable {F H : Hp} {O : Own}
theorem Has.re (h : Has F O H) : Has (rmO O H) O H := by
  refine ⟨fun b u e => ?_, fun p hp => ⟨if_pos (List.mem_map.mpr ⟨p, hp, rfl⟩), (h.own p hp).2⟩, h.nd⟩
  unfold rmO at e
  split at e
  · cases e
  · exact e
theorem Has.reF (h : Has F O H) : Same F (rmO O H) := fun b u e => by
  unfold rmO
  rw [if_neg]
  · exact h.same b u e
  · intro m
    obtain ⟨p, hp, rfl⟩ := List.mem_map.mp m
    rw [(h.own p hp).1] at e
    cases e
theorem Has.re_of (h : Has F O H) {b : Addr} {u : HO} (e : H b = some u) (ne : ∀ p ∈ O, p.2 ≠ u) : rmO O H b = some u := by
  unfold rmO
  rw [if_neg]
  · exact e
  · intro m
    obtain ⟨p, hp, rfl⟩ := List.mem_map.mp m
    rw [(h.own p hp).2] at e
    exact ne p hp (Option.some.inj e)
end

section
variable {K : PySem.W.Frag} {σ : L2.St} {F : Hp} {O O' : Own} {H : Hp} {Q : VK} {x y v : V} {ta te : TE}
theorem g_ixDI {a : Addr} {kvs : List (Key × V)} {i : Int} (h : H a = some (.dK kvs)) (hv : valV kvs (.inl i) = some v) (q : Q v H) : rIxA K (.ref a) (.int i) H Q := .inr ⟨a, v, rfl, hv ▸ DGet.k (k := .inl i) h, q⟩
theorem g_ixDS {a : Addr} {kvs : List (Key × V)} {i : Str} (h : H a = some (.dK kvs)) (hv : valV kvs (.inr i) = some v) (q : Q v H) : rIxA K (.ref a) (.str i) H Q := .inr ⟨a, v, rfl, hv ▸ DGet.k (k := .inr i) h, q⟩
/-! ### [*xs, y]; if xs:; dict(pairs) -/
def kStar (K : PySem.W.Frag) (t : TA) (σ : L2.St) (x : V) (H : Hp) (Q : List V → Hp → Prop) : Prop := ∃ p xs, x = V.ref p ∧ (SqT K H p xs ∨ SqL K H p xs) ∧ t σ H fun ys H2 => Q (xs ++ ys) H2
theorem g_star {t : TA} {QA : List V → Hp → Prop} (q : te σ H fun x H1 => kStar K t σ x H1 QA) : StX.tStar K te t σ H QA := q
theorem g_kstarL {t : TA} {QA : List V → Hp → Prop} {a : Addr} {xs : List V} (h : H a = some (.lst xs)) (q : t σ H fun ys H2 => QA (xs ++ ys) H2) : kStar K t σ (.ref a) H QA := ⟨a, xs, rfl, .inr (SqL.of h), q⟩
theorem g_kstarT {t : TA} {QA : List V → Hp → Prop} {a : Addr} {xs : List V} (h : H a = some (.tup xs)) (q : t σ H fun ys H2 => QA (xs ++ ys) H2) : kStar K t σ (.ref a) H QA := ⟨a, xs, rfl, .inl (SqT.of h), q⟩
theorem k_star {X : Cx} {es : List Expr} {t : TA} {ex : Expr} {p : Pos} (K : PySem.W.Frag) (h : PA X (.Starred ex p :: es) (StX.tStar X.K te t)) (e : X.K = K := by rfl) : PA X (.Starred ex p :: es) (StX.tStar K te t) := by subst e; exact h
def kTru (K : PySem.W.Frag) (x : V) (H : Hp) (R : Bool → Hp → Prop) : Prop := ∃ k, TruV K x H k ∧ R k H
def tTru (K : PySem.W.Frag) (te : TE) : TT := fun σ H R => te σ H fun x H1 => kTru K x H1 R
theorem pt_tru {X : Cx} {a : Expr} (K : PySem.W.Frag) (ha : PE X a ta) (he : ∀ whole, isTrue a X.env whole = (do let v ← whole; standAt a.pos; holding [v] (truthy v)) := by intro _; rfl) (e : X.K = K := by rfl) : PT X a (tTru K ta) := by subst e; exact pt_truth ha he
theorem g_tru {R : Bool → Hp → Prop} (q : te σ H fun x H1 => kTru K x H1 R) : tTru K te σ H R := q
theorem g_truL {R : Bool → Hp → Prop} {a : Addr} {xs : List V} (h : H a = some (.lst xs)) (q : R (!xs.isEmpty) H) : kTru K (.ref a) H R := ⟨_, .inl ⟨xs, SqL.of h, rfl⟩, q⟩
def rDictP (K : PySem.W.Frag) : List V → Hp → VK → Prop := fun xs H Q => ∃ (a : Addr) (ps : List Addr) (kvs : List (Key × V)), xs = [.ref a] ∧ SqL K H a (ps.map V.ref) ∧ Paired (fun p kv => SqT K H p [kV kv.1, kv.2]) ps kvs ∧ ∀ p, H p = none → Q (.ref p) (upd H p (.dK (mergeK [] kvs)))
theorem cr_dictP {X : Cx} (K : PySem.W.Frag) (hc : X.calm = true) (e : X.K = K := by rfl) : CallR X (.type "dict") (rDictP K) := by subst e; exact call_dictP hc
theorem g_dictP {a : Addr} {ps : List Addr} {kvs : List (Key × V)} (h : H a = some (.lst (ps.map V.ref))) (hp : Paired (fun p kv => SqT K H p [kV kv.1, kv.2]) ps kvs) (hH : Has F O H) (q : ∀ p H', H p = none → Has F ((p, .dK (mergeK [] kvs)) :: O) H' → Q (.ref p) H') : rDictP K [.ref a] H Q :=
  ⟨a, ps, kvs, rfl, SqL.of h, hp, fun p n => q p _ n (hH.new n)⟩
end
/-! ### data without lists; tuples of ints; pairs to a dict -/
mutual
def noL : PyData → Bool
  | .list _ => false
  | .dict _ => false
  | .tuple ds => noLs ds
  | _ => true
def noLs : List PyData → Bool
  | [] => true
  | d :: ds => noL d && noLs ds
end
theorem noLs_mem : ∀ {ds : List PyData}, (∀ d ∈ ds, noL d = true) → noLs ds = true
  | [], _ => by rw [noLs]
  | d :: ds, h => by
    rw [noLs, h d List.mem_cons_self, noLs_mem fun x hx => h x (List.mem_cons_of_mem _ hx)]
    rfl
mutual
theorem Dq.keep {H H' : Hp} (e : ∀ b xs, H b = some (.tup xs) → H' b = some (.tup xs)) : ∀ (d : PyData) (v : V), noL d = true → Dq H v d → Dq H' v d
  | _, _, _, .non => .non
  | _, _, _, .bl b => .bl b
  | _, _, _, .int i => .int i
  | _, _, _, .str x => .str x
  | .list ds, _, n, .lst s a => by rw [noL] at n; cases n
  | .tuple ds, _, n, .tup s a => .tup (e _ _ s) (DqAll.keep e ds _ (by rw [noL] at n; exact n) a)
theorem DqAll.keep {H H' : Hp} (e : ∀ b xs, H b = some (.tup xs) → H' b = some (.tup xs)) : ∀ (ds : List PyData) (vs : List V), noLs ds = true → DqAll H vs ds → DqAll H' vs ds
  | _, _, _, .nil => .nil
  | d :: ds, _, n, .cons h t => by
    rw [noLs, Bool.and_eq_true] at n
    exact .cons (Dq.keep e d _ n.1 h) (DqAll.keep e ds _ n.2 t)
end
theorem Has.keep {F H : Hp} {O : Own} (h : Has F O H) (ho : ∀ p ∈ O, ∀ xs, p.2 ≠ .tup xs) {ds : List PyData} {vs : List V} (n : ∀ d ∈ ds, noL d = true) (d : DqAll H vs ds) : DqAll (rmO O H) vs ds :=
  d.keep (fun _ _ e => h.re_of e fun p hp => ho p hp _) _ _ (noLs_mem n)
theorem eqv_tints (xs ys : List Int) : PyData.eqv (.tuple (xs.map PyData.int)) (.tuple (ys.map PyData.int)) = decide (xs = ys) := by
  rw [PyData.eqv, eqvAll_ints]
theorem eqv_tstrs (xs ys : List Str) : PyData.eqv (.tuple (xs.map PyData.str)) (.tuple (ys.map PyData.str)) = decide (xs = ys) := by
  rw [PyData.eqv, eqvAll_strs]
theorem ixN_last (n : Nat) : ixN (n + 1) (-1) = some n := by
  unfold ixN
  rw [if_neg (by decide), if_pos (by omega)]
  congr 1
  omega
theorem valV_merge (i : Key) : ∀ (kvs acc : List (Key × V)), valV (mergeK acc kvs) i = (valV kvs.reverse i).or (valV acc i)
  | [], acc => by simp [mergeK, valV]
  | p :: r, acc => by
    show valV (mergeK (putK acc p.1 p.2) r) i = _
    rw [valV_merge i r, valV_put, List.reverse_cons]
    unfold valV
    rw [List.find?_append]
    cases h : r.reverse.find? fun kv => decide (kv.1 = i) with
    | some x => simp
    | none =>
      by_cases e : p.1 = i
      · simp [List.find?_cons, e]
      · rw [if_neg (fun z => e z.symm)]; simp [List.find?_cons, e]
def kLcR2 (g : TG) (tt : TT) (te : TE) (ws : List Nat) (σ : L2.St) (vs : List V) (H : Hp) (Q : VK) : Prop := ∃ i j : Int, vs = [.int i, .int j] ∧ (-(2 ^ 62) ≤ i ∧ i < 2 ^ 62 ∧ -(2 ^ 62) ≤ j ∧ j < 2 ^ 62) ∧ kLc (Itr i (j - i).toNat) g tt te ws σ H Q
section
variable {K : PySem.W.Frag} {σ : L2.St} {F : Hp} {O O' : Own} {H : Hp} {Q : VK} {x y v : V} {ta te : TE} {g : TG}
theorem g_lcR2 {ta : TA} {tt : TT} {vs : List Nat} (q : ta σ H fun xs H1 => kLcR2 g tt te vs σ xs H1 Q) : tLc (iRng2 ta) g tt te vs σ H Q := q
theorem k_lcR2 {lo j : Int} {tt : TT} {vs : List Nat} (h0 : -(2 ^ 62) ≤ lo ∧ lo < 2 ^ 62 ∧ -(2 ^ 62) ≤ j ∧ j < 2 ^ 62) (hH : Has F O H) (S : Nat → List V → Hp → Own → Prop) (h0 : S 0 [] F O)
    (hs : ∀ i acc F O D H, i < (j - lo).toNat → S i acc F O → Has F ((D, .lst acc) :: O) H → g (.int (lo + (i : Nat))) (wipe σ vs) H fun σ2 H2 => wipe σ2 vs = wipe σ vs ∧ tt σ2 H2 fun b H3 => if b = true then te σ2 H3 fun y H4 => kTurn D (kNx S i D) y H4 else kNx S i D H3)
    (hd : ∀ acc F O D H, S (j - lo).toNat acc F O → Has F ((D, .lst acc) :: O) H → Q (.ref D) H) : kLcR2 g tt te vs σ [.int lo, .int j] H Q := by
  refine ⟨lo, j, rfl, by assumption, k_lc hH (j - lo).toNat S h0 (fun i acc F O D H hi s hh => hi) (fun acc F O D H s hh => Nat.le_refl _) (fun i x acc F O D H H' hi y s hh => ?_) hd⟩
  obtain ⟨e, y⟩ := y
  subst e y
  exact hs i acc F O D _ hi s hh
theorem g_truT {R : Bool → Hp → Prop} {a : Addr} {xs : List V} (h : H a = some (.tup xs)) (q : R (!xs.isEmpty) H) : kTru K (.ref a) H R := ⟨_, .inr (.inl ⟨xs, SqT.of h, rfl⟩), q⟩
end
/-! ### list.extend by a list, by a tuple -/
theorem ext_tup (l : Addr) (items : Array Value) (n : Nat) (b : Addr) (items2 : Array Value) (n2 : Nat) (d0 : Option Addr) (sl : Array (Option Value)) (hs0 : ¬(!items.isEmpty && Builtin.List.listTooLong (items.size + items2.size)) = true) (hs1 : items.size ≤ sizeLine) (hs2 : items.size + items2.size ≤ sizeLine + 1) :
    Meets (Builtin.«list.extend» ⟨[.ref l, .ref b], []⟩) (fun _ R s => s.heap.get? l = some { cls := .type "list", dict := none, data := .seq items n, slots := #[] } ∧ s.heap.get? b = some { cls := .type "tuple", dict := d0, data := .seq items2 n2, slots := sl } ∧ R (.ok (.ret Value.none)) { s with heap := s.heap.update l (Obj.mapSeq fun x => x ++ items2), toks := s.toks }) :=
  .of_wp fun prog w A R s h => by
    obtain ⟨hp, g, d, tk, os⟩ := s
    obtain ⟨hl, hb, h⟩ := h
    have f1 := PySem.AutoSeq1.sub_tuple_tuple
    have f2 := PySem.AutoSeq1.sub_list_list
    have f3 := PySem.AutoSeq1.sub_tuple_list
    have f4 := PySem.AutoSeq1.sub_list_tuple
    have hz' : (items ++ items2).size ≤ sizeLine + 1 := by rw [Array.size_append]; exact hs2
    wp_walk using (wpAny_updateSeq hl rfl (hz := hs1) (_hz' := hz')), PySem.AutoSeq1.wpAny_loadPart' hl, PySem.AutoSeq1.wpAny_loadPart' hb
    exact ⟨_, rfl, h⟩
section
variable {X : Cx}
def rExtendT (K : PySem.W.Frag) : V → List V → Hp → VK → Prop := fun x vs H Q => ∃ l b xs zs, x = .ref l ∧ vs = [.ref b] ∧ H l = some (.lst xs) ∧ SqT K H b zs ∧ xs.length + zs.length ≤ sizeLine ∧ Q .non (upd H l (.lst (xs ++ zs)))
theorem mt_extendT : MtM X "list.extend" (rExtendT X.K) := by
  intro pins s σ H x vs v us Q I rx rv h
  obtain ⟨l, b, xs, zs, rfl, rfl, hH, hB, hz, q⟩ := h
  cases rx
  obtain ⟨u, rfl, ru⟩ := rv.one
  cases ru
  obtain ⟨z, its, n, r, hl, e⟩ := I.lstM hH
  obtain ⟨its2, r2, ⟨⟨cl, dc, da, so⟩, e2, hc, n2, hd⟩, z2⟩ := I.tuple hB
  have hc : cl = .type "tuple" := hc
  have hd : da = .seq its2.toArray n2 := hd
  subst hc hd
  have hl2 := r2.length
  have hsz : its.toArray.size + its2.toArray.size ≤ sizeLine := by rw [List.size_toArray, List.size_toArray]; omega
  have hlong : ¬ (!its.toArray.isEmpty && Builtin.List.listTooLong (its.toArray.size + its2.toArray.size)) = true := by
    rw [notLongL hsz, Bool.and_false]
    exact Bool.false_ne_true
  refine call_meets F.slot_list_extend ⟨_, e, rfl⟩ F.entry_list_extend (F.args_list_extend_2 _ _) (ext_tup l its.toArray n b its2.toArray n2 dc so hlong (by rw [List.size_toArray]; omega) (by omega)) ⟨e, e2, ?_⟩
  refine ⟨.non, _, I.lset (its' := its ++ its2) hH e (by simp) (r.append r2) ?_, rfl, q⟩
  rw [List.length_append]
  omega
def rExtendA (K : PySem.W.Frag) : V → List V → Hp → VK → Prop := fun x vs H Q => rExtend x vs H Q ∨ rExtendT K x vs H Q
theorem mt_extendA (K : PySem.W.Frag) (e : X.K = K := by rfl) : MtR X "list.extend" (rExtendA K) := by
  subst e
  intro pins s σ H x vs v us Q I rx rv h
  rcases h with h | h
  · exact mt_extend pins s σ H x vs v us Q I rx rv h
  · exact mt_extendT pins s σ H x vs v us Q I rx rv h
end
section
variable {K : PySem.W.Frag} {F : Hp} {O O' : Own} {H : Hp} {Q : VK}
theorem g_extL {a b : Addr} {xs zs : List V} (hH : Has F O H) (hb : H b = some (.lst zs)) (c : Chg O a (.lst xs) (.lst (xs ++ zs)) O') (hl : xs.length + zs.length ≤ sizeLine) (q : ∀ H', Has F O' H' → Q .non H') : rExtendA K (.ref a) [.ref b] H Q :=
  .inl ⟨a, b, xs, zs, rfl, rfl, hH.get c.mem, hb, hl, q _ (hH.put c)⟩
theorem g_extT {a b : Addr} {xs zs : List V} (hH : Has F O H) (hb : H b = some (.tup zs)) (c : Chg O a (.lst xs) (.lst (xs ++ zs)) O') (hl : xs.length + zs.length ≤ sizeLine) (q : ∀ H', Has F O' H' → Q .non H') : rExtendA K (.ref a) [.ref b] H Q :=
  .inr ⟨a, b, xs, zs, rfl, rfl, hH.get c.mem, SqT.of hb, hl, q _ (hH.put c)⟩
end
theorem Has.made2 {F H H' : Hp} {O : Own} {p l : Addr} {o u : HO} (h : Has F O H) (np : H p = none) (nl : H l = none) (s : Same H H') (ep : H' p = some o) (el : H' l = some u) (ne : p ≠ l) : Has F ((p, o) :: (l, u) :: O) H' := by
  have h1 := h.made nl s el
  refine ⟨h1.same, fun q hq => ?_, ?_⟩
  · rcases List.mem_cons.mp hq with rfl | hq
    · exact ⟨h.same.free np, ep⟩
    · exact h1.own q hq
  · rw [List.map_cons]
    refine List.nodup_cons.mpr ⟨fun m => ?_, h1.nd⟩
    obtain ⟨q, hq, e⟩ := List.mem_map.mp m
    rcases List.mem_cons.mp hq with rfl | hq
    · exact ne e.symm
    · have := (h.own q hq).2
      rw [e, np] at this
      cases this
end Qk

namespace Qk
open PySem PySem.Spec PyProof.Rows L2

/-! ### defs that raise -/
section
variable {P : Program} {w : World} {K : PySem.W.Frag} {mg : Str → Option Value} {base : Heap}
theorem Fun.okN {x qual : Str} {st : Stmt} {f : Addr} {fd : FuncData} {N ps : List Str} {k : Nat} {sp : Sp} (F : Fun K x qual st f fd) (S : FnScope N ps (defScope st)) (len : ∀ vs H Q E, sp vs H Q E → vs.length = ps.length)
    (hbody : ∀ (cdv : Value) (A : Around) (outer : List Env) (s : Shared) (H : Hp) (vs : List V) (Q : VK) (E : XK), Room k (A.deeper (envOfC qual (defScope st) s.heap.objs.size f cdv)) → sp vs H Q E →
      ∃ t, PSs (cxOf (L2N.CX P w) P w K mg base N qual (defScope st) f cdv A outer s H E) (defBody st) t ∧ t { nx := fun _ H' => Q .non H', rt := Q } (start N vs) H) : FnOk P w K mg base (L2N.CX P w) (k + 1) f fd ps sp := by
  obtain ⟨oc, od, kV, doc, pm, an, cdv, ct, osl, rfl, lk, hcd⟩ := F.ex
  exact fn_of lk hcd S len fun A outer s H vs Q E hr hsp => hbody cdv A outer s H vs Q E hr hsp
/-- a def that is called in a suite -/
theorem Fun.okH {x qual : Str} {st : Stmt} {f : Addr} {fd : FuncData} {N ps : List Str} {k : Nat} {sp : Sp} (F : Fun K x qual st f fd) (S : FnScope N ps (defScope st)) (len : ∀ vs H Q E, sp vs H Q E → vs.length = ps.length)
    (hbody : ∀ (cdv : Value) (A : Around) (outer : List Env) (s : Shared) (H : Hp) (vs : List V) (Q : VK) (E : XK) (p : Addr × Obj), L2H.Hot1 A p → L2H.RoomH k (A.deeper (envOfC qual (defScope st) s.heap.objs.size f cdv)) → sp vs H Q E →
      ∃ t, PSs (L2H.cxH CX0 P w K mg base N qual (defScope st) f cdv A outer s H E p) (defBody st) t ∧ t { nx := fun _ H' => Q .non H', rt := Q } (start N vs) H) : L2H.FnH P w K mg base CX0 (k + 1) f fd ps sp := by
  obtain ⟨oc, od, kV, doc, pm, an, cdv, ct, osl, rfl, lk, hcd⟩ := F.ex
  exact L2H.fn_ofH lk hcd S len fun A outer s H vs Q E p hot hr hsp => hbody cdv A outer s H vs Q E p hot hr hsp
end
theorem passN {X : Cx} : Passes (L2N.CX X.prog X.w) X E0 := fun _ _ _ _ _ _ _ h => by
  obtain ⟨_, _, _, _, _, _, _, _, _, _, _, _, z⟩ := h
  exact z.elim
theorem takesN {X : Cx} : L2N.Takes X (fun _ _ _ _ => False) := fun _ _ x => by
  obtain ⟨_, _, _, _, _, _, _, _, _, _, _, _, _, _, _, _, z⟩ := x
  exact z.elim

theorem _root_.L2H.RoomH.units {k : Nat} {A : Around} (r : L2H.RoomH k A) : A.units + 64 < cLine := by
  have := r.un
  omega
theorem roomS {k j : Nat} {A : Around} {h : Option Value} (r : Room k A) (e : j ≤ k) : L2H.RoomH j (A.mark h) := by
  have h1 := r.dp
  have h2 := r.un
  exact ⟨by show A.depth + 3 * j + 5 < _; omega, by show A.units + 16 * j + 200 < _; omega⟩
theorem huH {k : Nat} {A : Around} (r : L2H.RoomH k A) : A.units + 1 < cLine := by
  have := r.un
  omega
theorem u65H {k : Nat} {A : Around} (r : L2H.RoomH k A) : A.units + 65 < cLine := by
  have := r.un
  omega
/-- ways that meet in one heap fact: refine' g_merge (F := F) (O := O) (R := _) ?a ?b -/
theorem g_merge {F : Hp} {O : Own} {G : Prop} {R : Hp → Prop} (h1 : (∀ H', Has F O H' → R H') → G) (h2 : ∀ H', Has F O H' → R H') : G := h1 h2
theorem g_merge2 {α : Type} {G : Prop} {R : α → Hp → Prop} (P : α → Hp → Prop) (h1 : (∀ x H', P x H' → R x H') → G) (h2 : ∀ x H', P x H' → R x H') : G := h1 h2
theorem g_mergeP {F : Hp} {O : Own} {P G : Prop} {R : Hp → Prop} (h1 : (∀ H', Has F O H' → P → R H') → G) (h2 : ∀ H', Has F O H' → P → R H') : G := h1 h2
/-- a constant of the program's text -/
theorem pe_gc {X : Cx} {x : Str} {pos : Pos} {v : V} (hg : Gl X x) (h : ∃ u, X.mg x = some u ∧ RelV v u) (hd : (x == ("__debug__" : Str)) = false := by decide) : PE X (.Name x pos) (tC v) := by
  obtain ⟨u, hm, r⟩ := h
  exact pe_glob hg hm r hd
/-! ### raise C(e, ..) -/
section
variable {X : Cx} {pins : List (Addr × Obj)} {σ : L2.St} {H : Hp} {hp : Heap} {g : Array GenState} {dr : Drawn} {tk : Nat} {os : OsState} {C : Addr}
/-- the tuple of the arguments and the bare exception laid behind the heap -/
abbrev barePut (hp : Heap) (C : Addr) (us : List Value) : Heap := (hp.push (PySem.W.kdv_tup us)).push (PySem.HandSPX.excO C hp.objs.size)
theorem barePut_keeps {us : List Value} (b : Addr) (o : Obj) (e : hp.get? b = some o) : (barePut hp C us).get? b = some o := Heap.get?_push_of_some _ (Heap.get?_push_of_some _ e)
theorem barePut_inv (I : Inv X pins σ H ⟨hp, g, dr, tk, os⟩) (us : List Value) : Inv X pins σ (upd H (hp.objs.size + 1) (exo (hp.objs.size + 1) C none)) ⟨barePut hp C us, g, dr, tk, os⟩ := by
  refine I.laid (t' := tk) barePut_keeps (Nat.le_succ _) (exo_ok (t1 := hp.objs.size) ?_)
  unfold barePut
  heap_get
/-- what an __init__ leaves, as an exception in hand -/
theorem in_hand {H2 : Hp} {Q : XK} {us : List Value} {s' : Shared} {d : Addr} {fs : List (Str × V)} (T : OexC X.K C) (I : Inv X pins σ H ⟨hp, g, dr, tk, os⟩) (un : Un (frs X.stack) [] (upd H (hp.objs.size + 1) (exo (hp.objs.size + 1) C none)) H2 (barePut hp C us) s'.heap)
    (ok : HOk X.prog X.w H2 s'.heap) (eo : s'.os = os) (bare : AllBare s'.gens) (ea : H2 (hp.objs.size + 1) = some (exo (hp.objs.size + 1) C (some d))) (ed : H2 d = some (exd d fs)) (nd : H d = none)
    (q : Q (.ref C) (some d) (upd (del H2 (hp.objs.size + 1)) d (.xd fs))) : L2N.MkP X pins σ Q (.ref (hp.objs.size + 1)) s' := by
  obtain ⟨h2, g2, d2, t2, o2⟩ := s'
  obtain ⟨tt, G, J, kG, gone, there, free⟩ := mk_end0 (t2 := t2) (d2 := d2) I (Nat.le_succ _) barePut_keeps un ok eo bare ea ed nd
  have zn : L2N.Zn (.ref C) (some d) ({ cls := .ref C, dict := some d, data := .fields #[.ref tt, .none, .none, .none, .bool false, .none] } : Obj) := ⟨rfl, rfl, fun vs hv => by cases hv; rfl⟩
  exact ⟨_, _, _, ⟨G, g2, d2, t2, o2⟩, _, _, some d, rfl, J, kG, gone, there, zn, rfl, rfl, free, rfl, bare, raises_own T.exC T.tyC, q⟩
end
theorem pmk_oexN {X : Cx} {e : Expr} {es : List Expr} {ta : TA} {p pos : Pos} {CX : CXT} {x : Str} {C fI : Addr} {k : Nat} {fd : FuncData} {ps : List Str} {sp : Sp} (T : OexC X.K C) (iC : PySem.W.findIn X.K (.ref C) "__init__" = some (some (.ref fI))) (tI : PySem.W.typeIn X.K (.ref fI) = some (.type "function"))
    (Fi : FnOk X.prog X.w X.K X.mg X.base CX k fI fd ps sp) (room : Room (k + 1) X.A) (binds : Binds X.K fd ps []) (pass : Passes CX X (fun _ _ _ => False)) (gl : Gl X x) (gm : X.mg x = some (.ref C)) (args : PA X (e :: es) ta)
    (dbg : (x == ("__debug__" : Str)) = false := by decide) (star : starEach (e :: es) X.env = (false, eval e X.env) :: starEach es X.env := by rfl) (plain : (backTo pos (starEach es X.env)).any (·.1) = false := by rfl) :
    L2N.PMk X (.Call (.Name x p) (e :: es) [] pos) (tMkO C sp [] ta) := fun pins s σ H Q I h => by
  obtain ⟨_, _, _, _, bm, _, _, _, _, _, _, _, _, _, _, cl, rf⟩ := T.cls
  refine wpAny_Call_Name_kw (ld_glob I gl gm (PySem.W.callWith_K (h₀ := X.base) I.ok.mod.kin T.kC (thn (args.run pos pins s σ H _ I h) fun us s1 hs => ?_) star plain) dbg)
  obtain ⟨vs, H1, J, rel, few, spq⟩ := hs
  refine ⟨J.kIn, ?_⟩
  obtain ⟨hp, g, dr, tk, os⟩ := s1
  have J2 := barePut_inv (C := C) J us
  have start := spq (hp.objs.size + 1) (J.hok.fresh (Nat.le_succ _))
  rw [List.append_nil] at start
  have vals : Vals (V.ref (hp.objs.size + 1) :: vs) (Value.ref (hp.objs.size + 1) :: us) := .cons rfl rel
  have many : (Value.ref (hp.objs.size + 1) :: us).length = ps.length := vals.length.symm.trans (Fi.len _ _ _ _ start)
  have bd := binds _ (Value.ref (hp.objs.size + 1) :: us) J2.kIn (by rw [List.append_nil]; exact many)
  rw [List.append_nil] at bd
  have room2 : us.length ≤ sizeLine := sz (by have := Paired.length rel; omega)
  have run := Fi.run _ X.stack _ _ ⟨Value.ref (hp.objs.size + 1) :: us, []⟩ (Value.ref (hp.objs.size + 1) :: us) _ _ (fun _ _ _ => False) (room.make C us []) (J2.env0.make C us []) bd vals start
  show wpAny (model X.prog X.w) X.A (call (.ref C) us) _ _ _
  refine wpAny_call (PySem.HandSPX.call_own F.excBase_ValueError (fun Y => PySem.HandSPX.refsVE_contains Y bm rf) (J.kIn _ _ cl) (PySem.W.looks_findIn J.kIn iC) (fun self => PySem.W.bind_fn J.kIn self tI) room2 (codeAny_mono run fun r s' end_ => ?_))
  match r, end_ with
  | .error er, end_ => exact pass pins σ _ _ er s' J2 end_
  | .ok (.ret u), ⟨v, H2, eo, bare, un, ok, ru, ev, d, fs, ea, ed, nd, q⟩ =>
    subst ev
    exact ⟨ru, in_hand T J un ok eo bare ea ed nd q⟩
  | .ok .next, end_ => exact end_.elim
  | .ok .brk, end_ => exact end_.elim
  | .ok .cont, end_ => exact end_.elim

/-! ### readings in order -/
/-- raise C(vs) -/
def kMk (C : Addr) (sp : Sp) (vs : List V) (H : Hp) (Q : XK) : Prop := vs.length ≤ 1000 ∧ ∀ a, H a = none → sp (.ref a :: (vs ++ [])) (upd H a (exo a C none))
  (fun v H2 => v = .non ∧ ∃ (d : Addr) (fs : List (Str × V)), H2 a = some (exo a C (some d)) ∧ H2 d = some (exd d fs) ∧ H d = none ∧ Q (.ref C) (some d) (upd (del H2 a) d (.xd fs))) (fun _ _ _ => False)
def tRaise (W : WX) (C : Addr) (sp : Sp) (ta : TA) : TS := fun _ σ H => tMkO C sp [] ta σ H fun cls d H' => W cls d σ H'
theorem k_raise {X : Cx} {W : WX} {e : Expr} {C : Addr} {sp : Sp} {ta : TA} {pos : Pos} (hc : X.calm = true) (tk : L2N.Takes X W) (he : L2N.PMk X e (tMkO C sp [] ta)) : PS X (.Raise (some e) none pos) (tRaise W C sp ta) := L2N.ps_raise hc tk he
theorem g_raise {W : WX} {C : Addr} {sp : Sp} {ta : TA} {D : Ends} {σ : L2.St} {H : Hp} (q : ta σ H fun vs H1 => kMk C sp vs H1 fun cls d H' => W cls d σ H') : tRaise W C sp ta D σ H := q
/-- try: body, except c as i: suite -/
def tTry (K : PySem.W.Frag) (c : Value) (i : Nat) (tb : WX → TS) (ts : Addr → Value → Option Addr → TS) (Wout : WX) : TS := fun D σ H => tb (wAs K c i ts Wout D) D σ H
theorem k_try {X : Cx} {x n : Str} {c : Value} {i : Nat} {body suite : List Stmt} {b₀ : Stmt} {np pos pos' : Pos} {tb : WX → TS} {ts : Addr → Value → Option Addr → TS} {Wout : WX} (K : PySem.W.Frag)
    (hs : X.stack = X.env :: X.outer) (hf : X.env.frame = some X.env.locals) (hN : X.N.Nodup) (hi : X.N[i]? = some n) (hln : X.env.kindOf n = some .local) (hc : Names X x c) (tk : L2N.Takes X Wout)
    (hb : ∀ (W : WX) (pn : List (Addr × Obj)) (xe : Value → Shared → Prop), L2N.Takes (X.tr pn xe) W → PassesOwn (model X.prog X.w) X.A X.env xe → PSs (X.tr pn xe) body (tb W))
    (hsu : ∀ (a : Addr) (oe : Obj) (cls : Value) (d : Option Addr) (pn : List (Addr × Obj)), L2N.Zn cls d oe → (∃ vs, oe.data = .fields vs) → PSs (X.suite a ((a, oe) :: pn)) (b₀ :: suite) (ts a cls d)) (e : X.K = K := by rfl) :
    PS X (.Try body [.ExceptHandler (some (.Name x np)) (some n) (b₀ :: suite) pos'] [] [] pos) (tTry K c i tb ts Wout) := by subst e; exact L2N.ps_try_as hs hf hN hi hln hc tk hb hsu
/-- the way into the suite -/
theorem g_caught {K : PySem.W.Frag} {c cls : Value} {i : Nat} {ts : Addr → Value → Option Addr → TS} {Wout : WX} {D : Ends} {d : Option Addr} {σ : L2.St} {H : Hp} (m : PySem.W.exmOne K cls c = some true)
    (q : ∀ a, H a = none → ts a cls d { nx := fun σ' H' => D.nx (σ'.set i none) H', rt := D.rt, bk := fun σ' H' => D.bk (σ'.set i none) H', ct := fun σ' H' => D.ct (σ'.set i none) H' } (σ.set i (some (.ref a))) H) : wAs K c i ts Wout D cls d σ H :=
  ⟨true, m, fun _ => q, fun z => by cases z⟩
theorem g_try {K : PySem.W.Frag} {c : Value} {i : Nat} {tb : WX → TS} {ts : Addr → Value → Option Addr → TS} {Wout : WX} {D : Ends} {σ : L2.St} {H : Hp} (q : tb (wAs K c i ts Wout D) D σ H) : tTry K c i tb ts Wout D σ H := q
theorem g_callS {sp : Sp} {E : L2.St → XK} {t : TA} {σ : L2.St} {H : Hp} {Q : VK} (q : t σ H fun vs H1 => sp vs H1 Q (E σ)) : tCallS sp E t σ H Q := q

theorem g_ost {K : PySem.W.Frag} {f : Str} {to te : TE} {D : Ends} {σ : L2.St} {H : Hp} (q : tOst K f to te D σ H) : tOst K f to te D σ H := q
theorem upd_over {H : Hp} {dx a : Addr} {e1 e2 x : HO} (ne : dx ≠ a) : upd (upd (upd H dx e1) a x) dx e2 = upd (upd H dx e2) a x := by
  funext b
  by_cases h1 : b = dx
  · subst h1
    rw [upd_same, upd_ne ne, upd_same]
  · rw [upd_ne h1]
    by_cases h2 : b = a
    · subst h2
      rw [upd_same, upd_same]
    · rw [upd_ne h2, upd_ne h2, upd_ne h1, upd_ne h1]
/-- __init__ that keeps each argument in a field of its name -/
def sp_oinit (C : Addr) (names : List Str) : Sp := fun vs H Q _ => ∃ (a : Addr) (ws : List V), vs = .ref a :: ws ∧ ws.length = names.length ∧ H a = some (exo a C none) ∧
  ∀ dx, H dx = none → dx ≠ a → Q .non (upd (upd H dx (exd dx (names.zip ws).reverse)) a (exo a C (some dx)))
theorem sp_oinit_len {C : Addr} {names : List Str} {vs H Q E} (h : sp_oinit C names vs H Q E) : vs.length = names.length + 1 := by
  obtain ⟨a, ws, rfl, hl, _⟩ := h
  rw [List.length_cons, hl]
theorem g_mk {C : Addr} {names : List Str} {vs : List V} {F H : Hp} {O : Own} {Q : XK} (hl : vs.length = names.length) (hs : names.length ≤ 1000) (hH : Has F O H) (q : ∀ d H', H d = none → Has F ((d, .xd (names.zip vs).reverse) :: O) H' → Q (.ref C) (some d) H') : kMk C (sp_oinit C names) vs H Q := by
  refine ⟨by omega, fun a n => ⟨a, vs ++ [], rfl, by rw [List.append_nil]; exact hl, upd_same, fun dx n1 ne => ⟨rfl, dx, (names.zip vs).reverse, upd_same, ?_, ?_, ?_⟩⟩⟩
  · rw [upd_ne ne, upd_same, List.append_nil]
  · rw [upd_ne ne] at n1
    exact n1
  · rw [upd_ne ne] at n1
    have e : upd (del (upd (upd (upd H a (exo a C none)) dx (exd dx (names.zip (vs ++ [])).reverse)) a (exo a C (some dx))) a) dx (.xd (names.zip vs).reverse) = upd H dx (.xd (names.zip vs).reverse) := by
      funext b
      by_cases h1 : b = dx
      · subst h1
        rw [upd_same, upd_same]
      · rw [upd_ne h1, upd_ne h1]
        by_cases h2 : b = a
        · subst h2
          rw [del_same, n]
        · rw [del_ne h2, upd_ne h2, upd_ne h1, upd_ne h2]
    rw [e]
    exact q dx _ n1 (hH.new n1)
/-! ### in a suite: isinstance, a field, a call -/
structure IsC (K : PySem.W.Frag) (D : Addr) : Prop where
  cl : (PySem.W.clsIn K D).isSome = true
  hg : PySem.W.findIn K (.ref D) "__getattribute__" = some (some (.builtin "BaseException.__getattribute__"))
  hk : PySem.W.findIn K (.ref D) "__getattr__" = some none
  hs : PySem.W.subIn K (.ref D) (.type "BaseException") = some true
  hd : PySem.W.hasDictIn K D = true
  ha : PySem.W.findIn K (.ref D) "__class__" = some (some (.builtin "object.__class__"))
  hn : PySem.W.specialIn K (.builtin "object.__class__") "__get__" = some (some (.builtin "getset_descriptor.__get__"))
  ht : PySem.W.takesIn K (.builtin "object.__class__") = some true
  hm : PySem.W.mroIn K D (.type "object") = some true
/-- isinstance(e, c) for the caught e: a is where it stands -/
def rIsX (K : PySem.W.Frag) (a : Addr) (cls : Value) (d : Option Addr) : List V → Hp → VK → Prop := fun xs H Q => ∃ (D : Addr) (c : V) (cv : Value) (b : Bool), cls = .ref D ∧ IsC K D ∧ (d = none ∨ ∃ dd fs, d = some dd ∧ H dd = some (.xd fs)) ∧ xs = [.ref a, c] ∧ (∀ u, RelV c u → u = cv) ∧ PySem.W.kitOne K (.ref D) cv = some b ∧ Q (.bl b) H
def rIsY (K : PySem.W.Frag) (a : Addr) (cls : Value) (d : Option Addr) : List V → Hp → VK → Prop := fun xs H Q => rIsX K a cls d xs H Q ∨ rIsA K xs H Q
theorem cr_isX {X : Cx} {a : Addr} {oe : Obj} {cls : Value} {d : Option Addr} {pn : List (Addr × Obj)} (K : PySem.W.Frag) (hz : L2.Zc cls d oe) (hf : ∃ vs, oe.data = .fields vs) (e : X.K = K := by rfl) : CallR (X.suite a ((a, oe) :: pn)) (.builtin "isinstance") (rIsY K a cls d) := by
  subst e
  intro pins s σ H xs us Q I r h
  rcases h with h | h
  · obtain ⟨D, c, cv, b, ecl, C, hd, rfl, hcv, e, q⟩ := h
    cases r with
    | cons rx rr =>
      cases rr with
      | cons rt rr =>
        cases rr
        cases rx
        have ec := hcv _ rt
        subst ec
        obtain ⟨hget, _⟩ := I.pin (a, oe) (List.mem_append.mpr (.inl List.mem_cons_self))
        obtain ⟨vs, hv⟩ := hf
        have hcl : oe.cls = .ref D := hz.1.trans ecl
        have hdx := hz.2
        have key : ∀ od, PySem.W.InstAt s.heap a oe D od → wpAny (model X.prog X.w) (X.suite a ((a, oe) :: pn)).A (call (.builtin "isinstance") [.ref a, _]) (EP (X.suite a ((a, oe) :: pn)) pins σ Q) (X.suite a ((a, oe) :: pn)).xe s := fun od J =>
          PySem.W.kia_one (PySem.W.kitx_exc C.cl C.hg C.hk C.hs C.ha C.hn C.ht C.hm) I.kIn J e (fun z => nomatch z) fun tk => ⟨.bl b, H, I.kept (t' := tk) fun _ _ z => z, rfl, q⟩
        rcases hd with hd | ⟨dd, fs, hd, ea⟩
        · refine key none ?_
          rw [hd] at hdx
          exact ⟨hget, hcl, by unfold PySem.W.notCls; rw [hv] <;> rfl, by rw [hdx]; trivial⟩
        · have hx : ObjOk X.prog X.w H s.heap dd (.xd fs) := I.hok dd _ ea
          obtain ⟨mA, hns, hr⟩ := hx
          obtain ⟨od, ho, hl⟩ := lookIn_ns hns
          refine key (some od) ?_
          rw [hd] at hdx
          exact ⟨hget, hcl, by unfold PySem.W.notCls; rw [hv] <;> rfl, by rw [hdx]; exact ho⟩
  · exact cr_isK X.K (X := X.suite a ((a, oe) :: pn)) rfl pins s σ H xs us Q I r h
/-- e.f for the caught e -/
def tXfA (K : PySem.W.Frag) (a : Addr) (cls : Value) (d : Option Addr) (f : Str) (te : TE) : TE := fun σ H Q => te σ H fun x H1 => x = .ref a ∧ ∃ (C dd : Addr) (fs : List (Str × V)) (v : V), cls = .ref C ∧ XfC K C ∧ PySem.W.findIn K (.ref C) f = some none ∧ d = some dd ∧ H1 dd = some (.xd fs) ∧ fs.lookup f = some v ∧ Q v H1
theorem pe_xfA {X : Cx} {a : Addr} {oe : Obj} {cls : Value} {d : Option Addr} {pn : List (Addr × Obj)} {e : Expr} {te : TE} {pos : Pos} {n : Str} (K : PySem.W.Frag) (hz : L2.Zc cls d oe) (hf : ∃ vs, oe.data = .fields vs) (he : PE (X.suite a ((a, oe) :: pn)) e te) (ek : X.K = K := by rfl) (hb : attributeBase e n X.env (eval e X.env) = eval e X.env := by rfl) :
    PE (X.suite a ((a, oe) :: pn)) (.Attribute e n pos) (tXfA K a cls d n te) := by
  subst ek
  refine ⟨fun pins s σ H Q I h => ?_⟩
  refine attr_of hb (thn (he.run pins s σ H _ I h) fun u s1 hh => ?_)
  obtain ⟨x, H1, I1, rx, ex, C, dd, fs, v, ec, T, hno, ed, ea, l, q⟩ := hh
  subst ex
  obtain rfl : u = Value.ref a := rx
  subst ec
  subst ed
  obtain ⟨ha, _⟩ := I1.pin (a, oe) (List.mem_append_left _ List.mem_cons_self)
  obtain ⟨vs, hd⟩ := hf
  have hx : ObjOk X.prog X.w H1 s1.heap dd (.xd fs) := I1.hok dd _ ea
  obtain ⟨mA, hns, hr⟩ := hx
  obtain ⟨od, ho, hl⟩ := lookIn_ns hns
  obtain ⟨u, hu, ru⟩ := RelO.some_of (v := v) (o := mA n) (by rw [← l]; exact hr n)
  have J : PySem.W.InstAt s1.heap a oe C (some od) := ⟨ha, hz.1, by unfold PySem.W.notCls; rw [hd] <;> rfl, by rw [hz.2]; exact ho⟩
  exact HandSPX.exc_get I1.kIn J T.ga T.gg T.exC (PySem.W.findObj_own T.hdC hno rfl (by rw [hl, hu])) (handed_of ru) ⟨v, H1, I1.tok _, ru, q⟩
def kXf (K : PySem.W.Frag) (a : Addr) (cls : Value) (d : Option Addr) (f : Str) (x : V) (H1 : Hp) (Q : VK) : Prop := x = .ref a ∧ ∃ (C dd : Addr) (fs : List (Str × V)) (v : V), cls = .ref C ∧ XfC K C ∧ PySem.W.findIn K (.ref C) f = some none ∧ d = some dd ∧ H1 dd = some (.xd fs) ∧ fs.lookup f = some v ∧ Q v H1
theorem g_xf {K : PySem.W.Frag} {a : Addr} {cls : Value} {d : Option Addr} {f : Str} {te : TE} {σ : L2.St} {H : Hp} {Q : VK} (q : te σ H fun x H1 => kXf K a cls d f x H1 Q) : tXfA K a cls d f te σ H Q := q
theorem g_kxf {K : PySem.W.Frag} {a C dd : Addr} {f : Str} {fs : List (Str × V)} {v : V} {H : Hp} {Q : VK} (X : XfC K C) (n : PySem.W.findIn K (.ref C) f = some none) (hd : H dd = some (.xd fs)) (l : fs.lookup f = some v) (q : Q v H) : kXf K a (.ref C) (some dd) f (.ref a) H Q :=
  ⟨rfl, C, dd, fs, v, rfl, X, n, rfl, hd, l, q⟩
theorem g_isX {K : PySem.W.Frag} {a D C dd : Addr} {fs : List (Str × V)} {b : Bool} {H : Hp} {Q : VK} (I : IsC K D) (hd : H dd = some (.xd fs)) (k : PySem.W.kitOne K (.ref D) (.ref C) = some b) (q : Q (.bl b) H) : rIsY K a (.ref D) (some dd) [.ref a, .ref C] H Q :=
  .inl ⟨D, .ref C, .ref C, b, rfl, I, .inr ⟨dd, fs, rfl, hd⟩, rfl, fun u r => r, k, q⟩
theorem g_isXT {K : PySem.W.Frag} {a D dd : Addr} {n : String} {fs : List (Str × V)} {b : Bool} {H : Hp} {Q : VK} (I : IsC K D) (hd : H dd = some (.xd fs)) (k : PySem.W.kitOne K (.ref D) (.type n) = some b) (q : Q (.bl b) H) : rIsY K a (.ref D) (some dd) [.ref a, .ty n] H Q :=
  .inl ⟨D, .ty n, .type n, b, rfl, I, .inr ⟨dd, fs, rfl, hd⟩, rfl, fun u r => r, k, q⟩
theorem exm_own {K : PySem.W.Frag} {C : Addr} {cls : Value} {b : Bool} (h1 : PySem.W.subIn K (.ref C) (.type "BaseException") = some true) (hc : PySem.W.isClsIn K C = true) (ht : PySem.W.typeIn K (.ref C) = some (.type "type")) (h4 : PySem.W.subIn K cls (.ref C) = some b) : PySem.W.exmOne K cls (.ref C) = some b := by
  have hc' : (PySem.W.clsIn K C).isSome = true := hc
  have e1 : (PySem.W.subIn K (.ref C) (.type "BaseException") == some true) = true := by rw [h1] <;> rfl
  have e2 : ((PySem.W.clsIn K C).isSome && PySem.W.typeIn K (.ref C) == some (.type "type")) = true := by rw [hc', ht] <;> rfl
  show (if (PySem.W.subIn K (.ref C) (.type "BaseException") == some true) = true then (if ((PySem.W.clsIn K C).isSome && PySem.W.typeIn K (.ref C) == some (.type "type")) = true then PySem.W.subIn K cls (.ref C) else none) else none) = some b
  rw [if_pos e1, if_pos e2]
  exact h4
theorem kit_own {K : PySem.W.Frag} {D C : Addr} {b : Bool} (hs : PySem.W.subIn K (.ref D) (.ref D) = some true) (h4 : PySem.W.subIn K (.ref D) (.ref C) = some b) (hc : PySem.W.isClsIn K C = true) (ht : PySem.W.typeIn K (.ref C) = some (.type "type")) : PySem.W.kitOne K (.ref D) (.ref C) = some b := by
  have hc' : (PySem.W.clsIn K C).isSome = true := hc
  unfold PySem.W.kitOne
  by_cases e : (Value.ref D == Value.ref C) = true
  · rw [if_pos e]
    have e2 : D = C := Value.ref.inj (beq_iff_eq.mp e)
    subst e2
    rw [hs] at h4
    exact h4
  · rw [if_neg e]
    have e2 : ((PySem.W.clsIn K C).isSome && PySem.W.typeIn K (.ref C) == some (.type "type")) = true := by rw [hc', ht] <;> rfl
    show (if ((PySem.W.clsIn K C).isSome && PySem.W.typeIn K (.ref C) == some (.type "type")) = true then PySem.W.subIn K (.ref D) (.ref C) else none) = some b
    rw [if_pos e2]
    exact h4
theorem kit_ve {K : PySem.W.Frag} {D : Addr} (h : PySem.W.subIn K (.ref D) (.type "ValueError") = some true) : PySem.W.kitOne K (.ref D) (.type "ValueError") = some true := by
  have e : ¬ (Value.ref D == Value.type "ValueError") = true := by
    intro z
    cases (beq_iff_eq.mp z)
  unfold PySem.W.kitOne
  rw [if_neg e]
  show (if PySem.W.kitMeta "ValueError" = true then PySem.W.subIn K (.ref D) (.type "ValueError") else none) = some true
  rw [if_pos (by decide +kernel)]
  exact h
theorem hot_suite {X : Cx} {a : Addr} {oe : Obj} {cls : Value} {d : Option Addr} {pn : List (Addr × Obj)} (hz : L2N.Zn cls d oe) (hf : ∃ vs, oe.data = .fields vs) : L2H.HotC (X.suite a ((a, oe) :: pn)) := by
  obtain ⟨vs, hv⟩ := hf
  exact ⟨(a, oe), ⟨rfl, vs, hv, hz.2.2 vs hv⟩, List.mem_cons_self⟩

/-! ### objects -/
section
variable {X : Cx} {K : PySem.W.Frag} {σ : L2.St} {F : Hp} {O O' : Own} {H : Hp} {Q : VK} {ta te tv : TE} {x y v : V} {D : Ends}
theorem k_fld {ex : Expr} {f : Str} (K : PySem.W.Frag) (h : PE X ex (tFld X.K te f)) (e : X.K = K := by rfl) : PE X ex (tFld K te f) := by subst e; exact h
def kFld (K : PySem.W.Frag) (f : Str) (x : V) (H1 : Hp) (Q : VK) : Prop := ∃ a C dx fs v, x = .ref a ∧ H1 a = some (.ins C dx fs) ∧ Cls K C ∧ NoAttr K C f ∧ fs.lookup f = some v ∧ Q v H1
theorem g_fld {f : Str} (q : te σ H fun x H1 => kFld K f x H1 Q) : tFld K te f σ H Q := q
theorem g_kfld {a C dx : Addr} {fs : List (Str × V)} {f : Str} (h : H a = some (.ins C dx fs)) (c : Cls K C) (n : NoAttr K C f) (l : fs.lookup f = some v) (q : Q v H) : kFld K f (.ref a) H Q := ⟨a, C, dx, fs, v, rfl, h, c, n, l, q⟩
theorem k_sfld {st : Stmt} {f : Str} (K : PySem.W.Frag) (h : PS X st (sFld X.K ta tv f)) (e : X.K = K := by rfl) : PS X st (sFld K ta tv f) := by subst e; exact h
def kSFld (K : PySem.W.Frag) (f : Str) (x y : V) (D : Ends) (σ : L2.St) (H2 : Hp) : Prop := ∃ a C dx fs, x = .ref a ∧ H2 a = some (.ins C dx fs) ∧ Cls K C ∧ NoAttr K C f ∧ fs.length < 1000 ∧ D.nx σ (upd H2 a (.ins C dx (putF f y fs)))
theorem g_sfld {f : Str} (q : tv σ H fun y H1 => ta σ H1 fun x H2 => kSFld K f x y D σ H2) : sFld K ta tv f D σ H := q
theorem g_ksfld {a C dx : Addr} {fs fs' : List (Str × V)} {f : Str} (hH : Has F O H) (c : Chg O a (.ins C dx fs) (.ins C dx fs') O') (e : putF f y fs = fs') (cl : Cls K C) (n : NoAttr K C f) (hl : fs.length < 1000) (q : ∀ H', Has F O' H' → D.nx σ H') : kSFld K f (.ref a) y D σ H := by
  subst e
  exact ⟨a, C, dx, fs, rfl, hH.get c.mem, cl, n, hl, q _ (hH.put c)⟩
/-- o.m(..), what is let out told at the slots -/
def tMethS (C : Addr) (m : Str) (sp : Sp) (E : L2.St → XK) (ta : TE) (t : TA) : TE := fun σ H Q => ta σ H fun x H1 => ∃ a dx fs, x = .ref a ∧ H1 a = some (.ins C dx fs) ∧ fs.lookup m = none ∧ t σ H1 fun vs H2 => sp (x :: vs) H2 Q (E σ)
def kMeth (C : Addr) (m : Str) (sp : Sp) (E : L2.St → XK) (t : TA) (σ : L2.St) (x : V) (H1 : Hp) (Q : VK) : Prop := ∃ a dx fs, x = .ref a ∧ H1 a = some (.ins C dx fs) ∧ fs.lookup m = none ∧ t σ H1 fun vs H2 => sp (x :: vs) H2 Q (E σ)
theorem g_meth {C : Addr} {m : Str} {sp : Sp} {E : L2.St → XK} {t : TA} (q : ta σ H fun x H1 => kMeth C m sp E t σ x H1 Q) : tMethS C m sp E ta t σ H Q := q
theorem g_kmeth {C : Addr} {m : Str} {sp : Sp} {E : L2.St → XK} {t : TA} {a dx : Addr} {fs : List (Str × V)} (h : H a = some (.ins C dx fs)) (l : fs.lookup m = none) (q : t σ H fun vs H2 => sp (.ref a :: vs) H2 Q (E σ)) : kMeth C m sp E t σ (.ref a) H Q := ⟨a, dx, fs, rfl, h, l, q⟩
variable {CX : CXT} {k : Nat} {f C : Addr} {fd : FuncData} {ps : List Str} {sp : Sp} {E : L2.St → XK} {m : Str} {pos apos : Pos} {e o : Expr} {es : List Expr} {t : TA}
theorem pe_methW {pl : Sem Bool} (ho : PE X o ta) (cl : Cls X.K C) (me : Meth X.K C m f) (G : FnOk X.prog X.w X.K X.mg X.base CX k f fd ps sp) (room : Room k X.A) (bd : Binds X.K fd ps []) (pass : ∀ σ, PassesAt CX X σ (E σ)) (args : PA X (e :: es) t)
    (star : starEach (e :: es) X.env = (false, eval e X.env) :: starEach es X.env := by rfl) (plain : (backTo pos (starEach es X.env)).any (·.1) = false := by rfl)
    (tree : eval (.Call (.Attribute o m apos) (e :: es) [] pos) X.env = (do
      let ov ← eval o X.env
      standAt apos.atName
      let (f, first) ← holding [ov] (getMethod ov m pl)
      callWith pos f first (backTo pos (starEach (e :: es) X.env)) (backToKw pos (keywordEach [] X.env))) := by rfl) :
    PE X (.Call (.Attribute o m apos) (e :: es) [] pos) (tMethS C m sp E ta t) := ⟨fun pins s σ H Q I h => by
  refine PySem.W.methodCall_KW (pl := pl) (thn (ho.run pins s σ H _ I h) fun u s1 hu => ?_) tree
  obtain ⟨x, H1, J, rx, a, dx, fs, rfl, there, none_, go⟩ := hu
  cases (show u = Value.ref a from rx)
  refine getmeth_ok J there cl me none_ (PySem.W.callWith_K (first := [.ref a]) (h₀ := X.base) I.ok.mod.kin me.kp (thn (args.run pos pins s1 σ H1 _ J go) fun us s2 hs => ?_) star plain)
  obtain ⟨vs, H2, J2, rel, pr⟩ := hs
  exact ⟨J2.kIn, run_fnS (us := .ref a :: us) (vs := .ref a :: vs) G room bd (pass σ) J2 (.cons rfl rel) pr⟩⟩
theorem pe_methW0 {pl : Sem Bool} (ho : PE X o ta) (cl : Cls X.K C) (me : Meth X.K C m f) (G : FnOk X.prog X.w X.K X.mg X.base CX k f fd ps sp) (room : Room k X.A) (bd : Binds X.K fd ps []) (pass : ∀ σ, PassesAt CX X σ (E σ))
    (tree : eval (.Call (.Attribute o m apos) [] [] pos) X.env = (do
      let ov ← eval o X.env
      standAt apos.atName
      let (f, first) ← holding [ov] (getMethod ov m pl)
      callWith pos f first (backTo pos (starEach [] X.env)) (backToKw pos (keywordEach [] X.env))) := by rfl) :
    PE X (.Call (.Attribute o m apos) [] [] pos) (tMethS C m sp E ta tNil) := ⟨fun pins s σ H Q I h => by
  refine PySem.W.methodCall_KW (pl := pl) (thn (ho.run pins s σ H _ I h) fun u s1 hu => ?_) tree
  obtain ⟨x, H1, J, rx, a, dx, fs, rfl, there, none_, go⟩ := hu
  cases (show u = Value.ref a from rx)
  exact getmeth_ok J there cl me none_ (PySem.W.callWith_K0 (first := [.ref a]) J.kIn me.kp (run_fnS (us := [.ref a]) (vs := [.ref a]) G room bd (pass σ) J (.cons rfl .nil) go))⟩
theorem pass0S {X : Cx} {E : L2.St → XK} : ∀ σ, PassesAt CX0 X σ (E σ) := fun _ _ _ _ _ _ _ h => h.elim
theorem passNS {X : Cx} : ∀ σ, PassesAt (L2N.CX X.prog X.w) X σ ((fun _ => E0) σ) := fun _ _ _ _ _ _ _ h => by
  obtain ⟨_, _, _, _, _, _, _, _, _, _, _, _, z⟩ := h
  exact z.elim
/-- C(..) -/
def kMake (C : Addr) (sp : Sp) (E : XK) (vs : List V) (H1 : Hp) (Q : VK) : Prop := ∀ x dx, H1 x = none → H1 dx = none → dx ≠ x → sp (.ref x :: (vs ++ [])) (upd (upd H1 dx (.own x)) x (.ins C dx [])) (fun v H2 => v = .non ∧ Q (.ref x) H2) E
theorem g_make {E : XK} (q : t σ H fun vs H1 => kMake C sp E vs H1 Q) : tMake C sp [] E t σ H Q := q
theorem g_kmake {E : XK} {vs : List V} (hH : Has F O H) (q : ∀ x dx H', H x = none → Has F ((x, .ins C dx []) :: (dx, .own x) :: O) H' → sp (.ref x :: vs) H' (fun v H2 => v = .non ∧ Q (.ref x) H2) E) : kMake C sp E vs H Q := by
  intro x dx nx nd ne
  rw [List.append_nil]
  refine q x dx _ nx ((hH.new nd).new (by rw [upd_ne (Ne.symm ne)]; exact nx))
/-- del d[k] -/
def kDel (x y : V) (D : Ends) (σ : L2.St) (H2 : Hp) : Prop := ∃ a kvs k, x = .ref a ∧ H2 a = some (.dK kvs) ∧ y = kV k ∧ (valV kvs k).isSome = true ∧ D.nx σ (upd H2 a (.dK (dropK kvs k)))
end
section
variable {X : Cx} {K : PySem.W.Frag} {σ : L2.St} {F : Hp} {O O' : Own} {H : Hp} {Q : VK} {td ty : TE} {D : Ends}
theorem g_del (q : td σ H fun x H1 => ty σ H1 fun y H2 => kDel x y D σ H2) : sDDel td ty D σ H := q
theorem g_kdel {a : Addr} {kvs : List (Key × V)} {z : V} {k : Key} (ez : z = kV k) (hH : Has F O H) (c : Chg O a (.dK kvs) (.dK (dropK kvs k)) O') (i : (valV kvs k).isSome = true) (q : ∀ H', Has F O' H' → D.nx σ H') : kDel (.ref a) z D σ H :=
  ⟨a, kvs, k, rfl, hH.get c.mem, ez, i, q _ (hH.put c)⟩
theorem g_dnewK (hH : Has F O H) (q : ∀ p H', H p = none → Has F ((p, .dK []) :: O) H' → Q (.ref p) H') : tDNewK σ H Q := fun p n => q p _ n (hH.new n)
/-! ### sorted -/
def rSortA (K : PySem.W.Frag) : List V → Hp → VK → Prop := fun vs H Q => (rSorted K vs H Q ∨ rSortedS K vs H Q) ∨
  (∃ (a : Addr) (kvs : List (Key × V)) (ks : List Str), vs = [.ref a] ∧ Rd H a (.dK kvs) ∧ kvs.map (·.1) = ks.map Sum.inr ∧ ks.length < 64 ∧ ∀ ys p, ys.Perm ks → sortedS ys = true → H p = none → Q (.ref p) (upd H p (.lst (ys.map V.str)))) ∨
  (∃ (a : Addr) (kvs : List (Key × V)) (ks : List Int), vs = [.ref a] ∧ Rd H a (.dK kvs) ∧ kvs.map (·.1) = ks.map Sum.inl ∧ ks.length < 64 ∧ ∀ (ys : List Int) (p : Addr), ys.Perm ks → ys.Pairwise (· ≤ ·) → H p = none → Q (.ref p) (upd H p (.lst (ys.map V.int))))
theorem cr_sortA (K : PySem.W.Frag) (hc : X.calm = true) (e : X.K = K := by rfl) : CallR X (.builtin "sorted") (rSortA K) := by
  subst e
  intro pins s σ H xs us Q I r h
  rcases h with (h | h) | h | h
  · exact cr_sorted pins s σ H xs us Q I r h
  · exact cr_sortedS pins s σ H xs us Q I r h
  · exact call_sortedD hc pins s σ H xs us Q I r h
  · exact call_sortedDI hc pins s σ H xs us Q I r h
theorem g_sortI {a : Addr} {ns : List Int} (h : H a = some (.lst (ns.map V.int))) (l : ns.length < 64) (hH : Has F O H) (q : ∀ (ys : List Int) p H', ys.Perm ns → ys.Pairwise (· ≤ ·) → H p = none → Has F ((p, .lst (ys.map V.int)) :: O) H' → Q (.ref p) H') : rSortA K [.ref a] H Q :=
  .inl (.inl ⟨a, ns, rfl, SqL.of h, l, fun ys p e s n => q ys p _ e s n (hH.new n)⟩)
theorem g_sortS {a : Addr} {ns : List Str} (h : H a = some (.lst (ns.map V.str))) (l : ns.length < 64) (hH : Has F O H) (q : ∀ (ys : List Str) p H', ys.Perm ns → sortedS ys = true → H p = none → Has F ((p, .lst (ys.map V.str)) :: O) H' → Q (.ref p) H') : rSortA K [.ref a] H Q :=
  .inl (.inr ⟨a, ns, rfl, SqL.of h, l, fun ys p e s n => q ys p _ e s n (hH.new n)⟩)
theorem g_sortDS {a : Addr} {kvs : List (Key × V)} {ks : List Str} (h : H a = some (.dK kvs)) (e : kvs.map (·.1) = ks.map Sum.inr) (l : ks.length < 64) (hH : Has F O H) (q : ∀ (ys : List Str) p H', ys.Perm ks → sortedS ys = true → H p = none → Has F ((p, .lst (ys.map V.str)) :: O) H' → Q (.ref p) H') : rSortA K [.ref a] H Q :=
  .inr (.inl ⟨a, kvs, ks, rfl, .inl h, e, l, fun ys p e s n => q ys p _ e s n (hH.new n)⟩)
theorem g_sortDI {a : Addr} {kvs : List (Key × V)} {ks : List Int} (h : H a = some (.dK kvs)) (e : kvs.map (·.1) = ks.map Sum.inl) (l : ks.length < 64) (hH : Has F O H) (q : ∀ (ys : List Int) p H', ys.Perm ks → ys.Pairwise (· ≤ ·) → H p = none → Has F ((p, .lst (ys.map V.int)) :: O) H' → Q (.ref p) H') : rSortA K [.ref a] H Q :=
  .inr (.inr ⟨a, kvs, ks, rfl, .inl h, e, l, fun ys p e s n => q ys p _ e s n (hH.new n)⟩)
end
/-! ### what a method changes -/
section
variable {F F1 F' H H' H1 : Hp} {A A' R : Own}
def ButA (A : Own) (H H' : Hp) : Prop := ∀ b u, b ∉ A.map (·.1) → H b = some u → H' b = some u
theorem Has.grownA (h : Has F (A ++ R) H) (hb : ButA A H H') (g : Grow F H F') (hA : Has F' A' H') (ea : ∀ q ∈ A', q.1 ∈ A.map (·.1) ∨ H q.1 = none) : Has F' (A' ++ R) H' := by
  have nd := h.nd
  rw [List.map_append, List.nodup_append] at nd
  refine ⟨hA.same, fun q hq => ?_, ?_⟩
  · rcases List.mem_append.mp hq with hq | hq
    · exact hA.own q hq
    · obtain ⟨f0, h0⟩ := h.own q (List.mem_append_right _ hq)
      refine ⟨by rw [g.2 _ (by rw [h0]; exact fun z => by cases z)]; exact f0, hb _ _ (fun m => ?_) h0⟩
      exact nd.2.2 _ m _ (List.mem_map.mpr ⟨q, hq, rfl⟩) rfl
  · rw [List.map_append, List.nodup_append]
    refine ⟨hA.nd, nd.2.1, fun x hx y hy e => ?_⟩
    obtain ⟨q, hq, rfl⟩ := List.mem_map.mp hx
    obtain ⟨r, hr, rfl⟩ := List.mem_map.mp hy
    rcases ea q hq with m | n
    · exact nd.2.2 _ m _ (List.mem_map.mpr ⟨r, hr, rfl⟩) e
    · rw [e, (h.own r (List.mem_append_right _ hr)).2] at n
      cases n
theorem Grow.refl : Grow F H F := ⟨Same.refl F, fun _ _ => rfl⟩
/-- what stands still: of old what stood still, of new what stands still now -/
def mixF (F H F1 : Hp) : Hp := fun b => match H b with
  | none => F1 b
  | some _ => F b
theorem mix_at {b : Addr} (n : H b = none) : mixF F H F1 b = F1 b := by
  unfold mixF
  rw [n]
theorem mix_old {b : Addr} (n : H b ≠ none) : mixF F H F1 b = F b := by
  unfold mixF
  cases e : H b with
  | none => exact (n e).elim
  | some u => rfl
theorem mix_grow (h : Has F A H) (s : Same (rmO A H) F1) : Grow F H (mixF F H F1) := by
  refine ⟨fun b u e => ?_, fun b n => mix_old n⟩
  rw [mix_old (by rw [h.same _ _ e]; exact fun z => by cases z)]
  exact e
theorem mix_but (h : Has F A H) (s : Same (rmO A H) F1) (h1 : Has F1 A' H1) : ButA A H H1 := fun b u n e => h1.same _ _ (s _ _ (by
  unfold rmO
  rw [if_neg n]
  exact e))
theorem mix_has (h : Has F A H) (s : Same (rmO A H) F1) (h1 : Has F1 A' H1) (ea : ∀ q ∈ A', q.1 ∈ A.map (·.1) ∨ H q.1 = none) : Has (mixF F H F1) A' H1 := by
  refine ⟨fun b u e => ?_, fun q hq => ⟨?_, (h1.own q hq).2⟩, h1.nd⟩
  · cases eh : H b with
    | none =>
      rw [mix_at eh] at e
      exact h1.same _ _ e
    | some o =>
      rw [mix_old (by rw [eh]; exact fun z => by cases z)] at e
      have := h.same _ _ e
      refine mix_but h s h1 b u (fun m => ?_) this
      obtain ⟨q, hq, rfl⟩ := List.mem_map.mp m
      rw [(h.own q hq).1] at e
      cases e
  · rcases ea q hq with m | n
    · obtain ⟨p, hp, e⟩ := List.mem_map.mp m
      have o := h.own p hp
      rw [← e, mix_old (by rw [o.2]; exact fun z => by cases z)]
      exact o.1
    · rw [mix_at n]
      exact (h1.own q hq).1
end
theorem ButA.step {F H H1 H2 : Hp} {A O1 O2 : Own} (hb : ButA A H H1) (h1 : Has F O1 H1) (nw : ∀ x ∈ O1, x.1 ∈ A.map (·.1) ∨ H x.1 = none) (h2 : Has (rmO O1 H1) O2 H2) : ButA A H H2 := fun b u n e => h2.same _ _ (by
  unfold rmO
  rw [if_neg (fun m => ?_)]
  · exact hb b u n e
  · obtain ⟨x, hx, rfl⟩ := List.mem_map.mp m
    rcases nw x hx with m' | z
    · exact n m'
    · rw [e] at z; cases z)
/-- what is new now was new then -/
theorem newp {F F1 H H1 : Hp} {A O1 : Own} {p : Addr} (h : Has F A H) (hb : ButA A H H1) (h1 : Has F1 O1 H1) (ea : ∀ q ∈ A, q.1 ∈ O1.map (·.1)) (n : H1 p = none) : H p = none := by
  cases e : H p with
  | none => rfl
  | some u =>
    by_cases m : p ∈ A.map (·.1)
    · obtain ⟨q, hq, rfl⟩ := List.mem_map.mp m
      obtain ⟨x, hx, ex⟩ := List.mem_map.mp (ea q hq)
      have := (h1.own x hx).2
      rw [ex, n] at this
      cases this
    · rw [hb p u m e] at n
      cases n
end Qk

/-! Qs: sets of keys made of lists; membership of more kinds -/
namespace Qk
open PySem PySem.Spec PyProof.Rows L2
/-! ### set(a list of keys) -/
section
variable {prog : Program} {w : World} {A : Around} {R : Result → Shared → Prop} {I : Addr} {fp wr : List Addr} {G : Array GenState → Array GenState → Prop} {n : Nat} {P : Nat → Value → Prop} {St : Nat → Shared → Prop}
/-- the loop puts in all keys from the i-th on -/
theorem loop_keys (W : WalksS prog w A.in1 I fp wr G n P St) (D : Addr) (hD : D ∉ fp) (ks : List Key) (hn : ks.length = n) (hb : n + 1 < scanBound)
    (hv : ∀ i v, P i v → ∃ k, ks[i]? = some k ∧ (mixKind prog w).is k v = true ∧ v.scannable = true) :
    ∀ (d i m : Nat) (T : Key → Bool) (s : Shared), i + d = n → m ≤ i → St i s → s.heap.SetOf (mixKind prog w) D T m →
      (∀ s' T' m', Moved (D :: wr) G s s' → s'.heap.SetOf (mixKind prog w) D T' m' → m' ≤ n → (∀ k, T' k = (T k || (ks.drop i).any fun j => decide (k = j))) → R (.ok (.ret .none)) s') →
      codeAny (model prog w) A (.builtin "set.update.loop" ⟨[.ref D, .ref I], []⟩) R s
  | 0, i, m, T, s, e, hm, st, hT, q => by
    refine codeAny_builtin F.entry_set_update_loop ?_
    rw [Around.under_plainId F.plain_set_update_loop _]
    show wpAny _ A.in1 (pyNext (.ref I) >>= _) _ _ s
    rw [Nat.add_zero] at e
    subst e
    refine wpAny_bind (W.done s _ _ st fun s1 mv => ?_)
    show wpAny _ A.in1 (ret Value.none) _ _ s1
    obtain ⟨o, es, ep, t, ho, rest⟩ := hT
    refine wpAny_pure (q s1 T m (mv.mono fun b hb => List.mem_cons_of_mem _ hb) ⟨o, es, ep, t, mv.heap D _ (fun z => hD (W.sub _ z)) ho, rest⟩ hm fun k => ?_)
    rw [← hn, List.drop_length]
    simp
  | d + 1, i, m, T, s, e, hm, st, hT, q => by
    refine codeAny_builtin F.entry_set_update_loop ?_
    rw [Around.under_plainId F.plain_set_update_loop _]
    show wpAny _ A.in1 (pyNext (.ref I) >>= _) _ _ s
    have hi : i < n := by omega
    refine wpAny_bind (W.item i s _ _ hi st fun v s1 pv st1 mv => ?_)
    obtain ⟨k, ek, his, hsc⟩ := hv i v pv
    obtain ⟨o, es, ep, t, ho, rest⟩ := hT
    have hT1 : s1.heap.SetOf (mixKind prog w) D T m := ⟨o, es, ep, t, mv.heap D _ (fun z => hD (W.sub _ z)) ho, rest⟩
    show wpAny _ A.in1 (holding [v] (setAdd D v) >>= _) _ _ s1
    refine wpAny_bind (wpAny_holding ?_)
    unfold setAdd
    refine wpAny_holding ?_
    refine wpAny_bind ((mixKind prog w).pyHash his ?_)
    refine wpAny_setAddHashed_of (knd := mixKind prog w) (s := { s1 with toks := s1.toks + 1 }) his hsc hT1 (by omega) fun h2 sb hT2 => ?_
    refine wpAny_pure ⟨plainId_quiet F.plain_set_update_loop _, loop_keys W D hD ks hn hb hv d (i + 1) _ _ _ (by omega) ?_ (W.frame _ s1 _ _ st1 (Nat.le_succ _) fun b hb o e => ?_) hT2 fun s3 T3 m3 mv3 hT3 le eq => ?_⟩
    · split <;> omega
    · rw [sb.2 b (fun z => hD (by rw [← z]; exact hb))]
      exact e
    · refine q s3 T3 m3 (Moved.trans W.gtrans ((mv.mono fun b hb => List.mem_cons_of_mem _ hb).then_heap (Nat.le_succ _) fun b o hb e => ?_) mv3) hT3 le fun k' => ?_
      · rw [sb.2 b (fun z => hb (by rw [z]; exact List.mem_cons_self))]
        exact e
      · rw [eq k']
        have hlt : i < ks.length := by omega
        have ek' : ks[i] = k := by rw [List.getElem?_eq_getElem hlt] at ek; exact Option.some.inj ek
        rw [List.drop_eq_getElem_cons hlt, ek', Bool.or_assoc]
        congr 1
end
section
variable {prog : Program} {w : World} {A : Around} {E : Value → Shared → Prop} {s : Shared}
def newSetObj (led : Bool) : Obj := { cls := .type "set", dict := none, data := .set #[] 0 (.fresh 0 0 led) }
/-- what the filling of the new set leaves -/
def Filled (prog : Program) (w : World) (ks : List Key) (s s2 : Shared) : Prop := ∃ h' tk T m, s2 = { s with heap := h', toks := tk } ∧ h'.SetOf (mixKind prog w) s.heap.objs.size T m ∧ m ≤ ks.length ∧
  (∀ k, T k = ks.any fun j => decide (k = j)) ∧ ∀ b o, b < s.heap.objs.size → s.heap.get? b = some o → h'.get? b = some o
set_option maxHeartbeats 4000000 in
theorem call_set_keys {l : Addr} {items : Array Value} {ks : List Key} {Q : Value → Shared → Prop} (hh : A.handled = none) (hl : s.heap.IsList l items) (hsz : items.size = ks.length)
    (hv : ∀ (i : Nat) (v : Value), items[i]? = some v → ∃ k, ks[i]? = some k ∧ (mixKind prog w).is k v = true ∧ v.scannable = true) (hb : ks.length + 1 < scanBound) (q : ∀ s2, Filled prog w ks s s2 → Q (.ref s.heap.objs.size) s2) :
    wpAny (model prog w) A (call (.type "set") [.ref l]) Q E s := by
  obtain ⟨c, tl, hmro⟩ := PySem.F.called_set.mro
  have hmade := PySem.F.called_set.made
  have hsub := PySem.F.called_set.sub
  have h1 := PySem.F.called_set.notType
  have h2 := PySem.F.called_set.canCreate
  have hct := PySem.F.typeCall_set_1 (.ref l)
  refine wpAny_call (codeAny_of_tree ?_)
  show wpAny _ _ (callAny (.type "set") _) _ _ _
  refine wpAny_pure ⟨Code.quiet_builtin _ (by decide +kernel), codeAny_builtin PySem.F.entry_type_call ?_⟩
  rw [Around.under_plain (weight_type_call_type "set" [.ref l] []) rfl]
  repeat (any_goals (first | assumption | wp_step))
  refine codeAny_mono (code_set_new_1 (.ref l) (E := E) (Q₁ := fun obj s₁ => ∃ led : Bool, obj = .ref s.heap.objs.size ∧ s₁ = { s with heap := s.heap.push (newSetObj led) }) fun led => ⟨led, rfl, rfl⟩) fun r s₁ hr => ?_
  cases r with
  | error e => exact hr
  | ok fl =>
    cases fl with
    | ret obj =>
      obtain ⟨led, rfl, rfl⟩ := hr
      have hS : (s.heap.push (newSetObj led)).get? s.heap.objs.size = some (newSetObj led) := Heap.get?_push_size _ rfl
      have hT : Shared.TypeIs { s with heap := s.heap.push (newSetObj led) } (.ref s.heap.objs.size) "set" := ⟨_, hS, rfl⟩
      have hli := PySem.F.called_set.init.lookup
      have hbi := PySem.F.called_set.init.bind (.ref s.heap.objs.size)
      repeat (any_goals (first | assumption | wp_step))
      refine codeAny_mono (codeAny_call_builtin (R := wants (fun r s₂ => r = .none ∧ Filled prog w ks s s₂) E) PySem.F.called_set.init.plain PySem.F.entry_set_init (check_set_init_1 hT ?_)) fun r₂ s₂ hr₂ => ?_
      · obtain ⟨ol, hol, hcl, nl, hdl⟩ := hl
        obtain ⟨ocls, odict, odata, oslots⟩ := ol
        simp only at hcl hdl
        subst hcl
        subst hdl
        have hol' : (s.heap.push (newSetObj led)).get? l = some { cls := .type "list", dict := odict, data := .seq items nl, slots := oslots } := Heap.get?_push_of_some _ hol
        have hsls := PySem.F.sub_list_set
        have hslf := PySem.F.sub_list_frozenset
        have hne : (Value.type "list" == Value.type "dict") = false := by decide
        have hl1 : (s.heap.push (newSetObj led)).IsList l items := ⟨_, hol', rfl, nl, rfl⟩
        unfold Builtin.«set.__init__» noKeywords Builtin.Frozenset.updateFrom
        generalize hPI : pyIter = PI
        wp_walk
        subst hPI
        refine wpAny_pyIter_list hl1 ?_
        refine wpAny_bind (wpAny_runValue ?_)
        have hlS : l < s.heap.objs.size := Heap.lt_size hol
        have hh3 : A.in1.in1.in1.handled = none := by simp [hh]
        have nI : l ≠ (s.heap.push (newSetObj led)).objs.size := by
          rw [Heap.size_push]
          exact Nat.ne_of_lt (Nat.lt_succ_of_lt hlS)
        have nS : s.heap.objs.size ∉ [(s.heap.push (newSetObj led)).objs.size, l] := by
          rw [Heap.size_push]
          simp only [List.mem_cons, List.not_mem_nil, or_false, not_or]
          exact ⟨Nat.ne_of_lt (Nat.lt_succ_self _), Nat.ne_of_gt hlS⟩
        refine loop_keys ((Walks.list hh3 _ l nI items).toS) s.heap.objs.size nS ks hsz.symm (by rw [hsz]; exact hb) hv items.size 0 0 (fun _ => false) _ (Nat.zero_add _) (Nat.le_refl _)
          ⟨⟨_, Heap.get?_push_size _ rfl, rfl, rfl⟩, hl1.push _⟩ ?hA ?hB
        case hA =>
          have hg : ((s.heap.push (newSetObj led)).push { cls := .type "list_iterator", data := .fields #[.ref l, .int 0 0] }).get? s.heap.objs.size = some (newSetObj led) := Heap.get?_push_of_some _ hS
          exact ⟨_, #[], 0, _, hg, ⟨rfl, rfl, rfl⟩, rfl, (fun e he => by simp at he), (fun k => by simp), (by decide), (by rfl), rfl⟩
        case hB =>
          intro s' T' m' mv hT' le eq
          obtain ⟨h', g', d', tk', os'⟩ := s'
          have eg : g' = s.gens := mv.gens
          have ed : d' = s.drawn := mv.drawn
          have eo : os' = s.os := mv.os
          subst eg
          subst ed
          subst eo
          show wpAny _ _ _ _ _ _
          refine wpAny_pure ?_
          show wpAny _ _ (ret Value.none) _ _ _
          refine wpAny_pure ⟨rfl, h', tk', T', m', rfl, hT', by omega, fun k => by rw [eq k]; rfl, fun b o hb e => ?_⟩
          refine mv.heap b o ?_ (Heap.get?_push_of_some _ (Heap.get?_push_of_some _ e))
          simp only [List.mem_cons, List.not_mem_nil, or_false, not_or]
          exact ⟨Nat.ne_of_lt hb, by rw [Heap.size_push]; exact Nat.ne_of_lt (Nat.lt_succ_of_lt hb)⟩
      · cases r₂ with
        | error e => exact hr₂
        | ok fl₂ =>
          cases fl₂ with
          | ret r =>
            obtain ⟨rfl, hf⟩ := hr₂
            repeat (any_goals (first | assumption | wp_step))
            exact q _ hf
          | _ => exact hr₂.elim
    | _ => exact hr.elim
end
/-- the keys of a list as values -/
theorem keys_vals {P : Program} {w : World} : ∀ {ks : List Key} {us : List Value}, Vals (ks.map kV) us → ∀ (i : Nat) (v : Value), us[i]? = some v → ∃ k, ks[i]? = some k ∧ (mixKind P w).is k v = true ∧ v.scannable = true
  | [], _, .nil, i, v, e => by simp at e
  | k :: ks, _, .cons r t, 0, v, e => by
    simp at e
    subst e
    exact ⟨k, rfl, kV_is r, key_scan r⟩
  | k :: ks, _, .cons r t, i + 1, v, e => by
    simp only [List.getElem?_cons_succ] at e ⊢
    exact keys_vals t i v e
section
variable {X : Cx}
/-- set(a list of texts) -/
def rSetTx (K : PySem.W.Frag) (P : Program) (w : World) : List V → Hp → VK → Prop := fun xs H Q => ∃ (l : Addr) (zs : List Str), xs = [.ref l] ∧ SqL K H l (zs.map V.str) ∧ zs.length < 1000 ∧
  ∀ a n T, H a = none → n ≤ zs.length → (∀ z, T (Sum.inr z) = decide (z ∈ zs)) → Q (.ref a) (upd H a (SetK P w a T n))
theorem cr_setTx (K : PySem.W.Frag) (hc : X.calm = true) (e : X.K = K := by rfl) : CallR X (.type "set") (rSetTx K X.prog X.w) := by
  subst e
  intro pins s σ H xs us Q I r h
  obtain ⟨l, zs, rfl, hl, hf, q⟩ := h
  rw [Vals.ref1 r]
  obtain ⟨its, rv, pl, hz⟩ := I.list hl
  have rv : Vals ((zs.map Sum.inr).map kV) its := by
    rw [List.map_map]
    exact rv
  have hle : its.length = zs.length := by rw [← rv.length, List.length_map, List.length_map]
  have hn : H s.heap.objs.size = none := I.hok.fresh (Nat.le_refl _)
  refine call_set_keys (ks := zs.map Sum.inr) (I.ok.hd hc) pl.isList (by rw [List.size_toArray, hle, List.length_map]) (fun i v e => keys_vals rv i v (by simpa using e)) (by rw [List.length_map]; unfold scanBound; omega) fun s2 F => ?_
  obtain ⟨h', tk, T, m, rfl, hT, hm, eT, k⟩ := F
  rw [List.length_map] at hm
  refine ⟨.ref s.heap.objs.size, upd H s.heap.objs.size (SetK X.prog X.w s.heap.objs.size T m), I.laid (t' := tk) (fun b o e => k b o (Heap.lt_size e) e) (Nat.le_refl _) (setK_new hT), rfl, q _ m T hn hm fun z => ?_⟩
  rw [eT, Bool.eq_iff_iff]
  simp [List.any_eq_true]
end
end Qk

/-! Qt: membership in sets, slices of texts, loops over texts, dict displays, bits -/
namespace Qk
open PySem PySem.Spec PyProof.Rows L2
/-! ### in, not in: also sets -/
def rInM (K : PySem.W.Frag) (P : Program) (w : World) : R2 := fun x y H Q => rInA K x y H Q ∨ rSInK P w false x y H Q
def rNotInM (K : PySem.W.Frag) (P : Program) (w : World) : R2 := fun x y H Q => rNotInA K x y H Q ∨ rSInK P w true x y H Q
section
variable {X : Cx}
theorem op_inM (K : PySem.W.Frag) (P : Program) (w : World) (hu : X.A.units + 64 < cLine) (hu' : X.A.units + 65 < cLine) (e : X.K = K := by rfl) (eP : X.prog = P := by rfl) (ew : X.w = w := by rfl) : OpR X (compareOp .In) (rInM K P w) := by
  subst e
  subst eP
  subst ew
  intro pins s σ H x y v u Q I rx ry h
  rcases h with h | h
  · exact op_inA hu hu' pins s σ H x y v u Q I rx ry h
  · exact or_sinK pins s σ H x y v u Q I rx ry h
theorem op_notinM (K : PySem.W.Frag) (P : Program) (w : World) (hu : X.A.units + 64 < cLine) (hu' : X.A.units + 65 < cLine) (e : X.K = K := by rfl) (eP : X.prog = P := by rfl) (ew : X.w = w := by rfl) : OpR X (compareOp .NotIn) (rNotInM K P w) := by
  subst e
  subst eP
  subst ew
  intro pins s σ H x y v u Q I rx ry h
  rcases h with h | h
  · exact op_notinA hu hu' pins s σ H x y v u Q I rx ry h
  · exact or_snotinK pins s σ H x y v u Q I rx ry h
/-- slices of lists, tuples, texts -/
def rSlM (K : PySem.W.Frag) : V → Option Int → Option Int → Hp → VK → Prop := fun x lo hi H Q => rSlB K x lo hi H Q ∨ rSlS x lo hi H Q
theorem sl_M (K : PySem.W.Frag) (e : X.K = K := by rfl) : SlR X (rSlM K) := by
  subst e
  intro pins s σ H x v vl vu lo hi sl Q I rx hs pl pu h
  rcases h with h | h
  · exact sl_all pins s σ H x v vl vu lo hi sl Q I rx hs pl pu h
  · exact sl_str pins s σ H x v vl vu lo hi sl Q I rx hs pl pu h
end
section
variable {K : PySem.W.Frag} {P : Program} {w : World} {σ : L2.St} {F : Hp} {O O' : Own} {H : Hp} {Q : VK} {x y v : V} {te ta tk tv : TE} {D : Ends} {ts : TS} {g : TG}
theorem g_inM (q : rInA K x y H Q) : rInM K P w x y H Q := .inl q
theorem g_notinM (q : rNotInA K x y H Q) : rNotInM K P w x y H Q := .inl q
theorem g_inK {a : Addr} {T : Key → Bool} {n : Nat} {k : Key} (ek : x = kV k) (h : H a = some (SetK P w a T n)) (q : Q (.bl (T k)) H) : rInM K P w x (.ref a) H Q := .inr ⟨k, a, T, n, ek, rfl, h, q⟩
theorem g_notinK {a : Addr} {T : Key → Bool} {n : Nat} {k : Key} (ek : x = kV k) (h : H a = some (SetK P w a T n)) (q : Q (.bl (!T k)) H) : rNotInM K P w x (.ref a) H Q := .inr ⟨k, a, T, n, ek, rfl, h, q⟩
theorem g_inC {c : Nat} {z : Str} (q : Q (.bl (decide (c ∈ z.cps.toList))) H) : rInA K (.str ⟨#[c]⟩) (.str z) H Q := .inr (.inl ⟨_, _, rfl, rfl, by rw [PySem.StrLaws.found_one z c]; exact q⟩)
theorem g_notinC {c : Nat} {z : Str} (q : Q (.bl (!decide (c ∈ z.cps.toList))) H) : rNotInA K (.str ⟨#[c]⟩) (.str z) H Q := .inr (.inl ⟨_, _, rfl, rfl, by rw [PySem.StrLaws.found_one z c]; exact q⟩)
theorem g_slM {lo hi : Option Int} (q : rSlB K x lo hi H Q) : rSlM K x lo hi H Q := .inl q
theorem g_slZ {z : Str} {lo hi : Option Int} (hl : z.length ≤ sizeLine) (q : Q (.str (cutS z lo hi)) H) : rSlM K (.str z) lo hi H Q := .inr ⟨z, rfl, hl, q⟩
/-! ### loops over a text -/
def kForS (g : TG) (tb : TS) (D : Ends) (σ : L2.St) (x : V) (H : Hp) : Prop := ∃ z, x = .str z ∧ kW (Its z) g tb D σ H
theorem g_forS (q : te σ H fun x H1 => kForS g ts D σ x H1) : tFor (iStr te) g ts D σ H := q
theorem k_forS {z : Str} (Pv : Nat → L2.St → Hp → Prop) (h0 : Pv 0 σ H)
    (hs : ∀ i c σ H, z.cps[i]? = some c → Pv i σ H → g (.str ⟨#[c]⟩) σ H fun σ2 H2 => ts { D with nx := Pv (i + 1), ct := Pv (i + 1), bk := D.nx } σ2 H2) (hd : ∀ σ H, Pv z.length σ H → D.nx σ H) : kForS g ts D σ (.str z) H := by
  refine ⟨z, rfl, fun i m σ H => m = z.length - i ∧ i ≤ z.length ∧ Pv i σ H, ⟨z.length, rfl, Nat.zero_le _, h0⟩, ?_⟩
  rintro i m σ H ⟨rfl, hi, p⟩
  by_cases hlt : i < z.length
  · refine .inr ⟨hlt, Pv (i + 1), fun σ' H' p' => ⟨z.length - (i + 1), by omega, rfl, hlt, p'⟩, fun x H' y => ?_⟩
    obtain ⟨e, c, hc, rfl⟩ := y
    subst e
    exact hs i c σ _ hc p
  · have e : i = z.length := by omega
    subst e
    exact .inl ⟨Nat.le_refl _, hd σ H p⟩
/-! ### {k: v} -/
def kDisp1 (p : Addr) (x y : V) (H : Hp) (Q : VK) : Prop := H p = some (.dK []) ∧ ∃ kvs : List (Key × V), [(x, y)] = kvs.map (fun kv => (kV kv.1, kv.2)) ∧ kvs.length ≤ 15 ∧ Q (.ref p) (upd H p (.dK (mergeK [] kvs)))
theorem g_disp1 (hH : Has F O H) (q : ∀ p H1, H p = none → Has F ((p, .dK []) :: O) H1 → tk σ H1 fun x H2 => tv σ H2 fun y H3 => kDisp1 p x y H3 Q) : tDisp [(tk, tv)] σ H Q := fun p n => q p _ n (hH.new n)
theorem g_kdisp1 {p : Addr} {z : V} {k : Key} (h : Has F ((p, .dK []) :: O) H) (ez : z = kV k) (q : ∀ H', Has F ((p, .dK [(k, y)]) :: O) H' → Q (.ref p) H') : kDisp1 p z y H Q := by
  subst ez
  exact ⟨h.get (List.Mem.head _), [(k, y)], rfl, Nat.succ_le_succ (Nat.zero_le _), q _ (h.put .hd)⟩
/-! ### sum, str, set -/
theorem cr_setTxK {X : Cx} (K : PySem.W.Frag) (P : Program) (w : World) (hc : X.calm = true) (e : X.K = K := by rfl) (eP : X.prog = P := by rfl) (ew : X.w = w := by rfl) : CallR X (.type "set") (rSetTx K P w) := by
  subst e
  subst eP
  subst ew
  exact cr_setTx _ hc
theorem g_sum {a : Addr} {ns : List Int} (h : H a = some (.lst (ns.map V.int))) (q : Q (.int ns.sum) H) : rSum K [.ref a] H Q := ⟨a, ns, rfl, SqL.of h, q⟩
def rStrI : List V → Hp → VK → Prop := fun xs H Q => ∃ i : Int, xs = [.int i] ∧ i.natAbs.log2 < 1920 ∧ Q (.str (toString i)) H
theorem cr_strI {X : Cx} : CallR X (.type "str") rStrI := call_str_int
theorem g_strI {i : Int} (h : i.natAbs.log2 < 1920) (q : Q (.str (toString i)) H) : rStrI [.int i] H Q := ⟨i, rfl, h, q⟩
theorem cr_sumK {X : Cx} (K : PySem.W.Frag) (hc : X.calm = true) (e : X.K = K := by rfl) : CallR X (.builtin "sum") (rSum K) := by subst e; exact cr_sum hc
theorem g_setOf {a : Addr} {zs : List Str} (h : H a = some (.lst (zs.map V.str))) (hl : zs.length < 1000) (hH : Has F O H) (q : ∀ p n T H', H p = none → (∀ z, T (Sum.inr z) = decide (z ∈ zs)) → Has F ((p, SetK P w p T n) :: O) H' → Q (.ref p) H') : rSetTx K P w [.ref a] H Q :=
  ⟨a, zs, rfl, SqL.of h, hl, fun p n T np _ eT => q p n T _ np eT (hH.new np)⟩
/-! ### methods of texts -/
def kM0 (r : V → List V → Hp → VK → Prop) (x : V) (H : Hp) (Q : VK) : Prop := (∃ a, x = .str a) ∧ r x [] H Q
theorem g_m0 {r : V → List V → Hp → VK → Prop} (q : ta σ H fun x H1 => kM0 r x H1 Q) : tM0 r ta σ H Q := q
theorem g_km0 {r : V → List V → Hp → VK → Prop} {z : Str} (q : r (.str z) [] H Q) : kM0 r (.str z) H Q := ⟨⟨z, rfl⟩, q⟩
end
/-! ### ways that meet, the rest of the way out of sight -/
theorem g_joinD {t : TS} {D : Ends} {σ : L2.St} {H : Hp} (M : L2.St → Hp → Prop) (h : ∀ σ' H', M σ' H' → D.nx σ' H') (q : ∀ nx' : L2.St → Hp → Prop, (∀ σ' H', M σ' H' → nx' σ' H') → t { D with nx := nx' } σ H) : t D σ H := q D.nx h
end Qk

/-! Qu: sets of keys that can be gone through: set(list), sorted(set), in -/
namespace Qk
open PySem PySem.Spec PyProof.Rows L2
/-- the entries of a set and their keys -/
structure KE (P : Program) (w : World) (es : Array (Int × Value)) (ks : List Key) : Prop where
  ex : ∃ kes : List (Key × (Int × Value)), (kes.map (·.2)).Perm es.toList ∧ (∀ p ∈ kes, (mixKind P w).is p.1 p.2.2 = true) ∧ kes.map (·.1) = ks
  nd : ks.Nodup
def KR (P : Program) (w : World) (h : Heap) (a : Addr) (T : Key → Bool) (n : Nat) : Prop :=
  ∃ (o : Obj) (es : Array (Int × Value)) (ep : Nat) (t : SetTable) (ks : List Key), h.get? a = some o ∧ o.ExactSet ∧ o.data = .set es ep t ∧ ElemsOf (mixKind P w) es.toList ∧ KE P w es ks ∧ (∀ k, T k = true ↔ k ∈ ks) ∧
    es.size < scanBound ∧ t.fits es.size = true ∧ es.size = n ∧ Ris t.place.toList ∧ (w.params.followText "set-order" = true ∨ t.led = true)
section
variable {P : Program} {w : World} {h h' : Heap} {a : Addr} {T : Key → Bool} {n : Nat}
theorem KE.mem {es : Array (Int × Value)} {ks : List Key} (e : KE P w es ks) (k : Key) : k ∈ ks ↔ ∃ x, x ∈ es.toList ∧ (mixKind P w).is k x.2 = true := by
  obtain ⟨kes, pm, hi, rfl⟩ := e.ex
  rw [List.mem_map]
  constructor
  · rintro ⟨p, hp, rfl⟩
    exact ⟨p.2, pm.mem_iff.mp (List.mem_map.mpr ⟨p, hp, rfl⟩), hi p hp⟩
  · rintro ⟨x, hx, hk⟩
    obtain ⟨p, hp, rfl⟩ := List.mem_map.mp (pm.mem_iff.mpr hx)
    exact ⟨p, hp, (mixKind P w).inj _ _ _ (hi p hp) hk⟩
theorem KE.len {es : Array (Int × Value)} {ks : List Key} (e : KE P w es ks) : ks.length = es.size := by
  obtain ⟨kes, pm, _, rfl⟩ := e.ex
  rw [List.length_map, ← Array.length_toList, ← pm.length_eq, List.length_map]
theorem KR.setOf (r : KR P w h a T n) : h.SetOf (mixKind P w) a T n := by
  obtain ⟨o, es, ep, t, ks, h1, h2, h3, h4, h5, h6, h7, h8, h9, _⟩ := r
  exact ⟨o, es, ep, t, h1, h2, h3, h4, fun k => (h6 k).trans (h5.mem k), h7, h8, h9⟩
theorem KR.at_ (r : KR P w h a T n) (s : ∀ o, h.get? a = some o → h'.get? a = some o) : KR P w h' a T n := by
  obtain ⟨o, es, ep, t, ks, h1, rest⟩ := r
  exact ⟨o, es, ep, t, ks, s _ h1, rest⟩
theorem KR.congr {T' : Key → Bool} (r : KR P w h a T n) (e : ∀ k, T' k = T k) : KR P w h a T' n := by
  have : T' = T := funext e
  rw [this]
  exact r
end
def SetQ (P : Program) (w : World) (a : Addr) (T : Key → Bool) (n : Nat) : HO := HO.ext fun h => KR P w h a T n
theorem setQ_get {X : Cx} {pins : List (Addr × Obj)} {σ : L2.St} {H : Hp} {s : Shared} {a : Addr} {T : Key → Bool} {n : Nat} (I : L2.Inv X pins σ H s) (ha : H a = some (SetQ X.prog X.w a T n)) : KR X.prog X.w s.heap a T n := (I.hok a _ ha).1
theorem setQ_new {P : Program} {w : World} {H : Hp} {h : Heap} {a : Addr} {T : Key → Bool} {n : Nat} (r : KR P w h a T n) : ObjOk P w H h a (SetQ P w a T n) := by
  obtain ⟨o, _, _, _, _, ho, _⟩ := id r
  exact ⟨r, ⟨o, ho⟩, fun h1 h2 r1 s => KR.at_ r1 s⟩
/-! ### one more key -/
section
variable {P : Program} {w : World} {A : Around} {E : Value → Shared → Prop} {s : Shared} {a : Addr}
theorem KE.push {es es1 : Array (Int × Value)} {ks : List Key} (e : KE P w es ks) {k : Key} {x : Value} {hx : Int} (hk : (mixKind P w).is k x = true) (nk : k ∉ ks) (pm : es1.toList.Perm (es.push (hx, x)).toList) : KE P w es1 (ks ++ [k]) := by
  obtain ⟨kes, p0, hi, rfl⟩ := e.ex
  refine ⟨⟨kes ++ [(k, (hx, x))], ?_, ?_, by rw [List.map_append]; rfl⟩, ?_⟩
  · rw [List.map_append]
    refine List.Perm.trans (List.Perm.append_right _ p0) ?_
    rw [Array.toList_push] at pm
    exact pm.symm
  · intro p hp
    rcases List.mem_append.mp hp with hp | hp
    · exact hi p hp
    · rw [List.mem_singleton.mp hp]; exact hk
  · rw [List.nodup_append]
    refine ⟨e.nd, List.nodup_cons.mpr ⟨fun h => (by cases h), List.nodup_nil⟩, fun x hx y hy e => ?_⟩
    rw [List.mem_singleton.mp hy] at e
    exact nk (e ▸ hx)
theorem KE.perm {es es1 : Array (Int × Value)} {ks : List Key} (e : KE P w es ks) (pm : es1.toList.Perm es.toList) : KE P w es1 ks := by
  obtain ⟨kes, p0, hi, ek⟩ := e.ex
  exact ⟨⟨kes, p0.trans pm.symm, hi, ek⟩, e.nd⟩
theorem kr_tail {g : Bool → Sem Unit} (hg : ∀ (b : Bool) (s₁ : Shared) (Q' : Unit → Shared → Prop), Q' () s₁ → wpAny (model P w) A (g b) Q' E s₁) {o : Obj} {es : Array (Int × Value)} {ep : Nat} {t : SetTable}
    (ho : s.heap.get? a = some o) (hx : o.ExactSet) (hd : o.data = .set es ep t) {es1 : Array (Int × Value)} {t2 : SetTable} {T' : Key → Bool} {ks : List Key}
    (he : ElemsOf (mixKind P w) es1.toList) (hk : KE P w es1 ks) (hT : ∀ k, T' k = true ↔ k ∈ ks) (hsz : es1.size < scanBound) (hf : t2.fits es1.size = true) (hr : Ris t2.place.toList) (hl : w.params.followText "set-order" = true ∨ t2.led = true)
    {wasDummy : Bool} {R : Option Bool → Shared → Prop} (q : ∀ h', Heap.SameBut a s.heap h' → KR P w h' a T' es1.size → R (some true) { s with heap := h' }) :
    wpAny (model P w) A (do
      storeSet a es1 t2
      if (!wasDummy && t2.tooFull) = true then do
          g (relayAll t2 es1 (SetTable.grown es1.size)).snd.snd
          storeSet a (relayAll t2 es1 (SetTable.grown es1.size)).fst (relayAll t2 es1 (SetTable.grown es1.size)).snd.fst
          pure (some true)
        else pure (some true)) R E s := by
  refine wpAny_bind (wpAny_storeSet_of ho hd ?_ (fits_of_scanBound hsz))
  have h1 := store_at (es' := es1) (t' := t2) ho hd
  have b1 := Heap.SameBut.update s.heap a (Obj.putSet es1 t2)
  split
  · refine wpAny_bind (hg _ _ _ ?_)
    have pm := relayAll_perm t2 es1 (SetTable.grown es1.size)
    have fit := relayAll_fits t2 es1 (SetTable.grown es1.size)
    have ris := relayAll_ris t2 es1 (SetTable.grown es1.size)
    have led := relayAll_led t2 es1 (SetTable.grown es1.size)
    generalize relayAll t2 es1 (SetTable.grown es1.size) = rl at pm fit ris led
    obtain ⟨es2, t3, gv⟩ := rl
    have es_sz : es2.size = es1.size := by
      have := pm.length_eq
      rwa [Array.length_toList, Array.length_toList] at this
    refine wpAny_bind (wpAny_storeSet_of h1 rfl ?_ (fits_of_scanBound (by show es2.size < _; omega)))
    refine wpAny_pure (q _ (b1.trans (Heap.SameBut.update _ a _)) ?_)
    refine ⟨_, es2, ep + 1 + 1, t3, ks, store_at (es' := es2) (t' := t3) h1 rfl, ⟨hx.1, hx.2.1, hx.2.2⟩, rfl, he.perm pm, hk.perm pm, hT, by omega, fit, es_sz, ris, ?_⟩
    rcases hl with hl | hl
    · exact .inl hl
    · exact .inr (led.trans hl)
  · exact wpAny_pure (q _ b1 ⟨_, es1, ep + 1, t2, ks, h1, ⟨hx.1, hx.2.1, hx.2.2⟩, rfl, he, hk, hT, hsz, hf, rfl, hr, hl⟩)
theorem kr_add {T : Key → Bool} {n : Nat} {k : Key} {x : Value} {Q : Bool → Shared → Prop} (his : (mixKind P w).is k x = true) (hsc : x.scannable = true) (hT : KR P w s.heap a T n) (hn : n + 1 < scanBound)
    (q : ∀ h', Heap.SameBut a s.heap h' → KR P w h' a (fun k' => T k' || decide (k' = k)) (if T k = true then n else n + 1) → Q (!T k) { s with heap := h' }) : wpAny (model P w) A (setAddHashed a x ((mixKind P w).hash k)) Q E s := by
  obtain ⟨o, es, ep, t, ks, ho, hx, hd, he, hk, hT', hsz, hf, hn', hr, hl⟩ := hT
  unfold setAddHashed
  refine wpAny_holding ?_
  rw [setAddHashedIn.eq_def]
  dsimp only
  refine wpAny_bind (wpAny_setState_of ho hd hf ?_)
  dsimp only
  rw [if_pos (byScan_of (knd := mixKind P w) hsc hsz he)]
  refine wpAny_bind ?_
  unfold setAddByScan
  refine wpAny_bind (wpAny_rule ?_)
  refine wpAny_bind (wpAny_setScan_of (knd := mixKind P w) his ho hd hf he ?_)
  cases hfi : List.findIdx? (fun e => (mixKind P w).is k e.2) es.toList with
  | some j =>
    have hk1 : T k = true := by
      rw [hT' k, hk.mem k]
      have h1 := List.findIdx?_eq_some_iff_getElem.mp hfi
      obtain ⟨hj, hp, _⟩ := h1
      exact ⟨_, List.getElem_mem hj, hp⟩
    dsimp only
    refine wpAny_pure ?_
    dsimp only
    refine wpAny_pure ?_
    have q' := q s.heap (Heap.SameBut.refl _ _) ?_
    · rw [hk1] at q'
      exact q'
    · rw [if_pos hk1]
      refine KR.congr ⟨o, es, ep, t, ks, ho, hx, hd, he, hk, hT', hsz, hf, hn', hr, hl⟩ fun k' => ?_
      by_cases e : k' = k
      · rw [e, hk1]; rfl
      · rw [decide_eq_false e, Bool.or_false]
  | none =>
    have hk0 : T k = false := by
      cases e : T k with
      | false => rfl
      | true =>
        obtain ⟨x', hx', hi'⟩ := (hk.mem k).mp ((hT' k).mp e)
        have := List.findIdx?_eq_none_iff.mp hfi x' hx'
        rw [hi'] at this
        cases this
    have nk : k ∉ ks := fun m => by
      have := (hT' k).mpr m
      rw [hk0] at this
      cases this
    dsimp only
    have pm := layNew_perm t es ((mixKind P w).hash k) x
    have fit := layNew_fits t es ((mixKind P w).hash k) x
    have ris := layNew_ris t es ((mixKind P w).hash k) x hr
    have led := layNew_led t es ((mixKind P w).hash k) x
    generalize layNew t es ((mixKind P w).hash k) x = ln at pm fit ris led
    obtain ⟨es1, t1, wd, gv⟩ := ln
    dsimp only at pm fit ris led ⊢
    have sz1 : es1.size = es.size + 1 := by
      have := pm.length_eq
      rwa [Array.length_toList, Array.length_toList, Array.size_push] at this
    have he1 : ElemsOf (mixKind P w) es1.toList := by
      have := he.push his hsc
      rw [← Array.toList_push] at this
      exact this.perm pm
    have hk1 := hk.push his nk pm
    have hT1 : ∀ k', (T k' || decide (k' = k)) = true ↔ k' ∈ ks ++ [k] := fun k' => by
      rw [Bool.or_eq_true, decide_eq_true_eq, hT' k', List.mem_append, List.mem_singleton]
    have hsz1 : es1.size < scanBound := by omega
    have led1 : w.params.followText "set-order" = true ∨ t1.led = true := by
      rcases hl with hl | hl
      · exact .inl hl
      · exact .inr (led.trans hl)
    rw [hk0] at q
    have fin : ∀ h', Heap.SameBut a s.heap h' → KR P w h' a (fun k' => T k' || decide (k' = k)) es1.size → Q true { s with heap := h' } := fun h' b r => q h' b (by rw [sz1, hn'] at r; exact r)
    have tl : ∀ b : Bool, (if b = true then t1 else { t1 with plain := false }).fits es1.size = true ∧ Ris (if b = true then t1 else { t1 with plain := false }).place.toList ∧ (w.params.followText "set-order" = true ∨ (if b = true then t1 else { t1 with plain := false }).led = true) := fun b => by
      cases b
      · exact ⟨SetTable.fits_plain_off fit, ris, led1⟩
      · exact ⟨fit, ris, led1⟩
    refine wpAny_bind ?_
    cases gv <;> (first | refine wpAny_pure ?_ | refine wpAny_rule ?_)
    all_goals
      split
      · rw [hashByValue_scannable _ hsc]
        refine wpAny_bind (wpAny_pure ?_)
        refine kr_tail ?_ ho hx hd he1 hk1 hT1 hsz1 (tl _).1 (tl _).2.1 (tl _).2.2 (fun h' sb r => ?_)
        · intro b s₁ Q' h
          cases b <;> (first | exact wpAny_pure h | exact wpAny_rule h)
        · exact wpAny_pure (fin h' sb r)
      · refine wpAny_bind (wpAny_pure ?_)
        refine kr_tail ?_ ho hx hd he1 hk1 hT1 hsz1 (tl true).1 (tl true).2.1 (tl true).2.2 (fun h' sb r => ?_)
        · intro b s₁ Q' h
          cases b <;> (first | exact wpAny_pure h | exact wpAny_rule h)
        · exact wpAny_pure (fin h' sb r)
end
theorem code_set_led1 {P : Program} {w : World} {A : Around} {E : Value → Shared → Prop} {s : Shared} (a : Value) {Q₁ : Value → Shared → Prop}
    (q : Q₁ (.ref s.heap.objs.size) { s with heap := s.heap.push { cls := .type "set", data := .set #[] 0 (.fresh 0 0 !w.params.followText "set-order") } }) :
    codeAny (model P w) A (.call (.builtin "set.__new__") ⟨[.type "set", a], []⟩) (wants Q₁ E) s := by
  refine codeAny_of_tree ?_
  show wpAny _ _ (_ >>= _) _ _ _
  refine wpAny_bind ?_
  refine wpAny_of_eq (PySem.F.newCall_set_1 a) ?_
  refine wpAny_pure ?_
  refine ⟨plainId_quiet F.plain_set_new _, codeAny_builtin F.entry_set_new ?_⟩
  rw [Around.under_plainId F.plain_set_new _]
  show wpAny _ _ (Builtin.«set.__new__» _) _ _ _
  unfold Builtin.«set.__new__» Builtin.Frozenset.newClass newSet
  dsimp only
  have hs := @PySem.sub_set_self
  repeat (any_goals (first | assumption | wp_step))
  refine wpAny_askSetting ?_
  refine wpAny_pure ?_
  dsimp only
  unfold newObj
  repeat (any_goals (first | assumption | wp_step))

/-! ### set(a list of keys) -/
section
variable {prog : Program} {w : World} {A : Around} {R : Result → Shared → Prop} {I : Addr} {fp wr : List Addr} {G : Array GenState → Array GenState → Prop} {n : Nat} {P : Nat → Value → Prop} {St : Nat → Shared → Prop}
/-- the loop puts in all keys from the i-th on -/
theorem loop_keysQ (W : WalksS prog w A.in1 I fp wr G n P St) (D : Addr) (hD : D ∉ fp) (ks : List Key) (hn : ks.length = n) (hb : n + 1 < scanBound)
    (hv : ∀ i v, P i v → ∃ k, ks[i]? = some k ∧ (mixKind prog w).is k v = true ∧ v.scannable = true) :
    ∀ (d i m : Nat) (T : Key → Bool) (s : Shared), i + d = n → m ≤ i → St i s → KR prog w s.heap D T m →
      (∀ s' T' m', Moved (D :: wr) G s s' → KR prog w s'.heap D T' m' → m' ≤ n → (∀ k, T' k = (T k || (ks.drop i).any fun j => decide (k = j))) → R (.ok (.ret .none)) s') →
      codeAny (model prog w) A (.builtin "set.update.loop" ⟨[.ref D, .ref I], []⟩) R s
  | 0, i, m, T, s, e, hm, st, hT, q => by
    refine codeAny_builtin F.entry_set_update_loop ?_
    rw [Around.under_plainId F.plain_set_update_loop _]
    show wpAny _ A.in1 (pyNext (.ref I) >>= _) _ _ s
    rw [Nat.add_zero] at e
    subst e
    refine wpAny_bind (W.done s _ _ st fun s1 mv => ?_)
    show wpAny _ A.in1 (ret Value.none) _ _ s1
    refine wpAny_pure (q s1 T m (mv.mono fun b hb => List.mem_cons_of_mem _ hb) (hT.at_ fun o ho => mv.heap D _ (fun z => hD (W.sub _ z)) ho) hm fun k => ?_)
    rw [← hn, List.drop_length]
    simp
  | d + 1, i, m, T, s, e, hm, st, hT, q => by
    refine codeAny_builtin F.entry_set_update_loop ?_
    rw [Around.under_plainId F.plain_set_update_loop _]
    show wpAny _ A.in1 (pyNext (.ref I) >>= _) _ _ s
    have hi : i < n := by omega
    refine wpAny_bind (W.item i s _ _ hi st fun v s1 pv st1 mv => ?_)
    obtain ⟨k, ek, his, hsc⟩ := hv i v pv
    have hT1 : KR prog w s1.heap D T m := hT.at_ fun o ho => mv.heap D _ (fun z => hD (W.sub _ z)) ho
    show wpAny _ A.in1 (holding [v] (setAdd D v) >>= _) _ _ s1
    refine wpAny_bind (wpAny_holding ?_)
    unfold setAdd
    refine wpAny_holding ?_
    refine wpAny_bind ((mixKind prog w).pyHash his ?_)
    refine kr_add (s := { s1 with toks := s1.toks + 1 }) his hsc hT1 (by omega) fun h2 sb hT2 => ?_
    refine wpAny_pure ⟨plainId_quiet F.plain_set_update_loop _, loop_keysQ W D hD ks hn hb hv d (i + 1) _ _ _ (by omega) ?_ (W.frame _ s1 _ _ st1 (Nat.le_succ _) fun b hb o e => ?_) hT2 fun s3 T3 m3 mv3 hT3 le eq => ?_⟩
    · split <;> omega
    · rw [sb.2 b (fun z => hD (by rw [← z]; exact hb))]
      exact e
    · refine q s3 T3 m3 (Moved.trans W.gtrans ((mv.mono fun b hb => List.mem_cons_of_mem _ hb).then_heap (Nat.le_succ _) fun b o hb e => ?_) mv3) hT3 le fun k' => ?_
      · rw [sb.2 b (fun z => hb (by rw [z]; exact List.mem_cons_self))]
        exact e
      · rw [eq k']
        have hlt : i < ks.length := by omega
        have ek' : ks[i] = k := by rw [List.getElem?_eq_getElem hlt] at ek; exact Option.some.inj ek
        rw [List.drop_eq_getElem_cons hlt, ek', Bool.or_assoc]
        congr 1
end
section
variable {prog : Program} {w : World} {A : Around} {E : Value → Shared → Prop} {s : Shared}
def newSetQ (w : World) : Obj := { cls := .type "set", dict := none, data := .set #[] 0 (.fresh 0 0 !w.params.followText "set-order") }
/-- what the filling of the new set leaves -/
def FilledQ (prog : Program) (w : World) (ks : List Key) (s s2 : Shared) : Prop := ∃ h' tk T m, s2 = { s with heap := h', toks := tk } ∧ KR prog w h' s.heap.objs.size T m ∧ m ≤ ks.length ∧
  (∀ k, T k = ks.any fun j => decide (k = j)) ∧ ∀ b o, b < s.heap.objs.size → s.heap.get? b = some o → h'.get? b = some o
set_option maxHeartbeats 4000000 in
theorem call_set_keysQ {l : Addr} {items : Array Value} {ks : List Key} {Q : Value → Shared → Prop} (hh : A.handled = none) (hl : s.heap.IsList l items) (hsz : items.size = ks.length)
    (hv : ∀ (i : Nat) (v : Value), items[i]? = some v → ∃ k, ks[i]? = some k ∧ (mixKind prog w).is k v = true ∧ v.scannable = true) (hb : ks.length + 1 < scanBound) (q : ∀ s2, FilledQ prog w ks s s2 → Q (.ref s.heap.objs.size) s2) :
    wpAny (model prog w) A (call (.type "set") [.ref l]) Q E s := by
  obtain ⟨c, tl, hmro⟩ := PySem.F.called_set.mro
  have hmade := PySem.F.called_set.made
  have hsub := PySem.F.called_set.sub
  have h1 := PySem.F.called_set.notType
  have h2 := PySem.F.called_set.canCreate
  have hct := PySem.F.typeCall_set_1 (.ref l)
  refine wpAny_call (codeAny_of_tree ?_)
  show wpAny _ _ (callAny (.type "set") _) _ _ _
  refine wpAny_pure ⟨Code.quiet_builtin _ (by decide +kernel), codeAny_builtin PySem.F.entry_type_call ?_⟩
  rw [Around.under_plain (weight_type_call_type "set" [.ref l] []) rfl]
  repeat (any_goals (first | assumption | wp_step))
  refine codeAny_mono (code_set_led1 (.ref l) (E := E) (Q₁ := fun obj s₁ => obj = .ref s.heap.objs.size ∧ s₁ = { s with heap := s.heap.push (newSetQ w) }) ⟨rfl, rfl⟩) fun r s₁ hr => ?_
  cases r with
  | error e => exact hr
  | ok fl =>
    cases fl with
    | ret obj =>
      obtain ⟨rfl, rfl⟩ := hr
      have hS : (s.heap.push (newSetQ w)).get? s.heap.objs.size = some (newSetQ w) := Heap.get?_push_size _ rfl
      have hT : Shared.TypeIs { s with heap := s.heap.push (newSetQ w) } (.ref s.heap.objs.size) "set" := ⟨_, hS, rfl⟩
      have hli := PySem.F.called_set.init.lookup
      have hbi := PySem.F.called_set.init.bind (.ref s.heap.objs.size)
      repeat (any_goals (first | assumption | wp_step))
      refine codeAny_mono (codeAny_call_builtin (R := wants (fun r s₂ => r = .none ∧ FilledQ prog w ks s s₂) E) PySem.F.called_set.init.plain PySem.F.entry_set_init (check_set_init_1 hT ?_)) fun r₂ s₂ hr₂ => ?_
      · obtain ⟨ol, hol, hcl, nl, hdl⟩ := hl
        obtain ⟨ocls, odict, odata, oslots⟩ := ol
        simp only at hcl hdl
        subst hcl
        subst hdl
        have hol' : (s.heap.push (newSetQ w)).get? l = some { cls := .type "list", dict := odict, data := .seq items nl, slots := oslots } := Heap.get?_push_of_some _ hol
        have hsls := PySem.F.sub_list_set
        have hslf := PySem.F.sub_list_frozenset
        have hne : (Value.type "list" == Value.type "dict") = false := by decide
        have hl1 : (s.heap.push (newSetQ w)).IsList l items := ⟨_, hol', rfl, nl, rfl⟩
        unfold Builtin.«set.__init__» noKeywords Builtin.Frozenset.updateFrom
        generalize hPI : pyIter = PI
        wp_walk
        subst hPI
        refine wpAny_pyIter_list hl1 ?_
        refine wpAny_bind (wpAny_runValue ?_)
        have hlS : l < s.heap.objs.size := Heap.lt_size hol
        have hh3 : A.in1.in1.in1.handled = none := by simp [hh]
        have nI : l ≠ (s.heap.push (newSetQ w)).objs.size := by
          rw [Heap.size_push]
          exact Nat.ne_of_lt (Nat.lt_succ_of_lt hlS)
        have nS : s.heap.objs.size ∉ [(s.heap.push (newSetQ w)).objs.size, l] := by
          rw [Heap.size_push]
          simp only [List.mem_cons, List.not_mem_nil, or_false, not_or]
          exact ⟨Nat.ne_of_lt (Nat.lt_succ_self _), Nat.ne_of_gt hlS⟩
        refine loop_keysQ ((Walks.list hh3 _ l nI items).toS) s.heap.objs.size nS ks hsz.symm (by rw [hsz]; exact hb) hv items.size 0 0 (fun _ => false) _ (Nat.zero_add _) (Nat.le_refl _)
          ⟨⟨_, Heap.get?_push_size _ rfl, rfl, rfl⟩, hl1.push _⟩ ?hA ?hB
        case hA =>
          have hg : ((s.heap.push (newSetQ w)).push { cls := .type "list_iterator", data := .fields #[.ref l, .int 0 0] }).get? s.heap.objs.size = some (newSetQ w) := Heap.get?_push_of_some _ hS
          refine ⟨_, #[], 0, _, [], hg, ⟨rfl, rfl, rfl⟩, rfl, (fun e he => by simp at he), ⟨⟨[], List.Perm.refl _, (fun p h => by cases h), rfl⟩, List.nodup_nil⟩, (fun k => by simp), (by decide), (by rfl), rfl, List.Pairwise.nil, ?_⟩
          show _ ∨ (!w.params.followText "set-order") = true
          cases w.params.followText "set-order" <;> simp
        case hB =>
          intro s' T' m' mv hT' le eq
          obtain ⟨h', g', d', tk', os'⟩ := s'
          have eg : g' = s.gens := mv.gens
          have ed : d' = s.drawn := mv.drawn
          have eo : os' = s.os := mv.os
          subst eg
          subst ed
          subst eo
          show wpAny _ _ _ _ _ _
          refine wpAny_pure ?_
          show wpAny _ _ (ret Value.none) _ _ _
          refine wpAny_pure ⟨rfl, h', tk', T', m', rfl, hT', by omega, fun k => by rw [eq k]; rfl, fun b o hb e => ?_⟩
          refine mv.heap b o ?_ (Heap.get?_push_of_some _ (Heap.get?_push_of_some _ e))
          simp only [List.mem_cons, List.not_mem_nil, or_false, not_or]
          exact ⟨Nat.ne_of_lt hb, by rw [Heap.size_push]; exact Nat.ne_of_lt (Nat.lt_succ_of_lt hb)⟩
      · cases r₂ with
        | error e => exact hr₂
        | ok fl₂ =>
          cases fl₂ with
          | ret r =>
            obtain ⟨rfl, hf⟩ := hr₂
            repeat (any_goals (first | assumption | wp_step))
            exact q _ hf
          | _ => exact hr₂.elim
    | _ => exact hr.elim
end
section
variable {X : Cx}
/-- set(a list of texts), to be gone through -/
def rSetTQ (K : PySem.W.Frag) (P : Program) (w : World) : List V → Hp → VK → Prop := fun xs H Q => ∃ (l : Addr) (zs : List Str), xs = [.ref l] ∧ SqL K H l (zs.map V.str) ∧ zs.length < 1000 ∧
  ∀ a n T, H a = none → n ≤ zs.length → (∀ k, T k = true ↔ ∃ z, k = Sum.inr z ∧ z ∈ zs) → Q (.ref a) (upd H a (SetQ P w a T n))
theorem cr_setTQ (K : PySem.W.Frag) (P : Program) (w : World) (hc : X.calm = true) (e : X.K = K := by rfl) (eP : X.prog = P := by rfl) (ew : X.w = w := by rfl) : CallR X (.type "set") (rSetTQ K P w) := by
  subst e
  subst eP
  subst ew
  intro pins s σ H xs us Q I r h
  obtain ⟨l, zs, rfl, hl, hf, q⟩ := h
  rw [Vals.ref1 r]
  obtain ⟨its, rv, pl, hz⟩ := I.list hl
  have rv : Vals ((zs.map Sum.inr).map kV) its := by
    rw [List.map_map]
    exact rv
  have hle : its.length = zs.length := by rw [← rv.length, List.length_map, List.length_map]
  have hn : H s.heap.objs.size = none := I.hok.fresh (Nat.le_refl _)
  refine call_set_keysQ (ks := zs.map Sum.inr) (I.ok.hd hc) pl.isList (by rw [List.size_toArray, hle, List.length_map]) (fun i v e => keys_vals rv i v (by simpa using e)) (by rw [List.length_map]; unfold scanBound; omega) fun s2 F => ?_
  obtain ⟨h', tk, T, m, rfl, hT, hm, eT, k⟩ := F
  rw [List.length_map] at hm
  refine ⟨.ref s.heap.objs.size, upd H s.heap.objs.size (SetQ X.prog X.w s.heap.objs.size T m), I.laid (t' := tk) (fun b o e => k b o (Heap.lt_size e) e) (Nat.le_refl _) (setQ_new hT), rfl, q _ m T hn hm fun z => ?_⟩
  rw [eT, List.any_eq_true]
  constructor
  · rintro ⟨x, hx, e⟩
    obtain ⟨z', hz', rfl⟩ := List.mem_map.mp hx
    exact ⟨z', of_decide_eq_true e, hz'⟩
  · rintro ⟨z', rfl, hz'⟩
    exact ⟨_, List.mem_map.mpr ⟨z', hz', rfl⟩, decide_eq_true rfl⟩
end
end Qk

/-! Qv: sorted(a set of texts), in, not in -/
namespace Qk
open PySem PySem.Spec PyProof.Rows L2
section
variable {P : Program} {w : World} {A : Around} {E : Value → Shared → Prop} {s : Shared} {a : Addr} {T : Key → Bool} {n : Nat} {Q : Value → Shared → Prop}
theorem strs_of : ∀ (l : List Value) (zs : List Str), l.length = zs.length → (∀ i (h : i < l.length) (h' : i < zs.length), ∃ tk, l[i] = .str zs[i] tk) → StrsAre l zs
  | [], [], _, _ => .nil
  | [], _ :: _, e, _ => by cases e
  | _ :: _, [], e, _ => by cases e
  | v :: l, z :: zs, e, h => by
    obtain ⟨tk, hv⟩ := h 0 (Nat.zero_lt_succ _) (Nat.zero_lt_succ _)
    have hv : v = .str z tk := hv
    subst hv
    exact .cons z tk (strs_of l zs (by simpa using e) fun i h1 h2 => h (i + 1) (Nat.succ_lt_succ h1) (Nat.succ_lt_succ h2))
/-- values whose keys are all texts -/
theorem strs_ex : ∀ (l : List Value), (∀ v ∈ l, ∃ z tk, v = .str z tk) → ∃ zs, StrsAre l zs
  | [], _ => ⟨[], .nil⟩
  | v :: l, h => by
    obtain ⟨z, tk, rfl⟩ := h v List.mem_cons_self
    obtain ⟨zs, hz⟩ := strs_ex l fun u hu => h u (List.mem_cons_of_mem _ hu)
    exact ⟨z :: zs, .cons z tk hz⟩
theorem strs_len {l : List Value} {zs : List Str} (h : StrsAre l zs) : zs.length = l.length := by
  induction h with
  | nil => rfl
  | cons y t r ih => simp [ih]
theorem is_text {z : Str} {v : Value} (h : (mixKind P w).is (Sum.inr z) v = true) : ∃ tk, v = .str z tk := by
  have h : keyIs (Sum.inr z) v = true := h
  have h : v.isStrOf z = true := h
  cases v <;> simp [Value.isStrOf] at h ⊢
  exact h
/-- the texts of values, found by their keys -/
theorem strs_keys : ∀ (l : List (Key × (Int × Value))), (∀ p ∈ l, (mixKind P w).is p.1 p.2.2 = true) → (∀ p ∈ l, ∃ z, p.1 = Sum.inr z) → ∃ zs, StrsAre (l.map (·.2.2)) zs ∧ l.map (·.1) = zs.map Sum.inr
  | [], _, _ => ⟨[], .nil, rfl⟩
  | p :: l, h1, h2 => by
    obtain ⟨z, ez⟩ := h2 p List.mem_cons_self
    have hi := h1 p List.mem_cons_self
    rw [ez] at hi
    obtain ⟨tk, ev⟩ := is_text hi
    obtain ⟨zs, hz, e⟩ := strs_keys l (fun q hq => h1 q (List.mem_cons_of_mem _ hq)) fun q hq => h2 q (List.mem_cons_of_mem _ hq)
    refine ⟨z :: zs, ?_, ?_⟩
    · rw [List.map_cons, ev]
      exact .cons z tk hz
    · rw [List.map_cons, ez, e]
      rfl
theorem StrsAre.perm {l l' : List Value} (pm : l.Perm l') : ∀ {zs : List Str}, StrsAre l zs → ∃ zs', StrsAre l' zs' ∧ zs.Perm zs' := by
  induction pm with
  | nil => intro zs h; exact ⟨zs, h, List.Perm.refl _⟩
  | cons x _ ih =>
    intro zs h
    cases h with
    | cons y t r =>
      obtain ⟨zs', h', p⟩ := ih r
      exact ⟨y :: zs', .cons y t h', p.cons y⟩
  | swap x y l =>
    intro zs h
    cases h with
    | cons a t r =>
      cases r with
      | cons b t' r => exact ⟨_, .cons b t' (.cons a t r), List.Perm.swap _ _ _⟩
  | trans _ _ ih1 ih2 =>
    intro zs h
    obtain ⟨z1, h1, p1⟩ := ih1 h
    obtain ⟨z2, h2, p2⟩ := ih2 h1
    exact ⟨z2, h2, p1.trans p2⟩
theorem sorted_setQ (R : KR P w s.heap a T n) (hh : A.handled = none) (hn : n < 64) (ht : ∀ k, T k = true → ∃ z, k = Sum.inr z)
    (q : ∀ (s' : Shared) (p : Nat) (out : Array Value) (c : Nat) (zs : List Str), (∀ (b : Addr) (o : Obj), s.heap.get? b = some o → s'.heap.get? b = some o) → s'.gens = s.gens → s'.os = s.os → s.heap.objs.size ≤ p →
      s'.heap.get? p = some (seqObj "list" out c) → StrsAre out.toList zs → sortedS zs = true → zs.Nodup → (∀ z, z ∈ zs ↔ T (Sum.inr z) = true) → zs.length = n → Q (.ref p) s') :
    wpAny (model P w) A (call (.builtin "sorted") [.ref a]) Q E s := by
  obtain ⟨o, es, ep, t, ks, ho, hx, hd, he, hk, hT, hsz, hf, hn', hr, hl⟩ := R
  obtain ⟨kes, pm, hi, ek⟩ := hk.ex
  refine Calls.call_function_entry kind_sorted plain_sorted entry_sorted (args_sorted1 _) ?_
  unfold Builtin.sorted
  refine wpAny_bind (wpAny_pure ?_)
  refine wpAny_bind (collect_set (by simpa using hh) ⟨o, ho, hx.1, hd⟩ hf hsz hr hl fun s1 out k1 z1 g1 o1 p1 => ?_)
  have hall : ∀ p ∈ kes, ∃ z, p.1 = Sum.inr z := fun p hp => ht _ ((hT _).mpr (by rw [← ek]; exact List.mem_map.mpr ⟨p, hp, rfl⟩))
  obtain ⟨zs, hz, ez⟩ := strs_keys kes hi hall
  have pv : (kes.map (·.2.2)).Perm out := by
    have := pm.map (·.2)
    rw [List.map_map] at this
    exact this.trans p1.symm
  obtain ⟨zs', hz', pz⟩ := StrsAre.perm pv hz
  have lo : out.length = n := by rw [p1.length_eq, List.length_map, Array.length_toList, hn']
  refine wpAny_bind (wpAny_newList ?_ (by rw [lo, sizeLine_eq]; omega))
  refine wpAny_bind (wpAny_holding ?_)
  have hp : (s1.heap.push { cls := Value.type "list", data := Data.seq out.toArray }).get? s1.heap.objs.size = some (seqObj "list" out.toArray 0) := Heap.get?_push_size _ rfl
  refine wpAny_call_entry slot_list_sort ⟨_, hp, rfl⟩ entry_list_sort ?_ (args_list_sort _)
  refine list_sort_treeK strKind_oneLt hp hz'.keysOf (fun v1 v2 rest e => by subst e; exact keyKind_strs hz') (by omega) fun st' pa so => ?_
  obtain ⟨ss, h1, h2, h3⟩ := sorted_out_str hz' pa so
  refine ⟨.none, rfl, ?_⟩
  refine wpAny_pure ⟨_, rfl, ?_⟩
  obtain ⟨c, hc⟩ := sortedHeap_at (out := Array.map (fun x => x.snd) (arrOf st')) hp
  have nds : ss.Nodup := by
    have nz : zs.Nodup := by
      have := hk.nd
      rw [← ek, ez] at this
      exact (List.pairwise_map.mp this).imp fun h e => h (by rw [e])
    exact (h2.trans pz.symm).nodup_iff.mpr nz
  refine q _ s1.heap.objs.size _ c ss (fun b u e => ?_) g1 o1 z1 hc h1 h3 nds (fun z => ?_) ?_
  · have e1 := k1 b u e
    have l1 := Heap.lt_size e1
    have e2 := sortedHeap_old (h := s1.heap.push { cls := Value.type "list", data := Data.seq out.toArray }) (vs := out) (out := Array.map (fun x => x.snd) (arrOf st')) (Nat.ne_of_lt l1) (by rw [size_push']; exact Nat.lt_succ_of_lt l1)
    exact e2.trans (Heap.get?_push_of_some _ e1)
  · rw [h2.mem_iff, ← pz.mem_iff, hT, ← ek, ez, List.mem_map]
    constructor
    · intro h
      exact ⟨z, h, rfl⟩
    · rintro ⟨z', h, e⟩
      injection e with e
      rw [← e]
      exact h
  · rw [h2.length_eq, strs_len hz', lo]
end
/-! ### the rules -/
def rSortQ (P : Program) (w : World) : List V → Hp → VK → Prop := fun xs H Q => ∃ (a : Addr) (T : Key → Bool) (n : Nat), xs = [.ref a] ∧ H a = some (SetQ P w a T n) ∧ n < 64 ∧ (∀ k, T k = true → ∃ z, k = Sum.inr z) ∧
  ∀ (zs : List Str) (p : Addr), sortedS zs = true → zs.Nodup → (∀ z, z ∈ zs ↔ T (Sum.inr z) = true) → zs.length = n → H p = none → Q (.ref p) (upd H p (.lst (zs.map V.str)))
section
variable {X : Cx}
theorem cr_sortQ (P : Program) (w : World) (hc : X.calm = true) (eP : X.prog = P := by rfl) (ew : X.w = w := by rfl) : CallR X (.builtin "sorted") (rSortQ P w) := by
  subst eP
  subst ew
  intro pins s σ H xs us Q I r h
  obtain ⟨a, T, n, rfl, ha, hn, ht, q⟩ := h
  rw [Vals.ref1 r]
  refine sorted_setQ (setQ_get I ha) (I.ok.hd hc) hn ht fun s' p out c zs k g o hp hg hi hs nd hm hl => ?_
  have hl' : (zs.map V.str).length ≤ sizeLine := by rw [List.length_map, hl, sizeLine_eq]; omega
  have hn : H p = none := I.hok.fresh hp
  obtain ⟨heap, gens, drawn, toks, os⟩ := s'
  have g : gens = s.gens := g
  have o : os = s.os := o
  subst g
  subst o
  have hob : ObjOk X.prog X.w (upd H p (.lst (zs.map V.str))) heap p (.lst (zs.map V.str)) := ⟨hl', out.toList, c, vals_of_strs hi, hg⟩
  have J := I.call (ch := []) (d' := drawn) (t' := toks) (g' := s.gens) (Un.laid k hp hn) (HOk.laid I.hok k hp hob) I.bare (fun x z => (by cases z))
  exact ⟨.ref p, upd H p (.lst (zs.map V.str)), J, rfl, q zs p hs nd hm hl hn⟩
def rInQ (P : Program) (w : World) (neg : Bool) : R2 := fun x y H Q => ∃ (k : Key) (a : Addr) (T : Key → Bool) (n : Nat), x = kV k ∧ y = .ref a ∧ H a = some (SetQ P w a T n) ∧ Q (.bl (if neg = true then !T k else T k)) H
theorem or_inQ : OpR X (compareOp .In) (rInQ X.prog X.w false) := by
  intro pins s σ H x y v u Q I rx ry h
  obtain ⟨k, a, T, n, rfl, rfl, ha, q⟩ := h
  have eu : u = .ref a := ry
  subst eu
  refine wpAny_inSet_of (knd := mixKind X.prog X.w) (kV_is rx) (key_scan rx) (setQ_get I ha).setOf ?_
  exact ⟨.bl (T k), H, I.tok _, rfl, q⟩
theorem or_notinQ : OpR X (compareOp .NotIn) (rInQ X.prog X.w true) := by
  intro pins s σ H x y v u Q I rx ry h
  obtain ⟨k, a, T, n, rfl, rfl, ha, q⟩ := h
  have eu : u = .ref a := ry
  subst eu
  refine wpAny_notInSet_of (knd := mixKind X.prog X.w) (kV_is rx) (key_scan rx) (setQ_get I ha).setOf ?_
  exact ⟨.bl (!T k), H, I.tok _, rfl, q⟩
end
/-! ### in, not in: lists, texts, sets of both kinds -/
def rInN (K : PySem.W.Frag) (P : Program) (w : World) : R2 := fun x y H Q => rInM K P w x y H Q ∨ rInQ P w false x y H Q
def rNotInN (K : PySem.W.Frag) (P : Program) (w : World) : R2 := fun x y H Q => rNotInM K P w x y H Q ∨ rInQ P w true x y H Q
def rSortN (K : PySem.W.Frag) (P : Program) (w : World) : List V → Hp → VK → Prop := fun xs H Q => rSortA K xs H Q ∨ rSortQ P w xs H Q
section
variable {X : Cx}
theorem op_inN (K : PySem.W.Frag) (P : Program) (w : World) (hu : X.A.units + 64 < cLine) (hu' : X.A.units + 65 < cLine) (e : X.K = K := by rfl) (eP : X.prog = P := by rfl) (ew : X.w = w := by rfl) : OpR X (compareOp .In) (rInN K P w) := by
  subst e
  subst eP
  subst ew
  intro pins s σ H x y v u Q I rx ry h
  rcases h with h | h
  · exact op_inM _ _ _ hu hu' rfl rfl rfl pins s σ H x y v u Q I rx ry h
  · exact or_inQ pins s σ H x y v u Q I rx ry h
theorem op_notinN (K : PySem.W.Frag) (P : Program) (w : World) (hu : X.A.units + 64 < cLine) (hu' : X.A.units + 65 < cLine) (e : X.K = K := by rfl) (eP : X.prog = P := by rfl) (ew : X.w = w := by rfl) : OpR X (compareOp .NotIn) (rNotInN K P w) := by
  subst e
  subst eP
  subst ew
  intro pins s σ H x y v u Q I rx ry h
  rcases h with h | h
  · exact op_notinM _ _ _ hu hu' rfl rfl rfl pins s σ H x y v u Q I rx ry h
  · exact or_notinQ pins s σ H x y v u Q I rx ry h
theorem cr_sortN (K : PySem.W.Frag) (P : Program) (w : World) (hc : X.calm = true) (c : CallR X (.builtin "sorted") (rSortA K)) (eP : X.prog = P := by rfl) (ew : X.w = w := by rfl) : CallR X (.builtin "sorted") (rSortN K P w) := by
  intro pins s σ H xs us Q I r h
  rcases h with h | h
  · exact c pins s σ H xs us Q I r h
  · exact cr_sortQ P w hc eP ew pins s σ H xs us Q I r h
end
section
variable {K : PySem.W.Frag} {P : Program} {w : World} {F : Hp} {O O' : Own} {H : Hp} {Q : VK} {x y v : V}
theorem g_inNM (q : rInM K P w x y H Q) : rInN K P w x y H Q := .inl q
theorem g_notinNM (q : rNotInM K P w x y H Q) : rNotInN K P w x y H Q := .inl q
theorem g_inNQ {a : Addr} {T : Key → Bool} {n : Nat} {k : Key} (ek : x = kV k) (h : H a = some (SetQ P w a T n)) (q : Q (.bl (T k)) H) : rInN K P w x (.ref a) H Q := .inr ⟨k, a, T, n, ek, rfl, h, q⟩
theorem g_notinNQ {a : Addr} {T : Key → Bool} {n : Nat} {k : Key} (ek : x = kV k) (h : H a = some (SetQ P w a T n)) (q : Q (.bl (!T k)) H) : rNotInN K P w x (.ref a) H Q := .inr ⟨k, a, T, n, ek, rfl, h, q⟩
theorem g_sortNA {xs : List V} (q : rSortA K xs H Q) : rSortN K P w xs H Q := .inl q
theorem g_sortNQ {a : Addr} {T : Key → Bool} {n : Nat} (h : H a = some (SetQ P w a T n)) (hn : n < 64) (ht : ∀ k, T k = true → ∃ z, k = Sum.inr z) (hH : Has F O H)
    (q : ∀ (zs : List Str) p H', sortedS zs = true → zs.Nodup → (∀ z, z ∈ zs ↔ T (Sum.inr z) = true) → zs.length = n → H p = none → Has F ((p, .lst (zs.map V.str)) :: O) H' → Q (.ref p) H') : rSortN K P w [.ref a] H Q :=
  .inr ⟨a, T, n, rfl, h, hn, ht, fun zs p s nd m l np => q zs p _ s nd m l np (hH.new np)⟩
theorem g_setOfQ {a : Addr} {zs : List Str} (h : H a = some (.lst (zs.map V.str))) (hl : zs.length < 1000) (hH : Has F O H) (q : ∀ p n T H', H p = none → n ≤ zs.length → (∀ k, T k = true ↔ ∃ z, k = Sum.inr z ∧ z ∈ zs) → Has F ((p, SetQ P w p T n) :: O) H' → Q (.ref p) H') : rSetTQ K P w [.ref a] H Q :=
  ⟨a, zs, rfl, SqL.of h, hl, fun p n T np le eT => q p n T _ np le eT (hH.new np)⟩
end
/-! ### min of two numbers -/
def rMin2 : List V → Hp → VK → Prop := fun xs H Q => ∃ i j, xs = [.int i, .int j] ∧ Q (.int (if j < i then j else i)) H
theorem cr_min2 {X : Cx} (hc : X.calm = true) : CallR X (.builtin "min") rMin2 := call_min2 hc
theorem g_min2 {i j : Int} {H : Hp} {Q : VK} (q : Q (.int (min i j)) H) : rMin2 [.int i, .int j] H Q := ⟨i, j, rfl, by
  have e : (if j < i then j else i) = min i j := by split <;> omega
  rw [e]
  exact q⟩
/-! ### any, all of a list of truth values -/
theorem cr_anyK {X : Cx} (K : PySem.W.Frag) (hc : X.calm = true) (e : X.K = K := by rfl) : CallR X (.builtin "any") (rAny K) := by subst e; exact cr_any hc
theorem cr_allK {X : Cx} (K : PySem.W.Frag) (hc : X.calm = true) (e : X.K = K := by rfl) : CallR X (.builtin "all") (rAll K) := by subst e; exact cr_all hc
theorem g_any {K : PySem.W.Frag} {a : Addr} {bs : List Bool} {H : Hp} {Q : VK} (h : H a = some (.lst (bs.map V.bl))) (q : Q (.bl (bs.any id)) H) : rAny K [.ref a] H Q := ⟨a, bs, rfl, SqL.of h, q⟩
theorem g_all {K : PySem.W.Frag} {a : Addr} {bs : List Bool} {H : Hp} {Q : VK} (h : H a = some (.lst (bs.map V.bl))) (q : Q (.bl (bs.all id)) H) : rAll K [.ref a] H Q := ⟨a, bs, rfl, SqL.of h, q⟩
end Qk

/-! Qz: loops over the keys of a dict (locked meanwhile), len of a dict, texts in order, reverse -/
namespace Qk
open PySem PySem.Spec PyProof.Rows L2
def kForK (d : Addr) (od : Obj) (kvs : List (Key × V)) (g : TG) (tb : TS) (D : Ends) (σ : L2.St) (H : Hp) : Prop := kW (Itk d od kvs) g tb D σ H
/-- the ends of a statement under a lock -/
def lockD (d : Addr) (od : Obj) (u : HO) (D : Ends) : Ends := ⟨fun σ' H' => H' d = some (.frz od u) ∧ D.nx σ' (upd H' d u), fun v H' => H' d = some (.frz od u) ∧ D.rt v (upd H' d u), fun σ' H' => H' d = some (.frz od u) ∧ D.bk σ' (upd H' d u), fun σ' H' => H' d = some (.frz od u) ∧ D.ct σ' (upd H' d u)⟩
def kForKx (g : TG) (tb : TS) (D : Ends) (σ : L2.St) (x : V) (H1 : Hp) : Prop := ∃ d o, x = .ref d ∧ ((∃ kvs, H1 d = some (.frz o (.dK kvs)) ∧ kForK d o kvs g tb D σ H1) ∨ ∃ kvs, H1 d = some (.frz o (.dT kvs)) ∧ kW (Itkt d o kvs) g tb D σ H1)
section
variable {K : PySem.W.Frag} {σ : L2.St} {F : Hp} {O O' : Own} {H : Hp} {Q : VK} {te : TE} {x y v : V} {D : Ends} {ts : TS} {g : TG} {d : Addr} {od : Obj} {kvs : List (Key × V)}
theorem g_forK (q : te σ H fun x H1 => kForKx g ts D σ x H1) : tFor (iKeys te) g ts D σ H := q
theorem g_kforKx (h : H d = some (.frz od (.dK kvs))) (q : kForK d od kvs g ts D σ H) : kForKx g ts D σ (.ref d) H := ⟨d, od, rfl, .inl ⟨kvs, h, q⟩⟩
theorem g_lockK {i : Nat} (hv : σ[i]? = some (some (.ref d))) (h : H d = some (.dK kvs)) (q : ∀ od, kForK d od kvs g ts (lockD d od (.dK kvs) D) σ (upd H d (.frz od (.dK kvs)))) : tLock (tFor (iKeys (tVar i)) g ts) D σ H :=
  ⟨d, .dK kvs, h, trivial, fun od => ⟨.ref d, hv, d, od, rfl, .inl ⟨kvs, upd_same, q od⟩⟩⟩
theorem k_forK (Pv : Nat → L2.St → Hp → Prop) (h0 : Pv 0 σ H) (hl : ∀ i σ H, Pv i σ H → H d = some (.frz od (.dK kvs)))
    (hs : ∀ i k v σ H, kvs[i]? = some (k, v) → Pv i σ H → g (kV k) σ H fun σ2 H2 => ts { D with nx := Pv (i + 1), ct := Pv (i + 1), bk := D.nx } σ2 H2) (hd : ∀ σ H, Pv kvs.length σ H → D.nx σ H) : kForK d od kvs g ts D σ H := by
  refine ⟨fun i m σ H => m = kvs.length - i ∧ i ≤ kvs.length ∧ Pv i σ H, ⟨_, rfl, Nat.zero_le _, h0⟩, ?_⟩
  rintro i m σ H1 ⟨rfl, hi, p⟩
  have hq := hl i σ H1 p
  by_cases hlt : i < kvs.length
  · refine .inr ⟨⟨hq, hlt⟩, Pv (i + 1), fun σ' H' p' => ⟨kvs.length - (i + 1), by omega, rfl, hlt, p'⟩, ?_⟩
    rintro x H' ⟨rfl, k, v, e, rfl⟩
    exact hs i k v σ _ e p
  · have e : i = kvs.length := by omega
    subst e
    exact .inl ⟨⟨hq, Nat.le_refl _⟩, hd σ H1 p⟩
end
/-! ### a locked thing -/
section
variable {F H H' : Hp} {O : Own} {d a : Addr} {od : Obj} {u o : HO} {kvs : List (Key × V)}
theorem Has.lock (h : Has F O H) (e : F d = some u) : Has (upd F d (.frz od u)) O (upd H d (.frz od u)) := by
  refine ⟨fun b v q => ?_, fun p hp => ?_, h.nd⟩
  · by_cases c : b = d
    · subst c
      rw [upd_same] at q ⊢
      exact q
    · rw [upd_ne c] at q ⊢
      exact h.same b v q
  · have f := h.own p hp
    have ne : p.1 ≠ d := fun z => by
      rw [z, e] at f
      cases f.1
    rw [upd_ne ne, upd_ne ne]
    exact f
theorem lock_at (e : H d = some u) (h : H a = some o) (ne : o ≠ u) : upd H d (.frz od u) a = some o := by
  rw [upd_ne (fun z => ?_)]
  · exact h
  · subst z
    rw [e] at h
    exact ne (Option.some.inj h).symm
theorem unlock_at (e : H' d = some (.frz od u)) (h : H' a = some o) (ne : o ≠ .frz od u) : upd H' d u a = some o := by
  rw [upd_ne (fun z => ?_)]
  · exact h
  · subst z
    rw [e] at h
    exact ne (Option.some.inj h).symm
theorem unlock_same (e : H d = some u) (s : Same (upd H d (.frz od u)) H') : Same H (upd H' d u) := fun b v q => by
  by_cases c : b = d
  · subst c
    rw [upd_same]
    rw [e] at q
    exact q
  · rw [upd_ne c]
    exact s b v (by rw [upd_ne c]; exact q)
theorem Has.unlock (h : Has F O H) (e : F d = some (.frz od u)) : Has (upd F d u) O (upd H d u) := by
  refine ⟨fun b v q => ?_, fun p hp => ?_, h.nd⟩
  · by_cases c : b = d
    · subst c
      rw [upd_same] at q ⊢
      exact q
    · rw [upd_ne c] at q ⊢
      exact h.same b v q
  · have f := h.own p hp
    have ne : p.1 ≠ d := fun z => by
      rw [z, e] at f
      cases f.1
    rw [upd_ne ne, upd_ne ne]
    exact f
end
mutual
theorem Dq.upL {H H' : Hp} (e1 : ∀ a xs, H a = some (.lst xs) → H' a = some (.lst xs)) (e2 : ∀ a xs, H a = some (.tup xs) → H' a = some (.tup xs)) : ∀ (d : PyData) (v : V), Dq H v d → Dq H' v d
  | _, _, .non => .non
  | _, _, .bl b => .bl b
  | _, _, .int i => .int i
  | _, _, .str x => .str x
  | .list ds, _, .lst s a => .lst (e1 _ _ s) (DqAll.upL e1 e2 ds _ a)
  | .tuple ds, _, .tup s a => .tup (e2 _ _ s) (DqAll.upL e1 e2 ds _ a)
theorem DqAll.upL {H H' : Hp} (e1 : ∀ a xs, H a = some (.lst xs) → H' a = some (.lst xs)) (e2 : ∀ a xs, H a = some (.tup xs) → H' a = some (.tup xs)) : ∀ (ds : List PyData) (vs : List V), DqAll H vs ds → DqAll H' vs ds
  | _, _, .nil => .nil
  | d :: ds, _, .cons h t => .cons (Dq.upL e1 e2 d _ h) (DqAll.upL e1 e2 ds _ t)
end
theorem DqAll.lockK {H : Hp} {d : Addr} {od : Obj} {kvs : List (Key × V)} (e : H d = some (.dK kvs)) {ds : List PyData} {vs : List V} (h : DqAll H vs ds) : DqAll (upd H d (.frz od (.dK kvs))) vs ds :=
  h.upL (fun a xs q => lock_at e q (fun z => by cases z)) (fun a xs q => lock_at e q (fun z => by cases z)) ds vs
/-! ### len, also of a dict -/
def rLenN (K : PySem.W.Frag) : List V → Hp → VK → Prop := fun xs H Q => rLen K xs H Q ∨ ∃ a kvs, xs = [V.ref a] ∧ H a = some (.dK kvs) ∧ Q (.int kvs.length) H
theorem cr_lenN {X : Cx} (K : PySem.W.Frag) (e : X.K = K := by rfl) : CallR X (.builtin "len") (rLenN K) := by
  subst e
  intro pins s σ H xs us Q I r h
  rcases h with h | h
  · exact cr_len pins s σ H xs us Q I r h
  · exact call_lenD pins s σ H xs us Q I r h
section
variable {K : PySem.W.Frag} {H : Hp} {Q : VK}
theorem g_lenNL {a : Addr} {xs : List V} (h : H a = some (.lst xs)) (q : Q (.int (xs.length : Int)) H) : rLenN K [.ref a] H Q := .inl (g_lenL h q)
theorem g_lenNT {a : Addr} {xs : List V} (h : H a = some (.tup xs)) (q : Q (.int (xs.length : Int)) H) : rLenN K [.ref a] H Q := .inl (g_lenT h q)
theorem g_lenNS {z : Str} (h : z.length ≤ sizeLine) (q : Q (.int (z.length : Int)) H) : rLenN K [.str z] H Q := .inl (g_lenS h q)
theorem g_lenND {a : Addr} {kvs : List (Key × V)} (h : H a = some (.dK kvs)) (q : Q (.int (kvs.length : Int)) H) : rLenN K [.ref a] H Q := .inr ⟨a, kvs, rfl, h, q⟩
end
/-! ### texts in order -/
def rLtA : R2 := fun x y H Q => (rI0 (fun i j => .bl (decide (i < j))) x y H Q) ∨ ∃ i j, x = .str i ∧ y = .str j ∧ Q (.bl (decide (i.cps.toList < j.cps.toList))) H
theorem op_ltA {X : Cx} : OpR X (compareOp .Lt) rLtA := by
  intro pins s σ H x y v u Q I rx ry h
  rcases h with h | h
  · exact op_lt pins s σ H x y v u Q I rx ry h
  · exact op_lt_str pins s σ H x y v u Q I rx ry h
theorem g_ltI {i j : Int} {H : Hp} {Q : VK} (q : Q (.bl (decide (i < j))) H) : rLtA (.int i) (.int j) H Q := .inl ⟨i, j, rfl, rfl, q⟩
theorem g_ltS {i j : Str} {H : Hp} {Q : VK} (q : Q (.bl (decide (i.cps.toList < j.cps.toList))) H) : rLtA (.str i) (.str j) H Q := .inr ⟨i, j, rfl, rfl, q⟩
/-! ### reverse -/
def rRevA : V → List V → Hp → VK → Prop := fun x vs H Q => ∃ l xs, x = .ref l ∧ vs = [] ∧ H l = some (.lst xs) ∧ Q .non (upd H l (.lst xs.reverse))
theorem mt_revA {X : Cx} : MtR X "list.reverse" rRevA := mt_reverse
theorem g_revA {F H : Hp} {O O' : Own} {Q : VK} {a : Addr} {xs : List V} (hH : Has F O H) (c : Chg O a (.lst xs) (.lst xs.reverse) O') (q : ∀ H', Has F O' H' → Q .non H') : rRevA (.ref a) [] H Q :=
  ⟨a, xs, rfl, rfl, hH.get c.mem, q _ (hH.put c)⟩
/-! ### list(range(n)) -/
def kLstRg (x : V) (H1 : Hp) (Q : VK) : Prop := ∃ n, x = .int n ∧ (RgOk 0 n ∧ ∀ q, H1 q = none → Q (.ref q) (upd H1 q (.lst (rgV 0 n))))
section
variable {σ : L2.St} {F : Hp} {O : Own} {H : Hp} {Q : VK} {ta : TE}
theorem g_lstRg (q : ta σ H fun x H1 => kLstRg x H1 Q) : tLstRg (tRg1 ta) σ H Q := q
theorem g_kLstRg {n : Nat} (hn : n ≤ 1000) (hH : Has F O H) (q : ∀ p H', H p = none → Has F ((p, .lst ((List.range n).map fun (a : Nat) => V.int (a : Int))) :: O) H' → Q (.ref p) H') : kLstRg (.int (n : Int)) H Q := by
  refine ⟨n, rfl, RgOk.of_le (by omega) (by omega) (by omega) (by omega), fun p np => q p _ np ?_⟩
  have e : rgV 0 (n : Int) = (List.range n).map fun (a : Nat) => V.int (a : Int) := by
    unfold rgV
    have : ((n : Int) - 0).toNat = n := by omega
    rw [this]
    apply List.map_congr_left
    intro a _
    rw [Int.zero_add]
  rw [e]
  exact hH.new np
end
/-! ### dicts read whether locked or not -/
section
variable {K : PySem.W.Frag} {P : Program} {w : World} {H : Hp} {Q : VK} {a : Addr} {kvs : List (Key × V)} {i : Str} {v : V}
theorem g_ixDR (h : Rd H a (.dK kvs)) (hv : valV kvs (.inr i) = some v) (q : Q v H) : rIxA K (.ref a) (.str i) H Q := .inr ⟨a, v, rfl, .inl ⟨kvs, .inr i, h, rfl, hv.symm⟩, q⟩
theorem g_inSR (h : Rd H a (.dK kvs)) (q : Q (.bl (valV kvs (.inr i)).isSome) H) : rInA K (.str i) (.ref a) H Q := .inl (.inr ⟨a, _, rfl, .inl ⟨kvs, .inr i, h, rfl, rfl⟩, q⟩)
theorem g_notinSR (h : Rd H a (.dK kvs)) (q : Q (.bl (!(valV kvs (.inr i)).isSome)) H) : rNotInA K (.str i) (.ref a) H Q := .inl (.inr ⟨a, _, rfl, .inl ⟨kvs, .inr i, h, rfl, rfl⟩, q⟩)
end
end Qk

/-! Qd: a set comprehension of keys with two clauses; set.add; a dict comprehension stored under a name -/
namespace Qk
open PySem PySem.Spec PyProof.Rows L2
theorem kr_fresh (P : Program) (w : World) {h : Heap} : KR P w (h.push (newSetQ w)) h.objs.size (fun _ => false) 0 := by
  refine ⟨_, #[], 0, _, [], Heap.get?_push_size _ rfl, ⟨rfl, rfl, rfl⟩, rfl, (fun e he => by simp at he), ⟨⟨[], List.Perm.refl _, (fun p h => by cases h), rfl⟩, List.nodup_nil⟩, (fun k => by simp), (by decide), (by rfl), rfl, List.Pairwise.nil, ?_⟩
  show _ ∨ (!w.params.followText "set-order") = true
  cases w.params.followText "set-order" <;> simp
theorem newSetQ_ok {P : Program} {w : World} {A : Around} {E : Value → Shared → Prop} {s : Shared} {Q : Value → Shared → Prop} (h : Q (.ref s.heap.objs.size) { s with heap := s.heap.push (newSetQ w) }) : wpAny (model P w) A (newSet (.type "set")) Q E s := PpSet.newSet_ok h
/-- a.add(x) of a key -/
theorem kq_add {P : Program} {w : World} {A : Around} {E : Value → Shared → Prop} {s : Shared} {a : Addr} {T : Key → Bool} {n : Nat} {k : Key} {x : Value} {Q : Value → Shared → Prop} (his : (mixKind P w).is k x = true) (hsc : x.scannable = true) (R : KR P w s.heap a T n) (room : n + 1 < scanBound)
    (q : ∀ h', Heap.SameBut a s.heap h' → KR P w h' a (fun k' => T k' || decide (k' = k)) (if T k = true then n else n + 1) → Q .none { s with heap := h', toks := s.toks + 1 }) : wpAny (model P w) A (call (.builtin "set.add") [.ref a, x]) Q E s := by
  refine wpAny_call_entry F.slot_set_add R.setOf.typeIs F.entry_set_add ?_ (F.args_set_add_2 _ _)
  unfold Builtin.«set.add» Builtin.Frozenset.oneOther
  simp only [List.isEmpty_nil, bind_assoc]
  unfold Builtin.Frozenset.addrOf setAdd
  refine wpAny_bind (wpAny_pure ?_)
  try dsimp only
  refine wpAny_bind (wpAny_pure ?_)
  try dsimp only
  refine wpAny_bind ?_
  refine wpAny_holding ?_
  refine wpAny_bind ((mixKind P w).pyHash his ?_)
  refine kr_add (s := { s with toks := s.toks + 1 }) his hsc R room fun h' sb r => ?_
  show wpAny _ _ (ret Value.none) _ _ _
  exact wpAny_pure ⟨_, rfl, q h' sb r⟩
theorem addQ_ok {X : Cx} {pins : List (Addr × Obj)} {σ : L2.St} {H : Hp} {s : Shared} {E : Value → Shared → Prop} {D : Addr} {T : Key → Bool} {n : Nat} {k : Key} {u : Value} {Q : Value → Shared → Prop} (I : Inv X pins σ H s) (hD : H D = some (SetQ X.prog X.w D T n)) (ru : RelV (kV k) u) (room : n + 1 < scanBound)
    (q : ∀ s', Inv X pins σ (upd H D (SetQ X.prog X.w D (fun k' => T k' || decide (k' = k)) (if T k = true then n else n + 1))) s' → Q .none s') : wpAny (model X.prog X.w) X.A (call (.builtin "set.add") [.ref D, u]) Q E s := by
  refine kq_add (kV_is ru) (key_scan ru) (setQ_get I hD) room fun h' sb new => ?_
  have he : ∃ o, h'.get? D = some o := by
    obtain ⟨o, _, _, _, _, ho, _⟩ := id new
    exact ⟨o, ho⟩
  exact q _ (I.write (e := D) (t' := s.toks + 1) (by rw [hD]; trivial) (.inl rfl) (fun b o hb e => (sb.2 b hb).trans e) he (setQ_new new))
theorem compTurnS2_out (el ta ia tb ib : Expr) (fa fb : List Expr) (sco : Scope) (pos : Pos) (itr ac : Value) (env : Env) :
    compTurn (.SetComp el [⟨ta, ia, fa, 0⟩, ⟨tb, ib, fb, 0⟩] sco pos) 0 itr ac env = (do
      standAt ia.pos
      match ← pyNext itr with
      | none => pure (.done .next)
      | some v =>
        letOwnedTupleGo ta itr v
        assign ta env v
        let mut ok := true
        for c in fa do
          if ok then ok ← isTrue c env (eval c env)
        if ok then
          let x ← eval ib env
          standAt ib.pos
          let x ← foldedSetIterable ib env x
          let _ ← runOwn (.compStart (.SetComp el [⟨ta, ia, fa, 0⟩, ⟨tb, ib, fb, 0⟩] sco pos) 1 (← holding [x] (pyIter x)) ac env) env
        again (.compLoop (.SetComp el [⟨ta, ia, fa, 0⟩, ⟨tb, ib, fb, 0⟩] sco pos) 0 itr ac env)) := by rfl
theorem compTurnS2_in (el ta ia tb ib : Expr) (fa fb : List Expr) (sco : Scope) (pos : Pos) (itr ac : Value) (env : Env) :
    compTurn (.SetComp el [⟨ta, ia, fa, 0⟩, ⟨tb, ib, fb, 0⟩] sco pos) 1 itr ac env = (do
      standAt ib.pos
      match ← pyNext itr with
      | none => pure (.done .next)
      | some v =>
        letOwnedTupleGo tb itr v
        assign tb env v
        let mut ok := true
        for c in fb do
          if ok then ok ← isTrue c env (eval c env)
        if ok then
          (do let v ← eval el env; standAt el.pos; let _ ← call (.builtin "set.add") [ac, v])
        again (.compLoop (.SetComp el [⟨ta, ia, fa, 0⟩, ⟨tb, ib, fb, 0⟩] sco pos) 1 itr ac env)) := by rfl

section
variable {prog : Program} {w : World} {A : Around} {R : Result → Shared → Prop} {s : Shared} {el ta ia tb ib : Expr} {fa fb : List Expr} {sco : Scope} {pos : Pos} {itr ac : Value} {env : Env}
/-- the loop of the first clause -/
theorem compLoopS2_out (hs : ∀ x, foldedSetIterable ib env x = pure x) (I : Nat → Shared → Prop)
    (trn : ∀ n s, I n s → wpAny (model prog w) A (pyNext itr) (fun r s₁ => match r with
      | none => R (.ok .next) s₁
      | some v => wpAny (model prog w) A (letOwnedTupleGo ta itr v) (fun _ s₁' => wpAny (model prog w) A (assign ta env v) (fun _ s₂ =>
          wpAny (model prog w) A (forIn fa true fun c r => if r = true then do let ok ← isTrue c env (eval c env); pure (ForInStep.yield ok) else pure (ForInStep.yield r)) (fun ok s₃ =>
            if ok = true then wpAny (model prog w) A (eval ib env) (fun x s₄ => wpAny (model prog w) A (pyIter x) (fun it1 s₅ =>
              codeAny (model prog w) A (.compStart (.SetComp el [⟨ta, ia, fa, 0⟩, ⟨tb, ib, fb, 0⟩] sco pos) 1 it1 ac env) (fun r s' => match r with
                | .ok _ => ∃ m, m < n ∧ I m s'
                | .error _ => False) s₅) (notedBy (model prog w) A env fun e s' => R (.error e) s') s₄) (notedBy (model prog w) A env fun e s' => R (.error e) s') s₃
            else ∃ m, m < n ∧ I m s₃) (notedBy (model prog w) A env fun e s' => R (.error e) s') s₂) (notedBy (model prog w) A env fun e s' => R (.error e) s') s₁') (notedBy (model prog w) A env fun e s' => R (.error e) s') s₁) (notedBy (model prog w) A env fun e s' => R (.error e) s') s)
    (n : Nat) (h : I n s) :
    codeAny (model prog w) A (.compLoop (.SetComp el [⟨ta, ia, fa, 0⟩, ⟨tb, ib, fb, 0⟩] sco pos) 0 itr ac env) R s := by
  refine codeAny_loop rfl I (fun n s hI => ?_) n h
  show wpAny _ A ((compTurn (.SetComp el [⟨ta, ia, fa, 0⟩, ⟨tb, ib, fb, 0⟩] sco pos) 0 itr ac env).onRaise (fun x => do noteFrame x env; theTreesLotGoes x)) _ _ s
  refine wpAny_noted ?_
  rw [compTurnS2_out]
  refine wpAny_bind (wpAny_standAt (wpAny_bind (wpAny_mono (trn n s hI) (fun r s₁ h₁ => ?_) fun _ _ h' => h')))
  cases r with
  | none => exact wpAny_pure h₁
  | some v =>
    refine wpAny_bind (wpAny_mono h₁ (fun _ s₁' h₁' => ?_) fun _ _ h' => h')
    refine wpAny_bind (wpAny_mono h₁' (fun _ s₂ h₂ => wpAny_bind (wpAny_mono h₂ (fun ok s₃ h₃ => ?_) fun _ _ h' => h')) fun _ _ h' => h')
    cases ok with
    | false => exact wpAny_pure ⟨rfl, h₃⟩
    | true =>
      refine wpAny_bind (wpAny_mono h₃ (fun x s₄ h₄ => ?_) fun _ _ h' => h')
      refine wpAny_bind (wpAny_standAt (wpAny_bind (wpAny_of_eq (hs x) (wpAny_bind (wpAny_holding (wpAny_mono h₄ (fun it1 s₅ h₅ => ?_) fun _ _ h' => h'))))))
      refine wpAny_bind (wpAny_runOwn ?_)
      rw [Around.mark_none]
      refine codeAny_mono h₅ fun r s' hr => ?_
      cases r with
      | ok f =>
        first
          | exact wpAny_pure ⟨rfl, hr⟩
          | exact wpAny_bind (wpAny_pure (wpAny_pure ⟨rfl, hr⟩))
      | error e => exact hr.elim
/-- the loop of the second -/
theorem compLoopS2_in (I : Nat → Shared → Prop)
    (trn : ∀ n s, I n s → wpAny (model prog w) A (pyNext itr) (fun r s₁ => match r with
      | none => R (.ok .next) s₁
      | some v => wpAny (model prog w) A (letOwnedTupleGo tb itr v) (fun _ s₁' => wpAny (model prog w) A (assign tb env v) (fun _ s₂ =>
          wpAny (model prog w) A (forIn fb true fun c r => if r = true then do let ok ← isTrue c env (eval c env); pure (ForInStep.yield ok) else pure (ForInStep.yield r)) (fun ok s₃ =>
            if ok = true then wpAny (model prog w) A (eval el env) (fun x s₄ =>
              wpAny (model prog w) A (call (.builtin "set.add") [ac, x]) (fun _ s₅ => ∃ m, m < n ∧ I m s₅) (notedBy (model prog w) A env fun e s' => R (.error e) s') s₄) (notedBy (model prog w) A env fun e s' => R (.error e) s') s₃
            else ∃ m, m < n ∧ I m s₃) (notedBy (model prog w) A env fun e s' => R (.error e) s') s₂) (notedBy (model prog w) A env fun e s' => R (.error e) s') s₁') (notedBy (model prog w) A env fun e s' => R (.error e) s') s₁) (notedBy (model prog w) A env fun e s' => R (.error e) s') s)
    (n : Nat) (h : I n s) :
    codeAny (model prog w) A (.compLoop (.SetComp el [⟨ta, ia, fa, 0⟩, ⟨tb, ib, fb, 0⟩] sco pos) 1 itr ac env) R s := by
  refine codeAny_loop rfl I (fun n s hI => ?_) n h
  show wpAny _ A ((compTurn (.SetComp el [⟨ta, ia, fa, 0⟩, ⟨tb, ib, fb, 0⟩] sco pos) 1 itr ac env).onRaise (fun x => do noteFrame x env; theTreesLotGoes x)) _ _ s
  refine wpAny_noted ?_
  rw [compTurnS2_in]
  refine wpAny_bind (wpAny_standAt (wpAny_bind (wpAny_mono (trn n s hI) (fun r s₁ h₁ => ?_) fun _ _ h' => h')))
  cases r with
  | none => exact wpAny_pure h₁
  | some v =>
    refine wpAny_bind (wpAny_mono h₁ (fun _ s₁' h₁' => ?_) fun _ _ h' => h')
    refine wpAny_bind (wpAny_mono h₁' (fun _ s₂ h₂ => wpAny_bind (wpAny_mono h₂ (fun ok s₃ h₃ => ?_) fun _ _ h' => h')) fun _ _ h' => h')
    cases ok with
    | false => exact wpAny_pure ⟨rfl, h₃⟩
    | true =>
      exact wpAny_bind (wpAny_bind (wpAny_mono h₃ (fun x s₄ h₄ => wpAny_bind (wpAny_standAt (wpAny_bind (wpAny_mono h₄ (fun _ s₅ h₅ => wpAny_pure (wpAny_pure ⟨rfl, h₅⟩)) fun _ _ h' => h')))) fun _ _ h' => h'))
/-- the second clause's start -/
theorem compStartS1_ok (h0 : codeAny (model prog w) A (.compLoop (.SetComp el [⟨ta, ia, fa, 0⟩, ⟨tb, ib, fb, 0⟩] sco pos) 1 itr ac env) R s)
    (h : wpAny (model prog w) A (pyIter itr) (fun it' s' => codeAny (model prog w) A (.compLoop (.SetComp el [⟨ta, ia, fa, 0⟩, ⟨tb, ib, fb, 0⟩] sco pos) 1 it' ac env) R s')
      (notedBy (model prog w) A env fun x s' => R (.error x) s') s) :
    codeAny (model prog w) A (.compStart (.SetComp el [⟨ta, ia, fa, 0⟩, ⟨tb, ib, fb, 0⟩] sco pos) 1 itr ac env) R s := by
  refine codeAny_of_tree ?_
  show wpAny _ _ ((compStart (.SetComp el [⟨ta, ia, fa, 0⟩, ⟨tb, ib, fb, 0⟩] sco pos) 1 itr ac env).onRaise (fun x => do noteFrame x env; standAt theWindowsPlace)) _ _ s
  refine wpAny_notedAt ?_
  unfold compStart
  show wpAny _ _ (ask >>= _) _ _ s
  refine wpAny_bind (wpAny_askSetting (wpAny_ite ?_))
  split
  · first
      | exact wpAny_bind (wpAny_pure (wpAny_pure (And.intro rfl h0)))
      | exact wpAny_pure (And.intro rfl h0)
  · first
      | exact wpAny_bind (wpAny_rule (wpAny_bind (wpAny_standAt (wpAny_bind (wpAny_mono h (fun it' s' h' => wpAny_pure (And.intro rfl h')) fun _ _ x => x)))))
      | (refine wpAny_bind (wpAny_rule ?_); show wpAny _ _ (standAt ib.pos >>= _) _ _ s; exact wpAny_bind (wpAny_standAt (wpAny_bind (wpAny_mono h (fun it' s' h' => wpAny_pure (And.intro rfl h')) fun _ _ x => x))))
end

section
variable {X : Cx}
/-- [el for tg in ita if .. for tgb in itb if ..]: behind the first clause's store and tests the second source's own loop, from which Nx is reached. vs: the block's names; vs1: those of the second target -/
def tSc2 (P : Program) (w : World) (wi : TI) (g : TG) (tt : TT) (wib : TI) (gb : TG) (ttb : TT) (te : TE) (vs vs1 : List Nat) : TE := fun σ H Q => wi σ H fun J H1 => ∀ D, H1 D = none → ∃ W : Nat → Nat → Hp → Prop, (∃ m, W 0 m (upd H1 D (SetQ P w D (fun _ => false) 0))) ∧ ∀ i m H, W i m H →
  (J.stop i H ∧ Q (.ref D) H) ∨ (J.go i H ∧ ∃ Nx : Hp → Prop, (∀ H', Nx H' → ∃ m', m' < m ∧ W (i + 1) m' H') ∧ ∀ x H', J.yld i H x H' → g x (wipe σ vs) H' fun σ2 H2 => wipe σ2 vs = wipe σ vs ∧ tt σ2 H2 fun b H3 =>
    if b = true then ∃ (d : Addr) (u : HO), H3 d = some u ∧ Mut (some u) ∧ ∀ od, wib σ2 (upd H3 d (.frz od u)) fun J1 H4 => ∃ W1 : Nat → Nat → Hp → Prop, (∃ m, W1 0 m H4) ∧ ∀ j k H, W1 j k H →
      (J1.stop j H ∧ H d = some (.frz od u) ∧ Nx (upd H d u)) ∨ (J1.go j H ∧ ∃ Nx1 : Hp → Prop, (∀ H', Nx1 H' → ∃ k', k' < k ∧ W1 (j + 1) k' H') ∧ ∀ x H', J1.yld j H x H' → gb x (wipe σ2 vs1) H' fun σ3 H5 => wipe σ3 vs1 = wipe σ2 vs1 ∧ ttb σ3 H5 fun b H6 =>
        if b = true then te σ3 H6 fun y H7 => ∃ (k : Key) (T : Key → Bool) (n : Nat), y = kV k ∧ H7 D = some (SetQ P w D T n) ∧ n + 1 < scanBound ∧ Nx1 (upd H7 D (SetQ P w D (fun k' => T k' || decide (k' = k)) (if T k = true then n else n + 1))) else Nx1 H6)
    else Nx H3)
theorem sc2_core {pins : List (Addr × Obj)} {s : Shared} {σ : L2.St} {H : Hp} {Q : VK} {el tg ita tgb itb : Expr} {fs fb : List Expr} {sco : Scope} {own : List (Str × Nat)} {vs1 : List Nat} {pos pos' : Pos} {wi wib : TI} {g gb : TG} {tt ttb : TT} {te : TE} {use : Option (Value → Sem Unit)} {Qf : Value → Shared → Prop}
    (hc : X.calm = true) (hN : X.N.Nodup) (I : Inv X pins σ H s) (hi : PI X tg ita wi) (ok : BlkOk X.N X.env.scope sco own) (hv : ∀ i ∈ vs1, i ∈ own.map (·.2))
    (hg : ∀ (s : Shared) (H : Hp) (C : Addr) (cl : List (Str × Addr)) (fp : List Addr), PG (X.blk s H sco (compEnvC sco cl C X.env) fp) tg g) (ht : ∀ (s : Shared) (H : Hp) (C : Addr) (cl : List (Str × Addr)) (fp : List Addr), PTs (X.blk s H sco (compEnvC sco cl C X.env) fp) fs tt)
    (he : ∀ (s : Shared) (H : Hp) (C : Addr) (cl : List (Str × Addr)) (fp : List Addr), PE (X.blk s H sco (compEnvC sco cl C X.env) fp) el te) (hs : ∀ x, foldedSetIterable ita X.env x = pure x)
    (hi1 : ∀ (s : Shared) (H : Hp) (C : Addr) (cl : List (Str × Addr)) (fp : List Addr), PI (X.blk s H sco (compEnvC sco cl C X.env) fp) tgb itb wib)
    (hg1 : ∀ (s : Shared) (H : Hp) (C : Addr) (cl : List (Str × Addr)) (fp : List Addr), PG (X.blk s H sco (compEnvC sco cl C X.env) fp) tgb gb)
    (ht1 : ∀ (s : Shared) (H : Hp) (C : Addr) (cl : List (Str × Addr)) (fp : List Addr), PTs (X.blk s H sco (compEnvC sco cl C X.env) fp) fb ttb)
    (hs1 : ∀ env x, foldedSetIterable itb env x = pure x)
    (h : tSc2 X.prog X.w wi g tt wib gb ttb te (own.map (·.2)) vs1 σ H Q)
    (hRR : ∀ D C s' m H', Inv X pins σ H' s' → Q (.ref D) H' → s'.heap.Ns C m → FpOk X pins H' C → compPost (model X.prog X.w) X.A X.xe use Qf (.ref D) C (.ok .next) s') :
    wpAny (model X.prog X.w) X.A (comprehension (.SetComp el [⟨tg, ita, fs, 0⟩, ⟨tgb, itb, fb, 0⟩] sco pos) sco X.env pos' (newSet (.type "set")) false (eval ita X.env) use) Qf X.xe s := by
  have freeC : ∀ y ∈ sco.names, y.2 = .free → ∃ c, X.env.cells.lookup y.1 = some c := fun y hy e => by
    rcases ok.free y hy e with k | k
    · exact I.ok.has _ (.inl k)
    · exact I.ok.has _ (.inr k)
  refine wpAny_comprehension_free (use := use) rfl hs (closure_ok freeC) ok.kind (fun y hy e => by rw [ok.uniq y hy, e])
    (thn (hi.run pins s σ H _ I h) fun xv s1 hx => thn hx fun itv s2 h2 => ?_)
  obtain ⟨itr, fp, tn, J, H2, e, I2, T, st2, f2, q⟩ := h2
  subst e
  refine newSetQ_ok (newEnv_comp ?_)
  generalize hD : s2.heap.objs.size = D
  have hDn : H2 D = none := I2.hok.fresh (Nat.le_of_eq hD)
  obtain ⟨W, ⟨m0, w0⟩, trn⟩ := q D hDn
  -- the new list
  generalize hs3 : ({ s2 with heap := s2.heap.push (newSetQ X.w) } : Shared) = s3
  have I3 : Inv X pins σ (upd H2 D (SetQ X.prog X.w D (fun _ => false) 0)) s3 := by
    rw [← hs3]
    refine I2.laid (t' := s2.toks) (fun b o e => Heap.get?_push_of_some _ e) (Nat.le_of_eq hD) ?_
    rw [← hD]
    exact setQ_new (kr_fresh X.prog X.w)
  have h3 : s3.heap = s2.heap.push (newSetQ X.w) := by rw [← hs3]
  have sz : ∀ b ∈ fp, b < s2.heap.objs.size := fun b hb => by
    obtain ⟨o, e, _⟩ := T.obj _ _ st2 b hb
    exact Heap.lt_size e
  have f3 : ∀ b ∈ fp, FpOk X pins (upd H2 D (SetQ X.prog X.w D (fun _ => false) 0)) b ∧ b < s3.heap.objs.size := fun b hb => by
    have hlt := sz b hb
    refine ⟨⟨?_, (f2 b hb).2⟩, by rw [h3, Heap.size_push]; exact Nat.lt_succ_of_lt hlt⟩
    rw [upd_ne (by rw [← hD]; exact Nat.ne_of_lt hlt)]
    exact (f2 b hb).1
  have st3 : tn 0 s3.heap := T.keep _ _ _ st2 fun b _ o e => by rw [h3]; exact Heap.get?_push_of_some _ e
  have I4 := block_start I3 ok hN f3
  have qg := hg s3 (upd H2 D (SetQ X.prog X.w D (fun _ => false) 0)) s3.heap.objs.size (cellsFrom (s3.heap.objs.size + 1) sco.names (cloFrom X.env.cells sco.names [])) fp
  have qt := ht s3 (upd H2 D (SetQ X.prog X.w D (fun _ => false) 0)) s3.heap.objs.size (cellsFrom (s3.heap.objs.size + 1) sco.names (cloFrom X.env.cells sco.names [])) fp
  have qe := he s3 (upd H2 D (SetQ X.prog X.w D (fun _ => false) 0)) s3.heap.objs.size (cellsFrom (s3.heap.objs.size + 1) sco.names (cloFrom X.env.cells sco.names [])) fp
  have qib := hi1 s3 (upd H2 D (SetQ X.prog X.w D (fun _ => false) 0)) s3.heap.objs.size (cellsFrom (s3.heap.objs.size + 1) sco.names (cloFrom X.env.cells sco.names [])) fp
  have qgb := hg1 s3 (upd H2 D (SetQ X.prog X.w D (fun _ => false) 0)) s3.heap.objs.size (cellsFrom (s3.heap.objs.size + 1) sco.names (cloFrom X.env.cells sco.names [])) fp
  have qtb := ht1 s3 (upd H2 D (SetQ X.prog X.w D (fun _ => false) 0)) s3.heap.objs.size (cellsFrom (s3.heap.objs.size + 1) sco.names (cloFrom X.env.cells sco.names [])) fp
  show codeAny _ _ (.compStart (.SetComp el [⟨tg, ita, fs, 0⟩, ⟨tgb, itb, fb, 0⟩] sco pos) 0 (.ref itr) (.ref D) (compEnvC sco (cellsFrom (s3.heap.objs.size + 1) sco.names (cloFrom X.env.cells sco.names [])) s3.heap.objs.size X.env)) (compPost (model X.prog X.w) X.A X.xe use Qf (.ref D) s3.heap.objs.size) { s3 with heap := pushCells (s3.heap.push { cls := .type "dict", data := .dict #[] }) sco.names }
  have noFp : ∀ b ∈ fp, (upd H2 D (SetQ X.prog X.w D (fun _ => false) 0)) b = none := fun b hb => (f3 b hb).1.1
  generalize hce : compEnvC sco (cellsFrom (s3.heap.objs.size + 1) sco.names (cloFrom X.env.cells sco.names [])) s3.heap.objs.size X.env = ce at I4 qg qt qe qib qgb qtb ⊢
  have cL : ce.locals = s3.heap.objs.size := by subst hce; rfl
  generalize hH3 : upd H2 D (SetQ X.prog X.w D (fun _ => false) 0) = H3 at I3 I4 qg qt qe qib qgb qtb w0 noFp f3
  generalize hs4 : ({ s3 with heap := pushCells (s3.heap.push { cls := .type "dict", data := .dict #[] }) sco.names } : Shared) = s4 at I4 ⊢
  have st4 : tn 0 s4.heap := T.keep _ _ _ st3 fun b _ o e => by rw [← hs4]; exact pushCells_keeps _ _ _ _ (Heap.get?_push_of_some _ e)
  have still : ∀ {σ' : L2.St} {H' : Hp} {s' : Shared}, Inv (X.blk s3 H3 sco ce fp) [] σ' H' s' → (∀ b ∈ fp, H' b = none) → ∀ b ∈ fp, FpOk (X.blk s3 H3 sco ce fp) [] H' b := fun {σ' H' s'} I' hn b hb =>
    ⟨hn b hb, (I'.ok.exf b hb).1, I'.ok.exfs b hb, .inl hb, fun x c e => (I'.ok.exf b hb).2 x c e, fun p hp => absurd (show p ∈ ([] : List (Addr × Obj)) ++ [] from hp) (by simp)⟩
  have loop : codeAny (model X.prog X.w) X.A (.compLoop (.SetComp el [⟨tg, ita, fs, 0⟩, ⟨tgb, itb, fb, 0⟩] sco pos) 0 (.ref itr) (.ref D) ce) (compPost (model X.prog X.w) X.A X.xe use Qf (.ref D) s3.heap.objs.size) s4 := by
    refine compLoopS2_out (hs1 ce) (fun n s' => ∃ i H', Inv (X.blk s3 H3 sco ce fp) [] (wipe σ (own.map (·.2))) H' s' ∧ tn i s'.heap ∧ (∀ b ∈ fp, H' b = none) ∧ W i n H') ?_ m0 ⟨0, H3, I4, st4, noFp, w0⟩
    rintro n s5 ⟨i, H5, I5, st5, n5, w5⟩
    rcases trn i n H5 w5 with ⟨stop, qq⟩ | ⟨go, Nx, hNx, step⟩
    · have td := T.done (X.blk s3 H3 sco ce fp) rfl rfl rfl hc i [] s5 _ H5 (fun _ _ => False) I5 (still I5 n5) st5 stop
      refine thnF td fun r s6 ⟨hr, I6⟩ => ?_
      subst hr
      -- back in the def's context
      have I7 : Inv X pins σ H5 s6 := I3.call' (ch := fp) I6.os I6.base I6.hok I6.bare fun b hb => ⟨(f3 b hb).1.2.2.2.1, (f3 b hb).1.2.1, (f3 b hb).1.2.2.2.2.1, (f3 b hb).1.2.2.2.2.2⟩
      have nC : H5 s3.heap.objs.size = none := by
        have z : H5 ce.locals = none := I6.free
        rw [cL] at z
        exact z
      obtain ⟨m, hn, _⟩ := I6.loc
      have hn : s6.heap.Ns ce.locals m := hn
      rw [cL] at hn
      exact hRR D s3.heap.objs.size s6 m H5 I7 qq hn (I3.fpOk (Nat.le_refl _) nC)
    · have ti := T.item (X.blk s3 H3 sco ce fp) rfl rfl rfl hc i [] s5 _ H5 (fun _ _ => False) I5 (still I5 n5) st5 go
      refine thnF ti fun r s6 ⟨u, hr, h6⟩ => ?_
      subst hr
      refine thnF h6 fun _ s7 ⟨x, H7, I7, r7, y7, st7, n7⟩ => ?_
      have I7' := I7.pinned (still I7 n7) (T.obj _ _ st7)
      refine thnF (qg.run _ s7 _ H7 x u _ I7' r7 (step x H7 y7)) fun _ s8 ⟨σ8, H8, I8, hw8, q8⟩ => ?_
      refine thnF (qt.run _ s8 σ8 H8 _ I8 q8) fun b s9 ⟨H9, I9, q9⟩ => ?_
      -- the turn's end, from any slots that know what the block knew at its start
      have last : ∀ {σ9 : L2.St} {s' : Shared} {H' : Hp}, Inv (X.blk s3 H3 sco ce fp) ([] ++ pinsAt fp s7.heap) σ9 H' s' → (wipe σ (own.map (·.2))).length = σ9.length → (∀ (j : Nat) v, (wipe σ (own.map (·.2)))[j]? = some (some v) → σ9[j]? = some (some v)) → Nx H' →
          ∃ m, m < n ∧ ∃ i H', Inv (X.blk s3 H3 sco ce fp) [] (wipe σ (own.map (·.2))) H' s' ∧ tn i s'.heap ∧ (∀ b ∈ fp, H' b = none) ∧ W i m H' := fun {σ9 s' H'} I' hl hk nx => by
        obtain ⟨m', hm, w'⟩ := hNx H' nx
        have pin' : ∀ b ∈ fp, ∀ o, s7.heap.get? b = some o → s'.heap.get? b = some o ∧ H' b = none := fun b hb o e =>
          let z := I'.pin (b, o) (List.mem_append_right _ (List.mem_append_right _ (mem_pinsAt hb e)))
          ⟨z.1, z.2.1⟩
        refine ⟨m', hm, i + 1, H', (I'.unpinned (pins := [])).weak hl hk, T.keep _ _ _ st7 fun b hb o e => (pin' b hb o e).1, fun b hb => ?_, w'⟩
        obtain ⟨o, e, _⟩ := T.obj _ _ st7 b hb
        exact (pin' b hb o e).2
      have hl8 : (wipe σ (own.map (·.2))).length = σ8.length := by rw [← hw8, wipe_length]
      have hk8 : ∀ (j : Nat) v, (wipe σ (own.map (·.2)))[j]? = some (some v) → σ8[j]? = some (some v) := fun j v e => by
        rw [← hw8] at e
        exact (wipe_some e).1
      have hk9 : ∀ (j : Nat) v, (wipe σ (own.map (·.2)))[j]? = some (some v) → (wipe σ8 vs1)[j]? = some (some v) := fun j v e => by
        rw [← hw8] at e
        obtain ⟨e1, e2⟩ := wipe_some e
        rw [wipe_out fun z => e2 (hv j z)]
        exact e1
      cases b with
      | false =>
        simp only [Bool.false_eq_true, if_false] at q9 ⊢
        exact last I9 hl8 hk8 q9
      | true =>
        simp only [if_true] at q9 ⊢
        obtain ⟨dl, ul, hdl, mul, q9⟩ := q9
        have nfz := I9.nofrz hdl mul
        obtain ⟨odl, I9⟩ := I9.lock hdl mul
        refine thnF (qib.run _ s9 σ8 _ _ I9 (q9 odl)) fun xv s10 hx => thnF hx fun itv s11 h11 => ?_
        obtain ⟨it1, fp1, tn1, J1, H11, e1, I11, T1, st11, f11, W1, ⟨m1, w1⟩, trn1⟩ := h11
        subst e1
        -- the inner loop
        have still1 : ∀ {H' : Hp}, (∀ b ∈ fp1, H' b = none) → ∀ b ∈ fp1, FpOk (X.blk s3 H3 sco ce fp) ([] ++ pinsAt fp s7.heap) H' b := fun hn b hb => ⟨hn b hb, (f11 b hb).2⟩
        have loop1 : codeAny (model X.prog X.w) X.A (.compLoop (.SetComp el [⟨tg, ita, fs, 0⟩, ⟨tgb, itb, fb, 0⟩] sco pos) 1 (.ref it1) (.ref D) ce)
            (fun r s' => match r with
              | .ok _ => ∃ m, m < n ∧ ∃ i H', Inv (X.blk s3 H3 sco ce fp) [] (wipe σ (own.map (·.2))) H' s' ∧ tn i s'.heap ∧ (∀ b ∈ fp, H' b = none) ∧ W i m H'
              | .error _ => False) s11 := by
          refine compLoopS2_in (fun k s' => ∃ j H', Inv (X.blk s3 H3 sco ce fp) ([] ++ pinsAt fp s7.heap) (wipe σ8 vs1) H' s' ∧ tn1 j s'.heap ∧ (∀ b ∈ fp1, H' b = none) ∧ W1 j k H') ?_ m1 ⟨0, H11, I11.weak (wipe_length _ _) (fun j v e => (wipe_some e).1), st11, fun b hb => (f11 b hb).1, w1⟩
          rintro k s12 ⟨j, H12, I12, st12, n12, w12⟩
          rcases trn1 j k H12 w12 with ⟨stop1, lk1, nx1⟩ | ⟨go1, Nx1, hNx1, step1⟩
          · refine thnF (T1.done (X.blk s3 H3 sco ce fp) rfl rfl rfl hc j _ s12 (wipe σ8 vs1) H12 (fun _ _ => False) I12 (still1 n12) st12 stop1) fun r s13 ⟨hr, I13⟩ => ?_
            subst hr
            exact last (I13.unlock lk1 nfz) (hl8.trans (wipe_length σ8 vs1).symm) hk9 nx1
          · refine thnF (T1.item (X.blk s3 H3 sco ce fp) rfl rfl rfl hc j _ s12 (wipe σ8 vs1) H12 (fun _ _ => False) I12 (still1 n12) st12 go1) fun r s13 ⟨u1, hr, h13⟩ => ?_
            subst hr
            refine thnF h13 fun _ s14 ⟨x1, H14, I14, r14, y14, st14, n14⟩ => ?_
            have I14' := I14.pinned (still1 n14) (T1.obj _ _ st14)
            refine thnF (qgb.run _ s14 (wipe σ8 vs1) H14 x1 u1 _ I14' r14 (step1 x1 H14 y14)) fun _ s15 ⟨σ15, H15, I15, hw15, q15⟩ => ?_
            refine thnF (qtb.run _ s15 σ15 H15 _ I15 q15) fun b1 s16 ⟨H16, I16, q16⟩ => ?_
            have last1 : ∀ {s' : Shared} {H' : Hp}, Inv (X.blk s3 H3 sco ce fp) (([] ++ pinsAt fp s7.heap) ++ pinsAt fp1 s14.heap) σ15 H' s' → Nx1 H' → ∃ m, m < k ∧ ∃ j H', Inv (X.blk s3 H3 sco ce fp) ([] ++ pinsAt fp s7.heap) (wipe σ8 vs1) H' s' ∧ tn1 j s'.heap ∧ (∀ b ∈ fp1, H' b = none) ∧ W1 j m H' := fun {s' H'} I' nx => by
              obtain ⟨m', hm, w'⟩ := hNx1 H' nx
              have pin' : ∀ b ∈ fp1, ∀ o, s14.heap.get? b = some o → s'.heap.get? b = some o ∧ H' b = none := fun b hb o e =>
                let z := I'.pin (b, o) (List.mem_append_right _ (List.mem_append_right _ (mem_pinsAt hb e)))
                ⟨z.1, z.2.1⟩
              refine ⟨m', hm, j + 1, H', I'.unpinned.weak (by rw [← hw15, wipe_length]) (fun j v e => by rw [← hw15] at e; exact (wipe_some e).1), T1.keep _ _ _ st14 fun b hb o e => (pin' b hb o e).1, fun b hb => ?_, w'⟩
              obtain ⟨o, e, _⟩ := T1.obj _ _ st14 b hb
              exact (pin' b hb o e).2
            cases b1 with
            | false =>
              simp only [Bool.false_eq_true, if_false] at q16 ⊢
              exact last1 I16 q16
            | true =>
              simp only [if_true] at q16 ⊢
              refine thnF (qe.run _ s16 σ15 H16 _ I16 q16) fun z s17 ⟨yv, H17, I17, r17, k0, T0, n0, ek0, hD17, hz17, nx⟩ => ?_
              subst ek0
              exact addQ_ok (X := X.blk s3 H3 sco ce fp) I17 hD17 r17 hz17 fun s18 I18 => last1 I18 nx
        exact compStartS1_ok loop1 (T1.self X.A 0 _ _ _ st11 loop1)
  exact PpSet.codeAny_compStart_set loop (T.self X.A 0 _ _ _ st4 loop)
/-- as a value -/
theorem pe_sc2 {el tg ita tgb itb : Expr} {fs fb : List Expr} {sco : Scope} {own : List (Str × Nat)} {vs1 : List Nat} {pos : Pos} {wi wib : TI} {g gb : TG} {tt ttb : TT} {te : TE} (hc : X.calm = true) (hN : X.N.Nodup) (hi : PI X tg ita wi) (ok : BlkOk X.N X.env.scope sco own) (hv : ∀ i ∈ vs1, i ∈ own.map (·.2))
    (hg : ∀ (s : Shared) (H : Hp) (C : Addr) (cl : List (Str × Addr)) (fp : List Addr), PG (X.blk s H sco (compEnvC sco cl C X.env) fp) tg g) (ht : ∀ (s : Shared) (H : Hp) (C : Addr) (cl : List (Str × Addr)) (fp : List Addr), PTs (X.blk s H sco (compEnvC sco cl C X.env) fp) fs tt)
    (hi1 : ∀ (s : Shared) (H : Hp) (C : Addr) (cl : List (Str × Addr)) (fp : List Addr), PI (X.blk s H sco (compEnvC sco cl C X.env) fp) tgb itb wib)
    (hg1 : ∀ (s : Shared) (H : Hp) (C : Addr) (cl : List (Str × Addr)) (fp : List Addr), PG (X.blk s H sco (compEnvC sco cl C X.env) fp) tgb gb) (ht1 : ∀ (s : Shared) (H : Hp) (C : Addr) (cl : List (Str × Addr)) (fp : List Addr), PTs (X.blk s H sco (compEnvC sco cl C X.env) fp) fb ttb)
    (he : ∀ (s : Shared) (H : Hp) (C : Addr) (cl : List (Str × Addr)) (fp : List Addr), PE (X.blk s H sco (compEnvC sco cl C X.env) fp) el te) (hs : ∀ x, foldedSetIterable ita X.env x = pure x := by intro _; rfl) (hs1 : ∀ env x, foldedSetIterable itb env x = pure x := by intro _ _; rfl) :
    PE X (.SetComp el [⟨tg, ita, fs, 0⟩, ⟨tgb, itb, fb, 0⟩] sco pos) (tSc2 X.prog X.w wi g tt wib gb ttb te (own.map (·.2)) vs1) := by
  refine ⟨fun pins s σ H Q I h => ?_⟩
  rw [PpSet.eval_SetComp]
  refine sc2_core hc hN I hi ok hv hg ht he hs hi1 hg1 ht1 hs1 h fun D C s' m H' I' q hn f => ⟨m, hn, fun h'' sb => ?_⟩
  obtain ⟨f0, f1, f2, f3, f4, f5⟩ := f
  exact ⟨.ref D, H', I'.turned (t' := s'.toks) (fun b o hb e => (sb.2 b hb).trans e) f0 f1 f3 f4 f5, rfl, q⟩
theorem ps_setSc2 {i : Nat} {y : Str} {py : Pos} {el tg ita tgb itb : Expr} {fs fb : List Expr} {sco : Scope} {own : List (Str × Nat)} {vs1 : List Nat} {pos spos : Pos} {wi wib : TI} {g gb : TG} {tt ttb : TT} {te : TE} (hc : X.calm = true) (hN : X.N.Nodup) (hy : X.N[i]? = some y) (hyl : X.env.scope.names.lookup y = some .local)
    (hsw : swapsWith (.SetComp el [⟨tg, ita, fs, 0⟩, ⟨tgb, itb, fb, 0⟩] sco pos) (some (.Name y py)) spos.line X.env = pure true) (hi : PI X tg ita wi) (ok : BlkOk X.N X.env.scope sco own) (hv : ∀ i ∈ vs1, i ∈ own.map (·.2))
    (hg : ∀ (s : Shared) (H : Hp) (C : Addr) (cl : List (Str × Addr)) (fp : List Addr), PG (X.blk s H sco (compEnvC sco cl C X.env) fp) tg g) (ht : ∀ (s : Shared) (H : Hp) (C : Addr) (cl : List (Str × Addr)) (fp : List Addr), PTs (X.blk s H sco (compEnvC sco cl C X.env) fp) fs tt)
    (hi1 : ∀ (s : Shared) (H : Hp) (C : Addr) (cl : List (Str × Addr)) (fp : List Addr), PI (X.blk s H sco (compEnvC sco cl C X.env) fp) tgb itb wib)
    (hg1 : ∀ (s : Shared) (H : Hp) (C : Addr) (cl : List (Str × Addr)) (fp : List Addr), PG (X.blk s H sco (compEnvC sco cl C X.env) fp) tgb gb) (ht1 : ∀ (s : Shared) (H : Hp) (C : Addr) (cl : List (Str × Addr)) (fp : List Addr), PTs (X.blk s H sco (compEnvC sco cl C X.env) fp) fb ttb)
    (he : ∀ (s : Shared) (H : Hp) (C : Addr) (cl : List (Str × Addr)) (fp : List Addr), PE (X.blk s H sco (compEnvC sco cl C X.env) fp) el te) (hs : ∀ x, foldedSetIterable ita X.env x = pure x := by intro _; rfl) (hs1 : ∀ env x, foldedSetIterable itb env x = pure x := by intro _ _; rfl) :
    PS X (.Assign [.Name y py] (.SetComp el [⟨tg, ita, fs, 0⟩, ⟨tgb, itb, fb, 0⟩] sco pos) spos) (tAsg (tSc2 X.prog X.w wi g tt wib gb ttb te (own.map (·.2)) vs1) (gName i)) := by
  refine ⟨fun pins s σ H D I h => ?_⟩
  rw [exec_Assign_Name_used _ _ _ _ hsw]
  refine wpAny_bind (wpAny_standAt (wpAny_bind ?_))
  show wpAny _ X.A (do let _ ← comprehension (.SetComp el [⟨tg, ita, fs, 0⟩, ⟨tgb, itb, fb, 0⟩] sco pos) sco X.env (firstIterPos [⟨tg, ita, fs, 0⟩, ⟨tgb, itb, fb, 0⟩] pos) (newSet (.type "set")) false (eval ita X.env) (some (assign (.Name y py) X.env))) _ _ s
  have h : tSc2 X.prog X.w wi g tt wib gb ttb te (own.map (·.2)) vs1 σ H (fun x H1 => gName i x σ H1 D.nx) := h
  refine wpAny_bind (thn (sc2_core (Qf := fun _ s' => SP X pins D .next s') hc hN I hi ok hv hg ht he hs hi1 hg1 ht1 hs1 h fun L C s' m H' I' q hn f => ?_) fun _ s' hq => wpAny_pure (wpAny_pure hq))
  show wpAny _ _ (assign (.Name y py) X.env (.ref L)) _ _ _
  refine wpAny_assign_Name (store_ok2 (v := V.ref L) I' hN hy (.inl hyl) rfl (fun s2 I2 ⟨a, sb, ha⟩ => ?_) (.inr hyl))
  obtain ⟨f0, f1, f2, f3, f4, f5⟩ := f
  have haC : C ≠ a := by
    rcases ha with z | z
    · rw [z]; exact f1
    · exact fun e => f4 y a z e.symm
  refine ⟨m, hn.sameBut sb haC, fun h3 sb3 => ?_⟩
  exact ⟨_, H', I2.turned (t' := s2.toks) (fun b o hb e => (sb3.2 b hb).trans e) f0 f1 f3 f4 f5, q⟩

end
/-! ### {k for d in ds for k in d}: ds a list of dicts -/
def kSc2 (P : Program) (w : World) (J : It) (g : TG) (tt : TT) (wi1 : TI) (g1 : TG) (tt1 : TT) (te : TE) (vs vs1 : List Nat) (σ : L2.St) (H1 : Hp) (Q : VK) : Prop := ∀ D, H1 D = none → ∃ W : Nat → Nat → Hp → Prop, (∃ m, W 0 m (upd H1 D (SetQ P w D (fun _ => false) 0))) ∧ ∀ i m H, W i m H →
  (J.stop i H ∧ Q (.ref D) H) ∨ (J.go i H ∧ ∃ Nx : Hp → Prop, (∀ H', Nx H' → ∃ m', m' < m ∧ W (i + 1) m' H') ∧ ∀ x H', J.yld i H x H' → g x (wipe σ vs) H' fun σ2 H2 => wipe σ2 vs = wipe σ vs ∧ tt σ2 H2 fun b H3 =>
    if b = true then ∃ (d : Addr) (u : HO), H3 d = some u ∧ Mut (some u) ∧ ∀ od, wi1 σ2 (upd H3 d (.frz od u)) fun J1 H4 => ∃ W1 : Nat → Nat → Hp → Prop, (∃ m, W1 0 m H4) ∧ ∀ j k H, W1 j k H →
      (J1.stop j H ∧ H d = some (.frz od u) ∧ Nx (upd H d u)) ∨ (J1.go j H ∧ ∃ Nx1 : Hp → Prop, (∀ H', Nx1 H' → ∃ k', k' < k ∧ W1 (j + 1) k' H') ∧ ∀ x H', J1.yld j H x H' → g1 x (wipe σ2 vs1) H' fun σ3 H5 => wipe σ3 vs1 = wipe σ2 vs1 ∧ tt1 σ3 H5 fun b H6 =>
        if b = true then te σ3 H6 fun y H7 => ∃ (k : Key) (T : Key → Bool) (n : Nat), y = kV k ∧ H7 D = some (SetQ P w D T n) ∧ n + 1 < scanBound ∧ Nx1 (upd H7 D (SetQ P w D (fun k' => T k' || decide (k' = k)) (if T k = true then n else n + 1))) else Nx1 H6)
    else Nx H3)
def kSc2L (K : PySem.W.Frag) (P : Program) (w : World) (g : TG) (tt : TT) (wi1 : TI) (g1 : TG) (tt1 : TT) (te : TE) (vs vs1 : List Nat) (σ : L2.St) (x : V) (H1 : Hp) (Q : VK) : Prop := ∃ a, x = .ref a ∧ (∃ xs, SqL K H1 a xs) ∧ kSc2 P w (Itl K a) g tt wi1 g1 tt1 te vs vs1 σ H1 Q
theorem g_sc2 {K : PySem.W.Frag} {P : Program} {w : World} {g : TG} {tt : TT} {wi1 : TI} {g1 : TG} {tt1 : TT} {tl te : TE} {vs vs1 : List Nat} {σ : L2.St} {H : Hp} {Q : VK} (q : tl σ H fun x H1 => kSc2L K P w g tt wi1 g1 tt1 te vs vs1 σ x H1 Q) : tSc2 P w (iList K tl) g tt wi1 g1 tt1 te vs vs1 σ H Q := q
/-- the number of entries of the dicts -/
def sumL (kv : Addr → List (Key × V)) : List Addr → Nat
  | [] => 0
  | d :: ds => (kv d).length + sumL kv ds
theorem sumL_app (kv : Addr → List (Key × V)) : ∀ xs ys : List Addr, sumL kv (xs ++ ys) = sumL kv xs + sumL kv ys
  | [], ys => (Nat.zero_add _).symm
  | x :: xs, ys => by
    show (kv x).length + sumL kv (xs ++ ys) = (kv x).length + sumL kv xs + sumL kv ys
    rw [sumL_app kv xs ys]
    omega
theorem sumL_take (kv : Addr → List (Key × V)) (xs : List Addr) (i : Nat) : sumL kv (xs.take i) ≤ sumL kv xs := by
  have := sumL_app kv (xs.take i) (xs.drop i)
  rw [List.take_append_drop] at this
  omega
theorem setQ_frz {P : Program} {w : World} {D : Addr} {T : Key → Bool} {n : Nat} {u : HO} (h : ∀ h', u ≠ .ext h') : SetQ P w D T n ≠ u := fun e => h _ e.symm
theorem k_keysOf {K : PySem.W.Frag} {P : Program} {w : World} {i j : Nat} {σ : L2.St} {F H1 : Hp} {O : Own} {Q : VK} {a : Addr} {ds : List Addr} (hH : Has F O H1) (ha : F a = some (.lst (ds.map V.ref)) ∨ (a, .lst (ds.map V.ref)) ∈ O) (kv : Addr → List (Key × V)) (hd : ∀ d ∈ ds, F d = some (.dK (kv d)))
    (hl : sumL kv ds ≤ 1000) (hi : i < σ.length) (hj : j < σ.length) (ne : i ≠ j)
    (q : ∀ D H' T n, H1 D = none → (∀ k, T k = true ↔ ∃ d ∈ ds, ∃ v, (k, v) ∈ kv d) → n ≤ sumL kv ds → Has F ((D, SetQ P w D T n) :: O) H' → Q (.ref D) H') :
    kSc2L K P w (gName i) tYes (iKeys (tVar i)) (gName j) tYes (tVar j) [i, j] [j] σ (.ref a) H1 Q := by
  have la : ∀ {H' : Hp} {D : Addr} {o : HO}, Has F ((D, o) :: O) H' → H' a = some (.lst (ds.map V.ref)) := fun {H' D o} h => by
    rcases ha with h' | h'
    · exact h.same _ _ h'
    · exact h.get (List.mem_cons_of_mem _ h')
  have la1 : H1 a = some (.lst (ds.map V.ref)) := by
    rcases ha with h' | h'
    · exact hH.same _ _ h'
    · exact hH.get h'
  refine ⟨a, rfl, ⟨_, SqL.of la1⟩, fun D nD => ?_⟩
  refine ⟨fun t m H => m = ds.length - t ∧ t ≤ ds.length ∧ ∃ T n, Has F ((D, SetQ P w D T n) :: O) H ∧ (∀ k, T k = true ↔ ∃ d ∈ ds.take t, ∃ v, (k, v) ∈ kv d) ∧ n ≤ sumL kv (ds.take t),
    ⟨_, rfl, Nat.zero_le _, _, _, hH.new nD, fun k => by simp, Nat.le_refl _⟩, ?_⟩
  rintro t m H ⟨rfl, ht, T, n, hh, hT, hn⟩
  by_cases hlt : t < ds.length
  · have ed : ds[t]? = some ds[t] := List.getElem?_eq_getElem hlt
    generalize ds[t] = d at ed
    have dm := List.mem_of_getElem? ed
    have ex : (ds.map V.ref)[t]? = some (.ref d) := by rw [List.getElem?_map, ed]; rfl
    have tk : ds.take (t + 1) = ds.take t ++ [d] := by rw [List.take_add_one, ed]; rfl
    refine .inr ⟨⟨_, _, SqL.of (la hh), ex⟩, fun H' => ∃ T n, Has F ((D, SetQ P w D T n) :: O) H' ∧ (∀ k, T k = true ↔ ∃ d ∈ ds.take (t + 1), ∃ v, (k, v) ∈ kv d) ∧ n ≤ sumL kv (ds.take (t + 1)), fun H' z => ⟨ds.length - (t + 1), by omega, rfl, hlt, z⟩, ?_⟩
    rintro x H' ⟨rfl, y⟩
    have exx := (y _ (SqL.of (la hh))).symm.trans ex
    injection exx with exx
    subst exx
    have w2 : wipe ((wipe σ [i, j]).set i (some (V.ref d))) [i, j] = wipe σ [i, j] := by
      dsimp only [wipe]
      apply List.ext_getElem?
      intro z
      simp only [List.getElem?_set]
      split <;> split <;> simp_all
    refine ⟨w2, ?_⟩
    refine g_yes (iteT ?_)
    have fd := hd d dm
    have hld := hh.same _ _ fd
    refine ⟨d, _, hld, trivial, fun od => ?_⟩
    have hL := hh.lock (od := od) fd
    have gi : ((wipe σ [i, j]).set i (some (V.ref d)))[i]? = some (some (V.ref d)) := by
      dsimp only [wipe]
      simp [hi]
    refine ⟨.ref d, gi, d, od, rfl, .inl ⟨_, upd_same, ?_⟩⟩
    have lkv : sumL kv (ds.take t) + (kv d).length ≤ 1000 := by
      have h1 := sumL_take kv ds (t + 1)
      rw [tk, sumL_app] at h1
      have h2 : sumL kv [d] = (kv d).length := Nat.add_zero _
      omega
    refine ⟨fun u k H => k = (kv d).length - u ∧ u ≤ (kv d).length ∧ ∃ T n, Has (upd F d (.frz od (.dK (kv d)))) ((D, SetQ P w D T n) :: O) H ∧ (∀ k, T k = true ↔ (∃ d ∈ ds.take t, ∃ v, (k, v) ∈ kv d) ∨ ∃ v, (k, v) ∈ (kv d).take u) ∧ n ≤ sumL kv (ds.take t) + u,
      ⟨_, rfl, Nat.zero_le _, T, n, hL, fun k => by rw [hT k]; simp, by omega⟩, ?_⟩
    rintro u k H ⟨rfl, hu, T, n, hh, hT, hn⟩
    have hfz : H d = some (.frz od (.dK (kv d))) := hh.same _ _ upd_same
    by_cases hul : u < (kv d).length
    · have ep : (kv d)[u]? = some (kv d)[u] := List.getElem?_eq_getElem hul
      generalize (kv d)[u] = p at ep
      have tk2 : (kv d).take (u + 1) = (kv d).take u ++ [p] := by rw [List.take_add_one, ep]; rfl
      refine .inr ⟨⟨hfz, hul⟩, fun H' => ∃ T n, Has (upd F d (.frz od (.dK (kv d)))) ((D, SetQ P w D T n) :: O) H' ∧ (∀ k, T k = true ↔ (∃ d ∈ ds.take t, ∃ v, (k, v) ∈ kv d) ∨ ∃ v, (k, v) ∈ (kv d).take (u + 1)) ∧ n ≤ sumL kv (ds.take t) + (u + 1), fun H' z => ⟨(kv d).length - (u + 1), by omega, rfl, hul, z⟩, ?_⟩
      rintro x H' ⟨rfl, k0, v0, ek, rfl⟩
      rw [ep] at ek
      injection ek with ek
      subst ek
      have w3 : wipe ((wipe ((wipe σ [i, j]).set i (some (V.ref d))) [j]).set j (some (kV k0))) [j] = wipe ((wipe σ [i, j]).set i (some (V.ref d))) [j] := by
        dsimp only [wipe]
        rw [List.set_set]
        rw [List.set_set]
      refine ⟨w3, ?_⟩
      refine g_yes (iteT ?_)
      have gj : ((wipe ((wipe σ [i, j]).set i (some (V.ref d))) [j]).set j (some (kV k0)))[j]? = some (some (kV k0)) := by
        dsimp only [wipe]
        simp [hj]
      refine ⟨_, gj, k0, T, n, rfl, hh.get (List.Mem.head _), by unfold scanBound; omega, _, _, hh.put .hd, fun k' => ?_, ?_⟩
      · rw [Bool.or_eq_true, hT k', decide_eq_true_eq, tk2]
        constructor
        · rintro ((h | ⟨v, h⟩) | h)
          · exact .inl h
          · exact .inr ⟨v, List.mem_append_left _ h⟩
          · subst h
            exact .inr ⟨v0, List.mem_append_right _ (List.mem_singleton.mpr rfl)⟩
        · rintro (h | ⟨v, h⟩)
          · exact .inl (.inl h)
          · rcases List.mem_append.mp h with h | h
            · exact .inl (.inr ⟨v, h⟩)
            · have := List.mem_singleton.mp h
              injection this with e1 e2
              exact .inr e1
      · split <;> omega
    · have e : u = (kv d).length := by omega
      subst e
      refine .inl ⟨⟨hfz, Nat.le_refl _⟩, hfz, ?_⟩
      have hU := hh.unlock (od := od) (u := .dK (kv d)) upd_same
      have eF : upd (upd F d (.frz od (.dK (kv d)))) d (.dK (kv d)) = F := by
        funext b
        by_cases e : b = d
        · subst e
          rw [upd_same, fd]
        · rw [upd_ne e, upd_ne e]
      rw [eF] at hU
      refine ⟨T, n, hU, fun k => ?_, ?_⟩
      · rw [hT k, List.take_length, tk]
        constructor
        · rintro (⟨d', hd', v, h⟩ | ⟨v, h⟩)
          · exact ⟨d', List.mem_append_left _ hd', v, h⟩
          · exact ⟨d, List.mem_append_right _ (List.mem_singleton.mpr rfl), v, h⟩
        · rintro ⟨d', hd', v, h⟩
          rcases List.mem_append.mp hd' with hd' | hd'
          · exact .inl ⟨d', hd', v, h⟩
          · rw [List.mem_singleton.mp hd'] at h
            exact .inr ⟨v, h⟩
      · rw [tk, sumL_app]
        show n ≤ sumL kv (ds.take t) + ((kv d).length + 0)
        omega
  · have e : t = ds.length := by omega
    subst e
    rw [List.take_length] at hT hn
    refine .inl ⟨⟨_, SqL.of (la hh), by rw [List.length_map]; exact Nat.le_refl _⟩, q D H T n nD hT hn hh⟩
section
variable {X : Cx} {ex : Expr} {st : Stmt} {wi wi1 : TI} {g g1 : TG} {tt tt1 : TT} {te : TE} {vs vs1 : List Nat} {i : Nat}
theorem k_sc2 (P : Program) (w : World) (h : PE X ex (tSc2 X.prog X.w wi g tt wi1 g1 tt1 te vs vs1)) (eP : X.prog = P := by rfl) (ew : X.w = w := by rfl) : PE X ex (tSc2 P w wi g tt wi1 g1 tt1 te vs vs1) := by
  subst eP
  subst ew
  exact h
theorem k_sc2S (P : Program) (w : World) (h : PS X st (tAsg (tSc2 X.prog X.w wi g tt wi1 g1 tt1 te vs vs1) (gName i))) (eP : X.prog = P := by rfl) (ew : X.w = w := by rfl) : PS X st (tAsg (tSc2 P w wi g tt wi1 g1 tt1 te vs vs1) (gName i)) := by
  subst eP
  subst ew
  exact h
end
section
variable {elt kx vx : Expr} {gs : List Comprehension} {sco : Scope} {pos py : Pos} {y : Str} {l : Nat} {env : Env}
theorem sw_trueS (hk : env.scope.kind = .function) (hy : env.scope.names.lookup y = some .local) (hl : (py.line == pos.line) = true) (ha : (sco.names.any fun (n, k) => n == y && (k == .local || k == .cell)) = false) : swapsWith (.SetComp elt gs sco pos) (some (.Name y py)) l env = pure true := by
  have ky : env.kindOf y = some .local := hy
  have hb : env.blockKind = .function := by
    unfold Env.blockKind
    rw [hk]
    rfl
  unfold swapsWith
  simp only [hb, ky, ha, Expr.pos, hl]
  rfl
theorem sw_trueD (hk : env.scope.kind = .function) (hy : env.scope.names.lookup y = some .local) (hl : (py.line == pos.line) = true) (ha : (sco.names.any fun (n, k) => n == y && (k == .local || k == .cell)) = false) : swapsWith (.DictComp kx vx gs sco pos) (some (.Name y py)) l env = pure true := by
  have ky : env.kindOf y = some .local := hy
  have hb : env.blockKind = .function := by
    unfold Env.blockKind
    rw [hk]
    rfl
  unfold swapsWith
  simp only [hb, ky, ha, Expr.pos, hl]
  rfl
end
end Qk

/-! Qtr: dicts of lists: list(d), list(d.items()), d.get(k), dict comprehensions -/
namespace Qk
open PySem PySem.Spec PyProof.Rows L2
/-! ### list(d) -/
def rListD : List V → Hp → VK → Prop := fun xs H Q => ∃ (a : Addr) (kvs : List (Key × V)), xs = [.ref a] ∧ Rd H a (.dK kvs) ∧ ∀ p, H p = none → Q (.ref p) (upd H p (.lst (kvs.map fun kv => kV kv.1)))
theorem cr_listD {X : Cx} (hc : X.calm = true) : CallR X (.type "list") rListD := call_listD hc
section
variable {K : PySem.W.Frag} {σ : L2.St} {F : Hp} {O O' : Own} {H : Hp} {Q : VK} {te ta tb : TE} {x y v : V}
theorem g_listD {a : Addr} {kvs : List (Key × V)} (h : H a = some (.dK kvs)) (hH : Has F O H) (q : ∀ p H', H p = none → Has F ((p, .lst (kvs.map fun kv => kV kv.1)) :: O) H' → Q (.ref p) H') : rListD [.ref a] H Q :=
  ⟨a, kvs, rfl, .inl h, fun p n => q p _ n (hH.new n)⟩
/-! ### d.get(k) -/
def kGet1 (ty : TE) (σ : L2.St) (x : V) (H : Hp) (Q : VK) : Prop := ∃ a, x = .ref a ∧ IsD H a ∧ ty σ H fun y H2 => ∃ o, DGet H2 a y o ∧ Q (o.getD .non) H2
theorem g_get1 (q : ta σ H fun x H1 => kGet1 tb σ x H1 Q) : tDGet1 ta tb σ H Q := q
theorem g_kget1 {a : Addr} {kvs : List (Key × V)} (h : H a = some (.dK kvs)) (q : tb σ H fun y H2 => kGot a y .non H2 Q) : kGet1 tb σ (.ref a) H Q := ⟨a, rfl, .inl ⟨kvs, .inl h⟩, q⟩
/-! ### list(d.items()) -/
theorem g_listItems (q : te σ H fun x H1 => LiI.rItemsL x H1 Q) : LiI.tListItems te σ H Q := q
theorem g_items {d : Addr} {kvs : List (Key × V)} (h : H d = some (.dK kvs)) (q : ∀ p H' ts, Same H H' → H p = none → H' p = some (.lst (ts.map V.ref)) → Paired (fun (t : Addr) (q : Key × V) => H' t = some (.tup [kV q.1, q.2])) ts kvs → Q (.ref p) H') : LiI.rItemsL (.ref d) H Q :=
  ⟨d, kvs, rfl, h, fun H' p ts s n _ _ e pd => q p H' ts s n e pd⟩
end
end Qk

/-! Qtm: texts that may lack, trees as dicts of lists -/
namespace Qk
open PySem PySem.Spec PyProof.Rows L2
abbrev Tx := List Str
def txD (t : Tx) : PyData := .list (t.map PyData.str)
def oxD : Option Tx → PyData
  | none => .none
  | some t => txD t
def okX (t : Tx) : Prop := ∀ z ∈ t, PyData.strOk z = true
def okO (o : Option Tx) : Prop := ∀ t, o = some t → okX t
theorem eqv_oxD : ∀ a b : Option Tx, PyData.eqv (oxD a) (oxD b) = decide (a = b)
  | none, none => by rw [oxD, PyData.eqv]; rfl
  | none, some t => by rw [oxD, oxD, txD, PyData.eqv]; rfl
  | some t, none => by rw [oxD, oxD, txD, PyData.eqv]; rfl
  | some s, some t => by
    rw [oxD, oxD, txD, txD, eqv_strs]
    rw [Bool.eq_iff_iff, decide_eq_true_eq, decide_eq_true_eq]
    exact ⟨fun h => by rw [h], fun h => Option.some.inj h⟩
theorem eqvAll_oxD : ∀ xs ys : List (Option Tx), PyData.eqvAll (xs.map oxD) (ys.map oxD) = decide (xs = ys)
  | [], [] => by rw [List.map_nil, PyData.eqvAll]; rfl
  | [], y :: ys => by rw [List.map_nil, List.map_cons, PyData.eqvAll]; rfl
  | x :: xs, [] => by rw [List.map_nil, List.map_cons, PyData.eqvAll]; rfl
  | x :: xs, y :: ys => by
    rw [List.map_cons, List.map_cons, PyData.eqvAll, eqv_oxD, eqvAll_oxD xs ys]
    by_cases e : x = y
    · subst e
      simp
    · simp [e]
theorem eqv_oxL (xs ys : List (Option Tx)) : PyData.eqv (.list (xs.map oxD)) (.list (ys.map oxD)) = decide (xs = ys) := by rw [PyData.eqv, eqvAll_oxD]
theorem any_oxD (xs : List (Option Tx)) (x : Option Tx) : ((xs.map oxD).any fun z => PyData.eqv z (oxD x)) = decide (x ∈ xs) := by
  rw [List.any_map, Bool.eq_iff_iff, List.any_eq_true, decide_eq_true_eq]
  constructor
  · rintro ⟨y, hy, e⟩
    have e : PyData.eqv (oxD y) (oxD x) = true := e
    rw [eqv_oxD] at e
    rw [← of_decide_eq_true e]
    exact hy
  · intro h
    refine ⟨x, h, ?_⟩
    show PyData.eqv (oxD x) (oxD x) = true
    rw [eqv_oxD]
    exact decide_eq_true rfl
theorem sh_oxD {o : Option Tx} (h : okO o) : Sh 1 (oxD o) := by
  cases o with
  | none => exact Sh.non
  | some t => exact Sh.strs (h t rfl)
theorem shL_oxD {xs : List (Option Tx)} (h : ∀ o ∈ xs, okO o) : Sh 2 (.list (xs.map oxD)) := Sh.list fun d hd => by
  obtain ⟨o, ho, rfl⟩ := List.mem_map.mp hd
  exact sh_oxD (h o ho)
theorem okO_some {t : Tx} (h : okX t) : okO (some t) := fun _ e => by
  injection e with e
  rw [← e]
  exact h
theorem okO_none : okO none := fun _ e => by cases e
/-! ### the chosen one -/
def oth (base : Option Tx) (vs : List (Option Tx)) : List (Option Tx) := vs.foldl (fun acc v => if v = base then acc else if v ∈ acc then acc else acc ++ [v]) []
def cho (base : Option Tx) (vs : List (Option Tx)) : Option Tx := if (oth base vs).length = 1 then (oth base vs).headD base else base
theorem oth_step {base : Option Tx} {vs : List (Option Tx)} {i : Nat} {v : Option Tx} (h : vs[i]? = some v) : oth base (vs.take (i + 1)) = if v = base then oth base (vs.take i) else if v ∈ oth base (vs.take i) then oth base (vs.take i) else oth base (vs.take i) ++ [v] := take_foldl h
theorem oth_inv (base : Option Tx) : ∀ (vs acc : List (Option Tx)), acc.Nodup → (vs.foldl (fun acc v => if v = base then acc else if v ∈ acc then acc else acc ++ [v]) acc).Nodup ∧ ∀ v, v ∈ vs.foldl (fun acc v => if v = base then acc else if v ∈ acc then acc else acc ++ [v]) acc ↔ v ∈ acc ∨ (v ∈ vs ∧ v ≠ base)
  | [], acc, n => ⟨n, fun v => by simp⟩
  | x :: vs, acc, n => by
    rw [List.foldl_cons]
    by_cases e : x = base
    · rw [if_pos e]
      obtain ⟨h1, h2⟩ := oth_inv base vs acc n
      refine ⟨h1, fun v => ?_⟩
      rw [h2, List.mem_cons]
      refine or_congr Iff.rfl ⟨fun h => ⟨.inr h.1, h.2⟩, fun h => ?_⟩
      rcases h.1 with h' | h'
      · exact (h.2 (h'.trans e)).elim
      · exact ⟨h', h.2⟩
    · rw [if_neg e]
      by_cases m : x ∈ acc
      · rw [if_pos m]
        obtain ⟨h1, h2⟩ := oth_inv base vs acc n
        refine ⟨h1, fun v => ?_⟩
        rw [h2, List.mem_cons]
        constructor
        · rintro (h | h)
          · exact .inl h
          · exact .inr ⟨.inr h.1, h.2⟩
        · rintro (h | ⟨h | h, k⟩)
          · exact .inl h
          · exact .inl (h ▸ m)
          · exact .inr ⟨h, k⟩
      · rw [if_neg m]
        have n' : (acc ++ [x]).Nodup := by
          rw [List.nodup_append]
          refine ⟨n, by simp, fun a ha b hb e => m ?_⟩
          rw [List.mem_singleton.mp hb] at e
          exact e ▸ ha
        obtain ⟨h1, h2⟩ := oth_inv base vs (acc ++ [x]) n'
        refine ⟨h1, fun v => ?_⟩
        rw [h2, List.mem_append, List.mem_singleton, List.mem_cons]
        constructor
        · rintro ((h | h) | h)
          · exact .inl h
          · subst h
            exact .inr ⟨.inl rfl, e⟩
          · exact .inr ⟨.inr h.1, h.2⟩
        · rintro (h | ⟨h | h, k⟩)
          · exact .inl (.inl h)
          · exact .inl (.inr h)
          · exact .inr ⟨h, k⟩
theorem oth_nd (base : Option Tx) (vs : List (Option Tx)) : (oth base vs).Nodup := (oth_inv base vs [] .nil).1
theorem oth_mem {base : Option Tx} {vs : List (Option Tx)} {v : Option Tx} : v ∈ oth base vs ↔ v ∈ vs ∧ v ≠ base := by
  have := (oth_inv base vs [] .nil).2 v
  rw [show oth base vs = vs.foldl (fun acc v => if v = base then acc else if v ∈ acc then acc else acc ++ [v]) [] from rfl, this]
  simp
theorem oth_len (base : Option Tx) (vs : List (Option Tx)) : (oth base vs).length ≤ vs.length := by
  have : ∀ (ws acc : List (Option Tx)), (ws.foldl (fun acc v => if v = base then acc else if v ∈ acc then acc else acc ++ [v]) acc).length ≤ acc.length + ws.length := by
    intro ws
    induction ws with
    | nil => intro acc; exact Nat.le_refl _
    | cons x ws ih =>
      intro acc
      rw [List.foldl_cons, List.length_cons]
      split
      · have := ih acc; omega
      · split
        · have := ih acc; omega
        · have := ih (acc ++ [x])
          rw [List.length_append, List.length_singleton] at this
          omega
  have h := this vs []
  rw [List.length_nil, Nat.zero_add] at h
  exact h
theorem cho_congr {base : Option Tx} {vs ws : List (Option Tx)} (h : ∀ v, v ≠ base → (v ∈ vs ↔ v ∈ ws)) : cho base vs = cho base ws := by
  have m : ∀ v, v ∈ oth base vs ↔ v ∈ oth base ws := fun v => by
    rw [oth_mem, oth_mem]
    exact ⟨fun k => ⟨(h v k.2).mp k.1, k.2⟩, fun k => ⟨(h v k.2).mpr k.1, k.2⟩⟩
  have pm : (oth base vs).Perm (oth base ws) := (List.perm_ext_iff_of_nodup (oth_nd _ _) (oth_nd _ _)).mpr m
  have l := pm.length_eq
  unfold cho
  rw [l]
  by_cases e : (oth base ws).length = 1
  · rw [if_pos e, if_pos e]
    obtain ⟨a, ea⟩ := List.length_eq_one_iff.mp e
    obtain ⟨b, eb⟩ := List.length_eq_one_iff.mp (l.trans e)
    rw [ea, eb] at pm ⊢
    rw [List.perm_singleton.mp pm]
  · rw [if_neg e, if_neg e]
theorem cho_nil (base : Option Tx) : cho base [] = base := rfl
theorem cho_mem {base : Option Tx} {vs : List (Option Tx)} : cho base vs = base ∨ cho base vs ∈ vs := by
  unfold cho
  by_cases e : (oth base vs).length = 1
  · rw [if_pos e]
    obtain ⟨a, ea⟩ := List.length_eq_one_iff.mp e
    have : a ∈ oth base vs := by rw [ea]; exact List.mem_singleton.mpr rfl
    rw [ea]
    exact .inr (oth_mem.mp this).1
  · rw [if_neg e]
    exact .inl rfl
/-- none, or a new list -/
def Fr (H H' : Hp) (v : V) (o : Option Tx) : Prop := (v = .non ∧ o = none) ∨ ∃ p t, v = .ref p ∧ o = some t ∧ H p = none ∧ H' p = some (.lst (t.map V.str))
theorem Dq.non_inv {H : Hp} {v : V} (h : Dq H v .none) : v = .non := by
  cases h
  rfl
/-! ### trees -/
abbrev Tr := List (Str × Tx)
def kS (z : Str) : Key := Sum.inr z
def getT : Tr → Str → Option Tx
  | [], _ => none
  | p :: r, z => if p.1 = z then some p.2 else getT r z
theorem getT_mem : ∀ {A : Tr} {z : Str} {t : Tx}, getT A z = some t → (z, t) ∈ A
  | [], _, _, h => by cases h
  | p :: r, z, t, h => by
    unfold getT at h
    by_cases e : p.1 = z
    · rw [if_pos e] at h
      injection h with h
      subst e
      subst h
      exact List.mem_cons_self
    · rw [if_neg e] at h
      exact List.mem_cons_of_mem _ (getT_mem h)
theorem getT_of : ∀ {A : Tr} {z : Str} {t : Tx}, (A.map (·.1)).Nodup → (z, t) ∈ A → getT A z = some t
  | [], _, _, _, h => by cases h
  | p :: r, z, t, n, h => by
    rw [List.map_cons] at n
    have n' := List.nodup_cons.mp n
    unfold getT
    rcases List.mem_cons.mp h with e | m
    · subst e
      rw [if_pos rfl]
    · rw [if_neg (fun e => n'.1 ?_)]
      · exact getT_of n'.2 m
      · rw [e]
        exact List.mem_map.mpr ⟨_, m, rfl⟩
theorem getT_none : ∀ {A : Tr} {z : Str}, getT A z = none ↔ z ∉ A.map (·.1)
  | [], _ => by simp [getT]
  | p :: r, z => by
    unfold getT
    rw [List.map_cons, List.mem_cons]
    by_cases e : p.1 = z
    · rw [if_pos e]
      simp [e]
    · rw [if_neg e, getT_none]
      constructor
      · rintro h (k | k)
        · exact e k.symm
        · exact h k
      · exact fun h k => h (.inr k)
/-- a dict of lists, locked or not -/
def RT (H : Hp) (d : Addr) (A : Tr) : Prop := ∃ kvs : List (Key × V), Rd H d (.dK kvs) ∧ kvs.map (·.1) = A.map (fun p => kS p.1) ∧ (A.map (·.1)).Nodup ∧ DqAll H (kvs.map (·.2)) (A.map fun p => txD p.2)
def TrAt (H : Hp) (d : Addr) (A : Tr) : Prop := ∃ kvs : List (Key × V), H d = some (.dK kvs) ∧ kvs.map (·.1) = A.map (fun p => kS p.1) ∧ (A.map (·.1)).Nodup ∧ DqAll H (kvs.map (·.2)) (A.map fun p => txD p.2)
theorem TrAt.rt {H : Hp} {d : Addr} {A : Tr} (h : TrAt H d A) : RT H d A := by
  obtain ⟨kvs, e, r⟩ := h
  exact ⟨kvs, .inl e, r⟩
theorem TrAt.up {H H' : Hp} {d : Addr} {A : Tr} (h : TrAt H d A) (s : Same H H') : TrAt H' d A := by
  obtain ⟨kvs, e, k, n, q⟩ := h
  exact ⟨kvs, s _ _ e, k, n, q.up s _ _⟩
theorem RT.up {H H' : Hp} {d : Addr} {A : Tr} (h : RT H d A) (s : Same H H') : RT H' d A := by
  obtain ⟨kvs, e, k, n, q⟩ := h
  refine ⟨kvs, ?_, k, n, q.up s _ _⟩
  rcases e with e | ⟨o, e⟩
  · exact .inl (s _ _ e)
  · exact .inr ⟨o, s _ _ e⟩
theorem RT.lock {H : Hp} {d e : Addr} {od : Obj} {ks : List (Key × V)} {A : Tr} (he : H e = some (.dK ks)) (h : RT H d A) : RT (upd H e (.frz od (.dK ks))) d A := by
  obtain ⟨kvs, r, k, n, q⟩ := h
  refine ⟨kvs, ?_, k, n, q.lockK he⟩
  by_cases c : d = e
  · subst c
    rcases r with r | ⟨o, r⟩
    · rw [he] at r
      injection r with r
      injection r with r
      subst r
      exact .inr ⟨od, upd_same⟩
    · rw [he] at r
      cases r
  · rcases r with r | ⟨o, r⟩
    · exact .inl (by rw [upd_ne c]; exact r)
    · exact .inr ⟨o, by rw [upd_ne c]; exact r⟩
theorem tr_get {H : Hp} : ∀ {kvs : List (Key × V)} {A : Tr} (z : Str), kvs.map (·.1) = A.map (fun p => kS p.1) → DqAll H (kvs.map (·.2)) (A.map fun p => txD p.2) → Dq H ((valV kvs (.inr z)).getD .non) (oxD (getT A z)) ∧ (valV kvs (.inr z)).isSome = (getT A z).isSome
  | [], [], z, _, _ => ⟨.non, rfl⟩
  | [], _ :: _, _, e, _ => by cases e
  | _ :: _, [], _, e, _ => by cases e
  | kv :: kvs, p :: A, z, e, q => by
    rw [List.map_cons, List.map_cons] at e
    injection e with e1 e2
    rw [List.map_cons, List.map_cons] at q
    cases q with
    | cons q1 q2 =>
    unfold getT
    by_cases c : p.1 = z
    · rw [if_pos c, valV_pos (by rw [e1, c]; rfl)]
      exact ⟨q1, rfl⟩
    · rw [if_neg c, valV_neg (fun h => c (by rw [e1] at h; exact Sum.inr.inj h))]
      exact tr_get z e2 q2
theorem tr_at {H : Hp} {kvs : List (Key × V)} {A : Tr} {z : Str} {t : Tx} (k : kvs.map (·.1) = A.map (fun p => kS p.1)) (q : DqAll H (kvs.map (·.2)) (A.map fun p => txD p.2)) (e : getT A z = some t) : ∃ l, valV kvs (.inr z) = some (.ref l) ∧ H l = some (.lst (t.map V.str)) := by
  obtain ⟨h1, h2⟩ := tr_get z k q
  rw [e] at h1 h2
  cases c : valV kvs (.inr z) with
  | none => rw [c] at h2; cases h2
  | some v =>
    rw [c] at h1
    obtain ⟨l, rfl, hl⟩ := Dq.of_strs (xs := t) h1
    exact ⟨l, rfl, hl⟩
theorem tr_len {kvs : List (Key × V)} {A : Tr} (k : kvs.map (·.1) = A.map (fun p => kS p.1)) : kvs.length = A.length := by
  have := congrArg List.length k
  rw [List.length_map, List.length_map] at this
  exact this
theorem tr_key {kvs : List (Key × V)} {A : Tr} (k : kvs.map (·.1) = A.map (fun p => kS p.1)) {i : Nat} {x : Key} {v : V} (e : kvs[i]? = some (x, v)) : ∃ p, A[i]? = some p ∧ x = .inr p.1 := by
  have e2 : (kvs.map (·.1))[i]? = some x := by rw [List.getElem?_map, e]; rfl
  rw [k, List.getElem?_map] at e2
  obtain ⟨p, ep, e3⟩ := Option.map_eq_some_iff.mp e2
  exact ⟨p, ep, e3.symm⟩
theorem tr_keys {kvs : List (Key × V)} {A : Tr} (k : kvs.map (·.1) = A.map (fun p => kS p.1)) : (kvs.map fun kv => kV kv.1) = (A.map (·.1)).map V.str := by
  have := congrArg (List.map kV) k
  rw [List.map_map, List.map_map] at this
  rw [List.map_map]
  exact this
/-! ### a tree just made: its own lists -/
abbrev Bt := List (Str × Addr × Tx)
def bK (B : Bt) : List (Key × V) := B.map fun b => (kS b.1, V.ref b.2.1)
def bO (B : Bt) : Own := B.map fun b => (b.2.1, HO.lst (b.2.2.map V.str))
def bA (B : Bt) : Tr := B.map fun b => (b.1, b.2.2)
theorem bA_keys (B : Bt) : (bA B).map (·.1) = B.map (·.1) := by
  unfold bA
  rw [List.map_map]
  rfl
theorem bK_keys (B : Bt) : (bK B).map (·.1) = (bA B).map (fun p => kS p.1) := by
  unfold bK bA
  rw [List.map_map, List.map_map]
  rfl
theorem bK_none {B : Bt} {z : Str} (h : z ∉ B.map (·.1)) : valV (bK B) (.inr z) = none := by
  have : ∀ C : Bt, z ∉ C.map (·.1) → valV (bK C) (.inr z) = none := by
    intro C
    induction C with
    | nil => intro _; rfl
    | cons b C ih =>
      intro n
      rw [List.map_cons, List.mem_cons] at n
      show valV ((kS b.1, V.ref b.2.1) :: bK C) (.inr z) = none
      rw [valV_neg (fun e => n (.inl (Sum.inr.inj e).symm))]
      exact ih fun m => n (.inr m)
  exact this B h
theorem bK_snoc (B : Bt) (z : Str) (p : Addr) (t : Tx) : bK (B ++ [(z, p, t)]) = bK B ++ [(kS z, V.ref p)] := by
  unfold bK
  rw [List.map_append]
  rfl
theorem bO_snoc (B : Bt) (z : Str) (p : Addr) (t : Tx) : bO (B ++ [(z, p, t)]) = bO B ++ [(p, HO.lst (t.map V.str))] := by
  unfold bO
  rw [List.map_append]
  rfl
theorem bA_snoc (B : Bt) (z : Str) (p : Addr) (t : Tx) : bA (B ++ [(z, p, t)]) = bA B ++ [(z, t)] := by
  unfold bA
  rw [List.map_append]
  rfl
theorem bK_dq {H : Hp} : ∀ {B : Bt}, (∀ b ∈ B, H b.2.1 = some (.lst (b.2.2.map V.str))) → DqAll H ((bK B).map (·.2)) ((bA B).map fun p => txD p.2)
  | [], _ => .nil
  | b :: B, h => .cons (Dq.strs (xs := b.2.2) (h b List.mem_cons_self)) (bK_dq fun c hc => h c (List.mem_cons_of_mem _ hc))
theorem Has.built {F H : Hp} {d : Addr} {B : Bt} {O : Own} (h : Has F ((d, .dK (bK B)) :: (bO B ++ O)) H) (n : (B.map (·.1)).Nodup) : TrAt H d (bA B) :=
  ⟨bK B, h.get List.mem_cons_self, bK_keys B, by rw [bA_keys]; exact n, bK_dq fun b hb => h.get (List.mem_cons_of_mem _ (List.mem_append_left _ (List.mem_map.mpr ⟨b, hb, rfl⟩)))⟩
/-- one more path, not there yet -/
theorem Has.bput {F H : Hp} {d p : Addr} {B : Bt} {O : Own} {z : Str} {t : Tx} (h : Has F ((p, .lst (t.map V.str)) :: (d, .dK (bK B ++ [(kS z, V.ref p)])) :: (bO B ++ O)) H) : Has F ((d, .dK (bK (B ++ [(z, p, t)]))) :: (bO (B ++ [(z, p, t)]) ++ O)) H := by
  refine h.perm ?_
  rw [bK_snoc, bO_snoc, List.append_assoc, List.singleton_append]
  exact List.perm_middle (a := (p, HO.lst (t.map V.str))) (l₁ := (d, HO.dK (bK B ++ [(kS z, V.ref p)])) :: bO B) (l₂ := O)
/-! ### a loop over the keys of a dict that stands still -/
theorem k_forDK {i : Nat} {d : Addr} {kvs : List (Key × V)} {g : TG} {ts : TS} {D : Ends} {σ : L2.St} {F H : Hp} {O : Own} (hv : σ[i]? = some (some (.ref d))) (fd : F d = some (.dK kvs)) (hH : Has F O H) (S : Nat → L2.St → Own → Prop) (h0 : S 0 σ O)
    (hs : ∀ t k v σ O H od, kvs[t]? = some (k, v) → S t σ O → Has (upd F d (.frz od (.dK kvs))) O H → g (kV k) σ H fun σ2 H2 => ts { lockD d od (.dK kvs) D with nx := fun σ' H' => ∃ O', S (t + 1) σ' O' ∧ Has (upd F d (.frz od (.dK kvs))) O' H', ct := fun σ' H' => ∃ O', S (t + 1) σ' O' ∧ Has (upd F d (.frz od (.dK kvs))) O' H', bk := (lockD d od (.dK kvs) D).nx } σ2 H2)
    (hd : ∀ σ O H, S kvs.length σ O → Has F O H → D.nx σ H) : tLock (tFor (iKeys (tVar i)) g ts) D σ H := by
  refine g_lockK hv (hH.same _ _ fd) (fun od => ?_)
  refine k_forK (fun t σ H' => ∃ O', S t σ O' ∧ Has (upd F d (.frz od (.dK kvs))) O' H') ⟨O, h0, hH.lock fd⟩ ?_ ?_ ?_
  · rintro t σ H' ⟨O', _, h⟩
    exact h.same _ _ upd_same
  · rintro t k v σ H' e ⟨O', s, h⟩
    exact hs t k v σ O' H' od e s h
  · rintro σ H' ⟨O', s, h⟩
    have e : upd (upd F d (.frz od (.dK kvs))) d (.dK kvs) = F := by
      funext b
      by_cases c : b = d
      · subst c
        rw [upd_same, fd]
      · rw [upd_ne c, upd_ne c]
    have h2 := h.unlock (od := od) (u := .dK kvs) upd_same
    rw [e] at h2
    exact ⟨h.same _ _ upd_same, hd σ O' _ s h2⟩
theorem nd_inj {α : Type} {xs : List α} (nd : xs.Nodup) {i j : Nat} {z : α} (h1 : xs[i]? = some z) (h2 : xs[j]? = some z) : i = j := by
  obtain ⟨l1, e1⟩ := List.getElem?_eq_some_iff.mp h1
  obtain ⟨l2, e2⟩ := List.getElem?_eq_some_iff.mp h2
  have pw := List.pairwise_iff_getElem.mp nd
  rcases Nat.lt_trichotomy i j with c | c | c
  · exact (pw i j l1 l2 c (by rw [e1, e2])).elim
  · exact c
  · exact (pw j i l2 l1 c (by rw [e1, e2])).elim
theorem nd_new {α : Type} {xs : List α} (nd : xs.Nodup) {t : Nat} {z : α} (e : xs[t]? = some z) : z ∉ xs.take t := fun m => by
  obtain ⟨j, hj⟩ := List.mem_iff_getElem?.mp m
  have lj := (List.getElem?_eq_some_iff.mp hj).1
  rw [List.length_take] at lj
  rw [List.getElem?_take_of_lt (by omega)] at hj
  have := nd_inj nd hj e
  omega
theorem Has.b0 {F H : Hp} {d : Addr} {O : Own} (h : Has F ((d, .dK []) :: O) H) : Has F ((d, .dK (bK [])) :: (bO [] ++ O)) H := h
/-- what came out stands still from now on -/
theorem Has.fr {F H H' : Hp} {O : Own} {v : V} {o : Option Tx} (h : Has F O H) (s : Same H H') (f : Fr H H' v o) : ∃ F', Same F F' ∧ Has F' O H' ∧ Dq F' v (oxD o) := by
  rcases f with ⟨rfl, rfl⟩ | ⟨p, t, rfl, rfl, n, e⟩
  · exact ⟨F, Same.refl _, h.on s, .non⟩
  · have h2 := h.made n s e
    exact ⟨_, h2.grow, h2.frz, Dq.strs (xs := t) upd_same⟩
theorem oxL_take {H : Hp} {acc : List V} {xs : List (Option Tx)} {i : Nat} {o : Option Tx} {v : V} (h : DqAll H acc ((xs.take i).map oxD)) (e : xs[i]? = some o) (d : Dq H v (oxD o)) : DqAll H (acc ++ [v]) ((xs.take (i + 1)).map oxD) := by
  rw [List.take_add_one, e, List.map_append]
  exact h.snoc d
/-- texts of a bounded length -/
def lnO (o : Option Tx) : Prop := ∀ t, o = some t → t.length ≤ 1000
theorem cho_all {Pr : Option Tx → Prop} {b : Option Tx} {ts : List (Option Tx)} (hb : Pr b) (ht : ∀ o ∈ ts, Pr o) : Pr (cho b ts) := by
  rcases cho_mem (base := b) (vs := ts) with e | m
  · rw [e]; exact hb
  · exact ht _ m
/-! ### lists of trees -/
inductive Trs (H : Hp) : List Addr → List Tr → Prop
  | nil : Trs H [] []
  | cons {d : Addr} {A : Tr} {ds : List Addr} {As : List Tr} : TrAt H d A → Trs H ds As → Trs H (d :: ds) (A :: As)
theorem Trs.len {H : Hp} : ∀ {ds : List Addr} {As : List Tr}, Trs H ds As → ds.length = As.length
  | _, _, .nil => rfl
  | _, _, .cons _ t => by rw [List.length_cons, List.length_cons, t.len]
theorem Trs.up {H H' : Hp} (s : Same H H') : ∀ {ds : List Addr} {As : List Tr}, Trs H ds As → Trs H' ds As
  | _, _, .nil => .nil
  | _, _, .cons h t => .cons (h.up s) (t.up s)
theorem Trs.get {H : Hp} : ∀ {ds : List Addr} {As : List Tr} {i : Nat} {d : Addr}, Trs H ds As → ds[i]? = some d → ∃ A, As[i]? = some A ∧ TrAt H d A
  | _, _, _, _, .nil, e => by simp at e
  | _, _, 0, _, .cons h _, e => by
    have e := Option.some.inj e
    subst e
    exact ⟨_, rfl, h⟩
  | _, _, i + 1, _, .cons _ t, e => t.get (i := i) e
theorem Trs.app {H : Hp} : ∀ {ds es : List Addr} {As Bs : List Tr}, Trs H ds As → Trs H es Bs → Trs H (ds ++ es) (As ++ Bs)
  | _, _, _, _, .nil, h => h
  | _, _, _, _, .cons h t, h' => .cons h (t.app h')
theorem Trs.rev {H : Hp} : ∀ {ds : List Addr} {As : List Tr}, Trs H ds As → Trs H ds.reverse As.reverse
  | _, _, .nil => .nil
  | _, _, .cons h t => by
    rw [List.reverse_cons, List.reverse_cons]
    exact t.rev.app (.cons h .nil)
theorem Trs.snoc {H : Hp} {ds : List Addr} {As : List Tr} {d : Addr} {A : Tr} (h : Trs H ds As) (t : TrAt H d A) : Trs H (ds ++ [d]) (As ++ [A]) := h.app (.cons t .nil)
/-- the entries of the dict at d -/
def kvOf (H : Hp) (d : Addr) : List (Key × V) := match H d with
  | some (.dK kvs) => kvs
  | _ => []
theorem kvOf_at {H : Hp} {d : Addr} {kvs : List (Key × V)} (h : H d = some (.dK kvs)) : kvOf H d = kvs := by
  unfold kvOf
  rw [h]
theorem Trs.at_ {H : Hp} : ∀ {ds : List Addr} {As : List Tr}, Trs H ds As → ∀ d ∈ ds, H d = some (.dK (kvOf H d))
  | _, _, .nil, _, h => by cases h
  | _, _, .cons h t, d, m => by
    rcases List.mem_cons.mp m with rfl | m
    · obtain ⟨kvs, e, _⟩ := h
      rw [kvOf_at e]
      exact e
    · exact t.at_ d m
theorem TrAt.keys {H : Hp} {d : Addr} {A : Tr} (h : TrAt H d A) {k : Key} : (∃ v, (k, v) ∈ kvOf H d) ↔ ∃ z, k = Sum.inr z ∧ z ∈ A.map (·.1) := by
  obtain ⟨kvs, e, ek, _, _⟩ := h
  rw [kvOf_at e]
  constructor
  · rintro ⟨v, m⟩
    have m2 : k ∈ kvs.map (·.1) := List.mem_map.mpr ⟨_, m, rfl⟩
    rw [ek] at m2
    obtain ⟨p, hp, e2⟩ := List.mem_map.mp m2
    exact ⟨p.1, e2.symm, List.mem_map.mpr ⟨p, hp, rfl⟩⟩
  · rintro ⟨z, rfl, m⟩
    obtain ⟨p, hp, rfl⟩ := List.mem_map.mp m
    have m2 : (Sum.inr p.1 : Key) ∈ kvs.map (·.1) := by
      rw [ek]
      exact List.mem_map.mpr ⟨p, hp, rfl⟩
    obtain ⟨q, hq, e2⟩ := List.mem_map.mp m2
    exact ⟨q.2, by rw [← e2]; exact hq⟩
theorem TrAt.klen {H : Hp} {d : Addr} {A : Tr} (h : TrAt H d A) : (kvOf H d).length = A.length := by
  obtain ⟨kvs, e, ek, _, _⟩ := h
  rw [kvOf_at e]
  exact tr_len ek
theorem Trs.keys {H : Hp} : ∀ {ds : List Addr} {As : List Tr}, Trs H ds As → ∀ {k : Key}, (∃ d ∈ ds, ∃ v, (k, v) ∈ kvOf H d) ↔ ∃ z, k = Sum.inr z ∧ ∃ A ∈ As, z ∈ A.map (·.1)
  | _, _, .nil, k => by simp
  | _, _, .cons h t, k => by
    constructor
    · rintro ⟨d, hd, hv⟩
      rcases List.mem_cons.mp hd with rfl | hd
      · obtain ⟨z, e, m⟩ := h.keys.mp hv
        exact ⟨z, e, _, List.mem_cons_self, m⟩
      · obtain ⟨z, e, A, hA, m⟩ := t.keys.mp ⟨d, hd, hv⟩
        exact ⟨z, e, A, List.mem_cons_of_mem _ hA, m⟩
    · rintro ⟨z, e, A, hA, m⟩
      rcases List.mem_cons.mp hA with rfl | hA
      · exact ⟨_, List.mem_cons_self, h.keys.mpr ⟨z, e, m⟩⟩
      · obtain ⟨d, hd, hv⟩ := t.keys.mpr ⟨z, e, A, hA, m⟩
        exact ⟨d, List.mem_cons_of_mem _ hd, hv⟩
theorem Trs.sum {H : Hp} {m : Nat} : ∀ {ds : List Addr} {As : List Tr}, Trs H ds As → (∀ A ∈ As, A.length ≤ m) → sumL (kvOf H) ds ≤ m * As.length
  | _, _, .nil, _ => Nat.zero_le _
  | _, _, .cons (A := A) (As := As) h t, l => by
    have h1 := t.sum fun A hA => l A (List.mem_cons_of_mem _ hA)
    have h2 := h.klen
    have h3 := l A List.mem_cons_self
    show _ + sumL _ _ ≤ _
    rw [List.length_cons, Nat.mul_succ]
    omega
theorem getT_in {A : Tr} {z : Str} {Pr : Option Tx → Prop} (h0 : Pr none) (h : ∀ p ∈ A, Pr (some p.2)) : Pr (getT A z) := by
  cases e : getT A z with
  | none => exact h0
  | some t => exact h _ (getT_mem e)
/-! ### what a call has made -/
theorem Has.join {F H H' : Hp} {O N : Own} (h : Has F O H) (n : Has H N H') : ∃ F', Same F F' ∧ Has F' O H' ∧ ∀ p ∈ N, F' p.1 = some p.2 := by
  refine ⟨fun b => if b ∈ N.map (·.1) then H' b else F b, fun b u e => ?_, ⟨fun b u e => ?_, fun p hp => ⟨?_, ?_⟩, h.nd⟩, fun p hp => ?_⟩
  · have ne : b ∉ N.map (·.1) := fun m => by
      obtain ⟨p, hp, rfl⟩ := List.mem_map.mp m
      have := (n.own p hp).1
      rw [h.same _ _ e] at this
      cases this
    show (if b ∈ N.map (·.1) then H' b else F b) = some u
    rw [if_neg ne]
    exact e
  · have e : (if b ∈ N.map (·.1) then H' b else F b) = some u := e
    split at e
    · exact e
    · exact n.same _ _ (h.same _ _ e)
  · have ne : p.1 ∉ N.map (·.1) := fun m => by
      obtain ⟨q, hq, e⟩ := List.mem_map.mp m
      have := (n.own q hq).1
      rw [e, (h.own p hp).2] at this
      cases this
    show (if p.1 ∈ N.map (·.1) then H' p.1 else F p.1) = none
    rw [if_neg ne]
    exact (h.own p hp).1
  · exact n.same _ _ (h.own p hp).2
  · show (if p.1 ∈ N.map (·.1) then H' p.1 else F p.1) = some p.2
    rw [if_pos (List.mem_map.mpr ⟨p, hp, rfl⟩)]
    exact (n.own p hp).2
theorem Has.plus {F H H' : Hp} {O N : Own} (h : Has F O H) (n : Has H N H') : Has F (N ++ O) H' := by
  refine ⟨h.same.trans n.same, fun p hp => ?_, ?_⟩
  · rcases List.mem_append.mp hp with m | m
    · exact ⟨h.same.free (n.own p m).1, (n.own p m).2⟩
    · exact ⟨(h.own p m).1, n.same _ _ (h.own p m).2⟩
  · rw [List.map_append, List.nodup_append]
    refine ⟨n.nd, h.nd, fun a ha b hb e => ?_⟩
    subst e
    obtain ⟨p, hp, rfl⟩ := List.mem_map.mp ha
    obtain ⟨q, hq, e⟩ := List.mem_map.mp hb
    have := (n.own p hp).1
    rw [← e, (h.own q hq).2] at this
    cases this
theorem tr_own {F : Hp} {d : Addr} {B : Bt} (h : ∀ p ∈ (d, HO.dK (bK B)) :: bO B, F p.1 = some p.2) (n : (B.map (·.1)).Nodup) : TrAt F d (bA B) :=
  ⟨bK B, h _ List.mem_cons_self, bK_keys B, by rw [bA_keys]; exact n, bK_dq fun b hb => h _ (List.mem_cons_of_mem _ (List.mem_map.mpr ⟨b, hb, rfl⟩))⟩
/-- a path laid anew -/
theorem bK_put {b : Str × Addr × Tx} {p : Addr} {x : Tx} : ∀ {B : Bt} {j : Nat}, (B.map (·.1)).Nodup → B[j]? = some b → (bK B).map (fun kv => if kv.1 = kS b.1 then (kv.1, V.ref p) else kv) = bK (B.set j (b.1, p, x))
  | [], j, _, h => by simp at h
  | c :: B, 0, n, h => by
    have e : c = b := Option.some.inj h
    subst e
    rw [List.map_cons] at n
    have n' := List.nodup_cons.mp n
    show (if kS c.1 = kS c.1 then (kS c.1, V.ref p) else _) :: (bK B).map _ = (kS c.1, V.ref p) :: bK B
    rw [if_pos rfl]
    congr 1
    have : ∀ kv ∈ bK B, (if kv.1 = kS c.1 then (kv.1, V.ref p) else kv) = kv := fun kv hkv => by
      obtain ⟨r, hr, rfl⟩ := List.mem_map.mp hkv
      rw [if_neg]
      intro e
      refine n'.1 ?_
      rw [← show r.1 = c.1 from Sum.inr.inj e]
      exact List.mem_map.mpr ⟨r, hr, rfl⟩
    rw [List.map_congr_left this, List.map_id']
  | c :: B, j + 1, n, h => by
    rw [List.map_cons] at n
    have n' := List.nodup_cons.mp n
    have ih := bK_put (p := p) (x := x) n'.2 (j := j) h
    show (if kS c.1 = kS b.1 then (kS c.1, V.ref p) else (kS c.1, V.ref c.2.1)) :: (bK B).map _ = (kS c.1, V.ref c.2.1) :: bK (B.set j _)
    rw [ih, if_neg]
    intro e
    refine n'.1 ?_
    rw [show c.1 = b.1 from Sum.inr.inj e]
    exact List.mem_map.mpr ⟨b, List.mem_of_getElem? h, rfl⟩
theorem putK_rep {b : Str × Addr × Tx} {p : Addr} {x : Tx} {B : Bt} {j : Nat} (n : (B.map (·.1)).Nodup) (h : B[j]? = some b) : putK (bK B) (kS b.1) (V.ref p) = bK (B.set j (b.1, p, x)) := by
  have a : ((bK B).any fun kv => decide (kv.1 = kS b.1)) = true := List.any_eq_true.mpr ⟨(kS b.1, V.ref b.2.1), List.mem_map.mpr ⟨b, List.mem_of_getElem? h, rfl⟩, decide_eq_true rfl⟩
  unfold putK
  rw [if_pos a]
  exact bK_put n h
theorem Has.brep {F H : Hp} {d p : Addr} {B : Bt} {O : Own} {j : Nat} {b : Str × Addr × Tx} {x : Tx} {u : HO} (e : B[j]? = some b) (h : Has F ((p, .lst (x.map V.str)) :: (d, u) :: (bO B ++ O)) H) : Has F ((d, u) :: (bO (B.set j (b.1, p, x)) ++ O)) H := by
  obtain ⟨l, eb⟩ := List.getElem?_eq_some_iff.mp e
  have e1 : B = B.take j ++ b :: B.drop (j + 1) := by
    rw [← eb, ← List.drop_eq_getElem_cons l, List.take_append_drop]
  have e2 : B.set j (b.1, p, x) = B.take j ++ (b.1, p, x) :: B.drop (j + 1) := List.set_eq_take_append_cons_drop.trans (if_pos l)
  rw [e2]
  rw [e1] at h
  have o : ∀ (c : Str × Addr × Tx), bO (B.take j ++ c :: B.drop (j + 1)) ++ O = bO (B.take j) ++ (c.2.1, HO.lst (c.2.2.map V.str)) :: (bO (B.drop (j + 1)) ++ O) := fun c => by
    unfold bO
    rw [List.map_append, List.map_cons, List.append_assoc, List.cons_append]
  rw [o] at h ⊢
  have h2 : Has F ((p, .lst (x.map V.str)) :: (d, u) :: (bO (B.take j) ++ (bO (B.drop (j + 1)) ++ O))) H := h.sub (List.Sublist.cons_cons _ (List.Sublist.cons_cons _ (List.Sublist.append (List.Sublist.refl _) (List.Sublist.cons _ (List.Sublist.refl _)))))
  exact h2.perm (List.perm_middle (a := (p, HO.lst (x.map V.str))) (l₁ := (d, u) :: bO (B.take j)) (l₂ := bO (B.drop (j + 1)) ++ O))
theorem bA_set {B : Bt} {j : Nat} {b : Str × Addr × Tx} {p : Addr} (e : B[j]? = some b) : bA (B.set j (b.1, p, b.2.2)) = bA B := by
  unfold bA
  rw [List.map_set]
  refine List.ext_getElem? fun i => ?_
  rw [List.getElem?_set]
  split
  · rename_i c
    subst c
    split
    · rw [List.getElem?_map, e]
      rfl
    · rename_i c
      rw [List.length_map] at c
      exact (c (List.getElem?_eq_some_iff.mp e).1).elim
  · rfl
theorem DqAll.tak {H : Hp} : ∀ {vs : List V} {ds : List PyData} (n : Nat), DqAll H vs ds → DqAll H (vs.take n) (ds.take n)
  | _, _, 0, _ => .nil
  | _, _, n + 1, .nil => .nil
  | _, _, n + 1, .cons h t => .cons h (DqAll.tak n t)
theorem DqAll.dro {H : Hp} : ∀ {vs : List V} {ds : List PyData} (n : Nat), DqAll H vs ds → DqAll H (vs.drop n) (ds.drop n)
  | _, _, 0, h => h
  | _, _, n + 1, .nil => .nil
  | _, _, n + 1, .cons _ t => DqAll.dro n t
theorem ox_at {H : Hp} {ws : List V} {os : List (Option Tx)} {i : Nat} {v : V} (h : DqAll H ws (os.map oxD)) (e : ws[i]? = some v) : ∃ o, os[i]? = some o ∧ Dq H v (oxD o) := by
  obtain ⟨d, ed, q⟩ := h.get e
  rw [List.getElem?_map] at ed
  obtain ⟨o, eo, rfl⟩ := Option.map_eq_some_iff.mp ed
  exact ⟨o, eo, q⟩
theorem ox_len {H : Hp} {ws : List V} {os : List (Option Tx)} (h : DqAll H ws (os.map oxD)) : ws.length = os.length := by rw [h.len, List.length_map]
/-! ### what a call has made beside what is owned -/
theorem Has.glue {F F' H H' : Hp} {O N : Own} (h : Has F O H) (s : Same H F') (n : Has F' N H') : Has (rmO O F') (N ++ O) H' ∧ Same F (rmO O F') := by
  have off : ∀ p ∈ O, ∀ q ∈ N, q.1 ≠ p.1 := fun p hp q hq e => by
    have := (n.own q hq).1
    rw [e, s _ _ (h.own p hp).2] at this
    cases this
  refine ⟨⟨fun b u e => ?_, fun p hp => ?_, ?_⟩, fun b u e => ?_⟩
  · unfold rmO at e
    split at e
    · cases e
    · exact n.same _ _ e
  · rcases List.mem_append.mp hp with m | m
    · refine ⟨?_, (n.own p m).2⟩
      unfold rmO
      split
      · rfl
      · exact (n.own p m).1
    · exact ⟨if_pos (List.mem_map.mpr ⟨p, m, rfl⟩), n.same _ _ (s _ _ (h.own p m).2)⟩
  · rw [List.map_append, List.nodup_append]
    refine ⟨n.nd, h.nd, fun a ha b hb e => ?_⟩
    obtain ⟨q, hq, rfl⟩ := List.mem_map.mp ha
    obtain ⟨p, hp, rfl⟩ := List.mem_map.mp hb
    exact off p hp q hq e
  · unfold rmO
    rw [if_neg]
    · exact s _ _ (h.same _ _ e)
    · intro m
      obtain ⟨p, hp, rfl⟩ := List.mem_map.mp m
      rw [(h.own p hp).1] at e
      cases e
/-- a call that changes what is owned ahead -/
theorem Has.swap {F H H' : Hp} {A A' R : Own} (h : Has F (A ++ R) H) (h' : Has (rmO A H) A' H') : Has F (A' ++ R) H' := by
  have nd := h.nd
  rw [List.map_append, List.nodup_append] at nd
  have inA : ∀ b, F b ≠ none → b ∉ A.map (·.1) := fun b e m => by
    obtain ⟨p, hp, rfl⟩ := List.mem_map.mp m
    exact e (h.own p (List.mem_append_left _ hp)).1
  have at_ : ∀ b, b ∉ A.map (·.1) → rmO A H b = H b := fun b n => if_neg n
  have sF : ∀ b u, F b = some u → rmO A H b = some u := fun b u e => by
    rw [at_ b (inA b (by rw [e]; exact fun z => by cases z))]
    exact h.same _ _ e
  have aR : ∀ p ∈ R, rmO A H p.1 = some p.2 := fun p hp => by
    rw [at_ p.1 (fun m => nd.2.2 _ m _ (List.mem_map.mpr ⟨p, hp, rfl⟩) rfl)]
    exact (h.own p (List.mem_append_right _ hp)).2
  refine ⟨fun b u e => h'.same _ _ (sF b u e), fun p hp => ?_, ?_⟩
  · rcases List.mem_append.mp hp with m | m
    · refine ⟨?_, (h'.own p m).2⟩
      cases e : F p.1 with
      | none => rfl
      | some u =>
        have := (h'.own p m).1
        rw [sF _ _ e] at this
        cases this
    · exact ⟨(h.own p (List.mem_append_right _ m)).1, h'.same _ _ (aR p m)⟩
  · rw [List.map_append, List.nodup_append]
    refine ⟨h'.nd, nd.2.1, fun a ha b hb e => ?_⟩
    subst e
    obtain ⟨p, hp, rfl⟩ := List.mem_map.mp ha
    obtain ⟨q, hq, e⟩ := List.mem_map.mp hb
    have := (h'.own p hp).1
    rw [← e, aR q hq] at this
    cases this
def treeO (d : Addr) (B : Bt) : Own := (d, HO.dK (bK B)) :: bO B
def tO (Bs : List (Addr × Bt)) : Own := Bs.flatMap fun q => treeO q.1 q.2
theorem tO_snoc (Bs : List (Addr × Bt)) (q : Addr × Bt) : tO (Bs ++ [q]) = tO Bs ++ treeO q.1 q.2 := by
  unfold tO
  rw [List.flatMap_append]
  simp
theorem tO_at {Bs : List (Addr × Bt)} {q : Addr × Bt} (h : q ∈ Bs) : ∀ p ∈ treeO q.1 q.2, p ∈ tO Bs := fun p hp => List.mem_flatMap.mpr ⟨q, h, hp⟩
theorem tr_in {F H : Hp} {O : Own} {d : Addr} {B : Bt} (h : Has F O H) (m : ∀ p ∈ treeO d B, p ∈ O) (n : (B.map (·.1)).Nodup) : TrAt H d (bA B) := tr_own (fun p hp => h.get (m p hp)) n
abbrev Tre := Tr
theorem Chg.right {O O' A : Own} {a : Addr} {o o' : HO} (c : Chg O a o o' O') : Chg (A ++ O) a o o' (A ++ O') := by
  induction A with
  | nil => exact c
  | cons x A ih => exact .tl ih
end Qk

namespace K10
open PySem PySem.Spec PyProof.Rows L2 Qk
/-! ### the text -/
def topS (i : Nat) : Stmt := PySem.Challenge.pw_partclones_k10_merge_too_large.main.body.getD i (.Pass ⟨0, 0, 0, 0⟩)
abbrev s_common_lengths : Stmt := topS 5
abbrev n_common_lengths : List Str := ["old", "new", "lengths", "i", "j", "_"]
theorem sc_common_lengths : FnScope n_common_lengths ["old", "new"] (defScope s_common_lengths) := ⟨rfl, rfl, rfl, by decide +kernel, rfl, by decide +kernel, by decide +kernel⟩
abbrev s_matched : Stmt := topS 6
abbrev n_matched : List Str := ["old", "new", "lengths", "pairs", "i", "j"]
theorem sc_matched : FnScope n_matched ["old", "new"] (defScope s_matched) := ⟨rfl, rfl, rfl, by decide +kernel, rfl, by decide +kernel, by decide +kernel⟩
abbrev s_stable_lines : Stmt := topS 8
abbrev n_stable_lines : List Str := ["base", "ours", "theirs", "places", "i", "j"]
theorem sc_stable_lines : FnScope n_stable_lines ["base", "ours", "theirs"] (defScope s_stable_lines) := ⟨rfl, rfl, rfl, by decide +kernel, rfl, by decide +kernel, by decide +kernel⟩
abbrev s_runs : Stmt := topS 9
abbrev n_runs : List Str := ["base", "ours", "theirs", "runs", "i", "j", "k", "first_i", "first_j", "first_k", "length"]
theorem sc_runs : FnScope n_runs ["base", "ours", "theirs"] (defScope s_runs) := ⟨rfl, rfl, rfl, by decide +kernel, rfl, by decide +kernel, by decide +kernel⟩
abbrev s_text_chunks : Stmt := topS 10
abbrev n_text_chunks : List Str := ["base", "ours", "theirs", "chunks", "i", "j", "k", "end", "next_i", "next_j", "next_k", "length", "b", "x", "y", "lines"]
theorem sc_text_chunks : FnScope n_text_chunks ["base", "ours", "theirs"] (defScope s_text_chunks) := ⟨rfl, rfl, rfl, by decide +kernel, rfl, by decide +kernel, by decide +kernel⟩
abbrev s_clash_lines : Stmt := topS 16
abbrev n_clash_lines : List Str := ["b", "x", "y"]
theorem sc_clash_lines : FnScope n_clash_lines ["b", "x", "y"] (defScope s_clash_lines) := ⟨rfl, rfl, rfl, by decide +kernel, rfl, by decide +kernel, by decide +kernel⟩
abbrev s_merge_texts : Stmt := topS 17
abbrev n_merge_texts : List Str := ["base", "ours", "theirs", "lines", "clashes", "_", "b", "x", "y"]
theorem sc_merge_texts : FnScope n_merge_texts ["base", "ours", "theirs"] (defScope s_merge_texts) := ⟨rfl, rfl, rfl, by decide +kernel, rfl, by decide +kernel, by decide +kernel⟩
abbrev s_merged_path : Stmt := topS 21
abbrev n_merged_path : List Str := ["base", "ours", "theirs", "lines", "clashes"]
theorem sc_merged_path : FnScope n_merged_path ["base", "ours", "theirs"] (defScope s_merged_path) := ⟨rfl, rfl, rfl, by decide +kernel, rfl, by decide +kernel, by decide +kernel⟩
abbrev s_copied : Stmt := topS 22
abbrev n_copied : List Str := ["text"]
theorem sc_copied : FnScope n_copied ["text"] (defScope s_copied) := ⟨rfl, rfl, rfl, by decide +kernel, rfl, by decide +kernel, by decide +kernel⟩
abbrev s_base_lines : Stmt := topS 23
abbrev n_base_lines : List Str := ["base"]
theorem sc_base_lines : FnScope n_base_lines ["base"] (defScope s_base_lines) := ⟨rfl, rfl, rfl, by decide +kernel, rfl, by decide +kernel, by decide +kernel⟩
abbrev s_merge_trees : Stmt := topS 24
abbrev n_merge_trees : List Str := ["base", "ours", "theirs", "paths", "merged", "clashes", "path", "text", "number", "tree"]
theorem sc_merge_trees : FnScope n_merge_trees ["base", "ours", "theirs"] (defScope s_merge_trees) := ⟨rfl, rfl, rfl, by decide +kernel, rfl, by decide +kernel, by decide +kernel⟩
abbrev s_l_feed : Stmt := topS 26
abbrev n_l_feed : List Str := ["script", "cell"]
theorem sc_l_feed : FnScope n_l_feed ["script"] (defScope s_l_feed) := ⟨rfl, rfl, rfl, by decide +kernel, rfl, by decide +kernel, by decide +kernel⟩
abbrev s_l_next : Stmt := topS 27
abbrev n_l_next : List Str := ["cells", "many", "number"]
theorem sc_l_next : FnScope n_l_next ["cells", "many"] (defScope s_l_next) := ⟨rfl, rfl, rfl, by decide +kernel, rfl, by decide +kernel, by decide +kernel⟩
abbrev s_l_same : Stmt := topS 28
abbrev n_l_same : List Str := ["told", "due", "k", "key"]
theorem sc_l_same : FnScope n_l_same ["told", "due"] (defScope s_l_same) := ⟨rfl, rfl, rfl, by decide +kernel, rfl, by decide +kernel, by decide +kernel⟩
abbrev s_l_way : Stmt := topS 29
abbrev n_l_way : List Str := ["place", "paths"]
theorem sc_l_way : FnScope n_l_way ["place"] (defScope s_l_way) := ⟨rfl, rfl, rfl, by decide +kernel, rfl, by decide +kernel, by decide +kernel⟩
abbrev s_l_copy : Stmt := topS 30
abbrev n_l_copy : List Str := ["tree", "copy", "path"]
theorem sc_l_copy : FnScope n_l_copy ["tree"] (defScope s_l_copy) := ⟨rfl, rfl, rfl, by decide +kernel, rfl, by decide +kernel, by decide +kernel⟩
abbrev s_l_kept : Stmt := topS 31
abbrev n_l_kept : List Str := ["passed", "tree"]
theorem sc_l_kept : FnScope n_l_kept ["passed", "tree"] (defScope s_l_kept) := ⟨rfl, rfl, rfl, by decide +kernel, rfl, by decide +kernel, by decide +kernel⟩
abbrev s_l_base : Stmt := topS 32
abbrev n_l_base : List Str := ["many", "k"]
theorem sc_l_base : FnScope n_l_base ["many"] (defScope s_l_base) := ⟨rfl, rfl, rfl, by decide +kernel, rfl, by decide +kernel, by decide +kernel⟩
abbrev s_l_trees : Stmt := topS 33
abbrev n_l_trees : List Str := ["paths", "fates", "sizes", "bare", "trees", "k"]
theorem sc_l_trees : FnScope n_l_trees ["paths", "fates", "sizes", "bare"] (defScope s_l_trees) := ⟨rfl, rfl, rfl, by decide +kernel, rfl, by decide +kernel, by decide +kernel⟩
abbrev s_l_long : Stmt := topS 34
abbrev n_l_long : List Str := ["sizes", "turned", "left", "right"]
theorem sc_l_long : FnScope n_l_long ["sizes", "turned"] (defScope s_l_long) := ⟨rfl, rfl, rfl, by decide +kernel, rfl, by decide +kernel, by decide +kernel⟩
abbrev s_l_wanted : Stmt := topS 35
abbrev n_l_wanted : List Str := ["paths", "fates", "sizes", "turned", "merged", "clashes", "path", "k", "lines"]
theorem sc_l_wanted : FnScope n_l_wanted ["paths", "fates", "sizes", "turned"] (defScope s_l_wanted) := ⟨rfl, rfl, rfl, by decide +kernel, rfl, by decide +kernel, by decide +kernel⟩
abbrev s_l_asks : Stmt := topS 36
abbrev n_l_asks : List Str := ["trees", "due", "passed", "told", "large", "kinds", "e", "k", "tree"]
theorem sc_l_asks : FnScope n_l_asks ["trees", "due"] (defScope s_l_asks) := ⟨rfl, rfl, rfl, by decide +kernel, rfl, by decide +kernel, by decide +kernel⟩
abbrev s_law : Stmt := topS 37
abbrev n_law : List Str := ["script", "cells", "start", "step", "paths", "size", "above", "below", "sizes", "bare", "spot", "fate", "menu", "fates", "full", "less", "short", "trees", "due", "case", "k", "one"]
theorem sc_law : FnScope n_law ["script"] (defScope s_law) := ⟨rfl, rfl, rfl, by decide +kernel, rfl, by decide +kernel, by decide +kernel⟩
set_option maxHeartbeats 4000000 in
structure Txt (K : PySem.W.Frag) (mg : Str → Option Value) where
  f_common_lengths : Addr
  fd_common_lengths : FuncData
  F_common_lengths : Fun K "_common_lengths" "_common_lengths" s_common_lengths f_common_lengths fd_common_lengths
  g_common_lengths : mg "_common_lengths" = some (.ref f_common_lengths)
  b_common_lengths : Binds K fd_common_lengths ["old", "new"] []
  f_matched : Addr
  fd_matched : FuncData
  F_matched : Fun K "matched" "matched" s_matched f_matched fd_matched
  g_matched : mg "matched" = some (.ref f_matched)
  b_matched : Binds K fd_matched ["old", "new"] []
  f_stable_lines : Addr
  fd_stable_lines : FuncData
  F_stable_lines : Fun K "_stable_lines" "_stable_lines" s_stable_lines f_stable_lines fd_stable_lines
  g_stable_lines : mg "_stable_lines" = some (.ref f_stable_lines)
  b_stable_lines : Binds K fd_stable_lines ["base", "ours", "theirs"] []
  f_runs : Addr
  fd_runs : FuncData
  F_runs : Fun K "_runs" "_runs" s_runs f_runs fd_runs
  g_runs : mg "_runs" = some (.ref f_runs)
  b_runs : Binds K fd_runs ["base", "ours", "theirs"] []
  f_text_chunks : Addr
  fd_text_chunks : FuncData
  F_text_chunks : Fun K "text_chunks" "text_chunks" s_text_chunks f_text_chunks fd_text_chunks
  g_text_chunks : mg "text_chunks" = some (.ref f_text_chunks)
  b_text_chunks : Binds K fd_text_chunks ["base", "ours", "theirs"] []
  f_clash_lines : Addr
  fd_clash_lines : FuncData
  F_clash_lines : Fun K "_clash_lines" "_clash_lines" s_clash_lines f_clash_lines fd_clash_lines
  g_clash_lines : mg "_clash_lines" = some (.ref f_clash_lines)
  b_clash_lines : Binds K fd_clash_lines ["b", "x", "y"] []
  f_merge_texts : Addr
  fd_merge_texts : FuncData
  F_merge_texts : Fun K "merge_texts" "merge_texts" s_merge_texts f_merge_texts fd_merge_texts
  g_merge_texts : mg "merge_texts" = some (.ref f_merge_texts)
  b_merge_texts : Binds K fd_merge_texts ["base", "ours", "theirs"] []
  f_merged_path : Addr
  fd_merged_path : FuncData
  F_merged_path : Fun K "_merged_path" "_merged_path" s_merged_path f_merged_path fd_merged_path
  g_merged_path : mg "_merged_path" = some (.ref f_merged_path)
  b_merged_path : Binds K fd_merged_path ["base", "ours", "theirs"] []
  f_copied : Addr
  fd_copied : FuncData
  F_copied : Fun K "_copied" "_copied" s_copied f_copied fd_copied
  g_copied : mg "_copied" = some (.ref f_copied)
  b_copied : Binds K fd_copied ["text"] []
  f_base_lines : Addr
  fd_base_lines : FuncData
  F_base_lines : Fun K "_base_lines" "_base_lines" s_base_lines f_base_lines fd_base_lines
  g_base_lines : mg "_base_lines" = some (.ref f_base_lines)
  b_base_lines : Binds K fd_base_lines ["base"] []
  f_merge_trees : Addr
  fd_merge_trees : FuncData
  F_merge_trees : Fun K "merge_trees" "merge_trees" s_merge_trees f_merge_trees fd_merge_trees
  g_merge_trees : mg "merge_trees" = some (.ref f_merge_trees)
  b_merge_trees : Binds K fd_merge_trees ["base", "ours", "theirs"] []
  f_l_feed : Addr
  fd_l_feed : FuncData
  F_l_feed : Fun K "_law_feed" "_law_feed" s_l_feed f_l_feed fd_l_feed
  g_l_feed : mg "_law_feed" = some (.ref f_l_feed)
  b_l_feed : Binds K fd_l_feed ["script"] []
  f_l_next : Addr
  fd_l_next : FuncData
  F_l_next : Fun K "_law_next" "_law_next" s_l_next f_l_next fd_l_next
  g_l_next : mg "_law_next" = some (.ref f_l_next)
  b_l_next : Binds K fd_l_next ["cells", "many"] []
  f_l_same : Addr
  fd_l_same : FuncData
  F_l_same : Fun K "_law_same" "_law_same" s_l_same f_l_same fd_l_same
  g_l_same : mg "_law_same" = some (.ref f_l_same)
  b_l_same : Binds K fd_l_same ["told", "due"] []
  f_l_way : Addr
  fd_l_way : FuncData
  F_l_way : Fun K "_law_way" "_law_way" s_l_way f_l_way fd_l_way
  g_l_way : mg "_law_way" = some (.ref f_l_way)
  b_l_way : Binds K fd_l_way ["place"] []
  f_l_copy : Addr
  fd_l_copy : FuncData
  F_l_copy : Fun K "_law_copy" "_law_copy" s_l_copy f_l_copy fd_l_copy
  g_l_copy : mg "_law_copy" = some (.ref f_l_copy)
  b_l_copy : Binds K fd_l_copy ["tree"] []
  f_l_kept : Addr
  fd_l_kept : FuncData
  F_l_kept : Fun K "_law_kept" "_law_kept" s_l_kept f_l_kept fd_l_kept
  g_l_kept : mg "_law_kept" = some (.ref f_l_kept)
  b_l_kept : Binds K fd_l_kept ["passed", "tree"] []
  f_l_base : Addr
  fd_l_base : FuncData
  F_l_base : Fun K "_law_base" "_law_base" s_l_base f_l_base fd_l_base
  g_l_base : mg "_law_base" = some (.ref f_l_base)
  b_l_base : Binds K fd_l_base ["many"] []
  f_l_trees : Addr
  fd_l_trees : FuncData
  F_l_trees : Fun K "_law_trees" "_law_trees" s_l_trees f_l_trees fd_l_trees
  g_l_trees : mg "_law_trees" = some (.ref f_l_trees)
  b_l_trees : Binds K fd_l_trees ["paths", "fates", "sizes", "bare"] []
  f_l_long : Addr
  fd_l_long : FuncData
  F_l_long : Fun K "_law_long" "_law_long" s_l_long f_l_long fd_l_long
  g_l_long : mg "_law_long" = some (.ref f_l_long)
  b_l_long : Binds K fd_l_long ["sizes", "turned"] []
  f_l_wanted : Addr
  fd_l_wanted : FuncData
  F_l_wanted : Fun K "_law_wanted" "_law_wanted" s_l_wanted f_l_wanted fd_l_wanted
  g_l_wanted : mg "_law_wanted" = some (.ref f_l_wanted)
  b_l_wanted : Binds K fd_l_wanted ["paths", "fates", "sizes", "turned"] []
  f_l_asks : Addr
  fd_l_asks : FuncData
  F_l_asks : Fun K "_law_asks" "_law_asks" s_l_asks f_l_asks fd_l_asks
  g_l_asks : mg "_law_asks" = some (.ref f_l_asks)
  b_l_asks : Binds K fd_l_asks ["trees", "due"] []
  f_law : Addr
  fd_law : FuncData
  F_law : Fun K "law" "law" s_law f_law fd_law
  g_law : mg "law" = some (.ref f_law)
  b_law : Binds K fd_law ["script"] []
  C_PartError : Addr
  g_PartError : mg "PartError" = some (.ref C_PartError)
  C_BadTree : Addr
  g_BadTree : mg "BadTree" = some (.ref C_BadTree)
  C_TooLarge : Addr
  g_TooLarge : mg "TooLarge" = some (.ref C_TooLarge)
  fi_TooLarge : Addr
  fdi_TooLarge : FuncData
  Fi_TooLarge : Fun K "__init__" "TooLarge.__init__" (inClass (topS 3) 0) fi_TooLarge fdi_TooLarge
  bi_TooLarge : Binds K fdi_TooLarge ["self", "path"] []
  O_TooLarge : OexC K C_TooLarge
  iC_TooLarge : PySem.W.findIn K (.ref C_TooLarge) "__init__" = some (some (.ref fi_TooLarge))
  tI_TooLarge : PySem.W.typeIn K (.ref fi_TooLarge) = some (.type "function")
  N_TooLarge_path : PySem.W.findIn K (.ref C_TooLarge) "path" = some none
  XF_TooLarge : XfC K C_TooLarge
  IS_TooLarge : IsC K C_TooLarge
  M_TooLarge_TooLarge : PySem.W.exmOne K (.ref C_TooLarge) (.ref C_TooLarge) = some true
  K_TooLarge_BadTree : PySem.W.kitOne K (.ref C_TooLarge) (.ref C_BadTree) = some false
  K_TooLarge_PartError : PySem.W.kitOne K (.ref C_TooLarge) (.ref C_PartError) = some true
  K_TooLarge_ValueError : PySem.W.kitOne K (.ref C_TooLarge) (.type "ValueError") = some true
  m_ValueError : mg "ValueError" = none
  m_abs : mg "abs" = none
  m_bool : mg "bool" = none
  m_dict : mg "dict" = none
  m_int : mg "int" = none
  m_isinstance : mg "isinstance" = none
  m_len : mg "len" = none
  m_list : mg "list" = none
  m_max : mg "max" = none
  m_range : mg "range" = none
  m_sorted : mg "sorted" = none
  m_str : mg "str" = none
  m_tuple : mg "tuple" = none
  k_CLASH_START : ∃ u, mg "CLASH_START" = some u ∧ RelV (.str "<<<<<<<") u
  k_CLASH_BASE : ∃ u, mg "CLASH_BASE" = some u ∧ RelV (.str "|||||||") u
  k_CLASH_OTHER : ∃ u, mg "CLASH_OTHER" = some u ∧ RelV (.str "=======") u
  k_CLASH_END : ∃ u, mg "CLASH_END" = some u ∧ RelV (.str ">>>>>>>") u
  k_MERGED_PATHS : ∃ u, mg "MERGED_PATHS" = some u ∧ RelV (.int 8) u
  k_MERGED_LINES : ∃ u, mg "MERGED_LINES" = some u ∧ RelV (.int 40) u
section
variable {P : Program} {w : World} {K : PySem.W.Frag} {mg : Str → Option Value} {base : Heap}
theorem sc_init_TooLarge : FnScope ["self", "path"] ["self", "path"] (defScope (inClass (topS 3) 0)) := ⟨rfl, rfl, rfl, by decide +kernel, rfl, by decide +kernel, by decide +kernel⟩
theorem ok_init_TooLarge (T : Txt K mg) : FnOk P w K mg base CX0 1 T.fi_TooLarge T.fdi_TooLarge ["self", "path"] (sp_oinit T.C_TooLarge ["path"]) := by
  refine T.Fi_TooLarge.ok sc_init_TooLarge (fun vs H Q E h => sp_oinit_len h) (fun cdv A outer s H vs Q E hr h => ?_)
  refine ⟨_, (pss_one (ps_ost (pv 0) (pv 1))), ?_⟩
  obtain ⟨a, ws, rfl, hl, ha, q⟩ := h
  match ws, hl with
  | [v1], _ =>
  refine ⟨_, rfl, _, rfl, a, T.C_TooLarge, rfl, T.O_TooLarge, T.N_TooLarge_path, .inl ⟨ha, fun dx n ne => ?_⟩⟩
  have z := q dx n ne
  first | exact z | (rw [upd_over ne]; exact z) | (rw [upd_over ne, upd_over ne]; exact z)
end
local macro_rules | `(tactic| walk_at "m") => `(tactic| ((repeat (first | exact List.Mem.head _ | apply List.Mem.tail)); done))
local macro_rules | `(tactic| walk_at "h") => `(tactic| first | assumption | exact Has.gF (by assumption) (by assumption) | exact Has.get (by assumption) (by walk_at "m"))
local macro_rules | `(tactic| walk_at "c") => `(tactic| ((repeat (first | exact Chg.hd | apply Chg.tl)); done))
local macro_rules | `(tactic| walk_at "is") => `(tactic| first
  | ((with_reducible refine' is2_non ?gh ?_); (case gh => walk_at "h"))
  | (with_reducible refine is_int_list ?_)
  | (with_reducible refine is_int_tuple ?_)
  | (with_reducible refine is_int_dict ?_)
  | (with_reducible refine is_int_int ?_)
  | (with_reducible refine is_int_bool ?_)
  | (with_reducible refine is_int_str ?_)
  | ((with_reducible refine' is2_int ?gh ?_); (case gh => walk_at "h"))
  | (with_reducible refine is_str_list ?_)
  | (with_reducible refine is_str_tuple ?_)
  | (with_reducible refine is_str_dict ?_)
  | (with_reducible refine is_str_int ?_)
  | (with_reducible refine is_str_bool ?_)
  | (with_reducible refine is_str_str ?_)
  | ((with_reducible refine' is2_str ?gh ?_); (case gh => walk_at "h"))
  | (with_reducible refine is_bool_list ?_)
  | (with_reducible refine is_bool_tuple ?_)
  | (with_reducible refine is_bool_dict ?_)
  | (with_reducible refine is_bool_int ?_)
  | (with_reducible refine is_bool_bool ?_)
  | (with_reducible refine is_bool_str ?_)
  | ((with_reducible refine' is2_bool ?gh ?_); (case gh => walk_at "h"))
  | ((with_reducible refine' is_list_list ?gh ?_); (case gh => walk_at "h"))
  | ((with_reducible refine' is_list_tuple ?gh ?_); (case gh => walk_at "h"))
  | ((with_reducible refine' is_list_dict ?gh ?_); (case gh => walk_at "h"))
  | ((with_reducible refine' is_list_int ?gh ?_); (case gh => walk_at "h"))
  | ((with_reducible refine' is_list_bool ?gh ?_); (case gh => walk_at "h"))
  | ((with_reducible refine' is_list_str ?gh ?_); (case gh => walk_at "h"))
  | ((with_reducible refine' is2_list ?ga ?gb ?_); (case ga => walk_at "h"); (case gb => walk_at "h"))
  | ((with_reducible refine' is_tuple_list ?gh ?_); (case gh => walk_at "h"))
  | ((with_reducible refine' is_tuple_tuple ?gh ?_); (case gh => walk_at "h"))
  | ((with_reducible refine' is_tuple_dict ?gh ?_); (case gh => walk_at "h"))
  | ((with_reducible refine' is_tuple_int ?gh ?_); (case gh => walk_at "h"))
  | ((with_reducible refine' is_tuple_bool ?gh ?_); (case gh => walk_at "h"))
  | ((with_reducible refine' is_tuple_str ?gh ?_); (case gh => walk_at "h"))
  | ((with_reducible refine' is2_tuple ?ga ?gb ?_); (case ga => walk_at "h"); (case gb => walk_at "h"))
  | ((with_reducible refine' is_dict_list ?gh ?_); (case gh => walk_at "h"))
  | ((with_reducible refine' is_dict_tuple ?gh ?_); (case gh => walk_at "h"))
  | ((with_reducible refine' is_dict_dict ?gh ?_); (case gh => walk_at "h"))
  | ((with_reducible refine' is_dict_int ?gh ?_); (case gh => walk_at "h"))
  | ((with_reducible refine' is_dict_bool ?gh ?_); (case gh => walk_at "h"))
  | ((with_reducible refine' is_dict_str ?gh ?_); (case gh => walk_at "h"))
  | ((with_reducible refine' is2_dict ?ga ?gb ?_); (case ga => walk_at "h"); (case gb => walk_at "h")))
local macro_rules | `(tactic| walk_at "g") => `(tactic| first
  | (with_reducible refine g_seq ?_)
  | (with_reducible refine g_asg ?_)
  | ((with_reducible refine g_name ?_); dsimp only [List.set, wipe, List.map])
  | ((with_reducible refine' g_var ?gv ?_); (case gv => exact rfl))
  | (with_reducible refine g_c ?_)
  | (with_reducible refine g_op ?_)
  | (with_reducible refine g_cons ?_)
  | (with_reducible refine g_nil ?_)
  | (with_reducible refine g_cb ?_)
  | (with_reducible refine g_call ?_)
  | (with_reducible refine g_tup ?_)
  | (with_reducible refine g_lst ?_)
  | (with_reducible refine g_bm ?_)
  | (with_reducible refine g_bm0 ?_)
  | ((with_reducible refine' g_kbm ?gh ?_); (case gh => walk_at "h"))
  | (with_reducible refine g_drop ?_)
  | (with_reducible refine g_ret ?_)
  | (with_reducible refine g_retN ?_)
  | (with_reducible refine g_next ?_)
  | (with_reducible refine g_brk ?_)
  | (with_reducible refine g_cont ?_)
  | (with_reducible refine g_if ?_)
  | ((with_reducible refine' g_aug ?gv ?_); (case gv => exact rfl))
  | (with_reducible refine g_ipI ?_)
  | (with_reducible refine g_test ?_)
  | (with_reducible refine g_tB ?_)
  | (with_reducible refine g_kB ?_)
  | (with_reducible refine g_not ?_)
  | (with_reducible refine g_and ?_)
  | (with_reducible refine g_or ?_)
  | (with_reducible refine g_andV ?_)
  | (with_reducible refine g_orV ?_)
  | (with_reducible refine g_notV ?_)
  | (with_reducible refine g_ifE ?_)
  | (with_reducible refine g_addI ?_)
  | (with_reducible refine g_rI0 ?_)
  | (with_reducible refine g_eqI ?_)
  | (with_reducible refine g_eqS ?_)
  | (with_reducible refine g_neI ?_)
  | (with_reducible refine g_neS ?_)
  | (with_reducible refine g_isN ?_)
  | (with_reducible refine g_notN ?_)
  | (with_reducible refine g_int ?_)
  | (with_reducible refine g_max2 ?_)
  | (with_reducible refine g_min2 ?_)
  | ((with_reducible refine' g_lenL ?gh ?_); (case gh => walk_at "h"))
  | (with_reducible refine g_sub ?_)
  | (with_reducible refine g_gcons ?_)
  | (with_reducible refine g_gnil ?_)
  | (with_reducible refine g_un ?_)
  | (with_reducible refine g_rU ?_)
  | (with_reducible refine g_forL ?_)
  | (with_reducible refine g_forS ?_)
  | (with_reducible refine g_forR1 ?_)
  | (with_reducible refine g_forR2 ?_)
  | (with_reducible refine g_forR3 ?_)
  | (with_reducible refine g_lcL ?_)
  | (with_reducible refine g_lcR1 ?_)
  | (with_reducible refine g_lcR2 ?_)
  | (with_reducible refine g_slice ?_)
  | (with_reducible refine g_part ?_)
  | (with_reducible refine g_kOI ?_)
  | (with_reducible refine g_nopart ?_)
  | (with_reducible refine g_yes ?_)
  | ((with_reducible refine' g_wipe ?gv ?_); (case gv => exact rfl))
  | (with_reducible refine iteT ?_)
  | (with_reducible refine iteF ?_)
  | (with_reducible refine i_nf ?_)
  | (with_reducible refine i_nt ?_)
  | ((with_reducible refine' g_gtup ?gh ?gl ?_); (case gh => walk_at "h"); (case gl => exact rfl))
  | ((with_reducible refine' g_notinI ?gh ?_); (case gh => walk_at "h"))
  | ((with_reducible refine' g_inI ?gh ?_); (case gh => walk_at "h"))
  | ((with_reducible refine' g_kget2 ?gh ?_); (case gh => walk_at "h"))
  | ((with_reducible refine' g_kgotI ?gh ?_); (case gh => walk_at "h"))
  | (with_reducible refine g_tRev ?_)
  | (with_reducible refine g_neB ?_)
  | (with_reducible refine g_eqB ?_)
  | ((with_reducible refine' g_lenT ?gh ?_); (case gh => walk_at "h"))
  | (with_reducible refine g_star ?_)
  | ((with_reducible refine' g_kstarL ?gh ?_); (case gh => walk_at "h"))
  | ((with_reducible refine' g_kstarT ?gh ?_); (case gh => walk_at "h"))
  | (with_reducible refine g_tru ?_)
  | ((with_reducible refine' g_truL ?gh ?_); (case gh => walk_at "h"))
  | (with_reducible refine g_get2 ?_)
  | (with_reducible refine g_try ?_)
  | (with_reducible refine g_fld ?_)
  | (with_reducible refine g_sfld ?_)
  | (with_reducible refine g_meth ?_)
  | (with_reducible refine g_make ?_)
  | (with_reducible refine g_del ?_)
  | (with_reducible refine g_callS ?_)
  | (with_reducible refine g_raise ?_)
  | (with_reducible refine g_xf ?_)
  | (with_reducible refine g_m0 ?_)
  | (with_reducible refine g_km0 ?_)
  | walk_at "is")
local macro_rules | `(tactic| walk_at "gg") => `(tactic| repeat walk_at "g")
local macro_rules | `(tactic| walk_at "sz") => `(tactic| (refine sz ?_; simp only [List.length_cons, List.length_nil, List.length_map, List.length_append, List.length_replicate]; omega))
local macro_rules | `(tactic| walk_at "sub") => `(tactic| ((repeat (first | exact List.Sublist.slnil | with_reducible apply List.Sublist.cons_cons | with_reducible apply List.Sublist.cons)); done))

/-! ### the mathematics -/
def lc : List Str → List Str → Nat
  | [], _ => 0
  | _ :: _, [] => 0
  | x :: xs, y :: ys => if x = y then lc xs ys + 1 else max (lc xs (y :: ys)) (lc (x :: xs) ys)
termination_by xs ys => xs.length + ys.length
def mt : List Str → List Str → Nat → Nat → List (Nat × Nat)
  | [], _, _, _ => []
  | _ :: _, [], _, _ => []
  | x :: xs, y :: ys, i, j => if x = y then (i, j) :: mt xs ys (i + 1) (j + 1) else if lc xs (y :: ys) ≥ lc (x :: xs) ys then mt xs (y :: ys) (i + 1) j else mt (x :: xs) ys i (j + 1)
termination_by xs ys => xs.length + ys.length
theorem lc_nil (xs : List Str) : lc xs [] = 0 := by
  cases xs <;> rw [lc]
theorem mt_lt : ∀ (xs ys : List Str) (i j : Nat) (p : Nat × Nat), p ∈ mt xs ys i j → (i ≤ p.1 ∧ p.1 < i + xs.length) ∧ j ≤ p.2 ∧ p.2 < j + ys.length
  | [], _, _, _, _, h => by rw [mt] at h; cases h
  | _ :: _, [], _, _, _, h => by rw [mt] at h; cases h
  | x :: xs, y :: ys, i, j, p, h => by
    rw [mt] at h
    rw [List.length_cons, List.length_cons]
    split at h
    · rcases List.mem_cons.mp h with rfl | h
      · simp only; omega
      · have := mt_lt xs ys (i + 1) (j + 1) p h
        omega
    · split at h
      · have := mt_lt xs (y :: ys) (i + 1) j p h
        rw [List.length_cons] at this
        omega
      · have := mt_lt (x :: xs) ys i (j + 1) p h
        rw [List.length_cons] at this
        omega
termination_by xs ys => xs.length + ys.length
theorem lc_at {xs ys : List Str} {i j : Nat} {x y : Str} (hx : xs[i]? = some x) (hy : ys[j]? = some y) :
    lc (xs.drop i) (ys.drop j) = if x = y then lc (xs.drop (i + 1)) (ys.drop (j + 1)) + 1 else max (lc (xs.drop (i + 1)) (ys.drop j)) (lc (xs.drop i) (ys.drop (j + 1))) := by
  obtain ⟨h1, e1⟩ := List.getElem?_eq_some_iff.mp hx
  obtain ⟨h2, e2⟩ := List.getElem?_eq_some_iff.mp hy
  rw [List.drop_eq_getElem_cons h1, List.drop_eq_getElem_cons h2, e1, e2, lc]
theorem mt_at {xs ys : List Str} {i j : Nat} {x y : Str} (hx : xs[i]? = some x) (hy : ys[j]? = some y) :
    mt (xs.drop i) (ys.drop j) i j = if x = y then (i, j) :: mt (xs.drop (i + 1)) (ys.drop (j + 1)) (i + 1) (j + 1) else if lc (xs.drop (i + 1)) (ys.drop j) ≥ lc (xs.drop i) (ys.drop (j + 1)) then mt (xs.drop (i + 1)) (ys.drop j) (i + 1) j
      else mt (xs.drop i) (ys.drop (j + 1)) i (j + 1) := by
  obtain ⟨h1, e1⟩ := List.getElem?_eq_some_iff.mp hx
  obtain ⟨h2, e2⟩ := List.getElem?_eq_some_iff.mp hy
  rw [List.drop_eq_getElem_cons h1, List.drop_eq_getElem_cons h2, e1, e2, mt]
theorem mt_end {xs ys : List Str} {i j : Nat} (h : xs.length ≤ i ∨ ys.length ≤ j) : mt (xs.drop i) (ys.drop j) i j = [] := by
  rcases h with h | h
  · rw [List.drop_eq_nil_of_le h, mt]
  · rw [List.drop_eq_nil_of_le h]
    cases xs.drop i <;> rw [mt]


/-! ### longest common parts -/
theorem lc_bounds : ∀ (n : Nat) (xs ys : List Str), xs.length + ys.length ≤ n → (∀ y, lc xs ys ≤ lc xs (y :: ys) ∧ lc xs (y :: ys) ≤ lc xs ys + 1) ∧ ∀ x, lc xs ys ≤ lc (x :: xs) ys ∧ lc (x :: xs) ys ≤ lc xs ys + 1
  | 0, xs, ys, h => by
    have e1 : xs = [] := List.eq_nil_of_length_eq_zero (by omega)
    have e2 : ys = [] := List.eq_nil_of_length_eq_zero (by omega)
    subst e1 e2
    refine ⟨fun y => ?_, fun x => ?_⟩
    · rw [lc, lc]; omega
    · rw [lc, lc_nil]; omega
  | n + 1, xs, ys, h => by
    refine ⟨fun y => ?_, fun x => ?_⟩
    · cases xs with
      | nil => rw [lc, lc]; omega
      | cons a xs =>
        rw [List.length_cons] at h
        have ih := lc_bounds n xs ys (by omega)
        have i1 := ih.2 a
        have i2 := ih.1 y
        rw [lc]
        split <;> omega
    · cases ys with
      | nil => rw [lc_nil, lc_nil]; omega
      | cons b ys =>
        rw [List.length_cons] at h
        have ih := lc_bounds n xs ys (by omega)
        have i1 := ih.2 x
        have i2 := ih.1 b
        rw [lc.eq_3]
        split <;> omega
theorem lc_y (xs ys : List Str) (y : Str) : lc xs ys ≤ lc xs (y :: ys) ∧ lc xs (y :: ys) ≤ lc xs ys + 1 := (lc_bounds _ xs ys (Nat.le_refl _)).1 y
theorem lc_x (xs ys : List Str) (x : Str) : lc xs ys ≤ lc (x :: xs) ys ∧ lc (x :: xs) ys ≤ lc xs ys + 1 := (lc_bounds _ xs ys (Nat.le_refl _)).2 x
theorem lc_drop1 (xs ys : List Str) : ∀ j, lc xs (ys.drop (j + 1)) ≤ lc xs (ys.drop j) := fun j => by
  by_cases h : j < ys.length
  · rw [List.drop_eq_getElem_cons h]
    exact (lc_y _ _ _).1
  · rw [List.drop_eq_nil_of_le (by omega : ys.length ≤ j), List.drop_eq_nil_of_le (by omega : ys.length ≤ j + 1)]
    exact Nat.le_refl _
theorem lc_drop (xs ys : List Str) (j : Nat) : ∀ d, lc xs (ys.drop (j + d)) ≤ lc xs (ys.drop j)
  | 0 => Nat.le_refl _
  | d + 1 => Nat.le_trans (lc_drop1 xs ys (j + d)) (lc_drop xs ys j d)
theorem lc_mono {xs ys : List Str} {i j : Nat} (h : i ≤ j) : lc xs (ys.drop j) ≤ lc xs (ys.drop i) := by
  have := lc_drop xs ys i (j - i)
  rw [show i + (j - i) = j by omega] at this
  exact this
theorem lc_len : ∀ (xs ys : List Str), lc xs ys ≤ xs.length
  | [], _ => by rw [lc]; exact Nat.le_refl _
  | x :: xs, ys => by
    have := (lc_x xs ys x).2
    have := lc_len xs ys
    rw [List.length_cons]; omega
theorem lc_leny (xs : List Str) : ∀ (ys : List Str), lc xs ys ≤ ys.length
  | [] => by rw [lc_nil]; exact Nat.le_refl _
  | y :: ys => by
    have := (lc_y xs ys y).2
    have := lc_leny xs ys
    rw [List.length_cons]; omega
theorem lc_step (x : Str) (xs : List Str) (k : Nat) : ∀ l : List Str, k + 1 ≤ lc (x :: xs) l ↔ k + 1 ≤ lc xs l ∨ ∃ i : Nat, l[i]? = some x ∧ k ≤ lc xs (l.drop (i + 1))
  | [] => by
    rw [lc_nil, lc_nil]
    constructor
    · intro h; omega
    · rintro (h | ⟨i, h, _⟩)
      · omega
      · simp at h
  | y :: l => by
    have ih := lc_step x xs k l
    have m1 := (lc_y xs l y).1
    have m2 := (lc_y xs l y).2
    have m3 := lc_x xs (y :: l) x
    constructor
    · intro h
      rw [lc] at h
      split at h
      · rename_i e
        subst e
        exact .inr ⟨0, rfl, by show k ≤ lc xs l; omega⟩
      · by_cases h1 : k + 1 ≤ lc xs (y :: l)
        · exact .inl h1
        · have h2 : k + 1 ≤ lc (x :: xs) l := by omega
          rcases ih.mp h2 with h3 | ⟨i, h3, h4⟩
          · exact .inl (by omega)
          · exact .inr ⟨i + 1, h3, h4⟩
    · rintro (h | ⟨i, h1, h2⟩)
      · omega
      · cases i with
        | zero =>
          have e : y = x := Option.some.inj h1
          subst e
          rw [lc, if_pos rfl]
          have h2' : k ≤ lc xs l := h2
          omega
        | succ i =>
          have h3 := ih.mpr (.inr ⟨i, h1, h2⟩)
          have := (lc_y (x :: xs) l y).1
          omega
/-! ### the greatest place from which k lines are common -/
def gr (p : Nat → Bool) : Nat → Nat
  | 0 => 0
  | j + 1 => if p (j + 1) = true then j + 1 else gr p j
theorem gr_le (p : Nat → Bool) : ∀ m, gr p m ≤ m
  | 0 => Nat.le_refl _
  | m + 1 => by
    rw [gr]
    split
    · exact Nat.le_refl _
    · exact Nat.le_succ_of_le (gr_le p m)
theorem gr_ok {p : Nat → Bool} (h0 : p 0 = true) : ∀ m, p (gr p m) = true
  | 0 => h0
  | m + 1 => by
    rw [gr]
    split
    · assumption
    · exact gr_ok h0 m
theorem gr_ge {p : Nat → Bool} : ∀ {m j : Nat}, j ≤ m → p j = true → j ≤ gr p m
  | 0, j, h, _ => h
  | m + 1, j, h, hp => by
    rw [gr]
    split
    · exact h
    · rename_i hn
      rcases Nat.lt_or_ge m j with h1 | h1
      · have : j = m + 1 := by omega
        subst this
        exact (hn hp).elim
      · exact gr_ge h1 hp
def mx (xs ys : List Str) (k : Nat) : Nat := gr (fun j => decide (k ≤ lc xs (ys.drop j))) ys.length
theorem mx_le (xs ys : List Str) (k : Nat) : mx xs ys k ≤ ys.length := gr_le _ _
theorem mx_iff {xs ys : List Str} {k j : Nat} (hk : k ≤ lc xs ys) (hj : j ≤ ys.length) : j ≤ mx xs ys k ↔ k ≤ lc xs (ys.drop j) := by
  constructor
  · intro h
    have e : k ≤ lc xs (ys.drop (mx xs ys k)) := of_decide_eq_true (gr_ok (p := fun j => decide (k ≤ lc xs (ys.drop j))) (decide_eq_true hk) ys.length)
    exact Nat.le_trans e (lc_mono h)
  · intro h
    exact gr_ge (p := fun j => decide (k ≤ lc xs (ys.drop j))) hj (decide_eq_true h)
theorem mx_zero (xs ys : List Str) : mx xs ys 0 = ys.length := by
  have h := (mx_iff (xs := xs) (ys := ys) (k := 0) (j := ys.length) (Nat.zero_le _) (Nat.le_refl _)).mpr (Nat.zero_le _)
  have := mx_le xs ys 0
  omega
/-- the row of a part: the places for 0, 1, .. common lines -/
def eR (xs ys : List Str) : List Nat := (List.range (lc xs ys + 1)).map (mx xs ys)
/-- what a turn finds: M is its greatest -/
theorem mx_step {x : Str} {xs ys : List Str} {k : Nat} (hk : k ≤ lc xs ys) {M : Nat} (hin : (M < mx xs ys k ∧ ys[M]? = some x) ∨ (k + 1 ≤ lc xs ys ∧ M = mx xs ys (k + 1)))
    (hall : ∀ j, j < mx xs ys k → ys[j]? = some x → j ≤ M) (hlast : k + 1 ≤ lc xs ys → mx xs ys (k + 1) ≤ M) : k + 1 ≤ lc (x :: xs) ys ∧ M = mx (x :: xs) ys (k + 1) := by
  have key : ∀ j, j ≤ ys.length → (k + 1 ≤ lc (x :: xs) (ys.drop j) ↔ j ≤ M) := fun j hj => by
    rw [lc_step]
    constructor
    · rintro (h | ⟨i, h1, h2⟩)
      · have hk1 : k + 1 ≤ lc xs ys := Nat.le_trans h (by have := lc_mono (xs := xs) (ys := ys) (Nat.zero_le j); exact this)
        exact Nat.le_trans ((mx_iff hk1 hj).mpr h) (hlast hk1)
      · rw [List.getElem?_drop] at h1
        rw [List.drop_drop] at h2
        have hlt := (List.getElem?_eq_some_iff.mp h1).1
        have h3 : j + i < mx xs ys k := (mx_iff hk (show j + (i + 1) ≤ ys.length by omega)).mpr h2
        have := hall _ h3 h1
        omega
    · intro h
      rcases hin with ⟨h1, h2⟩ | ⟨h1, h2⟩
      · refine .inr ⟨M - j, ?_, ?_⟩
        · rw [List.getElem?_drop, show j + (M - j) = M by omega]
          exact h2
        · rw [List.drop_drop, show j + (M - j + 1) = M + 1 by omega]
          exact (mx_iff hk (by have := (List.getElem?_eq_some_iff.mp h2).1; omega)).mp h1
      · exact .inl ((mx_iff h1 hj).mp (by omega))
  have h0 : k + 1 ≤ lc (x :: xs) ys := (key 0 (Nat.zero_le _)).mpr (Nat.zero_le _)
  have hM : M ≤ ys.length := by
    rcases hin with ⟨_, h2⟩ | ⟨_, h2⟩
    · exact Nat.le_of_lt (List.getElem?_eq_some_iff.mp h2).1
    · rw [h2]; exact mx_le _ _ _
  refine ⟨h0, Nat.le_antisymm ((mx_iff h0 hM).mpr ((key M hM).mpr (Nat.le_refl _))) ?_⟩
  exact (key _ (mx_le _ _ _)).mp ((mx_iff h0 (mx_le _ _ _)).mp (Nat.le_refl _))
/-- nothing found: no more common lines -/
theorem mx_stop {x : Str} {xs ys : List Str} {k : Nat} (hk : k ≤ lc xs ys) (hno : ∀ j, j < mx xs ys k → ys[j]? ≠ some x) (hlast : ¬ k + 1 ≤ lc xs ys) : ¬ k + 1 ≤ lc (x :: xs) ys := by
  rw [lc_step]
  rintro (h | ⟨i, h1, h2⟩)
  · exact hlast h
  · have hlt := (List.getElem?_eq_some_iff.mp h1).1
    exact hno i ((mx_iff hk (show i + 1 ≤ ys.length by omega)).mpr h2) h1
theorem cnt_le (n j : Nat) (f : Nat → Nat) (p : Nat) (hp : p ≤ n) (h : ∀ k, 1 ≤ k → k ≤ n → (j ≤ f k ↔ k ≤ p)) : ((List.range n).filter fun k => decide (j ≤ f (k + 1))).length = p := by
  have e : (List.range n).filter (fun k => decide (j ≤ f (k + 1))) = (List.range n).filter (fun k => decide (k < p)) := by
    apply List.filter_congr
    intro k hk
    have hk' := List.mem_range.mp hk
    rw [decide_eq_decide]
    rw [h (k + 1) (by omega) (by omega)]
    omega
  rw [e]
  clear e h
  induction n with
  | zero =>
    have : p = 0 := by omega
    subst this
    rfl
  | succ n ih =>
    rw [List.range_succ, List.filter_append, List.length_append]
    by_cases hn : p ≤ n
    · rw [ih hn]
      have : decide (n < p) = false := decide_eq_false (by omega)
      simp [this]
    · have e2 : p = n + 1 := by omega
      subst e2
      have e3 : (List.range n).filter (fun k => decide (k < n + 1)) = List.range n := List.filter_eq_self.mpr fun k hk => decide_eq_true (by have := List.mem_range.mp hk; omega)
      rw [e3, List.length_range]
      simp
theorem eR_count {xs ys : List Str} {j : Nat} (hj : j ≤ ys.length) : (((eR xs ys).drop 1).filter fun e => decide (j ≤ e)).length = lc xs (ys.drop j) := by
  unfold eR
  rw [List.range_succ_eq_map, List.map_cons, List.drop_one, List.tail_cons, List.map_map, List.filter_map, List.length_map]
  exact cnt_le (lc xs ys) j (mx xs ys) (lc xs (ys.drop j)) (by have := lc_mono (xs := xs) (ys := ys) (Nat.zero_le j); exact this) fun k _ hk => mx_iff hk hj
/-! ### common parts -/
theorem lc_has : ∀ (xs ys : List Str), ∃ q : List Str, q.Sublist xs ∧ q.Sublist ys ∧ q.length = lc xs ys
  | [], ys => ⟨[], List.nil_sublist _, List.nil_sublist _, by rw [lc]; rfl⟩
  | x :: xs, [] => ⟨[], List.nil_sublist _, List.nil_sublist _, by rw [lc]; rfl⟩
  | x :: xs, y :: ys => by
    rw [lc]
    split
    · rename_i e
      subst e
      obtain ⟨q, h1, h2, h3⟩ := lc_has xs ys
      exact ⟨x :: q, h1.cons_cons _, h2.cons_cons _, by rw [List.length_cons, h3]⟩
    · rcases Nat.le_total (lc xs (y :: ys)) (lc (x :: xs) ys) with h | h
      · obtain ⟨q, h1, h2, h3⟩ := lc_has (x :: xs) ys
        exact ⟨q, h1, h2.cons _, by omega⟩
      · obtain ⟨q, h1, h2, h3⟩ := lc_has xs (y :: ys)
        exact ⟨q, h1.cons _, h2, by omega⟩
termination_by xs ys => xs.length + ys.length
theorem lc_most : ∀ (xs ys q : List Str), q.Sublist xs → q.Sublist ys → q.length ≤ lc xs ys
  | [], ys, q, h, _ => by rw [List.sublist_nil.mp h]; exact Nat.zero_le _
  | x :: xs, [], q, _, h => by rw [List.sublist_nil.mp h]; exact Nat.zero_le _
  | x :: xs, y :: ys, q, h1, h2 => by
    cases q with
    | nil => exact Nat.zero_le _
    | cons a q =>
      rw [List.length_cons, lc]
      have t1 : q.Sublist xs := List.cons_sublist_cons.mp (by
        cases h1 with
        | cons _ h => exact (List.Sublist.cons_cons x ((List.sublist_cons_self a q).trans h))
        | cons_cons _ h => exact List.Sublist.cons_cons x h)
      have t2 : q.Sublist ys := List.cons_sublist_cons.mp (by
        cases h2 with
        | cons _ h => exact (List.Sublist.cons_cons y ((List.sublist_cons_self a q).trans h))
        | cons_cons _ h => exact List.Sublist.cons_cons y h)
      split
      · have := lc_most xs ys q t1 t2
        omega
      · rename_i ne
        cases h1 with
        | cons _ h =>
          have := lc_most xs (y :: ys) (a :: q) h h2
          rw [List.length_cons] at this
          omega
        | cons_cons _ h =>
          cases h2 with
          | cons _ h' =>
            have := lc_most (x :: xs) ys (x :: q) (h.cons_cons _) h'
            rw [List.length_cons] at this
            omega
          | cons_cons _ h' => exact (ne rfl).elim
termination_by xs ys => xs.length + ys.length
theorem mt_length : ∀ (xs ys : List Str) (i j : Nat), (mt xs ys i j).length = lc xs ys
  | [], _, _, _ => by rw [mt, lc]; rfl
  | _ :: _, [], _, _ => by rw [mt, lc]; rfl
  | x :: xs, y :: ys, i, j => by
    rw [mt, lc]
    split
    · rw [List.length_cons, mt_length xs ys]
    · split
      · rw [mt_length xs (y :: ys)]; omega
      · rw [mt_length (x :: xs) ys]; omega
termination_by xs ys => xs.length + ys.length
theorem mt_self : ∀ (xs : List Str) (i : Nat), mt xs xs i i = (List.range xs.length).map fun k => (i + k, i + k)
  | [], i => by rw [mt]; rfl
  | x :: xs, i => by
    rw [mt, if_pos rfl, mt_self xs (i + 1), List.length_cons, List.range_succ_eq_map, List.map_cons, List.map_map]
    congr 1
    apply List.map_congr_left
    intro k _
    show (i + 1 + k, i + 1 + k) = (i + (k + 1), i + (k + 1))
    rw [show i + 1 + k = i + (k + 1) by omega]

/-! ### tables -/
def tz (n m i j k l : Nat) : Prop := i < k ∨ (i = k ∧ j ≤ l) ∨ l = m ∨ k = n
/-- the rows from (i, j) on are right -/
structure Tb (xs ys : List Str) (i j : Nat) (rows : List (Addr × List Int)) : Prop where
  len : rows.length = xs.length + 1
  wid : ∀ (k : Nat) (r : Addr × List Int), rows[k]? = some r → r.2.length = ys.length + 1
  val : ∀ (k l : Nat) (r : Addr × List Int) (z : Int), rows[k]? = some r → r.2[l]? = some z → tz xs.length ys.length i j k l → z = (lc (xs.drop k) (ys.drop l) : Nat)
theorem Tb.start {xs ys : List Str} {rows : List (Addr × List Int)} (hl : rows.length = xs.length + 1) (h : ∀ r ∈ rows, r.2 = List.replicate (ys.length + 1) 0) : Tb xs ys xs.length 0 rows := by
  refine ⟨hl, fun k r hr => ?_, fun k l r z hr hz ht => ?_⟩
  · rw [h r (List.mem_of_getElem? hr), List.length_replicate]
  · have e := h r (List.mem_of_getElem? hr)
    rw [e, List.getElem?_replicate] at hz
    have hk : k < xs.length + 1 := by rw [← hl]; exact (List.getElem?_eq_some_iff.mp hr).1
    split at hz
    · have hz' : z = 0 := (Option.some.inj hz).symm
      subst hz'
      have e0 : lc (xs.drop k) (ys.drop l) = 0 := by
        rcases ht with ht | ht | ht | ht
        · omega
        · rw [← ht.1, List.drop_length, lc]
        · rw [ht, List.drop_length, lc_nil]
        · rw [ht, List.drop_length, lc]
      rw [e0]; rfl
    · cases hz
theorem Tb.row {xs ys : List Str} {i : Nat} {rows : List (Addr × List Int)} (h : Tb xs ys (i + 1) 0 rows) : Tb xs ys i ys.length rows := by
  refine ⟨h.len, h.wid, fun k l r z hr hz ht => h.val k l r z hr hz ?_⟩
  have hl : l < ys.length + 1 := by rw [← h.wid k r hr]; exact (List.getElem?_eq_some_iff.mp hz).1
  unfold tz at *
  omega
theorem Tb.set {xs ys : List Str} {i j : Nat} {rows : List (Addr × List Int)} {r : Addr × List Int} {z : Int} (h : Tb xs ys i (j + 1) rows) (hr : rows[i]? = some r) (hz : z = (lc (xs.drop i) (ys.drop j) : Nat)) (hj : j < ys.length + 1) :
    Tb xs ys i j (rows.set i (r.1, r.2.set j z)) := by
  have hi := (List.getElem?_eq_some_iff.mp hr).1
  have hw := h.wid i r hr
  refine ⟨by rw [List.length_set]; exact h.len, fun k q hq => ?_, fun k l q y hq hy ht => ?_⟩
  · by_cases e : i = k
    · subst e
      rw [List.getElem?_set_self hi] at hq
      rw [← Option.some.inj hq, List.length_set]
      exact hw
    · rw [List.getElem?_set_ne e] at hq
      exact h.wid k q hq
  · by_cases e : i = k
    · subst e
      rw [List.getElem?_set_self hi] at hq
      rw [← Option.some.inj hq] at hy
      by_cases e2 : j = l
      · subst e2
        rw [List.getElem?_set_self (by rw [hw]; exact hj)] at hy
        rw [← Option.some.inj hy]
        exact hz
      · rw [List.getElem?_set_ne e2] at hy
        refine h.val i l r y hr hy ?_
        unfold tz at *
        omega
    · rw [List.getElem?_set_ne e] at hq
      refine h.val k l q y hq hy ?_
      unfold tz at *
      omega
/-- the same place set to something first -/
theorem Tb.any {xs ys : List Str} {i j : Nat} {rows : List (Addr × List Int)} {r : Addr × List Int} {z : Int} (h : Tb xs ys i (j + 1) rows) (hr : rows[i]? = some r) (hj : j < ys.length) (hi' : i < xs.length) : Tb xs ys i (j + 1) (rows.set i (r.1, r.2.set j z)) := by
  have hi := (List.getElem?_eq_some_iff.mp hr).1
  have hw := h.wid i r hr
  refine ⟨by rw [List.length_set]; exact h.len, fun k q hq => ?_, fun k l q y hq hy ht => ?_⟩
  · by_cases e : i = k
    · subst e
      rw [List.getElem?_set_self hi] at hq
      rw [← Option.some.inj hq, List.length_set]
      exact hw
    · rw [List.getElem?_set_ne e] at hq
      exact h.wid k q hq
  · by_cases e : i = k
    · subst e
      rw [List.getElem?_set_self hi] at hq
      rw [← Option.some.inj hq] at hy
      have e2 : j ≠ l := by unfold tz at ht; omega
      rw [List.getElem?_set_ne e2] at hy
      exact h.val i l r y hr hy ht
    · rw [List.getElem?_set_ne e] at hq
      exact h.val k l q y hq hy ht
theorem Tb.get {xs ys : List Str} {i j k l : Nat} {rows : List (Addr × List Int)} {r : Addr × List Int} (h : Tb xs ys i j rows) (hr : rows[k]? = some r) (hl : l < ys.length + 1) (ht : tz xs.length ys.length i j k l) :
    r.2[l]? = some ((lc (xs.drop k) (ys.drop l) : Nat) : Int) := by
  have hw := h.wid k r hr
  have e : l < r.2.length := by omega
  have := h.val k l r _ hr (List.getElem?_eq_getElem e) ht
  rw [List.getElem?_eq_getElem e, this]
theorem flat_rep (k : Nat) (z : Int) : (List.replicate k [V.int z]).flatten = (List.replicate k z).map V.int := by
  induction k with
  | zero => rfl
  | succ k ih =>
    rw [List.replicate_succ, List.flatten_cons, ih, List.replicate_succ]
    rfl
/-- a table that stands in H -/
def Table (H : Hp) (t : Addr) (xs ys : List Str) : Prop := ∃ rows : List (Addr × List Int), Tb xs ys 0 0 rows ∧ H t = some (.lst (rows.map fun r => V.ref r.1)) ∧ ∀ r ∈ rows, H r.1 = some (.lst (r.2.map V.int))
def prd (p : Nat × Nat) : PyData := .tuple [.int p.1, .int p.2]
section
variable {P : Program} {w : World} {K : PySem.W.Frag} {mg : Str → Option Value} {base : Heap} {σ : L2.St} {F : Hp} {O O' : Own} {H : Hp} {Q : VK} {t : Addr} {xs ys : List Str}
/-- lengths[k][l] of a table that stands -/
theorem g_tabAt {i : Int} (h : Table H t xs ys) (hi : 0 ≤ i) (hi2 : i ≤ xs.length) (q : ∀ r, H r = some (.lst ((List.range (ys.length + 1)).map fun l => V.int (lc (xs.drop i.toNat) (ys.drop l) : Nat))) → Q (.ref r) H) : rIxA K (.ref t) (.int i) H Q := by
  obtain ⟨rows, tb, h1, h2⟩ := h
  have e : i.toNat < rows.length := by rw [tb.len]; omega
  have hr := List.getElem?_eq_getElem e
  refine g_ixL h1 (at_n hi (v := .ref rows[i.toNat].1) ?_) (q _ ?_)
  · rw [List.getElem?_map, hr]
    rfl
  · rw [h2 _ (List.getElem_mem e)]
    congr 1
    congr 1
    apply List.ext_getElem?
    intro l
    rw [List.getElem?_map, List.getElem?_map]
    by_cases hl : l < ys.length + 1
    · rw [tb.get hr hl (by unfold tz; omega), List.getElem?_range hl]
      rfl
    · rw [List.getElem?_eq_none (by rw [tb.wid _ _ hr]; omega), List.getElem?_eq_none (by rw [List.length_range]; omega)]
      rfl
def sp_common_lengths (K : PySem.W.Frag) : Sp := fun vs H Q _ => ∃ (a b : Addr) (xs ys : List Str), vs = [.ref a, .ref b] ∧ H a = some (.lst (xs.map V.str)) ∧ H b = some (.lst (ys.map V.str)) ∧ xs.length ≤ 1000 ∧ ys.length ≤ 1000 ∧
  ∀ t H', Same H H' → H t = none → Table H' t xs ys → Q (.ref t) H'
theorem sp_common_lengths_len {vs H Q E} (h : sp_common_lengths K vs H Q E) : vs.length = 2 := by
  obtain ⟨_, _, _, _, rfl, _⟩ := h
  rfl
theorem ok_common_lengths (T : Txt K mg) : FnOk P w K mg base CX0 1 T.f_common_lengths T.fd_common_lengths ["old", "new"] (sp_common_lengths K) := by
  refine T.F_common_lengths.ok sc_common_lengths (fun vs H Q E h => sp_common_lengths_len h) (fun cdv A outer s H vs Q E hr h => ?_)
  refine ⟨_, (pss_cons (ps_setLc (i := 2) (own := [("_", 5)]) (g := gName 5) (tt := tYes) rfl sc_common_lengths.nd rfl rfl (sw_true rfl rfl rfl (by decide +kernel)) (pi_range1 rfl T.m_range (pa_cons (pe_op (op_addK K) (pe_callB (cr_lenK K) (by rfl) T.m_len (by decide +kernel) (pa_cons (pv 0) pa_nil)) pe_int) pa_nil)) (blkOk_by (N := n_common_lengths) (sc := defScope s_common_lengths) (by decide +kernel)) (fun _ _ _ _ _ => (pg_name (i := 5) sc_common_lengths.nd rfl (.inl rfl))) (fun _ _ _ _ _ => pts_nil) (fun _ _ _ _ _ => (pe_op op_mulA (pe_lst (pa_cons pe_int pa_nil)) (pe_op (op_addK K) (pe_callB (cr_lenK K) (by rfl) T.m_len (by decide +kernel) (pa_cons (pv 1) pa_nil)) pe_int))))
      (pss_cons (ps_for PassesOwn.never rfl (pi_range3 rfl T.m_range (pa_cons (pe_op op_sub (pe_callB (cr_lenK K) (by rfl) T.m_len (by decide +kernel) (pa_cons (pv 0) pa_nil)) pe_int) (pa_cons (pe_un un_neg pe_int) (pa_cons (pe_un un_neg pe_int) pa_nil)))) (pg_name (i := 3) sc_common_lengths.nd rfl (.inl rfl)) (pss_one (ps_for PassesOwn.never rfl (pi_range3 rfl T.m_range (pa_cons (pe_op op_sub (pe_callB (cr_lenK K) (by rfl) T.m_len (by decide +kernel) (pa_cons (pv 1) pa_nil)) pe_int) (pa_cons (pe_un un_neg pe_int) (pa_cons (pe_un un_neg pe_int) pa_nil)))) (pg_name (i := 4) sc_common_lengths.nd rfl (.inl rfl)) (pss_one (ps_if (pt_cmpR (op_eqK K hr.units) (pe_ix (ix_K K (hu_of hr)) (pv 0) (pv 3) (fun _ _ => rfl)) (pe_ix (ix_K K (hu_of hr)) (pv 1) (pv 4) (fun _ _ => rfl)) (nomark _)) (pss_one (ps_asg (pe_op (op_addK K) (pe_ix (ix_K K (hu_of hr)) (pe_ix (ix_K K (hu_of hr)) (pv 2) (pe_op (op_addK K) (pv 3) pe_int) (fun _ _ => rfl)) (pe_op (op_addK K) (pv 4) pe_int) (fun _ _ => rfl)) pe_int) (pg_sub (pe_ix (ix_K K (hu_of hr)) (pv 2) (pv 3) (fun _ _ => rfl)) (pv 4) (set_any (hu_of hr))))) (pss_one (ps_asg (pe_callB (cr_max2 rfl) (by rfl) T.m_max (by decide +kernel) (pa_cons (pe_ix (ix_K K (hu_of hr)) (pe_ix (ix_K K (hu_of hr)) (pv 2) (pe_op (op_addK K) (pv 3) pe_int) (fun _ _ => rfl)) (pv 4) (fun _ _ => rfl)) (pa_cons (pe_ix (ix_K K (hu_of hr)) (pe_ix (ix_K K (hu_of hr)) (pv 2) (pv 3) (fun _ _ => rfl)) (pe_op (op_addK K) (pv 4) pe_int) (fun _ _ => rfl)) pa_nil))) (pg_sub (pe_ix (ix_K K (hu_of hr)) (pv 2) (pv 3) (fun _ _ => rfl)) (pv 4) (set_any (hu_of hr))))))))))
      (pss_one (ps_ret (pv 2))))), ?_⟩
  obtain ⟨a, b, xs, ys, rfl, ha, hb, hx, hy, q⟩ := h
  have hH := Has.start H
  refine g_start (σ' := [some (.ref a), some (.ref b), none, none, none, none]) rfl ?_
  walk_at "gg"
  rw [List.length_map]
  refine k_lcR1 (by omega) (by omega) hH (fun i acc F' O' => ∃ rows : List (Addr × List Int), acc = rows.map (fun r => V.ref r.1) ∧ rows.length = i ∧ (∀ r ∈ rows, r.2 = List.replicate (ys.length + 1) 0) ∧ H = F' ∧ O' = rows.map rowO) ⟨[], rfl, rfl, by simp, rfl, rfl⟩ ?_ ?_
  · rintro i acc F' O' D H1 hi ⟨rows, rfl, rfl, hr, rfl, rfl⟩ hh
    walk_at "gg"
    refine g_klst (by walk_at "sz") hh (fun p1 H2 n2 h2 => ?_)
    walk_at "gg"
    rw [List.length_map]
    refine g_mulL (by walk_at "h") (by omega) (by omega) (sz (by show 1 * _ ≤ _; omega)) h2 (fun p2 H3 n3 h3 => ?_)
    have e1 : ((ys.length : Int) + 1).toNat = ys.length + 1 := by omega
    rw [e1, flat_rep] at h3
    have h4 := h3.sub (.cons₂ _ (.cons _ (List.Sublist.refl _)))
    have h5 : Has H ((D, .lst (rows.map fun r => V.ref r.1)) :: (rows ++ [(p2, List.replicate (ys.length + 1) 0)]).map rowO) H3 := by
      refine h4.perm ?_
      rw [List.map_append]
      exact ((List.Perm.cons _ (List.perm_append_singleton _ _)).trans (List.Perm.swap _ _ _))
    refine k_turn h5 (by rw [List.length_map]; omega) ⟨rows ++ [(p2, List.replicate (ys.length + 1) 0)], by rw [List.map_append]; rfl, by rw [List.length_append]; rfl, fun r h => ?_, rfl, rfl⟩
    rcases List.mem_append.mp h with h | h
    · exact hr r h
    · rw [List.mem_singleton.mp h]
  · rintro acc F' O' D H1 ⟨rows, rfl, hk, hr, rfl, rfl⟩ hh
    have hk' : rows.length = xs.length + 1 := by omega
    have tb0 := Tb.start (xs := xs) (ys := ys) hk' hr
    have hh1 : Has H (tabO D rows ++ []) H1 := by rw [List.append_nil]; exact hh
    walk_at "gg"
    refine k_forDown (n := xs.length) (by rw [List.length_map]) (by omega) (fun i σ H' => ∃ (rows : List (Addr × List Int)) (y3 y4 : Option V), σ = [some (.ref a), some (.ref b), some (.ref D), y3, y4, none] ∧ Has H (tabO D rows ++ []) H' ∧ Tb xs ys i 0 rows) ⟨rows, none, none, rfl, hh1, tb0⟩ ?_ ?_
    · rintro i σ H2 hi ⟨rows, y3, y4, rfl, h2, tb⟩
      walk_at "gg"
      refine k_forDown (n := ys.length) (by rw [List.length_map]) (by omega) (fun j σ H' => ∃ (rows : List (Addr × List Int)) (y4 : Option V), σ = [some (.ref a), some (.ref b), some (.ref D), some (.int i), y4, none] ∧ Has H (tabO D rows ++ []) H' ∧ Tb xs ys i j rows) ⟨rows, y4, rfl, h2, tb.row⟩ ?_ ?_
      · rintro j σ H3 hj ⟨rows, y4, rfl, h3, tb⟩
        have hxi : xs[i]? = some xs[i] := List.getElem?_eq_getElem hi
        have hyj : ys[j]? = some ys[j] := List.getElem?_eq_getElem hj
        have hlen := tb.len
        have hrow : ∀ k, k < xs.length + 1 → ∃ r, rows[k]? = some r := fun k hk => ⟨rows[k], List.getElem?_eq_getElem (by omega)⟩
        walk_at "gg"
        refine g_ixZ (by walk_at "h") (by omega) (by omega) (fun x hx' => ?_)
        walk_at "gg"
        refine g_ixZ (by walk_at "h") (by omega) (by omega) (fun y hy' => ?_)
        have ex : x = xs[i] := Option.some.inj (hx'.symm.trans hxi)
        have ey : y = ys[j] := Option.some.inj (hy'.symm.trans hyj)
        subst ex ey
        have la := lc_at hxi hyj
        walk_at "gg"
        refine i_d (fun e => ?_) (fun e => ?_)
        · rw [if_pos e] at la
          walk_at "gg"
          refine g_ixRow h3 (by omega) (by omega) (fun r hr h5 => ?_)
          have e1 : ((i : Int) + 1).toNat = i + 1 := by omega
          have e2 : ((j : Int) + 1).toNat = j + 1 := by omega
          rw [e1] at hr
          have hw := tb.wid _ _ hr
          walk_at "gg"
          refine g_ixI h5 (by omega) (by omega) (fun z hz => ?_)
          rw [e2, tb.get hr (by omega) (by unfold tz; omega)] at hz
          have hz' := (Option.some.inj hz).symm
          walk_at "gg"
          refine g_ixRow h3 (by omega) (by omega) (fun r2 hr2 h6 => ?_)
          walk_at "gg"
          have hr2' : rows[i]? = some r2 := hr2
          have hw2 := tb.wid _ _ hr2'
          refine g_setRow h3 hr2' (by omega) (by omega) (fun H4 h4 => ?_)
          exact ⟨_, _, rfl, h4, tb.set hr2' (by rw [la, hz']; omega) (by omega)⟩
        · rw [if_neg e] at la
          walk_at "gg"
          refine g_ixRow h3 (by omega) (by omega) (fun r hr h5 => ?_)
          have e1 : ((i : Int) + 1).toNat = i + 1 := by omega
          have e2 : ((j : Int) + 1).toNat = j + 1 := by omega
          rw [e1] at hr
          have hw := tb.wid _ _ hr
          walk_at "gg"
          refine g_ixI h5 (by omega) (by omega) (fun z hz => ?_)
          rw [show ((j : Int)).toNat = j from rfl, tb.get hr (by omega) (by unfold tz; omega)] at hz
          have hz' := (Option.some.inj hz).symm
          walk_at "gg"
          refine g_ixRow h3 (by omega) (by omega) (fun r3 hr3 h7 => ?_)
          have hr3' : rows[i]? = some r3 := hr3
          have hw3 := tb.wid _ _ hr3'
          walk_at "gg"
          refine g_ixI h7 (by omega) (by omega) (fun z3 hz3 => ?_)
          rw [e2, tb.get hr3' (by omega) (by unfold tz; omega)] at hz3
          have hz3' := (Option.some.inj hz3).symm
          walk_at "gg"
          refine g_ixRow h3 (by omega) (by omega) (fun r2 hr2 h6 => ?_)
          walk_at "gg"
          have hr2' : rows[i]? = some r2 := hr2
          have hw2 := tb.wid _ _ hr2'
          refine g_setRow h3 hr2' (by omega) (by omega) (fun H4 h4 => ?_)
          exact ⟨_, _, rfl, h4, tb.set hr2' (by rw [la, hz', hz3']; omega) (by omega)⟩
      · rintro σ H3 ⟨rows, y4, rfl, h3, tb⟩
        exact ⟨rows, _, _, rfl, h3, tb⟩
    · rintro σ H2 ⟨rows, y3, y4, rfl, h2, tb⟩
      walk_at "gg"
      exact q D H2 h2.same (hh.free) ⟨rows, tb, h2.tab, fun r hr => h2.get (List.mem_append_left _ (List.mem_cons_of_mem _ (List.mem_map.mpr ⟨r, hr, rfl⟩)))⟩
theorem Table.up {H H' : Hp} (h : Table H t xs ys) (s : Same H H') : Table H' t xs ys := by
  obtain ⟨rows, tb, h1, h2⟩ := h
  exact ⟨rows, tb, s _ _ h1, fun r hr => s _ _ (h2 r hr)⟩
def sp_matched (K : PySem.W.Frag) : Sp := fun vs H Q _ => ∃ (a b : Addr) (xs ys : List Str), vs = [.ref a, .ref b] ∧ H a = some (.lst (xs.map V.str)) ∧ H b = some (.lst (ys.map V.str)) ∧ xs.length ≤ 1000 ∧ ys.length ≤ 1000 ∧
  ∀ p H' (vs : List V), Same H H' → H p = none → H' p = some (.lst vs) → DqAll H' vs ((mt xs ys 0 0).map prd) → Q (.ref p) H'
theorem sp_matched_len {vs H Q E} (h : sp_matched K vs H Q E) : vs.length = 2 := by
  obtain ⟨_, _, _, _, rfl, _⟩ := h
  rfl
theorem ok_matched (T : Txt K mg) : FnOk P w K mg base CX0 2 T.f_matched T.fd_matched ["old", "new"] (sp_matched K) := by
  refine T.F_matched.ok sc_matched (fun vs H Q E h => sp_matched_len h) (fun cdv A outer s H vs Q E hr h => ?_)
  refine ⟨_, (pss_cons (ps_set (i := 2) sc_matched.nd rfl (.inl rfl) (pe_call (ok_common_lengths T) (hr.mono (by decide)) (by rfl) T.g_common_lengths T.F_common_lengths.kp T.b_common_lengths .nil pass0 (pa_cons (pv 0) (pa_cons (pv 1) pa_nil))))
      (pss_cons (ps_set (i := 3) sc_matched.nd rfl (.inl rfl) (pe_lst pa_nil))
      (pss_cons (ps_set (i := 4) sc_matched.nd rfl (.inl rfl) pe_int)
      (pss_cons (ps_set (i := 5) sc_matched.nd rfl (.inl rfl) pe_int)
      (pss_cons (ps_while PassesOwn.never (PW.pt (pw_and (pt_cmpR op_lt (pv 4) (pe_callB (cr_lenK K) (by rfl) T.m_len (by decide +kernel) (pa_cons (pv 0) pa_nil)) (nomark _)) (pw_and1 (pt_cmpR op_lt (pv 5) (pe_callB (cr_lenK K) (by rfl) T.m_len (by decide +kernel) (pa_cons (pv 1) pa_nil)) (nomark _))))) (pss_one (ps_if (pt_cmpR (op_eqK K hr.units) (pe_ix (ix_K K (hu_of hr)) (pv 0) (pv 4) (fun _ _ => rfl)) (pe_ix (ix_K K (hu_of hr)) (pv 1) (pv 5) (fun _ _ => rfl)) (nomark _)) (pss_cons (ps_expr (k_bm K (pe_bm PySem.F.plainAttrs_list PySem.F.slot_list_append PySem.F.type_list_append mt_append (pv 3) (pa_cons (pe_tup (pa_cons (pv 4) (pa_cons (pv 5) pa_nil))) pa_nil))))
      (pss_cons (ps_aug (i := 4) sc_matched.nd rfl (.inl rfl) pe_int ip_add)
      (pss_one (ps_aug (i := 5) sc_matched.nd rfl (.inl rfl) pe_int ip_add)))) (pss_one (ps_if (pt_cmpR op_ge (pe_ix (ix_K K (hu_of hr)) (pe_ix (ix_K K (hu_of hr)) (pv 2) (pe_op (op_addK K) (pv 4) pe_int) (fun _ _ => rfl)) (pv 5) (fun _ _ => rfl)) (pe_ix (ix_K K (hu_of hr)) (pe_ix (ix_K K (hu_of hr)) (pv 2) (pv 4) (fun _ _ => rfl)) (pe_op (op_addK K) (pv 5) pe_int) (fun _ _ => rfl)) (nomark _)) (pss_one (ps_aug (i := 4) sc_matched.nd rfl (.inl rfl) pe_int ip_add)) (pss_one (ps_aug (i := 5) sc_matched.nd rfl (.inl rfl) pe_int ip_add)))))))
      (pss_one (ps_ret (pv 3)))))))), ?_⟩
  obtain ⟨a, b, xs, ys, rfl, ha, hb, hx, hy, q⟩ := h
  refine g_start (σ' := [some (.ref a), some (.ref b), none, none, none, none]) rfl ?_
  walk_at "gg"
  refine ⟨a, b, xs, ys, rfl, ha, hb, hx, hy, fun t H1 s0 n1 tab => ?_⟩
  have ha1 := s0 _ _ ha
  have hb1 := s0 _ _ hb
  have hH := Has.start H1
  walk_at "gg"
  refine g_klst (by walk_at "sz") hH (fun p H2 n2 h2 => ?_)
  walk_at "gg"
  refine g_while (fun k σ H' => ∃ (i j : Nat) (acc : List (Nat × Nat)) (vs : List V) (F : Hp), σ = [some (.ref a), some (.ref b), some (.ref t), some (.ref p), some (.int i), some (.int j)] ∧ Same H1 F ∧ Has F [(p, .lst vs)] H' ∧ DqAll F vs (acc.map prd) ∧ acc ++ mt (xs.drop i) (ys.drop j) i j = mt xs ys 0 0 ∧ i ≤ xs.length ∧ j ≤ ys.length ∧ acc.length ≤ i ∧ k = (xs.length - i) + (ys.length - j)) _ ⟨0, 0, [], [], H1, rfl, Same.refl _, h2, .nil, by simp, by omega, by omega, by simp, rfl⟩ ?_
  · rintro k σ H3 ⟨i, j, acc, vs, F, rfl, sF, h3, dq, ea, hi, hj, hac, rfl⟩
    have ha3 : F a = some (.lst (xs.map V.str)) := sF _ _ ha1
    have hb3 : F b = some (.lst (ys.map V.str)) := sF _ _ hb1
    have tab3 : Table H3 t xs ys := (tab.up sF).up h3.same
    refine g_fact (fun c => c = true ↔ (i < xs.length ∧ j < ys.length)) (fun R r => ?_) (fun c hc => ?_)
    · walk_at "gg"
      rw [List.length_map]
      refine i_d (fun l1 => ?_) (fun l1 => r _ ⟨fun z => (Bool.false_ne_true z).elim, fun z => by omega⟩)
      walk_at "gg"
      rw [List.length_map]
      exact r _ ⟨fun z => by have := of_decide_eq_true z; omega, fun z => decide_eq_true (by omega)⟩
    cases c with
    | true =>
      have hij := hc.mp rfl
      have hxi : xs[i]? = some xs[i] := List.getElem?_eq_getElem hij.1
      have hyj : ys[j]? = some ys[j] := List.getElem?_eq_getElem hij.2
      have ma := mt_at hxi hyj
      refine kwh_t ?_
      walk_at "gg"
      refine g_ixZ (by walk_at "h") (by omega) (by omega) (fun x hx' => ?_)
      walk_at "gg"
      refine g_ixZ (by walk_at "h") (by omega) (by omega) (fun y hy' => ?_)
      have ex : x = xs[i] := Option.some.inj (hx'.symm.trans hxi)
      have ey : y = ys[j] := Option.some.inj (hy'.symm.trans hyj)
      subst ex ey
      walk_at "gg"
      refine i_d (fun e => ?_) (fun e => ?_)
      · rw [if_pos e] at ma
        walk_at "gg"
        refine g_ktupF (by walk_at "sz") h3 (fun T H4 F' n4 s4 hT h4 => ?_)
        walk_at "gg"
        have hvl : vs.length = acc.length := by rw [dq.len, List.length_map]
        refine g_append h4 (by walk_at "c") (szl (by omega)) (fun H5 h5 => ?_)
        walk_at "gg"
        refine ⟨(xs.length - (i + 1)) + (ys.length - (j + 1)), by omega, i + 1, j + 1, acc ++ [(i, j)], _, F', rfl, sF.trans s4, h5, ?_, ?_, by omega, by omega, by rw [List.length_append]; show acc.length + 1 ≤ _; omega, rfl⟩
        · rw [List.map_append]
          exact (dq.up s4 _ _).snoc (.tup hT (.cons (.int _) (.cons (.int _) .nil)))
        · rw [← ea, ma, List.append_assoc]
          rfl
      · rw [if_neg e] at ma
        walk_at "gg"
        refine g_tabAt tab3 (by omega) (by omega) (fun r hr => ?_)
        walk_at "gg"
        refine g_ixV hr (by omega) (by rw [List.length_map, List.length_range]; omega) (fun v hv => ?_)
        rw [List.getElem?_map, List.getElem?_range (by omega)] at hv
        have hv' := (Option.some.inj hv).symm
        subst hv'
        walk_at "gg"
        refine g_tabAt tab3 (by omega) (by omega) (fun r hr => ?_)
        walk_at "gg"
        refine g_ixV hr (by omega) (by rw [List.length_map, List.length_range]; omega) (fun v hv => ?_)
        rw [List.getElem?_map, List.getElem?_range (by omega)] at hv
        have hv' := (Option.some.inj hv).symm
        subst hv'
        walk_at "gg"
        have e1 : ((i : Int) + 1).toNat = i + 1 := by omega
        have e2 : ((j : Int) + 1).toNat = j + 1 := by omega
        rw [e1, e2]
        refine i_d (fun g => ?_) (fun g => ?_)
        · have g' : lc (xs.drop (i + 1)) (ys.drop j) ≥ lc (xs.drop i) (ys.drop (j + 1)) := Int.ofNat_le.mp g
          rw [if_pos g'] at ma
          walk_at "gg"
          exact ⟨(xs.length - (i + 1)) + (ys.length - j), by omega, i + 1, j, acc, vs, F, rfl, sF, h3, dq, by rw [← ea, ma], by omega, hj, by omega, rfl⟩
        · have g' : ¬ lc (xs.drop (i + 1)) (ys.drop j) ≥ lc (xs.drop i) (ys.drop (j + 1)) := fun z => g (Int.ofNat_le.mpr z)
          rw [if_neg g'] at ma
          walk_at "gg"
          exact ⟨(xs.length - i) + (ys.length - (j + 1)), by omega, i, j + 1, acc, vs, F, rfl, sF, h3, dq, by rw [← ea, ma], hi, by omega, by omega, rfl⟩
    | false =>
      have hij : xs.length ≤ i ∨ ys.length ≤ j := by
        have : ¬ (i < xs.length ∧ j < ys.length) := fun z => Bool.false_ne_true (hc.mpr z)
        omega
      refine kwh_f ?_
      rw [mt_end hij, List.append_nil] at ea
      subst ea
      walk_at "gg"
      exact q p H3 vs (s0.trans (sF.trans h3.same)) (s0.free n2) (by walk_at "h") (dq.up h3.same _ _)

end

theorem prd_inv {F : Hp} {v : V} {p : Nat × Nat} (h : Dq F v (prd p)) : ∃ T, v = .ref T ∧ F T = some (.tup [.int p.1, .int p.2]) := by
  cases h with
  | tup hT hs =>
    cases hs with
    | cons h1 hs =>
      cases hs with
      | cons h2 hs =>
        cases hs
        cases h1
        cases h2
        exact ⟨_, rfl, hT⟩
theorem prd_rm {H : Hp} {a : Addr} {o : HO} (h : H a = some o) (ho : ∀ xs, o ≠ .tup xs) : ∀ {vs : List V} {ps : List (Nat × Nat)}, DqAll H vs (ps.map prd) → DqAll (rm H a) vs (ps.map prd)
  | _, [], .nil => .nil
  | _, p :: ps, .cons d t => by
    refine .cons ?_ (prd_rm h ho t)
    obtain ⟨T, rfl, hT⟩ := prd_inv d
    refine .tup ?_ (.cons (.int _) (.cons (.int _) .nil))
    rw [rm_ne (ne_of hT h (fun e => ho _ e.symm))]
    exact hT
theorem prd_re {F H : Hp} {O : Own} (h : Has F O H) (ho : ∀ p ∈ O, ∀ xs, p.2 ≠ .tup xs) : ∀ {vs : List V} {ps : List (Nat × Nat)}, DqAll H vs (ps.map prd) → DqAll (rmO O H) vs (ps.map prd)
  | _, [], .nil => .nil
  | _, p :: ps, .cons d t => by
    refine .cons ?_ (prd_re h ho t)
    obtain ⟨T, rfl, hT⟩ := prd_inv d
    exact .tup (h.re_of hT fun p hp => ho p hp _) (.cons (.int _) (.cons (.int _) .nil))

end K10

namespace K10
open PySem PySem.Spec PyProof.Rows L2 Qk
local macro_rules | `(tactic| walk_at "m") => `(tactic| ((repeat (first | exact List.Mem.head _ | apply List.Mem.tail)); done))
local macro_rules | `(tactic| walk_at "h") => `(tactic| first | assumption | exact Has.gF (by assumption) (by assumption) | exact Has.get (by assumption) (by walk_at "m"))
local macro_rules | `(tactic| walk_at "c") => `(tactic| ((repeat (first | exact Chg.hd | apply Chg.tl)); done))
local macro_rules | `(tactic| walk_at "is") => `(tactic| first
  | ((with_reducible refine' is2_non ?gh ?_); (case gh => walk_at "h"))
  | (with_reducible refine is_int_list ?_)
  | (with_reducible refine is_int_tuple ?_)
  | (with_reducible refine is_int_dict ?_)
  | (with_reducible refine is_int_int ?_)
  | (with_reducible refine is_int_bool ?_)
  | (with_reducible refine is_int_str ?_)
  | ((with_reducible refine' is2_int ?gh ?_); (case gh => walk_at "h"))
  | (with_reducible refine is_str_list ?_)
  | (with_reducible refine is_str_tuple ?_)
  | (with_reducible refine is_str_dict ?_)
  | (with_reducible refine is_str_int ?_)
  | (with_reducible refine is_str_bool ?_)
  | (with_reducible refine is_str_str ?_)
  | ((with_reducible refine' is2_str ?gh ?_); (case gh => walk_at "h"))
  | (with_reducible refine is_bool_list ?_)
  | (with_reducible refine is_bool_tuple ?_)
  | (with_reducible refine is_bool_dict ?_)
  | (with_reducible refine is_bool_int ?_)
  | (with_reducible refine is_bool_bool ?_)
  | (with_reducible refine is_bool_str ?_)
  | ((with_reducible refine' is2_bool ?gh ?_); (case gh => walk_at "h"))
  | ((with_reducible refine' is_list_list ?gh ?_); (case gh => walk_at "h"))
  | ((with_reducible refine' is_list_tuple ?gh ?_); (case gh => walk_at "h"))
  | ((with_reducible refine' is_list_dict ?gh ?_); (case gh => walk_at "h"))
  | ((with_reducible refine' is_list_int ?gh ?_); (case gh => walk_at "h"))
  | ((with_reducible refine' is_list_bool ?gh ?_); (case gh => walk_at "h"))
  | ((with_reducible refine' is_list_str ?gh ?_); (case gh => walk_at "h"))
  | ((with_reducible refine' is2_list ?ga ?gb ?_); (case ga => walk_at "h"); (case gb => walk_at "h"))
  | ((with_reducible refine' is_tuple_list ?gh ?_); (case gh => walk_at "h"))
  | ((with_reducible refine' is_tuple_tuple ?gh ?_); (case gh => walk_at "h"))
  | ((with_reducible refine' is_tuple_dict ?gh ?_); (case gh => walk_at "h"))
  | ((with_reducible refine' is_tuple_int ?gh ?_); (case gh => walk_at "h"))
  | ((with_reducible refine' is_tuple_bool ?gh ?_); (case gh => walk_at "h"))
  | ((with_reducible refine' is_tuple_str ?gh ?_); (case gh => walk_at "h"))
  | ((with_reducible refine' is2_tuple ?ga ?gb ?_); (case ga => walk_at "h"); (case gb => walk_at "h"))
  | ((with_reducible refine' is_dict_list ?gh ?_); (case gh => walk_at "h"))
  | ((with_reducible refine' is_dict_tuple ?gh ?_); (case gh => walk_at "h"))
  | ((with_reducible refine' is_dict_dict ?gh ?_); (case gh => walk_at "h"))
  | ((with_reducible refine' is_dict_int ?gh ?_); (case gh => walk_at "h"))
  | ((with_reducible refine' is_dict_bool ?gh ?_); (case gh => walk_at "h"))
  | ((with_reducible refine' is_dict_str ?gh ?_); (case gh => walk_at "h"))
  | ((with_reducible refine' is2_dict ?ga ?gb ?_); (case ga => walk_at "h"); (case gb => walk_at "h")))
local macro_rules | `(tactic| walk_at "g") => `(tactic| first
  | (with_reducible refine g_seq ?_)
  | (with_reducible refine g_asg ?_)
  | ((with_reducible refine g_name ?_); dsimp only [List.set, wipe, List.map])
  | ((with_reducible refine' g_var ?gv ?_); (case gv => exact rfl))
  | (with_reducible refine g_c ?_)
  | (with_reducible refine g_op ?_)
  | (with_reducible refine g_cons ?_)
  | (with_reducible refine g_nil ?_)
  | (with_reducible refine g_cb ?_)
  | (with_reducible refine g_call ?_)
  | (with_reducible refine g_tup ?_)
  | (with_reducible refine g_lst ?_)
  | (with_reducible refine g_bm ?_)
  | (with_reducible refine g_bm0 ?_)
  | ((with_reducible refine' g_kbm ?gh ?_); (case gh => walk_at "h"))
  | (with_reducible refine g_drop ?_)
  | (with_reducible refine g_ret ?_)
  | (with_reducible refine g_retN ?_)
  | (with_reducible refine g_next ?_)
  | (with_reducible refine g_brk ?_)
  | (with_reducible refine g_cont ?_)
  | (with_reducible refine g_if ?_)
  | ((with_reducible refine' g_aug ?gv ?_); (case gv => exact rfl))
  | (with_reducible refine g_ipI ?_)
  | (with_reducible refine g_test ?_)
  | (with_reducible refine g_tB ?_)
  | (with_reducible refine g_kB ?_)
  | (with_reducible refine g_not ?_)
  | (with_reducible refine g_and ?_)
  | (with_reducible refine g_or ?_)
  | (with_reducible refine g_andV ?_)
  | (with_reducible refine g_orV ?_)
  | (with_reducible refine g_notV ?_)
  | (with_reducible refine g_ifE ?_)
  | (with_reducible refine g_addI ?_)
  | (with_reducible refine g_rI0 ?_)
  | (with_reducible refine g_eqI ?_)
  | (with_reducible refine g_eqS ?_)
  | (with_reducible refine g_neI ?_)
  | (with_reducible refine g_neS ?_)
  | (with_reducible refine g_isN ?_)
  | (with_reducible refine g_notN ?_)
  | (with_reducible refine g_int ?_)
  | (with_reducible refine g_max2 ?_)
  | (with_reducible refine g_min2 ?_)
  | ((with_reducible refine' g_lenL ?gh ?_); (case gh => walk_at "h"))
  | (with_reducible refine g_sub ?_)
  | (with_reducible refine g_gcons ?_)
  | (with_reducible refine g_gnil ?_)
  | (with_reducible refine g_un ?_)
  | (with_reducible refine g_rU ?_)
  | (with_reducible refine g_forL ?_)
  | (with_reducible refine g_forS ?_)
  | (with_reducible refine g_forR1 ?_)
  | (with_reducible refine g_forR2 ?_)
  | (with_reducible refine g_forR3 ?_)
  | (with_reducible refine g_lcL ?_)
  | (with_reducible refine g_lcR1 ?_)
  | (with_reducible refine g_lcR2 ?_)
  | (with_reducible refine g_slice ?_)
  | (with_reducible refine g_part ?_)
  | (with_reducible refine g_kOI ?_)
  | (with_reducible refine g_nopart ?_)
  | (with_reducible refine g_yes ?_)
  | ((with_reducible refine' g_wipe ?gv ?_); (case gv => exact rfl))
  | (with_reducible refine iteT ?_)
  | (with_reducible refine iteF ?_)
  | (with_reducible refine i_nf ?_)
  | (with_reducible refine i_nt ?_)
  | ((with_reducible refine' g_gtup ?gh ?gl ?_); (case gh => walk_at "h"); (case gl => exact rfl))
  | ((with_reducible refine' g_notinI ?gh ?_); (case gh => walk_at "h"))
  | ((with_reducible refine' g_inI ?gh ?_); (case gh => walk_at "h"))
  | ((with_reducible refine' g_kget2 ?gh ?_); (case gh => walk_at "h"))
  | ((with_reducible refine' g_kgotI ?gh ?_); (case gh => walk_at "h"))
  | (with_reducible refine g_tRev ?_)
  | (with_reducible refine g_neB ?_)
  | (with_reducible refine g_eqB ?_)
  | ((with_reducible refine' g_lenT ?gh ?_); (case gh => walk_at "h"))
  | (with_reducible refine g_star ?_)
  | ((with_reducible refine' g_kstarL ?gh ?_); (case gh => walk_at "h"))
  | ((with_reducible refine' g_kstarT ?gh ?_); (case gh => walk_at "h"))
  | (with_reducible refine g_tru ?_)
  | ((with_reducible refine' g_truL ?gh ?_); (case gh => walk_at "h"))
  | (with_reducible refine g_get2 ?_)
  | (with_reducible refine g_try ?_)
  | (with_reducible refine g_fld ?_)
  | (with_reducible refine g_sfld ?_)
  | (with_reducible refine g_meth ?_)
  | (with_reducible refine g_make ?_)
  | (with_reducible refine g_del ?_)
  | (with_reducible refine g_callS ?_)
  | (with_reducible refine g_raise ?_)
  | (with_reducible refine g_xf ?_)
  | (with_reducible refine g_m0 ?_)
  | (with_reducible refine g_km0 ?_)
  | walk_at "is")
local macro_rules | `(tactic| walk_at "gg") => `(tactic| repeat walk_at "g")
local macro_rules | `(tactic| walk_at "sz") => `(tactic| (refine sz ?_; simp only [List.length_cons, List.length_nil, List.length_map, List.length_append, List.length_replicate]; omega))
local macro_rules | `(tactic| walk_at "sub") => `(tactic| ((repeat (first | exact List.Sublist.slnil | with_reducible apply List.Sublist.cons_cons | with_reducible apply List.Sublist.cons)); done))

/-! ### _law_same, trees among the data -/
/-- what _law_same finds the same, n deep -/
def Sm (H : Hp) : Nat → V → V → Prop
  | 0, _, _ => False
  | n + 1, x, y => (x = .non ∧ y = .non) ∨ (∃ i : Int, x = .int i ∧ y = .int i) ∨ (∃ z : Str, x = .str z ∧ y = .str z) ∨
    (∃ (a b : Addr) (xs ys : List V), x = .ref a ∧ y = .ref b ∧ ((H a = some (.lst xs) ∧ H b = some (.lst ys)) ∨ (H a = some (.tup xs) ∧ H b = some (.tup ys))) ∧ xs.length = ys.length ∧ xs.length ≤ 100000 ∧ ∀ (i : Nat) (u v : V), xs[i]? = some u → ys[i]? = some v → Sm H n u v) ∨
    (∃ (a b : Addr) (A : Tr), x = .ref a ∧ y = .ref b ∧ TrAt H a A ∧ TrAt H b A ∧ 2 ≤ n ∧ A.length ≤ 1000 ∧ ∀ p ∈ A, p.2.length ≤ 1000)
theorem Sm.up {H H' : Hp} (s : Same H H') : ∀ {n : Nat} {x y : V}, Sm H n x y → Sm H' n x y
  | 0, _, _, h => h.elim
  | n + 1, _, _, h => by
    rcases h with h | h | h | ⟨a, b, xs, ys, e1, e2, h1, l1, l2, h2⟩ | ⟨a, b, A, e1, e2, t1, t2, r⟩
    · exact .inl h
    · exact .inr (.inl h)
    · exact .inr (.inr (.inl h))
    · refine .inr (.inr (.inr (.inl ⟨a, b, xs, ys, e1, e2, ?_, l1, l2, fun i u v hu hv => (h2 i u v hu hv).up s⟩)))
      rcases h1 with h1 | h1
      · exact .inl ⟨s _ _ h1.1, s _ _ h1.2⟩
      · exact .inr ⟨s _ _ h1.1, s _ _ h1.2⟩
    · exact .inr (.inr (.inr (.inr ⟨a, b, A, e1, e2, t1.up s, t2.up s, r⟩)))
theorem Sm.strs {H : Hp} {n : Nat} {a b : Addr} {xs : List Str} (ha : H a = some (.lst (xs.map V.str))) (hb : H b = some (.lst (xs.map V.str))) (l : xs.length ≤ 100000) : Sm H (n + 2) (.ref a) (.ref b) := by
  refine .inr (.inr (.inr (.inl ⟨a, b, _, _, rfl, rfl, .inl ⟨ha, hb⟩, rfl, by rw [List.length_map]; exact l, fun i u v hu hv => ?_⟩)))
  rw [hu] at hv
  injection hv with hv
  subst hv
  rw [List.getElem?_map] at hu
  obtain ⟨z, _, rfl⟩ := Option.map_eq_some_iff.mp hu
  exact .inr (.inr (.inl ⟨z, rfl, rfl⟩))
theorem Sm.non {H : Hp} {n : Nat} : Sm H (n + 1) .non .non := .inl ⟨rfl, rfl⟩
theorem Sm.int {H : Hp} {n : Nat} {i : Int} : Sm H (n + 1) (.int i) (.int i) := .inr (.inl ⟨i, rfl, rfl⟩)
theorem Sm.tree {H : Hp} {n : Nat} {a b : Addr} {A : Tr} (h1 : TrAt H a A) (h2 : TrAt H b A) (l : A.length ≤ 1000) (lt : ∀ p ∈ A, p.2.length ≤ 1000) : Sm H (n + 3) (.ref a) (.ref b) := .inr (.inr (.inr (.inr ⟨a, b, A, rfl, rfl, h1, h2, by omega, l, lt⟩)))
section
variable {P : Program} {w : World} {K : PySem.W.Frag} {mg : Str → Option Value} {base : Heap}
def sp_l_same_n (K : PySem.W.Frag) (n : Nat) : Sp := fun vs H Q _ => ∃ (x y : V), vs = [x, y] ∧ Sm H n x y ∧ ∀ H', Same H H' → Q (.bl true) H'
theorem sp_l_same_n_len {n vs H Q E} (h : sp_l_same_n K n vs H Q E) : vs.length = 2 := by
  obtain ⟨_, _, rfl, _⟩ := h
  rfl
set_option maxHeartbeats 1000000 in
theorem ok_l_same_n (T : Txt K mg) (n : Nat) : FnOk P w K mg base CX0 n T.f_l_same T.fd_l_same ["told", "due"] (sp_l_same_n K n) := by
  induction n with
  | zero =>
    refine ⟨fun _ _ _ _ h => sp_l_same_n_len h, fun _ _ _ _ _ _ _ _ _ _ _ _ _ h => ?_⟩
    obtain ⟨_, _, _, h, _⟩ := h
    exact h.elim
  | succ n GR =>
  refine T.F_l_same.ok sc_l_same (fun vs H Q E h => sp_l_same_n_len h) (fun cdv A outer s H vs Q E hr h => ?_)
  refine ⟨_, (pss_cons (ps_if (pt_val (pe_callB (cr_isK K) (by rfl) T.m_isinstance (by decide +kernel) (pa_cons (pv 1) (pa_cons (pe_tup (pa_cons (pe_bltn (v := .ty "list") (by rfl) T.m_list (by decide +kernel) rfl) (pa_cons (pe_bltn (v := .ty "tuple") (by rfl) T.m_tuple (by decide +kernel) rfl) pa_nil))) pa_nil)))) (pss_cons (ps_if (pt_cmpR (op_neK K hr.units) (pe_callB (cr_isK K) (by rfl) T.m_isinstance (by decide +kernel) (pa_cons (pv 0) (pa_cons (pe_bltn (v := .ty "list") (by rfl) T.m_list (by decide +kernel) rfl) pa_nil))) (pe_callB (cr_isK K) (by rfl) T.m_isinstance (by decide +kernel) (pa_cons (pv 1) (pa_cons (pe_bltn (v := .ty "list") (by rfl) T.m_list (by decide +kernel) rfl) pa_nil))) (nomark _)) (pss_one (ps_ret pe_bl)) pss_nil)
      (pss_cons (ps_if (PW.pt (pw_or (pt_cmpR (op_neK K hr.units) (pe_callB (cr_isK K) (by rfl) T.m_isinstance (by decide +kernel) (pa_cons (pv 0) (pa_cons (pe_bltn (v := .ty "tuple") (by rfl) T.m_tuple (by decide +kernel) rfl) pa_nil))) (pe_callB (cr_isK K) (by rfl) T.m_isinstance (by decide +kernel) (pa_cons (pv 1) (pa_cons (pe_bltn (v := .ty "tuple") (by rfl) T.m_tuple (by decide +kernel) rfl) pa_nil))) (nomark _)) (pw_or1 (pt_cmpR (op_neK K hr.units) (pe_callB (cr_lenK K) (by rfl) T.m_len (by decide +kernel) (pa_cons (pv 0) pa_nil)) (pe_callB (cr_lenK K) (by rfl) T.m_len (by decide +kernel) (pa_cons (pv 1) pa_nil)) (nomark _))))) (pss_one (ps_ret pe_bl)) pss_nil)
      (pss_cons (ps_for PassesOwn.never rfl (pi_range1 rfl T.m_range (pa_cons (pe_callB (cr_lenK K) (by rfl) T.m_len (by decide +kernel) (pa_cons (pv 1) pa_nil)) pa_nil)) (pg_name (i := 2) sc_l_same.nd rfl (.inl rfl)) (pss_one (ps_if (pt_not (pt_val (pe_call GR hr (by rfl) T.g_l_same T.F_l_same.kp T.b_l_same .nil pass0 (pa_cons (pe_ix (ix_K K (hu_of hr)) (pv 0) (pv 2) (fun _ _ => rfl)) (pa_cons (pe_ix (ix_K K (hu_of hr)) (pv 1) (pv 2) (fun _ _ => rfl)) pa_nil))))) (pss_one (ps_ret pe_bl)) pss_nil)))
      (pss_one (ps_ret pe_bl))))) pss_nil)
      (pss_cons (ps_if (pt_val (pe_callB (cr_isK K) (by rfl) T.m_isinstance (by decide +kernel) (pa_cons (pv 1) (pa_cons (pe_bltn (v := .ty "dict") (by rfl) T.m_dict (by decide +kernel) rfl) pa_nil)))) (pss_cons (ps_if (PW.pt (pw_or (pt_not (pt_val (pe_callB (cr_isK K) (by rfl) T.m_isinstance (by decide +kernel) (pa_cons (pv 0) (pa_cons (pe_bltn (v := .ty "dict") (by rfl) T.m_dict (by decide +kernel) rfl) pa_nil))))) (pw_or1 (pt_not (pt_val (pe_call GR hr (by rfl) T.g_l_same T.F_l_same.kp T.b_l_same .nil pass0 (pa_cons (pe_callTy (cr_listD rfl) (by rfl) T.m_list (by decide +kernel) (pa_cons (pv 0) pa_nil)) (pa_cons (pe_callTy (cr_listD rfl) (by rfl) T.m_list (by decide +kernel) (pa_cons (pv 1) pa_nil)) pa_nil)))))))) (pss_one (ps_ret pe_bl)) pss_nil)
      (pss_cons (ps_lock (ps_for PassesOwn.never rfl (pi_keys (pv 1)) (pg_name (i := 3) sc_l_same.nd rfl (.inl rfl)) (pss_one (ps_if (pt_not (pt_val (pe_call GR hr (by rfl) T.g_l_same T.F_l_same.kp T.b_l_same .nil pass0 (pa_cons (pe_ix (ix_K K (hu_of hr)) (pv 0) (pv 3) (fun _ _ => rfl)) (pa_cons (pe_ix (ix_K K (hu_of hr)) (pv 1) (pv 3) (fun _ _ => rfl)) pa_nil))))) (pss_one (ps_ret pe_bl)) pss_nil))))
      (pss_one (ps_ret pe_bl)))) pss_nil)
      (pss_cons (ps_if (pt_cmpR op_isNA (pv 1) pe_non (nomark _)) (pss_one (ps_ret (pe_cmpR op_isNA (pv 0) pe_non (nomark _)))) pss_nil)
      (pss_cons (ps_if (pt_val (pe_callB (cr_isK K) (by rfl) T.m_isinstance (by decide +kernel) (pa_cons (pv 1) (pa_cons (pe_bltn (v := .ty "int") (by rfl) T.m_int (by decide +kernel) rfl) pa_nil)))) (pss_one (ps_ret (pe_and (pe_callB (cr_isK K) (by rfl) T.m_isinstance (by decide +kernel) (pa_cons (pv 0) (pa_cons (pe_bltn (v := .ty "int") (by rfl) T.m_int (by decide +kernel) rfl) pa_nil))) (pe_and (pe_not (pe_callB (cr_isK K) (by rfl) T.m_isinstance (by decide +kernel) (pa_cons (pv 0) (pa_cons (pe_bltn (v := .ty "bool") (by rfl) T.m_bool (by decide +kernel) rfl) pa_nil)))) (pe_one (pe_cmpR (op_eqK K hr.units) (pv 0) (pv 1) (nomark _))))))) pss_nil)
      (pss_one (ps_ret (pe_and (pe_callB (cr_isK K) (by rfl) T.m_isinstance (by decide +kernel) (pa_cons (pv 0) (pa_cons (pe_bltn (v := .ty "str") (by rfl) T.m_str (by decide +kernel) rfl) pa_nil))) (pe_one (pe_cmpR (op_eqK K hr.units) (pv 0) (pv 1) (nomark _)))))))))), ?_⟩
  obtain ⟨x, y, rfl, hs, q⟩ := h
  have hH := Has.start H
  refine g_start (σ' := [some (x), some (y), none, none]) rfl ?_
  rcases hs with ⟨rfl, rfl⟩ | ⟨i, rfl, rfl⟩ | ⟨z, rfl, rfl⟩ | ⟨a, b, xs, ys, rfl, rfl, hab, l1, l2, hs⟩ | ⟨a, b, A, rfl, rfl, t1, t2, hn, lA, lt⟩
  · walk_at "gg"
    refine g_ktupF (by walk_at "sz") hH (fun p1 H1 F1 n1 s1 f1 h1 => ?_)
    walk_at "gg"
    refine g_is (b := false) (.base .non) (by decide +kernel) ?_
    walk_at "gg"
    refine i_d (fun _ => ?_) (fun z => (z rfl).elim)
    walk_at "gg"
    rw [decide_eq_true rfl]
    exact q H1 (s1.trans h1.same)
  · walk_at "gg"
    refine g_ktupF (by walk_at "sz") hH (fun p1 H1 F1 n1 s1 f1 h1 => ?_)
    walk_at "gg"
    refine i_d (fun z => by cases z) (fun _ => ?_)
    walk_at "gg"
    rw [decide_eq_true rfl]
    exact q H1 (s1.trans h1.same)
  · walk_at "gg"
    refine g_ktupF (by walk_at "sz") hH (fun p1 H1 F1 n1 s1 f1 h1 => ?_)
    walk_at "gg"
    refine i_d (fun z => by cases z) (fun _ => ?_)
    walk_at "gg"
    rw [decide_eq_true rfl]
    exact q H1 (s1.trans h1.same)
  · walk_at "gg"
    refine g_ktupF (by walk_at "sz") hH (fun p1 H1 F1 n1 s1 f1 h1 => ?_)
    rcases hab with ⟨ha, hb⟩ | ⟨ha, hb⟩
    · have ha1 := s1 _ _ ha
      have hb1 := s1 _ _ hb
      walk_at "gg"
      refine i_n (fun z => (z rfl).elim) (fun _ => ?_)
      walk_at "gg"
      refine i_n (fun z => (z rfl).elim) (fun _ => ?_)
      walk_at "gg"
      refine i_n (fun z => (z (by rw [l1])).elim) (fun _ => ?_)
      walk_at "gg"
      refine k_forR1 (fun i σ H' => ∃ y2 y3, σ = [some (.ref a), some (.ref b), y2, y3] ∧ Has F1 [] H') (by omega) (by omega) ⟨_, _, rfl, h1⟩ ?_ ?_
      · rintro i σ H2 hi ⟨y2, y3, rfl, h2⟩
        walk_at "gg"
        refine g_ixV (by walk_at "h") (by omega) (by omega) (fun u hu => ?_)
        walk_at "gg"
        refine g_ixV (by walk_at "h") (by omega) (by omega) (fun v hv => ?_)
        walk_at "gg"
        refine ⟨u, v, rfl, (hs _ u v hu hv).up (s1.trans h2.same), fun H3 s3 => ?_⟩
        walk_at "gg"
        exact ⟨_, _, rfl, h2.on s3⟩
      · rintro σ H2 ⟨y2, y3, rfl, h2⟩
        walk_at "gg"
        exact q H2 (s1.trans h2.same)
    · have ha1 := s1 _ _ ha
      have hb1 := s1 _ _ hb
      walk_at "gg"
      refine i_n (fun z => (z rfl).elim) (fun _ => ?_)
      walk_at "gg"
      refine i_n (fun z => (z rfl).elim) (fun _ => ?_)
      walk_at "gg"
      refine i_n (fun z => (z (by rw [l1])).elim) (fun _ => ?_)
      walk_at "gg"
      refine k_forR1 (fun i σ H' => ∃ y2 y3, σ = [some (.ref a), some (.ref b), y2, y3] ∧ Has F1 [] H') (by omega) (by omega) ⟨_, _, rfl, h1⟩ ?_ ?_
      · rintro i σ H2 hi ⟨y2, y3, rfl, h2⟩
        walk_at "gg"
        refine g_ixVT (by walk_at "h") (by omega) (by omega) (fun u hu => ?_)
        walk_at "gg"
        refine g_ixVT (by walk_at "h") (by omega) (by omega) (fun v hv => ?_)
        walk_at "gg"
        refine ⟨u, v, rfl, (hs _ u v hu hv).up (s1.trans h2.same), fun H3 s3 => ?_⟩
        walk_at "gg"
        exact ⟨_, _, rfl, h2.on s3⟩
      · rintro σ H2 ⟨y2, y3, rfl, h2⟩
        walk_at "gg"
        exact q H2 (s1.trans h2.same)
  · obtain ⟨m, rfl⟩ : ∃ m, n = m + 2 := ⟨n - 2, by omega⟩
    obtain ⟨ka, ha, eka, nda, dqa⟩ := t1
    obtain ⟨kb, hb, ekb, ndb, dqb⟩ := t2
    walk_at "gg"
    refine g_ktupF (by walk_at "sz") hH (fun p1 H1 F1 n1 s1 f1 h1 => ?_)
    have fa := s1 _ _ ha
    have fb := s1 _ _ hb
    have dqa := dqa.up s1 _ _
    have dqb := dqb.up s1 _ _
    walk_at "gg"
    refine g_listD (h1.same _ _ fa) h1 (fun p2 H2 n2 h2 => ?_)
    walk_at "gg"
    refine g_listD (h2.same _ _ fb) h2 (fun p3 H3 n3 h3 => ?_)
    rw [tr_keys eka] at h3
    rw [tr_keys ekb] at h3
    walk_at "gg"
    refine ⟨.ref p2, .ref p3, rfl, Sm.strs (h3.get (by walk_at "m")) (h3.get (List.Mem.head _)) (by rw [List.length_map]; omega), fun H4 s4 => ?_⟩
    have h4 := (h3.on s4).drop.drop
    walk_at "gg"
    refine k_forDK rfl fb h4 (fun t σ O' => ∃ y2 y3, σ = [some (.ref a), some (.ref b), y2, y3] ∧ O' = []) ⟨_, _, rfl, rfl⟩ ?_ ?_
    · rintro t k v σ O' H5 od ekv ⟨y2, y3, rfl, rfl⟩ h5
      obtain ⟨p, ep, rfl⟩ := tr_key ekb ekv
      have ra : RT (upd F1 b (.frz od (.dK kb))) a A := RT.lock fb ⟨ka, .inl fa, eka, nda, dqa⟩
      have rb : RT (upd F1 b (.frz od (.dK kb))) b A := RT.lock fb ⟨kb, .inl fb, ekb, ndb, dqb⟩
      obtain ⟨ka', rda, eka', _, dqa'⟩ := ra.up h5.same
      obtain ⟨kb', rdb, ekb', _, dqb'⟩ := rb.up h5.same
      have eg : getT A p.1 = some p.2 := getT_of nda (List.mem_of_getElem? ep)
      obtain ⟨l1, v1, hl1⟩ := tr_at eka' dqa' eg
      obtain ⟨l2, v2, hl2⟩ := tr_at ekb' dqb' eg
      walk_at "gg"
      refine g_ixDR rda v1 ?_
      walk_at "gg"
      refine g_ixDR rdb v2 ?_
      walk_at "gg"
      refine ⟨.ref l1, .ref l2, rfl, Sm.strs hl1 hl2 (by have := lt p (List.mem_of_getElem? ep); omega), fun H6 s6 => ?_⟩
      walk_at "gg"
      exact ⟨[], ⟨_, _, rfl, rfl⟩, h5.on s6⟩
    · rintro σ O' H5 ⟨y2, y3, rfl, rfl⟩ h5
      walk_at "gg"
      exact q H5 (s1.trans h5.same)
def sp_l_same (K : PySem.W.Frag) : Sp := sp_l_same_n K 6
theorem ok_l_same (T : Txt K mg) : FnOk P w K mg base CX0 6 T.f_l_same T.fd_l_same ["told", "due"] (sp_l_same K) := ok_l_same_n T 6
end

end K10

namespace K10
open PySem PySem.Spec PyProof.Rows L2 Qk
local macro_rules | `(tactic| walk_at "m") => `(tactic| ((repeat (first | exact List.Mem.head _ | apply List.Mem.tail)); done))
local macro_rules | `(tactic| walk_at "h") => `(tactic| first | assumption | exact Has.gF (by assumption) (by assumption) | exact Has.get (by assumption) (by walk_at "m"))
local macro_rules | `(tactic| walk_at "c") => `(tactic| ((repeat (first | exact Chg.hd | apply Chg.tl)); done))
local macro_rules | `(tactic| walk_at "is") => `(tactic| first
  | ((with_reducible refine' is2_non ?gh ?_); (case gh => walk_at "h"))
  | (with_reducible refine is_int_list ?_)
  | (with_reducible refine is_int_tuple ?_)
  | (with_reducible refine is_int_dict ?_)
  | (with_reducible refine is_int_int ?_)
  | (with_reducible refine is_int_bool ?_)
  | (with_reducible refine is_int_str ?_)
  | ((with_reducible refine' is2_int ?gh ?_); (case gh => walk_at "h"))
  | (with_reducible refine is_str_list ?_)
  | (with_reducible refine is_str_tuple ?_)
  | (with_reducible refine is_str_dict ?_)
  | (with_reducible refine is_str_int ?_)
  | (with_reducible refine is_str_bool ?_)
  | (with_reducible refine is_str_str ?_)
  | ((with_reducible refine' is2_str ?gh ?_); (case gh => walk_at "h"))
  | (with_reducible refine is_bool_list ?_)
  | (with_reducible refine is_bool_tuple ?_)
  | (with_reducible refine is_bool_dict ?_)
  | (with_reducible refine is_bool_int ?_)
  | (with_reducible refine is_bool_bool ?_)
  | (with_reducible refine is_bool_str ?_)
  | ((with_reducible refine' is2_bool ?gh ?_); (case gh => walk_at "h"))
  | ((with_reducible refine' is_list_list ?gh ?_); (case gh => walk_at "h"))
  | ((with_reducible refine' is_list_tuple ?gh ?_); (case gh => walk_at "h"))
  | ((with_reducible refine' is_list_dict ?gh ?_); (case gh => walk_at "h"))
  | ((with_reducible refine' is_list_int ?gh ?_); (case gh => walk_at "h"))
  | ((with_reducible refine' is_list_bool ?gh ?_); (case gh => walk_at "h"))
  | ((with_reducible refine' is_list_str ?gh ?_); (case gh => walk_at "h"))
  | ((with_reducible refine' is2_list ?ga ?gb ?_); (case ga => walk_at "h"); (case gb => walk_at "h"))
  | ((with_reducible refine' is_tuple_list ?gh ?_); (case gh => walk_at "h"))
  | ((with_reducible refine' is_tuple_tuple ?gh ?_); (case gh => walk_at "h"))
  | ((with_reducible refine' is_tuple_dict ?gh ?_); (case gh => walk_at "h"))
  | ((with_reducible refine' is_tuple_int ?gh ?_); (case gh => walk_at "h"))
  | ((with_reducible refine' is_tuple_bool ?gh ?_); (case gh => walk_at "h"))
  | ((with_reducible refine' is_tuple_str ?gh ?_); (case gh => walk_at "h"))
  | ((with_reducible refine' is2_tuple ?ga ?gb ?_); (case ga => walk_at "h"); (case gb => walk_at "h"))
  | ((with_reducible refine' is_dict_list ?gh ?_); (case gh => walk_at "h"))
  | ((with_reducible refine' is_dict_tuple ?gh ?_); (case gh => walk_at "h"))
  | ((with_reducible refine' is_dict_dict ?gh ?_); (case gh => walk_at "h"))
  | ((with_reducible refine' is_dict_int ?gh ?_); (case gh => walk_at "h"))
  | ((with_reducible refine' is_dict_bool ?gh ?_); (case gh => walk_at "h"))
  | ((with_reducible refine' is_dict_str ?gh ?_); (case gh => walk_at "h"))
  | ((with_reducible refine' is2_dict ?ga ?gb ?_); (case ga => walk_at "h"); (case gb => walk_at "h")))
local macro_rules | `(tactic| walk_at "g") => `(tactic| first
  | (with_reducible refine g_seq ?_)
  | (with_reducible refine g_asg ?_)
  | ((with_reducible refine g_name ?_); dsimp only [List.set, wipe, List.map])
  | ((with_reducible refine' g_var ?gv ?_); (case gv => exact rfl))
  | (with_reducible refine g_c ?_)
  | (with_reducible refine g_op ?_)
  | (with_reducible refine g_cons ?_)
  | (with_reducible refine g_nil ?_)
  | (with_reducible refine g_cb ?_)
  | (with_reducible refine g_call ?_)
  | (with_reducible refine g_tup ?_)
  | (with_reducible refine g_lst ?_)
  | (with_reducible refine g_bm ?_)
  | (with_reducible refine g_bm0 ?_)
  | ((with_reducible refine' g_kbm ?gh ?_); (case gh => walk_at "h"))
  | (with_reducible refine g_drop ?_)
  | (with_reducible refine g_ret ?_)
  | (with_reducible refine g_retN ?_)
  | (with_reducible refine g_next ?_)
  | (with_reducible refine g_brk ?_)
  | (with_reducible refine g_cont ?_)
  | (with_reducible refine g_if ?_)
  | ((with_reducible refine' g_aug ?gv ?_); (case gv => exact rfl))
  | (with_reducible refine g_ipI ?_)
  | (with_reducible refine g_test ?_)
  | (with_reducible refine g_tB ?_)
  | (with_reducible refine g_kB ?_)
  | (with_reducible refine g_not ?_)
  | (with_reducible refine g_and ?_)
  | (with_reducible refine g_or ?_)
  | (with_reducible refine g_andV ?_)
  | (with_reducible refine g_orV ?_)
  | (with_reducible refine g_notV ?_)
  | (with_reducible refine g_ifE ?_)
  | (with_reducible refine g_addI ?_)
  | (with_reducible refine g_rI0 ?_)
  | (with_reducible refine g_eqI ?_)
  | (with_reducible refine g_eqS ?_)
  | (with_reducible refine g_neI ?_)
  | (with_reducible refine g_neS ?_)
  | (with_reducible refine g_isN ?_)
  | (with_reducible refine g_notN ?_)
  | (with_reducible refine g_int ?_)
  | (with_reducible refine g_max2 ?_)
  | (with_reducible refine g_min2 ?_)
  | ((with_reducible refine' g_lenL ?gh ?_); (case gh => walk_at "h"))
  | (with_reducible refine g_sub ?_)
  | (with_reducible refine g_gcons ?_)
  | (with_reducible refine g_gnil ?_)
  | (with_reducible refine g_un ?_)
  | (with_reducible refine g_rU ?_)
  | (with_reducible refine g_forL ?_)
  | (with_reducible refine g_forS ?_)
  | (with_reducible refine g_forR1 ?_)
  | (with_reducible refine g_forR2 ?_)
  | (with_reducible refine g_forR3 ?_)
  | (with_reducible refine g_lcL ?_)
  | (with_reducible refine g_lcR1 ?_)
  | (with_reducible refine g_lcR2 ?_)
  | (with_reducible refine g_slice ?_)
  | (with_reducible refine g_part ?_)
  | (with_reducible refine g_kOI ?_)
  | (with_reducible refine g_nopart ?_)
  | (with_reducible refine g_yes ?_)
  | ((with_reducible refine' g_wipe ?gv ?_); (case gv => exact rfl))
  | (with_reducible refine iteT ?_)
  | (with_reducible refine iteF ?_)
  | (with_reducible refine i_nf ?_)
  | (with_reducible refine i_nt ?_)
  | ((with_reducible refine' g_gtup ?gh ?gl ?_); (case gh => walk_at "h"); (case gl => exact rfl))
  | ((with_reducible refine' g_notinI ?gh ?_); (case gh => walk_at "h"))
  | ((with_reducible refine' g_inI ?gh ?_); (case gh => walk_at "h"))
  | ((with_reducible refine' g_kget2 ?gh ?_); (case gh => walk_at "h"))
  | ((with_reducible refine' g_kgotI ?gh ?_); (case gh => walk_at "h"))
  | (with_reducible refine g_tRev ?_)
  | (with_reducible refine g_neB ?_)
  | (with_reducible refine g_eqB ?_)
  | ((with_reducible refine' g_lenT ?gh ?_); (case gh => walk_at "h"))
  | (with_reducible refine g_star ?_)
  | ((with_reducible refine' g_kstarL ?gh ?_); (case gh => walk_at "h"))
  | ((with_reducible refine' g_kstarT ?gh ?_); (case gh => walk_at "h"))
  | (with_reducible refine g_tru ?_)
  | ((with_reducible refine' g_truL ?gh ?_); (case gh => walk_at "h"))
  | (with_reducible refine g_get2 ?_)
  | (with_reducible refine g_try ?_)
  | (with_reducible refine g_fld ?_)
  | (with_reducible refine g_sfld ?_)
  | (with_reducible refine g_meth ?_)
  | (with_reducible refine g_make ?_)
  | (with_reducible refine g_del ?_)
  | (with_reducible refine g_callS ?_)
  | (with_reducible refine g_raise ?_)
  | (with_reducible refine g_xf ?_)
  | (with_reducible refine g_m0 ?_)
  | (with_reducible refine g_km0 ?_)
  | walk_at "is")
local macro_rules | `(tactic| walk_at "gg") => `(tactic| repeat walk_at "g")
local macro_rules | `(tactic| walk_at "sz") => `(tactic| (refine sz ?_; simp only [List.length_cons, List.length_nil, List.length_map, List.length_append, List.length_replicate]; omega))
local macro_rules | `(tactic| walk_at "sub") => `(tactic| ((repeat (first | exact List.Sublist.slnil | with_reducible apply List.Sublist.cons_cons | with_reducible apply List.Sublist.cons)); done))

/-! ### the draws: a list of pairs -/
def cellD (p : Int × Int) : PyData := .list [.int p.1, .int p.2]
theorem cell_inv {F : Hp} {v : V} {p : Int × Int} (h : Dq F v (cellD p)) : ∃ r, v = .ref r ∧ F r = some (.lst [.int p.1, .int p.2]) := by
  cases h with
  | lst hT hs =>
    cases hs with
    | cons h1 hs =>
      cases hs with
      | cons h2 hs =>
        cases hs
        cases h1
        cases h2
        exact ⟨_, rfl, hT⟩
theorem cells_sh (rows : List (Int × Int)) : Sh 2 (.list (rows.map cellD)) := Sh.list fun d hd => by
  obtain ⟨p, _, rfl⟩ := List.mem_map.mp hd
  exact Sh.list fun d hd => by
    rcases List.mem_cons.mp hd with rfl | hd
    · exact Sh.int _
    · rw [List.mem_singleton.mp hd]
      exact Sh.int _
/-- the draws stand at c: what is left, each number with its count -/
structure Cells (F : Hp) (c : Addr) (H : Hp) (vs : List V) : Prop where
  at_ : H c = some (.lst vs)
  dq : ∃ rows : List (Int × Int), DqAll F vs (rows.map cellD) ∧ rows.length ≤ 100
section
variable {P : Program} {w : World} {K : PySem.W.Frag} {mg : Str → Option Value} {base : Heap}
def sp_l_feed (K : PySem.W.Frag) : Sp := fun vs H Q _ => ∃ (a : Addr) (ns : List Int), vs = [.ref a] ∧ SqL K H a (ns.map V.int) ∧ ns.length ≤ 63 ∧
  ∀ p H' F' (vs : List V) (rows : List (Int × Int)), H p = none → Same H F' → Has F' [(p, .lst vs)] H' → DqAll F' vs (rows.map cellD) → rows.length ≤ 100 → Q (.ref p) H'
theorem sp_l_feed_len {vs H Q E} (h : sp_l_feed K vs H Q E) : vs.length = 1 := by
  obtain ⟨_, _, rfl, _⟩ := h
  rfl
theorem ok_l_feed (T : Txt K mg) : FnOk P w K mg base CX0 1 T.f_l_feed T.fd_l_feed ["script"] (sp_l_feed K) := by
  refine T.F_l_feed.ok sc_l_feed (fun vs H Q E h => sp_l_feed_len h) (fun cdv A outer s H vs Q E hr h => ?_)
  refine ⟨_, (pss_one (ps_ret (pe_lc (own := [("cell", 1)]) (g := gName 1) (tt := tYes) rfl sc_l_feed.nd (k_il K (pi_list (pe_slice (sl_K K) (pv 0) po_none (po_some pe_int)))) (blkOk_by (N := n_l_feed) (sc := defScope s_l_feed) (by decide +kernel)) (fun _ _ _ _ _ => (pg_name (i := 1) sc_l_feed.nd rfl (.inl rfl))) (fun _ _ _ _ _ => pts_nil) (fun _ _ _ _ _ => (pe_lst (pa_cons (pe_callB cr_abs1 (by rfl) T.m_abs (by decide +kernel) (pa_cons (pe_callTy cr_int1 (by rfl) T.m_int (by decide +kernel) (pa_cons (pv 1) pa_nil)) pa_nil)) (pa_cons pe_int pa_nil))))))), ?_⟩
  obtain ⟨a, ns, rfl, ha, hn, q⟩ := h
  have hH := Has.start H
  refine g_start (σ' := [some (.ref a), none]) rfl ?_
  walk_at "gg"
  refine g_slS ha hH (fun p2 H2 n2 hH2 => ?_)
  obtain ⟨ms, em, lm⟩ := cutV_ints ns none (some 63)
  rw [em] at hH2
  refine k_lcL (by walk_at "h") hH2 (fun i acc F' O' => ∃ rows : List (Int × Int), DqAll F' acc (rows.map cellD) ∧ rows.length = i ∧ Same H F' ∧ O' = [(p2, .lst (ms.map V.int))]) ⟨[], .nil, rfl, Same.refl _, rfl⟩ ?_ ?_ ?_
  · rintro i acc F' O' H3 ⟨rows, dq, rfl, sF, rfl⟩ hh
    walk_at "h"
  · rintro i x acc F' O' D H3 hx ⟨rows, dq, rfl, sF, rfl⟩ hh
    rw [List.getElem?_map] at hx
    obtain ⟨z, hz, rfl⟩ := Option.map_eq_some_iff.mp hx
    have hl : rows.length < ms.length := (List.getElem?_eq_some_iff.mp hz).1
    have hal : acc.length = rows.length := by rw [dq.len, List.length_map]
    walk_at "gg"
    refine g_abs (fun j hj => ?_)
    walk_at "gg"
    refine g_klstF (by walk_at "sz") hh (fun r H4 F4 n4 s4 f4 h4 => ?_)
    refine k_turn h4 (by omega) ⟨rows ++ [(j, 0)], ?_, by rw [List.length_append]; rfl, sF.trans s4, rfl⟩
    rw [List.map_append]
    exact (dq.up s4 _ _).snoc (.lst f4 (.cons (.int _) (.cons (.int _) .nil)))
  · rintro acc F' O' D H3 ⟨rows, dq, hk, sF, rfl⟩ hh
    rw [List.length_map] at hk
    exact q D H3 F' acc rows (sF.free hh.free) sF (hh.sub (.cons_cons _ (.cons _ (List.Sublist.refl _)))) dq (by omega)
theorem Grow.refl (F H : Hp) : Grow F H F := ⟨Same.refl F, fun _ _ => rfl⟩
theorem Grow.new {F H : Hp} {p : Addr} {o : HO} (n : H p = none) (f : F p = none) : Grow F H (upd F p o) := ⟨same_upd f, fun b h => upd_ne (fun z => h (by rw [z]; exact n))⟩
theorem Grow.new2 {F H F1 : Hp} {p : Addr} {o : HO} (g : Grow F H F1) (n : H p = none) (f : F1 p = none) : Grow F H (upd F1 p o) := ⟨g.1.trans (same_upd f), fun b h => by rw [upd_ne (fun z => h (by rw [z]; exact n))]; exact g.2 b h⟩
def sp_l_next (K : PySem.W.Frag) : Sp := fun vs H Q _ => ∃ (c : Addr) (m : Int) (F : Hp) (ws : List V) (rows : List (Int × Int)), vs = [.ref c, .int m] ∧ Has F [(c, .lst ws)] H ∧ DqAll F ws (rows.map cellD) ∧ rows.length ≤ 100 ∧ 0 < m ∧ m < 1000000 ∧
  ∀ H' F' (ws' : List V) (rows' : List (Int × Int)) (r : Int), But c H H' → Grow F H F' → Has F' [(c, .lst ws')] H' → DqAll F' ws' (rows'.map cellD) → rows'.length ≤ 100 → 0 ≤ r → r < m → Q (.int r) H'
theorem sp_l_next_len {vs H Q E} (h : sp_l_next K vs H Q E) : vs.length = 2 := by
  obtain ⟨_, _, _, _, _, rfl, _⟩ := h
  rfl
theorem same_upd2 {F G : Hp} {p : Addr} {o : HO} (s : Same F G) : Same (upd F p o) (upd G p o) := fun b u q => by
  by_cases e : b = p
  · subst e
    rw [upd_same] at q ⊢
    exact q
  · rw [upd_ne e] at q ⊢
    exact s b u q
theorem ok_l_next (T : Txt K mg) : FnOk P w K mg base CX0 1 T.f_l_next T.fd_l_next ["cells", "many"] (sp_l_next K) := by
  refine T.F_l_next.ok sc_l_next (fun vs H Q E h => sp_l_next_len h) (fun cdv A outer s H vs Q E hr h => ?_)
  refine ⟨_, (pss_cons (ps_if (pt_cmpR (op_eqK K hr.units) (pv 0) (pe_lst pa_nil) (nomark _)) (pss_one (ps_ret pe_int)) pss_nil)
      (pss_cons (ps_set (i := 2) sc_l_next.nd rfl (.inl rfl) (pe_op op_mod (pe_callTy cr_int1 (by rfl) T.m_int (by decide +kernel) (pa_cons (pe_ix (ix_K K (hu_of hr)) (pe_ix (ix_K K (hu_of hr)) (pv 0) pe_int (fun _ _ => rfl)) pe_int (fun _ _ => rfl)) pa_nil)) (pv 1)))
      (pss_cons (ps_asg (pe_lst (pa_cons (pe_op op_fdiv (pe_ix (ix_K K (hu_of hr)) (pe_ix (ix_K K (hu_of hr)) (pv 0) pe_int (fun _ _ => rfl)) pe_int (fun _ _ => rfl)) (pv 1)) (pa_cons (pe_op (op_addK K) (pe_ix (ix_K K (hu_of hr)) (pe_ix (ix_K K (hu_of hr)) (pv 0) pe_int (fun _ _ => rfl)) pe_int (fun _ _ => rfl)) pe_int) pa_nil))) (pg_sub (pv 0) pe_int (set_any (hu_of hr))))
      (pss_cons (ps_if (PW.pt (pw_or (pt_cmpR (op_eqK K hr.units) (pe_ix (ix_K K (hu_of hr)) (pe_ix (ix_K K (hu_of hr)) (pv 0) pe_int (fun _ _ => rfl)) pe_int (fun _ _ => rfl)) pe_int (nomark _)) (pw_or1 (pt_cmpR (op_eqK K hr.units) (pe_ix (ix_K K (hu_of hr)) (pe_ix (ix_K K (hu_of hr)) (pv 0) pe_int (fun _ _ => rfl)) pe_int (fun _ _ => rfl)) pe_int (nomark _))))) (pss_one (ps_expr (k_bm K (pe_bm PySem.F.plainAttrs_list PySem.F.slot_list_pop PySem.F.type_list_pop mt_popAt (pv 0) (pa_cons pe_int pa_nil))))) pss_nil)
      (pss_one (ps_ret (pv 2))))))), ?_⟩
  obtain ⟨c, m, F, ws, rows, rfl, hH, dq0, hl, hm0, hm, q⟩ := h
  have sFG : Same F (rm H c) := same_rm hH.same hH.free
  have dq := dq0.up sFG _ _
  have hR := Has.arg (hH.get (List.Mem.head _))
  generalize hG : rm H c = G at *
  refine g_start (σ' := [some (.ref c), some (.int m), none]) rfl ?_
  walk_at "gg"
  refine g_klst (by walk_at "sz") hR (fun t H1 n1 hR1 => ?_)
  have hR1' := hR1.drop
  have hc1 := hR1'.get (List.Mem.head _)
  refine g_eqD (.lst hc1 (dq.up hR1'.same _ _)) (.lst (hR1.get (List.Mem.head _)) .nil) ((cells_sh rows).ok (by decide)) (by decide +kernel) ?_
  walk_at "gg"
  cases rows with
  | nil =>
    cases dq
    refine i_b (fun _ => ?_) (fun z => ?_)
    · walk_at "gg"
      exact q H1 F [] [] 0 (But.of (by rw [hG]; exact hR1.same)) (Grow.refl _ _) (hR1'.mono sFG) .nil (by simp) (by omega) hm0
    · rw [List.map_nil, PyData.eqv, PyData.eqvAll] at z
      cases z
  | cons row rows =>
    cases dq with
    | @cons v vs _ _ dv dvs =>
    cases dq0 with
    | cons dv0 dvs0 =>
    obtain ⟨r, rfl, hr⟩ := cell_inv dv
    refine i_b (fun z => ?_) (fun _ => ?_)
    · rw [List.map_cons, PyData.eqv, PyData.eqvAll] at z
      cases z
    have hr1 := hR1'.same _ _ hr
    walk_at "gg"
    refine g_ixL (v := .ref r) hc1 (atI_nat (j := 0) rfl) ?_
    walk_at "gg"
    refine g_ixL (v := .int row.1) hr1 (atI_nat (j := 0) rfl) ?_
    walk_at "gg"
    refine g_rI hm0 ?_
    walk_at "gg"
    refine g_ixL (v := .ref r) hc1 (atI_nat (j := 0) rfl) ?_
    walk_at "gg"
    refine g_ixL (v := .int row.1) hr1 (atI_nat (j := 0) rfl) ?_
    walk_at "gg"
    refine g_rI ⟨by omega, by omega⟩ ?_
    walk_at "gg"
    refine g_ixL (v := .ref r) hc1 (atI_nat (j := 0) rfl) ?_
    walk_at "gg"
    refine g_ixL (v := .int row.2) hr1 (atI_nat (j := 1) rfl) ?_
    walk_at "gg"
    refine g_klst (by walk_at "sz") hR1' (fun p H2 n2 hR2 => ?_)
    have fp : F p = none := sFG.free hR2.free
    have np : H p = none := by
      have nd : p ≠ c := by
        have := hR2.nd
        simp only [List.map_cons, List.map_nil, List.nodup_cons, List.mem_singleton] at this
        exact this.1
      have e := hR2.free
      rw [← hG, rm_ne nd] at e
      exact e
    have hR3 := hR2.frz
    have sG3 := hR2.grow
    have dv2 : Dq (upd F p (.lst [.int (row.1 / m), .int (row.2 + 1)])) (.ref p) (cellD (row.1 / m, row.2 + 1)) := .lst upd_same (.cons (.int _) (.cons (.int _) .nil))
    have dvs2 := dvs0.up (same_upd (o := .lst [.int (row.1 / m), .int (row.2 + 1)]) fp) _ _
    have gF : Grow F H (upd F p (.lst [.int (row.1 / m), .int (row.2 + 1)])) := Grow.new np fp
    have hp3 : upd G p (.lst [.int (row.1 / m), .int (row.2 + 1)]) p = some (.lst [.int (row.1 / m), .int (row.2 + 1)]) := upd_same
    walk_at "gg"
    refine g_stL (j := 0) hR3 (by walk_at "c") (ixN_nat (by decide) (by rw [List.length_cons]; omega)) (fun H4 hR4 => ?_)
    have fin : ∀ (H5 : Hp) (ws' : List V) (rows' : List (Int × Int)), Has (upd G p (.lst [.int (row.1 / m), .int (row.2 + 1)])) [(c, .lst ws')] H5 → DqAll (upd F p (.lst [.int (row.1 / m), .int (row.2 + 1)])) ws' (rows'.map cellD) → rows'.length ≤ 100 → Q (.int (row.1 % m)) H5 := fun H5 ws' rows' h5 d5 l5 =>
      q H5 _ ws' rows' _ (But.of (by rw [hG]; exact sG3.trans h5.same)) gF (h5.mono (same_upd2 sFG)) d5 l5 (Int.emod_nonneg _ (by omega)) (Int.emod_lt_of_pos _ hm0)
    have hc4 := hR4.get (List.Mem.head _)
    have hp4 := hR4.same _ _ hp3
    walk_at "g"
    walk_at "g"
    refine g_fact (fun _ => True) (fun R r => ?_) (fun b _ => ?_)
    · walk_at "gg"
      refine g_ixL (v := .ref p) hc4 (atI_nat (j := 0) rfl) ?_
      walk_at "gg"
      refine g_ixL (v := .int (row.1 / m)) hp4 (atI_nat (j := 0) rfl) ?_
      walk_at "gg"
      refine i_d (fun _ => r _ trivial) (fun _ => ?_)
      walk_at "gg"
      refine g_ixL (v := .ref p) hc4 (atI_nat (j := 0) rfl) ?_
      walk_at "gg"
      refine g_ixL (v := .int (row.2 + 1)) hp4 (atI_nat (j := 1) rfl) ?_
      walk_at "gg"
      exact r _ trivial
    refine i_b (fun _ => ?_) (fun _ => ?_)
    · walk_at "gg"
      refine g_popAt (k := 0) (y := .ref p) hR4 (by walk_at "c") (by omega) (by omega) (ixN_seq (ixN_nat (k := 0) (by decide) (by rw [List.length_set, List.length_cons]; omega))).1 rfl (fun H5 h5 => ?_)
      walk_at "gg"
      exact fin H5 vs rows h5 dvs2 (by rw [List.length_cons] at hl; omega)
    · walk_at "gg"
      exact fin H4 (.ref p :: vs) ((row.1 / m, row.2 + 1) :: rows) hR4 (.cons dv2 dvs2) hl
theorem Has.drawn {F F' H H' : Hp} {O : Own} {c : Addr} {ws ws' : List V} (h : Has F ((c, .lst ws) :: O) H) (hb : But c H H') (g : Grow F H F') (s : Has F' [(c, .lst ws')] H') : Has F' ((c, .lst ws') :: O) H' :=
  h.grown .hd hb g s.same (s.get (List.Mem.head _))
end

end K10

namespace K10
open PySem PySem.Spec PyProof.Rows L2 Qk
local macro_rules | `(tactic| walk_at "m") => `(tactic| ((repeat (first | exact List.Mem.head _ | apply List.Mem.tail)); done))
local macro_rules | `(tactic| walk_at "h") => `(tactic| first | assumption | exact Has.gF (by assumption) (by assumption) | exact Has.get (by assumption) (by walk_at "m"))
local macro_rules | `(tactic| walk_at "c") => `(tactic| ((repeat (first | exact Chg.hd | apply Chg.tl)); done))
local macro_rules | `(tactic| walk_at "is") => `(tactic| first
  | ((with_reducible refine' is2_non ?gh ?_); (case gh => walk_at "h"))
  | (with_reducible refine is_int_list ?_)
  | (with_reducible refine is_int_tuple ?_)
  | (with_reducible refine is_int_dict ?_)
  | (with_reducible refine is_int_int ?_)
  | (with_reducible refine is_int_bool ?_)
  | (with_reducible refine is_int_str ?_)
  | ((with_reducible refine' is2_int ?gh ?_); (case gh => walk_at "h"))
  | (with_reducible refine is_str_list ?_)
  | (with_reducible refine is_str_tuple ?_)
  | (with_reducible refine is_str_dict ?_)
  | (with_reducible refine is_str_int ?_)
  | (with_reducible refine is_str_bool ?_)
  | (with_reducible refine is_str_str ?_)
  | ((with_reducible refine' is2_str ?gh ?_); (case gh => walk_at "h"))
  | (with_reducible refine is_bool_list ?_)
  | (with_reducible refine is_bool_tuple ?_)
  | (with_reducible refine is_bool_dict ?_)
  | (with_reducible refine is_bool_int ?_)
  | (with_reducible refine is_bool_bool ?_)
  | (with_reducible refine is_bool_str ?_)
  | ((with_reducible refine' is2_bool ?gh ?_); (case gh => walk_at "h"))
  | ((with_reducible refine' is_list_list ?gh ?_); (case gh => walk_at "h"))
  | ((with_reducible refine' is_list_tuple ?gh ?_); (case gh => walk_at "h"))
  | ((with_reducible refine' is_list_dict ?gh ?_); (case gh => walk_at "h"))
  | ((with_reducible refine' is_list_int ?gh ?_); (case gh => walk_at "h"))
  | ((with_reducible refine' is_list_bool ?gh ?_); (case gh => walk_at "h"))
  | ((with_reducible refine' is_list_str ?gh ?_); (case gh => walk_at "h"))
  | ((with_reducible refine' is2_list ?ga ?gb ?_); (case ga => walk_at "h"); (case gb => walk_at "h"))
  | ((with_reducible refine' is_tuple_list ?gh ?_); (case gh => walk_at "h"))
  | ((with_reducible refine' is_tuple_tuple ?gh ?_); (case gh => walk_at "h"))
  | ((with_reducible refine' is_tuple_dict ?gh ?_); (case gh => walk_at "h"))
  | ((with_reducible refine' is_tuple_int ?gh ?_); (case gh => walk_at "h"))
  | ((with_reducible refine' is_tuple_bool ?gh ?_); (case gh => walk_at "h"))
  | ((with_reducible refine' is_tuple_str ?gh ?_); (case gh => walk_at "h"))
  | ((with_reducible refine' is2_tuple ?ga ?gb ?_); (case ga => walk_at "h"); (case gb => walk_at "h"))
  | ((with_reducible refine' is_dict_list ?gh ?_); (case gh => walk_at "h"))
  | ((with_reducible refine' is_dict_tuple ?gh ?_); (case gh => walk_at "h"))
  | ((with_reducible refine' is_dict_dict ?gh ?_); (case gh => walk_at "h"))
  | ((with_reducible refine' is_dict_int ?gh ?_); (case gh => walk_at "h"))
  | ((with_reducible refine' is_dict_bool ?gh ?_); (case gh => walk_at "h"))
  | ((with_reducible refine' is_dict_str ?gh ?_); (case gh => walk_at "h"))
  | ((with_reducible refine' is2_dict ?ga ?gb ?_); (case ga => walk_at "h"); (case gb => walk_at "h")))
local macro_rules | `(tactic| walk_at "g") => `(tactic| first
  | (with_reducible refine g_seq ?_)
  | (with_reducible refine g_asg ?_)
  | ((with_reducible refine g_name ?_); dsimp only [List.set, wipe, List.map])
  | ((with_reducible refine' g_var ?gv ?_); (case gv => exact rfl))
  | (with_reducible refine g_c ?_)
  | (with_reducible refine g_op ?_)
  | (with_reducible refine g_cons ?_)
  | (with_reducible refine g_nil ?_)
  | (with_reducible refine g_cb ?_)
  | (with_reducible refine g_call ?_)
  | (with_reducible refine g_tup ?_)
  | (with_reducible refine g_lst ?_)
  | (with_reducible refine g_bm ?_)
  | (with_reducible refine g_bm0 ?_)
  | ((with_reducible refine' g_kbm ?gh ?_); (case gh => walk_at "h"))
  | (with_reducible refine g_drop ?_)
  | (with_reducible refine g_ret ?_)
  | (with_reducible refine g_retN ?_)
  | (with_reducible refine g_next ?_)
  | (with_reducible refine g_brk ?_)
  | (with_reducible refine g_cont ?_)
  | (with_reducible refine g_if ?_)
  | ((with_reducible refine' g_aug ?gv ?_); (case gv => exact rfl))
  | (with_reducible refine g_ipI ?_)
  | (with_reducible refine g_test ?_)
  | (with_reducible refine g_tB ?_)
  | (with_reducible refine g_kB ?_)
  | (with_reducible refine g_not ?_)
  | (with_reducible refine g_and ?_)
  | (with_reducible refine g_or ?_)
  | (with_reducible refine g_andV ?_)
  | (with_reducible refine g_orV ?_)
  | (with_reducible refine g_notV ?_)
  | (with_reducible refine g_ifE ?_)
  | (with_reducible refine g_addI ?_)
  | (with_reducible refine g_rI0 ?_)
  | (with_reducible refine g_eqI ?_)
  | (with_reducible refine g_eqS ?_)
  | (with_reducible refine g_neI ?_)
  | (with_reducible refine g_neS ?_)
  | (with_reducible refine g_isN ?_)
  | (with_reducible refine g_notN ?_)
  | (with_reducible refine g_int ?_)
  | (with_reducible refine g_max2 ?_)
  | (with_reducible refine g_min2 ?_)
  | ((with_reducible refine' g_lenL ?gh ?_); (case gh => walk_at "h"))
  | (with_reducible refine g_sub ?_)
  | (with_reducible refine g_gcons ?_)
  | (with_reducible refine g_gnil ?_)
  | (with_reducible refine g_un ?_)
  | (with_reducible refine g_rU ?_)
  | (with_reducible refine g_forL ?_)
  | (with_reducible refine g_forS ?_)
  | (with_reducible refine g_forR1 ?_)
  | (with_reducible refine g_forR2 ?_)
  | (with_reducible refine g_forR3 ?_)
  | (with_reducible refine g_lcL ?_)
  | (with_reducible refine g_lcR1 ?_)
  | (with_reducible refine g_lcR2 ?_)
  | (with_reducible refine g_slice ?_)
  | (with_reducible refine g_part ?_)
  | (with_reducible refine g_kOI ?_)
  | (with_reducible refine g_nopart ?_)
  | (with_reducible refine g_yes ?_)
  | ((with_reducible refine' g_wipe ?gv ?_); (case gv => exact rfl))
  | (with_reducible refine iteT ?_)
  | (with_reducible refine iteF ?_)
  | (with_reducible refine i_nf ?_)
  | (with_reducible refine i_nt ?_)
  | ((with_reducible refine' g_gtup ?gh ?gl ?_); (case gh => walk_at "h"); (case gl => exact rfl))
  | ((with_reducible refine' g_notinI ?gh ?_); (case gh => walk_at "h"))
  | ((with_reducible refine' g_inI ?gh ?_); (case gh => walk_at "h"))
  | ((with_reducible refine' g_kget2 ?gh ?_); (case gh => walk_at "h"))
  | ((with_reducible refine' g_kgotI ?gh ?_); (case gh => walk_at "h"))
  | (with_reducible refine g_tRev ?_)
  | (with_reducible refine g_neB ?_)
  | (with_reducible refine g_eqB ?_)
  | ((with_reducible refine' g_lenT ?gh ?_); (case gh => walk_at "h"))
  | (with_reducible refine g_star ?_)
  | ((with_reducible refine' g_kstarL ?gh ?_); (case gh => walk_at "h"))
  | ((with_reducible refine' g_kstarT ?gh ?_); (case gh => walk_at "h"))
  | (with_reducible refine g_tru ?_)
  | ((with_reducible refine' g_truL ?gh ?_); (case gh => walk_at "h"))
  | (with_reducible refine g_get2 ?_)
  | (with_reducible refine g_try ?_)
  | (with_reducible refine g_fld ?_)
  | (with_reducible refine g_sfld ?_)
  | (with_reducible refine g_meth ?_)
  | (with_reducible refine g_make ?_)
  | (with_reducible refine g_del ?_)
  | (with_reducible refine g_callS ?_)
  | (with_reducible refine g_raise ?_)
  | (with_reducible refine g_xf ?_)
  | (with_reducible refine g_m0 ?_)
  | (with_reducible refine g_km0 ?_)
  | walk_at "is")
local macro_rules | `(tactic| walk_at "gg") => `(tactic| repeat walk_at "g")
local macro_rules | `(tactic| walk_at "sz") => `(tactic| (refine sz ?_; simp only [List.length_cons, List.length_nil, List.length_map, List.length_append, List.length_replicate]; omega))
local macro_rules | `(tactic| walk_at "sub") => `(tactic| ((repeat (first | exact List.Sublist.slnil | with_reducible apply List.Sublist.cons_cons | with_reducible apply List.Sublist.cons)); done))

/-! ### ascending lists of texts -/
abbrev kk (z : Str) : List Nat := z.cps.toList
theorem kk_inj {a b : Str} (h : kk a = kk b) : a = b := by
  cases a with
  | mk x =>
    cases b with
    | mk y =>
      congr 1
      exact Array.toList_inj.mp h
def Asc (xs : List Str) : Prop := xs.Pairwise fun a b => kk a < kk b
theorem kk_cases {a b : Str} (h : ¬ kk b < kk a) (n : a ≠ b) : kk a < kk b := by
  refine Decidable.byContradiction fun h2 => n (kk_inj ?_)
  exact List.le_antisymm (List.not_lt.mp h) (List.not_lt.mp h2)
theorem asc_rise : ∀ (p : Str) (l : List Str), risingS p l = true → (p :: l).Nodup → Asc (p :: l)
  | p, [], _, _ => List.pairwise_cons.mpr ⟨fun _ h => (by cases h), List.Pairwise.nil⟩
  | p, x :: r, h, n => by
    have h : (!PySem.Spec.ltCps x.cps.toList p.cps.toList && risingS x r) = true := h
    rw [Bool.and_eq_true] at h
    have h1 : ¬ kk x < kk p := by
      have := h.1
      rw [ltCps_eq] at this
      simpa using this
    have n2 := List.nodup_cons.mp n
    have ih := asc_rise x r h.2 n2.2
    have lt : kk p < kk x := kk_cases h1 fun e => n2.1 (by rw [e]; exact List.mem_cons_self)
    refine List.pairwise_cons.mpr ⟨fun z hz => ?_, ih⟩
    rcases List.mem_cons.mp hz with rfl | hz
    · exact lt
    · exact List.lt_trans lt ((List.pairwise_cons.mp ih).1 z hz)
theorem asc_of {xs : List Str} (h : sortedS xs = true) (n : xs.Nodup) : Asc xs := by
  cases xs with
  | nil => exact List.Pairwise.nil
  | cons x r => exact asc_rise x r h n
theorem Asc.nodup {xs : List Str} (h : Asc xs) : xs.Nodup := h.imp fun {a b} l e => by
  rw [e] at l
  exact List.lt_irrefl _ l
theorem Asc.ext : ∀ {xs ys : List Str}, Asc xs → Asc ys → (∀ z, z ∈ xs ↔ z ∈ ys) → xs = ys
  | [], [], _, _, _ => rfl
  | [], y :: ys, _, _, h => by cases (h y).mpr List.mem_cons_self
  | x :: xs, [], _, _, h => by cases (h x).mp List.mem_cons_self
  | x :: xs, y :: ys, hx, hy, h => by
    have hx' := List.pairwise_cons.mp hx
    have hy' := List.pairwise_cons.mp hy
    have e : x = y := by
      rcases List.mem_cons.mp ((h x).mp List.mem_cons_self) with e | m1
      · exact e
      · rcases List.mem_cons.mp ((h y).mpr List.mem_cons_self) with e | m2
        · exact e.symm
        · exact (List.lt_irrefl _ (List.lt_trans (hy'.1 x m1) (hx'.1 y m2))).elim
    subst e
    have := Asc.ext hx'.2 hy'.2 fun z => by
      have hz := h z
      rw [List.mem_cons, List.mem_cons] at hz
      constructor
      · intro m
        rcases hz.mp (.inr m) with e | m'
        · exact (List.lt_irrefl _ (e ▸ hx'.1 z m)).elim
        · exact m'
      · intro m
        rcases hz.mpr (.inr m) with e | m'
        · exact (List.lt_irrefl _ (e ▸ hy'.1 z m)).elim
        · exact m'
    rw [this]
theorem Asc.filter {xs : List Str} (h : Asc xs) (p : Str → Bool) : Asc (xs.filter p) := h.sublist List.filter_sublist
/-- a list without repeats, grown by one -/
def addL (xs : List Str) (y : Str) : List Str := if y ∈ xs then xs else xs ++ [y]
theorem addL_mem {xs : List Str} {y z : Str} : z ∈ addL xs y ↔ z ∈ xs ∨ z = y := by
  unfold addL
  split
  · next h =>
    constructor
    · exact .inl
    · rintro (m | rfl)
      · exact m
      · exact h
  · simp
theorem addL_nodup {xs : List Str} {y : Str} (n : xs.Nodup) : (addL xs y).Nodup := by
  unfold addL
  split
  · exact n
  · next h =>
    rw [List.nodup_append]
    refine ⟨n, List.nodup_cons.mpr ⟨fun h => (by cases h), List.nodup_nil⟩, fun a ha b hb e => ?_⟩
    rw [List.mem_singleton.mp hb] at e
    exact h (e ▸ ha)
theorem addL_len (xs : List Str) (y : Str) : (addL xs y).length ≤ xs.length + 1 := by
  unfold addL
  split
  · omega
  · rw [List.length_append]; exact Nat.le_refl _
/-- the keys of a dict that is used as a set -/
def tk (xs : List Str) : List (Key × V) := xs.map fun z => (Sum.inr z, V.bl true)
theorem tk_keys (xs : List Str) : (tk xs).map (·.1) = xs.map Sum.inr := by
  unfold tk
  rw [List.map_map]
  rfl
theorem tk_val (xs : List Str) (z : Str) : (valV (tk xs) (.inr z)).isSome = decide (z ∈ xs) := by
  rw [← valV_any]
  unfold tk
  rw [List.any_map, Bool.eq_iff_iff]
  simp only [List.any_eq_true, Function.comp, decide_eq_true_eq]
  constructor
  · rintro ⟨x, hx, e⟩
    exact Sum.inr.inj e ▸ hx
  · exact fun h => ⟨z, h, rfl⟩
theorem tk_put (xs : List Str) (z : Str) : putK (tk xs) (.inr z) (.bl true) = tk (addL xs z) := by
  unfold putK addL
  rw [valV_any, tk_val]
  by_cases h : z ∈ xs
  · rw [if_pos (decide_eq_true h), if_pos h]
    unfold tk
    rw [List.map_map]
    apply List.map_congr_left
    intro x hx
    show (if (Sum.inr x : Key) = .inr z then ((Sum.inr x : Key), V.bl true) else (.inr x, .bl true)) = _
    split <;> rfl
  · rw [if_neg (by simpa using h), if_neg h]
    unfold tk
    rw [List.map_append]
    rfl
theorem tk_len (xs : List Str) : (tk xs).length = xs.length := List.length_map ..

/-! ### trees: the law's own makings -/
def mkTr (ps : List Str) (os : List (Option Tx)) : Tr := (ps.zip os).filterMap fun p => p.2.map fun t => (p.1, t)
theorem mkTr_step {ps : List Str} {os : List (Option Tx)} {i : Nat} {z : Str} {o : Option Tx} (h1 : ps[i]? = some z) (h2 : os[i]? = some o) : mkTr (ps.take (i + 1)) (os.take (i + 1)) = mkTr (ps.take i) (os.take i) ++ (o.map fun t => (z, t)).toList := by
  unfold mkTr
  rw [List.take_add_one, h1, List.take_add_one, h2]
  have l1 := (List.getElem?_eq_some_iff.mp h1).1
  have l2 := (List.getElem?_eq_some_iff.mp h2).1
  rw [show (some z).toList = [z] from rfl, show (some o).toList = [o] from rfl, List.zip_append (by rw [List.length_take, List.length_take]; omega), List.filterMap_append]
  congr 1
theorem mkTr_keys {ps : List Str} {os : List (Option Tx)} : ((mkTr ps os).map (·.1)).Sublist ps := by
  unfold mkTr
  induction ps generalizing os with
  | nil => exact List.nil_sublist _
  | cons z ps ih =>
    cases os with
    | nil => exact List.nil_sublist _
    | cons o os =>
      rw [List.zip_cons_cons]
      cases o with
      | none => exact List.Sublist.cons _ ih
      | some t => exact List.Sublist.cons_cons _ ih
def AscT (A : Tr) : Prop := Asc (A.map (·.1))
theorem AscT.nd {A : Tr} (h : AscT A) : (A.map (·.1)).Nodup := Asc.nodup h
theorem AscT.ext {A B : Tr} (ha : AscT A) (hb : AscT B) (h : ∀ z t, (z, t) ∈ A ↔ (z, t) ∈ B) : A = B := by
  have hk : ∀ z, z ∈ A.map (·.1) ↔ z ∈ B.map (·.1) := fun z => by
    rw [List.mem_map, List.mem_map]
    constructor
    · rintro ⟨p, hp, rfl⟩
      exact ⟨p, (h p.1 p.2).mp hp, rfl⟩
    · rintro ⟨p, hp, rfl⟩
      exact ⟨p, (h p.1 p.2).mpr hp, rfl⟩
  have ek := Asc.ext ha hb hk
  refine List.ext_getElem? fun i => ?_
  cases ea : A[i]? with
  | none =>
    have l : A.length = B.length := by
      have := congrArg List.length ek
      rw [List.length_map, List.length_map] at this
      exact this
    rw [List.getElem?_eq_none_iff] at ea
    rw [List.getElem?_eq_none (by omega)]
  | some p =>
    have ek' : (A.map (·.1))[i]? = (B.map (·.1))[i]? := by rw [ek]
    rw [List.getElem?_map, List.getElem?_map, ea] at ek'
    obtain ⟨r, er, e2⟩ := Option.map_eq_some_iff.mp ek'.symm
    rw [er]
    have m1 := getT_of hb.nd (List.mem_of_getElem? er)
    have m2 := getT_of hb.nd ((h p.1 p.2).mp (List.mem_of_getElem? ea))
    rw [e2, m2] at m1
    injection m1 with m1
    rw [show p = r from Prod.ext e2.symm m1]
/-- what may be compared -/
def okTr (A : Tr) : Prop := ∀ p ∈ A, PyData.strOk p.1 = true ∧ okX p.2
def itD (A : Tr) : PyData := .list (A.map fun p => .tuple [.str p.1, txD p.2])
theorem sh_itD {A : Tr} (h : okTr A) : SeqAt.shaped (itD A) = true := by
  refine Sh.ok (n := 3) (Sh.list (n := 2) fun d hd => ?_) (by decide)
  obtain ⟨p, hp, rfl⟩ := List.mem_map.mp hd
  refine Sh.tuple (n := 1) fun d hd => ?_
  simp only [List.mem_cons, List.not_mem_nil, or_false] at hd
  rcases hd with rfl | rfl
  · exact Sh.str (h p hp).1
  · exact Sh.strs (n := 0) (h p hp).2
theorem dq_items {H : Hp} : ∀ {ts : List Addr} {kvs : List (Key × V)} {A : Tr}, Paired (fun (t : Addr) (q : Key × V) => H t = some (.tup [kV q.1, q.2])) ts kvs → kvs.map (·.1) = A.map (fun p => kS p.1) → DqAll H (kvs.map (·.2)) (A.map fun p => txD p.2) → DqAll H (ts.map V.ref) (A.map fun p => .tuple [.str p.1, txD p.2])
  | [], [], [], _, _, _ => .nil
  | [], [], _ :: _, _, e, _ => by cases e
  | t :: ts, q :: kvs, [], _, e, _ => by cases e
  | t :: ts, q :: kvs, p :: A, .cons h pd, e, dq => by
    rw [List.map_cons, List.map_cons] at e
    injection e with e1 e2
    cases dq with
    | cons d1 d2 =>
    rw [e1] at h
    exact .cons (.tup h (.cons (.str p.1) (.cons d1 .nil))) (dq_items pd e2 d2)
  | [], _ :: _, _, pd, _, _ => by cases pd
theorem eqvAll_self : ∀ {ds : List PyData}, (∀ d ∈ ds, PyData.eqv d d = true) → PyData.eqvAll ds ds = true
  | [], _ => by rw [PyData.eqvAll]
  | d :: ds, h => by
    rw [PyData.eqvAll, h d List.mem_cons_self, eqvAll_self fun x hx => h x (List.mem_cons_of_mem _ hx)]
    rfl
theorem eqv_itD (A : Tr) : PyData.eqv (itD A) (itD A) = true := by
  rw [itD, PyData.eqv]
  refine eqvAll_self fun d hd => ?_
  obtain ⟨p, _, rfl⟩ := List.mem_map.mp hd
  rw [PyData.eqv]
  refine eqvAll_self fun d hd => ?_
  simp only [List.mem_cons, List.not_mem_nil, or_false] at hd
  rcases hd with rfl | rfl
  · rw [PyData.eqv]
    exact beq_self_eq_true _
  · rw [txD, eqv_strs]
    exact decide_eq_true rfl
theorem Chg.bt {b : Str × Addr × Tx} {t : Tx} {O : Own} : ∀ {B : Bt} {k : Nat}, B[k]? = some b → Chg (bO B ++ O) b.2.1 (.lst (b.2.2.map V.str)) (.lst (t.map V.str)) (bO (B.set k (b.1, b.2.1, t)) ++ O)
  | [], k, h => by simp at h
  | x :: B, 0, h => by
    have e : x = b := Option.some.inj h
    subst e
    exact .hd
  | x :: B, k + 1, h => .tl (Chg.bt (B := B) (k := k) h)
theorem bK_set {b : Str × Addr × Tx} {t : Tx} : ∀ {B : Bt} {k : Nat}, B[k]? = some b → bK (B.set k (b.1, b.2.1, t)) = bK B
  | [], k, h => by simp at h
  | x :: B, 0, h => by
    have e : x = b := Option.some.inj h
    subst e
    rfl
  | x :: B, k + 1, h => by
    have := bK_set (B := B) (k := k) (t := t) h
    show _ :: bK (B.set k _) = _ :: bK B
    rw [this]
theorem bK_at : ∀ {B : Bt} {k : Nat} {b : Str × Addr × Tx}, (B.map (·.1)).Nodup → B[k]? = some b → valV (bK B) (.inr b.1) = some (.ref b.2.1)
  | [], k, _, _, h => by simp at h
  | x :: B, 0, b, _, h => by
    have e : x = b := Option.some.inj h
    subst e
    exact valV_pos rfl
  | x :: B, k + 1, b, n, h => by
    rw [List.map_cons] at n
    have n' := List.nodup_cons.mp n
    show valV ((kS x.1, V.ref x.2.1) :: bK B) _ = _
    rw [valV_neg (fun e => n'.1 ?_)]
    · exact bK_at n'.2 (k := k) h
    · have : x.1 = b.1 := Sum.inr.inj e
      rw [this]
      exact List.mem_map.mpr ⟨b, List.mem_of_getElem? h, rfl⟩
section
variable {P : Program} {w : World} {K : PySem.W.Frag} {mg : Str → Option Value} {base : Heap}
def wayM : List Str := ["a", "a/b", "b/a/c", "ab", "0", "abcdef/012345/z9", "a/b/c", "a0", "b", "b/a"]
def way (i : Int) : Str := wayM.getD (i % 10).toNat ""
theorem way_ok (i : Int) : PyData.strOk (way i) = true := by
  have h : ∀ k, k < 10 → PyData.strOk (wayM.getD k "") = true := by decide +kernel
  exact h _ (by omega)
def sp_l_way (K : PySem.W.Frag) : Sp := fun vs H Q _ => ∃ i : Int, vs = [.int i] ∧ ∀ H', Same H H' → Q (.str (way i)) H'
theorem sp_l_way_len {vs H Q E} (h : sp_l_way K vs H Q E) : vs.length = 1 := by
  obtain ⟨_, rfl, _⟩ := h
  rfl
theorem ok_l_way (T : Txt K mg) : FnOk P w K mg base CX0 1 T.f_l_way T.fd_l_way ["place"] (sp_l_way K) := by
  refine T.F_l_way.ok sc_l_way (fun vs H Q E h => sp_l_way_len h) (fun cdv A outer s H vs Q E hr h => ?_)
  refine ⟨_, (pss_cons (ps_set (i := 1) sc_l_way.nd rfl (.inl rfl) (pe_lst (pa_cons pe_str (pa_cons pe_str (pa_cons pe_str (pa_cons pe_str (pa_cons pe_str (pa_cons pe_str (pa_cons pe_str (pa_cons pe_str (pa_cons pe_str (pa_cons pe_str pa_nil))))))))))))
      (pss_one (ps_ret (pe_ix (ix_K K (hu_of hr)) (pv 1) (pe_op op_mod (pe_callTy cr_int1 (by rfl) T.m_int (by decide +kernel) (pa_cons (pv 0) pa_nil)) pe_int) (fun _ _ => rfl))))), ?_⟩
  obtain ⟨i, rfl, q⟩ := h
  have hH := Has.start H
  refine g_start (σ' := [some (.int i), none]) rfl ?_
  walk_at "gg"
  refine g_klst (by walk_at "sz") hH (fun p1 H1 n1 h1 => ?_)
  walk_at "gg"
  refine g_rI (by show (0 : Int) < 10; decide) ?_
  have h0 : (0 : Int) ≤ i % 10 := Int.emod_nonneg _ (by decide)
  have h8 : i % 10 < 10 := Int.emod_lt_of_pos _ (by decide)
  refine g_ixZ (xs := wayM) (h1.get (List.Mem.head _)) h0 (by exact h8) (fun z hz => ?_)
  have e : z = way i := by
    unfold way
    rw [List.getD_eq_getElem?_getD, hz]
    rfl
  rw [e]
  exact q H1 h1.same
def sp_l_copy (K : PySem.W.Frag) : Sp := fun vs H Q _ => ∃ (a : Addr) (A : Tr), vs = [.ref a] ∧ TrAt H a A ∧ A.length ≤ 1000 ∧ ∀ d (B : Bt) H', Has H ((d, .dK (bK B)) :: bO B) H' → bA B = A → Q (.ref d) H'
theorem sp_l_copy_len {vs H Q E} (h : sp_l_copy K vs H Q E) : vs.length = 1 := by
  obtain ⟨_, _, rfl, _⟩ := h
  rfl
theorem take_new' {A : Tr} (n : (A.map (·.1)).Nodup) {t : Nat} {p : Str × Tx} (e : A[t]? = some p) : p.1 ∉ (A.take t).map (·.1) := by
  rw [List.map_take]
  exact nd_new n (by rw [List.getElem?_map, e]; rfl)
theorem ok_l_copy (T : Txt K mg) : FnOk P w K mg base CX0 1 T.f_l_copy T.fd_l_copy ["tree"] (sp_l_copy K) := by
  refine T.F_l_copy.ok sc_l_copy (fun vs H Q E h => sp_l_copy_len h) (fun cdv A outer s H vs Q E hr h => ?_)
  refine ⟨_, (pss_cons (ps_set (i := 1) sc_l_copy.nd rfl (.inl rfl) pe_dnewK)
      (pss_cons (ps_lock (ps_for PassesOwn.never rfl (pi_keys (pv 0)) (pg_name (i := 2) sc_l_copy.nd rfl (.inl rfl)) (pss_one (ps_asg (pe_callTy (cr_listK K) (by rfl) T.m_list (by decide +kernel) (pa_cons (pe_ix (ix_K K (hu_of hr)) (pv 0) (pv 2) (fun _ _ => rfl)) pa_nil)) (pg_sub (pv 1) (pv 2) (set_any (hu_of hr)))))))
      (pss_one (ps_ret (pv 1))))), ?_⟩
  obtain ⟨a, A, rfl, ⟨kvs, ha, ek, nd, dq⟩, lA, q⟩ := h
  have hH := Has.start H
  have lk := tr_len ek
  refine g_start (σ' := [some (.ref a), none, none]) rfl ?_
  walk_at "gg"
  refine g_dnewK hH (fun d H1 n1 h1 => ?_)
  walk_at "gg"
  refine k_forDK rfl ha (Has.b0 h1) (fun t σ O' => ∃ (B : Bt) (y2 : Option V), σ = [some (.ref a), some (.ref d), y2] ∧ O' = (d, .dK (bK B)) :: (bO B ++ []) ∧ bA B = A.take t) ⟨[], _, rfl, rfl, rfl⟩ ?_ ?_
  · rintro t k v σ O' H2 od ekv ⟨B, y2, rfl, rfl, eB⟩ h2
    obtain ⟨p, ep, rfl⟩ := tr_key ek ekv
    obtain ⟨kv2, rd, ek2, _, dq2⟩ := (RT.lock (od := od) ha ⟨kvs, .inl ha, ek, nd, dq⟩).up h2.same
    obtain ⟨l, vl, hl⟩ := tr_at ek2 dq2 (getT_of nd (List.mem_of_getElem? ep))
    have lB : B.length ≤ t := by
      have := congrArg List.length eB
      unfold bA at this
      rw [List.length_map, List.length_take] at this
      omega
    have lt : t < A.length := (List.getElem?_eq_some_iff.mp ep).1
    walk_at "gg"
    refine g_ixDR rd vl ?_
    walk_at "gg"
    refine g_listL hl h2 (fun p1 H3 n3 h3 => ?_)
    have nz : p.1 ∉ B.map (·.1) := by
      rw [← bA_keys, eB]
      exact take_new' nd ep
    walk_at "gg"
    refine g_stD (k := .inr p.1) rfl h3 (.tl .hd) (szl (by unfold bK; rw [List.length_map]; omega)) (fun H4 h4 => ?_)
    rw [putK_new _ (bK_none nz)] at h4
    walk_at "gg"
    refine ⟨_, ⟨B ++ [(p.1, p1, p.2)], _, rfl, rfl, ?_⟩, Has.bput h4⟩
    rw [bA_snoc, eB, List.take_add_one, ep]
    rfl
  · rintro σ O' H2 ⟨B, y2, rfl, rfl, eB⟩ h2
    rw [lk, List.take_length] at eB
    rw [List.append_nil] at h2
    walk_at "gg"
    exact q d B H2 h2 eB
def sp_l_kept (K : PySem.W.Frag) : Sp := fun vs H Q _ => ∃ (a b : Addr) (A : Tr), vs = [.ref a, .ref b] ∧ TrAt H a A ∧ TrAt H b A ∧ okTr A ∧ ∀ H', Same H H' → Q (.bl true) H'
theorem sp_l_kept_len {vs H Q E} (h : sp_l_kept K vs H Q E) : vs.length = 2 := by
  obtain ⟨_, _, _, rfl, _⟩ := h
  rfl
theorem ok_l_kept (T : Txt K mg) : FnOk P w K mg base CX0 1 T.f_l_kept T.fd_l_kept ["passed", "tree"] (sp_l_kept K) := by
  refine T.F_l_kept.ok sc_l_kept (fun vs H Q E h => sp_l_kept_len h) (fun cdv A outer s H vs Q E hr h => ?_)
  refine ⟨_, (pss_one (ps_ret (pe_cmpR (op_eqK K hr.units) (LiI.pe_listItems rfl (pv 0) (by rfl) T.m_list (by decide +kernel)) (LiI.pe_listItems rfl (pv 1) (by rfl) T.m_list (by decide +kernel)) (nomark _)))), ?_⟩
  obtain ⟨a, b, A, rfl, ⟨ka, ha, eka, _, dqa⟩, ⟨kb, hb, ekb, _, dqb⟩, ok, q⟩ := h
  refine g_start (σ' := [some (.ref a), some (.ref b)]) rfl ?_
  walk_at "gg"
  refine g_listItems ?_
  walk_at "gg"
  refine g_items ha (fun p1 H1 ts1 s1 n1 e1 pd1 => ?_)
  walk_at "gg"
  refine g_listItems ?_
  walk_at "gg"
  refine g_items (s1 _ _ hb) (fun p2 H2 ts2 s2 n2 e2 pd2 => ?_)
  refine g_eqD (d := itD A) (e := itD A) (.lst (s2 _ _ e1) ((dq_items pd1 eka (dqa.up s1 _ _)).up s2 _ _)) (.lst e2 (dq_items pd2 ekb (dqb.up (s1.trans s2) _ _))) (sh_itD ok) (sh_itD ok) ?_
  rw [eqv_itD]
  exact q H2 (s1.trans s2)
end

end K10

namespace K10
open PySem PySem.Spec PyProof.Rows L2 Qk
local macro_rules | `(tactic| walk_at "m") => `(tactic| ((repeat (first | exact List.Mem.head _ | apply List.Mem.tail)); done))
local macro_rules | `(tactic| walk_at "h") => `(tactic| first | assumption | exact Has.gF (by assumption) (by assumption) | exact Has.get (by assumption) (by walk_at "m"))
local macro_rules | `(tactic| walk_at "c") => `(tactic| ((repeat (first | exact Chg.hd | apply Chg.tl)); done))
local macro_rules | `(tactic| walk_at "is") => `(tactic| first
  | ((with_reducible refine' is2_non ?gh ?_); (case gh => walk_at "h"))
  | (with_reducible refine is_int_list ?_)
  | (with_reducible refine is_int_tuple ?_)
  | (with_reducible refine is_int_dict ?_)
  | (with_reducible refine is_int_int ?_)
  | (with_reducible refine is_int_bool ?_)
  | (with_reducible refine is_int_str ?_)
  | ((with_reducible refine' is2_int ?gh ?_); (case gh => walk_at "h"))
  | (with_reducible refine is_str_list ?_)
  | (with_reducible refine is_str_tuple ?_)
  | (with_reducible refine is_str_dict ?_)
  | (with_reducible refine is_str_int ?_)
  | (with_reducible refine is_str_bool ?_)
  | (with_reducible refine is_str_str ?_)
  | ((with_reducible refine' is2_str ?gh ?_); (case gh => walk_at "h"))
  | (with_reducible refine is_bool_list ?_)
  | (with_reducible refine is_bool_tuple ?_)
  | (with_reducible refine is_bool_dict ?_)
  | (with_reducible refine is_bool_int ?_)
  | (with_reducible refine is_bool_bool ?_)
  | (with_reducible refine is_bool_str ?_)
  | ((with_reducible refine' is2_bool ?gh ?_); (case gh => walk_at "h"))
  | ((with_reducible refine' is_list_list ?gh ?_); (case gh => walk_at "h"))
  | ((with_reducible refine' is_list_tuple ?gh ?_); (case gh => walk_at "h"))
  | ((with_reducible refine' is_list_dict ?gh ?_); (case gh => walk_at "h"))
  | ((with_reducible refine' is_list_int ?gh ?_); (case gh => walk_at "h"))
  | ((with_reducible refine' is_list_bool ?gh ?_); (case gh => walk_at "h"))
  | ((with_reducible refine' is_list_str ?gh ?_); (case gh => walk_at "h"))
  | ((with_reducible refine' is2_list ?ga ?gb ?_); (case ga => walk_at "h"); (case gb => walk_at "h"))
  | ((with_reducible refine' is_tuple_list ?gh ?_); (case gh => walk_at "h"))
  | ((with_reducible refine' is_tuple_tuple ?gh ?_); (case gh => walk_at "h"))
  | ((with_reducible refine' is_tuple_dict ?gh ?_); (case gh => walk_at "h"))
  | ((with_reducible refine' is_tuple_int ?gh ?_); (case gh => walk_at "h"))
  | ((with_reducible refine' is_tuple_bool ?gh ?_); (case gh => walk_at "h"))
  | ((with_reducible refine' is_tuple_str ?gh ?_); (case gh => walk_at "h"))
  | ((with_reducible refine' is2_tuple ?ga ?gb ?_); (case ga => walk_at "h"); (case gb => walk_at "h"))
  | ((with_reducible refine' is_dict_list ?gh ?_); (case gh => walk_at "h"))
  | ((with_reducible refine' is_dict_tuple ?gh ?_); (case gh => walk_at "h"))
  | ((with_reducible refine' is_dict_dict ?gh ?_); (case gh => walk_at "h"))
  | ((with_reducible refine' is_dict_int ?gh ?_); (case gh => walk_at "h"))
  | ((with_reducible refine' is_dict_bool ?gh ?_); (case gh => walk_at "h"))
  | ((with_reducible refine' is_dict_str ?gh ?_); (case gh => walk_at "h"))
  | ((with_reducible refine' is2_dict ?ga ?gb ?_); (case ga => walk_at "h"); (case gb => walk_at "h")))
local macro_rules | `(tactic| walk_at "g") => `(tactic| first
  | (with_reducible refine g_seq ?_)
  | (with_reducible refine g_asg ?_)
  | ((with_reducible refine g_name ?_); dsimp only [List.set, wipe, List.map])
  | ((with_reducible refine' g_var ?gv ?_); (case gv => exact rfl))
  | (with_reducible refine g_c ?_)
  | (with_reducible refine g_op ?_)
  | (with_reducible refine g_cons ?_)
  | (with_reducible refine g_nil ?_)
  | (with_reducible refine g_cb ?_)
  | (with_reducible refine g_call ?_)
  | (with_reducible refine g_tup ?_)
  | (with_reducible refine g_lst ?_)
  | (with_reducible refine g_bm ?_)
  | (with_reducible refine g_bm0 ?_)
  | ((with_reducible refine' g_kbm ?gh ?_); (case gh => walk_at "h"))
  | (with_reducible refine g_drop ?_)
  | (with_reducible refine g_ret ?_)
  | (with_reducible refine g_retN ?_)
  | (with_reducible refine g_next ?_)
  | (with_reducible refine g_brk ?_)
  | (with_reducible refine g_cont ?_)
  | (with_reducible refine g_if ?_)
  | ((with_reducible refine' g_aug ?gv ?_); (case gv => exact rfl))
  | (with_reducible refine g_ipI ?_)
  | (with_reducible refine g_test ?_)
  | (with_reducible refine g_tB ?_)
  | (with_reducible refine g_kB ?_)
  | (with_reducible refine g_not ?_)
  | (with_reducible refine g_and ?_)
  | (with_reducible refine g_or ?_)
  | (with_reducible refine g_andV ?_)
  | (with_reducible refine g_orV ?_)
  | (with_reducible refine g_notV ?_)
  | (with_reducible refine g_ifE ?_)
  | (with_reducible refine g_addI ?_)
  | (with_reducible refine g_rI0 ?_)
  | (with_reducible refine g_eqI ?_)
  | (with_reducible refine g_eqS ?_)
  | (with_reducible refine g_neI ?_)
  | (with_reducible refine g_neS ?_)
  | (with_reducible refine g_isN ?_)
  | (with_reducible refine g_notN ?_)
  | (with_reducible refine g_int ?_)
  | (with_reducible refine g_max2 ?_)
  | (with_reducible refine g_min2 ?_)
  | ((with_reducible refine' g_lenL ?gh ?_); (case gh => walk_at "h"))
  | (with_reducible refine g_sub ?_)
  | (with_reducible refine g_gcons ?_)
  | (with_reducible refine g_gnil ?_)
  | (with_reducible refine g_un ?_)
  | (with_reducible refine g_rU ?_)
  | (with_reducible refine g_forL ?_)
  | (with_reducible refine g_forS ?_)
  | (with_reducible refine g_forR1 ?_)
  | (with_reducible refine g_forR2 ?_)
  | (with_reducible refine g_forR3 ?_)
  | (with_reducible refine g_lcL ?_)
  | (with_reducible refine g_lcR1 ?_)
  | (with_reducible refine g_lcR2 ?_)
  | (with_reducible refine g_slice ?_)
  | (with_reducible refine g_part ?_)
  | (with_reducible refine g_kOI ?_)
  | (with_reducible refine g_nopart ?_)
  | (with_reducible refine g_yes ?_)
  | ((with_reducible refine' g_wipe ?gv ?_); (case gv => exact rfl))
  | (with_reducible refine iteT ?_)
  | (with_reducible refine iteF ?_)
  | (with_reducible refine i_nf ?_)
  | (with_reducible refine i_nt ?_)
  | ((with_reducible refine' g_gtup ?gh ?gl ?_); (case gh => walk_at "h"); (case gl => exact rfl))
  | ((with_reducible refine' g_notinI ?gh ?_); (case gh => walk_at "h"))
  | ((with_reducible refine' g_inI ?gh ?_); (case gh => walk_at "h"))
  | ((with_reducible refine' g_kget2 ?gh ?_); (case gh => walk_at "h"))
  | ((with_reducible refine' g_kgotI ?gh ?_); (case gh => walk_at "h"))
  | (with_reducible refine g_tRev ?_)
  | (with_reducible refine g_neB ?_)
  | (with_reducible refine g_eqB ?_)
  | ((with_reducible refine' g_lenT ?gh ?_); (case gh => walk_at "h"))
  | (with_reducible refine g_star ?_)
  | ((with_reducible refine' g_kstarL ?gh ?_); (case gh => walk_at "h"))
  | ((with_reducible refine' g_kstarT ?gh ?_); (case gh => walk_at "h"))
  | (with_reducible refine g_tru ?_)
  | ((with_reducible refine' g_truL ?gh ?_); (case gh => walk_at "h"))
  | (with_reducible refine g_get2 ?_)
  | (with_reducible refine g_try ?_)
  | (with_reducible refine g_fld ?_)
  | (with_reducible refine g_sfld ?_)
  | (with_reducible refine g_meth ?_)
  | (with_reducible refine g_make ?_)
  | (with_reducible refine g_del ?_)
  | (with_reducible refine g_callS ?_)
  | (with_reducible refine g_raise ?_)
  | (with_reducible refine g_xf ?_)
  | (with_reducible refine g_m0 ?_)
  | (with_reducible refine g_km0 ?_)
  | walk_at "is")
local macro_rules | `(tactic| walk_at "gg") => `(tactic| repeat walk_at "g")
local macro_rules | `(tactic| walk_at "sz") => `(tactic| (refine sz ?_; simp only [List.length_cons, List.length_nil, List.length_map, List.length_append, List.length_replicate]; omega))
local macro_rules | `(tactic| walk_at "sub") => `(tactic| ((repeat (first | exact List.Sublist.slnil | with_reducible apply List.Sublist.cons_cons | with_reducible apply List.Sublist.cons)); done))

/-! ### stable lines, runs, chunks -/
def look (ps : List (Nat × Nat)) (i : Nat) : Option Nat := (ps.find? fun p => decide (p.1 = i)).map (·.2)
theorem look_nil (i : Nat) : look [] i = none := rfl
theorem look_cons (p : Nat × Nat) (ps : List (Nat × Nat)) (i : Nat) : look (p :: ps) i = if p.1 = i then some p.2 else look ps i := by
  unfold look
  by_cases h : p.1 = i <;> simp [List.find?_cons, h]
theorem fm_congr {α β : Type} {f g : α → Option β} : ∀ {l : List α}, (∀ x ∈ l, f x = g x) → l.filterMap f = l.filterMap g
  | [], _ => rfl
  | x :: l, h => by
    rw [List.filterMap_cons, List.filterMap_cons, h x List.mem_cons_self, fm_congr fun y hy => h y (List.mem_cons_of_mem _ hy)]
def Inc : Nat → Nat → List (Nat × Nat) → Prop
  | _, _, [] => True
  | i, j, p :: ps => i ≤ p.1 ∧ j ≤ p.2 ∧ Inc (p.1 + 1) (p.2 + 1) ps
theorem Inc.mono {i j i' j' : Nat} : ∀ {ps : List (Nat × Nat)}, i' ≤ i → j' ≤ j → Inc i j ps → Inc i' j' ps
  | [], _, _, _ => trivial
  | _ :: _, h1, h2, h => ⟨Nat.le_trans h1 h.1, Nat.le_trans h2 h.2.1, h.2.2⟩
theorem mt_inc : ∀ (xs ys : List Str) (i j : Nat), Inc i j (mt xs ys i j)
  | [], _, _, _ => by rw [mt]; trivial
  | _ :: _, [], _, _ => by rw [mt]; trivial
  | x :: xs, y :: ys, i, j => by
    rw [mt]
    split
    · exact ⟨Nat.le_refl _, Nat.le_refl _, mt_inc xs ys (i + 1) (j + 1)⟩
    · split
      · exact (mt_inc xs (y :: ys) (i + 1) j).mono (Nat.le_succ _) (Nat.le_refl _)
      · exact (mt_inc (x :: xs) ys i (j + 1)).mono (Nat.le_refl _) (Nat.le_succ _)
termination_by xs ys => xs.length + ys.length
theorem mt_eq : ∀ (xs ys : List Str) (i j : Nat) (p : Nat × Nat), p ∈ mt xs ys i j → ∃ z, xs[p.1 - i]? = some z ∧ ys[p.2 - j]? = some z
  | [], _, _, _, _, h => by rw [mt] at h; cases h
  | _ :: _, [], _, _, _, h => by rw [mt] at h; cases h
  | x :: xs, y :: ys, i, j, p, h => by
    rw [mt] at h
    split at h
    · rename_i e
      rcases List.mem_cons.mp h with rfl | h
      · exact ⟨x, by simp, by simp [e]⟩
      · have hl := mt_lt _ _ _ _ _ h
        obtain ⟨z, h1, h2⟩ := mt_eq xs ys (i + 1) (j + 1) p h
        refine ⟨z, ?_, ?_⟩
        · rw [show p.1 - i = (p.1 - (i + 1)) + 1 by omega]; exact h1
        · rw [show p.2 - j = (p.2 - (j + 1)) + 1 by omega]; exact h2
    · split at h
      · have hl := mt_lt _ _ _ _ _ h
        obtain ⟨z, h1, h2⟩ := mt_eq xs (y :: ys) (i + 1) j p h
        refine ⟨z, ?_, h2⟩
        rw [show p.1 - i = (p.1 - (i + 1)) + 1 by omega]; exact h1
      · have hl := mt_lt _ _ _ _ _ h
        obtain ⟨z, h1, h2⟩ := mt_eq (x :: xs) ys i (j + 1) p h
        refine ⟨z, h1, ?_⟩
        rw [show p.2 - j = (p.2 - (j + 1)) + 1 by omega]; exact h2
termination_by xs ys => xs.length + ys.length
theorem look_ge {i k : Nat} : ∀ {a b : Nat} {qs : List (Nat × Nat)}, Inc a b qs → look qs i = some k → a ≤ i ∧ b ≤ k
  | _, _, [], _, h => by cases h
  | a, b, q :: qs, hi, h => by
    rw [look_cons] at h
    split at h
    · rename_i e
      have := Option.some.inj h
      exact ⟨e ▸ hi.1, this ▸ hi.2.1⟩
    · have := look_ge hi.2.2 h
      exact ⟨by have := hi.1; omega, by have := hi.2.1; omega⟩
theorem look_inc {i1 i2 k1 k2 : Nat} : ∀ {a b : Nat} {qs : List (Nat × Nat)}, Inc a b qs → look qs i1 = some k1 → look qs i2 = some k2 → i1 < i2 → k1 < k2
  | _, _, [], _, h, _, _ => by cases h
  | a, b, q :: qs, hi, h1, h2, hlt => by
    rw [look_cons] at h1 h2
    split at h1
    · rename_i e1
      split at h2
      · omega
      · have := look_ge hi.2.2 h2
        have := Option.some.inj h1
        omega
    · split at h2
      · rename_i e2
        have := look_ge hi.2.2 h1
        omega
      · exact look_inc hi.2.2 h1 h2 hlt
theorem look_mem {i k : Nat} {qs : List (Nat × Nat)} (h : look qs i = some k) : (i, k) ∈ qs := by
  induction qs with
  | nil => cases h
  | cons q qs ih =>
    rw [look_cons] at h
    split at h
    · rename_i e
      have := Option.some.inj h
      obtain ⟨q1, q2⟩ := q
      simp only at e this
      rw [e, this]
      exact List.mem_cons_self
    · exact List.mem_cons_of_mem _ (ih h)
abbrev Tr := Nat × Nat × Nat
def stab (ps qs : List (Nat × Nat)) : List Tr := ps.filterMap fun p => (look qs p.1).map fun k => (p.1, p.2, k)
def Wf : Nat → Nat → Nat → List Tr → Prop
  | _, _, _, [] => True
  | i, j, k, m :: ms => i ≤ m.1 ∧ j ≤ m.2.1 ∧ k ≤ m.2.2 ∧ Wf (m.1 + 1) (m.2.1 + 1) (m.2.2 + 1) ms
theorem stab_wf {qs : List (Nat × Nat)} {a b : Nat} (hq : Inc a b qs) : ∀ {i j k : Nat} {ps : List (Nat × Nat)}, Inc i j ps → (∀ i' k', i ≤ i' → look qs i' = some k' → k ≤ k') → Wf i j k (stab ps qs)
  | _, _, _, [], _, _ => trivial
  | i, j, k, p :: ps, hp, hk => by
    unfold stab
    rw [List.filterMap_cons]
    cases h : look qs p.1 with
    | none =>
      simp only [Option.map_none]
      exact stab_wf hq (hp.2.2.mono (by have := hp.1; omega) (by have := hp.2.1; omega)) hk
    | some k' =>
      simp only [Option.map_some]
      refine ⟨hp.1, hp.2.1, hk _ _ hp.1 h, stab_wf hq hp.2.2 fun i' k2 hi h2 => ?_⟩
      exact look_inc hq h h2 hi
theorem stab_mem {ps qs : List (Nat × Nat)} {m : Tr} (h : m ∈ stab ps qs) : (m.1, m.2.1) ∈ ps ∧ (m.1, m.2.2) ∈ qs := by
  unfold stab at h
  obtain ⟨p, hp, e⟩ := List.mem_filterMap.mp h
  obtain ⟨k, hk, e2⟩ := Option.map_eq_some_iff.mp e
  subst e2
  exact ⟨hp, look_mem hk⟩
theorem fm_none {α β : Type} {f : α → Option β} : ∀ {l : List α}, (∀ x ∈ l, f x = none) → l.filterMap f = []
  | [], _ => rfl
  | x :: l, h => by
    rw [List.filterMap_cons, h x List.mem_cons_self]
    exact fm_none fun y hy => h y (List.mem_cons_of_mem _ hy)
theorem look_none {a b i : Nat} {ps : List (Nat × Nat)} (h : Inc a b ps) (hi : i < a) : look ps i = none := by
  cases e : look ps i with
  | none => rfl
  | some k =>
    have := look_ge h e
    omega
theorem fm_range {β : Type} (g : Nat → Nat → Option β) : ∀ (n a b : Nat) (ps : List (Nat × Nat)), Inc a b ps → (∀ p ∈ ps, p.1 < a + n) → ps.filterMap (fun p => g p.1 p.2) = (List.range' a n).filterMap fun i => (look ps i).bind fun j => g i j
  | 0, a, b, ps, hp, hn => by
    cases ps with
    | nil => rfl
    | cons p ps =>
      have := hp.1
      have := hn p List.mem_cons_self
      omega
  | n + 1, a, b, [], hp, hn => (fm_none fun x _ => rfl).symm
  | n + 1, a, b, p :: ps, hp, hn => by
    rw [List.range'_succ, List.filterMap_cons (a := a), look_cons]
    by_cases e : p.1 = a
    · rw [if_pos e, List.filterMap_cons, e]
      have ih := fm_range g n (a + 1) (p.2 + 1) ps (by have := hp.2.2; rw [e] at this; exact this) (fun q hq => by have := hn q (List.mem_cons_of_mem _ hq); omega)
      have hc : (List.range' (a + 1) n).filterMap (fun i => (look (p :: ps) i).bind fun j => g i j) = (List.range' (a + 1) n).filterMap fun i => (look ps i).bind fun j => g i j := by
        apply fm_congr
        intro i hi
        have := (List.mem_range'_1.mp hi).1
        rw [look_cons, if_neg (by omega)]
      rw [hc, ← ih]
      rfl
    · rw [if_neg e, look_none hp.2.2 (by have := hp.1; omega)]
      exact fm_range g n (a + 1) b (p :: ps) ⟨by have := hp.1; omega, hp.2.1, hp.2.2⟩ (fun q hq => by have := hn q hq; omega)
theorem stab_range {ps qs : List (Nat × Nat)} {n : Nat} (hp : Inc 0 0 ps) (hn : ∀ p ∈ ps, p.1 < n) :
    stab ps qs = ((List.range n).filter fun i => (look ps i).isSome && (look qs i).isSome).map fun i => (i, (look ps i).getD 0, (look qs i).getD 0) := by
  have h := fm_range (fun i j => (look qs i).map fun k => ((i, j, k) : Tr)) n 0 0 ps hp (by intro p h; have := hn p h; omega)
  unfold stab
  rw [h, List.range_eq_range', ← List.filterMap_eq_map, List.filterMap_filter]
  apply fm_congr
  intro i _
  rcases h1 : look ps i with _ | j <;> rcases h2 : look qs i with _ | k <;> simp [h1, h2]
inductive Ch where
  | same (ls : List Str)
  | part (b x y : List Str)
abbrev R4 := Nat × Nat × Nat × Nat
def grpF : R4 → List Tr → List R4
  | r, [] => [r]
  | (a, b, c, l), m :: ms => if (a + l, b + l, c + l) = m then grpF (a, b, c, l + 1) ms else (a, b, c, l) :: grpF (m.1, m.2.1, m.2.2, 1) ms
def grp : List Tr → List R4
  | [] => []
  | m :: ms => grpF (m.1, m.2.1, m.2.2, 1) ms
def cut (L : List Str) (i a : Nat) : List Str := (L.drop i).take (a - i)
def pOpt (B X Y : List Str) (s m : Tr) : List Ch := if (cut B s.1 m.1).length + (cut X s.2.1 m.2.1).length + (cut Y s.2.2 m.2.2).length > 0 then [.part (cut B s.1 m.1) (cut X s.2.1 m.2.1) (cut Y s.2.2 m.2.2)] else []
def sOpt (B : List Str) (a l : Nat) : List Ch := if l > 0 then [.same (cut B a (a + l))] else []
def pc (B X Y : List Str) : Tr → List R4 → List Ch
  | _, [] => []
  | s, (a, b, c, l) :: rs => pOpt B X Y s (a, b, c) ++ sOpt B a l ++ pc B X Y (a + l, b + l, c + l) rs
def fl (run : List Str) : List Ch := if run ≠ [] then [.same run] else []
def pN (B X Y : List Str) (s m : Tr) : List Ch := if m ≠ s then [.part (cut B s.1 m.1) (cut X s.2.1 m.2.1) (cut Y s.2.2 m.2.2)] else []
def nx3 (m : Tr) : Tr := (m.1 + 1, m.2.1 + 1, m.2.2 + 1)
def chL (B X Y : List Str) : Tr → List Str → List Tr → List Ch
  | _, _, [] => []
  | s, run, m :: ms => if m ≠ s ∨ ms = [] then fl run ++ pN B X Y s m ++ chL B X Y (nx3 m) ((B.drop m.1).take 1) ms else chL B X Y (nx3 m) (run ++ (B.drop m.1).take 1) ms
theorem cut_len (L : List Str) {i a : Nat} (h : a ≤ L.length) : (cut L i a).length = a - i := by
  unfold cut
  rw [List.length_take, List.length_drop]
  omega
theorem cut_succ (L : List Str) {a n : Nat} (h : a ≤ n) : cut L a (n + 1) = cut L a n ++ (L.drop n).take 1 := by
  unfold cut
  rw [show n + 1 - a = (n - a) + 1 by omega, List.take_add_one, List.getElem?_drop, show a + (n - a) = n by omega]
  congr 1
  by_cases hn : n < L.length
  · rw [List.getElem?_eq_getElem hn, List.drop_eq_getElem_cons hn]
    rfl
  · rw [List.getElem?_eq_none (by omega), List.drop_eq_nil_of_le (by omega)]
    rfl
theorem pOpt_pN {B X Y : List Str} {s m : Tr} (h1 : s.1 ≤ m.1) (h2 : s.2.1 ≤ m.2.1) (h3 : s.2.2 ≤ m.2.2) (l1 : m.1 ≤ B.length) (l2 : m.2.1 ≤ X.length) (l3 : m.2.2 ≤ Y.length) : pOpt B X Y s m = pN B X Y s m := by
  unfold pOpt pN
  rw [cut_len B l1, cut_len X l2, cut_len Y l3]
  by_cases e : m = s
  · subst e
    rw [if_neg (by omega), if_neg (fun z => z rfl)]
  · rw [if_pos e, if_pos]
    rcases Nat.lt_or_ge 0 (m.1 - s.1 + (m.2.1 - s.2.1) + (m.2.2 - s.2.2)) with h | h
    · exact h
    · exfalso
      apply e
      obtain ⟨m1, m2, m3⟩ := m
      obtain ⟨s1, s2, s3⟩ := s
      simp only at *
      rw [show m1 = s1 by omega, show m2 = s2 by omega, show m3 = s3 by omega]
/-- within a text's bounds -/
def Bd (B X Y : List Str) (m : Tr) : Prop := m.1 < B.length ∧ m.2.1 < X.length ∧ m.2.2 < Y.length
theorem pc_chL (B X Y : List Str) : ∀ (S : List Tr) (a b c l : Nat) (pos : Tr), 0 < l → a + l ≤ B.length → b + l ≤ X.length → c + l ≤ Y.length → Wf (a + l) (b + l) (c + l) S → (∀ m ∈ S, Bd B X Y m) →
    pc B X Y pos (grpF (a, b, c, l) S ++ [(B.length, X.length, Y.length, 0)]) = pOpt B X Y pos (a, b, c) ++ chL B X Y (a + l, b + l, c + l) (cut B a (a + l)) (S ++ [(B.length, X.length, Y.length)])
  | [], a, b, c, l, pos, hl, h1, h2, h3, hw, hb => by
    have hrun : cut B a (a + l) ≠ [] := fun z => by
      have := cut_len B (i := a) h1
      rw [z] at this
      simp only [List.length_nil] at this
      omega
    show pOpt B X Y pos (a, b, c) ++ sOpt B a l ++ (pOpt B X Y (a + l, b + l, c + l) (B.length, X.length, Y.length) ++ sOpt B B.length 0 ++ []) = _
    rw [pOpt_pN (s := (a + l, b + l, c + l)) h1 h2 h3 (Nat.le_refl _) (Nat.le_refl _) (Nat.le_refl _), List.nil_append, chL, if_pos (.inr rfl), chL]
    unfold sOpt fl
    rw [if_pos hl, if_neg (by omega), if_pos hrun]
    simp only [List.append_nil, List.append_assoc]
  | m :: ms, a, b, c, l, pos, hl, h1, h2, h3, hw, hb => by
    have hm := hb m List.mem_cons_self
    have hne : ms ++ [(B.length, X.length, Y.length)] ≠ [] := by simp
    obtain ⟨m1, m2, m3⟩ := m
    obtain ⟨w1, w2, w3, w4⟩ := hw
    obtain ⟨b1, b2, b3⟩ := hm
    simp only at w1 w2 w3 w4 b1 b2 b3
    rw [grpF, List.cons_append, chL]
    by_cases e : ((a + l, b + l, c + l) : Tr) = (m1, m2, m3)
    · rw [if_pos e, if_neg (by rintro (z | z); exact z e.symm; exact hne z)]
      obtain ⟨e1, e2, e3⟩ : a + l = m1 ∧ b + l = m2 ∧ c + l = m3 := by
        simp only [Prod.mk.injEq] at e
        exact e
      subst e1 e2 e3
      have ih := pc_chL B X Y ms a b c (l + 1) pos (by omega) (by omega) (by omega) (by omega) w4 (fun q hq => hb q (List.mem_cons_of_mem _ hq))
      rw [ih, show a + (l + 1) = (a + l) + 1 by omega, cut_succ B (by omega)]
      rfl
    · rw [if_neg e, if_pos (.inl fun z => e z.symm)]
      have ih := pc_chL B X Y ms m1 m2 m3 1 (a + l, b + l, c + l) (by omega) (by omega) (by omega) (by omega) w4 (fun q hq => hb q (List.mem_cons_of_mem _ hq))
      have hrun : cut B a (a + l) ≠ [] := fun z => by
        have := cut_len B (i := a) h1
        rw [z] at this
        simp only [List.length_nil] at this
        omega
      show pOpt B X Y pos (a, b, c) ++ sOpt B a l ++ pc B X Y (a + l, b + l, c + l) (grpF (m1, m2, m3, 1) ms ++ [(B.length, X.length, Y.length, 0)]) = _
      rw [ih, pOpt_pN (s := (a + l, b + l, c + l)) (m := (m1, m2, m3)) w1 w2 w3 (Nat.le_of_lt b1) (Nat.le_of_lt b2) (Nat.le_of_lt b3)]
      unfold sOpt fl
      rw [if_pos hl, if_pos hrun]
      have ec : cut B m1 (m1 + 1) = (B.drop m1).take 1 := by
        unfold cut
        rw [show m1 + 1 - m1 = 1 by omega]
      rw [ec]
      simp only [List.append_assoc]
      rfl
/-- the chunks of three texts -/
def tch (B X Y : List Str) : List Ch := pc B X Y (0, 0, 0) (grp (stab (mt B X 0 0) (mt B Y 0 0)) ++ [(B.length, X.length, Y.length, 0)])
theorem stab_bd (B X Y : List Str) : ∀ m ∈ stab (mt B X 0 0) (mt B Y 0 0), Bd B X Y m := fun m hm => by
  obtain ⟨h1, h2⟩ := stab_mem hm
  have l1 := mt_lt _ _ _ _ _ h1
  have l2 := mt_lt _ _ _ _ _ h2
  exact ⟨by omega, by omega, by omega⟩
theorem stab_wf0 (B X Y : List Str) : Wf 0 0 0 (stab (mt B X 0 0) (mt B Y 0 0)) := stab_wf (mt_inc B Y 0 0) (mt_inc B X 0 0) fun _ _ _ _ => Nat.zero_le _
theorem tch_eq (B X Y : List Str) : tch B X Y = chL B X Y (0, 0, 0) [] (stab (mt B X 0 0) (mt B Y 0 0) ++ [(B.length, X.length, Y.length)]) := by
  unfold tch
  have hw := stab_wf0 B X Y
  have hb := stab_bd B X Y
  generalize stab (mt B X 0 0) (mt B Y 0 0) = S at *
  cases S with
  | nil =>
    show pOpt B X Y (0, 0, 0) (B.length, X.length, Y.length) ++ sOpt B B.length 0 ++ [] = _
    rw [pOpt_pN (Nat.zero_le _) (Nat.zero_le _) (Nat.zero_le _) (Nat.le_refl _) (Nat.le_refl _) (Nat.le_refl _), List.nil_append, chL, if_pos (.inr rfl), chL]
    unfold sOpt fl
    rw [if_neg (by omega), if_neg (fun z => z rfl)]
    simp only [List.append_nil, List.nil_append]
  | cons m ms =>
    obtain ⟨m1, m2, m3⟩ := m
    obtain ⟨w1, w2, w3, w4⟩ := hw
    obtain ⟨b1, b2, b3⟩ := hb (m1, m2, m3) List.mem_cons_self
    simp only at w1 w2 w3 w4 b1 b2 b3
    have h := pc_chL B X Y ms m1 m2 m3 1 (0, 0, 0) (by omega) (by omega) (by omega) (by omega) w4 (fun q hq => hb q (List.mem_cons_of_mem _ hq))
    have hne : ms ++ [(B.length, X.length, Y.length)] ≠ [] := by simp
    have ec : cut B m1 (m1 + 1) = (B.drop m1).take 1 := by
      unfold cut
      rw [show m1 + 1 - m1 = 1 by omega]
    show pc B X Y (0, 0, 0) (grpF (m1, m2, m3, 1) ms ++ _) = _
    rw [h, pOpt_pN (m := (m1, m2, m3)) (Nat.zero_le _) (Nat.zero_le _) (Nat.zero_le _) (Nat.le_of_lt b1) (Nat.le_of_lt b2) (Nat.le_of_lt b3), List.cons_append, chL, ec]
    by_cases e : ((m1, m2, m3) : Tr) = (0, 0, 0)
    · rw [if_neg (by rintro (z | z); exact z e; exact hne z)]
      unfold pN
      rw [if_neg (fun z => z e), List.nil_append, List.nil_append]
      rfl
    · rw [if_pos (.inl e)]
      unfold fl
      rw [if_neg (fun z => z rfl), List.nil_append]
      rfl
/-! ### the stretches joined -/
def side (n : Nat) : Ch → List Str
  | .same ls => ls
  | .part b x y => if n = 1 then b else if n = 2 then x else y
def joined (n : Nat) (cs : List Ch) : List Str := cs.flatMap (side n)
def sel (n : Nat) (m : Tr) : Nat := if n = 1 then m.1 else if n = 2 then m.2.1 else m.2.2
def selT (n : Nat) (B X Y : List Str) : List Str := if n = 1 then B else if n = 2 then X else Y
theorem cut_drop (L : List Str) {i a : Nat} (h : i ≤ a) : cut L i a ++ L.drop a = L.drop i := by
  unfold cut
  have := List.take_append_drop (a - i) (L.drop i)
  rw [List.drop_drop, show i + (a - i) = a by omega] at this
  exact this
theorem take1_drop (L : List Str) (a : Nat) : (L.drop a).take 1 ++ L.drop (a + 1) = L.drop a := by
  have := List.take_append_drop 1 (L.drop a)
  rw [List.drop_drop] at this
  exact this
theorem joined_chL (n : Nat) (B X Y : List Str) : ∀ (S : List Tr) (s : Tr) (run : List Str), Wf s.1 s.2.1 s.2.2 S → s.1 ≤ B.length → s.2.1 ≤ X.length → s.2.2 ≤ Y.length →
    (∀ m ∈ S, Bd B X Y m ∧ (B.drop m.1).take 1 = ((selT n B X Y).drop (sel n m)).take 1) →
    joined n (chL B X Y s run (S ++ [(B.length, X.length, Y.length)])) = run ++ (selT n B X Y).drop (sel n s)
  | [], s, run, hw, h1, h2, h3, hb => by
    rw [List.nil_append, chL, if_pos (.inr rfl), chL, List.append_nil]
    unfold joined
    rw [List.flatMap_append]
    have e1 : (fl run).flatMap (side n) = run := by
      unfold fl
      split
      · simp [side]
      · rename_i z
        have : run = [] := Classical.not_not.mp z
        rw [this]; rfl
    rw [e1]
    congr 1
    have key : ∀ (L : List Str) (i : Nat), cut L i L.length = L.drop i := fun L i => by
      unfold cut
      rw [List.take_of_length_le (by rw [List.length_drop]; exact Nat.le_refl _)]
    unfold pN
    by_cases e : ((B.length, X.length, Y.length) : Tr) = s
    · rw [if_neg (fun z => z e), ← e]
      unfold sel selT
      split
      · rw [List.drop_length]; rfl
      · split <;> (rw [List.drop_length]; rfl)
    · rw [if_pos e]
      simp only [List.flatMap_cons, List.flatMap_nil, List.append_nil, side, key]
      unfold sel selT
      split
      · rfl
      · split <;> rfl
  | m :: ms, s, run, hw, h1, h2, h3, hb => by
    obtain ⟨w1, w2, w3, w4⟩ := hw
    obtain ⟨⟨b1, b2, b3⟩, hlines⟩ := hb m List.mem_cons_self
    have ih := fun r => joined_chL n B X Y ms (nx3 m) r w4 b1 b2 b3 (fun q hq => hb q (List.mem_cons_of_mem _ hq))
    have hsel : sel n (nx3 m) = sel n m + 1 := by
      unfold sel nx3
      split
      · rfl
      · split <;> rfl
    have hle : sel n s ≤ sel n m := by
      unfold sel
      split
      · exact w1
      · split
        · exact w2
        · exact w3
    rw [List.cons_append, chL]
    split
    · unfold joined at ih ⊢
      rw [List.flatMap_append, List.flatMap_append, ih, hsel, hlines, take1_drop]
      have e1 : (fl run).flatMap (side n) = run := by
        unfold fl
        split
        · simp [side]
        · rename_i z
          have : run = [] := Classical.not_not.mp z
          rw [this]; rfl
      rw [e1, List.append_assoc]
      congr 1
      unfold pN
      by_cases e : m = s
      · rw [if_neg (fun z => z e), e]; rfl
      · rw [if_pos e]
        simp only [List.flatMap_cons, List.flatMap_nil, List.append_nil, side]
        rw [← cut_drop (selT n B X Y) hle]
        congr 1
        unfold sel selT
        split
        · rfl
        · split <;> rfl
    · rename_i z
      have e : m = s := Classical.not_not.mp fun y => z (.inl y)
      rw [ih, hsel, hlines, List.append_assoc, take1_drop, e]
theorem take1_eq {L M : List Str} {i j : Nat} {z : Str} (h1 : L[i]? = some z) (h2 : M[j]? = some z) : (L.drop i).take 1 = (M.drop j).take 1 := by
  obtain ⟨l1, e1⟩ := List.getElem?_eq_some_iff.mp h1
  obtain ⟨l2, e2⟩ := List.getElem?_eq_some_iff.mp h2
  rw [List.drop_eq_getElem_cons l1, List.drop_eq_getElem_cons l2, e1, e2]
  rfl
theorem tch_joined (n : Nat) (B X Y : List Str) : joined n (tch B X Y) = selT n B X Y := by
  rw [tch_eq, joined_chL n B X Y _ (0, 0, 0) [] (stab_wf0 B X Y) (Nat.zero_le _) (Nat.zero_le _) (Nat.zero_le _)]
  · have : sel n ((0, 0, 0) : Tr) = 0 := by
      unfold sel
      split
      · rfl
      · split <;> rfl
    rw [this, List.drop_zero, List.nil_append]
  · intro m hm
    refine ⟨stab_bd B X Y m hm, ?_⟩
    obtain ⟨h1, h2⟩ := stab_mem hm
    obtain ⟨z1, e1, e2⟩ := mt_eq _ _ _ _ _ h1
    obtain ⟨z2, e3, e4⟩ := mt_eq _ _ _ _ _ h2
    rw [Nat.sub_zero] at e1 e2 e3 e4
    unfold sel selT
    split
    · rfl
    · split
      · exact take1_eq e1 e2
      · exact take1_eq e3 e4
theorem stab_self (B : List Str) : stab (mt B B 0 0) (mt B B 0 0) = (List.range B.length).map fun k => (k, k, k) := by
  have hl : ∀ i, look (mt B B 0 0) i = if i < B.length then some i else none := fun i => by
    cases h : look (mt B B 0 0) i with
    | none =>
      rw [if_neg]
      intro hi
      have hm : (i, i) ∈ mt B B 0 0 := by
        rw [mt_self]
        exact List.mem_map.mpr ⟨i, List.mem_range.mpr hi, by rw [Nat.zero_add]⟩
      have : ∀ (ps : List (Nat × Nat)), (i, i) ∈ ps → look ps i ≠ none := by
        intro ps
        induction ps with
        | nil => intro h; cases h
        | cons p ps ih =>
          intro h
          rw [look_cons]
          split
          · exact fun z => by cases z
          · rename_i ne
            rcases List.mem_cons.mp h with h | h
            · exact (ne (by rw [← h])).elim
            · exact ih h
      exact this _ hm h
    | some k =>
      have hm := look_mem h
      rw [mt_self] at hm
      obtain ⟨k', hk, e⟩ := List.mem_map.mp hm
      rw [Nat.zero_add, Prod.mk.injEq] at e
      have := List.mem_range.mp hk
      rw [if_pos (by omega)]
      congr 1
      omega
  rw [stab_range (n := B.length) (mt_inc B B 0 0) (fun p hp => by have := mt_lt _ _ _ _ _ hp; omega)]
  have e1 : ((List.range B.length).filter fun i => (look (mt B B 0 0) i).isSome && (look (mt B B 0 0) i).isSome) = List.range B.length := by
    apply List.filter_eq_self.mpr
    intro i hi
    rw [hl i, if_pos (List.mem_range.mp hi)]
    rfl
  rw [e1]
  apply List.map_congr_left
  intro i hi
  rw [hl i, if_pos (List.mem_range.mp hi)]
  rfl
theorem chL_diag (B : List Str) : ∀ (d t : Nat), t + d = B.length → chL B B B (t, t, t) (B.take t) (((List.range' t d).map fun k => ((k, k, k) : Tr)) ++ [(B.length, B.length, B.length)]) = if B = [] then [] else [.same B]
  | 0, t, h => by
    have e : t = B.length := by omega
    subst e
    rw [List.take_length]
    show chL B B B _ B [(B.length, B.length, B.length)] = _
    rw [chL, if_pos (.inr rfl), chL]
    unfold fl pN
    rw [if_neg (fun z : ((B.length, B.length, B.length) : Tr) ≠ (B.length, B.length, B.length) => z rfl)]
    by_cases hB : B = []
    · rw [if_neg (fun z => z hB), if_pos hB]; rfl
    · rw [if_pos hB, if_neg hB]; rfl
  | d + 1, t, h => by
    rw [List.range'_succ, List.map_cons, List.cons_append, chL, if_neg (by rintro (z | z); exact z rfl; simp at z)]
    have e : B.take t ++ (B.drop t).take 1 = B.take (t + 1) := by
      have := cut_succ B (a := 0) (n := t) (Nat.zero_le _)
      unfold cut at this
      rw [List.drop_zero, Nat.sub_zero, Nat.sub_zero] at this
      exact this.symm
    rw [e]
    exact chL_diag B d (t + 1) (by omega)
theorem tch_self (B : List Str) : tch B B B = if B = [] then [] else [.same B] := by
  rw [tch_eq, stab_self, List.range_eq_range']
  exact chL_diag B B.length 0 (by omega)

/-! ### _stable_lines, _runs, text_chunks -/
def kvq (q : Nat × Nat) : Key × V := (.inl (q.1 : Int), .int (q.2 : Int))
theorem merge_look (i : Nat) : ∀ (qs : List (Nat × Nat)) (acc : List (Key × V)) {a b : Nat}, Inc a b qs → valV (mergeK acc (qs.map kvq)) (.inl (i : Int)) = match look qs i with
    | some k => some (.int (k : Int))
    | none => valV acc (.inl (i : Int))
  | [], acc, _, _, _ => rfl
  | q :: qs, acc, a, b, h => by
    show valV (mergeK (putK acc (kvq q).1 (kvq q).2) (qs.map kvq)) (.inl (i : Int)) = _
    rw [merge_look i qs _ h.2.2, look_cons, valV_put]
    by_cases e : q.1 = i
    · rw [if_pos e, look_none h.2.2 (by omega)]
      show (if _ then _ else _) = _
      rw [if_pos (by rw [← e]; rfl)]
      rfl
    · rw [if_neg e]
      cases look qs i with
      | some k => rfl
      | none =>
        show (if _ then _ else _) = _
        rw [if_neg]
        intro z
        apply e
        have : (i : Int) = (q.1 : Int) := by injection z
        omega
theorem merge_look0 {qs : List (Nat × Nat)} {a b : Nat} (h : Inc a b qs) (i : Nat) : valV (mergeK [] (qs.map kvq)) (.inl (i : Int)) = (look qs i).map fun (k : Nat) => V.int (k : Int) := by
  rw [merge_look i qs [] h]
  cases look qs i <;> rfl
theorem prd_pair {K : PySem.W.Frag} {H : Hp} : ∀ {vs : List V} {qs : List (Nat × Nat)}, DqAll H vs (qs.map prd) → ∃ ps : List Addr, vs = ps.map V.ref ∧ Paired (fun p kv => SqT K H p [kV kv.1, kv.2]) ps (qs.map kvq)
  | _, [], .nil => ⟨[], rfl, .nil⟩
  | _, q :: qs, .cons d t => by
    obtain ⟨T, rfl, hT⟩ := prd_inv d
    obtain ⟨ps, rfl, hp⟩ := prd_pair (K := K) t
    exact ⟨T :: ps, rfl, .cons (SqT.of hT) hp⟩
def trd (m : Tr) : PyData := .tuple [.int (m.1 : Int), .int (m.2.1 : Int), .int (m.2.2 : Int)]
def r4d (r : R4) : PyData := .tuple [.int (r.1 : Int), .int (r.2.1 : Int), .int (r.2.2.1 : Int), .int (r.2.2.2 : Int)]
theorem trd_inv {F : Hp} {v : V} {m : Tr} (h : Dq F v (trd m)) : ∃ T, v = .ref T ∧ F T = some (.tup [.int m.1, .int m.2.1, .int m.2.2]) := by
  cases h with
  | tup hT hs =>
    cases hs with
    | cons h1 hs =>
      cases hs with
      | cons h2 hs =>
        cases hs with
        | cons h3 hs =>
          cases hs
          cases h1
          cases h2
          cases h3
          exact ⟨_, rfl, hT⟩
theorem r4d_inv {F : Hp} {v : V} {r : R4} (h : Dq F v (r4d r)) : ∃ T, v = .ref T ∧ F T = some (.tup [.int r.1, .int r.2.1, .int r.2.2.1, .int r.2.2.2]) := by
  cases h with
  | tup hT hs =>
    cases hs with
    | cons h1 hs =>
      cases hs with
      | cons h2 hs =>
        cases hs with
        | cons h3 hs =>
          cases hs with
          | cons h4 hs =>
            cases hs
            cases h1
            cases h2
            cases h3
            cases h4
            exact ⟨_, rfl, hT⟩
theorem stab_len (ps qs : List (Nat × Nat)) : (stab ps qs).length ≤ ps.length := List.length_filterMap_le _ _
theorem grpF_len : ∀ (S : List Tr) (r : R4), (grpF r S).length ≤ S.length + 1
  | [], r => Nat.le_refl _
  | m :: S, (a, b, c, l) => by
    rw [grpF]
    split
    · have := grpF_len S (a, b, c, l + 1)
      rw [List.length_cons]
      omega
    · have := grpF_len S (m.1, m.2.1, m.2.2, 1)
      rw [List.length_cons, List.length_cons]
      omega
theorem grp_len (S : List Tr) : (grp S).length ≤ S.length := by
  cases S with
  | nil => exact Nat.le_refl _
  | cons m S => exact grpF_len S _
def tS (ls : List Str) : PyData := .tuple (ls.map PyData.str)
def chD : Ch → PyData
  | .same ls => .tuple [.str "same", tS ls, tS ls, tS ls]
  | .part b x y => .tuple [.str "part", tS b, tS x, tS y]
theorem dq_tS {H : Hp} {a : Addr} {xs : List Str} (h : H a = some (.tup (xs.map V.str))) : Dq H (.ref a) (tS xs) := .tup h (DqAll.strs xs)
theorem tS_inv {H : Hp} {v : V} {xs : List Str} (h : Dq H v (tS xs)) : ∃ a, v = .ref a ∧ H a = some (.tup (xs.map V.str)) := by
  cases h with
  | tup hT hs => exact ⟨_, rfl, by rw [hT, hs.of_strs]⟩
section
variable {P : Program} {w : World} {K : PySem.W.Frag} {mg : Str → Option Value} {base : Heap}
def sp_stable_lines (K : PySem.W.Frag) : Sp := fun vs H Q _ => ∃ (a b c : Addr) (B X Y : List Str), vs = [.ref a, .ref b, .ref c] ∧ H a = some (.lst (B.map V.str)) ∧ H b = some (.lst (X.map V.str)) ∧ H c = some (.lst (Y.map V.str)) ∧ B.length ≤ 1000 ∧ X.length ≤ 1000 ∧ Y.length ≤ 1000 ∧
  ∀ p H' (vs : List V), Same H H' → H p = none → H' p = some (.lst vs) → DqAll H' vs ((stab (mt B X 0 0) (mt B Y 0 0)).map trd) → Q (.ref p) H'
theorem sp_stable_lines_len {vs H Q E} (h : sp_stable_lines K vs H Q E) : vs.length = 3 := by
  obtain ⟨_, _, _, _, _, _, rfl, _⟩ := h
  rfl
theorem ok_stable_lines (T : Txt K mg) : FnOk P w K mg base CX0 3 T.f_stable_lines T.fd_stable_lines ["base", "ours", "theirs"] (sp_stable_lines K) := by
  refine T.F_stable_lines.ok sc_stable_lines (fun vs H Q E h => sp_stable_lines_len h) (fun cdv A outer s H vs Q E hr h => ?_)
  refine ⟨_, (pss_cons (ps_set (i := 3) sc_stable_lines.nd rfl (.inr rfl) (pe_callTy (cr_dictP K rfl) (by rfl) T.m_dict (by decide +kernel) (pa_cons (pe_call (ok_matched T) (hr.mono (by decide)) (by rfl) T.g_matched T.F_matched.kp T.b_matched .nil pass0 (pa_cons (pv 0) (pa_cons (pv 2) pa_nil))) pa_nil)))
      (pss_one (ps_ret (pe_lc (own := [("i", 4), ("j", 5)]) (g := gTup K 2 (gCons (gName 4) (gCons (gName 5) gNil))) rfl sc_stable_lines.nd (k_il K (pi_list (pe_call (ok_matched T) (hr.mono (by decide)) (by rfl) T.g_matched T.F_matched.kp T.b_matched .nil pass0 (pa_cons (pv 0) (pa_cons (pv 1) pa_nil))))) (blkOk_by (N := n_stable_lines) (sc := defScope s_stable_lines) (by decide +kernel)) (fun _ _ _ _ _ => (k_gt K (pg_tup (by rfl) (pgs_cons (pg_name (i := 4) sc_stable_lines.nd rfl (.inl rfl)) (pgs_cons (pg_name (i := 5) sc_stable_lines.nd rfl (.inl rfl)) pgs_nil))))) (fun _ _ _ _ _ => (pts_one (pt_cmpR (op_inK K hr.units (u65 hr)) (pv 4) (pv 3) (by rfl)))) (fun _ _ _ _ _ => (pe_tup (pa_cons (pv 4) (pa_cons (pv 5) (pa_cons (pe_ix (ix_K K (hu_of hr)) (pv 3) (pv 4) (fun _ _ => rfl)) pa_nil))))))))), ?_⟩
  obtain ⟨a, b, c, B, X, Y, rfl, ha, hb, hc, lB, lX, lY, q⟩ := h
  refine g_start (σ' := [some (.ref a), some (.ref b), some (.ref c), none, none, none]) rfl ?_
  walk_at "gg"
  refine ⟨a, c, B, Y, rfl, ha, hc, lB, lY, fun p1 H1 v1 s1 n1 hp1 dq1 => ?_⟩
  have hH := Has.start H1
  obtain ⟨ps, rfl, pp⟩ := prd_pair (K := K) dq1
  walk_at "gg"
  refine g_dictP (by walk_at "h") pp hH (fun pd H2 n2 h2 => ?_)
  have hlook := merge_look0 (mt_inc B Y 0 0)
  generalize hkv : mergeK [] ((mt B Y 0 0).map kvq) = kvs at h2 hlook
  have ha2 := h2.same _ _ (s1 _ _ ha)
  have hb2 := h2.same _ _ (s1 _ _ hb)
  walk_at "gg"
  refine ⟨a, b, B, X, rfl, ha2, hb2, lB, lX, fun p3 H3 v3 s3 n3 hp3 dq3 => ?_⟩
  have hd3 : H3 pd = some (.dK kvs) := (h2.on s3).get (List.Mem.head _)
  have h3 := Has.start H3
  have hml : (mt B X 0 0).length ≤ 1000 := by rw [mt_length]; have := lc_len B X; omega
  have hvl : v3.length = (mt B X 0 0).length := by rw [dq3.len, List.length_map]
  refine k_lcL (by walk_at "h") h3 (fun t acc F' O' => Same H3 F' ∧ O' = [] ∧ DqAll F' acc ((stab ((mt B X 0 0).take t) (mt B Y 0 0)).map trd)) ⟨Same.refl _, rfl, .nil⟩ ?_ ?_ ?_
  · rintro t acc F' O' H4 ⟨sF, rfl, _⟩ hh
    exact hh.same _ _ (sF _ _ hp3)
  · rintro t x acc F' O' D H4 hx ⟨sF, rfl, dqa⟩ hh
    obtain ⟨d, hd, dx⟩ := dq3.get hx
    rw [List.getElem?_map] at hd
    obtain ⟨m, hm, rfl⟩ := Option.map_eq_some_iff.mp hd
    obtain ⟨i, j⟩ := m
    obtain ⟨T, rfl, hT⟩ := prd_inv (dx.up sF _ _)
    have hal : acc.length ≤ 1000 := by
      rw [dqa.len, List.length_map]
      have h1 := stab_len ((mt B X 0 0).take t) (mt B Y 0 0)
      rw [List.length_take] at h1
      omega
    have hdF := sF _ _ hd3
    have estab : stab ((mt B X 0 0).take (t + 1)) (mt B Y 0 0) = stab ((mt B X 0 0).take t) (mt B Y 0 0) ++ stab [(i, j)] (mt B Y 0 0) := by
      rw [List.take_add_one, hm]
      unfold stab
      rw [List.filterMap_append]
      rfl
    have ev := hlook i
    walk_at "gg"
    rw [ev]
    cases hl : look (mt B Y 0 0) i with
    | none =>
      rw [hl] at ev
      rw [Option.map_none, Option.isSome_none]
      walk_at "gg"
      refine k_skip hh ⟨sF, rfl, ?_⟩
      rw [estab]
      have : stab [(i, j)] (mt B Y 0 0) = [] := by
        unfold stab
        rw [List.filterMap_cons, hl]
        rfl
      rw [this, List.append_nil]
      exact dqa
    | some k =>
      rw [hl] at ev
      rw [Option.map_some, Option.isSome_some]
      walk_at "gg"
      refine g_ixDI (by walk_at "h") ev ?_
      walk_at "gg"
      refine g_ktupF (by walk_at "sz") hh (fun T2 H5 F5 n5 s5 f5 h5 => ?_)
      refine k_turn h5 (by omega) ⟨sF.trans s5, rfl, ?_⟩
      rw [estab]
      have : stab [(i, j)] (mt B Y 0 0) = [(i, j, k)] := by
        unfold stab
        rw [List.filterMap_cons, hl]
        rfl
      rw [this, List.map_append]
      exact (dqa.up s5 _ _).snoc (.tup f5 (.cons (.int _) (.cons (.int _) (.cons (.int _) .nil))))
  · rintro acc F' O' D H4 ⟨sF, rfl, dqa⟩ hh
    rw [List.take_of_length_le (by omega)] at dqa
    walk_at "gg"
    exact q D H4 acc (s1.trans (h2.same.trans (s3.trans (sF.trans hh.same)))) ((s1.trans (h2.same.trans (s3.trans sF))).free hh.free) (hh.get (List.Mem.head _)) (dqa.up hh.same _ _)
def sp_runs (K : PySem.W.Frag) : Sp := fun vs H Q _ => ∃ (a b c : Addr) (B X Y : List Str), vs = [.ref a, .ref b, .ref c] ∧ H a = some (.lst (B.map V.str)) ∧ H b = some (.lst (X.map V.str)) ∧ H c = some (.lst (Y.map V.str)) ∧ B.length ≤ 1000 ∧ X.length ≤ 1000 ∧ Y.length ≤ 1000 ∧
  ∀ p H' (vs : List V), Same H H' → H p = none → H' p = some (.lst vs) → DqAll H' vs ((grp (stab (mt B X 0 0) (mt B Y 0 0))).map r4d) → Q (.ref p) H'
theorem sp_runs_len {vs H Q E} (h : sp_runs K vs H Q E) : vs.length = 3 := by
  obtain ⟨_, _, _, _, _, _, rfl, _⟩ := h
  rfl
/-- what the runs are after t stable lines -/
def RnAt (S : List Tr) (t : Nat) (F : Hp) (rs : List V) : Prop := (t = 0 ∧ rs = []) ∨ ∃ (us : List V) (T : Addr) (init : List R4) (a b c l : Nat), rs = us ++ [.ref T] ∧ DqAll F us (init.map r4d) ∧ F T = some (.tup [.int (a : Int), .int (b : Int), .int (c : Int), .int (l : Int)]) ∧
  init ++ grpF (a, b, c, l) (S.drop t) = grp S ∧ init.length + 1 ≤ t
theorem ok_runs (T : Txt K mg) : FnOk P w K mg base CX0 4 T.f_runs T.fd_runs ["base", "ours", "theirs"] (sp_runs K) := by
  refine T.F_runs.ok sc_runs (fun vs H Q E h => sp_runs_len h) (fun cdv A outer s H vs Q E hr h => ?_)
  refine ⟨_, (pss_cons (ps_set (i := 3) sc_runs.nd rfl (.inl rfl) (pe_lst pa_nil))
      (pss_cons (ps_for PassesOwn.never rfl (k_il K (pi_list (pe_call (ok_stable_lines T) (hr.mono (by decide)) (by rfl) T.g_stable_lines T.F_stable_lines.kp T.b_stable_lines .nil pass0 (pa_cons (pv 0) (pa_cons (pv 1) (pa_cons (pv 2) pa_nil)))))) (k_gt K (pg_tup (by rfl) (pgs_cons (pg_name (i := 4) sc_runs.nd rfl (.inl rfl)) (pgs_cons (pg_name (i := 5) sc_runs.nd rfl (.inl rfl)) (pgs_cons (pg_name (i := 6) sc_runs.nd rfl (.inl rfl)) pgs_nil))))) (pss_cons (ps_if (pt_tru K (pv 3)) (pss_cons (ps_asg (pe_ix (ix_K K (hu_of hr)) (pv 3) (pe_un un_neg pe_int) (fun _ _ => rfl)) (k_gt K (pg_tup (by rfl) (pgs_cons (pg_name (i := 7) sc_runs.nd rfl (.inl rfl)) (pgs_cons (pg_name (i := 8) sc_runs.nd rfl (.inl rfl)) (pgs_cons (pg_name (i := 9) sc_runs.nd rfl (.inl rfl)) (pgs_cons (pg_name (i := 10) sc_runs.nd rfl (.inl rfl)) pgs_nil)))))))
      (pss_one (ps_if (pt_cmpR (op_eqK K hr.units) (pe_tup (pa_cons (pe_op (op_addK K) (pv 7) (pv 10)) (pa_cons (pe_op (op_addK K) (pv 8) (pv 10)) (pa_cons (pe_op (op_addK K) (pv 9) (pv 10)) pa_nil)))) (pe_tup (pa_cons (pv 4) (pa_cons (pv 5) (pa_cons (pv 6) pa_nil)))) (nomark _)) (pss_cons (ps_asg (pe_tup (pa_cons (pv 7) (pa_cons (pv 8) (pa_cons (pv 9) (pa_cons (pe_op (op_addK K) (pv 10) pe_int) pa_nil))))) (pg_sub (pv 3) (pe_un un_neg pe_int) (set_any (hu_of hr))))
      (pss_one ps_continue)) pss_nil))) pss_nil)
      (pss_one (ps_expr (k_bm K (pe_bm PySem.F.plainAttrs_list PySem.F.slot_list_append PySem.F.type_list_append mt_append (pv 3) (pa_cons (pe_tup (pa_cons (pv 4) (pa_cons (pv 5) (pa_cons (pv 6) (pa_cons pe_int pa_nil))))) pa_nil)))))))
      (pss_one (ps_ret (pv 3))))), ?_⟩
  obtain ⟨a, b, c, B, X, Y, rfl, ha, hb, hc, lB, lX, lY, q⟩ := h
  have hH := Has.start H
  refine g_start (σ' := [some (.ref a), some (.ref b), some (.ref c), none, none, none, none, none, none, none, none]) rfl ?_
  walk_at "gg"
  refine g_klst (by walk_at "sz") hH (fun pr H1 n1 h1 => ?_)
  walk_at "gg"
  refine ⟨a, b, c, B, X, Y, rfl, by walk_at "h", by walk_at "h", by walk_at "h", lB, lX, lY, fun p2 H2 v2 s2 n2 hp2 dq2 => ?_⟩
  have hml : (mt B X 0 0).length ≤ 1000 := by rw [mt_length]; have := lc_len B X; omega
  have hsl := stab_len (mt B X 0 0) (mt B Y 0 0)
  generalize stab (mt B X 0 0) (mt B Y 0 0) = S at dq2 q hsl
  have hvl : v2.length = S.length := by rw [dq2.len, List.length_map]
  have hpp : pr ≠ p2 := fun z => by
    subst z
    rw [h1.get (List.Mem.head _)] at n2
    cases n2
  have h2 := h1.on s2
  have dq2 : DqAll (rmO [(pr, HO.lst [])] H2) v2 (S.map trd) := by
    refine h2.keep (fun p hp xs z => ?_) (fun d hd => ?_) dq2
    · rw [List.mem_singleton.mp hp] at z; cases z
    · obtain ⟨m, _, rfl⟩ := List.mem_map.mp hd
      rfl
  have hp2 : rmO [(pr, HO.lst [])] H2 p2 = some (.lst v2) := by
    unfold rmO
    rw [if_neg (by simpa using fun z => hpp z.symm)]
    exact hp2
  have sF0 := h2.reF
  have h2 := h2.re
  generalize rmO [(pr, HO.lst [])] H2 = F0 at h2 dq2 hp2 sF0
  refine k_forL (by walk_at "h") (fun t σ H' => ∃ (rs : List V) (F : Hp) (y1 y2 y3 y4 y5 y6 y7 : Option V), σ = [some (.ref a), some (.ref b), some (.ref c), some (.ref pr), y1, y2, y3, y4, y5, y6, y7] ∧ Same F0 F ∧ Has F [(pr, .lst rs)] H' ∧ RnAt S t F rs) ⟨[], F0, _, _, _, _, _, _, _, rfl, Same.refl _, h2, .inl ⟨rfl, rfl⟩⟩ ?_ ?_ ?_
  · rintro t σ H3 _ ⟨rs, F, _, _, _, _, _, _, _, _, sF, h3, _⟩
    exact h3.same _ _ (sF _ _ hp2)
  · rintro t x σ H3 hx ⟨rs, F, y1, y2, y3, y4, y5, y6, y7, rfl, sF, h3, inv⟩
    obtain ⟨d, hd, dx⟩ := dq2.get hx
    rw [List.getElem?_map] at hd
    obtain ⟨m, hm, rfl⟩ := Option.map_eq_some_iff.mp hd
    obtain ⟨m1, m2, m3⟩ := m
    obtain ⟨T, rfl, hT⟩ := trd_inv (dx.up sF _ _)
    have ht : t < S.length := (List.getElem?_eq_some_iff.mp hm).1
    have edr : S.drop t = (m1, m2, m3) :: S.drop (t + 1) := by
      rw [List.drop_eq_getElem_cons ht, (List.getElem?_eq_some_iff.mp hm).2]
    rcases inv with ⟨rfl, rfl⟩ | ⟨us, T1, init, e1, e2, e3, l, rfl, du, hT1, eg, il⟩
    · walk_at "gg"
      refine i_b (fun z => by cases z) (fun _ => ?_)
      walk_at "gg"
      refine g_ktupF (by walk_at "sz") h3 (fun T2 H4 F4 n4 s4 f4 h4 => ?_)
      walk_at "gg"
      refine g_append h4 (by walk_at "c") (szl (by decide)) (fun H5 h5 => ?_)
      walk_at "gg"
      refine ⟨_, F4, _, _, _, _, _, _, _, rfl, sF.trans s4, h5, .inr ⟨[], T2, [], m1, m2, m3, 1, rfl, .nil, f4, ?_, Nat.le_refl _⟩⟩
      rw [List.drop_zero] at edr
      rw [List.nil_append, edr]
      rfl
    · have hul : us.length = init.length := by rw [du.len, List.length_map]
      walk_at "gg"
      refine i_b (fun _ => ?_) (fun z => by cases us <;> cases z)
      walk_at "gg"
      refine g_ixLast (v := .ref T1) (by walk_at "h") (by simp) ?_
      walk_at "gg"
      refine g_ktupF (by walk_at "sz") h3 (fun T2 H4 F4 n4 s4 f4 h4 => ?_)
      have hTb := s4 _ _ hT
      have hT1b := s4 _ _ hT1
      walk_at "gg"
      refine g_ktupF (by walk_at "sz") h4 (fun T3 H5 F5 n5 s5 f5 h5 => ?_)
      have f4' := s5 _ _ f4
      walk_at "gg"
      refine g_eqD (.tup (h5.same _ _ f4') (DqAll.ints [_, _, _])) (.tup (h5.same _ _ f5) (DqAll.ints [_, _, _])) rfl rfl ?_
      rw [eqv_tints]
      walk_at "gg"
      refine i_d (fun e => ?_) (fun e => ?_)
      · walk_at "gg"
        refine g_ktupF (by walk_at "sz") h5 (fun T4 H6 F6 n6 s6 f6 h6 => ?_)
        walk_at "gg"
        refine g_stL (j := us.length) h6 (by walk_at "c") (by rw [List.length_append]; exact ixN_last _) (fun H7 h7 => ?_)
        walk_at "gg"
        have es : (us ++ [V.ref T1]).set us.length (V.ref T4) = us ++ [V.ref T4] := by
          rw [List.set_append_right _ _ (Nat.le_refl _), Nat.sub_self]
          rfl
        rw [es] at h7
        refine ⟨_, F6, _, _, _, _, _, _, _, rfl, sF.trans (s4.trans (s5.trans s6)), h7, .inr ⟨us, T4, init, e1, e2, e3, l + 1, rfl, du.up (s4.trans (s5.trans s6)) _ _, f6, ?_, by omega⟩⟩
        rw [← eg, edr, grpF, if_pos]
        simp only [List.cons.injEq, and_true] at e
        obtain ⟨z1, z2, z3⟩ := e
        simp only [Prod.mk.injEq]
        omega
      · walk_at "gg"
        refine g_ktupF (by walk_at "sz") h5 (fun T4 H6 F6 n6 s6 f6 h6 => ?_)
        walk_at "gg"
        refine g_append h6 (by walk_at "c") (szl (by rw [List.length_append]; show us.length + 1 < _; omega)) (fun H7 h7 => ?_)
        walk_at "gg"
        have s46 := s4.trans (s5.trans s6)
        refine ⟨_, F6, _, _, _, _, _, _, _, rfl, sF.trans s46, h7, .inr ⟨us ++ [.ref T1], T4, init ++ [(e1, e2, e3, l)], m1, m2, m3, 1, rfl, ?_, f6, ?_, by rw [List.length_append]; show init.length + 1 + 1 ≤ _; omega⟩⟩
        · rw [List.map_append]
          exact (du.up s46 _ _).snoc (.tup (s46 _ _ hT1) (.cons (.int _) (.cons (.int _) (.cons (.int _) (.cons (.int _) .nil)))))
        · rw [← eg, edr, grpF, if_neg, List.append_assoc]
          · rfl
          · intro z
            apply e
            simp only [Prod.mk.injEq] at z
            obtain ⟨z1, z2, z3⟩ := z
            subst z1 z2 z3
            rfl
  · rintro σ H3 ⟨rs, F, y1, y2, y3, y4, y5, y6, y7, rfl, sF, h3, inv⟩
    walk_at "gg"
    refine q pr H3 rs (sF0.trans (sF.trans h3.same)) n1 (h3.get (List.Mem.head _)) ?_
    rw [hvl] at inv
    rcases inv with ⟨z, rfl⟩ | ⟨us, T1, init, e1, e2, e3, l, rfl, du, hT1, eg, il⟩
    · have : S = [] := List.length_eq_zero_iff.mp z
      subst this
      exact .nil
    · rw [List.drop_length] at eg
      rw [← eg, List.map_append]
      exact (du.up h3.same _ _).snoc (.tup (h3.same _ _ hT1) (.cons (.int _) (.cons (.int _) (.cons (.int _) (.cons (.int _) .nil)))))
def pc_of (B X Y : List Str) (R : List R4) : List Ch := pc B X Y (0, 0, 0) (R ++ [(B.length, X.length, Y.length, 0)])
def sp_text_chunks (K : PySem.W.Frag) : Sp := fun vs H Q _ => ∃ (a b c : Addr) (B X Y : List Str), vs = [.ref a, .ref b, .ref c] ∧ H a = some (.lst (B.map V.str)) ∧ H b = some (.lst (X.map V.str)) ∧ H c = some (.lst (Y.map V.str)) ∧ B.length ≤ 1000 ∧ X.length ≤ 1000 ∧ Y.length ≤ 1000 ∧
  ∀ p H' (vs : List V), Same H H' → H p = none → H' p = some (.lst vs) → DqAll H' vs ((tch B X Y).map chD) → Q (.ref p) H'
theorem sp_text_chunks_len {vs H Q E} (h : sp_text_chunks K vs H Q E) : vs.length = 3 := by
  obtain ⟨_, _, _, _, _, _, rfl, _⟩ := h
  rfl
theorem cutV_str (L : List Str) (i a : Nat) : cutV (L.map V.str) (some (i : Int)) (some (a : Int)) = (cut L i a).map V.str := by
  rw [cutV_nat, ← List.map_drop, ← List.map_take]
  rfl
theorem cut_le (L : List Str) (i a : Nat) : (cut L i a).length ≤ L.length := by
  unfold cut
  rw [List.length_take, List.length_drop]
  omega
theorem ok_text_chunks (T : Txt K mg) : FnOk P w K mg base CX0 5 T.f_text_chunks T.fd_text_chunks ["base", "ours", "theirs"] (sp_text_chunks K) := by
  refine T.F_text_chunks.ok sc_text_chunks (fun vs H Q E h => sp_text_chunks_len h) (fun cdv A outer s H vs Q E hr h => ?_)
  refine ⟨_, (pss_cons (ps_set (i := 3) sc_text_chunks.nd rfl (.inl rfl) (pe_lst pa_nil))
      (pss_cons (ps_set (i := 4) sc_text_chunks.nd rfl (.inl rfl) pe_int)
      (pss_cons (ps_set (i := 5) sc_text_chunks.nd rfl (.inl rfl) pe_int)
      (pss_cons (ps_set (i := 6) sc_text_chunks.nd rfl (.inl rfl) pe_int)
      (pss_cons (ps_set (i := 7) sc_text_chunks.nd rfl (.inl rfl) (pe_tup (pa_cons (pe_callB (cr_lenK K) (by rfl) T.m_len (by decide +kernel) (pa_cons (pv 0) pa_nil)) (pa_cons (pe_callB (cr_lenK K) (by rfl) T.m_len (by decide +kernel) (pa_cons (pv 1) pa_nil)) (pa_cons (pe_callB (cr_lenK K) (by rfl) T.m_len (by decide +kernel) (pa_cons (pv 2) pa_nil)) (pa_cons pe_int pa_nil))))))
      (pss_cons (ps_for PassesOwn.never rfl (k_il K (pi_list (pe_lst (k_star K (StX.pa_star (pe_call (ok_runs T) (hr.mono (by decide)) (by rfl) T.g_runs T.F_runs.kp T.b_runs .nil pass0 (pa_cons (pv 0) (pa_cons (pv 1) (pa_cons (pv 2) pa_nil)))) (pa_cons (pv 7) pa_nil)))))) (k_gt K (pg_tup (by rfl) (pgs_cons (pg_name (i := 8) sc_text_chunks.nd rfl (.inl rfl)) (pgs_cons (pg_name (i := 9) sc_text_chunks.nd rfl (.inl rfl)) (pgs_cons (pg_name (i := 10) sc_text_chunks.nd rfl (.inl rfl)) (pgs_cons (pg_name (i := 11) sc_text_chunks.nd rfl (.inl rfl)) pgs_nil)))))) (pss_cons (ps_set (i := 12) sc_text_chunks.nd rfl (.inl rfl) (pe_callTy (cr_tupleK K) (by rfl) T.m_tuple (by decide +kernel) (pa_cons (pe_slice (sl_K K) (pv 0) (po_some (pv 4)) (po_some (pv 8))) pa_nil)))
      (pss_cons (ps_set (i := 13) sc_text_chunks.nd rfl (.inl rfl) (pe_callTy (cr_tupleK K) (by rfl) T.m_tuple (by decide +kernel) (pa_cons (pe_slice (sl_K K) (pv 1) (po_some (pv 5)) (po_some (pv 9))) pa_nil)))
      (pss_cons (ps_set (i := 14) sc_text_chunks.nd rfl (.inl rfl) (pe_callTy (cr_tupleK K) (by rfl) T.m_tuple (by decide +kernel) (pa_cons (pe_slice (sl_K K) (pv 2) (po_some (pv 6)) (po_some (pv 10))) pa_nil)))
      (pss_cons (ps_if (pt_cmpR op_gt (pe_op (op_addK K) (pe_op (op_addK K) (pe_callB (cr_lenK K) (by rfl) T.m_len (by decide +kernel) (pa_cons (pv 12) pa_nil)) (pe_callB (cr_lenK K) (by rfl) T.m_len (by decide +kernel) (pa_cons (pv 13) pa_nil))) (pe_callB (cr_lenK K) (by rfl) T.m_len (by decide +kernel) (pa_cons (pv 14) pa_nil))) pe_int (nomark _)) (pss_one (ps_expr (k_bm K (pe_bm PySem.F.plainAttrs_list PySem.F.slot_list_append PySem.F.type_list_append mt_append (pv 3) (pa_cons (pe_tup (pa_cons pe_str (pa_cons (pv 12) (pa_cons (pv 13) (pa_cons (pv 14) pa_nil))))) pa_nil))))) pss_nil)
      (pss_cons (ps_set (i := 4) sc_text_chunks.nd rfl (.inl rfl) (pe_op (op_addK K) (pv 8) (pv 11)))
      (pss_cons (ps_set (i := 5) sc_text_chunks.nd rfl (.inl rfl) (pe_op (op_addK K) (pv 9) (pv 11)))
      (pss_cons (ps_set (i := 6) sc_text_chunks.nd rfl (.inl rfl) (pe_op (op_addK K) (pv 10) (pv 11)))
      (pss_one (ps_if (pt_cmpR op_gt (pv 11) pe_int (nomark _)) (pss_cons (ps_set (i := 15) sc_text_chunks.nd rfl (.inl rfl) (pe_callTy (cr_tupleK K) (by rfl) T.m_tuple (by decide +kernel) (pa_cons (pe_slice (sl_K K) (pv 0) (po_some (pv 8)) (po_some (pv 4))) pa_nil)))
      (pss_one (ps_expr (k_bm K (pe_bm PySem.F.plainAttrs_list PySem.F.slot_list_append PySem.F.type_list_append mt_append (pv 3) (pa_cons (pe_tup (pa_cons pe_str (pa_cons (pv 15) (pa_cons (pv 15) (pa_cons (pv 15) pa_nil))))) pa_nil)))))) pss_nil))))))))))
      (pss_one (ps_ret (pv 3))))))))), ?_⟩
  obtain ⟨a, b, c, B, X, Y, rfl, ha, hb, hc, lB, lX, lY, q⟩ := h
  have hH := Has.start H
  refine g_start (σ' := [some (.ref a), some (.ref b), some (.ref c), none, none, none, none, none, none, none, none, none, none, none, none, none]) rfl ?_
  walk_at "gg"
  refine g_klst (by walk_at "sz") hH (fun pl H1 n1 h1 => ?_)
  walk_at "gg"
  refine g_ktupF (by walk_at "sz") h1 (fun pe H2 F2 n2 sE f2 h2 => ?_)
  rw [List.length_map, List.length_map, List.length_map] at f2
  have ha2 := sE _ _ ha
  have hb2 := sE _ _ hb
  have hc2 := sE _ _ hc
  walk_at "gg"
  refine ⟨a, b, c, B, X, Y, rfl, by walk_at "h", by walk_at "h", by walk_at "h", lB, lX, lY, fun p3 H3 v3 s3 n3 hp3 dq3 => ?_⟩
  have hml : (mt B X 0 0).length ≤ 1000 := by rw [mt_length]; have := lc_len B X; omega
  have hsl := stab_len (mt B X 0 0) (mt B Y 0 0)
  have hgl := grp_len (stab (mt B X 0 0) (mt B Y 0 0))
  have hdef : pc_of B X Y (grp (stab (mt B X 0 0) (mt B Y 0 0))) = tch B X Y := rfl
  generalize grp (stab (mt B X 0 0) (mt B Y 0 0)) = R at dq3 hgl hdef
  have hRl : R.length ≤ 1000 := by omega
  have hvl : v3.length = R.length := by rw [dq3.len, List.length_map]
  have h3 := h2.on s3
  have f3 := h3.gF f2
  have dR : DqAll H3 (v3 ++ [.ref pe]) ((R ++ [(B.length, X.length, Y.length, 0)]).map r4d) := by
    rw [List.map_append]
    exact dq3.snoc (.tup f3 (.cons (.int _) (.cons (.int _) (.cons (.int _) (.cons (.int _) .nil)))))
  have dR5 : DqAll (rmO [(pl, HO.lst [])] H3) (v3 ++ [.ref pe]) ((R ++ [(B.length, X.length, Y.length, 0)]).map r4d) := by
    refine h3.keep (fun p hp xs z => ?_) (fun d hd => ?_) dR
    · rw [List.mem_singleton.mp hp] at z; cases z
    · obtain ⟨m, _, rfl⟩ := List.mem_map.mp hd
      rfl
  have sF0 := h3.reF
  have h3 := h3.re
  generalize rmO [(pl, HO.lst [])] H3 = F0 at h3 dR5 sF0
  walk_at "gg"
  refine g_klst (sz (by rw [List.length_append]; show v3.length + 1 ≤ _; omega)) h3 (fun p4 H4 n4 h5 => ?_)
  unfold pc_of at hdef
  generalize hR2 : R ++ [(B.length, X.length, Y.length, 0)] = R2 at dR5 hdef
  have hR2l : R2.length ≤ 1001 := by rw [← hR2, List.length_append]; show R.length + 1 ≤ _; omega
  generalize v3 ++ [V.ref pe] = v4 at dR5 h5
  have hv4 : v4.length = R2.length := by rw [dR5.len, List.length_map]
  have ha5 := sF0 _ _ ha2
  have hb5 := sF0 _ _ hb2
  have hc5 := sF0 _ _ hc2
  refine k_forL (by walk_at "h") (fun t σ H' => ∃ (s1 s2 s3 : Nat) (acc : List V) (cs : List Ch) (F : Hp) (y1 y2 y3 y4 y5 y6 y7 y8 : Option V), σ = [some (.ref a), some (.ref b), some (.ref c), some (.ref pl), some (.int (s1 : Int)), some (.int (s2 : Int)), some (.int (s3 : Int)), some (.ref pe), y1, y2, y3, y4, y5, y6, y7, y8] ∧ Same F0 F ∧ Has F [(p4, .lst v4), (pl, .lst acc)] H' ∧ DqAll F acc (cs.map chD) ∧ cs ++ pc B X Y (s1, s2, s3) (R2.drop t) = tch B X Y ∧ cs.length ≤ 2 * t) ⟨0, 0, 0, [], [], F0, _, _, _, _, _, _, _, _, rfl, Same.refl _, h5, .nil, by rw [List.drop_zero, List.nil_append]; exact hdef, Nat.le_refl _⟩ ?_ ?_ ?_
  · rintro t σ H6 _ ⟨s1, s2, s3, acc, cs, F, _, _, _, _, _, _, _, _, _, sF, h6, _⟩
    exact h6.get (List.Mem.head _)
  · rintro t x σ H6 hx ⟨s1, s2, s3, acc, cs, F, y1, y2, y3, y4, y5, y6, y7, y8, rfl, sF, h6, dq, ecs, lcs⟩
    obtain ⟨d, hd, dx⟩ := dR5.get hx
    rw [List.getElem?_map] at hd
    obtain ⟨m, hm, rfl⟩ := Option.map_eq_some_iff.mp hd
    obtain ⟨m1, m2, m3, l⟩ := m
    obtain ⟨T, rfl, hT⟩ := r4d_inv (dx.up sF _ _)
    have ht : t < R2.length := (List.getElem?_eq_some_iff.mp hm).1
    have edr : R2.drop t = (m1, m2, m3, l) :: R2.drop (t + 1) := by
      rw [List.drop_eq_getElem_cons ht, (List.getElem?_eq_some_iff.mp hm).2]
    have ha6 := sF _ _ ha5
    have hb6 := sF _ _ hb5
    have hc6 := sF _ _ hc5
    have hal : acc.length = cs.length := by rw [dq.len, List.length_map]
    rw [edr] at ecs
    have ecs : cs ++ (pOpt B X Y (s1, s2, s3) (m1, m2, m3) ++ sOpt B m1 l ++ pc B X Y (m1 + l, m2 + l, m3 + l) (R2.drop (t + 1))) = tch B X Y := ecs
    walk_at "gg"
    refine g_slL (by walk_at "h") h6 (fun q1 H7 n7 h7 => ?_)
    rw [cutV_str] at h7
    walk_at "gg"
    refine g_tupleL (by walk_at "h") h7.frz (fun tb H8 F8 n8 s8 f8 h8 => ?_)
    have h8 : Has F8 [(p4, .lst v4), (pl, .lst acc)] H8 := h8
    have s8 := h7.grow.trans s8
    have ha8 := s8 _ _ ha6
    have hb8 := s8 _ _ hb6
    have hc8 := s8 _ _ hc6
    have hT8 := s8 _ _ hT
    walk_at "gg"
    refine g_slL (by walk_at "h") h8 (fun q2 H9 n9 h9 => ?_)
    rw [cutV_str] at h9
    walk_at "gg"
    refine g_tupleL (by walk_at "h") h9.frz (fun tx H10 F10 n10 s10 f10 h10 => ?_)
    have s10 := h9.grow.trans s10
    have ha10 := s10 _ _ ha8
    have hc10 := s10 _ _ hc8
    have f8 := s10 _ _ f8
    walk_at "gg"
    refine g_slL (by walk_at "h") h10 (fun q3 H11 n11 h11 => ?_)
    rw [cutV_str] at h11
    walk_at "gg"
    refine g_tupleL (by walk_at "h") h11.frz (fun ty H12 F12 n12 s12 f12 h12 => ?_)
    have s12 := h11.grow.trans s12
    have ha12 := s12 _ _ ha10
    have f8 := s12 _ _ f8
    have f10 := s12 _ _ f10
    have s612 := s8.trans (s10.trans s12)
    have dq := dq.up s612 _ _
    walk_at "g"
    walk_at "g"
    refine g_join (fun σ' H' => ∃ (acc : List V) (cs : List Ch) (F : Hp), σ' = [some (.ref a), some (.ref b), some (.ref c), some (.ref pl), some (.int (s1 : Int)), some (.int (s2 : Int)), some (.int (s3 : Int)), some (.ref pe), some (.int (m1 : Int)), some (.int (m2 : Int)), some (.int (m3 : Int)), some (.int (l : Int)), some (.ref tb), some (.ref tx), some (.ref ty), y8] ∧ Same F12 F ∧ Has F [(p4, .lst v4), (pl, .lst acc)] H' ∧ DqAll F acc (cs.map chD) ∧ cs ++ (sOpt B m1 l ++ pc B X Y (m1 + l, m2 + l, m3 + l) (R2.drop (t + 1))) = tch B X Y ∧ cs.length ≤ 2 * t + 1) ?_ (fun key => ?_)
    · rintro σ' H13 ⟨acc, cs, F, rfl, sF2, h13, dq, ecs, lcs⟩
      have ha13 := sF2 _ _ ha12
      have hal : acc.length = cs.length := by rw [dq.len, List.length_map]
      have sFF := sF.trans (s612.trans sF2)
      walk_at "gg"
      refine i_d (fun e => ?_) (fun e => ?_)
      · have e' : l > 0 := by omega
        walk_at "gg"
        refine g_slL (by walk_at "h") h13 (fun q4 H14 n14 h14 => ?_)
        rw [show ((m1 : Int) + (l : Int)) = ((m1 + l : Nat) : Int) from rfl, cutV_str] at h14
        walk_at "gg"
        refine g_tupleL (by walk_at "h") h14.frz (fun tl H15 F15 n15 s15 f15 h15 => ?_)
        have s15 := h14.grow.trans s15
        walk_at "gg"
        refine g_ktupF (by walk_at "sz") h15 (fun tt H16 F16 n16 s16 f16 h16 => ?_)
        have f15 := s16 _ _ f15
        walk_at "gg"
        refine g_append h16 (by walk_at "c") (szl (by omega)) (fun H17 h17 => ?_)
        walk_at "gg"
        refine ⟨m1 + l, m2 + l, m3 + l, _, cs ++ [.same (cut B m1 (m1 + l))], F16, _, _, _, _, _, _, _, _, rfl, sFF.trans (s15.trans s16), h17, ?_, ?_, by rw [List.length_append]; show cs.length + 1 ≤ _; omega⟩
        · rw [List.map_append]
          exact (dq.up (s15.trans s16) _ _).snoc (.tup f16 (.cons (.str _) (.cons (dq_tS f15) (.cons (dq_tS f15) (.cons (dq_tS f15) .nil)))))
        · rw [← ecs, List.append_assoc]
          unfold sOpt
          rw [if_pos e']
      · have e' : ¬ l > 0 := by omega
        walk_at "gg"
        refine ⟨m1 + l, m2 + l, m3 + l, _, cs, F, _, _, _, _, _, _, _, _, rfl, sFF, h13, dq, ?_, by omega⟩
        rw [← ecs]
        unfold sOpt
        rw [if_neg e', List.nil_append]
    · walk_at "gg"
      rw [List.length_map, List.length_map, List.length_map]
      refine i_d (fun e => ?_) (fun e => ?_)
      · walk_at "gg"
        refine g_ktupF (by walk_at "sz") h12 (fun tt H16 F16 n16 s16 f16 h16 => ?_)
        walk_at "gg"
        refine g_append h16 (by walk_at "c") (szl (by omega)) (fun H17 h17 => ?_)
        refine key _ _ ⟨_, cs ++ [.part (cut B s1 m1) (cut X s2 m2) (cut Y s3 m3)], F16, rfl, s16, h17, ?_, ?_, by rw [List.length_append]; show cs.length + 1 ≤ _; omega⟩
        · rw [List.map_append]
          exact (dq.up s16 _ _).snoc (.tup f16 (.cons (.str _) (.cons (dq_tS (s16 _ _ f8)) (.cons (dq_tS (s16 _ _ f10)) (.cons (dq_tS (s16 _ _ f12)) .nil)))))
        · rw [← ecs]
          unfold pOpt
          rw [if_pos (Int.ofNat_lt.mp e)]
          simp only [List.append_assoc]
      · walk_at "g"
        refine key _ _ ⟨_, cs, F12, rfl, Same.refl _, h12, dq, ?_, by omega⟩
        rw [← ecs]
        unfold pOpt
        rw [if_neg (fun z => e (Int.ofNat_lt.mpr z)), List.nil_append]
  · rintro σ H6 ⟨s1, s2, s3, acc, cs, F, y1, y2, y3, y4, y5, y6, y7, y8, rfl, sF, h6, dq, ecs, lcs⟩
    walk_at "gg"
    rw [hv4, List.drop_length] at ecs
    have ecs : cs ++ [] = tch B X Y := ecs
    rw [List.append_nil] at ecs
    subst ecs
    refine q pl H6 acc (sE.trans (sF0.trans (sF.trans h6.same))) n1 (h6.get (by walk_at "m")) (dq.up h6.same _ _)
end

end K10

namespace K10
open PySem PySem.Spec PyProof.Rows L2 Qk
local macro_rules | `(tactic| walk_at "m") => `(tactic| ((repeat (first | exact List.Mem.head _ | apply List.Mem.tail)); done))
local macro_rules | `(tactic| walk_at "h") => `(tactic| first | assumption | exact Has.gF (by assumption) (by assumption) | exact Has.get (by assumption) (by walk_at "m"))
local macro_rules | `(tactic| walk_at "c") => `(tactic| ((repeat (first | exact Chg.hd | apply Chg.tl)); done))
local macro_rules | `(tactic| walk_at "is") => `(tactic| first
  | ((with_reducible refine' is2_non ?gh ?_); (case gh => walk_at "h"))
  | (with_reducible refine is_int_list ?_)
  | (with_reducible refine is_int_tuple ?_)
  | (with_reducible refine is_int_dict ?_)
  | (with_reducible refine is_int_int ?_)
  | (with_reducible refine is_int_bool ?_)
  | (with_reducible refine is_int_str ?_)
  | ((with_reducible refine' is2_int ?gh ?_); (case gh => walk_at "h"))
  | (with_reducible refine is_str_list ?_)
  | (with_reducible refine is_str_tuple ?_)
  | (with_reducible refine is_str_dict ?_)
  | (with_reducible refine is_str_int ?_)
  | (with_reducible refine is_str_bool ?_)
  | (with_reducible refine is_str_str ?_)
  | ((with_reducible refine' is2_str ?gh ?_); (case gh => walk_at "h"))
  | (with_reducible refine is_bool_list ?_)
  | (with_reducible refine is_bool_tuple ?_)
  | (with_reducible refine is_bool_dict ?_)
  | (with_reducible refine is_bool_int ?_)
  | (with_reducible refine is_bool_bool ?_)
  | (with_reducible refine is_bool_str ?_)
  | ((with_reducible refine' is2_bool ?gh ?_); (case gh => walk_at "h"))
  | ((with_reducible refine' is_list_list ?gh ?_); (case gh => walk_at "h"))
  | ((with_reducible refine' is_list_tuple ?gh ?_); (case gh => walk_at "h"))
  | ((with_reducible refine' is_list_dict ?gh ?_); (case gh => walk_at "h"))
  | ((with_reducible refine' is_list_int ?gh ?_); (case gh => walk_at "h"))
  | ((with_reducible refine' is_list_bool ?gh ?_); (case gh => walk_at "h"))
  | ((with_reducible refine' is_list_str ?gh ?_); (case gh => walk_at "h"))
  | ((with_reducible refine' is2_list ?ga ?gb ?_); (case ga => walk_at "h"); (case gb => walk_at "h"))
  | ((with_reducible refine' is_tuple_list ?gh ?_); (case gh => walk_at "h"))
  | ((with_reducible refine' is_tuple_tuple ?gh ?_); (case gh => walk_at "h"))
  | ((with_reducible refine' is_tuple_dict ?gh ?_); (case gh => walk_at "h"))
  | ((with_reducible refine' is_tuple_int ?gh ?_); (case gh => walk_at "h"))
  | ((with_reducible refine' is_tuple_bool ?gh ?_); (case gh => walk_at "h"))
  | ((with_reducible refine' is_tuple_str ?gh ?_); (case gh => walk_at "h"))
  | ((with_reducible refine' is2_tuple ?ga ?gb ?_); (case ga => walk_at "h"); (case gb => walk_at "h"))
  | ((with_reducible refine' is_dict_list ?gh ?_); (case gh => walk_at "h"))
  | ((with_reducible refine' is_dict_tuple ?gh ?_); (case gh => walk_at "h"))
  | ((with_reducible refine' is_dict_dict ?gh ?_); (case gh => walk_at "h"))
  | ((with_reducible refine' is_dict_int ?gh ?_); (case gh => walk_at "h"))
  | ((with_reducible refine' is_dict_bool ?gh ?_); (case gh => walk_at "h"))
  | ((with_reducible refine' is_dict_str ?gh ?_); (case gh => walk_at "h"))
  | ((with_reducible refine' is2_dict ?ga ?gb ?_); (case ga => walk_at "h"); (case gb => walk_at "h")))
local macro_rules | `(tactic| walk_at "g") => `(tactic| first
  | (with_reducible refine g_seq ?_)
  | (with_reducible refine g_asg ?_)
  | ((with_reducible refine g_name ?_); dsimp only [List.set, wipe, List.map])
  | ((with_reducible refine' g_var ?gv ?_); (case gv => exact rfl))
  | (with_reducible refine g_c ?_)
  | (with_reducible refine g_op ?_)
  | (with_reducible refine g_cons ?_)
  | (with_reducible refine g_nil ?_)
  | (with_reducible refine g_cb ?_)
  | (with_reducible refine g_call ?_)
  | (with_reducible refine g_tup ?_)
  | (with_reducible refine g_lst ?_)
  | (with_reducible refine g_bm ?_)
  | (with_reducible refine g_bm0 ?_)
  | ((with_reducible refine' g_kbm ?gh ?_); (case gh => walk_at "h"))
  | (with_reducible refine g_drop ?_)
  | (with_reducible refine g_ret ?_)
  | (with_reducible refine g_retN ?_)
  | (with_reducible refine g_next ?_)
  | (with_reducible refine g_brk ?_)
  | (with_reducible refine g_cont ?_)
  | (with_reducible refine g_if ?_)
  | ((with_reducible refine' g_aug ?gv ?_); (case gv => exact rfl))
  | (with_reducible refine g_ipI ?_)
  | (with_reducible refine g_test ?_)
  | (with_reducible refine g_tB ?_)
  | (with_reducible refine g_kB ?_)
  | (with_reducible refine g_not ?_)
  | (with_reducible refine g_and ?_)
  | (with_reducible refine g_or ?_)
  | (with_reducible refine g_andV ?_)
  | (with_reducible refine g_orV ?_)
  | (with_reducible refine g_notV ?_)
  | (with_reducible refine g_ifE ?_)
  | (with_reducible refine g_addI ?_)
  | (with_reducible refine g_rI0 ?_)
  | (with_reducible refine g_eqI ?_)
  | (with_reducible refine g_eqS ?_)
  | (with_reducible refine g_neI ?_)
  | (with_reducible refine g_neS ?_)
  | (with_reducible refine g_isN ?_)
  | (with_reducible refine g_notN ?_)
  | (with_reducible refine g_int ?_)
  | (with_reducible refine g_max2 ?_)
  | (with_reducible refine g_min2 ?_)
  | ((with_reducible refine' g_lenL ?gh ?_); (case gh => walk_at "h"))
  | (with_reducible refine g_sub ?_)
  | (with_reducible refine g_gcons ?_)
  | (with_reducible refine g_gnil ?_)
  | (with_reducible refine g_un ?_)
  | (with_reducible refine g_rU ?_)
  | (with_reducible refine g_forL ?_)
  | (with_reducible refine g_forS ?_)
  | (with_reducible refine g_forR1 ?_)
  | (with_reducible refine g_forR2 ?_)
  | (with_reducible refine g_forR3 ?_)
  | (with_reducible refine g_lcL ?_)
  | (with_reducible refine g_lcR1 ?_)
  | (with_reducible refine g_lcR2 ?_)
  | (with_reducible refine g_slice ?_)
  | (with_reducible refine g_part ?_)
  | (with_reducible refine g_kOI ?_)
  | (with_reducible refine g_nopart ?_)
  | (with_reducible refine g_yes ?_)
  | ((with_reducible refine' g_wipe ?gv ?_); (case gv => exact rfl))
  | (with_reducible refine iteT ?_)
  | (with_reducible refine iteF ?_)
  | (with_reducible refine i_nf ?_)
  | (with_reducible refine i_nt ?_)
  | ((with_reducible refine' g_gtup ?gh ?gl ?_); (case gh => walk_at "h"); (case gl => exact rfl))
  | ((with_reducible refine' g_notinI ?gh ?_); (case gh => walk_at "h"))
  | ((with_reducible refine' g_inI ?gh ?_); (case gh => walk_at "h"))
  | ((with_reducible refine' g_kget2 ?gh ?_); (case gh => walk_at "h"))
  | ((with_reducible refine' g_kgotI ?gh ?_); (case gh => walk_at "h"))
  | (with_reducible refine g_tRev ?_)
  | (with_reducible refine g_neB ?_)
  | (with_reducible refine g_eqB ?_)
  | ((with_reducible refine' g_lenT ?gh ?_); (case gh => walk_at "h"))
  | (with_reducible refine g_star ?_)
  | ((with_reducible refine' g_kstarL ?gh ?_); (case gh => walk_at "h"))
  | ((with_reducible refine' g_kstarT ?gh ?_); (case gh => walk_at "h"))
  | (with_reducible refine g_tru ?_)
  | ((with_reducible refine' g_truL ?gh ?_); (case gh => walk_at "h"))
  | (with_reducible refine g_get2 ?_)
  | (with_reducible refine g_try ?_)
  | (with_reducible refine g_fld ?_)
  | (with_reducible refine g_sfld ?_)
  | (with_reducible refine g_meth ?_)
  | (with_reducible refine g_make ?_)
  | (with_reducible refine g_del ?_)
  | (with_reducible refine g_callS ?_)
  | (with_reducible refine g_raise ?_)
  | (with_reducible refine g_xf ?_)
  | (with_reducible refine g_m0 ?_)
  | (with_reducible refine g_km0 ?_)
  | walk_at "is")
local macro_rules | `(tactic| walk_at "gg") => `(tactic| repeat walk_at "g")
local macro_rules | `(tactic| walk_at "sz") => `(tactic| (refine sz ?_; simp only [List.length_cons, List.length_nil, List.length_map, List.length_append, List.length_replicate]; omega))
local macro_rules | `(tactic| walk_at "sub") => `(tactic| ((repeat (first | exact List.Sublist.slnil | with_reducible apply List.Sublist.cons_cons | with_reducible apply List.Sublist.cons)); done))

/-- a chunk's lines are not many -/
def chLe (k : Nat) : Ch → Prop
  | .same ls => ls.length ≤ k
  | .part b x y => b.length ≤ k ∧ x.length ≤ k ∧ y.length ≤ k
theorem pc_le (B X Y : List Str) {k : Nat} (h1 : B.length ≤ k) (h2 : X.length ≤ k) (h3 : Y.length ≤ k) : ∀ (R : List R4) (s : Tr), (∀ c ∈ pc B X Y s R, chLe k c) ∧ (pc B X Y s R).length ≤ 2 * R.length
  | [], s => ⟨fun c hc => (by cases hc), Nat.le_refl _⟩
  | (a, b, c, l) :: R, s => by
    have ih := pc_le B X Y h1 h2 h3 R (a + l, b + l, c + l)
    have c1 := fun i m => cut_le B i m
    have c2 := fun i m => cut_le X i m
    have c3 := fun i m => cut_le Y i m
    have p1 : (∀ c' ∈ pOpt B X Y s (a, b, c), chLe k c') ∧ (pOpt B X Y s (a, b, c)).length ≤ 1 := by
      unfold pOpt
      split
      · refine ⟨fun c' hc => ?_, Nat.le_refl _⟩
        rw [List.mem_singleton.mp hc]
        exact ⟨Nat.le_trans (c1 _ _) h1, Nat.le_trans (c2 _ _) h2, Nat.le_trans (c3 _ _) h3⟩
      · exact ⟨fun c' hc => (by cases hc), Nat.zero_le _⟩
    have p2 : (∀ c' ∈ sOpt B a l, chLe k c') ∧ (sOpt B a l).length ≤ 1 := by
      unfold sOpt
      split
      · refine ⟨fun c' hc => ?_, Nat.le_refl _⟩
        rw [List.mem_singleton.mp hc]
        exact Nat.le_trans (c1 _ _) h1
      · exact ⟨fun c' hc => (by cases hc), Nat.zero_le _⟩
    show (∀ c' ∈ pOpt B X Y s (a, b, c) ++ sOpt B a l ++ pc B X Y (a + l, b + l, c + l) R, chLe k c') ∧ (pOpt B X Y s (a, b, c) ++ sOpt B a l ++ pc B X Y (a + l, b + l, c + l) R).length ≤ 2 * (R.length + 1)
    refine ⟨fun c' hc => ?_, ?_⟩
    · rcases List.mem_append.mp hc with hc | hc
      · rcases List.mem_append.mp hc with hc | hc
        · exact p1.1 _ hc
        · exact p2.1 _ hc
      · exact ih.1 _ hc
    · rw [List.length_append, List.length_append]
      have := p1.2
      have := p2.2
      have := ih.2
      omega
theorem tch_le (B X Y : List Str) {k : Nat} (h1 : B.length ≤ k) (h2 : X.length ≤ k) (h3 : Y.length ≤ k) : (∀ c ∈ tch B X Y, chLe k c) ∧ (tch B X Y).length ≤ 2 * k + 2 := by
  have h := pc_le B X Y h1 h2 h3 (grp (stab (mt B X 0 0) (mt B Y 0 0)) ++ [(B.length, X.length, Y.length, 0)]) (0, 0, 0)
  refine ⟨h.1, Nat.le_trans h.2 ?_⟩
  have hml : (mt B X 0 0).length ≤ B.length := by rw [mt_length]; have := lc_len B X; omega
  have hsl := stab_len (mt B X 0 0) (mt B Y 0 0)
  have hgl := grp_len (stab (mt B X 0 0) (mt B Y 0 0))
  rw [List.length_append]
  show 2 * (_ + 1) ≤ _
  omega
theorem chD_noL (c : Ch) : noL (chD c) = true := by
  have h : ∀ xs : List Str, noL (tS xs) = true := fun xs => by
    unfold tS
    rw [noL]
    refine noLs_mem fun d hd => ?_
    obtain ⟨x, _, rfl⟩ := List.mem_map.mp hd
    rfl
  cases c with
  | same ls =>
    unfold chD
    rw [noL, noLs, noLs, noLs, noLs, noLs, h]
    rfl
  | part b x y =>
    unfold chD
    rw [noL, noLs, noLs, noLs, noLs, noLs, h, h, h]
    rfl
theorem chs_noL {cs : List Ch} : ∀ d ∈ cs.map chD, noL d = true := fun d hd => by
  obtain ⟨c, _, rfl⟩ := List.mem_map.mp hd
  exact chD_noL c

/-! ### merges of chunks -/
def chB : Ch → List Str
  | .same ls => ls
  | .part b _ _ => b
def chX : Ch → List Str
  | .same ls => ls
  | .part _ x _ => x
def chY : Ch → List Str
  | .same ls => ls
  | .part _ _ y => y
def tag : Ch → Str
  | .same _ => "same"
  | .part _ _ _ => "part"
theorem chD_eq (c : Ch) : chD c = .tuple [.str (tag c), tS (chB c), tS (chX c), tS (chY c)] := by cases c <;> rfl
def clash (b x y : List Str) : List Str := ("<<<<<<<" : Str) :: (x ++ (("|||||||" : Str) :: (b ++ (("=======" : Str) :: (y ++ [(">>>>>>>" : Str)])))))
def dec (b x y : List Str) : List Str × Nat := if x = y then (x, 0) else if y = b then (x, 0) else if x = b then (y, 0) else (clash b x y, 1)
def decC (c : Ch) : List Str × Nat := dec (chB c) (chX c) (chY c)
def mrgL (cs : List Ch) : List Str := cs.flatMap fun c => (decC c).1
def mrgN (cs : List Ch) : Nat := (cs.map fun c => (decC c).2).sum
theorem mrgL_take {t : Nat} {cs : List Ch} {c : Ch} (h : cs[t]? = some c) : mrgL (cs.take (t + 1)) = mrgL (cs.take t) ++ (decC c).1 := by
  unfold mrgL
  rw [List.take_add_one, h, List.flatMap_append]
  simp
theorem mrgN_take {t : Nat} {cs : List Ch} {c : Ch} (h : cs[t]? = some c) : mrgN (cs.take (t + 1)) = mrgN (cs.take t) + (decC c).2 := by
  unfold mrgN
  rw [List.take_add_one, h, List.map_append, List.sum_append]
  simp
theorem dec_len {b x y : List Str} {k : Nat} (h1 : b.length ≤ k) (h2 : x.length ≤ k) (h3 : y.length ≤ k) : (dec b x y).1.length ≤ 3 * k + 4 := by
  unfold dec
  split
  · show x.length ≤ _; omega
  · split
    · show x.length ≤ _; omega
    · split
      · show y.length ≤ _; omega
      · show (clash b x y).length ≤ _
        unfold clash
        simp only [List.length_cons, List.length_append, List.length_nil]
        omega
theorem decC_len {c : Ch} {k : Nat} (h : chLe k c) : (decC c).1.length ≤ 3 * k + 4 := by
  cases c with
  | same ls => exact dec_len h h h
  | part b x y => exact dec_len h.1 h.2.1 h.2.2
theorem mrgL_len {k : Nat} : ∀ {cs : List Ch}, (∀ c ∈ cs, chLe k c) → (mrgL cs).length ≤ cs.length * (3 * k + 4)
  | [], _ => Nat.zero_le _
  | c :: cs, h => by
    have ih := mrgL_len (cs := cs) fun x hx => h x (List.mem_cons_of_mem _ hx)
    have h1 := decC_len (h c List.mem_cons_self)
    unfold mrgL at ih ⊢
    rw [List.flatMap_cons, List.length_append, List.length_cons, Nat.succ_mul]
    omega
theorem pc_all (P : List Str → Prop) (B X Y : List Str) (h1 : ∀ i a, P (cut B i a)) (h2 : ∀ i a, P (cut X i a)) (h3 : ∀ i a, P (cut Y i a)) : ∀ (R : List R4) (s : Tr), ∀ c ∈ pc B X Y s R, P (chB c) ∧ P (chX c) ∧ P (chY c)
  | [], s, c, hc => (by cases hc)
  | (a, b, c, l) :: R, s, c', hc => by
    rcases List.mem_append.mp (show c' ∈ pOpt B X Y s (a, b, c) ++ sOpt B a l ++ pc B X Y (a + l, b + l, c + l) R from hc) with hc | hc
    · rcases List.mem_append.mp hc with hc | hc
      · unfold pOpt at hc
        split at hc
        · rw [List.mem_singleton.mp hc]
          exact ⟨h1 _ _, h2 _ _, h3 _ _⟩
        · cases hc
      · unfold sOpt at hc
        split at hc
        · rw [List.mem_singleton.mp hc]
          exact ⟨h1 _ _, h1 _ _, h1 _ _⟩
        · cases hc
    · exact pc_all P B X Y h1 h2 h3 R _ c' hc
theorem cut_mem {B : List Str} {i a : Nat} {x : Str} (h : x ∈ cut B i a) : x ∈ B := List.mem_of_mem_drop (List.mem_of_mem_take h)
def okL (xs : List Str) : Prop := ∀ x ∈ xs, PyData.strOk x = true
theorem okL_cut {B : List Str} (h : okL B) (i a : Nat) : okL (cut B i a) := fun x hx => h x (cut_mem hx)
theorem tch_ok {B X Y : List Str} (h1 : okL B) (h2 : okL X) (h3 : okL Y) : ∀ c ∈ tch B X Y, okL (chB c) ∧ okL (chX c) ∧ okL (chY c) :=
  pc_all okL B X Y (okL_cut h1) (okL_cut h2) (okL_cut h3) _ _
/-! the sides exchanged -/
def swT (m : Tr) : Tr := (m.1, m.2.2, m.2.1)
def swR (r : R4) : R4 := (r.1, r.2.2.1, r.2.1, r.2.2.2)
def swC : Ch → Ch
  | .same ls => .same ls
  | .part b x y => .part b y x
theorem grpF_sw : ∀ (S : List Tr) (r : R4), grpF (swR r) (S.map swT) = (grpF r S).map swR
  | [], r => rfl
  | m :: S, (a, b, c, l) => by
    show grpF (a, c, b, l) (swT m :: S.map swT) = _
    rw [grpF, grpF]
    by_cases e : ((a + l, b + l, c + l) : Tr) = m
    · rw [if_pos e, if_pos (by rw [← e]; rfl)]
      exact grpF_sw S (a, b, c, l + 1)
    · rw [if_neg e, if_neg, List.map_cons]
      · congr 1
        exact grpF_sw S (m.1, m.2.1, m.2.2, 1)
      · intro z
        apply e
        obtain ⟨m1, m2, m3⟩ := m
        unfold swT at z
        simp only [Prod.mk.injEq] at z ⊢
        omega
theorem grp_sw (S : List Tr) : grp (S.map swT) = (grp S).map swR := by
  cases S with
  | nil => rfl
  | cons m S => exact grpF_sw S (m.1, m.2.1, m.2.2, 1)
theorem pc_sw (B X Y : List Str) : ∀ (R : List R4) (s : Tr), pc B Y X (swT s) (R.map swR) = (pc B X Y s R).map swC
  | [], s => rfl
  | (a, b, c, l) :: R, s => by
    show pOpt B Y X (swT s) (a, c, b) ++ sOpt B a l ++ pc B Y X (swT (a + l, b + l, c + l)) (R.map swR) = (pOpt B X Y s (a, b, c) ++ sOpt B a l ++ pc B X Y (a + l, b + l, c + l) R).map swC
    rw [pc_sw B X Y R, List.map_append, List.map_append]
    congr 1
    congr 1
    · unfold pOpt swT
      simp only
      by_cases e : (cut B s.1 a).length + (cut X s.2.1 b).length + (cut Y s.2.2 c).length > 0
      · rw [if_pos e, if_pos (by omega)]
        rfl
      · rw [if_neg e, if_neg (by omega)]
        rfl
    · unfold sOpt
      split <;> rfl
theorem tch_sw (B X Y : List Str) : tch B Y X = (tch B X Y).map swC := by
  have h1 := stab_range (ps := mt B X 0 0) (qs := mt B Y 0 0) (n := B.length) (mt_inc B X 0 0) (fun p hp => by have := mt_lt _ _ _ _ _ hp; omega)
  have h2 := stab_range (ps := mt B Y 0 0) (qs := mt B X 0 0) (n := B.length) (mt_inc B Y 0 0) (fun p hp => by have := mt_lt _ _ _ _ _ hp; omega)
  have h3 : stab (mt B Y 0 0) (mt B X 0 0) = (stab (mt B X 0 0) (mt B Y 0 0)).map swT := by
    rw [h1, h2, List.map_map]
    have : ∀ i, ((look (mt B Y 0 0) i).isSome && (look (mt B X 0 0) i).isSome) = ((look (mt B X 0 0) i).isSome && (look (mt B Y 0 0) i).isSome) := fun i => Bool.and_comm _ _
    simp only [this]
    rfl
  unfold tch
  rw [h3, grp_sw, ← pc_sw, List.map_append]
  rfl
theorem map_self {α : Type} {f : α → α} : ∀ {l : List α}, l = l.map f → ∀ x ∈ l, f x = x
  | [], _, x, hx => (by cases hx)
  | y :: l, h, x, hx => by
    rw [List.map_cons, List.cons.injEq] at h
    rcases List.mem_cons.mp hx with rfl | hx
    · exact h.1.symm
    · exact map_self h.2 x hx
theorem tch_xx (B X : List Str) : ∀ c ∈ tch B X X, chX c = chY c := fun c hc => by
  have h := map_self (tch_sw B X X) c hc
  cases c with
  | same ls => rfl
  | part b x y =>
    have h : Ch.part b y x = Ch.part b x y := h
    injection h with _ _ e
theorem grpF_diag : ∀ (S : List Tr) (r : R4), r.1 = r.2.2.1 → (∀ m ∈ S, m.1 = m.2.2) → ∀ q ∈ grpF r S, q.1 = q.2.2.1
  | [], r, hr, _, q, hq => by rw [List.mem_singleton.mp hq]; exact hr
  | m :: S, (a, b, c, l), hr, hS, q, hq => by
    rw [grpF] at hq
    split at hq
    · exact grpF_diag S (a, b, c, l + 1) hr (fun z hz => hS z (List.mem_cons_of_mem _ hz)) q hq
    · rcases List.mem_cons.mp hq with rfl | hq
      · exact hr
      · exact grpF_diag S (m.1, m.2.1, m.2.2, 1) (hS m List.mem_cons_self) (fun z hz => hS z (List.mem_cons_of_mem _ hz)) q hq
theorem pc_diag (B X : List Str) : ∀ (R : List R4) (s : Tr), s.1 = s.2.2 → (∀ r ∈ R, r.1 = r.2.2.1) → ∀ c ∈ pc B X B s R, chB c = chY c
  | [], s, _, _, c, hc => (by cases hc)
  | (a, b, c, l) :: R, s, hs, hR, c', hc => by
    have hac : a = c := hR (a, b, c, l) List.mem_cons_self
    subst hac
    rcases List.mem_append.mp (show c' ∈ pOpt B X B s (a, b, a) ++ sOpt B a l ++ pc B X B (a + l, b + l, a + l) R from hc) with hc | hc
    · rcases List.mem_append.mp hc with hc | hc
      · unfold pOpt at hc
        split at hc
        · rw [List.mem_singleton.mp hc]
          show cut B s.1 a = cut B s.2.2 a
          rw [hs]
        · cases hc
      · unfold sOpt at hc
        split at hc
        · rw [List.mem_singleton.mp hc]; rfl
        · cases hc
    · exact pc_diag B X R _ rfl (fun r hr => hR r (List.mem_cons_of_mem _ hr)) c' hc
theorem tch_xb (B X : List Str) : ∀ c ∈ tch B X B, chB c = chY c := by
  unfold tch
  refine pc_diag B X _ _ rfl ?_
  have hS : ∀ m ∈ stab (mt B X 0 0) (mt B B 0 0), m.1 = m.2.2 := fun m hm => by
    obtain ⟨_, h2⟩ := stab_mem hm
    rw [mt_self] at h2
    obtain ⟨k, _, e⟩ := List.mem_map.mp h2
    rw [Prod.mk.injEq] at e
    omega
  intro r hr
  rcases List.mem_append.mp hr with hr | hr
  · generalize stab (mt B X 0 0) (mt B B 0 0) = S at hS hr
    cases S with
    | nil => cases hr
    | cons m S => exact grpF_diag S _ (hS m List.mem_cons_self) (fun z hz => hS z (List.mem_cons_of_mem _ hz)) r hr
  · rw [List.mem_singleton.mp hr]
theorem tch_bx (B X : List Str) : ∀ c ∈ tch B B X, chB c = chX c := fun c hc => by
  rw [tch_sw B X B] at hc
  obtain ⟨d, hd, rfl⟩ := List.mem_map.mp hc
  have := tch_xb B X d hd
  cases d <;> exact this
theorem mrg_of (n : Nat) : ∀ (cs : List Ch), (∀ c ∈ cs, decC c = (side n c, 0)) → mrgL cs = joined n cs ∧ mrgN cs = 0
  | [], _ => ⟨rfl, rfl⟩
  | c :: cs, h => by
    have ih := mrg_of n cs fun x hx => h x (List.mem_cons_of_mem _ hx)
    have h1 := h c List.mem_cons_self
    unfold mrgL mrgN joined at *
    rw [List.flatMap_cons, List.flatMap_cons, List.map_cons, List.sum_cons, ih.1, ih.2, h1]
    exact ⟨rfl, rfl⟩
theorem dec_xx (b x : List Str) : dec b x x = (x, 0) := by
  unfold dec
  rw [if_pos rfl]
theorem dec_xb (b x : List Str) : dec b x b = (x, 0) := by
  unfold dec
  split
  · rfl
  · rw [if_pos rfl]
theorem dec_bx (b x : List Str) : dec b b x = (x, 0) := by
  unfold dec
  split
  · rename_i e; rw [e]
  · split
    · rename_i e; rw [e]
    · rw [if_pos rfl]
theorem mrg_xx (B X : List Str) : mrgL (tch B X X) = X ∧ mrgN (tch B X X) = 0 := by
  have h := mrg_of 2 (tch B X X) fun c hc => by
    unfold decC
    rw [← tch_xx B X c hc, dec_xx]
    cases c <;> rfl
  rw [tch_joined] at h
  exact h
theorem mrg_xb (B X : List Str) : mrgL (tch B X B) = X ∧ mrgN (tch B X B) = 0 := by
  have h := mrg_of 2 (tch B X B) fun c hc => by
    unfold decC
    rw [← tch_xb B X c hc, dec_xb]
    cases c <;> rfl
  rw [tch_joined] at h
  exact h
theorem mrg_bx (B X : List Str) : mrgL (tch B B X) = X ∧ mrgN (tch B B X) = 0 := by
  have h := mrg_of 3 (tch B B X) fun c hc => by
    unfold decC
    rw [← tch_bx B X c hc, dec_bx]
    cases c <;> rfl
  rw [tch_joined] at h
  exact h
theorem sh_tS {n : Nat} {xs : List Str} (h : okL xs) : Sh (n + 1) (tS xs) := Sh.tuple fun d hd => by
  obtain ⟨x, hx, rfl⟩ := List.mem_map.mp hd
  exact Sh.str (h x hx)
theorem eqv_tS (xs ys : List Str) : PyData.eqv (tS xs) (tS ys) = decide (xs = ys) := eqv_tstrs xs ys
theorem chD_at {F : Hp} {v : V} {c : Ch} (h : Dq F v (chD c)) : ∃ T tb tx ty, v = .ref T ∧ F T = some (.tup [.str (tag c), .ref tb, .ref tx, .ref ty]) ∧ F tb = some (.tup ((chB c).map V.str)) ∧ F tx = some (.tup ((chX c).map V.str)) ∧ F ty = some (.tup ((chY c).map V.str)) := by
  rw [chD_eq] at h
  cases h with
  | tup hT hs =>
    cases hs with
    | cons h1 hs =>
      cases hs with
      | cons h2 hs =>
        cases hs with
        | cons h3 hs =>
          cases hs with
          | cons h4 hs =>
            cases hs
            cases h1
            obtain ⟨t2, rfl, e2⟩ := tS_inv h2
            obtain ⟨t3, rfl, e3⟩ := tS_inv h3
            obtain ⟨t4, rfl, e4⟩ := tS_inv h4
            exact ⟨_, _, _, _, rfl, hT, e2, e3, e4⟩
def mD (r : List Str × Nat) : PyData := .tuple [.list (r.1.map PyData.str), .int (r.2 : Int)]

namespace UL
/-! ### sides of a base of unlike lines -/
theorem lc_dy {y : Str} : ∀ {xs : List Str} (ys : List Str), y ∉ xs → lc xs (y :: ys) = lc xs ys
  | [], _, _ => by rw [lc, lc]
  | x :: xs, ys, h => by
    rw [List.mem_cons, not_or] at h
    rw [lc, if_neg (fun z => h.1 z.symm), lc_dy ys h.2]
    have := (lc_x xs ys x).1
    omega
theorem lc_dx {x : Str} (xs : List Str) : ∀ {ys : List Str}, x ∉ ys → lc (x :: xs) ys = lc xs ys
  | [], _ => by rw [lc_nil, lc_nil]
  | y :: ys, h => by
    rw [List.mem_cons, not_or] at h
    rw [lc, if_neg h.1, lc_dx xs h.2]
    have := (lc_y xs ys y).1
    omega
theorem lc_pre {xs : List Str} (ys : List Str) : ∀ {P : List Str}, (∀ y ∈ P, y ∉ xs) → lc xs (P ++ ys) = lc xs ys
  | [], _ => rfl
  | y :: P, h => by
    rw [List.cons_append, lc_dy _ (h y List.mem_cons_self), lc_pre ys fun z hz => h z (List.mem_cons_of_mem _ hz)]
theorem mt_nil (xs : List Str) (i j : Nat) : mt xs [] i j = [] := by
  cases xs <;> rw [mt]
theorem mt_skip {b : Str} {B Z : List Str} (h : b ∉ Z) (i j : Nat) : mt (b :: B) Z i j = mt B Z (i + 1) j := by
  cases Z with
  | nil => rw [mt_nil, mt_nil]
  | cons y ys =>
    rw [List.mem_cons, not_or] at h
    rw [mt, if_neg h.1, if_pos]
    rw [lc_dx B h.2]
    exact (lc_y B ys y).1
theorem mt_fresh {b : Str} {B : List Str} (hb : b ∉ B) (R : List Str) : ∀ (P : List Str) (i j : Nat), (∀ y ∈ P, y ∉ b :: B) → mt (b :: B) (P ++ b :: R) i j = (i, j + P.length) :: mt B R (i + 1) (j + P.length + 1)
  | [], i, j, _ => by rw [List.nil_append, mt, if_pos rfl]; rfl
  | y :: P, i, j, h => by
    have hy := h y List.mem_cons_self
    rw [List.mem_cons, not_or] at hy
    have hP : ∀ z ∈ P, z ∉ b :: B := fun z hz => h z (List.mem_cons_of_mem _ hz)
    rw [List.cons_append, mt, if_neg (fun z => hy.1 z.symm), if_neg, mt_fresh hb R P i (j + 1) hP, List.length_cons, show j + 1 + P.length = j + (P.length + 1) by omega]
    have e1 : lc B (y :: (P ++ b :: R)) = lc B R := by
      rw [lc_dy _ hy.2, lc_pre _ (fun z hz => fun m => hP z hz (List.mem_cons_of_mem _ m)), lc_dy _ hb]
    have e2 : lc (b :: B) (P ++ b :: R) = lc B R + 1 := by
      rw [lc_pre _ hP, lc, if_pos rfl]
    rw [e1, e2]
    omega
abbrev It1 := Str × Bool × List Str
def oB (k : Bool) (b : Str) : List Str := if k = true then [b] else []
def oN (k : Bool) : Nat := if k = true then 1 else 0
def sd : List It1 → List Str → List Str
  | [], f => f
  | (b, k, n) :: its, f => n ++ oB k b ++ sd its f
def mp : List It1 → Nat → Nat → List (Nat × Nat)
  | [], _, _ => []
  | (_, k, n) :: its, i, j => if k = true then (i, j + n.length) :: mp its (i + 1) (j + n.length + 1) else mp its (i + 1) (j + n.length)
theorem mem_sd {y : Str} {f : List Str} : ∀ {its : List It1}, y ∈ sd its f → (∃ it ∈ its, y ∈ it.2.2) ∨ (∃ it ∈ its, y = it.1) ∨ y ∈ f
  | [], h => .inr (.inr h)
  | (b, k, n) :: its, h => by
    rcases List.mem_append.mp (show y ∈ (n ++ oB k b) ++ sd its f from h) with h | h
    · rcases List.mem_append.mp h with h | h
      · exact .inl ⟨_, List.mem_cons_self, h⟩
      · unfold oB at h
        split at h
        · exact .inr (.inl ⟨_, List.mem_cons_self, List.mem_singleton.mp h⟩)
        · cases h
    · rcases mem_sd h with ⟨it, hm, h⟩ | ⟨it, hm, h⟩ | h
      · exact .inl ⟨it, List.mem_cons_of_mem _ hm, h⟩
      · exact .inr (.inl ⟨it, List.mem_cons_of_mem _ hm, h⟩)
      · exact .inr (.inr h)
theorem mt_unl (P : Str → Prop) {f : List Str} (hf : ∀ y ∈ f, ¬ P y) : ∀ (its : List It1) (pre : List Str) (i j : Nat), (its.map (·.1)).Nodup → (∀ it ∈ its, P it.1) → (∀ it ∈ its, ∀ y ∈ it.2.2, ¬ P y) → (∀ y ∈ pre, ¬ P y) → mt (its.map (·.1)) (pre ++ sd its f) i j = mp its i (j + pre.length)
  | [], pre, i, j, _, _, _, _ => by
    show mt [] _ i j = []
    rw [mt]
  | (b, k, n) :: its, pre, i, j, nd, hP, hF, hpre => by
    rw [List.map_cons] at nd
    have nd' := List.nodup_cons.mp nd
    have hPb : P b := hP _ List.mem_cons_self
    have hn : ∀ y ∈ n, ¬ P y := hF _ List.mem_cons_self
    have hP' := fun it h => hP it (List.mem_cons_of_mem _ h)
    have hF' := fun it h => hF it (List.mem_cons_of_mem _ h)
    have hpn : ∀ y ∈ pre ++ n, ¬ P y := fun y hy => by
      rcases List.mem_append.mp hy with hy | hy
      · exact hpre y hy
      · exact hn y hy
    cases k with
    | true =>
      show mt (b :: its.map (·.1)) (pre ++ (n ++ [b] ++ sd its f)) i j = (i, j + pre.length + n.length) :: mp its (i + 1) (j + pre.length + n.length + 1)
      have e : pre ++ (n ++ [b] ++ sd its f) = (pre ++ n) ++ b :: sd its f := by simp
      rw [e, mt_fresh nd'.1 _ _ _ _ (fun y hy m => ?_)]
      · have ih := mt_unl P hf its [] (i + 1) (j + (pre ++ n).length + 1) nd'.2 hP' hF' (fun y hy => by cases hy)
        rw [List.nil_append] at ih
        rw [ih, List.length_append, List.length_nil, Nat.add_zero, show j + (pre.length + n.length) = j + pre.length + n.length by omega]
      · rcases List.mem_cons.mp m with rfl | m
        · exact hpn _ hy hPb
        · obtain ⟨it, hm, rfl⟩ := List.mem_map.mp m
          exact hpn _ hy (hP' it hm)
    | false =>
      show mt (b :: its.map (·.1)) (pre ++ (n ++ [] ++ sd its f)) i j = mp its (i + 1) (j + pre.length + n.length)
      have e : pre ++ (n ++ [] ++ sd its f) = (pre ++ n) ++ sd its f := by simp
      rw [e, mt_skip (fun m => ?_), mt_unl P hf its (pre ++ n) (i + 1) j nd'.2 hP' hF' hpn, List.length_append, show j + (pre.length + n.length) = j + pre.length + n.length by omega]
      rcases List.mem_append.mp m with m | m
      · exact hpn _ m hPb
      · rcases mem_sd m with ⟨it, hm, h⟩ | ⟨it, hm, h⟩ | h
        · exact hF' it hm _ h hPb
        · exact nd'.1 (List.mem_map.mpr ⟨it, hm, h.symm⟩)
        · exact hf _ h hPb
abbrev It2 := Str × (Bool × List Str) × (Bool × List Str)
def s1 (it : It2) : It1 := (it.1, it.2.1)
def s2 (it : It2) : It1 := (it.1, it.2.2)
def ms : List It2 → Nat → Nat → Nat → List Tr
  | [], _, _, _ => []
  | (_, (k1, n1), (k2, n2)) :: its, i, j, k => if (k1 && k2) = true then (i, j + n1.length, k + n2.length) :: ms its (i + 1) (j + n1.length + 1) (k + n2.length + 1) else ms its (i + 1) (j + n1.length + oN k1) (k + n2.length + oN k2)
theorem mp_inc : ∀ (its : List It1) (i j : Nat), Inc i j (mp its i j)
  | [], _, _ => trivial
  | (b, k, n) :: its, i, j => by
    cases k with
    | true => exact ⟨Nat.le_refl _, Nat.le_add_right _ _, mp_inc its _ _⟩
    | false => exact (mp_inc its (i + 1) (j + n.length)).mono (Nat.le_succ _) (Nat.le_add_right _ _)
theorem inc_mem : ∀ {ps : List (Nat × Nat)} {i j : Nat} {p : Nat × Nat}, Inc i j ps → p ∈ ps → i ≤ p.1
  | q :: ps, i, j, p, h, hp => by
    rcases List.mem_cons.mp hp with rfl | hp
    · exact h.1
    · have := inc_mem h.2.2 hp
      have := h.1
      omega
theorem stab_r {ps qs : List (Nat × Nat)} {i j k : Nat} (h : Inc (i + 1) j ps) : stab ps ((i, k) :: qs) = stab ps qs := by
  unfold stab
  apply fm_congr
  intro p hp
  have := inc_mem h hp
  rw [look_cons, if_neg (by show ¬ i = p.1; omega)]
theorem stab_mp : ∀ (its : List It2) (i j k : Nat), stab (mp (its.map s1) i j) (mp (its.map s2) i k) = ms its i j k
  | [], _, _, _ => rfl
  | (b, (k1, n1), (k2, n2)) :: its, i, j, k => by
    have ih := stab_mp its (i + 1)
    have inc1 := mp_inc (its.map s1) (i + 1)
    have inc2 := mp_inc (its.map s2) (i + 1)
    cases k1 with
    | true =>
      cases k2 with
      | true =>
        show stab ((i, j + n1.length) :: mp (its.map s1) (i + 1) (j + n1.length + 1)) ((i, k + n2.length) :: mp (its.map s2) (i + 1) (k + n2.length + 1)) = (i, j + n1.length, k + n2.length) :: ms its (i + 1) (j + n1.length + 1) (k + n2.length + 1)
        rw [← ih]
        have e : stab ((i, j + n1.length) :: mp (its.map s1) (i + 1) (j + n1.length + 1)) ((i, k + n2.length) :: mp (its.map s2) (i + 1) (k + n2.length + 1)) = (i, j + n1.length, k + n2.length) :: stab (mp (its.map s1) (i + 1) (j + n1.length + 1)) ((i, k + n2.length) :: mp (its.map s2) (i + 1) (k + n2.length + 1)) := by
          unfold stab
          rw [List.filterMap_cons, look_cons, if_pos rfl]
          rfl
        rw [e, stab_r (inc1 _)]
      | false =>
        show stab ((i, j + n1.length) :: mp (its.map s1) (i + 1) (j + n1.length + 1)) (mp (its.map s2) (i + 1) (k + n2.length)) = ms its (i + 1) (j + n1.length + 1) (k + n2.length + 0)
        rw [← ih]
        have e := look_none (inc2 (k + n2.length)) (Nat.lt_succ_self i)
        unfold stab
        rw [List.filterMap_cons, e]
        rfl
    | false =>
      cases k2 with
      | true =>
        show stab (mp (its.map s1) (i + 1) (j + n1.length)) ((i, k + n2.length) :: mp (its.map s2) (i + 1) (k + n2.length + 1)) = ms its (i + 1) (j + n1.length + 0) (k + n2.length + 1)
        rw [← ih, stab_r (inc1 _)]
        rfl
      | false =>
        show stab (mp (its.map s1) (i + 1) (j + n1.length)) (mp (its.map s2) (i + 1) (k + n2.length)) = ms its (i + 1) (j + n1.length + 0) (k + n2.length + 0)
        rw [← ih]
        rfl
def dec3 (B X Y : List Str) (s m : Tr) : List Str × Nat := dec (cut B s.1 m.1) (cut X s.2.1 m.2.1) (cut Y s.2.2 m.2.2)
def GL (B X Y : List Str) : Tr → List Tr → List Str × Nat
  | _, [] => ([], 0)
  | s, m :: ms => ((dec3 B X Y s m).1 ++ ((B.drop m.1).take 1 ++ (GL B X Y (nx3 m) ms).1), (dec3 B X Y s m).2 + (GL B X Y (nx3 m) ms).2)
theorem mrg_app (cs ds : List Ch) : mrgL (cs ++ ds) = mrgL cs ++ mrgL ds ∧ mrgN (cs ++ ds) = mrgN cs + mrgN ds := by
  unfold mrgL mrgN
  rw [List.flatMap_append, List.map_append, List.sum_append]
  exact ⟨rfl, rfl⟩
theorem mrg_fl (run : List Str) : mrgL (fl run) = run ∧ mrgN (fl run) = 0 := by
  unfold fl
  split
  · unfold mrgL mrgN decC
    simp [chB, chX, chY, dec_xx]
  · rename_i z
    have : run = [] := Classical.not_not.mp z
    subst this
    exact ⟨rfl, rfl⟩
theorem mrg_pN (B X Y : List Str) (s m : Tr) : mrgL (pN B X Y s m) = (dec3 B X Y s m).1 ∧ mrgN (pN B X Y s m) = (dec3 B X Y s m).2 := by
  unfold pN
  by_cases e : m = s
  · subst e
    rw [if_neg (fun z => z rfl)]
    unfold dec3
    have hc : ∀ (L : List Str) i, cut L i i = [] := fun L i => by
      unfold cut
      rw [Nat.sub_self, List.take_zero]
    rw [hc, hc, hc, dec_xx]
    exact ⟨rfl, rfl⟩
  · rw [if_pos e]
    unfold mrgL mrgN decC dec3
    simp [chB, chX, chY]
theorem chL_GL (B X Y : List Str) : ∀ (ms : List Tr) (s : Tr) (run : List Str) (m0 : Tr), m0.1 = B.length → mrgL (chL B X Y s run (ms ++ [m0])) = run ++ (GL B X Y s (ms ++ [m0])).1 ∧ mrgN (chL B X Y s run (ms ++ [m0])) = (GL B X Y s (ms ++ [m0])).2
  | [], s, run, m0, h0 => by
    rw [List.nil_append, chL, if_pos (.inr rfl), chL, List.append_nil]
    have h1 := mrg_fl run
    have h2 := mrg_pN B X Y s m0
    have h3 := mrg_app (fl run) (pN B X Y s m0)
    have e : (B.drop m0.1).take 1 = [] := by rw [h0, List.drop_length]; rfl
    show _ = run ++ ((dec3 B X Y s m0).1 ++ ((B.drop m0.1).take 1 ++ [])) ∧ _ = (dec3 B X Y s m0).2 + 0
    rw [h3.1, h3.2, h1.1, h1.2, h2.1, h2.2, e]
    simp
  | m :: ms, s, run, m0, h0 => by
    have ih := fun r => chL_GL B X Y ms (nx3 m) r m0 h0
    rw [List.cons_append, chL]
    show _ = run ++ ((dec3 B X Y s m).1 ++ ((B.drop m.1).take 1 ++ (GL B X Y (nx3 m) (ms ++ [m0])).1)) ∧ _ = (dec3 B X Y s m).2 + (GL B X Y (nx3 m) (ms ++ [m0])).2
    have h2 := mrg_pN B X Y s m
    split
    · have h1 := mrg_fl run
      have h3 := mrg_app (fl run) (pN B X Y s m)
      have h4 := mrg_app (fl run ++ pN B X Y s m) (chL B X Y (nx3 m) ((B.drop m.1).take 1) (ms ++ [m0]))
      rw [h4.1, h4.2, h3.1, h3.2, (ih _).1, (ih _).2, h1.1, h1.2, h2.1, h2.2]
      simp
    · rename_i z
      have e : m = s := Classical.not_not.mp fun y => z (.inl y)
      subst e
      have hp : pN B X Y m m = [] := by
        unfold pN
        rw [if_neg (fun z => z rfl)]
      rw [hp] at h2
      rw [(ih _).1, (ih _).2, ← h2.1, ← h2.2]
      simp [mrgL, mrgN]
def LW (f1 f2 : List Str) : List It2 → List Str → List Str → List Str → List Str × Nat
  | [], p0, p1, p2 => dec p0 (p1 ++ f1) (p2 ++ f2)
  | (b, (k1, n1), (k2, n2)) :: its, p0, p1, p2 => if (k1 && k2) = true then ((dec p0 (p1 ++ n1) (p2 ++ n2)).1 ++ ([b] ++ (LW f1 f2 its [] [] []).1), (dec p0 (p1 ++ n1) (p2 ++ n2)).2 + (LW f1 f2 its [] [] []).2) else LW f1 f2 its (p0 ++ [b]) (p1 ++ n1 ++ oB k1 b) (p2 ++ n2 ++ oB k2 b)
theorem cut_seg {L w r : List Str} {s j : Nat} (h : L.drop j = w ++ r) (hs : s ≤ j) (hj : j ≤ L.length) : cut L s (j + w.length) = cut L s j ++ w ∧ L.drop (j + w.length) = r ∧ j + w.length ≤ L.length := by
  have hl : L.length - j = w.length + r.length := by
    have := congrArg List.length h
    rw [List.length_drop, List.length_append] at this
    exact this
  refine ⟨?_, ?_, by omega⟩
  · unfold cut
    rw [show j + w.length - s = (j - s) + w.length by omega, List.take_add, List.drop_drop, show s + (j - s) = j by omega, h, List.take_left]
  · rw [← List.drop_drop, h, List.drop_left]
theorem GL_LW {B X Y f1 f2 : List Str} : ∀ (its : List It2) (i j k : Nat) (s : Tr), B.drop i = its.map (·.1) → X.drop j = sd (its.map s1) f1 → Y.drop k = sd (its.map s2) f2 → s.1 ≤ i → s.2.1 ≤ j → s.2.2 ≤ k → i ≤ B.length → j ≤ X.length → k ≤ Y.length →
    GL B X Y s (ms its i j k ++ [(B.length, X.length, Y.length)]) = LW f1 f2 its (cut B s.1 i) (cut X s.2.1 j) (cut Y s.2.2 k)
  | [], i, j, k, s, h1, h2, h3, a1, a2, a3, b1, b2, b3 => by
    have key : ∀ (L : List Str) (i : Nat), cut L i L.length = L.drop i := fun L i => by
      unfold cut
      rw [List.take_of_length_le (by rw [List.length_drop]; exact Nat.le_refl _)]
    have h1 : B.drop i = [] := h1
    have h2 : X.drop j = f1 := h2
    have h3 : Y.drop k = f2 := h3
    show ((dec3 B X Y s (B.length, X.length, Y.length)).1 ++ ((B.drop B.length).take 1 ++ []), (dec3 B X Y s (B.length, X.length, Y.length)).2 + 0) = dec (cut B s.1 i) (cut X s.2.1 j ++ f1) (cut Y s.2.2 k ++ f2)
    unfold dec3
    rw [key, key, key, List.drop_length, ← cut_drop B a1, ← cut_drop X a2, ← cut_drop Y a3, h1, h2, h3]
    simp
  | (b, (k1, n1), (k2, n2)) :: its, i, j, k, s, h1, h2, h3, a1, a2, a3, b1, b2, b3 => by
    have h1 : B.drop i = [b] ++ its.map (·.1) := h1
    have h2 : X.drop j = n1 ++ (oB k1 b ++ sd (its.map s1) f1) := by rw [← List.append_assoc]; exact h2
    have h3 : Y.drop k = n2 ++ (oB k2 b ++ sd (its.map s2) f2) := by rw [← List.append_assoc]; exact h3
    obtain ⟨c1, d1, e1⟩ := cut_seg h1 a1 b1
    obtain ⟨c2, d2, e2⟩ := cut_seg h2 a2 b2
    obtain ⟨c3, d3, e3⟩ := cut_seg h3 a3 b3
    obtain ⟨c4, d4, e4⟩ := cut_seg d2 (show s.2.1 ≤ j + n1.length by omega) e2
    obtain ⟨c5, d5, e5⟩ := cut_seg d3 (show s.2.2 ≤ k + n2.length by omega) e3
    have hlen : ∀ q : Bool, (oB q b).length = oN q := fun q => by cases q <;> rfl
    by_cases hk : (k1 && k2) = true
    · obtain ⟨rfl, rfl⟩ := Bool.and_eq_true_iff.mp hk
      have ih := GL_LW (B := B) (X := X) (Y := Y) (f1 := f1) (f2 := f2) its (i + 1) (j + n1.length + 1) (k + n2.length + 1) (i + 1, j + n1.length + 1, k + n2.length + 1) d1 d4 d5 (Nat.le_refl _) (Nat.le_refl _) (Nat.le_refl _) e1 e4 e5
      have hc : ∀ (L : List Str) i, cut L i i = [] := fun L i => by
        unfold cut
        rw [Nat.sub_self, List.take_zero]
      simp only [hc] at ih
      show ((dec (cut B s.1 i) (cut X s.2.1 (j + n1.length)) (cut Y s.2.2 (k + n2.length))).1 ++ ((B.drop i).take 1 ++ (GL B X Y (i + 1, j + n1.length + 1, k + n2.length + 1) (ms its (i + 1) (j + n1.length + 1) (k + n2.length + 1) ++ [(B.length, X.length, Y.length)])).1), (dec (cut B s.1 i) (cut X s.2.1 (j + n1.length)) (cut Y s.2.2 (k + n2.length))).2 + (GL B X Y (i + 1, j + n1.length + 1, k + n2.length + 1) (ms its (i + 1) (j + n1.length + 1) (k + n2.length + 1) ++ [(B.length, X.length, Y.length)])).2) = _
      rw [ih, c2, c3, h1]
      rfl
    · have ih := GL_LW (B := B) (X := X) (Y := Y) (f1 := f1) (f2 := f2) its (i + 1) (j + n1.length + oN k1) (k + n2.length + oN k2) s d1 (by rw [← hlen k1 ]; exact d4) (by rw [← hlen k2]; exact d5) (by omega) (by omega) (by omega) e1 (by rw [← hlen k1]; exact e4) (by rw [← hlen k2]; exact e5)
      rw [hlen] at c4 c5
      show GL B X Y s ((if (k1 && k2) = true then _ else ms its (i + 1) (j + n1.length + oN k1) (k + n2.length + oN k2)) ++ [(B.length, X.length, Y.length)]) = if (k1 && k2) = true then _ else LW f1 f2 its (cut B s.1 i ++ [b]) (cut X s.2.1 j ++ n1 ++ oB k1 b) (cut Y s.2.2 k ++ n2 ++ oB k2 b)
      rw [if_neg hk, if_neg hk, ih, c4, c5, c2, c3]
      congr 1
/-- the merge of sides that are built of kept and fresh lines -/
theorem mrg_unl (P : Str → Prop) {its : List It2} {f1 f2 : List Str} (nd : (its.map (·.1)).Nodup) (hP : ∀ it ∈ its, P it.1) (hF : ∀ it ∈ its, (∀ y ∈ it.2.1.2, ¬ P y) ∧ ∀ y ∈ it.2.2.2, ¬ P y) (h1 : ∀ y ∈ f1, ¬ P y) (h2 : ∀ y ∈ f2, ¬ P y) :
    (mrgL (tch (its.map (·.1)) (sd (its.map s1) f1) (sd (its.map s2) f2)), mrgN (tch (its.map (·.1)) (sd (its.map s1) f1) (sd (its.map s2) f2))) = LW f1 f2 its [] [] [] := by
  have e1 : its.map (·.1) = (its.map s1).map (·.1) := by rw [List.map_map]; rfl
  have e2 : its.map (·.1) = (its.map s2).map (·.1) := by rw [List.map_map]; rfl
  have m1 : mt (its.map (·.1)) (sd (its.map s1) f1) 0 0 = mp (its.map s1) 0 0 := by
    have := mt_unl P h1 (its.map s1) [] 0 0 (by rw [← e1]; exact nd) (fun it h => by obtain ⟨z, hz, rfl⟩ := List.mem_map.mp h; exact hP z hz) (fun it h => by obtain ⟨z, hz, rfl⟩ := List.mem_map.mp h; exact (hF z hz).1) (fun y hy => by cases hy)
    rw [← e1] at this
    exact this
  have m2 : mt (its.map (·.1)) (sd (its.map s2) f2) 0 0 = mp (its.map s2) 0 0 := by
    have := mt_unl P h2 (its.map s2) [] 0 0 (by rw [← e2]; exact nd) (fun it h => by obtain ⟨z, hz, rfl⟩ := List.mem_map.mp h; exact hP z hz) (fun it h => by obtain ⟨z, hz, rfl⟩ := List.mem_map.mp h; exact (hF z hz).2) (fun y hy => by cases hy)
    rw [← e2] at this
    exact this
  have hg := GL_LW (B := its.map (·.1)) (X := sd (its.map s1) f1) (Y := sd (its.map s2) f2) (f1 := f1) (f2 := f2) its 0 0 0 (0, 0, 0) rfl rfl rfl (Nat.le_refl _) (Nat.le_refl _) (Nat.le_refl _) (Nat.zero_le _) (Nat.zero_le _) (Nat.zero_le _)
  have hc := chL_GL (its.map (·.1)) (sd (its.map s1) f1) (sd (its.map s2) f2) (ms its 0 0 0) (0, 0, 0) [] ((its.map (·.1)).length, (sd (its.map s1) f1).length, (sd (its.map s2) f2).length) rfl
  rw [tch_eq, m1, m2, stab_mp, hc.1, hc.2, hg]
  rfl
end UL

end K10

namespace K10
open PySem PySem.Spec PyProof.Rows L2 Qk
local macro_rules | `(tactic| walk_at "m") => `(tactic| ((repeat (first | exact List.Mem.head _ | apply List.Mem.tail)); done))
local macro_rules | `(tactic| walk_at "h") => `(tactic| first | assumption | exact Has.gF (by assumption) (by assumption) | exact Has.get (by assumption) (by walk_at "m"))
local macro_rules | `(tactic| walk_at "c") => `(tactic| ((repeat (first | exact Chg.hd | apply Chg.tl)); done))
local macro_rules | `(tactic| walk_at "is") => `(tactic| first
  | ((with_reducible refine' is2_non ?gh ?_); (case gh => walk_at "h"))
  | (with_reducible refine is_int_list ?_)
  | (with_reducible refine is_int_tuple ?_)
  | (with_reducible refine is_int_dict ?_)
  | (with_reducible refine is_int_int ?_)
  | (with_reducible refine is_int_bool ?_)
  | (with_reducible refine is_int_str ?_)
  | ((with_reducible refine' is2_int ?gh ?_); (case gh => walk_at "h"))
  | (with_reducible refine is_str_list ?_)
  | (with_reducible refine is_str_tuple ?_)
  | (with_reducible refine is_str_dict ?_)
  | (with_reducible refine is_str_int ?_)
  | (with_reducible refine is_str_bool ?_)
  | (with_reducible refine is_str_str ?_)
  | ((with_reducible refine' is2_str ?gh ?_); (case gh => walk_at "h"))
  | (with_reducible refine is_bool_list ?_)
  | (with_reducible refine is_bool_tuple ?_)
  | (with_reducible refine is_bool_dict ?_)
  | (with_reducible refine is_bool_int ?_)
  | (with_reducible refine is_bool_bool ?_)
  | (with_reducible refine is_bool_str ?_)
  | ((with_reducible refine' is2_bool ?gh ?_); (case gh => walk_at "h"))
  | ((with_reducible refine' is_list_list ?gh ?_); (case gh => walk_at "h"))
  | ((with_reducible refine' is_list_tuple ?gh ?_); (case gh => walk_at "h"))
  | ((with_reducible refine' is_list_dict ?gh ?_); (case gh => walk_at "h"))
  | ((with_reducible refine' is_list_int ?gh ?_); (case gh => walk_at "h"))
  | ((with_reducible refine' is_list_bool ?gh ?_); (case gh => walk_at "h"))
  | ((with_reducible refine' is_list_str ?gh ?_); (case gh => walk_at "h"))
  | ((with_reducible refine' is2_list ?ga ?gb ?_); (case ga => walk_at "h"); (case gb => walk_at "h"))
  | ((with_reducible refine' is_tuple_list ?gh ?_); (case gh => walk_at "h"))
  | ((with_reducible refine' is_tuple_tuple ?gh ?_); (case gh => walk_at "h"))
  | ((with_reducible refine' is_tuple_dict ?gh ?_); (case gh => walk_at "h"))
  | ((with_reducible refine' is_tuple_int ?gh ?_); (case gh => walk_at "h"))
  | ((with_reducible refine' is_tuple_bool ?gh ?_); (case gh => walk_at "h"))
  | ((with_reducible refine' is_tuple_str ?gh ?_); (case gh => walk_at "h"))
  | ((with_reducible refine' is2_tuple ?ga ?gb ?_); (case ga => walk_at "h"); (case gb => walk_at "h"))
  | ((with_reducible refine' is_dict_list ?gh ?_); (case gh => walk_at "h"))
  | ((with_reducible refine' is_dict_tuple ?gh ?_); (case gh => walk_at "h"))
  | ((with_reducible refine' is_dict_dict ?gh ?_); (case gh => walk_at "h"))
  | ((with_reducible refine' is_dict_int ?gh ?_); (case gh => walk_at "h"))
  | ((with_reducible refine' is_dict_bool ?gh ?_); (case gh => walk_at "h"))
  | ((with_reducible refine' is_dict_str ?gh ?_); (case gh => walk_at "h"))
  | ((with_reducible refine' is2_dict ?ga ?gb ?_); (case ga => walk_at "h"); (case gb => walk_at "h")))
local macro_rules | `(tactic| walk_at "g") => `(tactic| first
  | (with_reducible refine g_seq ?_)
  | (with_reducible refine g_asg ?_)
  | ((with_reducible refine g_name ?_); dsimp only [List.set, wipe, List.map])
  | ((with_reducible refine' g_var ?gv ?_); (case gv => exact rfl))
  | (with_reducible refine g_c ?_)
  | (with_reducible refine g_op ?_)
  | (with_reducible refine g_cons ?_)
  | (with_reducible refine g_nil ?_)
  | (with_reducible refine g_cb ?_)
  | (with_reducible refine g_call ?_)
  | (with_reducible refine g_tup ?_)
  | (with_reducible refine g_lst ?_)
  | (with_reducible refine g_bm ?_)
  | (with_reducible refine g_bm0 ?_)
  | ((with_reducible refine' g_kbm ?gh ?_); (case gh => walk_at "h"))
  | (with_reducible refine g_drop ?_)
  | (with_reducible refine g_ret ?_)
  | (with_reducible refine g_retN ?_)
  | (with_reducible refine g_next ?_)
  | (with_reducible refine g_brk ?_)
  | (with_reducible refine g_cont ?_)
  | (with_reducible refine g_if ?_)
  | ((with_reducible refine' g_aug ?gv ?_); (case gv => exact rfl))
  | (with_reducible refine g_ipI ?_)
  | (with_reducible refine g_test ?_)
  | (with_reducible refine g_tB ?_)
  | (with_reducible refine g_kB ?_)
  | (with_reducible refine g_not ?_)
  | (with_reducible refine g_and ?_)
  | (with_reducible refine g_or ?_)
  | (with_reducible refine g_andV ?_)
  | (with_reducible refine g_orV ?_)
  | (with_reducible refine g_notV ?_)
  | (with_reducible refine g_ifE ?_)
  | (with_reducible refine g_addI ?_)
  | (with_reducible refine g_rI0 ?_)
  | (with_reducible refine g_eqI ?_)
  | (with_reducible refine g_eqS ?_)
  | (with_reducible refine g_neI ?_)
  | (with_reducible refine g_neS ?_)
  | (with_reducible refine g_isN ?_)
  | (with_reducible refine g_notN ?_)
  | (with_reducible refine g_int ?_)
  | (with_reducible refine g_max2 ?_)
  | (with_reducible refine g_min2 ?_)
  | ((with_reducible refine' g_lenL ?gh ?_); (case gh => walk_at "h"))
  | (with_reducible refine g_sub ?_)
  | (with_reducible refine g_gcons ?_)
  | (with_reducible refine g_gnil ?_)
  | (with_reducible refine g_un ?_)
  | (with_reducible refine g_rU ?_)
  | (with_reducible refine g_forL ?_)
  | (with_reducible refine g_forS ?_)
  | (with_reducible refine g_forR1 ?_)
  | (with_reducible refine g_forR2 ?_)
  | (with_reducible refine g_forR3 ?_)
  | (with_reducible refine g_lcL ?_)
  | (with_reducible refine g_lcR1 ?_)
  | (with_reducible refine g_lcR2 ?_)
  | (with_reducible refine g_slice ?_)
  | (with_reducible refine g_part ?_)
  | (with_reducible refine g_kOI ?_)
  | (with_reducible refine g_nopart ?_)
  | (with_reducible refine g_yes ?_)
  | ((with_reducible refine' g_wipe ?gv ?_); (case gv => exact rfl))
  | (with_reducible refine iteT ?_)
  | (with_reducible refine iteF ?_)
  | (with_reducible refine i_nf ?_)
  | (with_reducible refine i_nt ?_)
  | ((with_reducible refine' g_gtup ?gh ?gl ?_); (case gh => walk_at "h"); (case gl => exact rfl))
  | ((with_reducible refine' g_notinI ?gh ?_); (case gh => walk_at "h"))
  | ((with_reducible refine' g_inI ?gh ?_); (case gh => walk_at "h"))
  | ((with_reducible refine' g_kget2 ?gh ?_); (case gh => walk_at "h"))
  | ((with_reducible refine' g_kgotI ?gh ?_); (case gh => walk_at "h"))
  | (with_reducible refine g_tRev ?_)
  | (with_reducible refine g_neB ?_)
  | (with_reducible refine g_eqB ?_)
  | ((with_reducible refine' g_lenT ?gh ?_); (case gh => walk_at "h"))
  | (with_reducible refine g_star ?_)
  | ((with_reducible refine' g_kstarL ?gh ?_); (case gh => walk_at "h"))
  | ((with_reducible refine' g_kstarT ?gh ?_); (case gh => walk_at "h"))
  | (with_reducible refine g_tru ?_)
  | ((with_reducible refine' g_truL ?gh ?_); (case gh => walk_at "h"))
  | (with_reducible refine g_get2 ?_)
  | (with_reducible refine g_try ?_)
  | (with_reducible refine g_fld ?_)
  | (with_reducible refine g_sfld ?_)
  | (with_reducible refine g_meth ?_)
  | (with_reducible refine g_make ?_)
  | (with_reducible refine g_del ?_)
  | (with_reducible refine g_callS ?_)
  | (with_reducible refine g_raise ?_)
  | (with_reducible refine g_xf ?_)
  | (with_reducible refine g_m0 ?_)
  | (with_reducible refine g_km0 ?_)
  | walk_at "is")
local macro_rules | `(tactic| walk_at "gg") => `(tactic| repeat walk_at "g")
local macro_rules | `(tactic| walk_at "sz") => `(tactic| (refine sz ?_; simp only [List.length_cons, List.length_nil, List.length_map, List.length_append, List.length_replicate]; omega))
local macro_rules | `(tactic| walk_at "sub") => `(tactic| ((repeat (first | exact List.Sublist.slnil | with_reducible apply List.Sublist.cons_cons | with_reducible apply List.Sublist.cons)); done))

/-! ### _clash_lines, merge_texts -/
section
variable {P : Program} {w : World} {K : PySem.W.Frag} {mg : Str → Option Value} {base : Heap}
def sp_clash_lines (K : PySem.W.Frag) : Sp := fun vs H Q _ => ∃ (tb tx ty : Addr) (b x y : List Str), vs = [.ref tb, .ref tx, .ref ty] ∧ H tb = some (.tup (b.map V.str)) ∧ H tx = some (.tup (x.map V.str)) ∧ H ty = some (.tup (y.map V.str)) ∧ b.length ≤ 1000 ∧ x.length ≤ 1000 ∧ y.length ≤ 1000 ∧
  ∀ p H', Same H H' → H p = none → H' p = some (.lst ((clash b x y).map V.str)) → Q (.ref p) H'
theorem sp_clash_lines_len {vs H Q E} (h : sp_clash_lines K vs H Q E) : vs.length = 3 := by
  obtain ⟨_, _, _, _, _, _, rfl, _⟩ := h
  rfl
theorem ok_clash_lines (T : Txt K mg) : FnOk P w K mg base CX0 1 T.f_clash_lines T.fd_clash_lines ["b", "x", "y"] (sp_clash_lines K) := by
  refine T.F_clash_lines.ok sc_clash_lines (fun vs H Q E h => sp_clash_lines_len h) (fun cdv A outer s H vs Q E hr h => ?_)
  refine ⟨_, (pss_one (ps_ret (pe_lst (pa_cons (pe_gc (v := .str "<<<<<<<") (by rfl) T.k_CLASH_START) (k_star K (StX.pa_star (pv 1) (pa_cons (pe_gc (v := .str "|||||||") (by rfl) T.k_CLASH_BASE) (k_star K (StX.pa_star (pv 0) (pa_cons (pe_gc (v := .str "=======") (by rfl) T.k_CLASH_OTHER) (k_star K (StX.pa_star (pv 2) (pa_cons (pe_gc (v := .str ">>>>>>>") (by rfl) T.k_CLASH_END) pa_nil))))))))))))), ?_⟩
  obtain ⟨tb, tx, ty, b, x, y, rfl, hb, hx, hy, lb, lx, ly, q⟩ := h
  have hH := Has.start H
  refine g_start (σ' := [some (.ref tb), some (.ref tx), some (.ref ty)]) rfl ?_
  walk_at "gg"
  have e : (V.str "<<<<<<<" :: (x.map V.str ++ (V.str "|||||||" :: (b.map V.str ++ (V.str "=======" :: (y.map V.str ++ [V.str ">>>>>>>"])))))) = (clash b x y).map V.str := by
    unfold clash
    simp only [List.map_cons, List.map_append, List.map_nil]
  refine g_klst (by walk_at "sz") hH (fun p H1 n1 h1 => ?_)
  exact q p H1 h1.same n1 (by rw [← e]; exact h1.get (List.Mem.head _))
def sp_merge_texts (K : PySem.W.Frag) : Sp := fun vs H Q _ => ∃ (a b c : Addr) (B X Y : List Str), vs = [.ref a, .ref b, .ref c] ∧ H a = some (.lst (B.map V.str)) ∧ H b = some (.lst (X.map V.str)) ∧ H c = some (.lst (Y.map V.str)) ∧ B.length ≤ 40 ∧ X.length ≤ 40 ∧ Y.length ≤ 40 ∧ okL B ∧ okL X ∧ okL Y ∧
  ∀ p l H', Same H H' → H p = none → H l = none → p ≠ l → H' p = some (.tup [.ref l, .int (mrgN (tch B X Y) : Nat)]) → H' l = some (.lst ((mrgL (tch B X Y)).map V.str)) → Q (.ref p) H'
theorem sp_merge_texts_len {vs H Q E} (h : sp_merge_texts K vs H Q E) : vs.length = 3 := by
  obtain ⟨_, _, _, _, _, _, rfl, _⟩ := h
  rfl
theorem ok_merge_texts (T : Txt K mg) : FnOk P w K mg base CX0 6 T.f_merge_texts T.fd_merge_texts ["base", "ours", "theirs"] (sp_merge_texts K) := by
  refine T.F_merge_texts.ok sc_merge_texts (fun vs H Q E h => sp_merge_texts_len h) (fun cdv A outer s H vs Q E hr h => ?_)
  refine ⟨_, (pss_cons (ps_set (i := 3) sc_merge_texts.nd rfl (.inl rfl) (pe_lst pa_nil))
      (pss_cons (ps_set (i := 4) sc_merge_texts.nd rfl (.inl rfl) pe_int)
      (pss_cons (ps_for PassesOwn.never rfl (k_il K (pi_list (pe_call (ok_text_chunks T) (hr.mono (by decide)) (by rfl) T.g_text_chunks T.F_text_chunks.kp T.b_text_chunks .nil pass0 (pa_cons (pv 0) (pa_cons (pv 1) (pa_cons (pv 2) pa_nil)))))) (k_gt K (pg_tup (by rfl) (pgs_cons (pg_name (i := 5) sc_merge_texts.nd rfl (.inl rfl)) (pgs_cons (pg_name (i := 6) sc_merge_texts.nd rfl (.inl rfl)) (pgs_cons (pg_name (i := 7) sc_merge_texts.nd rfl (.inl rfl)) (pgs_cons (pg_name (i := 8) sc_merge_texts.nd rfl (.inl rfl)) pgs_nil)))))) (pss_one (ps_if (pt_cmpR (op_eqK K hr.units) (pv 7) (pv 8) (nomark _)) (pss_one (ps_expr (k_bm K (pe_bm PySem.F.plainAttrs_list PySem.F.slot_list_extend PySem.F.type_list_extend (mt_extendA K) (pv 3) (pa_cons (pv 7) pa_nil))))) (pss_one (ps_if (pt_cmpR (op_eqK K hr.units) (pv 8) (pv 6) (nomark _)) (pss_one (ps_expr (k_bm K (pe_bm PySem.F.plainAttrs_list PySem.F.slot_list_extend PySem.F.type_list_extend (mt_extendA K) (pv 3) (pa_cons (pv 7) pa_nil))))) (pss_one (ps_if (pt_cmpR (op_eqK K hr.units) (pv 7) (pv 6) (nomark _)) (pss_one (ps_expr (k_bm K (pe_bm PySem.F.plainAttrs_list PySem.F.slot_list_extend PySem.F.type_list_extend (mt_extendA K) (pv 3) (pa_cons (pv 8) pa_nil))))) (pss_cons (ps_expr (k_bm K (pe_bm PySem.F.plainAttrs_list PySem.F.slot_list_extend PySem.F.type_list_extend (mt_extendA K) (pv 3) (pa_cons (pe_call (ok_clash_lines T) (hr.mono (by decide)) (by rfl) T.g_clash_lines T.F_clash_lines.kp T.b_clash_lines .nil pass0 (pa_cons (pv 6) (pa_cons (pv 7) (pa_cons (pv 8) pa_nil)))) pa_nil))))
      (pss_one (ps_aug (i := 4) sc_merge_texts.nd rfl (.inl rfl) pe_int ip_add))))))))))
      (pss_one (ps_ret (pe_tup (pa_cons (pv 3) (pa_cons (pv 4) pa_nil)))))))), ?_⟩
  obtain ⟨a, b, c, B, X, Y, rfl, ha, hb, hc, lB, lX, lY, okB, okX, okY, q⟩ := h
  have hH := Has.start H
  refine g_start (σ' := [some (.ref a), some (.ref b), some (.ref c), none, none, none, none, none, none]) rfl ?_
  walk_at "gg"
  refine g_klst (by walk_at "sz") hH (fun ln H1 n1 h1 => ?_)
  walk_at "gg"
  refine ⟨a, b, c, B, X, Y, rfl, by walk_at "h", by walk_at "h", by walk_at "h", by omega, by omega, by omega, fun p2 H2 v2 s2 n2 hp2 dq2 => ?_⟩
  have hle := tch_le (k := 40) B X Y lB lX lY
  have hok := tch_ok okB okX okY
  generalize tch B X Y = cs at *
  have hvl : v2.length = cs.length := by rw [dq2.len, List.length_map]
  have h2 := h1.on s2
  have hpp : ln ≠ p2 := fun z => by
    subst z
    rw [h1.get (List.Mem.head _)] at n2
    cases n2
  have dq2 : DqAll (rmO [(ln, HO.lst [])] H2) v2 (cs.map chD) := by
    refine h2.keep (fun p hp xs z => ?_) chs_noL dq2
    rw [List.mem_singleton.mp hp] at z; cases z
  have hp2 : rmO [(ln, HO.lst [])] H2 p2 = some (.lst v2) := by
    unfold rmO
    rw [if_neg (by simpa using fun z => hpp z.symm)]
    exact hp2
  have sF0 := h2.reF
  have h2 := h2.re
  generalize rmO [(ln, HO.lst [])] H2 = F0 at h2 dq2 hp2 sF0
  have hlen : ∀ t, (mrgL (cs.take t)).length ≤ 82 * 124 := fun t => by
    refine Nat.le_trans (mrgL_len (k := 40) fun c hc => hle.1 c (List.mem_of_mem_take hc)) ?_
    refine Nat.mul_le_mul_right _ ?_
    rw [List.length_take]
    omega
  refine k_forL (by walk_at "h") (fun t σ H' => ∃ (F : Hp) (y1 y2 y3 y4 : Option V), σ = [some (.ref a), some (.ref b), some (.ref c), some (.ref ln), some (.int (mrgN (cs.take t) : Nat)), y1, y2, y3, y4] ∧ Same F0 F ∧ Has F [(ln, .lst ((mrgL (cs.take t)).map V.str))] H') ⟨F0, _, _, _, _, rfl, Same.refl _, h2⟩ ?_ ?_ ?_
  · rintro t σ H3 _ ⟨F, _, _, _, _, _, sF, h3⟩
    exact h3.same _ _ (sF _ _ hp2)
  · rintro t x σ H3 hx ⟨F, y1, y2, y3, y4, rfl, sF, h3⟩
    obtain ⟨d, hd, dx⟩ := dq2.get hx
    rw [List.getElem?_map] at hd
    obtain ⟨m, hm, rfl⟩ := Option.map_eq_some_iff.mp hd
    obtain ⟨T, tb, tx, ty, rfl, hT, eb, ex, ey⟩ := chD_at (dx.up sF _ _)
    obtain ⟨ob, ox, oy⟩ := hok m (List.mem_of_getElem? hm)
    have hml := hle.1 m (List.mem_of_getElem? hm)
    have lmb : (chB m).length ≤ 40 ∧ (chX m).length ≤ 40 ∧ (chY m).length ≤ 40 := by
      cases m with
      | same ls => exact ⟨hml, hml, hml⟩
      | part b x y => exact hml
    have eL := mrgL_take hm
    have eN := mrgN_take hm
    have hln := hlen t
    unfold decC dec at eL eN
    walk_at "gg"
    refine g_eqD (dq_tS (h3.same _ _ ex)) (dq_tS (h3.same _ _ ey)) ((sh_tS (n := 0) ox).ok (by decide)) ((sh_tS (n := 0) oy).ok (by decide)) ?_
    rw [eqv_tS]
    walk_at "gg"
    refine i_d (fun e1 => ?_) (fun e1 => ?_)
    · rw [if_pos e1] at eL eN
      walk_at "gg"
      refine g_extT h3 (by walk_at "h") (by walk_at "c") (sz (by rw [List.length_map, List.length_map]; omega)) (fun H4 h4 => ?_)
      refine ⟨F, _, _, _, _, by rw [eN]; rfl, sF, ?_⟩
      rw [eL, List.map_append]
      exact h4
    rw [if_neg e1] at eL eN
    walk_at "gg"
    refine g_eqD (dq_tS (h3.same _ _ ey)) (dq_tS (h3.same _ _ eb)) ((sh_tS (n := 0) oy).ok (by decide)) ((sh_tS (n := 0) ob).ok (by decide)) ?_
    rw [eqv_tS]
    walk_at "gg"
    refine i_d (fun e2 => ?_) (fun e2 => ?_)
    · rw [if_pos e2] at eL eN
      walk_at "gg"
      refine g_extT h3 (by walk_at "h") (by walk_at "c") (sz (by rw [List.length_map, List.length_map]; omega)) (fun H4 h4 => ?_)
      refine ⟨F, _, _, _, _, by rw [eN]; rfl, sF, ?_⟩
      rw [eL, List.map_append]
      exact h4
    rw [if_neg e2] at eL eN
    walk_at "gg"
    refine g_eqD (dq_tS (h3.same _ _ ex)) (dq_tS (h3.same _ _ eb)) ((sh_tS (n := 0) ox).ok (by decide)) ((sh_tS (n := 0) ob).ok (by decide)) ?_
    rw [eqv_tS]
    walk_at "gg"
    refine i_d (fun e3 => ?_) (fun e3 => ?_)
    · rw [if_pos e3] at eL eN
      walk_at "gg"
      refine g_extT h3 (by walk_at "h") (by walk_at "c") (sz (by rw [List.length_map, List.length_map]; omega)) (fun H4 h4 => ?_)
      refine ⟨F, _, _, _, _, by rw [eN]; rfl, sF, ?_⟩
      rw [eL, List.map_append]
      exact h4
    rw [if_neg e3] at eL eN
    walk_at "gg"
    refine ⟨tb, tx, ty, chB m, chX m, chY m, rfl, h3.same _ _ eb, h3.same _ _ ex, h3.same _ _ ey, by omega, by omega, by omega, fun p4 H4 s4 n4 hp4 => ?_⟩
    have h4 := h3.on s4
    have hcl : (clash (chB m) (chX m) (chY m)).length ≤ 124 := by
      unfold clash
      simp only [List.length_cons, List.length_append, List.length_nil]
      omega
    walk_at "gg"
    refine g_extL h4 hp4 (by walk_at "c") (sz (by rw [List.length_map, List.length_map]; omega)) (fun H5 h5 => ?_)
    walk_at "gg"
    refine ⟨F, _, _, _, _, by rw [eN]; rfl, sF, ?_⟩
    rw [eL, List.map_append]
    exact h5
  · rintro σ H3 ⟨F, y1, y2, y3, y4, rfl, sF, h3⟩
    rw [hvl, List.take_length] at h3
    rw [hvl, List.take_length]
    walk_at "gg"
    refine g_ktup (by walk_at "sz") h3 (fun p5 H5 n5 h5 => ?_)
    have sA := sF0.trans (sF.trans h5.same)
    refine q p5 ln H5 sA ((sF0.trans (sF.trans h3.same)).free n5) n1 (fun z => ?_) (h5.get (List.Mem.head _)) (h5.get (by walk_at "m"))
    rw [z, h3.get (List.Mem.head _)] at n5
    cases n5
end

end K10

namespace K10
open PySem PySem.Spec PyProof.Rows L2 Qk
local macro_rules | `(tactic| walk_at "m") => `(tactic| ((repeat (first | exact List.Mem.head _ | apply List.Mem.tail)); done))
local macro_rules | `(tactic| walk_at "h") => `(tactic| first | assumption | exact Has.gF (by assumption) (by assumption) | exact Has.get (by assumption) (by walk_at "m"))
local macro_rules | `(tactic| walk_at "c") => `(tactic| ((repeat (first | exact Chg.hd | apply Chg.tl)); done))
local macro_rules | `(tactic| walk_at "is") => `(tactic| first
  | ((with_reducible refine' is2_non ?gh ?_); (case gh => walk_at "h"))
  | (with_reducible refine is_int_list ?_)
  | (with_reducible refine is_int_tuple ?_)
  | (with_reducible refine is_int_dict ?_)
  | (with_reducible refine is_int_int ?_)
  | (with_reducible refine is_int_bool ?_)
  | (with_reducible refine is_int_str ?_)
  | ((with_reducible refine' is2_int ?gh ?_); (case gh => walk_at "h"))
  | (with_reducible refine is_str_list ?_)
  | (with_reducible refine is_str_tuple ?_)
  | (with_reducible refine is_str_dict ?_)
  | (with_reducible refine is_str_int ?_)
  | (with_reducible refine is_str_bool ?_)
  | (with_reducible refine is_str_str ?_)
  | ((with_reducible refine' is2_str ?gh ?_); (case gh => walk_at "h"))
  | (with_reducible refine is_bool_list ?_)
  | (with_reducible refine is_bool_tuple ?_)
  | (with_reducible refine is_bool_dict ?_)
  | (with_reducible refine is_bool_int ?_)
  | (with_reducible refine is_bool_bool ?_)
  | (with_reducible refine is_bool_str ?_)
  | ((with_reducible refine' is2_bool ?gh ?_); (case gh => walk_at "h"))
  | ((with_reducible refine' is_list_list ?gh ?_); (case gh => walk_at "h"))
  | ((with_reducible refine' is_list_tuple ?gh ?_); (case gh => walk_at "h"))
  | ((with_reducible refine' is_list_dict ?gh ?_); (case gh => walk_at "h"))
  | ((with_reducible refine' is_list_int ?gh ?_); (case gh => walk_at "h"))
  | ((with_reducible refine' is_list_bool ?gh ?_); (case gh => walk_at "h"))
  | ((with_reducible refine' is_list_str ?gh ?_); (case gh => walk_at "h"))
  | ((with_reducible refine' is2_list ?ga ?gb ?_); (case ga => walk_at "h"); (case gb => walk_at "h"))
  | ((with_reducible refine' is_tuple_list ?gh ?_); (case gh => walk_at "h"))
  | ((with_reducible refine' is_tuple_tuple ?gh ?_); (case gh => walk_at "h"))
  | ((with_reducible refine' is_tuple_dict ?gh ?_); (case gh => walk_at "h"))
  | ((with_reducible refine' is_tuple_int ?gh ?_); (case gh => walk_at "h"))
  | ((with_reducible refine' is_tuple_bool ?gh ?_); (case gh => walk_at "h"))
  | ((with_reducible refine' is_tuple_str ?gh ?_); (case gh => walk_at "h"))
  | ((with_reducible refine' is2_tuple ?ga ?gb ?_); (case ga => walk_at "h"); (case gb => walk_at "h"))
  | ((with_reducible refine' is_dict_list ?gh ?_); (case gh => walk_at "h"))
  | ((with_reducible refine' is_dict_tuple ?gh ?_); (case gh => walk_at "h"))
  | ((with_reducible refine' is_dict_dict ?gh ?_); (case gh => walk_at "h"))
  | ((with_reducible refine' is_dict_int ?gh ?_); (case gh => walk_at "h"))
  | ((with_reducible refine' is_dict_bool ?gh ?_); (case gh => walk_at "h"))
  | ((with_reducible refine' is_dict_str ?gh ?_); (case gh => walk_at "h"))
  | ((with_reducible refine' is2_dict ?ga ?gb ?_); (case ga => walk_at "h"); (case gb => walk_at "h")))
local macro_rules | `(tactic| walk_at "g") => `(tactic| first
  | (with_reducible refine g_seq ?_)
  | (with_reducible refine g_asg ?_)
  | ((with_reducible refine g_name ?_); dsimp only [List.set, wipe, List.map])
  | ((with_reducible refine' g_var ?gv ?_); (case gv => exact rfl))
  | (with_reducible refine g_c ?_)
  | (with_reducible refine g_op ?_)
  | (with_reducible refine g_cons ?_)
  | (with_reducible refine g_nil ?_)
  | (with_reducible refine g_cb ?_)
  | (with_reducible refine g_call ?_)
  | (with_reducible refine g_tup ?_)
  | (with_reducible refine g_lst ?_)
  | (with_reducible refine g_bm ?_)
  | (with_reducible refine g_bm0 ?_)
  | ((with_reducible refine' g_kbm ?gh ?_); (case gh => walk_at "h"))
  | (with_reducible refine g_drop ?_)
  | (with_reducible refine g_ret ?_)
  | (with_reducible refine g_retN ?_)
  | (with_reducible refine g_next ?_)
  | (with_reducible refine g_brk ?_)
  | (with_reducible refine g_cont ?_)
  | (with_reducible refine g_if ?_)
  | ((with_reducible refine' g_aug ?gv ?_); (case gv => exact rfl))
  | (with_reducible refine g_ipI ?_)
  | (with_reducible refine g_test ?_)
  | (with_reducible refine g_tB ?_)
  | (with_reducible refine g_kB ?_)
  | (with_reducible refine g_not ?_)
  | (with_reducible refine g_and ?_)
  | (with_reducible refine g_or ?_)
  | (with_reducible refine g_andV ?_)
  | (with_reducible refine g_orV ?_)
  | (with_reducible refine g_notV ?_)
  | (with_reducible refine g_ifE ?_)
  | (with_reducible refine g_addI ?_)
  | (with_reducible refine g_rI0 ?_)
  | (with_reducible refine g_eqI ?_)
  | (with_reducible refine g_eqS ?_)
  | (with_reducible refine g_neI ?_)
  | (with_reducible refine g_neS ?_)
  | (with_reducible refine g_isN ?_)
  | (with_reducible refine g_notN ?_)
  | (with_reducible refine g_int ?_)
  | (with_reducible refine g_max2 ?_)
  | (with_reducible refine g_min2 ?_)
  | ((with_reducible refine' g_lenL ?gh ?_); (case gh => walk_at "h"))
  | (with_reducible refine g_sub ?_)
  | (with_reducible refine g_gcons ?_)
  | (with_reducible refine g_gnil ?_)
  | (with_reducible refine g_un ?_)
  | (with_reducible refine g_rU ?_)
  | (with_reducible refine g_forL ?_)
  | (with_reducible refine g_forS ?_)
  | (with_reducible refine g_forR1 ?_)
  | (with_reducible refine g_forR2 ?_)
  | (with_reducible refine g_forR3 ?_)
  | (with_reducible refine g_lcL ?_)
  | (with_reducible refine g_lcR1 ?_)
  | (with_reducible refine g_lcR2 ?_)
  | (with_reducible refine g_slice ?_)
  | (with_reducible refine g_part ?_)
  | (with_reducible refine g_kOI ?_)
  | (with_reducible refine g_nopart ?_)
  | (with_reducible refine g_yes ?_)
  | ((with_reducible refine' g_wipe ?gv ?_); (case gv => exact rfl))
  | (with_reducible refine iteT ?_)
  | (with_reducible refine iteF ?_)
  | (with_reducible refine i_nf ?_)
  | (with_reducible refine i_nt ?_)
  | ((with_reducible refine' g_gtup ?gh ?gl ?_); (case gh => walk_at "h"); (case gl => exact rfl))
  | ((with_reducible refine' g_notinI ?gh ?_); (case gh => walk_at "h"))
  | ((with_reducible refine' g_inI ?gh ?_); (case gh => walk_at "h"))
  | ((with_reducible refine' g_kget2 ?gh ?_); (case gh => walk_at "h"))
  | ((with_reducible refine' g_kgotI ?gh ?_); (case gh => walk_at "h"))
  | (with_reducible refine g_tRev ?_)
  | (with_reducible refine g_neB ?_)
  | (with_reducible refine g_eqB ?_)
  | ((with_reducible refine' g_lenT ?gh ?_); (case gh => walk_at "h"))
  | (with_reducible refine g_star ?_)
  | ((with_reducible refine' g_kstarL ?gh ?_); (case gh => walk_at "h"))
  | ((with_reducible refine' g_kstarT ?gh ?_); (case gh => walk_at "h"))
  | (with_reducible refine g_tru ?_)
  | ((with_reducible refine' g_truL ?gh ?_); (case gh => walk_at "h"))
  | (with_reducible refine g_get2 ?_)
  | (with_reducible refine g_try ?_)
  | (with_reducible refine g_fld ?_)
  | (with_reducible refine g_sfld ?_)
  | (with_reducible refine g_meth ?_)
  | (with_reducible refine g_make ?_)
  | (with_reducible refine g_del ?_)
  | (with_reducible refine g_callS ?_)
  | (with_reducible refine g_raise ?_)
  | (with_reducible refine g_xf ?_)
  | (with_reducible refine g_m0 ?_)
  | (with_reducible refine g_km0 ?_)
  | walk_at "is")
local macro_rules | `(tactic| walk_at "gg") => `(tactic| repeat walk_at "g")
local macro_rules | `(tactic| walk_at "sz") => `(tactic| (refine sz ?_; simp only [List.length_cons, List.length_nil, List.length_map, List.length_append, List.length_replicate]; omega))
local macro_rules | `(tactic| walk_at "sub") => `(tactic| ((repeat (first | exact List.Sublist.slnil | with_reducible apply List.Sublist.cons_cons | with_reducible apply List.Sublist.cons)); done))

/-! ### texts and trees merged: what is due -/
theorem dec_few (b x y : List Str) : (dec b x y).1.length ≤ 3 * (b.length + x.length + y.length) := by
  unfold dec
  by_cases e1 : x = y
  · rw [if_pos e1]
    show x.length ≤ _
    omega
  rw [if_neg e1]
  by_cases e2 : y = b
  · rw [if_pos e2]
    show x.length ≤ _
    omega
  rw [if_neg e2]
  by_cases e3 : x = b
  · rw [if_pos e3]
    show y.length ≤ _
    omega
  rw [if_neg e3]
  have two : 2 ≤ b.length + x.length + y.length := by
    refine Decidable.byContradiction fun c => ?_
    have z : ∀ l : List Str, l.length = 0 → l = [] := fun l h => List.length_eq_zero_iff.mp h
    by_cases h1 : x.length = 0
    · by_cases h2 : y.length = 0
      · exact e1 (by rw [z x h1, z y h2])
      · exact e3 (by rw [z x h1, z b (by omega)])
    · exact e2 (by rw [z y (by omega), z b (by omega)])
  show (clash b x y).length ≤ _
  unfold clash
  simp only [List.length_cons, List.length_append, List.length_nil]
  omega
theorem side_ch (c : Ch) : side 1 c = chB c ∧ side 2 c = chX c ∧ side 3 c = chY c := by cases c <;> exact ⟨rfl, rfl, rfl⟩
theorem mrgL_few : ∀ cs : List Ch, (mrgL cs).length ≤ 3 * ((joined 1 cs).length + (joined 2 cs).length + (joined 3 cs).length)
  | [] => Nat.zero_le _
  | c :: cs => by
    have ih := mrgL_few cs
    have h := dec_few (chB c) (chX c) (chY c)
    obtain ⟨e1, e2, e3⟩ := side_ch c
    unfold mrgL joined at *
    rw [List.flatMap_cons, List.flatMap_cons, List.flatMap_cons, List.flatMap_cons, List.length_append, List.length_append, List.length_append, List.length_append, e1, e2, e3]
    have h : (decC c).1.length ≤ 3 * ((chB c).length + (chX c).length + (chY c).length) := h
    omega
theorem mrg_few (B X Y : List Str) : (mrgL (tch B X Y)).length ≤ 3 * (B.length + X.length + Y.length) := by
  have := mrgL_few (tch B X Y)
  rw [tch_joined, tch_joined, tch_joined] at this
  exact this
/-- the text merged at one path, and its number of clashes -/
def mp (b x y : Option Tx) : Option Tx × Option Nat := if x = y then (x, none) else if y = b then (x, none) else if x = b then (y, none) else match x, y with
  | none, _ => (y, some 0)
  | some _, none => (x, some 0)
  | some X, some Y => (some (mrgL (tch (b.getD []) X Y)), if mrgN (tch (b.getD []) X Y) = 0 then none else some (mrgN (tch (b.getD []) X Y)))
def nV : Option Nat → V
  | none => .non
  | some n => .int (n : Int)
def clD (c : Str × Nat) : PyData := .tuple [.str c.1, .int (c.2 : Int)]
def MT (A X Y : Tre) (z : Str) : Option Tx × Option Nat := mp (getT A z) (getT X z) (getT Y z)
theorem MT_none {A X Y : Tre} {z : Str} (h : ∀ C ∈ [A, X, Y], z ∉ C.map (·.1)) : MT A X Y z = (none, none) := by
  unfold MT
  rw [getT_none.mpr (h A (by simp)), getT_none.mpr (h X (by simp)), getT_none.mpr (h Y (by simp))]
  unfold mp
  rw [if_pos rfl]
theorem nd_le : ∀ {xs ys : List Str}, xs.Nodup → (∀ z ∈ xs, z ∈ ys) → xs.length ≤ ys.length
  | [], _, _, _ => Nat.zero_le _
  | x :: xs, ys, n, h => by
    have n' := List.nodup_cons.mp n
    have hx := h x List.mem_cons_self
    have := nd_le (xs := xs) (ys := ys.erase x) n'.2 fun z hz => (List.mem_erase_of_ne (fun e => n'.1 (by rw [← e]; exact hz))).mpr (h z (List.mem_cons_of_mem _ hz))
    rw [List.length_erase_of_mem hx] at this
    have := List.length_pos_of_mem hx
    rw [List.length_cons]
    omega
/-- lists of pairs with ascending first parts -/
theorem asc_ext {α : Type} {A B : List (Str × α)} (ha : Asc (A.map (·.1))) (hb : Asc (B.map (·.1))) (h : ∀ z t, (z, t) ∈ A ↔ (z, t) ∈ B) : A = B := by
  have hk : ∀ z, z ∈ A.map (·.1) ↔ z ∈ B.map (·.1) := fun z => by
    rw [List.mem_map, List.mem_map]
    constructor
    · rintro ⟨p, hp, rfl⟩
      exact ⟨p, (h p.1 p.2).mp hp, rfl⟩
    · rintro ⟨p, hp, rfl⟩
      exact ⟨p, (h p.1 p.2).mpr hp, rfl⟩
  have ek := Asc.ext ha hb hk
  refine List.ext_getElem? fun i => ?_
  cases ea : A[i]? with
  | none =>
    have l : A.length = B.length := by
      have := congrArg List.length ek
      rw [List.length_map, List.length_map] at this
      exact this
    rw [List.getElem?_eq_none_iff] at ea
    rw [List.getElem?_eq_none (by omega)]
  | some p =>
    have ek' : (A.map (·.1))[i]? = (B.map (·.1))[i]? := by rw [ek]
    rw [List.getElem?_map, List.getElem?_map, ea] at ek'
    obtain ⟨r, er, e2⟩ := Option.map_eq_some_iff.mp ek'.symm
    have m2 := (h p.1 p.2).mp (List.mem_of_getElem? ea)
    obtain ⟨j, hj⟩ := List.mem_iff_getElem?.mp m2
    have ij : j = i := nd_inj hb.nodup (z := p.1) (by rw [List.getElem?_map, hj]; rfl) (by rw [List.getElem?_map, er]; exact congrArg some e2)
    rw [ij, er] at hj
    rw [er]
    exact hj.symm
/-- what merged trees are -/
structure Mgd (A X Y C : Tre) (cl : List (Str × Nat)) : Prop where
  asc : AscT C
  tx : ∀ z t, (z, t) ∈ C ↔ (MT A X Y z).1 = some t
  casc : Asc (cl.map (·.1))
  cn : ∀ z n, (z, n) ∈ cl ↔ (MT A X Y z).2 = some n
theorem Mgd.uniq {A X Y C C' : Tre} {cl cl' : List (Str × Nat)} (h : Mgd A X Y C cl) (k : Mgd A X Y C' cl') : C = C' ∧ cl = cl' :=
  ⟨asc_ext h.asc k.asc fun z t => (h.tx z t).trans (k.tx z t).symm, asc_ext h.casc k.casc fun z n => (h.cn z n).trans (k.cn z n).symm⟩
/-- a merge due, as it stands -/
def DueAt (H : Hp) (u : Addr) (C : Tre) (cl : List (Str × Nat)) : Prop := ∃ (d l : Addr) (cv : List V), H u = some (.tup [.ref d, .ref l]) ∧ TrAt H d C ∧ H l = some (.lst cv) ∧ DqAll H cv (cl.map clD)
theorem DueAt.up {H H' : Hp} {u : Addr} {C : Tre} {cl : List (Str × Nat)} (h : DueAt H u C cl) (s : Same H H') : DueAt H' u C cl := by
  obtain ⟨d, l, cv, e, t, f, q⟩ := h
  exact ⟨d, l, cv, s _ _ e, t.up s, s _ _ f, q.up s _ _⟩
theorem cl_at {H : Hp} {v : V} {c : Str × Nat} (h : Dq H v (clD c)) : ∃ p, v = .ref p ∧ H p = some (.tup [.str c.1, .int (c.2 : Int)]) := by
  unfold clD at h
  cases h with
  | tup s d =>
    cases d with
    | cons d1 d =>
      cases d with
      | cons d2 d =>
        cases d
        cases d1
        cases d2
        exact ⟨_, rfl, s⟩
theorem DueAt.sm {H : Hp} {u v : Addr} {C : Tre} {cl : List (Str × Nat)} (h : DueAt H u C cl) (k : DueAt H v C cl) (lC : C.length ≤ 1000) (lt : ∀ p ∈ C, p.2.length ≤ 1000) (lc : cl.length ≤ 1000) : Sm H 6 (.ref u) (.ref v) := by
  obtain ⟨d, l, cv, e, t, f, q⟩ := h
  obtain ⟨d', l', cv', e', t', f', q'⟩ := k
  refine .inr (.inr (.inr (.inl ⟨u, v, _, _, rfl, rfl, .inr ⟨e, e'⟩, rfl, by show 2 ≤ _; decide, fun i x y hx hy => ?_⟩)))
  match i, hx, hy with
  | 0, hx, hy =>
    have hx := Option.some.inj hx
    have hy := Option.some.inj hy
    subst hx
    subst hy
    exact Sm.tree (n := 2) t t' lC lt
  | 1, hx, hy =>
    have hx := Option.some.inj hx
    have hy := Option.some.inj hy
    subst hx
    subst hy
    have l1 := q.len
    have l2 := q'.len
    refine .inr (.inr (.inr (.inl ⟨l, l', cv, cv', rfl, rfl, .inl ⟨f, f'⟩, by rw [l1, l2], by rw [l1, List.length_map]; omega, fun j x y hx hy => ?_⟩)))
    obtain ⟨c1, ec1, d1⟩ := q.get hx
    obtain ⟨c2, ec2, d2⟩ := q'.get hy
    have ec : c1 = c2 := Option.some.inj (ec1.symm.trans ec2)
    subst ec
    rw [List.getElem?_map] at ec1
    obtain ⟨c, _, rfl⟩ := Option.map_eq_some_iff.mp ec1
    obtain ⟨p1, rfl, e1⟩ := cl_at d1
    obtain ⟨p2, rfl, e2⟩ := cl_at d2
    refine .inr (.inr (.inr (.inl ⟨p1, p2, _, _, rfl, rfl, .inr ⟨e1, e2⟩, rfl, by show 2 ≤ _; decide, fun i x y hx hy => ?_⟩)))
    match i, hx, hy with
    | 0, hx, hy =>
      have hx := Option.some.inj hx
      have hy := Option.some.inj hy
      subst hx
      subst hy
      exact .inr (.inr (.inl ⟨_, rfl, rfl⟩))
    | 1, hx, hy =>
      have hx := Option.some.inj hx
      have hy := Option.some.inj hy
      subst hx
      subst hy
      exact .inr (.inl ⟨_, rfl, rfl⟩)
    | i + 2, hx, _ => simp at hx
  | i + 2, hx, _ => simp at hx
theorem Fr.up {H H1 H2 : Hp} {v : V} {o : Option Tx} (f : Fr H H1 v o) (s : Same H1 H2) : Fr H H2 v o := by
  rcases f with h | ⟨p, t, e1, e2, n, e3⟩
  · exact .inl h
  · exact .inr ⟨p, t, e1, e2, n, s _ _ e3⟩
theorem Fr.dn {H0 H H1 : Hp} {v : V} {o : Option Tx} (f : Fr H H1 v o) (s : Same H0 H) : Fr H0 H1 v o := by
  rcases f with h | ⟨p, t, e1, e2, n, e3⟩
  · exact .inl h
  · exact .inr ⟨p, t, e1, e2, s.free n, e3⟩

end K10

namespace K10
open PySem PySem.Spec PyProof.Rows L2 Qk
local macro_rules | `(tactic| walk_at "m") => `(tactic| ((repeat (first | exact List.Mem.head _ | apply List.Mem.tail)); done))
local macro_rules | `(tactic| walk_at "h") => `(tactic| first | assumption | exact Has.gF (by assumption) (by assumption) | exact Has.get (by assumption) (by walk_at "m"))
local macro_rules | `(tactic| walk_at "c") => `(tactic| ((repeat (first | exact Chg.hd | apply Chg.tl)); done))
local macro_rules | `(tactic| walk_at "is") => `(tactic| first
  | ((with_reducible refine' is2_non ?gh ?_); (case gh => walk_at "h"))
  | (with_reducible refine is_int_list ?_)
  | (with_reducible refine is_int_tuple ?_)
  | (with_reducible refine is_int_dict ?_)
  | (with_reducible refine is_int_int ?_)
  | (with_reducible refine is_int_bool ?_)
  | (with_reducible refine is_int_str ?_)
  | ((with_reducible refine' is2_int ?gh ?_); (case gh => walk_at "h"))
  | (with_reducible refine is_str_list ?_)
  | (with_reducible refine is_str_tuple ?_)
  | (with_reducible refine is_str_dict ?_)
  | (with_reducible refine is_str_int ?_)
  | (with_reducible refine is_str_bool ?_)
  | (with_reducible refine is_str_str ?_)
  | ((with_reducible refine' is2_str ?gh ?_); (case gh => walk_at "h"))
  | (with_reducible refine is_bool_list ?_)
  | (with_reducible refine is_bool_tuple ?_)
  | (with_reducible refine is_bool_dict ?_)
  | (with_reducible refine is_bool_int ?_)
  | (with_reducible refine is_bool_bool ?_)
  | (with_reducible refine is_bool_str ?_)
  | ((with_reducible refine' is2_bool ?gh ?_); (case gh => walk_at "h"))
  | ((with_reducible refine' is_list_list ?gh ?_); (case gh => walk_at "h"))
  | ((with_reducible refine' is_list_tuple ?gh ?_); (case gh => walk_at "h"))
  | ((with_reducible refine' is_list_dict ?gh ?_); (case gh => walk_at "h"))
  | ((with_reducible refine' is_list_int ?gh ?_); (case gh => walk_at "h"))
  | ((with_reducible refine' is_list_bool ?gh ?_); (case gh => walk_at "h"))
  | ((with_reducible refine' is_list_str ?gh ?_); (case gh => walk_at "h"))
  | ((with_reducible refine' is2_list ?ga ?gb ?_); (case ga => walk_at "h"); (case gb => walk_at "h"))
  | ((with_reducible refine' is_tuple_list ?gh ?_); (case gh => walk_at "h"))
  | ((with_reducible refine' is_tuple_tuple ?gh ?_); (case gh => walk_at "h"))
  | ((with_reducible refine' is_tuple_dict ?gh ?_); (case gh => walk_at "h"))
  | ((with_reducible refine' is_tuple_int ?gh ?_); (case gh => walk_at "h"))
  | ((with_reducible refine' is_tuple_bool ?gh ?_); (case gh => walk_at "h"))
  | ((with_reducible refine' is_tuple_str ?gh ?_); (case gh => walk_at "h"))
  | ((with_reducible refine' is2_tuple ?ga ?gb ?_); (case ga => walk_at "h"); (case gb => walk_at "h"))
  | ((with_reducible refine' is_dict_list ?gh ?_); (case gh => walk_at "h"))
  | ((with_reducible refine' is_dict_tuple ?gh ?_); (case gh => walk_at "h"))
  | ((with_reducible refine' is_dict_dict ?gh ?_); (case gh => walk_at "h"))
  | ((with_reducible refine' is_dict_int ?gh ?_); (case gh => walk_at "h"))
  | ((with_reducible refine' is_dict_bool ?gh ?_); (case gh => walk_at "h"))
  | ((with_reducible refine' is_dict_str ?gh ?_); (case gh => walk_at "h"))
  | ((with_reducible refine' is2_dict ?ga ?gb ?_); (case ga => walk_at "h"); (case gb => walk_at "h")))
local macro_rules | `(tactic| walk_at "g") => `(tactic| first
  | (with_reducible refine g_seq ?_)
  | (with_reducible refine g_asg ?_)
  | ((with_reducible refine g_name ?_); dsimp only [List.set, wipe, List.map])
  | ((with_reducible refine' g_var ?gv ?_); (case gv => exact rfl))
  | (with_reducible refine g_c ?_)
  | (with_reducible refine g_op ?_)
  | (with_reducible refine g_cons ?_)
  | (with_reducible refine g_nil ?_)
  | (with_reducible refine g_cb ?_)
  | (with_reducible refine g_call ?_)
  | (with_reducible refine g_tup ?_)
  | (with_reducible refine g_lst ?_)
  | (with_reducible refine g_bm ?_)
  | (with_reducible refine g_bm0 ?_)
  | ((with_reducible refine' g_kbm ?gh ?_); (case gh => walk_at "h"))
  | (with_reducible refine g_drop ?_)
  | (with_reducible refine g_ret ?_)
  | (with_reducible refine g_retN ?_)
  | (with_reducible refine g_next ?_)
  | (with_reducible refine g_brk ?_)
  | (with_reducible refine g_cont ?_)
  | (with_reducible refine g_if ?_)
  | ((with_reducible refine' g_aug ?gv ?_); (case gv => exact rfl))
  | (with_reducible refine g_ipI ?_)
  | (with_reducible refine g_test ?_)
  | (with_reducible refine g_tB ?_)
  | (with_reducible refine g_kB ?_)
  | (with_reducible refine g_not ?_)
  | (with_reducible refine g_and ?_)
  | (with_reducible refine g_or ?_)
  | (with_reducible refine g_andV ?_)
  | (with_reducible refine g_orV ?_)
  | (with_reducible refine g_notV ?_)
  | (with_reducible refine g_ifE ?_)
  | (with_reducible refine g_addI ?_)
  | (with_reducible refine g_rI0 ?_)
  | (with_reducible refine g_eqI ?_)
  | (with_reducible refine g_eqS ?_)
  | (with_reducible refine g_neI ?_)
  | (with_reducible refine g_neS ?_)
  | (with_reducible refine g_isN ?_)
  | (with_reducible refine g_notN ?_)
  | (with_reducible refine g_int ?_)
  | (with_reducible refine g_max2 ?_)
  | (with_reducible refine g_min2 ?_)
  | ((with_reducible refine' g_lenL ?gh ?_); (case gh => walk_at "h"))
  | (with_reducible refine g_sub ?_)
  | (with_reducible refine g_gcons ?_)
  | (with_reducible refine g_gnil ?_)
  | (with_reducible refine g_un ?_)
  | (with_reducible refine g_rU ?_)
  | (with_reducible refine g_forL ?_)
  | (with_reducible refine g_forS ?_)
  | (with_reducible refine g_forR1 ?_)
  | (with_reducible refine g_forR2 ?_)
  | (with_reducible refine g_forR3 ?_)
  | (with_reducible refine g_lcL ?_)
  | (with_reducible refine g_lcR1 ?_)
  | (with_reducible refine g_lcR2 ?_)
  | (with_reducible refine g_slice ?_)
  | (with_reducible refine g_part ?_)
  | (with_reducible refine g_kOI ?_)
  | (with_reducible refine g_nopart ?_)
  | (with_reducible refine g_yes ?_)
  | ((with_reducible refine' g_wipe ?gv ?_); (case gv => exact rfl))
  | (with_reducible refine iteT ?_)
  | (with_reducible refine iteF ?_)
  | (with_reducible refine i_nf ?_)
  | (with_reducible refine i_nt ?_)
  | ((with_reducible refine' g_gtup ?gh ?gl ?_); (case gh => walk_at "h"); (case gl => exact rfl))
  | ((with_reducible refine' g_notinI ?gh ?_); (case gh => walk_at "h"))
  | ((with_reducible refine' g_inI ?gh ?_); (case gh => walk_at "h"))
  | ((with_reducible refine' g_kget2 ?gh ?_); (case gh => walk_at "h"))
  | ((with_reducible refine' g_kgotI ?gh ?_); (case gh => walk_at "h"))
  | (with_reducible refine g_tRev ?_)
  | (with_reducible refine g_neB ?_)
  | (with_reducible refine g_eqB ?_)
  | ((with_reducible refine' g_lenT ?gh ?_); (case gh => walk_at "h"))
  | (with_reducible refine g_star ?_)
  | ((with_reducible refine' g_kstarL ?gh ?_); (case gh => walk_at "h"))
  | ((with_reducible refine' g_kstarT ?gh ?_); (case gh => walk_at "h"))
  | (with_reducible refine g_tru ?_)
  | ((with_reducible refine' g_truL ?gh ?_); (case gh => walk_at "h"))
  | (with_reducible refine g_get2 ?_)
  | (with_reducible refine g_try ?_)
  | (with_reducible refine g_fld ?_)
  | (with_reducible refine g_sfld ?_)
  | (with_reducible refine g_meth ?_)
  | (with_reducible refine g_make ?_)
  | (with_reducible refine g_del ?_)
  | (with_reducible refine g_callS ?_)
  | (with_reducible refine g_raise ?_)
  | (with_reducible refine g_xf ?_)
  | (with_reducible refine g_m0 ?_)
  | (with_reducible refine g_km0 ?_)
  | walk_at "is")
local macro_rules | `(tactic| walk_at "gg") => `(tactic| repeat walk_at "g")
local macro_rules | `(tactic| walk_at "sz") => `(tactic| (refine sz ?_; simp only [List.length_cons, List.length_nil, List.length_map, List.length_append, List.length_replicate]; omega))
local macro_rules | `(tactic| walk_at "sub") => `(tactic| ((repeat (first | exact List.Sublist.slnil | with_reducible apply List.Sublist.cons_cons | with_reducible apply List.Sublist.cons)); done))

local macro_rules | `(tactic| walk_at "g") => `(tactic| first
  | ((with_reducible refine' g_lenNL ?gh ?_); (case gh => walk_at "h"))
  | ((with_reducible refine' g_lenND ?gh ?_); (case gh => walk_at "h"))
  | ((with_reducible refine' g_lenNT ?gh ?_); (case gh => walk_at "h"))
  | (with_reducible refine g_ltI ?_)
  | (with_reducible refine g_ltS ?_)
  | (with_reducible refine g_lstRg ?_)
  | (with_reducible refine g_forK ?_))

/-! ### trees merged by the program -/
section
variable {P : Program} {w : World} {K : PySem.W.Frag} {mg : Str → Option Value} {base : Heap}
theorem g_eqX {K : PySem.W.Frag} {H : Hp} {Q : VK} {x y : V} {a b : Option Tx} (hx : Dq H x (oxD a)) (hy : Dq H y (oxD b)) (oa : okO a) (ob : okO b) (q : Q (.bl (decide (a = b))) H) : rEqA K x y H Q := by
  refine g_eqD hx hy ((sh_oxD oa).ok (by decide)) ((sh_oxD ob).ok (by decide)) ?_
  rw [eqv_oxD]
  exact q
def sp_copied (K : PySem.W.Frag) : Sp := fun vs H Q _ => ∃ (v : V) (o : Option Tx), vs = [v] ∧ Dq H v (oxD o) ∧ ∀ v' H', Same H H' → Fr H H' v' o → Q v' H'
theorem sp_copied_len {vs H Q E} (h : sp_copied K vs H Q E) : vs.length = 1 := by
  obtain ⟨_, _, rfl, _⟩ := h
  rfl
theorem ok_copied (T : Txt K mg) : FnOk P w K mg base CX0 1 T.f_copied T.fd_copied ["text"] (sp_copied K) := by
  refine T.F_copied.ok sc_copied (fun vs H Q E h => sp_copied_len h) (fun cdv A outer s H vs Q E hr h => ?_)
  refine ⟨_, (pss_cons (ps_if (pt_cmpR op_isNA (pv 0) pe_non (nomark _)) (pss_one (ps_ret pe_non)) pss_nil)
      (pss_one (ps_ret (pe_callTy (cr_listK K) (by rfl) T.m_list (by decide +kernel) (pa_cons (pv 0) pa_nil))))), ?_⟩
  obtain ⟨v, o, rfl, dv, q⟩ := h
  have hH := Has.start H
  refine g_start (σ' := [some (v)]) rfl ?_
  walk_at "gg"
  cases o with
  | none =>
    have e := dv.non_inv
    subst e
    refine i_d (fun _ => ?_) (fun c => (c rfl).elim)
    walk_at "gg"
    exact q .non H (Same.refl _) (.inl ⟨rfl, rfl⟩)
  | some t =>
    obtain ⟨a, rfl, ha⟩ := Dq.of_strs (xs := t) dv
    refine i_d (fun c => by cases c) (fun _ => ?_)
    walk_at "gg"
    refine g_listL ha hH (fun p H1 n1 h1 => ?_)
    exact q (.ref p) H1 h1.same (.inr ⟨p, t, rfl, rfl, n1, h1.get (List.Mem.head _)⟩)
def sp_base_lines (K : PySem.W.Frag) : Sp := fun vs H Q _ => ∃ (v : V) (o : Option Tx), vs = [v] ∧ Dq H v (oxD o) ∧ ∀ l H', Same H H' → H' l = some (.lst ((o.getD []).map V.str)) → Q (.ref l) H'
theorem sp_base_lines_len {vs H Q E} (h : sp_base_lines K vs H Q E) : vs.length = 1 := by
  obtain ⟨_, _, rfl, _⟩ := h
  rfl
theorem ok_base_lines (T : Txt K mg) : FnOk P w K mg base CX0 1 T.f_base_lines T.fd_base_lines ["base"] (sp_base_lines K) := by
  refine T.F_base_lines.ok sc_base_lines (fun vs H Q E h => sp_base_lines_len h) (fun cdv A outer s H vs Q E hr h => ?_)
  refine ⟨_, (pss_cons (ps_if (pt_cmpR op_isNA (pv 0) pe_non (nomark _)) (pss_one (ps_ret (pe_lst pa_nil))) pss_nil)
      (pss_one (ps_ret (pv 0)))), ?_⟩
  obtain ⟨v, o, rfl, dv, q⟩ := h
  have hH := Has.start H
  refine g_start (σ' := [some (v)]) rfl ?_
  walk_at "gg"
  cases o with
  | none =>
    have e := dv.non_inv
    subst e
    refine i_d (fun _ => ?_) (fun c => (c rfl).elim)
    walk_at "gg"
    refine g_klst (by walk_at "sz") hH (fun p H1 n1 h1 => ?_)
    exact q p H1 h1.same (h1.get (List.Mem.head _))
  | some t =>
    obtain ⟨a, rfl, ha⟩ := Dq.of_strs (xs := t) dv
    refine i_d (fun c => by cases c) (fun _ => ?_)
    walk_at "gg"
    exact q a H (Same.refl _) ha
def sp_merged_path (K : PySem.W.Frag) : Sp := fun vs H Q _ => ∃ (bv xv yv : V) (b x y : Option Tx), vs = [bv, xv, yv] ∧ Dq H bv (oxD b) ∧ Dq H xv (oxD x) ∧ Dq H yv (oxD y) ∧ okO b ∧ okO x ∧ okO y ∧ (∀ t, b = some t ∨ x = some t ∨ y = some t → t.length ≤ 40) ∧
  ∀ p v H', Same H H' → H p = none → H' p = some (.tup [v, nV (mp b x y).2]) → Fr H H' v (mp b x y).1 → Q (.ref p) H'
theorem sp_merged_path_len {vs H Q E} (h : sp_merged_path K vs H Q E) : vs.length = 3 := by
  obtain ⟨_, _, _, _, _, _, rfl, _⟩ := h
  rfl
set_option maxHeartbeats 1000000 in
theorem ok_merged_path (T : Txt K mg) : FnOk P w K mg base CX0 7 T.f_merged_path T.fd_merged_path ["base", "ours", "theirs"] (sp_merged_path K) := by
  refine T.F_merged_path.ok sc_merged_path (fun vs H Q E h => sp_merged_path_len h) (fun cdv A outer s H vs Q E hr h => ?_)
  refine ⟨_, (pss_cons (ps_if (pt_cmpR (op_eqK K hr.units) (pv 1) (pv 2) (nomark _)) (pss_one (ps_ret (pe_tup (pa_cons (pe_call (ok_copied T) (hr.mono (by decide)) (by rfl) T.g_copied T.F_copied.kp T.b_copied .nil pass0 (pa_cons (pv 1) pa_nil)) (pa_cons pe_non pa_nil))))) pss_nil)
      (pss_cons (ps_if (pt_cmpR (op_eqK K hr.units) (pv 2) (pv 0) (nomark _)) (pss_one (ps_ret (pe_tup (pa_cons (pe_call (ok_copied T) (hr.mono (by decide)) (by rfl) T.g_copied T.F_copied.kp T.b_copied .nil pass0 (pa_cons (pv 1) pa_nil)) (pa_cons pe_non pa_nil))))) pss_nil)
      (pss_cons (ps_if (pt_cmpR (op_eqK K hr.units) (pv 1) (pv 0) (nomark _)) (pss_one (ps_ret (pe_tup (pa_cons (pe_call (ok_copied T) (hr.mono (by decide)) (by rfl) T.g_copied T.F_copied.kp T.b_copied .nil pass0 (pa_cons (pv 2) pa_nil)) (pa_cons pe_non pa_nil))))) pss_nil)
      (pss_cons (ps_if (pt_cmpR op_isNA (pv 1) pe_non (nomark _)) (pss_one (ps_ret (pe_tup (pa_cons (pe_call (ok_copied T) (hr.mono (by decide)) (by rfl) T.g_copied T.F_copied.kp T.b_copied .nil pass0 (pa_cons (pv 2) pa_nil)) (pa_cons pe_int pa_nil))))) pss_nil)
      (pss_cons (ps_if (pt_cmpR op_isNA (pv 2) pe_non (nomark _)) (pss_one (ps_ret (pe_tup (pa_cons (pe_call (ok_copied T) (hr.mono (by decide)) (by rfl) T.g_copied T.F_copied.kp T.b_copied .nil pass0 (pa_cons (pv 1) pa_nil)) (pa_cons pe_int pa_nil))))) pss_nil)
      (pss_cons (ps_asg (pe_call (ok_merge_texts T) (hr.mono (by decide)) (by rfl) T.g_merge_texts T.F_merge_texts.kp T.b_merge_texts .nil pass0 (pa_cons (pe_call (ok_base_lines T) (hr.mono (by decide)) (by rfl) T.g_base_lines T.F_base_lines.kp T.b_base_lines .nil pass0 (pa_cons (pv 0) pa_nil)) (pa_cons (pv 1) (pa_cons (pv 2) pa_nil)))) (k_gt K (pg_tup (by rfl) (pgs_cons (pg_name (i := 3) sc_merged_path.nd rfl (.inl rfl)) (pgs_cons (pg_name (i := 4) sc_merged_path.nd rfl (.inl rfl)) pgs_nil)))))
      (pss_cons (ps_if (pt_cmpR (op_eqK K hr.units) (pv 4) pe_int (nomark _)) (pss_one (ps_ret (pe_tup (pa_cons (pv 3) (pa_cons pe_non pa_nil))))) pss_nil)
      (pss_one (ps_ret (pe_tup (pa_cons (pv 3) (pa_cons (pv 4) pa_nil)))))))))))), ?_⟩
  obtain ⟨bv, xv, yv, b, x, y, rfl, db, dx, dy, ob, ox, oy, few, q⟩ := h
  have hH := Has.start H
  refine g_start (σ' := [some (bv), some (xv), some (yv), none, none]) rfl ?_
  unfold mp at q
  have fin : ∀ (v : V) (n : Option Nat) (o : Option Tx) (H1 : Hp), Same H H1 → Fr H H1 v o → (∀ p v H', Same H H' → H p = none → H' p = some (.tup [v, nV n]) → Fr H H' v o → Q (.ref p) H') → kTup [v, nV n] H1 Q := fun v n o H1 s1 f1 q => by
    refine g_ktup (by walk_at "sz") (Has.start H1) (fun p H2 n2 h2 => ?_)
    exact q p v H2 (s1.trans h2.same) (s1.free n2) (h2.get (List.Mem.head _)) (Fr.up f1 h2.same)
  walk_at "gg"
  refine g_eqX dx dy ox oy ?_
  walk_at "gg"
  refine i_d (fun e1 => ?_) (fun e1 => ?_)
  · rw [if_pos e1] at q
    walk_at "gg"
    refine ⟨xv, x, rfl, dx, fun v H1 s1 f1 => ?_⟩
    walk_at "gg"
    exact fin v none x H1 s1 f1 q
  rw [if_neg e1] at q
  walk_at "gg"
  refine g_eqX dy db oy ob ?_
  walk_at "gg"
  refine i_d (fun e2 => ?_) (fun e2 => ?_)
  · rw [if_pos e2] at q
    walk_at "gg"
    refine ⟨xv, x, rfl, dx, fun v H1 s1 f1 => ?_⟩
    walk_at "gg"
    exact fin v none x H1 s1 f1 q
  rw [if_neg e2] at q
  walk_at "gg"
  refine g_eqX dx db ox ob ?_
  walk_at "gg"
  refine i_d (fun e3 => ?_) (fun e3 => ?_)
  · rw [if_pos e3] at q
    walk_at "gg"
    refine ⟨yv, y, rfl, dy, fun v H1 s1 f1 => ?_⟩
    walk_at "gg"
    exact fin v none y H1 s1 f1 q
  rw [if_neg e3] at q
  walk_at "gg"
  cases x with
  | none =>
    have e := dx.non_inv
    subst e
    refine i_d (fun _ => ?_) (fun c => (c rfl).elim)
    walk_at "gg"
    refine ⟨yv, y, rfl, dy, fun v H1 s1 f1 => ?_⟩
    walk_at "gg"
    exact fin v (some 0) y H1 s1 f1 q
  | some X =>
    obtain ⟨ax, rfl, hx⟩ := Dq.of_strs (xs := X) dx
    refine i_d (fun c => by cases c) (fun _ => ?_)
    walk_at "gg"
    cases y with
    | none =>
      have e := dy.non_inv
      subst e
      refine i_d (fun _ => ?_) (fun c => (c rfl).elim)
      walk_at "gg"
      refine ⟨.ref ax, some X, rfl, dx, fun v H1 s1 f1 => ?_⟩
      walk_at "gg"
      exact fin v (some 0) (some X) H1 s1 f1 q
    | some Y =>
      obtain ⟨ay, rfl, hy⟩ := Dq.of_strs (xs := Y) dy
      refine i_d (fun c => by cases c) (fun _ => ?_)
      walk_at "gg"
      refine ⟨bv, b, rfl, db, fun l H1 s1 hl => ?_⟩
      have lb : (b.getD []).length ≤ 40 := by
        cases b with
        | none => exact Nat.zero_le _
        | some t => exact few t (.inl rfl)
      have okb : ∀ z ∈ b.getD [], PyData.strOk z = true := by
        cases b with
        | none => intro z hz; cases hz
        | some t => exact ob t rfl
      walk_at "gg"
      refine ⟨l, ax, ay, b.getD [], X, Y, rfl, hl, s1 _ _ hx, s1 _ _ hy, lb, few X (.inr (.inl rfl)), few Y (.inr (.inr rfl)), okb, ox X rfl, oy Y rfl, fun p l2 H2 s2 np nl ne hp hl2 => ?_⟩
      have q : ∀ p v H', Same H H' → H p = none → H' p = some (.tup [v, nV (if mrgN (tch (b.getD []) X Y) = 0 then none else some (mrgN (tch (b.getD []) X Y)))]) → Fr H H' v (some (mrgL (tch (b.getD []) X Y))) → Q (.ref p) H' := q
      generalize mrgN (tch (b.getD []) X Y) = n at q hp
      have f2 : Fr H H2 (.ref l2) (some (mrgL (tch (b.getD []) X Y))) := .inr ⟨l2, _, rfl, rfl, s1.free nl, hl2⟩
      walk_at "gg"
      refine i_d (fun e => ?_) (fun e => ?_)
      · have e : n = 0 := by omega
        rw [if_pos e] at q
        walk_at "gg"
        exact fin (.ref l2) none _ H2 (s1.trans s2) f2 q
      · have e : n ≠ 0 := fun z => e (by rw [z]; rfl)
        rw [if_neg e] at q
        walk_at "gg"
        exact fin (.ref l2) (some n) _ H2 (s1.trans s2) f2 q
/-- trees that a merge may be asked of -/
structure MOk (A X Y : Tre) (zs : List Str) : Prop where
  few : zs.length ≤ 9
  asc : Asc zs
  sub : ∀ C ∈ [A, X, Y], ∀ p ∈ C, p.1 ∈ zs
  ln : ∀ C ∈ [A, X, Y], C.length ≤ 9
  ok : ∀ C ∈ [A, X, Y], okTr C
  lt : ∀ C ∈ [A, X, Y], ∀ p ∈ C, p.2.length ≤ 40
/-- the path at which a merge is too large -/
def outc (f : Str → Option Tx) : List Str → Nat → Option Str
  | [], _ => none
  | z :: zs, n => match f z with
    | none => outc f zs n
    | some t => if 40 < t.length ∨ 8 ≤ n then some z else outc f zs (n + 1)
theorem outc_none {f : Str → Option Tx} {z : Str} {zs : List Str} {n : Nat} (h : f z = none) : outc f (z :: zs) n = outc f zs n := by
  rw [outc, h]
theorem outc_some {f : Str → Option Tx} {z : Str} {zs : List Str} {n : Nat} {t : Tx} (h : f z = some t) : outc f (z :: zs) n = if 40 < t.length ∨ 8 ≤ n then some z else outc f zs (n + 1) := by
  rw [outc, h]
theorem outc_sub {f : Str → Option Tx} {us zs : List Str} (h : us.Sublist zs) (nd : zs.Nodup) (hn : ∀ z, z ∉ us → f z = none) : ∀ n, outc f us n = outc f zs n := by
  suffices H : ∀ (us zs : List Str), us.Sublist zs → zs.Nodup → (∀ z ∈ zs, z ∉ us → f z = none) → ∀ n, outc f us n = outc f zs n from H us zs h nd fun z _ => hn z
  intro us zs h
  induction h with
  | slnil => exact fun _ _ _ => rfl
  | @cons us zs z h ih =>
    intro nd hn n
    have nd := List.nodup_cons.mp nd
    rw [outc_none (hn z List.mem_cons_self fun m => nd.1 (h.subset m))]
    exact ih nd.2 (fun z' hz' => hn z' (List.mem_cons_of_mem _ hz')) n
  | @cons_cons us zs z h ih =>
    intro nd hn n
    have nd := List.nodup_cons.mp nd
    have ih := ih nd.2 fun z' hz' n' => hn z' (List.mem_cons_of_mem _ hz') fun m => by
      rcases List.mem_cons.mp m with rfl | m
      · exact nd.1 hz'
      · exact n' m
    cases e : f z with
    | none => rw [outc_none e, outc_none e, ih]
    | some t => rw [outc_some e, outc_some e, ih]
theorem asc_sublist {us zs : List Str} (a : Asc us) (b : Asc zs) (h : ∀ z ∈ us, z ∈ zs) : us.Sublist zs := by
  have e : us = zs.filter (fun z => decide (z ∈ us)) := Asc.ext a (b.sublist List.filter_sublist) fun z => by
    rw [List.mem_filter, decide_eq_true_eq]
    exact ⟨fun m => ⟨h z m, m⟩, fun m => m.2⟩
  rw [e]
  exact List.filter_sublist
def lost_tl (C : Addr) (H : Hp) (E : XK) (z : Str) : Prop := ∀ e H', Same H H' → H e = none → H' e = some (.xd [("path", .str z)]) → E (.ref C) (some e) H'
def sp_merge_trees (T : Txt K mg) : Sp := fun vs H Q E => ∃ (b x y : Addr) (A X Y : Tre) (zs : List Str), vs = [.ref b, .ref x, .ref y] ∧ TrAt H b A ∧ TrAt H x X ∧ TrAt H y Y ∧ MOk A X Y zs ∧
  (outc (fun z => (MT A X Y z).1) zs 0 = none → ∀ p d l (B : Bt) (cv : List V) (cl : List (Str × Nat)) F' H', Same H F' → H p = none → F' p = some (.tup [.ref d, .ref l]) → Has F' ((l, .lst cv) :: treeO d B) H' → DqAll F' cv (cl.map clD) → Mgd A X Y (bA B) cl → Q (.ref p) H') ∧
  (∀ z, outc (fun z => (MT A X Y z).1) zs 0 = some z → lost_tl T.C_TooLarge H E z)
theorem sp_merge_trees_len {T : Txt K mg} {vs H Q E} (h : sp_merge_trees T vs H Q E) : vs.length = 3 := by
  obtain ⟨_, _, _, _, _, _, _, rfl, _⟩ := h
  rfl
set_option maxHeartbeats 2000000 in
theorem ok_merge_trees (T : Txt K mg) : FnOk P w K mg base (L2N.CX P w) 8 T.f_merge_trees T.fd_merge_trees ["base", "ours", "theirs"] (sp_merge_trees T) := by
  refine Fun.okN T.F_merge_trees sc_merge_trees (fun vs H Q E h => sp_merge_trees_len h) (fun cdv A outer s H vs Q E hr h => ?_)
  refine ⟨_, (pss_cons (k_sc2S P w (ps_setSc2 (i := 3) (own := [("tree", 9), ("path", 6)]) (vs1 := [6]) (g := gName 9) (gb := gName 6) (tt := tYes) (ttb := tYes) rfl sc_merge_trees.nd rfl rfl (sw_trueS rfl rfl rfl (by decide +kernel)) (k_il K (pi_list (pe_lst (pa_cons (pv 0) (pa_cons (pv 1) (pa_cons (pv 2) pa_nil)))))) (blkOk_by (N := n_merge_trees) (sc := defScope s_merge_trees) (by decide +kernel)) (by decide) (fun _ _ _ _ _ => (pg_name (i := 9) sc_merge_trees.nd rfl (.inl rfl))) (fun _ _ _ _ _ => pts_nil) (fun _ _ _ _ _ => (pi_keys (pv 9))) (fun _ _ _ _ _ => (pg_name (i := 6) sc_merge_trees.nd rfl (.inl rfl))) (fun _ _ _ _ _ => pts_nil) (fun _ _ _ _ _ => (pv 6))))
      (pss_cons (ps_set (i := 4) sc_merge_trees.nd rfl (.inl rfl) pe_dnewK)
      (pss_cons (ps_set (i := 5) sc_merge_trees.nd rfl (.inl rfl) (pe_lst pa_nil))
      (pss_cons (ps_for (L2.passes_of rfl) rfl (k_il K (pi_list (pe_callB (cr_sortN K P w rfl (cr_sortA K rfl)) (by rfl) T.m_sorted (by decide +kernel) (pa_cons (pv 3) pa_nil)))) (pg_name (i := 6) sc_merge_trees.nd rfl (.inl rfl)) (pss_cons (ps_asg (pe_call (ok_merged_path T) (hr.mono (by decide)) (by rfl) T.g_merged_path T.F_merged_path.kp T.b_merged_path .nil pass0 (pa_cons (pe_dget1 (hu_of hr) (pv 0) (pv 6) ⟨rfl, rfl, rfl, rfl⟩) (pa_cons (pe_dget1 (hu_of hr) (pv 1) (pv 6) ⟨rfl, rfl, rfl, rfl⟩) (pa_cons (pe_dget1 (hu_of hr) (pv 2) (pv 6) ⟨rfl, rfl, rfl, rfl⟩) pa_nil)))) (k_gt K (pg_tup (by rfl) (pgs_cons (pg_name (i := 7) sc_merge_trees.nd rfl (.inl rfl)) (pgs_cons (pg_name (i := 8) sc_merge_trees.nd rfl (.inl rfl)) pgs_nil)))))
      (pss_cons (ps_if (pt_cmpR op_notNA (pv 7) pe_non (nomark _)) (pss_cons (ps_if (pt_cmpR op_gt (pe_callB (cr_lenN K) (by rfl) T.m_len (by decide +kernel) (pa_cons (pv 7) pa_nil)) (pe_gc (v := .int 40) (by rfl) T.k_MERGED_LINES) (nomark _)) (pss_one (k_raise rfl (L2N.takes_of rfl rfl rfl rfl) (pmk_oexN T.O_TooLarge T.iC_TooLarge T.tI_TooLarge (ok_init_TooLarge T) (hr.mono (by decide)) T.bi_TooLarge pass0 (by rfl) T.g_TooLarge (pa_cons (pv 6) pa_nil)))) pss_nil)
      (pss_cons (ps_if (pt_cmpR op_ge (pe_callB (cr_lenN K) (by rfl) T.m_len (by decide +kernel) (pa_cons (pv 4) pa_nil)) (pe_gc (v := .int 8) (by rfl) T.k_MERGED_PATHS) (nomark _)) (pss_one (k_raise rfl (L2N.takes_of rfl rfl rfl rfl) (pmk_oexN T.O_TooLarge T.iC_TooLarge T.tI_TooLarge (ok_init_TooLarge T) (hr.mono (by decide)) T.bi_TooLarge pass0 (by rfl) T.g_TooLarge (pa_cons (pv 6) pa_nil)))) pss_nil)
      (pss_one (ps_asg (pv 7) (pg_sub (pv 4) (pv 6) (set_any (hu_of hr))))))) pss_nil)
      (pss_one (ps_if (pt_cmpR op_notNA (pv 8) pe_non (nomark _)) (pss_one (ps_expr (k_bm K (pe_bm PySem.F.plainAttrs_list PySem.F.slot_list_append PySem.F.type_list_append mt_append (pv 5) (pa_cons (pe_tup (pa_cons (pv 6) (pa_cons (pv 8) pa_nil))) pa_nil))))) pss_nil)))))
      (pss_one (ps_ret (pe_tup (pa_cons (pv 4) (pa_cons (pv 5) pa_nil))))))))), ?_⟩
  obtain ⟨b, x, y, A, X, Y, ps, rfl, tb, tx, ty, M, q, qe⟩ := h
  have hH := Has.start H
  obtain ⟨kb, hb, ekb, _, dqb⟩ := id tb
  obtain ⟨kx, hx, ekx, _, dqx⟩ := id tx
  obtain ⟨ky, hy, eky, _, dqy⟩ := id ty
  refine g_start (σ' := [some (.ref b), some (.ref x), some (.ref y), none, none, none, none, none, none, none]) rfl ?_
  walk_at "gg"
  refine g_sc2 ?_
  walk_at "gg"
  refine g_klst (by walk_at "sz") hH (fun l0 H1 n1 h1 => ?_)
  have tall : Trs H [b, x, y] [A, X, Y] := .cons tb (.cons tx (.cons ty .nil))
  have e0 : [V.ref b, V.ref x, V.ref y] = [b, x, y].map V.ref := rfl
  rw [e0] at h1
  have sums := tall.sum (m := 9) M.ln
  have sums : sumL (kvOf H) [b, x, y] ≤ 27 := sums
  refine k_keysOf h1 (.inr (List.Mem.head _)) (kvOf H) tall.at_ (by omega) (by exact (by decide : 9 < 10)) (by exact (by decide : 6 < 10)) (by decide) (fun S H2 T n nS hT hn h2 => ?_)
  have h2 := h2.sub (O' := [(S, SetQ P w S T n)]) (List.Sublist.cons_cons _ (List.Sublist.cons _ (List.Sublist.refl _)))
  walk_at "gg"
  refine g_dnewK h2 (fun d H3 n3 h3 => ?_)
  walk_at "gg"
  refine g_klst (by walk_at "sz") h3 (fun lc H3' n3' h3' => ?_)
  walk_at "gg"
  refine g_sortNQ (h3'.get (by walk_at "m")) (by omega) (fun k hk => ?_) h3' (fun us p4 H4 srt nd mu lu n4 h4 => ?_)
  · obtain ⟨z, e, _⟩ := tall.keys.mp ((hT k).mp hk)
    exact ⟨z, e⟩
  have asc := asc_of srt nd
  have mz : ∀ z, z ∈ us ↔ ∃ B ∈ [A, X, Y], z ∈ B.map (·.1) := fun z => by
    rw [mu, hT, tall.keys]
    constructor
    · rintro ⟨z', e, r⟩
      rw [Sum.inr.inj e]
      exact r
    · intro r
      exact ⟨z, rfl, r⟩
  have ups : ∀ z ∈ us, z ∈ ps := fun z hz => by
    obtain ⟨C, hC, m⟩ := (mz z).mp hz
    obtain ⟨p, hp, rfl⟩ := List.mem_map.mp m
    exact M.sub C hC p hp
  have h4 : Has H ((d, .dK (bK [])) :: (bO [] ++ [(lc, .lst []), (p4, .lst (us.map V.str))])) H4 := (h4.sub (O' := [(p4, .lst (us.map V.str)), (lc, .lst []), (d, .dK [])]) (by walk_at "sub")).perm (by
    exact (List.perm_middle (l₁ := [(lc, HO.lst [])]) (a := (p4, HO.lst (us.map V.str))) (l₂ := [])).cons _ |>.trans (List.perm_middle (l₁ := [_, _]) (l₂ := [])).symm)
  have eo : outc (fun z => (MT A X Y z).1) us 0 = outc (fun z => (MT A X Y z).1) ps 0 := outc_sub (asc_sublist asc M.asc ups) M.asc.nodup (fun z n => by
    show (MT A X Y z).1 = none
    rw [MT_none fun C hC m => n ((mz z).mpr ⟨C, hC, m⟩)]) 0
  rw [← eo] at q qe
  walk_at "gg"
  refine k_forL (h4.get (by walk_at "m")) (fun t σ H' => ∃ (F' : Hp) (B : Bt) (cv : List V) (cl : List (Str × Nat)) (y6 y7 y8 : Option V), σ = [some (.ref b), some (.ref x), some (.ref y), some (.ref S), some (.ref d), some (.ref lc), y6, y7, y8, none] ∧ Same H F' ∧ Has F' ((d, .dK (bK B)) :: (bO B ++ [(lc, .lst cv), (p4, .lst (us.map V.str))])) H' ∧ DqAll F' cv (cl.map clD) ∧
    ((bA B).map (·.1)).Sublist (us.take t) ∧ (∀ z s, (z, s) ∈ bA B ↔ z ∈ us.take t ∧ (MT A X Y z).1 = some s) ∧ (cl.map (·.1)).Sublist (us.take t) ∧ (∀ z n, (z, n) ∈ cl ↔ z ∈ us.take t ∧ (MT A X Y z).2 = some n) ∧ outc (fun z => (MT A X Y z).1) us 0 = outc (fun z => (MT A X Y z).1) (us.drop t) B.length) ⟨H, [], [], [], _, _, _, rfl, Same.refl _, h4, .nil, List.Sublist.refl _, fun z s => by simp [bA], List.Sublist.refl _, fun z n => by simp, rfl⟩ ?_ ?_ ?_
  · rintro t σ H' _ ⟨F', B, cv, cl, y6, y7, y8, rfl, sF, h, _⟩
    exact h.get (List.mem_cons_of_mem _ (List.mem_append_right _ (by walk_at "m")))
  · rintro t xx σ H5 hxx ⟨F', B, cv, cl, y6, y7, y8, rfl, sF, h5, dqc, sB, mB, sC, mC, eO⟩
    rw [List.getElem?_map] at hxx
    obtain ⟨z, hz, rfl⟩ := Option.map_eq_some_iff.mp hxx
    have tl := (List.getElem?_eq_some_iff.mp hz).1
    have tk : us.take (t + 1) = us.take t ++ [z] := by rw [List.take_add_one, hz]; rfl
    have nz : z ∉ us.take t := nd_new nd hz
    have lcl : cl.length ≤ t := by
      have := sC.length_le
      rw [List.length_map, List.length_take] at this
      omega
    have lcv := dqc.len
    rw [List.length_map] at lcv
    have luse := nd_le nd ups
    have lps := M.few
    rw [List.drop_eq_getElem_cons (List.getElem?_eq_some_iff.mp hz).1, (List.getElem?_eq_some_iff.mp hz).2] at eO
    have lB : B.length ≤ t := by
      have := sB.length_le
      unfold bA at this
      rw [List.length_map, List.length_map, List.length_take] at this
      omega
    have hbF := sF _ _ hb
    have hxF := sF _ _ hx
    have hyF := sF _ _ hy
    walk_at "gg"
    refine g_get1 ?_
    walk_at "gg"
    refine g_kget1 (h5.same _ _ hbF) ?_
    walk_at "gg"
    refine g_kgotS (h5.same _ _ hbF) ?_
    have dbz := (tr_get z ekb dqb).1
    generalize (valV kb (.inr z)).getD .non = bv at dbz
    walk_at "gg"
    refine g_get1 ?_
    walk_at "gg"
    refine g_kget1 (h5.same _ _ hxF) ?_
    walk_at "gg"
    refine g_kgotS (h5.same _ _ hxF) ?_
    have dxz := (tr_get z ekx dqx).1
    generalize (valV kx (.inr z)).getD .non = xv at dxz
    walk_at "gg"
    refine g_get1 ?_
    walk_at "gg"
    refine g_kget1 (h5.same _ _ hyF) ?_
    walk_at "gg"
    refine g_kgotS (h5.same _ _ hyF) ?_
    have dyz := (tr_get z eky dqy).1
    generalize (valV ky (.inr z)).getD .non = yv at dyz
    walk_at "gg"
    have okg : ∀ C ∈ [A, X, Y], okO (getT C z) ∧ ∀ t, getT C z = some t → t.length ≤ 40 := fun C hC =>
      ⟨getT_in okO_none fun p hp => okO_some (M.ok C hC p hp).2, fun t e => M.lt C hC _ (getT_mem e)⟩
    have s5 := sF.trans h5.same
    refine ⟨bv, xv, yv, getT A z, getT X z, getT Y z, rfl, dbz.up s5 _ _, dxz.up s5 _ _, dyz.up s5 _ _, (okg A (by simp)).1, (okg X (by simp)).1, (okg Y (by simp)).1, fun t e => ?_, fun p v H6 s6 np hp f6 => ?_⟩
    · rcases e with e | e | e
      · exact (okg A (by simp)).2 t e
      · exact (okg X (by simp)).2 t e
      · exact (okg Y (by simp)).2 t e
    have eM : mp (getT A z) (getT X z) (getT Y z) = MT A X Y z := rfl
    rw [eM] at hp f6
    walk_at "gg"
    have tail : ∀ (D : Ends) (H7 : Hp) (B2 : Bt), (∀ σ H', (∃ (F' : Hp) (B : Bt) (cv : List V) (cl : List (Str × Nat)) (y6 y7 y8 : Option V), σ = [some (.ref b), some (.ref x), some (.ref y), some (.ref S), some (.ref d), some (.ref lc), y6, y7, y8, none] ∧ Same H F' ∧ Has F' ((d, .dK (bK B)) :: (bO B ++ [(lc, .lst cv), (p4, .lst (us.map V.str))])) H' ∧ DqAll F' cv (cl.map clD) ∧
        ((bA B).map (·.1)).Sublist (us.take (t + 1)) ∧ (∀ z s, (z, s) ∈ bA B ↔ z ∈ us.take (t + 1) ∧ (MT A X Y z).1 = some s) ∧ (cl.map (·.1)).Sublist (us.take (t + 1)) ∧ (∀ z n, (z, n) ∈ cl ↔ z ∈ us.take (t + 1) ∧ (MT A X Y z).2 = some n) ∧ outc (fun z => (MT A X Y z).1) us 0 = outc (fun z => (MT A X Y z).1) (us.drop (t + 1)) B.length) → D.nx σ H') →
        Has F' ((d, .dK (bK B2)) :: (bO B2 ++ [(lc, .lst cv), (p4, .lst (us.map V.str))])) H7 → ((bA B2).map (·.1)).Sublist (us.take (t + 1)) → (∀ z s, (z, s) ∈ bA B2 ↔ z ∈ us.take (t + 1) ∧ (MT A X Y z).1 = some s) → outc (fun z => (MT A X Y z).1) us 0 = outc (fun z => (MT A X Y z).1) (us.drop (t + 1)) B2.length →
        tIfS (tTest (tOp rNotN (tVar 8) (tC .non))) (tDrop (tBM K "list" rAppend (tVar 5) (tCons (tTup (tCons (tVar 6) (tCons (tVar 8) tNil))) tNil))) tNext D
          [some (.ref b), some (.ref x), some (.ref y), some (.ref S), some (.ref d), some (.ref lc), some (.str z), some v, some (nV (MT A X Y z).2), none] H7 := fun D H7 B2 key h7 sB2 mB2 eO2 => by
      walk_at "gg"
      cases en : (MT A X Y z).2 with
      | none =>
        refine i_n (fun c => (c rfl).elim) (fun _ => ?_)
        walk_at "gg"
        refine key _ _ ⟨F', B2, cv, cl, _, _, _, rfl, sF, h7, dqc, sB2, mB2, sC.trans (by rw [tk]; exact List.sublist_append_left _ _), fun z' n' => ?_, eO2⟩
        rw [mC, tk, List.mem_append, List.mem_singleton]
        constructor
        · exact fun h => ⟨.inl h.1, h.2⟩
        · rintro ⟨h | h, h2⟩
          · exact ⟨h, h2⟩
          · subst h
            rw [en] at h2
            cases h2
      | some m =>
        refine i_n (fun _ => ?_) (fun c => by cases c)
        walk_at "gg"
        refine g_kbm (h7.get (List.mem_cons_of_mem _ (List.mem_append_right _ (List.Mem.head _)))) ?_
        walk_at "gg"
        refine g_ktupF (by walk_at "sz") h7 (fun pt H8 F8 n8 s8 f8 h8 => ?_)
        walk_at "gg"
        have c : Chg ((d, HO.dK (bK B2)) :: (bO B2 ++ [(lc, .lst cv), (p4, .lst (us.map V.str))])) lc (.lst cv) (.lst (cv ++ [V.ref pt])) ((d, HO.dK (bK B2)) :: (bO B2 ++ [(lc, .lst (cv ++ [V.ref pt])), (p4, .lst (us.map V.str))])) := .tl (Chg.right .hd)
        refine g_append h8 c (szl (by omega)) (fun H9 h9 => ?_)
        walk_at "gg"
        refine key _ _ ⟨F8, B2, cv ++ [V.ref pt], cl ++ [(z, m)], _, _, _, rfl, sF.trans s8, h9, ?_, sB2, mB2, ?_, fun z' n' => ?_, eO2⟩
        · rw [List.map_append]
          exact (dqc.up s8 _ _).snoc (.tup f8 (.cons (.str z) (.cons (.int _) .nil)))
        · rw [List.map_append, tk]
          exact sC.append (List.Sublist.refl _)
        · rw [List.mem_append, mC, tk, List.mem_append, List.mem_singleton, List.mem_singleton]
          constructor
          · rintro (h | h)
            · exact ⟨.inl h.1, h.2⟩
            · injection h with h1 h2
              subst h1
              subst h2
              exact ⟨.inr rfl, en⟩
          · rintro ⟨h | h, h2⟩
            · exact .inl ⟨h, h2⟩
            · subst h
              rw [en] at h2
              injection h2 with h2
              rw [h2]
              exact .inr rfl
    rcases f6 with ⟨rfl, e⟩ | ⟨a, s, rfl, e, na, ha⟩
    · refine i_n (fun c => (c rfl).elim) (fun _ => ?_)
      walk_at "g"
      refine tail _ H6 B (fun _ _ h => h) (h5.on s6) (sB.trans (by rw [tk]; exact List.sublist_append_left _ _)) (fun z' s' => ?_) (by rw [eO, outc_none e])
      rw [mB, tk, List.mem_append, List.mem_singleton]
      constructor
      · exact fun h => ⟨.inl h.1, h.2⟩
      · rintro ⟨h | h, h2⟩
        · exact ⟨h, h2⟩
        · subst h
          rw [e] at h2
          cases h2
    · refine i_n (fun _ => ?_) (fun c => by cases c)
      have h6 := h5.made na s6 ha
      rw [outc_some e] at eO
      walk_at "gg"
      refine i_d (fun c => ?_) (fun cs => ?_)
      · rw [List.length_map] at c
        rw [if_pos (.inl (by omega))] at eO
        walk_at "gg"
        exact g_mk rfl (by decide) h6.all (fun e H' n' h' => qe z eO e H' ((s5.trans s6).trans h'.same) ((s5.trans s6).free n') (h'.get (List.Mem.head _)))
      rw [List.length_map] at cs
      have hd6 := h6.get (List.Mem.tail _ (List.Mem.head _))
      walk_at "gg"
      have nzB : z ∉ B.map (·.1) := fun m => by
        rw [← bA_keys] at m
        exact nz (sB.subset m)
      have lB8 : B.length < ps.length := by
        have ndB : (B.map (·.1) ++ [z]).Nodup := by
          rw [List.nodup_append]
          refine ⟨by rw [← bA_keys]; exact sB.nodup ((List.take_sublist _ _).nodup nd), by simp, fun a ha b hb e => nzB ?_⟩
          rw [← List.mem_singleton.mp hb, ← e]
          exact ha
        have := nd_le ndB (ys := ps) fun z' hz' => by
          rcases List.mem_append.mp hz' with h | h
          · rw [← bA_keys] at h
            exact ups z' (List.mem_of_mem_take (sB.subset h))
          · rw [List.mem_singleton.mp h]
            exact ups z (List.mem_of_getElem? hz)
        rw [List.length_append, List.length_map] at this
        exact this
      have lbK : (bK B).length = B.length := by unfold bK; rw [List.length_map]
      refine i_d (fun c => ?_) (fun cB => ?_)
      · rw [lbK] at c
        rw [if_pos (.inr (by omega))] at eO
        walk_at "gg"
        exact g_mk rfl (by decide) h6.all (fun e H' n' h' => qe z eO e H' ((s5.trans s6).trans h'.same) ((s5.trans s6).free n') (h'.get (List.Mem.head _)))
      rw [lbK] at cB
      rw [if_neg (by omega)] at eO
      walk_at "gg"
      refine g_stD (k := .inr z) rfl h6 (.tl .hd) (szl (by unfold bK; rw [List.length_map]; omega)) (fun H8 h8 => ?_)
      rw [putK_new _ (bK_none nzB)] at h8
      walk_at "g"
      refine tail _ H8 (B ++ [(z, a, s)]) (fun _ _ h => h) (Has.bput h8) ?_ (fun z' s' => ?_) (by rw [eO, List.length_append]; rfl)
      · rw [bA_snoc, List.map_append, tk]
        exact sB.append (List.Sublist.refl _)
      · rw [bA_snoc, List.mem_append, mB, tk, List.mem_append, List.mem_singleton, List.mem_singleton]
        constructor
        · rintro (h | h)
          · exact ⟨.inl h.1, h.2⟩
          · injection h with h1 h2
            subst h1
            subst h2
            exact ⟨.inr rfl, e⟩
        · rintro ⟨h | h, h2⟩
          · exact .inl ⟨h, h2⟩
          · subst h
            rw [e] at h2
            injection h2 with h2
            rw [h2]
            exact .inr rfl
  · rintro σ H5 ⟨F', B, cv, cl, y6, y7, y8, rfl, sF, h5, dqc, sB, mB, sC, mC, eO⟩
    rw [List.length_map, List.take_length] at sB mB sC mC
    have out : ∀ z, z ∉ us → MT A X Y z = (none, none) := fun z n => MT_none fun C hC m => n ((mz z).mpr ⟨C, hC, m⟩)
    walk_at "gg"
    refine g_ktupF (by walk_at "sz") h5 (fun p H6 F6 n6 s6 f6 h6 => ?_)
    have h7 : Has F6 ((lc, .lst cv) :: treeO d B) H6 := (h6.sub (O' := (d, .dK (bK B)) :: (bO B ++ [(lc, .lst cv)])) (List.Sublist.cons_cons _ (List.Sublist.append (List.Sublist.refl _) (by walk_at "sub")))).perm (by
      have := List.perm_middle (a := (lc, HO.lst cv)) (l₁ := (d, HO.dK (bK B)) :: bO B) (l₂ := [])
      rw [List.append_nil] at this
      exact this.symm)
    rw [List.length_map, List.drop_length] at eO
    refine q eO p d lc B cv cl F6 H6 (sF.trans s6) ((sF.trans h5.same).free n6) f6 h7 (dqc.up s6 _ _) ⟨asc.sublist sB, fun z s => ?_, asc.sublist sC, fun z n => ?_⟩
    · rw [mB]
      refine ⟨fun h => h.2, fun h => ⟨?_, h⟩⟩
      refine Classical.byContradiction fun c => ?_
      rw [out z c] at h
      cases h
    · rw [mC]
      refine ⟨fun h => h.2, fun h => ⟨?_, h⟩⟩
      refine Classical.byContradiction fun c => ?_
      rw [out z c] at h
      cases h
end

end K10

namespace K10
open PySem PySem.Spec PyProof.Rows L2 Qk
local macro_rules | `(tactic| walk_at "m") => `(tactic| ((repeat (first | exact List.Mem.head _ | apply List.Mem.tail)); done))
local macro_rules | `(tactic| walk_at "h") => `(tactic| first | assumption | exact Has.gF (by assumption) (by assumption) | exact Has.get (by assumption) (by walk_at "m"))
local macro_rules | `(tactic| walk_at "c") => `(tactic| ((repeat (first | exact Chg.hd | apply Chg.tl)); done))
local macro_rules | `(tactic| walk_at "is") => `(tactic| first
  | ((with_reducible refine' is2_non ?gh ?_); (case gh => walk_at "h"))
  | (with_reducible refine is_int_list ?_)
  | (with_reducible refine is_int_tuple ?_)
  | (with_reducible refine is_int_dict ?_)
  | (with_reducible refine is_int_int ?_)
  | (with_reducible refine is_int_bool ?_)
  | (with_reducible refine is_int_str ?_)
  | ((with_reducible refine' is2_int ?gh ?_); (case gh => walk_at "h"))
  | (with_reducible refine is_str_list ?_)
  | (with_reducible refine is_str_tuple ?_)
  | (with_reducible refine is_str_dict ?_)
  | (with_reducible refine is_str_int ?_)
  | (with_reducible refine is_str_bool ?_)
  | (with_reducible refine is_str_str ?_)
  | ((with_reducible refine' is2_str ?gh ?_); (case gh => walk_at "h"))
  | (with_reducible refine is_bool_list ?_)
  | (with_reducible refine is_bool_tuple ?_)
  | (with_reducible refine is_bool_dict ?_)
  | (with_reducible refine is_bool_int ?_)
  | (with_reducible refine is_bool_bool ?_)
  | (with_reducible refine is_bool_str ?_)
  | ((with_reducible refine' is2_bool ?gh ?_); (case gh => walk_at "h"))
  | ((with_reducible refine' is_list_list ?gh ?_); (case gh => walk_at "h"))
  | ((with_reducible refine' is_list_tuple ?gh ?_); (case gh => walk_at "h"))
  | ((with_reducible refine' is_list_dict ?gh ?_); (case gh => walk_at "h"))
  | ((with_reducible refine' is_list_int ?gh ?_); (case gh => walk_at "h"))
  | ((with_reducible refine' is_list_bool ?gh ?_); (case gh => walk_at "h"))
  | ((with_reducible refine' is_list_str ?gh ?_); (case gh => walk_at "h"))
  | ((with_reducible refine' is2_list ?ga ?gb ?_); (case ga => walk_at "h"); (case gb => walk_at "h"))
  | ((with_reducible refine' is_tuple_list ?gh ?_); (case gh => walk_at "h"))
  | ((with_reducible refine' is_tuple_tuple ?gh ?_); (case gh => walk_at "h"))
  | ((with_reducible refine' is_tuple_dict ?gh ?_); (case gh => walk_at "h"))
  | ((with_reducible refine' is_tuple_int ?gh ?_); (case gh => walk_at "h"))
  | ((with_reducible refine' is_tuple_bool ?gh ?_); (case gh => walk_at "h"))
  | ((with_reducible refine' is_tuple_str ?gh ?_); (case gh => walk_at "h"))
  | ((with_reducible refine' is2_tuple ?ga ?gb ?_); (case ga => walk_at "h"); (case gb => walk_at "h"))
  | ((with_reducible refine' is_dict_list ?gh ?_); (case gh => walk_at "h"))
  | ((with_reducible refine' is_dict_tuple ?gh ?_); (case gh => walk_at "h"))
  | ((with_reducible refine' is_dict_dict ?gh ?_); (case gh => walk_at "h"))
  | ((with_reducible refine' is_dict_int ?gh ?_); (case gh => walk_at "h"))
  | ((with_reducible refine' is_dict_bool ?gh ?_); (case gh => walk_at "h"))
  | ((with_reducible refine' is_dict_str ?gh ?_); (case gh => walk_at "h"))
  | ((with_reducible refine' is2_dict ?ga ?gb ?_); (case ga => walk_at "h"); (case gb => walk_at "h")))
local macro_rules | `(tactic| walk_at "g") => `(tactic| first
  | (with_reducible refine g_seq ?_)
  | (with_reducible refine g_asg ?_)
  | ((with_reducible refine g_name ?_); dsimp only [List.set, wipe, List.map])
  | ((with_reducible refine' g_var ?gv ?_); (case gv => exact rfl))
  | (with_reducible refine g_c ?_)
  | (with_reducible refine g_op ?_)
  | (with_reducible refine g_cons ?_)
  | (with_reducible refine g_nil ?_)
  | (with_reducible refine g_cb ?_)
  | (with_reducible refine g_call ?_)
  | (with_reducible refine g_tup ?_)
  | (with_reducible refine g_lst ?_)
  | (with_reducible refine g_bm ?_)
  | (with_reducible refine g_bm0 ?_)
  | ((with_reducible refine' g_kbm ?gh ?_); (case gh => walk_at "h"))
  | (with_reducible refine g_drop ?_)
  | (with_reducible refine g_ret ?_)
  | (with_reducible refine g_retN ?_)
  | (with_reducible refine g_next ?_)
  | (with_reducible refine g_brk ?_)
  | (with_reducible refine g_cont ?_)
  | (with_reducible refine g_if ?_)
  | ((with_reducible refine' g_aug ?gv ?_); (case gv => exact rfl))
  | (with_reducible refine g_ipI ?_)
  | (with_reducible refine g_test ?_)
  | (with_reducible refine g_tB ?_)
  | (with_reducible refine g_kB ?_)
  | (with_reducible refine g_not ?_)
  | (with_reducible refine g_and ?_)
  | (with_reducible refine g_or ?_)
  | (with_reducible refine g_andV ?_)
  | (with_reducible refine g_orV ?_)
  | (with_reducible refine g_notV ?_)
  | (with_reducible refine g_ifE ?_)
  | (with_reducible refine g_addI ?_)
  | (with_reducible refine g_rI0 ?_)
  | (with_reducible refine g_eqI ?_)
  | (with_reducible refine g_eqS ?_)
  | (with_reducible refine g_neI ?_)
  | (with_reducible refine g_neS ?_)
  | (with_reducible refine g_isN ?_)
  | (with_reducible refine g_notN ?_)
  | (with_reducible refine g_int ?_)
  | (with_reducible refine g_max2 ?_)
  | (with_reducible refine g_min2 ?_)
  | ((with_reducible refine' g_lenL ?gh ?_); (case gh => walk_at "h"))
  | (with_reducible refine g_sub ?_)
  | (with_reducible refine g_gcons ?_)
  | (with_reducible refine g_gnil ?_)
  | (with_reducible refine g_un ?_)
  | (with_reducible refine g_rU ?_)
  | (with_reducible refine g_forL ?_)
  | (with_reducible refine g_forS ?_)
  | (with_reducible refine g_forR1 ?_)
  | (with_reducible refine g_forR2 ?_)
  | (with_reducible refine g_forR3 ?_)
  | (with_reducible refine g_lcL ?_)
  | (with_reducible refine g_lcR1 ?_)
  | (with_reducible refine g_lcR2 ?_)
  | (with_reducible refine g_slice ?_)
  | (with_reducible refine g_part ?_)
  | (with_reducible refine g_kOI ?_)
  | (with_reducible refine g_nopart ?_)
  | (with_reducible refine g_yes ?_)
  | ((with_reducible refine' g_wipe ?gv ?_); (case gv => exact rfl))
  | (with_reducible refine iteT ?_)
  | (with_reducible refine iteF ?_)
  | (with_reducible refine i_nf ?_)
  | (with_reducible refine i_nt ?_)
  | ((with_reducible refine' g_gtup ?gh ?gl ?_); (case gh => walk_at "h"); (case gl => exact rfl))
  | ((with_reducible refine' g_notinI ?gh ?_); (case gh => walk_at "h"))
  | ((with_reducible refine' g_inI ?gh ?_); (case gh => walk_at "h"))
  | ((with_reducible refine' g_kget2 ?gh ?_); (case gh => walk_at "h"))
  | ((with_reducible refine' g_kgotI ?gh ?_); (case gh => walk_at "h"))
  | (with_reducible refine g_tRev ?_)
  | (with_reducible refine g_neB ?_)
  | (with_reducible refine g_eqB ?_)
  | ((with_reducible refine' g_lenT ?gh ?_); (case gh => walk_at "h"))
  | (with_reducible refine g_star ?_)
  | ((with_reducible refine' g_kstarL ?gh ?_); (case gh => walk_at "h"))
  | ((with_reducible refine' g_kstarT ?gh ?_); (case gh => walk_at "h"))
  | (with_reducible refine g_tru ?_)
  | ((with_reducible refine' g_truL ?gh ?_); (case gh => walk_at "h"))
  | (with_reducible refine g_get2 ?_)
  | (with_reducible refine g_try ?_)
  | (with_reducible refine g_fld ?_)
  | (with_reducible refine g_sfld ?_)
  | (with_reducible refine g_meth ?_)
  | (with_reducible refine g_make ?_)
  | (with_reducible refine g_del ?_)
  | (with_reducible refine g_callS ?_)
  | (with_reducible refine g_raise ?_)
  | (with_reducible refine g_xf ?_)
  | (with_reducible refine g_m0 ?_)
  | (with_reducible refine g_km0 ?_)
  | walk_at "is")
local macro_rules | `(tactic| walk_at "gg") => `(tactic| repeat walk_at "g")
local macro_rules | `(tactic| walk_at "sz") => `(tactic| (refine sz ?_; simp only [List.length_cons, List.length_nil, List.length_map, List.length_append, List.length_replicate]; omega))
local macro_rules | `(tactic| walk_at "sub") => `(tactic| ((repeat (first | exact List.Sublist.slnil | with_reducible apply List.Sublist.cons_cons | with_reducible apply List.Sublist.cons)); done))

/-! ### list.index; the fresh lines and the base lines -/
theorem mt_idxA (K : PySem.W.Frag) {X : Cx} (e : X.K = K := by rfl) : MtR X "list.index" (rIndex K) := by
  subst e
  exact mt_index
theorem g_idx {K : PySem.W.Frag} {H : Hp} {Q : VK} {a : Addr} {xs : List Str} {j : Nat} {z : Str} (h : H a = some (.lst (xs.map V.str))) (nd : xs.Nodup) (e : xs[j]? = some z) (q : Q (.int (j : Nat)) H) : rIndex K (.ref a) [.str z] H Q := by
  refine ⟨a, xs.map V.str, .str z, j, .str z, rfl, rfl, SqL.of h, rfl, List.all_eq_true.mpr fun v hv => ?_, by rw [List.getElem?_map, e]; rfl, by show (z == z) = true; exact beq_self_eq_true z, fun m z' hm hz' => ?_, q⟩
  · obtain ⟨x, _, rfl⟩ := List.mem_map.mp hv
    rfl
  · rw [List.getElem?_map] at hz'
    obtain ⟨x, hx, rfl⟩ := Option.map_eq_some_iff.mp hz'
    show (x == z) = false
    rw [beq_eq_false_iff_ne]
    intro exz
    subst exz
    have := nd_inj nd hx e
    omega
def lM : List Str := ["l0", "l1", "l2", "l3", "l4", "l5", "l6", "l7", "l8", "l9", "l10"]
def bL (n : Nat) : List Str := lM.take n
theorem bL_len {n : Nat} (h : n ≤ 11) : (bL n).length = n := by
  unfold bL
  rw [List.length_take]
  exact Nat.min_eq_left h
theorem bL_ok (n : Nat) : okL (bL n) := fun x hx => by
  have : (lM.all fun z => PyData.strOk z) = true := by decide +kernel
  exact List.all_eq_true.mp this x (List.mem_of_mem_take hx)
theorem lM_step {i : Nat} (h : i < 11) : bL (i + 1) = bL i ++ [(Str.ofString "l") ++ (toString (i : Int) : String)] := by
  have : ∀ i < 11, lM.take (i + 1) = lM.take i ++ [(Str.ofString "l") ++ (toString (i : Int) : String)] := by decide +kernel
  exact this i h
theorem lM_short {i : Nat} (h : i < 11) : (Str.ofString "l").length + (Str.ofString (toString (i : Int))).length ≤ 100 := by
  have : ∀ i : Nat, i < 11 → (Str.ofString "l").length + (Str.ofString (toString (i : Int))).length ≤ 100 := by decide +kernel
  exact this i h
theorem perm3 {α : Type} (a b c : List α) : (a ++ (b ++ c)).Perm (b ++ (a ++ c)) := by
  rw [← List.append_assoc, ← List.append_assoc]
  exact List.perm_append_comm.append_right _
theorem tO_split {Bs : List (Addr × Bt)} {i : Nat} {q : Addr × Bt} (R : Own) (h : Bs[i]? = some q) : (tO Bs ++ R).Perm (treeO q.1 q.2 ++ (tO (Bs.eraseIdx i) ++ R)) := by
  induction Bs generalizing i with
  | nil => simp at h
  | cons x Bs ih =>
    cases i with
    | zero =>
      have e : x = q := Option.some.inj h
      subst e
      rw [List.eraseIdx_zero, List.tail_cons]
      unfold tO
      rw [List.flatMap_cons, List.append_assoc]
    | succ i =>
      have h : Bs[i]? = some q := h
      have := ih h
      rw [List.eraseIdx_cons_succ]
      unfold tO at *
      rw [List.flatMap_cons, List.flatMap_cons, List.append_assoc, List.append_assoc]
      exact (this.append_left _).trans (perm3 _ _ _)
theorem tO_set {Bs : List (Addr × Bt)} {i : Nat} {q q' : Addr × Bt} (R : Own) (h : Bs[i]? = some q) : (tO (Bs.set i q') ++ R).Perm (treeO q'.1 q'.2 ++ (tO (Bs.eraseIdx i) ++ R)) := by
  have := tO_split (Bs := Bs.set i q') (i := i) (q := q') R (by rw [List.getElem?_set_self (List.getElem?_eq_some_iff.mp h).1])
  rw [List.eraseIdx_set_eq] at this
  exact this
theorem tput {F H : Hp} {p : Addr} {u : HO} {R : Own} {Bs : List (Addr × Bt)} {i : Nat} {q : Addr × Bt} (e : Bs[i]? = some q) (h : Has F ((p, u) :: (tO Bs ++ R)) H) : Has F ((p, u) :: (q.1, .dK (bK q.2)) :: (bO q.2 ++ (tO (Bs.eraseIdx i) ++ R))) H := h.perm ((tO_split R e).symm.cons _)
theorem tput2 {F H : Hp} {R : Own} {Bs : List (Addr × Bt)} {i : Nat} {q : Addr × Bt} {B : Bt} (e : Bs[i]? = some q) (h : Has F ((q.1, .dK (bK B)) :: (bO B ++ (tO (Bs.eraseIdx i) ++ R))) H) : Has F (tO (Bs.set i (q.1, B)) ++ R) H := h.perm (tO_set R e)
def nt : Tx := ["n", ""]
def oA (f : Int) : Option Tx := if f = 2 then some nt else if f = 3 then some ["m"] else none
def oS (i k : Nat) (f : Int) : Option Tx := if 1 + k / 4 = i ∧ f ≠ 1 then some nt else none
def osA (fs : List Int) : List (Option Tx) := (List.range 8).map fun k => oA (fs.getD k 0)
def osS (fs : List Int) (i : Nat) : List (Option Tx) := (List.range 8).map fun k => oS i k (fs.getD k 0)
theorem osA_at {fs : List Int} {k : Nat} {f : Int} (h : k < 8) (e : fs[k]? = some f) (r : List (Option Tx)) : (osA fs ++ r)[k]? = some (oA f) := by
  unfold osA
  rw [List.getElem?_append_left (by rw [List.length_map, List.length_range]; exact h), List.getElem?_map, List.getElem?_range h]
  show some (oA (fs.getD k 0)) = _
  rw [show fs.getD k 0 = f by rw [List.getD_eq_getElem?_getD, e]; rfl]
theorem osS_at {fs : List Int} {i k : Nat} {f : Int} (h : k < 8) (e : fs[k]? = some f) (r : List (Option Tx)) : (osS fs i ++ r)[k]? = some (oS i k f) := by
  unfold osS
  rw [List.getElem?_append_left (by rw [List.length_map, List.length_range]; exact h), List.getElem?_map, List.getElem?_range h]
  show some (oS i k (fs.getD k 0)) = _
  rw [show fs.getD k 0 = f by rw [List.getD_eq_getElem?_getD, e]; rfl]
theorem osA_len (fs : List Int) : (osA fs).length = 8 := by unfold osA; rw [List.length_map, List.length_range]
theorem osS_len (fs : List Int) (i : Nat) : (osS fs i).length = 8 := by unfold osS; rw [List.length_map, List.length_range]
theorem take8 {α : Type} {xs r : List α} (h : xs.length = 8) : (xs ++ r).take 8 = xs := by rw [← h]; exact List.take_left
theorem last8 {α : Type} {xs : List α} {x : α} (h : xs.length = 8) : (xs ++ [x])[8]? = some x := by rw [List.getElem?_append_right (by omega), h]; rfl
theorem all9 {α : Type} {xs : List α} {x : α} (h : xs.length = 8) : (xs ++ [x]).take 9 = xs ++ [x] := List.take_of_length_le (by rw [List.length_append, h]; exact Nat.le_refl _)
def bO9 (n : Nat) (bare : Bool) : Option Tx := if 0 < n ∨ bare = false then some (bL n) else none
def rp (c : Str) (n : Nat) : List Str := List.replicate n c
theorem rp_str (c : Str) (n : Nat) : (List.replicate n [V.str c]).flatten = (rp c n).map V.str := by
  unfold rp
  induction n with
  | zero => rfl
  | succ n ih =>
    rw [List.replicate_succ, List.flatten_cons, ih, List.replicate_succ, List.map_cons]
    rfl
theorem rp_len (c : Str) (n : Nat) : (rp c n).length = n := List.length_replicate
def treeA (ps : List Str) (fs : List Int) (n : Nat) (bare : Bool) : Tre := mkTr ps (osA fs ++ [bO9 n bare])
def treeX (ps : List Str) (fs : List Int) (s0 n : Nat) : Tre := mkTr ps (osS fs 1 ++ [some (rp "x" s0 ++ bL n)])
def treeY (ps : List Str) (fs : List Int) (n s2 : Nat) : Tre := mkTr ps (osS fs 2 ++ [some (bL n ++ rp "y" s2)])
theorem g_store {F H : Hp} {R : Own} {Bs : List (Addr × Bt)} {i : Nat} {d p : Addr} {B : Bt} {z : Str} {t : Tx} {S : L2.St → Hp → Prop} {σ : L2.St} (e : Bs[i]? = some (d, B)) (h : Has F ((p, .lst (t.map V.str)) :: (tO Bs ++ R)) H) (nz : z ∉ B.map (·.1) ∧ (bK B).length ≤ 9) (q : ∀ H', Has F (tO (Bs.set i (d, B ++ [(z, p, t)])) ++ R) H' → S σ H') : kSet rSetA S σ (.ref d) (.str z) (.ref p) H := by
  refine g_stD (k := .inr z) rfl (tput e h) (.tl .hd) (szl (by have := nz.2; show (bK B).length < 100000; omega)) (fun H' h' => q H' ?_)
  rw [putK_new _ (bK_none nz.1)] at h'
  exact tput2 e (Has.bput h')
theorem oS_skip {i k : Nat} {f : Int} (h : ¬ (1 + k / 4 = i ∧ f ≠ 1)) : oS i k f = none := if_neg h
theorem oS_put {i k : Nat} {f : Int} (h1 : 1 + k / 4 = i) (h2 : f ≠ 1) : oS i k f = some nt := if_pos ⟨h1, h2⟩
theorem g_truB {K : PySem.W.Frag} {H : Hp} {R : Bool → Hp → Prop} {b : Bool} (q : R b H) : kTru K (.bl b) H R := ⟨b, rfl, q⟩

section
variable {P : Program} {w : World} {K : PySem.W.Frag} {mg : Str → Option Value} {base : Heap}
def sp_l_base (K : PySem.W.Frag) : Sp := fun vs H Q _ => ∃ n : Nat, vs = [.int (n : Int)] ∧ n ≤ 11 ∧ ∀ p H', Same H H' → H p = none → H' p = some (.lst ((bL n).map V.str)) → Q (.ref p) H'
theorem sp_l_base_len {vs H Q E} (h : sp_l_base K vs H Q E) : vs.length = 1 := by
  obtain ⟨_, rfl, _⟩ := h
  rfl
theorem ok_l_base (T : Txt K mg) : FnOk P w K mg base CX0 1 T.f_l_base T.fd_l_base ["many"] (sp_l_base K) := by
  refine T.F_l_base.ok sc_l_base (fun vs H Q E h => sp_l_base_len h) (fun cdv A outer s H vs Q E hr h => ?_)
  refine ⟨_, (pss_one (ps_ret (pe_lc (own := [("k", 1)]) (g := gName 1) (tt := tYes) rfl sc_l_base.nd (pi_range1 rfl T.m_range (pa_cons (pv 0) pa_nil)) (blkOk_by (N := n_l_base) (sc := defScope s_l_base) (by decide +kernel)) (fun _ _ _ _ _ => (pg_name (i := 1) sc_l_base.nd rfl (.inl rfl))) (fun _ _ _ _ _ => pts_nil) (fun _ _ _ _ _ => (pe_op (op_addK K) pe_str (pe_callTy cr_strI (by rfl) T.m_str (by decide +kernel) (pa_cons (pv 1) pa_nil))))))), ?_⟩
  obtain ⟨n, rfl, hn, q⟩ := h
  have hH := Has.start H
  refine g_start (σ' := [some (.int (n : Int)), none]) rfl ?_
  walk_at "gg"
  refine k_lcR1 (by omega) (by omega) hH (fun i acc F' O' => acc = (bL i).map V.str ∧ H = F' ∧ O' = []) ⟨rfl, rfl, rfl⟩ ?_ ?_
  · rintro i acc F' O' D H2 hi ⟨rfl, rfl, rfl⟩ hh
    have hi' : i < n := by omega
    walk_at "gg"
    refine g_strI (by have : ((i : Int)).natAbs = i := rfl; rw [this]; exact Nat.lt_of_le_of_lt (Nat.log2_le_self _) (by omega)) ?_
    refine g_addS (sz (Nat.le_trans (lM_short (by omega)) (by decide))) ?_
    refine k_turn hh (by rw [List.length_map, bL_len (by omega)]; omega) ⟨?_, rfl, rfl⟩
    rw [lM_step (by omega), List.map_append]
    rfl
  · rintro acc F' O' D H2 ⟨rfl, rfl, rfl⟩ hh
    exact q D H2 hh.drop.same hh.free (hh.get (List.Mem.head _))
end

end K10

namespace K10
open PySem PySem.Spec PyProof.Rows L2 Qk
local macro_rules | `(tactic| walk_at "m") => `(tactic| ((repeat (first | exact List.Mem.head _ | apply List.Mem.tail)); done))
local macro_rules | `(tactic| walk_at "h") => `(tactic| first | assumption | exact Has.gF (by assumption) (by assumption) | exact Has.get (by assumption) (by walk_at "m"))
local macro_rules | `(tactic| walk_at "c") => `(tactic| ((repeat (first | exact Chg.hd | apply Chg.tl)); done))
local macro_rules | `(tactic| walk_at "is") => `(tactic| first
  | ((with_reducible refine' is2_non ?gh ?_); (case gh => walk_at "h"))
  | (with_reducible refine is_int_list ?_)
  | (with_reducible refine is_int_tuple ?_)
  | (with_reducible refine is_int_dict ?_)
  | (with_reducible refine is_int_int ?_)
  | (with_reducible refine is_int_bool ?_)
  | (with_reducible refine is_int_str ?_)
  | ((with_reducible refine' is2_int ?gh ?_); (case gh => walk_at "h"))
  | (with_reducible refine is_str_list ?_)
  | (with_reducible refine is_str_tuple ?_)
  | (with_reducible refine is_str_dict ?_)
  | (with_reducible refine is_str_int ?_)
  | (with_reducible refine is_str_bool ?_)
  | (with_reducible refine is_str_str ?_)
  | ((with_reducible refine' is2_str ?gh ?_); (case gh => walk_at "h"))
  | (with_reducible refine is_bool_list ?_)
  | (with_reducible refine is_bool_tuple ?_)
  | (with_reducible refine is_bool_dict ?_)
  | (with_reducible refine is_bool_int ?_)
  | (with_reducible refine is_bool_bool ?_)
  | (with_reducible refine is_bool_str ?_)
  | ((with_reducible refine' is2_bool ?gh ?_); (case gh => walk_at "h"))
  | ((with_reducible refine' is_list_list ?gh ?_); (case gh => walk_at "h"))
  | ((with_reducible refine' is_list_tuple ?gh ?_); (case gh => walk_at "h"))
  | ((with_reducible refine' is_list_dict ?gh ?_); (case gh => walk_at "h"))
  | ((with_reducible refine' is_list_int ?gh ?_); (case gh => walk_at "h"))
  | ((with_reducible refine' is_list_bool ?gh ?_); (case gh => walk_at "h"))
  | ((with_reducible refine' is_list_str ?gh ?_); (case gh => walk_at "h"))
  | ((with_reducible refine' is2_list ?ga ?gb ?_); (case ga => walk_at "h"); (case gb => walk_at "h"))
  | ((with_reducible refine' is_tuple_list ?gh ?_); (case gh => walk_at "h"))
  | ((with_reducible refine' is_tuple_tuple ?gh ?_); (case gh => walk_at "h"))
  | ((with_reducible refine' is_tuple_dict ?gh ?_); (case gh => walk_at "h"))
  | ((with_reducible refine' is_tuple_int ?gh ?_); (case gh => walk_at "h"))
  | ((with_reducible refine' is_tuple_bool ?gh ?_); (case gh => walk_at "h"))
  | ((with_reducible refine' is_tuple_str ?gh ?_); (case gh => walk_at "h"))
  | ((with_reducible refine' is2_tuple ?ga ?gb ?_); (case ga => walk_at "h"); (case gb => walk_at "h"))
  | ((with_reducible refine' is_dict_list ?gh ?_); (case gh => walk_at "h"))
  | ((with_reducible refine' is_dict_tuple ?gh ?_); (case gh => walk_at "h"))
  | ((with_reducible refine' is_dict_dict ?gh ?_); (case gh => walk_at "h"))
  | ((with_reducible refine' is_dict_int ?gh ?_); (case gh => walk_at "h"))
  | ((with_reducible refine' is_dict_bool ?gh ?_); (case gh => walk_at "h"))
  | ((with_reducible refine' is_dict_str ?gh ?_); (case gh => walk_at "h"))
  | ((with_reducible refine' is2_dict ?ga ?gb ?_); (case ga => walk_at "h"); (case gb => walk_at "h")))
local macro_rules | `(tactic| walk_at "g") => `(tactic| first
  | (with_reducible refine g_seq ?_)
  | (with_reducible refine g_asg ?_)
  | ((with_reducible refine g_name ?_); dsimp only [List.set, wipe, List.map])
  | ((with_reducible refine' g_var ?gv ?_); (case gv => exact rfl))
  | (with_reducible refine g_c ?_)
  | (with_reducible refine g_op ?_)
  | (with_reducible refine g_cons ?_)
  | (with_reducible refine g_nil ?_)
  | (with_reducible refine g_cb ?_)
  | (with_reducible refine g_call ?_)
  | (with_reducible refine g_tup ?_)
  | (with_reducible refine g_lst ?_)
  | (with_reducible refine g_bm ?_)
  | (with_reducible refine g_bm0 ?_)
  | ((with_reducible refine' g_kbm ?gh ?_); (case gh => walk_at "h"))
  | (with_reducible refine g_drop ?_)
  | (with_reducible refine g_ret ?_)
  | (with_reducible refine g_retN ?_)
  | (with_reducible refine g_next ?_)
  | (with_reducible refine g_brk ?_)
  | (with_reducible refine g_cont ?_)
  | (with_reducible refine g_if ?_)
  | ((with_reducible refine' g_aug ?gv ?_); (case gv => exact rfl))
  | (with_reducible refine g_ipI ?_)
  | (with_reducible refine g_test ?_)
  | (with_reducible refine g_tB ?_)
  | (with_reducible refine g_kB ?_)
  | (with_reducible refine g_not ?_)
  | (with_reducible refine g_and ?_)
  | (with_reducible refine g_or ?_)
  | (with_reducible refine g_andV ?_)
  | (with_reducible refine g_orV ?_)
  | (with_reducible refine g_notV ?_)
  | (with_reducible refine g_ifE ?_)
  | (with_reducible refine g_addI ?_)
  | (with_reducible refine g_rI0 ?_)
  | (with_reducible refine g_eqI ?_)
  | (with_reducible refine g_eqS ?_)
  | (with_reducible refine g_neI ?_)
  | (with_reducible refine g_neS ?_)
  | (with_reducible refine g_isN ?_)
  | (with_reducible refine g_notN ?_)
  | (with_reducible refine g_int ?_)
  | (with_reducible refine g_max2 ?_)
  | (with_reducible refine g_min2 ?_)
  | ((with_reducible refine' g_lenL ?gh ?_); (case gh => walk_at "h"))
  | (with_reducible refine g_sub ?_)
  | (with_reducible refine g_gcons ?_)
  | (with_reducible refine g_gnil ?_)
  | (with_reducible refine g_un ?_)
  | (with_reducible refine g_rU ?_)
  | (with_reducible refine g_forL ?_)
  | (with_reducible refine g_forS ?_)
  | (with_reducible refine g_forR1 ?_)
  | (with_reducible refine g_forR2 ?_)
  | (with_reducible refine g_forR3 ?_)
  | (with_reducible refine g_lcL ?_)
  | (with_reducible refine g_lcR1 ?_)
  | (with_reducible refine g_lcR2 ?_)
  | (with_reducible refine g_slice ?_)
  | (with_reducible refine g_part ?_)
  | (with_reducible refine g_kOI ?_)
  | (with_reducible refine g_nopart ?_)
  | (with_reducible refine g_yes ?_)
  | ((with_reducible refine' g_wipe ?gv ?_); (case gv => exact rfl))
  | (with_reducible refine iteT ?_)
  | (with_reducible refine iteF ?_)
  | (with_reducible refine i_nf ?_)
  | (with_reducible refine i_nt ?_)
  | ((with_reducible refine' g_gtup ?gh ?gl ?_); (case gh => walk_at "h"); (case gl => exact rfl))
  | ((with_reducible refine' g_notinI ?gh ?_); (case gh => walk_at "h"))
  | ((with_reducible refine' g_inI ?gh ?_); (case gh => walk_at "h"))
  | ((with_reducible refine' g_kget2 ?gh ?_); (case gh => walk_at "h"))
  | ((with_reducible refine' g_kgotI ?gh ?_); (case gh => walk_at "h"))
  | (with_reducible refine g_tRev ?_)
  | (with_reducible refine g_neB ?_)
  | (with_reducible refine g_eqB ?_)
  | ((with_reducible refine' g_lenT ?gh ?_); (case gh => walk_at "h"))
  | (with_reducible refine g_star ?_)
  | ((with_reducible refine' g_kstarL ?gh ?_); (case gh => walk_at "h"))
  | ((with_reducible refine' g_kstarT ?gh ?_); (case gh => walk_at "h"))
  | (with_reducible refine g_tru ?_)
  | ((with_reducible refine' g_truL ?gh ?_); (case gh => walk_at "h"))
  | (with_reducible refine g_get2 ?_)
  | (with_reducible refine g_try ?_)
  | (with_reducible refine g_fld ?_)
  | (with_reducible refine g_sfld ?_)
  | (with_reducible refine g_meth ?_)
  | (with_reducible refine g_make ?_)
  | (with_reducible refine g_del ?_)
  | (with_reducible refine g_callS ?_)
  | (with_reducible refine g_raise ?_)
  | (with_reducible refine g_xf ?_)
  | (with_reducible refine g_m0 ?_)
  | (with_reducible refine g_km0 ?_)
  | walk_at "is")
local macro_rules | `(tactic| walk_at "gg") => `(tactic| repeat walk_at "g")
local macro_rules | `(tactic| walk_at "sz") => `(tactic| (refine sz ?_; simp only [List.length_cons, List.length_nil, List.length_map, List.length_append, List.length_replicate]; omega))
local macro_rules | `(tactic| walk_at "sub") => `(tactic| ((repeat (first | exact List.Sublist.slnil | with_reducible apply List.Sublist.cons_cons | with_reducible apply List.Sublist.cons)); done))

section
variable {P : Program} {w : World} {K : PySem.W.Frag} {mg : Str → Option Value} {base : Heap}
def sp_l_trees (K : PySem.W.Frag) : Sp := fun vs H Q _ => ∃ (pl fl sl : Addr) (ps : List Str) (fs : List Int) (s0 n s2 : Nat) (bare : Bool), vs = [.ref pl, .ref fl, .ref sl, .bl bare] ∧ H pl = some (.lst (ps.map V.str)) ∧ H fl = some (.lst (fs.map V.int)) ∧ H sl = some (.lst [.int (s0 : Nat), .int (n : Nat), .int (s2 : Nat)]) ∧ ps.length = 9 ∧ ps.Nodup ∧ fs.length = 8 ∧ s0 ≤ 40 ∧ n ≤ 11 ∧ s2 ≤ 40 ∧
  ∀ tl t0 t1 t2 (B0 B1 B2 : Bt) H', Has H (tO [(t0, B0), (t1, B1), (t2, B2)] ++ [(tl, .lst [.ref t0, .ref t1, .ref t2])]) H' → bA B0 = treeA ps fs n bare → bA B1 = treeX ps fs s0 n → bA B2 = treeY ps fs n s2 → Q (.ref tl) H'
theorem sp_l_trees_len {vs H Q E} (h : sp_l_trees K vs H Q E) : vs.length = 4 := by
  obtain ⟨_, _, _, _, _, _, _, _, _, rfl, _⟩ := h
  rfl
set_option maxHeartbeats 2000000 in
theorem ok_l_trees (T : Txt K mg) : FnOk P w K mg base CX0 2 T.f_l_trees T.fd_l_trees ["paths", "fates", "sizes", "bare"] (sp_l_trees K) := by
  refine T.F_l_trees.ok sc_l_trees (fun vs H Q E h => sp_l_trees_len h) (fun cdv A outer s H vs Q E hr h => ?_)
  refine ⟨_, (pss_cons (ps_set (i := 4) sc_l_trees.nd rfl (.inl rfl) (pe_lst (pa_cons pe_dnewK (pa_cons pe_dnewK (pa_cons pe_dnewK pa_nil)))))
      (pss_cons (ps_for PassesOwn.never rfl (pi_range1 rfl T.m_range (pa_cons pe_int pa_nil)) (pg_name (i := 5) sc_l_trees.nd rfl (.inl rfl)) (pss_cons (ps_if (pt_cmpR (op_neK K hr.units) (pe_ix (ix_K K (hu_of hr)) (pv 1) (pv 5) (fun _ _ => rfl)) pe_int (nomark _)) (pss_one (ps_asg (pe_lst (pa_cons pe_str (pa_cons pe_str pa_nil))) (pg_sub (pe_ix (ix_K K (hu_of hr)) (pv 4) (pe_op (op_addK K) pe_int (pe_op op_fdiv (pv 5) pe_int)) (fun _ _ => rfl)) (pe_ix (ix_K K (hu_of hr)) (pv 0) (pv 5) (fun _ _ => rfl)) (set_any (hu_of hr))))) pss_nil)
      (pss_cons (ps_if (pt_cmpR (op_eqK K hr.units) (pe_ix (ix_K K (hu_of hr)) (pv 1) (pv 5) (fun _ _ => rfl)) pe_int (nomark _)) (pss_one (ps_asg (pe_lst (pa_cons pe_str (pa_cons pe_str pa_nil))) (pg_sub (pe_ix (ix_K K (hu_of hr)) (pv 4) pe_int (fun _ _ => rfl)) (pe_ix (ix_K K (hu_of hr)) (pv 0) (pv 5) (fun _ _ => rfl)) (set_any (hu_of hr))))) pss_nil)
      (pss_one (ps_if (pt_cmpR (op_eqK K hr.units) (pe_ix (ix_K K (hu_of hr)) (pv 1) (pv 5) (fun _ _ => rfl)) pe_int (nomark _)) (pss_one (ps_asg (pe_lst (pa_cons pe_str pa_nil)) (pg_sub (pe_ix (ix_K K (hu_of hr)) (pv 4) pe_int (fun _ _ => rfl)) (pe_ix (ix_K K (hu_of hr)) (pv 0) (pv 5) (fun _ _ => rfl)) (set_any (hu_of hr))))) pss_nil)))))
      (pss_cons (ps_if (PW.pt (pw_or (pt_cmpR op_gt (pe_ix (ix_K K (hu_of hr)) (pv 2) pe_int (fun _ _ => rfl)) pe_int (nomark _)) (pw_or1 (pt_not (pt_tru K (pv 3)))))) (pss_one (ps_asg (pe_call (ok_l_base T) (hr.mono (by decide)) (by rfl) T.g_l_base T.F_l_base.kp T.b_l_base .nil pass0 (pa_cons (pe_ix (ix_K K (hu_of hr)) (pv 2) pe_int (fun _ _ => rfl)) pa_nil)) (pg_sub (pe_ix (ix_K K (hu_of hr)) (pv 4) pe_int (fun _ _ => rfl)) (pe_ix (ix_K K (hu_of hr)) (pv 0) pe_int (fun _ _ => rfl)) (set_any (hu_of hr))))) pss_nil)
      (pss_cons (ps_asg (pe_op (op_addK K) (pe_op op_mulA (pe_lst (pa_cons pe_str pa_nil)) (pe_ix (ix_K K (hu_of hr)) (pv 2) pe_int (fun _ _ => rfl))) (pe_call (ok_l_base T) (hr.mono (by decide)) (by rfl) T.g_l_base T.F_l_base.kp T.b_l_base .nil pass0 (pa_cons (pe_ix (ix_K K (hu_of hr)) (pv 2) pe_int (fun _ _ => rfl)) pa_nil))) (pg_sub (pe_ix (ix_K K (hu_of hr)) (pv 4) pe_int (fun _ _ => rfl)) (pe_ix (ix_K K (hu_of hr)) (pv 0) pe_int (fun _ _ => rfl)) (set_any (hu_of hr))))
      (pss_cons (ps_asg (pe_op (op_addK K) (pe_call (ok_l_base T) (hr.mono (by decide)) (by rfl) T.g_l_base T.F_l_base.kp T.b_l_base .nil pass0 (pa_cons (pe_ix (ix_K K (hu_of hr)) (pv 2) pe_int (fun _ _ => rfl)) pa_nil)) (pe_op op_mulA (pe_lst (pa_cons pe_str pa_nil)) (pe_ix (ix_K K (hu_of hr)) (pv 2) pe_int (fun _ _ => rfl)))) (pg_sub (pe_ix (ix_K K (hu_of hr)) (pv 4) pe_int (fun _ _ => rfl)) (pe_ix (ix_K K (hu_of hr)) (pv 0) pe_int (fun _ _ => rfl)) (set_any (hu_of hr))))
      (pss_one (ps_ret (pv 4)))))))), ?_⟩
  obtain ⟨pl, fl, sl, ps, fs, s0, n, s2, bare, rfl, hp, hf, hs, lps, ndp, lfs, l0, ln, l2, q⟩ := h
  have hH := Has.start H
  refine g_start (σ' := [some (.ref pl), some (.ref fl), some (.ref sl), some (.bl bare), none, none]) rfl ?_
  walk_at "gg"
  refine g_dnewK hH (fun t0 H1 n1 h1 => ?_)
  walk_at "gg"
  refine g_dnewK h1 (fun t1 H2 n2 h2 => ?_)
  walk_at "gg"
  refine g_dnewK h2 (fun t2 H3 n3 h3 => ?_)
  walk_at "gg"
  refine g_klst (by walk_at "sz") h3 (fun tl H4 n4 h4 => ?_)
  have h4 : Has H (tO [(t0, []), (t1, []), (t2, [])] ++ [(tl, .lst [.ref t0, .ref t1, .ref t2])]) H4 := h4.perm (by
    show List.Perm [(t0, HO.dK (bK [])), (t1, HO.dK (bK [])), (t2, HO.dK (bK [])), (tl, HO.lst [V.ref t0, V.ref t1, V.ref t2])] [(tl, HO.lst [V.ref t0, V.ref t1, V.ref t2]), (t2, HO.dK []), (t1, HO.dK []), (t0, HO.dK [])]
    exact List.reverse_perm [(tl, HO.lst [V.ref t0, V.ref t1, V.ref t2]), (t2, HO.dK []), (t1, HO.dK []), (t0, HO.dK [])])
  walk_at "gg"
  refine k_forR1 (fun t σ H' => ∃ (B0 B1 B2 : Bt) (y5 : Option V), σ = [some (.ref pl), some (.ref fl), some (.ref sl), some (.bl bare), some (.ref tl), y5] ∧ Has H (tO [(t0, B0), (t1, B1), (t2, B2)] ++ [(tl, .lst [.ref t0, .ref t1, .ref t2])]) H' ∧ bA B0 = mkTr (ps.take t) ((osA fs ++ [bO9 n bare]).take t) ∧ bA B1 = mkTr (ps.take t) ((osS fs 1 ++ [some (rp "x" s0 ++ bL n)]).take t) ∧ bA B2 = mkTr (ps.take t) ((osS fs 2 ++ [some (bL n ++ rp "y" s2)]).take t)) (by decide) (by decide) ⟨[], [], [], _, rfl, h4, rfl, rfl, rfl⟩ ?_ ?_
  · rintro t σ H5 ht ⟨B0, B1, B2, y5, rfl, h5, e0, e1, e2⟩
    have lt : t < 8 := ht
    have ez : ps[t]? = some (ps[t]'(by omega)) := List.getElem?_eq_getElem (by omega)
    generalize ps[t]'(by omega) = z at ez
    have ef : fs[t]? = some (fs[t]'(by omega)) := List.getElem?_eq_getElem (by omega)
    generalize fs[t]'(by omega) = f at ef
    have step0 := mkTr_step ez (osA_at lt ef [bO9 n bare])
    have step1 := mkTr_step ez (osS_at (i := 1) lt ef [some (rp "x" s0 ++ bL n)])
    have step2 := mkTr_step ez (osS_at (i := 2) lt ef [some (bL n ++ rp "y" s2)])
    rw [← e0] at step0
    rw [← e1] at step1
    rw [← e2] at step2
    have nw : ∀ {B : Bt} {os : List (Option Tx)}, bA B = mkTr (ps.take t) os → z ∉ B.map (·.1) ∧ (bK B).length ≤ 9 := fun {B os} e => by
      refine ⟨fun m => ?_, ?_⟩
      · rw [← bA_keys, e] at m
        exact nd_new ndp ez (mkTr_keys.subset m)
      · have h1 := congrArg List.length e
        have h2 := (mkTr_keys (ps := ps.take t) (os := os)).length_le
        rw [List.length_map, List.length_take] at h2
        unfold bA at h1
        rw [List.length_map] at h1
        unfold bK
        rw [List.length_map]
        omega
    walk_at "g"
    walk_at "g"
    refine g_joinD (fun σ' H' => ∃ (B1' B2' : Bt), σ' = [some (.ref pl), some (.ref fl), some (.ref sl), some (.bl bare), some (.ref tl), some (.int (t : Nat))] ∧ Has H (tO [(t0, B0), (t1, B1'), (t2, B2')] ++ [(tl, .lst [.ref t0, .ref t1, .ref t2])]) H' ∧ bA B1' = mkTr (ps.take (t + 1)) ((osS fs 1 ++ [some (rp "x" s0 ++ bL n)]).take (t + 1)) ∧ bA B2' = mkTr (ps.take (t + 1)) ((osS fs 2 ++ [some (bL n ++ rp "y" s2)]).take (t + 1))) ?_ (fun nx key => ?_)
    · rintro σ' H6 ⟨B1', B2', rfl, h6, e1', e2'⟩
      walk_at "gg"
      refine g_ixL (v := .int f) (h6.same _ _ hf) (atI_nat (by rw [List.getElem?_map, ef]; rfl)) ?_
      walk_at "gg"
      refine i_d (fun f2 => ?_) (fun f2 => ?_)
      · walk_at "gg"
        refine g_klst (by walk_at "sz") h6 (fun p1 H7 n7 h7 => ?_)
        walk_at "gg"
        refine g_ixL (v := .ref t0) (h7.get (List.mem_cons_of_mem _ (List.mem_append_right _ (List.Mem.head _)))) (atI_nat (j := 0) rfl) ?_
        walk_at "gg"
        refine g_ixL (v := .str z) (h7.same _ _ hp) (atI_nat (by rw [List.getElem?_map, ez]; rfl)) ?_
        walk_at "gg"
        refine g_store (t := nt) (i := 0) rfl h7 (nw e0) (fun H8 h8 => ?_)
        walk_at "gg"
        refine g_ixL (v := .int f) (h8.same _ _ hf) (atI_nat (by rw [List.getElem?_map, ef]; rfl)) ?_
        walk_at "gg"
        refine i_d (fun c => by omega) (fun _ => ?_)
        walk_at "gg"
        refine ⟨B0 ++ [(z, p1, nt)], B1', B2', _, rfl, h8, ?_, e1', e2'⟩
        rw [bA_snoc, step0]
        unfold oA
        rw [if_pos f2]
        rfl
      walk_at "gg"
      refine g_ixL (v := .int f) (h6.same _ _ hf) (atI_nat (by rw [List.getElem?_map, ef]; rfl)) ?_
      walk_at "gg"
      refine i_d (fun f3 => ?_) (fun f3 => ?_)
      · walk_at "gg"
        refine g_klst (by walk_at "sz") h6 (fun p1 H7 n7 h7 => ?_)
        walk_at "gg"
        refine g_ixL (v := .ref t0) (h7.get (List.mem_cons_of_mem _ (List.mem_append_right _ (List.Mem.head _)))) (atI_nat (j := 0) rfl) ?_
        walk_at "gg"
        refine g_ixL (v := .str z) (h7.same _ _ hp) (atI_nat (by rw [List.getElem?_map, ez]; rfl)) ?_
        walk_at "gg"
        refine g_store (t := ["m"]) (i := 0) rfl h7 (nw e0) (fun H8 h8 => ?_)
        walk_at "gg"
        refine ⟨B0 ++ [(z, p1, (["m"] : Tx))], B1', B2', _, rfl, h8, ?_, e1', e2'⟩
        rw [bA_snoc, step0]
        unfold oA
        rw [if_neg f2, if_pos f3]
        rfl
      walk_at "gg"
      refine ⟨B0, B1', B2', _, rfl, h6, ?_, e1', e2'⟩
      rw [step0]
      unfold oA
      rw [if_neg f2, if_neg f3]
      exact (List.append_nil _).symm
    · walk_at "gg"
      refine g_ixL (v := .int f) (h5.same _ _ hf) (atI_nat (by rw [List.getElem?_map, ef]; rfl)) ?_
      walk_at "gg"
      refine i_n (fun f1 => ?_) (fun f1 => ?_)
      · walk_at "gg"
        refine g_klst (by walk_at "sz") h5 (fun p1 H7 n7 h7 => ?_)
        have htl := h7.get (List.mem_cons_of_mem _ (List.mem_append_right _ (List.Mem.head _)))
        walk_at "gg"
        refine g_rI ⟨by decide, by decide⟩ ?_
        by_cases t4 : t < 4
        · rw [show ((t : Nat) : Int) / 4 = 0 by omega]
          walk_at "gg"
          refine g_ixL (v := .ref t1) htl (atI_nat (j := 1) rfl) ?_
          walk_at "gg"
          refine g_ixL (v := .str z) (h7.same _ _ hp) (atI_nat (by rw [List.getElem?_map, ez]; rfl)) ?_
          walk_at "gg"
          refine g_store (t := nt) (i := 1) rfl h7 (nw e1) (fun H8 h8 => ?_)
          refine key _ _ ⟨B1 ++ [(z, p1, nt)], B2, rfl, h8, ?_, ?_⟩
          · rw [bA_snoc, step1, oS_put (by omega) f1]
            rfl
          · rw [step2, oS_skip (fun c => by omega)]
            exact (List.append_nil _).symm
        · rw [show ((t : Nat) : Int) / 4 = 1 by omega]
          walk_at "gg"
          refine g_ixL (v := .ref t2) htl (atI_nat (j := 2) rfl) ?_
          walk_at "gg"
          refine g_ixL (v := .str z) (h7.same _ _ hp) (atI_nat (by rw [List.getElem?_map, ez]; rfl)) ?_
          walk_at "gg"
          refine g_store (t := nt) (i := 2) rfl h7 (nw e2) (fun H8 h8 => ?_)
          refine key _ _ ⟨B1, B2 ++ [(z, p1, nt)], rfl, h8, ?_, ?_⟩
          · rw [step1, oS_skip (fun c => by omega)]
            exact (List.append_nil _).symm
          · rw [bA_snoc, step2, oS_put (by omega) f1]
            rfl
      · walk_at "gg"
        refine key _ _ ⟨B1, B2, rfl, h5, ?_, ?_⟩
        · rw [step1, oS_skip (fun c => c.2 f1)]
          exact (List.append_nil _).symm
        · rw [step2, oS_skip (fun c => c.2 f1)]
          exact (List.append_nil _).symm
  · rintro σ H5 ⟨B0, B1, B2, y5, rfl, h5, e0, e1, e2⟩
    have ez : ps[8]? = some (ps[8]'(by omega)) := List.getElem?_eq_getElem (by omega)
    generalize ps[8]'(by omega) = z at ez
    have e8 : ((8 : Int)).toNat = 8 := rfl
    rw [e8] at e0 e1 e2
    have nw : ∀ {B : Bt} {os : List (Option Tx)}, bA B = mkTr (ps.take 8) os → z ∉ B.map (·.1) ∧ (bK B).length ≤ 9 := fun {B os} e => by
      refine ⟨fun m => ?_, ?_⟩
      · rw [← bA_keys, e] at m
        exact nd_new ndp ez (mkTr_keys.subset m)
      · have h1 := congrArg List.length e
        have h2 := (mkTr_keys (ps := ps.take 8) (os := os)).length_le
        rw [List.length_map, List.length_take] at h2
        unfold bA at h1
        rw [List.length_map] at h1
        unfold bK
        rw [List.length_map]
        omega
    have step0 := mkTr_step ez (last8 (osA_len fs) (x := bO9 n bare))
    have step1 := mkTr_step ez (last8 (osS_len fs 1) (x := some (rp "x" s0 ++ bL n)))
    have step2 := mkTr_step ez (last8 (osS_len fs 2) (x := some (bL n ++ rp "y" s2)))
    rw [← e0, all9 (osA_len fs)] at step0
    rw [← e1, all9 (osS_len fs 1)] at step1
    rw [← e2, all9 (osS_len fs 2)] at step2
    have p9 : ps.take (8 + 1) = ps := List.take_of_length_le (by omega)
    rw [p9] at step0 step1 step2
    walk_at "g"
    refine g_joinD (fun σ' H' => ∃ (B0' : Bt), σ' = [some (.ref pl), some (.ref fl), some (.ref sl), some (.bl bare), some (.ref tl), y5] ∧ Has H (tO [(t0, B0'), (t1, B1), (t2, B2)] ++ [(tl, .lst [.ref t0, .ref t1, .ref t2])]) H' ∧ bA B0' = treeA ps fs n bare) ?_ (fun nx key => ?_)
    · rintro σ' H6 ⟨B0', rfl, h6, e0'⟩
      walk_at "gg"
      refine g_klst (by walk_at "sz") h6 (fun p1 H7 n7 h7 => ?_)
      walk_at "gg"
      refine g_ixL (v := .int (s0 : Nat)) (h7.same _ _ hs) (atI_nat (j := 0) rfl) ?_
      walk_at "gg"
      refine g_mulL (h7.get (List.Mem.head _)) (by omega) (by omega) (by walk_at "sz") h7 (fun p2 H8 n8 h8 => ?_)
      have e0 : (((s0 : Nat) : Int)).toNat = s0 := rfl
      rw [rp_str, e0] at h8
      walk_at "gg"
      refine g_ixL (v := .int (n : Nat)) (h8.same _ _ hs) (atI_nat (j := 1) rfl) ?_
      walk_at "gg"
      refine ⟨n, rfl, ln, fun p3 H9 s9 n9 h9_ => ?_⟩
      have h9 := h8.made n9 s9 h9_
      walk_at "gg"
      refine g_addL (h9.get (by walk_at "m")) (h9.get (List.Mem.head _)) (sz (by rw [List.length_map, List.length_map, rp_len, bL_len ln]; omega)) h9 (fun p4 H10 n10 h10 => ?_)
      rw [← List.map_append] at h10
      have h10 : Has H ((p4, HO.lst ((rp "x" s0 ++ bL n).map V.str)) :: (tO [(t0, B0'), (t1, B1), (t2, B2)] ++ [(tl, .lst [.ref t0, .ref t1, .ref t2])])) H10 := h10.sub (List.Sublist.cons_cons _ (List.Sublist.cons _ (List.Sublist.cons _ (List.Sublist.cons _ (List.Sublist.refl _)))))
      walk_at "gg"
      refine g_ixL (v := .ref t1) (h10.get (List.mem_cons_of_mem _ (List.mem_append_right _ (List.Mem.head _)))) (atI_nat (j := 1) rfl) ?_
      walk_at "gg"
      refine g_ixL (v := .str z) (h10.same _ _ hp) (atI_nat (j := 8) (by rw [List.getElem?_map, ez]; rfl)) ?_
      walk_at "gg"
      refine g_store (i := 1) rfl h10 (nw e1) (fun H11 h11 => ?_)
      walk_at "gg"
      refine g_ixL (v := .int (n : Nat)) (h11.same _ _ hs) (atI_nat (j := 1) rfl) ?_
      walk_at "gg"
      refine ⟨n, rfl, ln, fun p5 H12 s12 n12 h12_ => ?_⟩
      have h12 := h11.made n12 s12 h12_
      walk_at "gg"
      refine g_klst (by walk_at "sz") h12 (fun p6 H13 n13 h13 => ?_)
      walk_at "gg"
      refine g_ixL (v := .int (s2 : Nat)) (h13.same _ _ hs) (atI_nat (j := 2) rfl) ?_
      walk_at "gg"
      refine g_mulL (h13.get (List.Mem.head _)) (by omega) (by omega) (by walk_at "sz") h13 (fun p7 H14 n14 h14 => ?_)
      have e2_ : (((s2 : Nat) : Int)).toNat = s2 := rfl
      rw [rp_str, e2_] at h14
      walk_at "gg"
      refine g_addL (h14.get (by walk_at "m")) (h14.get (List.Mem.head _)) (sz (by rw [List.length_map, List.length_map, rp_len, bL_len ln]; omega)) h14 (fun p8 H15 n15 h15 => ?_)
      rw [← List.map_append] at h15
      have h15 : Has H ((p8, HO.lst ((bL n ++ rp "y" s2).map V.str)) :: (tO [(t0, B0'), (t1, B1 ++ [(z, p4, rp "x" s0 ++ bL n)]), (t2, B2)] ++ [(tl, .lst [.ref t0, .ref t1, .ref t2])])) H15 := h15.sub (List.Sublist.cons_cons _ (List.Sublist.cons _ (List.Sublist.cons _ (List.Sublist.cons _ (List.Sublist.refl _)))))
      walk_at "gg"
      refine g_ixL (v := .ref t2) (h15.get (List.mem_cons_of_mem _ (List.mem_append_right _ (List.Mem.head _)))) (atI_nat (j := 2) rfl) ?_
      walk_at "gg"
      refine g_ixL (v := .str z) (h15.same _ _ hp) (atI_nat (j := 8) (by rw [List.getElem?_map, ez]; rfl)) ?_
      walk_at "gg"
      refine g_store (i := 2) rfl h15 (nw e2) (fun H16 h16 => ?_)
      walk_at "gg"
      refine q tl t0 t1 t2 _ _ _ H16 h16 e0' ?_ ?_
      · rw [bA_snoc]
        exact step1.symm
      · rw [bA_snoc]
        exact step2.symm
    · have hb : ∀ (D0 : Ends) (hD : D0.nx = nx) (H6 : Hp), Has H (tO [(t0, B0), (t1, B1), (t2, B2)] ++ [(tl, .lst [.ref t0, .ref t1, .ref t2])]) H6 → 0 < n ∨ bare = false → tAsg (tCall (sp_l_base K) [] E0 (tCons (tOp (rIxA K) (tVar 2) (tC (V.int 1))) tNil)) (gSub (tOp (rIxA K) (tVar 4) (tC (V.int 0))) (tOp (rIxA K) (tVar 0) (tC (V.int 8))) rSetA) D0 [some (.ref pl), some (.ref fl), some (.ref sl), some (.bl bare), some (.ref tl), y5] H6 := fun D0 hD H6 h6 hc => by
        walk_at "gg"
        refine g_ixL (v := .int (n : Nat)) (h6.same _ _ hs) (atI_nat (j := 1) rfl) ?_
        walk_at "gg"
        refine ⟨n, rfl, ln, fun p5 H12 s12 n12 h12_ => ?_⟩
        have h12 := h6.made n12 s12 h12_
        walk_at "gg"
        refine g_ixL (v := .ref t0) (h12.get (List.mem_cons_of_mem _ (List.mem_append_right _ (List.Mem.head _)))) (atI_nat (j := 0) rfl) ?_
        walk_at "gg"
        refine g_ixL (v := .str z) (h12.same _ _ hp) (atI_nat (j := 8) (by rw [List.getElem?_map, ez]; rfl)) ?_
        walk_at "gg"
        refine g_store (i := 0) rfl h12 (nw e0) (fun H16 h16 => ?_)
        rw [hD]
        refine key _ _ ⟨_, rfl, h16, ?_⟩
        rw [bA_snoc]
        show _ = mkTr ps _
        rw [step0]
        unfold bO9
        rw [if_pos hc]
        rfl
      walk_at "gg"
      refine g_ixL (v := .int (n : Nat)) (h5.same _ _ hs) (atI_nat (j := 1) rfl) ?_
      walk_at "gg"
      refine i_d (fun n0 => ?_) (fun n0 => ?_)
      · refine hb _ ?_ H5 h5 (.inl (by omega))
        rfl
      walk_at "gg"
      refine g_truB ?_
      cases bare with
      | false =>
        refine hb _ ?_ H5 h5 (.inr rfl)
        rfl
      | true =>
        walk_at "gg"
        refine key _ _ ⟨B0, rfl, h5, ?_⟩
        show _ = mkTr ps _
        rw [step0]
        unfold bO9
        rw [if_neg (fun c => by rcases c with c | c; exact n0 (by omega); cases c)]
        exact (List.append_nil _).symm
end

end K10

namespace K10
open PySem PySem.Spec PyProof.Rows L2 Qk
local macro_rules | `(tactic| walk_at "m") => `(tactic| ((repeat (first | exact List.Mem.head _ | apply List.Mem.tail)); done))
local macro_rules | `(tactic| walk_at "h") => `(tactic| first | assumption | exact Has.gF (by assumption) (by assumption) | exact Has.get (by assumption) (by walk_at "m"))
local macro_rules | `(tactic| walk_at "c") => `(tactic| ((repeat (first | exact Chg.hd | apply Chg.tl)); done))
local macro_rules | `(tactic| walk_at "is") => `(tactic| first
  | ((with_reducible refine' is2_non ?gh ?_); (case gh => walk_at "h"))
  | (with_reducible refine is_int_list ?_)
  | (with_reducible refine is_int_tuple ?_)
  | (with_reducible refine is_int_dict ?_)
  | (with_reducible refine is_int_int ?_)
  | (with_reducible refine is_int_bool ?_)
  | (with_reducible refine is_int_str ?_)
  | ((with_reducible refine' is2_int ?gh ?_); (case gh => walk_at "h"))
  | (with_reducible refine is_str_list ?_)
  | (with_reducible refine is_str_tuple ?_)
  | (with_reducible refine is_str_dict ?_)
  | (with_reducible refine is_str_int ?_)
  | (with_reducible refine is_str_bool ?_)
  | (with_reducible refine is_str_str ?_)
  | ((with_reducible refine' is2_str ?gh ?_); (case gh => walk_at "h"))
  | (with_reducible refine is_bool_list ?_)
  | (with_reducible refine is_bool_tuple ?_)
  | (with_reducible refine is_bool_dict ?_)
  | (with_reducible refine is_bool_int ?_)
  | (with_reducible refine is_bool_bool ?_)
  | (with_reducible refine is_bool_str ?_)
  | ((with_reducible refine' is2_bool ?gh ?_); (case gh => walk_at "h"))
  | ((with_reducible refine' is_list_list ?gh ?_); (case gh => walk_at "h"))
  | ((with_reducible refine' is_list_tuple ?gh ?_); (case gh => walk_at "h"))
  | ((with_reducible refine' is_list_dict ?gh ?_); (case gh => walk_at "h"))
  | ((with_reducible refine' is_list_int ?gh ?_); (case gh => walk_at "h"))
  | ((with_reducible refine' is_list_bool ?gh ?_); (case gh => walk_at "h"))
  | ((with_reducible refine' is_list_str ?gh ?_); (case gh => walk_at "h"))
  | ((with_reducible refine' is2_list ?ga ?gb ?_); (case ga => walk_at "h"); (case gb => walk_at "h"))
  | ((with_reducible refine' is_tuple_list ?gh ?_); (case gh => walk_at "h"))
  | ((with_reducible refine' is_tuple_tuple ?gh ?_); (case gh => walk_at "h"))
  | ((with_reducible refine' is_tuple_dict ?gh ?_); (case gh => walk_at "h"))
  | ((with_reducible refine' is_tuple_int ?gh ?_); (case gh => walk_at "h"))
  | ((with_reducible refine' is_tuple_bool ?gh ?_); (case gh => walk_at "h"))
  | ((with_reducible refine' is_tuple_str ?gh ?_); (case gh => walk_at "h"))
  | ((with_reducible refine' is2_tuple ?ga ?gb ?_); (case ga => walk_at "h"); (case gb => walk_at "h"))
  | ((with_reducible refine' is_dict_list ?gh ?_); (case gh => walk_at "h"))
  | ((with_reducible refine' is_dict_tuple ?gh ?_); (case gh => walk_at "h"))
  | ((with_reducible refine' is_dict_dict ?gh ?_); (case gh => walk_at "h"))
  | ((with_reducible refine' is_dict_int ?gh ?_); (case gh => walk_at "h"))
  | ((with_reducible refine' is_dict_bool ?gh ?_); (case gh => walk_at "h"))
  | ((with_reducible refine' is_dict_str ?gh ?_); (case gh => walk_at "h"))
  | ((with_reducible refine' is2_dict ?ga ?gb ?_); (case ga => walk_at "h"); (case gb => walk_at "h")))
local macro_rules | `(tactic| walk_at "g") => `(tactic| first
  | (with_reducible refine g_seq ?_)
  | (with_reducible refine g_asg ?_)
  | ((with_reducible refine g_name ?_); dsimp only [List.set, wipe, List.map])
  | ((with_reducible refine' g_var ?gv ?_); (case gv => exact rfl))
  | (with_reducible refine g_c ?_)
  | (with_reducible refine g_op ?_)
  | (with_reducible refine g_cons ?_)
  | (with_reducible refine g_nil ?_)
  | (with_reducible refine g_cb ?_)
  | (with_reducible refine g_call ?_)
  | (with_reducible refine g_tup ?_)
  | (with_reducible refine g_lst ?_)
  | (with_reducible refine g_bm ?_)
  | (with_reducible refine g_bm0 ?_)
  | ((with_reducible refine' g_kbm ?gh ?_); (case gh => walk_at "h"))
  | (with_reducible refine g_drop ?_)
  | (with_reducible refine g_ret ?_)
  | (with_reducible refine g_retN ?_)
  | (with_reducible refine g_next ?_)
  | (with_reducible refine g_brk ?_)
  | (with_reducible refine g_cont ?_)
  | (with_reducible refine g_if ?_)
  | ((with_reducible refine' g_aug ?gv ?_); (case gv => exact rfl))
  | (with_reducible refine g_ipI ?_)
  | (with_reducible refine g_test ?_)
  | (with_reducible refine g_tB ?_)
  | (with_reducible refine g_kB ?_)
  | (with_reducible refine g_not ?_)
  | (with_reducible refine g_and ?_)
  | (with_reducible refine g_or ?_)
  | (with_reducible refine g_andV ?_)
  | (with_reducible refine g_orV ?_)
  | (with_reducible refine g_notV ?_)
  | (with_reducible refine g_ifE ?_)
  | (with_reducible refine g_addI ?_)
  | (with_reducible refine g_rI0 ?_)
  | (with_reducible refine g_eqI ?_)
  | (with_reducible refine g_eqS ?_)
  | (with_reducible refine g_neI ?_)
  | (with_reducible refine g_neS ?_)
  | (with_reducible refine g_isN ?_)
  | (with_reducible refine g_notN ?_)
  | (with_reducible refine g_int ?_)
  | (with_reducible refine g_max2 ?_)
  | (with_reducible refine g_min2 ?_)
  | ((with_reducible refine' g_lenL ?gh ?_); (case gh => walk_at "h"))
  | (with_reducible refine g_sub ?_)
  | (with_reducible refine g_gcons ?_)
  | (with_reducible refine g_gnil ?_)
  | (with_reducible refine g_un ?_)
  | (with_reducible refine g_rU ?_)
  | (with_reducible refine g_forL ?_)
  | (with_reducible refine g_forS ?_)
  | (with_reducible refine g_forR1 ?_)
  | (with_reducible refine g_forR2 ?_)
  | (with_reducible refine g_forR3 ?_)
  | (with_reducible refine g_lcL ?_)
  | (with_reducible refine g_lcR1 ?_)
  | (with_reducible refine g_lcR2 ?_)
  | (with_reducible refine g_slice ?_)
  | (with_reducible refine g_part ?_)
  | (with_reducible refine g_kOI ?_)
  | (with_reducible refine g_nopart ?_)
  | (with_reducible refine g_yes ?_)
  | ((with_reducible refine' g_wipe ?gv ?_); (case gv => exact rfl))
  | (with_reducible refine iteT ?_)
  | (with_reducible refine iteF ?_)
  | (with_reducible refine i_nf ?_)
  | (with_reducible refine i_nt ?_)
  | ((with_reducible refine' g_gtup ?gh ?gl ?_); (case gh => walk_at "h"); (case gl => exact rfl))
  | ((with_reducible refine' g_notinI ?gh ?_); (case gh => walk_at "h"))
  | ((with_reducible refine' g_inI ?gh ?_); (case gh => walk_at "h"))
  | ((with_reducible refine' g_kget2 ?gh ?_); (case gh => walk_at "h"))
  | ((with_reducible refine' g_kgotI ?gh ?_); (case gh => walk_at "h"))
  | (with_reducible refine g_tRev ?_)
  | (with_reducible refine g_neB ?_)
  | (with_reducible refine g_eqB ?_)
  | ((with_reducible refine' g_lenT ?gh ?_); (case gh => walk_at "h"))
  | (with_reducible refine g_star ?_)
  | ((with_reducible refine' g_kstarL ?gh ?_); (case gh => walk_at "h"))
  | ((with_reducible refine' g_kstarT ?gh ?_); (case gh => walk_at "h"))
  | (with_reducible refine g_tru ?_)
  | ((with_reducible refine' g_truL ?gh ?_); (case gh => walk_at "h"))
  | (with_reducible refine g_get2 ?_)
  | (with_reducible refine g_try ?_)
  | (with_reducible refine g_fld ?_)
  | (with_reducible refine g_sfld ?_)
  | (with_reducible refine g_meth ?_)
  | (with_reducible refine g_make ?_)
  | (with_reducible refine g_del ?_)
  | (with_reducible refine g_callS ?_)
  | (with_reducible refine g_raise ?_)
  | (with_reducible refine g_xf ?_)
  | (with_reducible refine g_m0 ?_)
  | (with_reducible refine g_km0 ?_)
  | walk_at "is")
local macro_rules | `(tactic| walk_at "gg") => `(tactic| repeat walk_at "g")
local macro_rules | `(tactic| walk_at "sz") => `(tactic| (refine sz ?_; simp only [List.length_cons, List.length_nil, List.length_map, List.length_append, List.length_replicate]; omega))
local macro_rules | `(tactic| walk_at "sub") => `(tactic| ((repeat (first | exact List.Sublist.slnil | with_reducible apply List.Sublist.cons_cons | with_reducible apply List.Sublist.cons)); done))

/-! ### what the merges are -/
theorem dec_one {F G : List Str} (h : F = [] ∨ G = []) : dec [] F G = (F ++ G, 0) := by
  unfold dec
  rcases h with rfl | rfl
  · by_cases e : [] = G
    · rw [if_pos e, ← e]
      rfl
    · rw [if_neg e, if_neg (fun h => e h.symm), if_pos rfl]
      rfl
  · by_cases e : F = []
    · rw [if_pos e, e]
      rfl
    · rw [if_neg e, if_pos rfl, List.append_nil]
theorem LW_keep {f1 f2 : List Str} (h : f1 = [] ∨ f2 = []) : ∀ (B : List Str), UL.LW f1 f2 (B.map fun b => (b, (true, []), (true, []))) [] [] [] = (B ++ (f1 ++ f2), 0)
  | [] => by
    show dec [] ([] ++ f1) ([] ++ f2) = _
    rw [List.nil_append, List.nil_append, dec_one h]
    rfl
  | b :: B => by
    have ih := LW_keep h B
    rw [List.map_cons, UL.LW, if_pos (show (true && true) = true from rfl), ih]
    have e : dec ([] : List Str) ([] ++ []) ([] ++ []) = ([], 0) := rfl
    rw [e]
    simp
theorem sd_keep (B f : List Str) : UL.sd (B.map fun b => (b, true, ([] : List Str))) f = B ++ f := by
  induction B with
  | nil => rfl
  | cons b B ih =>
    rw [List.map_cons, UL.sd, ih]
    rfl
/-- fresh lines ahead on one side, behind on one side -/
theorem mrg_ends {B F1 F2 G1 G2 : List Str} (hB : B ≠ []) (nd : B.Nodup) (h1 : ∀ y ∈ F1, y ∉ B) (h2 : ∀ y ∈ F2, y ∉ B) (g1 : ∀ y ∈ G1, y ∉ B) (g2 : ∀ y ∈ G2, y ∉ B) (o1 : F1 = [] ∨ G1 = []) (o2 : F2 = [] ∨ G2 = []) :
    (mrgL (tch B (F1 ++ B ++ F2) (G1 ++ B ++ G2)) = F1 ++ G1 ++ B ++ (F2 ++ G2) ∧ mrgN (tch B (F1 ++ B ++ F2) (G1 ++ B ++ G2)) = 0) := by
  obtain ⟨b, B', rfl⟩ : ∃ b B', B = b :: B' := by
    cases B with
    | nil => exact (hB rfl).elim
    | cons b B' => exact ⟨b, B', rfl⟩
  have m0 : ((b, (true, F1), (true, G1)) :: B'.map fun b => (b, (true, ([] : List Str)), (true, ([] : List Str)))).map (fun x : UL.It2 => x.1) = b :: B' := by
    rw [List.map_cons, List.map_map, show ((fun x : UL.It2 => x.1) ∘ fun b : Str => (b, (true, ([] : List Str)), (true, ([] : List Str)))) = id from rfl, List.map_id]
  have m1 : UL.sd (((b, (true, F1), (true, G1)) :: B'.map fun b => (b, (true, ([] : List Str)), (true, ([] : List Str)))).map UL.s1) F2 = F1 ++ b :: B' ++ F2 := by
    rw [List.map_cons, List.map_map]
    show F1 ++ [b] ++ UL.sd (B'.map fun b => (b, true, [])) F2 = _
    rw [sd_keep]
    simp
  have m2 : UL.sd (((b, (true, F1), (true, G1)) :: B'.map fun b => (b, (true, ([] : List Str)), (true, ([] : List Str)))).map UL.s2) G2 = G1 ++ b :: B' ++ G2 := by
    rw [List.map_cons, List.map_map]
    show G1 ++ [b] ++ UL.sd (B'.map fun b => (b, true, [])) G2 = _
    rw [sd_keep]
    simp
  have key := UL.mrg_unl (fun z => z ∈ b :: B') (its := (b, (true, F1), (true, G1)) :: B'.map fun b => (b, (true, []), (true, []))) (f1 := F2) (f2 := G2) (by rw [m0]; exact nd) (fun it hit => by
      rcases List.mem_cons.mp hit with rfl | hit
      · exact List.mem_cons_self
      · obtain ⟨c, hc, rfl⟩ := List.mem_map.mp hit
        exact List.mem_cons_of_mem _ hc) (fun it hit => by
      rcases List.mem_cons.mp hit with rfl | hit
      · exact ⟨h1, g1⟩
      · obtain ⟨c, hc, rfl⟩ := List.mem_map.mp hit
        exact ⟨(fun y hy => by cases hy), (fun y hy => by cases hy)⟩) h2 g2
  rw [m0, m1, m2, UL.LW, if_pos (show (true && true) = true from rfl), LW_keep o2, List.nil_append, List.nil_append, dec_one o1] at key
  have k1 := congrArg Prod.fst key
  have k2 := congrArg Prod.snd key
  have k1 : mrgL (tch (b :: B') (F1 ++ b :: B' ++ F2) (G1 ++ b :: B' ++ G2)) = (F1 ++ G1) ++ ([b] ++ (B' ++ (F2 ++ G2))) := k1
  refine ⟨?_, k2⟩
  rw [k1]
  simp
theorem mrg_bare (X Y : List Str) (h : X ≠ Y) (hy : Y ≠ []) (hx : X ≠ []) : mrgL (tch [] X Y) = clash [] X Y ∧ mrgN (tch [] X Y) = 1 := by
  have key := UL.mrg_unl (fun _ => False) (its := []) (f1 := X) (f2 := Y) (by simp) (fun it h => by cases h) (fun it h => by cases h) (fun _ _ h => h) (fun _ _ h => h)
  have key : (mrgL (tch [] X Y), mrgN (tch [] X Y)) = dec [] ([] ++ X) ([] ++ Y) := key
  rw [List.nil_append, List.nil_append] at key
  have d : dec [] X Y = (clash [] X Y, 1) := by
    unfold dec
    rw [if_neg h, if_neg hy, if_neg hx]
  rw [d] at key
  exact ⟨congrArg Prod.fst key, congrArg Prod.snd key⟩
/-- the ninth path's text, as the law has it -/
def longT (s0 n s2 : Nat) (turned : Bool) : List Str := if 0 < n then rp "x" s0 ++ bL n ++ rp "y" s2 else if turned = true then clash [] (rp "y" s2) (rp "x" s0) else clash [] (rp "x" s0) (rp "y" s2)
def mtX (s0 n : Nat) : List Str := rp "x" s0 ++ bL n
def mtY (n s2 : Nat) : List Str := bL n ++ rp "y" s2
theorem rp_mem {c z : Str} {n : Nat} (h : z ∈ rp c n) : z = c := List.eq_of_mem_replicate h
theorem x_lM : ("x" : Str) ∉ lM ∧ ("y" : Str) ∉ lM ∧ lM.Nodup := by decide +kernel
theorem fx (n s : Nat) : ∀ z ∈ rp "x" s, z ∉ bL n := fun z h m => by
  rw [rp_mem h] at m
  exact x_lM.1 (List.mem_of_mem_take m)
theorem fy (n s : Nat) : ∀ z ∈ rp "y" s, z ∉ bL n := fun z h m => by
  rw [rp_mem h] at m
  exact x_lM.2.1 (List.mem_of_mem_take m)
theorem XY_ne {s0 n s2 : Nat} (h0 : 0 < s0) (h2 : 0 < s2) : mtX s0 n ≠ mtY n s2 := fun e => by
  have m : ("x" : Str) ∈ mtY n s2 := by
    rw [← e]
    exact List.mem_append_left _ (List.mem_replicate.mpr ⟨by omega, rfl⟩)
  rcases List.mem_append.mp m with m | m
  · exact x_lM.1 (List.mem_of_mem_take m)
  · have := rp_mem m
    exact absurd this (by decide +kernel)
theorem X_ne {s0 n : Nat} (h0 : 0 < s0) : mtX s0 n ≠ bL n := fun e => by
  have m : ("x" : Str) ∈ bL n := by
    rw [← e]
    exact List.mem_append_left _ (List.mem_replicate.mpr ⟨by omega, rfl⟩)
  exact x_lM.1 (List.mem_of_mem_take m)
theorem Y_ne {n s2 : Nat} (h2 : 0 < s2) : mtY n s2 ≠ bL n := fun e => by
  have m : ("y" : Str) ∈ bL n := by
    rw [← e]
    exact List.mem_append_right _ (List.mem_replicate.mpr ⟨by omega, rfl⟩)
  exact x_lM.2.1 (List.mem_of_mem_take m)
theorem mrg_long {s0 n s2 : Nat} (ln : n ≤ 11) (h0 : 0 < s0) (h2 : 0 < s2) : mrgL (tch (bL n) (mtX s0 n) (mtY n s2)) = longT s0 n s2 false ∧ mrgN (tch (bL n) (mtX s0 n) (mtY n s2)) = (if 0 < n then 0 else 1) ∧ mrgL (tch (bL n) (mtY n s2) (mtX s0 n)) = longT s0 n s2 true ∧ mrgN (tch (bL n) (mtY n s2) (mtX s0 n)) = (if 0 < n then 0 else 1) := by
  by_cases hn : 0 < n
  · have hb : bL n ≠ [] := fun e => by
      have := congrArg List.length e
      rw [bL_len ln] at this
      exact absurd this (by show ¬ n = 0; omega)
    have nd : (bL n).Nodup := x_lM.2.2.sublist (List.take_sublist _ _)
    have a := mrg_ends (B := bL n) (F1 := rp "x" s0) (F2 := []) (G1 := []) (G2 := rp "y" s2) hb nd (fx n s0) (fun y hy => by cases hy) (fun y hy => by cases hy) (fy n s2) (.inr rfl) (.inl rfl)
    have b := mrg_ends (B := bL n) (F1 := []) (F2 := rp "y" s2) (G1 := rp "x" s0) (G2 := []) hb nd (fun y hy => by cases hy) (fy n s2) (fx n s0) (fun y hy => by cases hy) (.inl rfl) (.inr rfl)
    simp only [List.append_nil, List.nil_append] at a b
    unfold longT mtX mtY
    rw [if_pos hn, if_pos hn, if_pos hn]
    exact ⟨a.1, a.2, b.1, b.2⟩
  · have e : n = 0 := by omega
    subst e
    have b0 : bL 0 = [] := rfl
    have ne := XY_ne (n := 0) h0 h2
    have nx := X_ne (n := 0) h0
    have ny := Y_ne (n := 0) h2
    rw [b0] at nx ny
    have a := mrg_bare (mtX s0 0) (mtY 0 s2) ne ny nx
    have b := mrg_bare (mtY 0 s2) (mtX s0 0) (fun e => ne e.symm) nx ny
    have ex : mtX s0 0 = rp "x" s0 := List.append_nil _
    have ey : mtY 0 s2 = rp "y" s2 := rfl
    unfold longT
    rw [if_neg hn, if_neg hn, if_neg hn, b0, a.1, a.2, b.1, b.2, ex, ey]
    exact ⟨rfl, rfl, rfl, rfl⟩

end K10

namespace K10
open PySem PySem.Spec PyProof.Rows L2 Qk
local macro_rules | `(tactic| walk_at "m") => `(tactic| ((repeat (first | exact List.Mem.head _ | apply List.Mem.tail)); done))
local macro_rules | `(tactic| walk_at "h") => `(tactic| first | assumption | exact Has.gF (by assumption) (by assumption) | exact Has.get (by assumption) (by walk_at "m"))
local macro_rules | `(tactic| walk_at "c") => `(tactic| ((repeat (first | exact Chg.hd | apply Chg.tl)); done))
local macro_rules | `(tactic| walk_at "is") => `(tactic| first
  | ((with_reducible refine' is2_non ?gh ?_); (case gh => walk_at "h"))
  | (with_reducible refine is_int_list ?_)
  | (with_reducible refine is_int_tuple ?_)
  | (with_reducible refine is_int_dict ?_)
  | (with_reducible refine is_int_int ?_)
  | (with_reducible refine is_int_bool ?_)
  | (with_reducible refine is_int_str ?_)
  | ((with_reducible refine' is2_int ?gh ?_); (case gh => walk_at "h"))
  | (with_reducible refine is_str_list ?_)
  | (with_reducible refine is_str_tuple ?_)
  | (with_reducible refine is_str_dict ?_)
  | (with_reducible refine is_str_int ?_)
  | (with_reducible refine is_str_bool ?_)
  | (with_reducible refine is_str_str ?_)
  | ((with_reducible refine' is2_str ?gh ?_); (case gh => walk_at "h"))
  | (with_reducible refine is_bool_list ?_)
  | (with_reducible refine is_bool_tuple ?_)
  | (with_reducible refine is_bool_dict ?_)
  | (with_reducible refine is_bool_int ?_)
  | (with_reducible refine is_bool_bool ?_)
  | (with_reducible refine is_bool_str ?_)
  | ((with_reducible refine' is2_bool ?gh ?_); (case gh => walk_at "h"))
  | ((with_reducible refine' is_list_list ?gh ?_); (case gh => walk_at "h"))
  | ((with_reducible refine' is_list_tuple ?gh ?_); (case gh => walk_at "h"))
  | ((with_reducible refine' is_list_dict ?gh ?_); (case gh => walk_at "h"))
  | ((with_reducible refine' is_list_int ?gh ?_); (case gh => walk_at "h"))
  | ((with_reducible refine' is_list_bool ?gh ?_); (case gh => walk_at "h"))
  | ((with_reducible refine' is_list_str ?gh ?_); (case gh => walk_at "h"))
  | ((with_reducible refine' is2_list ?ga ?gb ?_); (case ga => walk_at "h"); (case gb => walk_at "h"))
  | ((with_reducible refine' is_tuple_list ?gh ?_); (case gh => walk_at "h"))
  | ((with_reducible refine' is_tuple_tuple ?gh ?_); (case gh => walk_at "h"))
  | ((with_reducible refine' is_tuple_dict ?gh ?_); (case gh => walk_at "h"))
  | ((with_reducible refine' is_tuple_int ?gh ?_); (case gh => walk_at "h"))
  | ((with_reducible refine' is_tuple_bool ?gh ?_); (case gh => walk_at "h"))
  | ((with_reducible refine' is_tuple_str ?gh ?_); (case gh => walk_at "h"))
  | ((with_reducible refine' is2_tuple ?ga ?gb ?_); (case ga => walk_at "h"); (case gb => walk_at "h"))
  | ((with_reducible refine' is_dict_list ?gh ?_); (case gh => walk_at "h"))
  | ((with_reducible refine' is_dict_tuple ?gh ?_); (case gh => walk_at "h"))
  | ((with_reducible refine' is_dict_dict ?gh ?_); (case gh => walk_at "h"))
  | ((with_reducible refine' is_dict_int ?gh ?_); (case gh => walk_at "h"))
  | ((with_reducible refine' is_dict_bool ?gh ?_); (case gh => walk_at "h"))
  | ((with_reducible refine' is_dict_str ?gh ?_); (case gh => walk_at "h"))
  | ((with_reducible refine' is2_dict ?ga ?gb ?_); (case ga => walk_at "h"); (case gb => walk_at "h")))
local macro_rules | `(tactic| walk_at "g") => `(tactic| first
  | (with_reducible refine g_seq ?_)
  | (with_reducible refine g_asg ?_)
  | ((with_reducible refine g_name ?_); dsimp only [List.set, wipe, List.map])
  | ((with_reducible refine' g_var ?gv ?_); (case gv => exact rfl))
  | (with_reducible refine g_c ?_)
  | (with_reducible refine g_op ?_)
  | (with_reducible refine g_cons ?_)
  | (with_reducible refine g_nil ?_)
  | (with_reducible refine g_cb ?_)
  | (with_reducible refine g_call ?_)
  | (with_reducible refine g_tup ?_)
  | (with_reducible refine g_lst ?_)
  | (with_reducible refine g_bm ?_)
  | (with_reducible refine g_bm0 ?_)
  | ((with_reducible refine' g_kbm ?gh ?_); (case gh => walk_at "h"))
  | (with_reducible refine g_drop ?_)
  | (with_reducible refine g_ret ?_)
  | (with_reducible refine g_retN ?_)
  | (with_reducible refine g_next ?_)
  | (with_reducible refine g_brk ?_)
  | (with_reducible refine g_cont ?_)
  | (with_reducible refine g_if ?_)
  | ((with_reducible refine' g_aug ?gv ?_); (case gv => exact rfl))
  | (with_reducible refine g_ipI ?_)
  | (with_reducible refine g_test ?_)
  | (with_reducible refine g_tB ?_)
  | (with_reducible refine g_kB ?_)
  | (with_reducible refine g_not ?_)
  | (with_reducible refine g_and ?_)
  | (with_reducible refine g_or ?_)
  | (with_reducible refine g_andV ?_)
  | (with_reducible refine g_orV ?_)
  | (with_reducible refine g_notV ?_)
  | (with_reducible refine g_ifE ?_)
  | (with_reducible refine g_addI ?_)
  | (with_reducible refine g_rI0 ?_)
  | (with_reducible refine g_eqI ?_)
  | (with_reducible refine g_eqS ?_)
  | (with_reducible refine g_neI ?_)
  | (with_reducible refine g_neS ?_)
  | (with_reducible refine g_isN ?_)
  | (with_reducible refine g_notN ?_)
  | (with_reducible refine g_int ?_)
  | (with_reducible refine g_max2 ?_)
  | (with_reducible refine g_min2 ?_)
  | ((with_reducible refine' g_lenL ?gh ?_); (case gh => walk_at "h"))
  | (with_reducible refine g_sub ?_)
  | (with_reducible refine g_gcons ?_)
  | (with_reducible refine g_gnil ?_)
  | (with_reducible refine g_un ?_)
  | (with_reducible refine g_rU ?_)
  | (with_reducible refine g_forL ?_)
  | (with_reducible refine g_forS ?_)
  | (with_reducible refine g_forR1 ?_)
  | (with_reducible refine g_forR2 ?_)
  | (with_reducible refine g_forR3 ?_)
  | (with_reducible refine g_lcL ?_)
  | (with_reducible refine g_lcR1 ?_)
  | (with_reducible refine g_lcR2 ?_)
  | (with_reducible refine g_slice ?_)
  | (with_reducible refine g_part ?_)
  | (with_reducible refine g_kOI ?_)
  | (with_reducible refine g_nopart ?_)
  | (with_reducible refine g_yes ?_)
  | ((with_reducible refine' g_wipe ?gv ?_); (case gv => exact rfl))
  | (with_reducible refine iteT ?_)
  | (with_reducible refine iteF ?_)
  | (with_reducible refine i_nf ?_)
  | (with_reducible refine i_nt ?_)
  | ((with_reducible refine' g_gtup ?gh ?gl ?_); (case gh => walk_at "h"); (case gl => exact rfl))
  | ((with_reducible refine' g_notinI ?gh ?_); (case gh => walk_at "h"))
  | ((with_reducible refine' g_inI ?gh ?_); (case gh => walk_at "h"))
  | ((with_reducible refine' g_kget2 ?gh ?_); (case gh => walk_at "h"))
  | ((with_reducible refine' g_kgotI ?gh ?_); (case gh => walk_at "h"))
  | (with_reducible refine g_tRev ?_)
  | (with_reducible refine g_neB ?_)
  | (with_reducible refine g_eqB ?_)
  | ((with_reducible refine' g_lenT ?gh ?_); (case gh => walk_at "h"))
  | (with_reducible refine g_star ?_)
  | ((with_reducible refine' g_kstarL ?gh ?_); (case gh => walk_at "h"))
  | ((with_reducible refine' g_kstarT ?gh ?_); (case gh => walk_at "h"))
  | (with_reducible refine g_tru ?_)
  | ((with_reducible refine' g_truL ?gh ?_); (case gh => walk_at "h"))
  | (with_reducible refine g_get2 ?_)
  | (with_reducible refine g_try ?_)
  | (with_reducible refine g_fld ?_)
  | (with_reducible refine g_sfld ?_)
  | (with_reducible refine g_meth ?_)
  | (with_reducible refine g_make ?_)
  | (with_reducible refine g_del ?_)
  | (with_reducible refine g_callS ?_)
  | (with_reducible refine g_raise ?_)
  | (with_reducible refine g_xf ?_)
  | (with_reducible refine g_m0 ?_)
  | (with_reducible refine g_km0 ?_)
  | walk_at "is")
local macro_rules | `(tactic| walk_at "gg") => `(tactic| repeat walk_at "g")
local macro_rules | `(tactic| walk_at "sz") => `(tactic| (refine sz ?_; simp only [List.length_cons, List.length_nil, List.length_map, List.length_append, List.length_replicate]; omega))
local macro_rules | `(tactic| walk_at "sub") => `(tactic| ((repeat (first | exact List.Sublist.slnil | with_reducible apply List.Sublist.cons_cons | with_reducible apply List.Sublist.cons)); done))

/-! ### the merges of the law's trees -/
/-- what a function tells of some paths -/
def UpTo {α : Type} (f : Str → Option α) (zs : List Str) (xs : List (Str × α)) : Prop := (xs.map (·.1)).Sublist zs ∧ ∀ z n, (z, n) ∈ xs ↔ z ∈ zs ∧ f z = some n
theorem UpTo.nil {α : Type} {f : Str → Option α} : UpTo f [] [] := ⟨List.Sublist.refl _, fun z n => by simp⟩
theorem UpTo.skip {α : Type} {f : Str → Option α} {zs : List Str} {xs : List (Str × α)} {z : Str} (h : UpTo f zs xs) (e : f z = none) : UpTo f (zs ++ [z]) xs := by
  refine ⟨h.1.trans (List.sublist_append_left _ _), fun z' n => ?_⟩
  rw [h.2, List.mem_append, List.mem_singleton]
  constructor
  · exact fun h => ⟨.inl h.1, h.2⟩
  · rintro ⟨h | h, h2⟩
    · exact ⟨h, h2⟩
    · subst h
      rw [e] at h2
      cases h2
theorem UpTo.put {α : Type} {f : Str → Option α} {zs : List Str} {xs : List (Str × α)} {z : Str} {n : α} (h : UpTo f zs xs) (e : f z = some n) : UpTo f (zs ++ [z]) (xs ++ [(z, n)]) := by
  refine ⟨by rw [List.map_append]; exact h.1.append (List.Sublist.refl _), fun z' m => ?_⟩
  rw [List.mem_append, h.2, List.mem_append, List.mem_singleton, List.mem_singleton]
  constructor
  · rintro (h | h)
    · exact ⟨.inl h.1, h.2⟩
    · injection h with h1 h2
      subst h1
      subst h2
      exact ⟨.inr rfl, e⟩
  · rintro ⟨h | h, h2⟩
    · exact .inl ⟨h, h2⟩
    · subst h
      rw [e] at h2
      injection h2 with h2
      rw [h2]
      exact .inr rfl
theorem UpTo.len {α : Type} {f : Str → Option α} {zs : List Str} {xs : List (Str × α)} (h : UpTo f zs xs) : xs.length ≤ zs.length := by
  have := h.1.length_le
  rw [List.length_map] at this
  exact this
theorem UpTo.all {α : Type} {f : Str → Option α} {zs : List Str} {xs : List (Str × α)} (h : UpTo f zs xs) (out : ∀ z, z ∉ zs → f z = none) (z : Str) (n : α) : (z, n) ∈ xs ↔ f z = some n := by
  rw [h.2]
  refine ⟨fun h => h.2, fun h => ⟨?_, h⟩⟩
  refine Classical.byContradiction fun c => ?_
  rw [out z c] at h
  cases h
theorem getT_mk {ps : List Str} {os : List (Option Tx)} {k : Nat} {z : Str} {o : Option Tx} (nd : ps.Nodup) (hz : ps[k]? = some z) (ho : os[k]? = some o) : getT (mkTr ps os) z = o := by
  have ndm : ((mkTr ps os).map (·.1)).Nodup := mkTr_keys.nodup nd
  have mem : ∀ t, (z, t) ∈ mkTr ps os → o = some t := fun t ht => by
    unfold mkTr at ht
    obtain ⟨q, hq, e⟩ := List.mem_filterMap.mp ht
    obtain ⟨j, hj⟩ := List.mem_iff_getElem?.mp hq
    obtain ⟨h1, h2⟩ := List.getElem?_zip_eq_some.mp hj
    obtain ⟨t', et, e2⟩ := Option.map_eq_some_iff.mp e
    injection e2 with e3 e4
    rw [e3] at h1
    have jk := nd_inj nd h1 hz
    rw [jk, ho, et, e4] at h2
    exact Option.some.inj h2
  cases o with
  | none =>
    refine getT_none.mpr fun m => ?_
    obtain ⟨p, hp, e⟩ := List.mem_map.mp m
    obtain ⟨z', t⟩ := p
    have e : z' = z := e
    subst e
    cases mem t hp
  | some t =>
    refine getT_of ndm ?_
    unfold mkTr
    refine List.mem_filterMap.mpr ⟨(z, some t), List.mem_iff_getElem?.mpr ⟨k, List.getElem?_zip_eq_some.mpr ⟨hz, ho⟩⟩, rfl⟩
def wT (fs : List Int) (s0 n s2 : Nat) (tu : Bool) (k : Nat) : Option Tx := if k = 8 then some (longT s0 n s2 tu) else if fs.getD k 0 = 0 ∨ fs.getD k 0 = 3 then some nt else none
def wN (fs : List Int) (n k : Nat) : Option Nat := if k = 8 then (if 0 < n then none else some 1) else if fs.getD k 0 = 3 then some 0 else none
theorem MT_w {ps : List Str} {fs : List Int} {s0 n s2 : Nat} {bare : Bool} (nd : ps.Nodup) (lf : fs.length = 8) (hf : ∀ f ∈ fs, 0 ≤ f ∧ f ≤ 3) (ln : n ≤ 11) (h0 : 0 < s0) (h2 : 0 < s2) {k : Nat} {z : Str} (hk : k < 9) (hz : ps[k]? = some z) :
    MT (treeA ps fs n bare) (treeX ps fs s0 n) (treeY ps fs n s2) z = (wT fs s0 n s2 false k, wN fs n k) ∧ MT (treeA ps fs n bare) (treeY ps fs n s2) (treeX ps fs s0 n) z = (wT fs s0 n s2 true k, wN fs n k) := by
  unfold MT treeA treeX treeY
  by_cases k8 : k = 8
  · subst k8
    rw [getT_mk nd hz (last8 (osA_len fs)), getT_mk nd hz (last8 (osS_len fs 1)), getT_mk nd hz (last8 (osS_len fs 2))]
    have hb : (bO9 n bare).getD [] = bL n := by
      unfold bO9
      split
      · rfl
      · rename_i c
        have : n = 0 := by
          by_cases e : n = 0
          · exact e
          · exact (c (.inl (by omega))).elim
        rw [this]
        rfl
    obtain ⟨m1, m2, m3, m4⟩ := mrg_long (s0 := s0) (n := n) (s2 := s2) ln h0 h2
    have nxy := XY_ne (n := n) h0 h2
    have nx : some (mtX s0 n) ≠ bO9 n bare := fun e => by
      unfold bO9 at e
      split at e
      · exact X_ne h0 (Option.some.inj e)
      · cases e
    have ny : some (mtY n s2) ≠ bO9 n bare := fun e => by
      unfold bO9 at e
      split at e
      · exact Y_ne h2 (Option.some.inj e)
      · cases e
    have e1 : wT fs s0 n s2 false 8 = some (longT s0 n s2 false) := if_pos rfl
    have e2 : wT fs s0 n s2 true 8 = some (longT s0 n s2 true) := if_pos rfl
    have e3 : wN fs n 8 = if 0 < n then none else some 1 := if_pos rfl
    rw [e1, e2, e3]
    show mp (bO9 n bare) (some (mtX s0 n)) (some (mtY n s2)) = _ ∧ mp (bO9 n bare) (some (mtY n s2)) (some (mtX s0 n)) = _
    unfold mp
    rw [if_neg (fun e => nxy (Option.some.inj e)), if_neg ny, if_neg nx, if_neg (fun e => nxy (Option.some.inj e).symm), if_neg nx, if_neg ny]
    show (some (mrgL (tch ((bO9 n bare).getD []) (mtX s0 n) (mtY n s2))), _) = _ ∧ (some (mrgL (tch ((bO9 n bare).getD []) (mtY n s2) (mtX s0 n))), _) = _
    rw [hb, m1, m2, m3, m4]
    by_cases hn : 0 < n
    · rw [if_pos hn, if_pos hn, if_pos rfl]
      exact ⟨rfl, rfl⟩
    · rw [if_neg hn, if_neg hn, if_neg (by decide)]
      exact ⟨rfl, rfl⟩
  · have k8' : k < 8 := by omega
    have ef : fs[k]? = some (fs[k]'(by omega)) := List.getElem?_eq_getElem (by omega)
    have hr := hf _ (List.mem_of_getElem? ef)
    have eg : fs.getD k 0 = fs[k]'(by omega) := by rw [List.getD_eq_getElem?_getD, ef]; rfl
    unfold wT wN
    rw [if_neg k8, if_neg k8, if_neg k8, eg]
    generalize fs[k]'(by omega) = f at ef hr
    rw [getT_mk nd hz (osA_at k8' ef _), getT_mk nd hz (osS_at k8' ef _), getT_mk nd hz (osS_at k8' ef _)]
    have hh : f = 0 ∨ f = 1 ∨ f = 2 ∨ f = 3 := by omega
    have hq : (1 + k / 4 = 1 ∧ ¬ 1 + k / 4 = 2) ∨ (1 + k / 4 = 2 ∧ ¬ 1 + k / 4 = 1) := by omega
    have d1 : mp none (some nt) none = (some nt, none) ∧ mp none none (some nt) = (some nt, none) ∧ mp none none none = (none, none) ∧ mp (some nt) (some nt) none = (none, none) ∧ mp (some nt) none (some nt) = (none, none) ∧ mp (some ["m"]) (some nt) none = (some nt, some 0) ∧ mp (some ["m"]) none (some nt) = (some nt, some 0) := by decide +kernel
    obtain ⟨d1, d2, d3, d4, d5, d6, d7⟩ := d1
    have oa : oA 0 = none ∧ oA 1 = none ∧ oA 2 = some nt ∧ oA 3 = some (["m"] : Tx) := by decide +kernel
    rcases hh with rfl | rfl | rfl | rfl <;> rcases hq with ⟨q1, q2⟩ | ⟨q1, q2⟩ <;> simp [oS, q1, oa, d1, d2, d3, d4, d5, d6, d7]
section
variable {P : Program} {w : World} {K : PySem.W.Frag} {mg : Str → Option Value} {base : Heap}
theorem longT_len {s0 n s2 : Nat} {tu : Bool} (ln : n ≤ 11) (l0 : s0 ≤ 40) (l2 : s2 ≤ 40) : (longT s0 n s2 tu).length ≤ 95 := by
  have c : ∀ X Y : List Str, (clash [] X Y).length = X.length + Y.length + 4 := fun X Y => by
    unfold clash
    simp only [List.length_cons, List.length_append, List.length_nil, List.nil_append]
    omega
  unfold longT
  split
  · rw [List.length_append, List.length_append, rp_len, rp_len, bL_len ln]
    omega
  · split
    · rw [c, rp_len, rp_len]
      omega
    · rw [c, rp_len, rp_len]
      omega
def sp_l_long (K : PySem.W.Frag) : Sp := fun vs H Q _ => ∃ (sl : Addr) (s0 n s2 : Nat) (tu : Bool), vs = [.ref sl, .bl tu] ∧ H sl = some (.lst [.int (s0 : Nat), .int (n : Nat), .int (s2 : Nat)]) ∧ s0 ≤ 40 ∧ n ≤ 11 ∧ s2 ≤ 40 ∧
  ∀ p H', Same H H' → H p = none → H' p = some (.lst ((longT s0 n s2 tu).map V.str)) → Q (.ref p) H'
theorem sp_l_long_len {vs H Q E} (h : sp_l_long K vs H Q E) : vs.length = 2 := by
  obtain ⟨_, _, _, _, _, rfl, _⟩ := h
  rfl
theorem ok_l_long (T : Txt K mg) : FnOk P w K mg base CX0 2 T.f_l_long T.fd_l_long ["sizes", "turned"] (sp_l_long K) := by
  refine T.F_l_long.ok sc_l_long (fun vs H Q E h => sp_l_long_len h) (fun cdv A outer s H vs Q E hr h => ?_)
  refine ⟨_, (pss_cons (ps_set (i := 2) sc_l_long.nd rfl (.inl rfl) (pe_op op_mulA (pe_lst (pa_cons pe_str pa_nil)) (pe_ix (ix_K K (hu_of hr)) (pv 0) pe_int (fun _ _ => rfl))))
      (pss_cons (ps_set (i := 3) sc_l_long.nd rfl (.inl rfl) (pe_op op_mulA (pe_lst (pa_cons pe_str pa_nil)) (pe_ix (ix_K K (hu_of hr)) (pv 0) pe_int (fun _ _ => rfl))))
      (pss_cons (ps_if (pt_cmpR op_gt (pe_ix (ix_K K (hu_of hr)) (pv 0) pe_int (fun _ _ => rfl)) pe_int (nomark _)) (pss_one (ps_ret (pe_op (op_addK K) (pe_op (op_addK K) (pv 2) (pe_call (ok_l_base T) (hr.mono (by decide)) (by rfl) T.g_l_base T.F_l_base.kp T.b_l_base .nil pass0 (pa_cons (pe_ix (ix_K K (hu_of hr)) (pv 0) pe_int (fun _ _ => rfl)) pa_nil))) (pv 3)))) pss_nil)
      (pss_cons (ps_if (pt_tru K (pv 1)) (pss_one (ps_ret (pe_op (op_addK K) (pe_op (op_addK K) (pe_op (op_addK K) (pe_op (op_addK K) (pe_lst (pa_cons pe_str pa_nil)) (pv 3)) (pe_lst (pa_cons pe_str (pa_cons pe_str pa_nil)))) (pv 2)) (pe_lst (pa_cons pe_str pa_nil))))) pss_nil)
      (pss_one (ps_ret (pe_op (op_addK K) (pe_op (op_addK K) (pe_op (op_addK K) (pe_op (op_addK K) (pe_lst (pa_cons pe_str pa_nil)) (pv 2)) (pe_lst (pa_cons pe_str (pa_cons pe_str pa_nil)))) (pv 3)) (pe_lst (pa_cons pe_str pa_nil))))))))), ?_⟩
  obtain ⟨sl, s0, n, s2, tu, rfl, hs, l0, ln, l2, q⟩ := h
  have hH := Has.start H
  refine g_start (σ' := [some (.ref sl), some (.bl tu), none, none]) rfl ?_
  have e0 : (((s0 : Nat) : Int)).toNat = s0 := rfl
  have e2 : (((s2 : Nat) : Int)).toNat = s2 := rfl
  walk_at "gg"
  refine g_klst (by walk_at "sz") hH (fun p1 H1 n1 h1 => ?_)
  walk_at "gg"
  refine g_ixL (v := .int (s0 : Nat)) (h1.same _ _ hs) (atI_nat (j := 0) rfl) ?_
  walk_at "gg"
  refine g_mulL (h1.get (List.Mem.head _)) (by omega) (by omega) (by walk_at "sz") h1 (fun le H2 n2 h2 => ?_)
  rw [rp_str, e0] at h2
  walk_at "gg"
  refine g_klst (by walk_at "sz") h2 (fun p3 H3 n3 h3 => ?_)
  walk_at "gg"
  refine g_ixL (v := .int (s2 : Nat)) (h3.same _ _ hs) (atI_nat (j := 2) rfl) ?_
  walk_at "gg"
  refine g_mulL (h3.get (List.Mem.head _)) (by omega) (by omega) (by walk_at "sz") h3 (fun ri H4 n4 h4 => ?_)
  rw [rp_str, e2] at h4
  have h4 : Has H [(ri, .lst ((rp "y" s2).map V.str)), (le, .lst ((rp "x" s0).map V.str))] H4 := h4.sub (by walk_at "sub")
  walk_at "gg"
  refine g_ixL (v := .int (n : Nat)) (h4.same _ _ hs) (atI_nat (j := 1) rfl) ?_
  walk_at "gg"
  unfold longT at q
  refine i_d (fun hn => ?_) (fun hn => ?_)
  · rw [if_pos (by omega)] at q
    walk_at "gg"
    refine g_ixL (v := .int (n : Nat)) (h4.same _ _ hs) (atI_nat (j := 1) rfl) ?_
    walk_at "gg"
    refine ⟨n, rfl, ln, fun p5 H5 s5 n5 h5_ => ?_⟩
    have h5 := h4.made n5 s5 h5_
    walk_at "gg"
    refine g_addL (h5.get (by walk_at "m")) (h5.get (List.Mem.head _)) (sz (by rw [List.length_map, List.length_map, rp_len, bL_len ln]; omega)) h5 (fun p6 H6 n6 h6 => ?_)
    rw [← List.map_append] at h6
    walk_at "gg"
    refine g_addL (h6.get (List.Mem.head _)) (h6.get (by walk_at "m")) (sz (by rw [List.length_map, List.length_map, List.length_append, rp_len, rp_len, bL_len ln]; omega)) h6 (fun p7 H7 n7 h7 => ?_)
    rw [← List.map_append] at h7
    exact q p7 H7 h7.same h7.free (h7.get (List.Mem.head _))
  rw [if_neg (by omega)] at q
  walk_at "gg"
  cases tu with
  | true =>
    refine g_truB ?_
    walk_at "gg"
    refine g_klst (by walk_at "sz") h4 (fun k1 H5 n5 h5 => ?_)
    walk_at "gg"
    refine g_addL (h5.get (List.Mem.head _)) (h5.get (by walk_at "m")) (sz (by rw [List.length_map, rp_len]; show 1 + _ ≤ _; omega)) h5 (fun k2 H6 n6 h6 => ?_)
    walk_at "gg"
    refine g_klst (by walk_at "sz") h6 (fun k3 H7 n7 h7 => ?_)
    refine g_addL (h7.get (by walk_at "m")) (h7.get (List.Mem.head _)) (sz (by rw [List.length_append, List.length_map, rp_len]; show 1 + _ + 2 ≤ _; omega)) h7 (fun k4 H8 n8 h8 => ?_)
    walk_at "gg"
    refine g_addL (h8.get (List.Mem.head _)) (h8.get (by walk_at "m")) (sz (by rw [List.length_append, List.length_append, List.length_map, List.length_map, rp_len, rp_len]; show 1 + _ + 2 + _ ≤ _; omega)) h8 (fun k5 H9 n9 h9 => ?_)
    walk_at "gg"
    refine g_klst (by walk_at "sz") h9 (fun k6 H10 n10 h10 => ?_)
    refine g_addL (h10.get (by walk_at "m")) (h10.get (List.Mem.head _)) (sz (by rw [List.length_append, List.length_append, List.length_append, List.length_map, List.length_map, rp_len, rp_len]; show 1 + _ + 2 + _ + 1 ≤ _; omega)) h10 (fun k7 H11 n11 h11 => ?_)
    refine q k7 H11 h11.same h11.free ?_
    rw [h11.get (List.Mem.head _)]
    congr 2
    show _ = List.map V.str (clash [] (rp "y" s2) (rp "x" s0))
    unfold clash
    simp only [List.map_cons, List.map_append, List.map_nil, List.append_assoc, List.cons_append, List.nil_append]
  | false =>
    refine g_truB ?_
    walk_at "gg"
    refine g_klst (by walk_at "sz") h4 (fun k1 H5 n5 h5 => ?_)
    walk_at "gg"
    refine g_addL (h5.get (List.Mem.head _)) (h5.get (by walk_at "m")) (sz (by rw [List.length_map, rp_len]; show 1 + _ ≤ _; omega)) h5 (fun k2 H6 n6 h6 => ?_)
    walk_at "gg"
    refine g_klst (by walk_at "sz") h6 (fun k3 H7 n7 h7 => ?_)
    refine g_addL (h7.get (by walk_at "m")) (h7.get (List.Mem.head _)) (sz (by rw [List.length_append, List.length_map, rp_len]; show 1 + _ + 2 ≤ _; omega)) h7 (fun k4 H8 n8 h8 => ?_)
    walk_at "gg"
    refine g_addL (h8.get (List.Mem.head _)) (h8.get (by walk_at "m")) (sz (by rw [List.length_append, List.length_append, List.length_map, List.length_map, rp_len, rp_len]; show 1 + _ + 2 + _ ≤ _; omega)) h8 (fun k5 H9 n9 h9 => ?_)
    walk_at "gg"
    refine g_klst (by walk_at "sz") h9 (fun k6 H10 n10 h10 => ?_)
    refine g_addL (h10.get (by walk_at "m")) (h10.get (List.Mem.head _)) (sz (by rw [List.length_append, List.length_append, List.length_append, List.length_map, List.length_map, rp_len, rp_len]; show 1 + _ + 2 + _ + 1 ≤ _; omega)) h10 (fun k7 H11 n11 h11 => ?_)
    refine q k7 H11 h11.same h11.free ?_
    rw [h11.get (List.Mem.head _)]
    congr 2
    show _ = List.map V.str (clash [] (rp "x" s0) (rp "y" s2))
    unfold clash
    simp only [List.map_cons, List.map_append, List.map_nil, List.append_assoc, List.cons_append, List.nil_append]
end

end K10

namespace K10
open PySem PySem.Spec PyProof.Rows L2 Qk
local macro_rules | `(tactic| walk_at "m") => `(tactic| ((repeat (first | exact List.Mem.head _ | apply List.Mem.tail)); done))
local macro_rules | `(tactic| walk_at "h") => `(tactic| first | assumption | exact Has.gF (by assumption) (by assumption) | exact Has.get (by assumption) (by walk_at "m"))
local macro_rules | `(tactic| walk_at "c") => `(tactic| ((repeat (first | exact Chg.hd | apply Chg.tl)); done))
local macro_rules | `(tactic| walk_at "is") => `(tactic| first
  | ((with_reducible refine' is2_non ?gh ?_); (case gh => walk_at "h"))
  | (with_reducible refine is_int_list ?_)
  | (with_reducible refine is_int_tuple ?_)
  | (with_reducible refine is_int_dict ?_)
  | (with_reducible refine is_int_int ?_)
  | (with_reducible refine is_int_bool ?_)
  | (with_reducible refine is_int_str ?_)
  | ((with_reducible refine' is2_int ?gh ?_); (case gh => walk_at "h"))
  | (with_reducible refine is_str_list ?_)
  | (with_reducible refine is_str_tuple ?_)
  | (with_reducible refine is_str_dict ?_)
  | (with_reducible refine is_str_int ?_)
  | (with_reducible refine is_str_bool ?_)
  | (with_reducible refine is_str_str ?_)
  | ((with_reducible refine' is2_str ?gh ?_); (case gh => walk_at "h"))
  | (with_reducible refine is_bool_list ?_)
  | (with_reducible refine is_bool_tuple ?_)
  | (with_reducible refine is_bool_dict ?_)
  | (with_reducible refine is_bool_int ?_)
  | (with_reducible refine is_bool_bool ?_)
  | (with_reducible refine is_bool_str ?_)
  | ((with_reducible refine' is2_bool ?gh ?_); (case gh => walk_at "h"))
  | ((with_reducible refine' is_list_list ?gh ?_); (case gh => walk_at "h"))
  | ((with_reducible refine' is_list_tuple ?gh ?_); (case gh => walk_at "h"))
  | ((with_reducible refine' is_list_dict ?gh ?_); (case gh => walk_at "h"))
  | ((with_reducible refine' is_list_int ?gh ?_); (case gh => walk_at "h"))
  | ((with_reducible refine' is_list_bool ?gh ?_); (case gh => walk_at "h"))
  | ((with_reducible refine' is_list_str ?gh ?_); (case gh => walk_at "h"))
  | ((with_reducible refine' is2_list ?ga ?gb ?_); (case ga => walk_at "h"); (case gb => walk_at "h"))
  | ((with_reducible refine' is_tuple_list ?gh ?_); (case gh => walk_at "h"))
  | ((with_reducible refine' is_tuple_tuple ?gh ?_); (case gh => walk_at "h"))
  | ((with_reducible refine' is_tuple_dict ?gh ?_); (case gh => walk_at "h"))
  | ((with_reducible refine' is_tuple_int ?gh ?_); (case gh => walk_at "h"))
  | ((with_reducible refine' is_tuple_bool ?gh ?_); (case gh => walk_at "h"))
  | ((with_reducible refine' is_tuple_str ?gh ?_); (case gh => walk_at "h"))
  | ((with_reducible refine' is2_tuple ?ga ?gb ?_); (case ga => walk_at "h"); (case gb => walk_at "h"))
  | ((with_reducible refine' is_dict_list ?gh ?_); (case gh => walk_at "h"))
  | ((with_reducible refine' is_dict_tuple ?gh ?_); (case gh => walk_at "h"))
  | ((with_reducible refine' is_dict_dict ?gh ?_); (case gh => walk_at "h"))
  | ((with_reducible refine' is_dict_int ?gh ?_); (case gh => walk_at "h"))
  | ((with_reducible refine' is_dict_bool ?gh ?_); (case gh => walk_at "h"))
  | ((with_reducible refine' is_dict_str ?gh ?_); (case gh => walk_at "h"))
  | ((with_reducible refine' is2_dict ?ga ?gb ?_); (case ga => walk_at "h"); (case gb => walk_at "h")))
local macro_rules | `(tactic| walk_at "g") => `(tactic| first
  | (with_reducible refine g_seq ?_)
  | (with_reducible refine g_asg ?_)
  | ((with_reducible refine g_name ?_); dsimp only [List.set, wipe, List.map])
  | ((with_reducible refine' g_var ?gv ?_); (case gv => exact rfl))
  | (with_reducible refine g_c ?_)
  | (with_reducible refine g_op ?_)
  | (with_reducible refine g_cons ?_)
  | (with_reducible refine g_nil ?_)
  | (with_reducible refine g_cb ?_)
  | (with_reducible refine g_call ?_)
  | (with_reducible refine g_tup ?_)
  | (with_reducible refine g_lst ?_)
  | (with_reducible refine g_bm ?_)
  | (with_reducible refine g_bm0 ?_)
  | ((with_reducible refine' g_kbm ?gh ?_); (case gh => walk_at "h"))
  | (with_reducible refine g_drop ?_)
  | (with_reducible refine g_ret ?_)
  | (with_reducible refine g_retN ?_)
  | (with_reducible refine g_next ?_)
  | (with_reducible refine g_brk ?_)
  | (with_reducible refine g_cont ?_)
  | (with_reducible refine g_if ?_)
  | ((with_reducible refine' g_aug ?gv ?_); (case gv => exact rfl))
  | (with_reducible refine g_ipI ?_)
  | (with_reducible refine g_test ?_)
  | (with_reducible refine g_tB ?_)
  | (with_reducible refine g_kB ?_)
  | (with_reducible refine g_not ?_)
  | (with_reducible refine g_and ?_)
  | (with_reducible refine g_or ?_)
  | (with_reducible refine g_andV ?_)
  | (with_reducible refine g_orV ?_)
  | (with_reducible refine g_notV ?_)
  | (with_reducible refine g_ifE ?_)
  | (with_reducible refine g_addI ?_)
  | (with_reducible refine g_rI0 ?_)
  | (with_reducible refine g_eqI ?_)
  | (with_reducible refine g_eqS ?_)
  | (with_reducible refine g_neI ?_)
  | (with_reducible refine g_neS ?_)
  | (with_reducible refine g_isN ?_)
  | (with_reducible refine g_notN ?_)
  | (with_reducible refine g_int ?_)
  | (with_reducible refine g_max2 ?_)
  | (with_reducible refine g_min2 ?_)
  | ((with_reducible refine' g_lenL ?gh ?_); (case gh => walk_at "h"))
  | (with_reducible refine g_sub ?_)
  | (with_reducible refine g_gcons ?_)
  | (with_reducible refine g_gnil ?_)
  | (with_reducible refine g_un ?_)
  | (with_reducible refine g_rU ?_)
  | (with_reducible refine g_forL ?_)
  | (with_reducible refine g_forS ?_)
  | (with_reducible refine g_forR1 ?_)
  | (with_reducible refine g_forR2 ?_)
  | (with_reducible refine g_forR3 ?_)
  | (with_reducible refine g_lcL ?_)
  | (with_reducible refine g_lcR1 ?_)
  | (with_reducible refine g_lcR2 ?_)
  | (with_reducible refine g_slice ?_)
  | (with_reducible refine g_part ?_)
  | (with_reducible refine g_kOI ?_)
  | (with_reducible refine g_nopart ?_)
  | (with_reducible refine g_yes ?_)
  | ((with_reducible refine' g_wipe ?gv ?_); (case gv => exact rfl))
  | (with_reducible refine iteT ?_)
  | (with_reducible refine iteF ?_)
  | (with_reducible refine i_nf ?_)
  | (with_reducible refine i_nt ?_)
  | ((with_reducible refine' g_gtup ?gh ?gl ?_); (case gh => walk_at "h"); (case gl => exact rfl))
  | ((with_reducible refine' g_notinI ?gh ?_); (case gh => walk_at "h"))
  | ((with_reducible refine' g_inI ?gh ?_); (case gh => walk_at "h"))
  | ((with_reducible refine' g_kget2 ?gh ?_); (case gh => walk_at "h"))
  | ((with_reducible refine' g_kgotI ?gh ?_); (case gh => walk_at "h"))
  | (with_reducible refine g_tRev ?_)
  | (with_reducible refine g_neB ?_)
  | (with_reducible refine g_eqB ?_)
  | ((with_reducible refine' g_lenT ?gh ?_); (case gh => walk_at "h"))
  | (with_reducible refine g_star ?_)
  | ((with_reducible refine' g_kstarL ?gh ?_); (case gh => walk_at "h"))
  | ((with_reducible refine' g_kstarT ?gh ?_); (case gh => walk_at "h"))
  | (with_reducible refine g_tru ?_)
  | ((with_reducible refine' g_truL ?gh ?_); (case gh => walk_at "h"))
  | (with_reducible refine g_get2 ?_)
  | (with_reducible refine g_try ?_)
  | (with_reducible refine g_fld ?_)
  | (with_reducible refine g_sfld ?_)
  | (with_reducible refine g_meth ?_)
  | (with_reducible refine g_make ?_)
  | (with_reducible refine g_del ?_)
  | (with_reducible refine g_callS ?_)
  | (with_reducible refine g_raise ?_)
  | (with_reducible refine g_xf ?_)
  | (with_reducible refine g_m0 ?_)
  | (with_reducible refine g_km0 ?_)
  | walk_at "is")
local macro_rules | `(tactic| walk_at "gg") => `(tactic| repeat walk_at "g")
local macro_rules | `(tactic| walk_at "sz") => `(tactic| (refine sz ?_; simp only [List.length_cons, List.length_nil, List.length_map, List.length_append, List.length_replicate]; omega))
local macro_rules | `(tactic| walk_at "sub") => `(tactic| ((repeat (first | exact List.Sublist.slnil | with_reducible apply List.Sublist.cons_cons | with_reducible apply List.Sublist.cons)); done))

local macro_rules | `(tactic| walk_at "g") => `(tactic| first
  | ((with_reducible refine' g_lenNL ?gh ?_); (case gh => walk_at "h"))
  | ((with_reducible refine' g_lenND ?gh ?_); (case gh => walk_at "h"))
  | ((with_reducible refine' g_lenNT ?gh ?_); (case gh => walk_at "h"))
  | (with_reducible refine g_ltI ?_)
  | (with_reducible refine g_ltS ?_)
  | (with_reducible refine g_lstRg ?_)
  | (with_reducible refine g_forK ?_))

/-! ### _law_wanted -/
def rV : Option Str → V
  | none => .non
  | some z => .str z
/-- what is due, as it stands -/
def Due10 (H : Hp) (u : Addr) (r : Option Str) (C : Tre) (cl : List (Str × Nat)) : Prop := ∃ (d l : Addr) (cv : List V), H u = some (.tup [rV r, .ref d, .ref l]) ∧ TrAt H d C ∧ H l = some (.lst cv) ∧ DqAll H cv (cl.map clD)
theorem Due10.up {H H' : Hp} {u : Addr} {r : Option Str} {C : Tre} {cl : List (Str × Nat)} (h : Due10 H u r C cl) (s : Same H H') : Due10 H' u r C cl := by
  obtain ⟨d, l, cv, e, t, f, q⟩ := h
  exact ⟨d, l, cv, s _ _ e, t.up s, s _ _ f, q.up s _ _⟩
theorem g_in03 {K : PySem.W.Frag} {H : Hp} {Q : VK} {a : Addr} {i : Int} (h : H a = some (.tup [V.int 0, V.int 3])) (q : Q (.bl (decide (i = 0 ∨ i = 3))) H) : rInA K (.int i) (.ref a) H Q := by
  have e : inV (.int i) [V.int 0, V.int 3] = decide (i = 0 ∨ i = 3) := by
    rw [Bool.eq_iff_iff]
    simp [inV, eqV]
    omega
  refine .inl (.inl ⟨a, _, rfl, .inr (SqT.of h), rfl, rfl, ?_⟩)
  show Q (.bl (inV _ _)) H
  rw [e]
  exact q
section
variable {P : Program} {w : World} {K : PySem.W.Frag} {mg : Str → Option Value} {base : Heap}
def sp_l_wanted (K : PySem.W.Frag) : Sp := fun vs H Q _ => ∃ (pl fl sl : Addr) (ps : List Str) (fs : List Int) (s0 n s2 : Nat) (tu : Bool) (f : Str → Option Tx × Option Nat), vs = [.ref pl, .ref fl, .ref sl, .bl tu] ∧ H pl = some (.lst (ps.map V.str)) ∧ H fl = some (.lst (fs.map V.int)) ∧ H sl = some (.lst [.int (s0 : Nat), .int (n : Nat), .int (s2 : Nat)]) ∧ ps.length = 9 ∧ ps.Nodup ∧ fs.length = 8 ∧ s0 ≤ 40 ∧ n ≤ 11 ∧ s2 ≤ 40 ∧
  (∀ k z, ps[k]? = some z → f z = (wT fs s0 n s2 tu k, wN fs n k)) ∧
  ∀ zs u C cl H', Asc zs → (∀ z, z ∈ zs ↔ z ∈ ps) → zs.length = 9 → Same H H' → Due10 H' u (outc (fun z => (f z).1) zs 0) C cl → (outc (fun z => (f z).1) zs 0 = none → UpTo (fun z => (f z).1) zs C ∧ UpTo (fun z => (f z).2) zs cl) → Q (.ref u) H'
theorem sp_l_wanted_len {vs H Q E} (h : sp_l_wanted K vs H Q E) : vs.length = 4 := by
  obtain ⟨_, _, _, _, _, _, _, _, _, _, rfl, _⟩ := h
  rfl
set_option maxHeartbeats 2000000 in
theorem ok_l_wanted (T : Txt K mg) : FnOk P w K mg base CX0 3 T.f_l_wanted T.fd_l_wanted ["paths", "fates", "sizes", "turned"] (sp_l_wanted K) := by
  refine T.F_l_wanted.ok sc_l_wanted (fun vs H Q E h => sp_l_wanted_len h) (fun cdv A outer s H vs Q E hr h => ?_)
  refine ⟨_, (pss_cons (ps_set (i := 4) sc_l_wanted.nd rfl (.inl rfl) pe_dnewK)
      (pss_cons (ps_set (i := 5) sc_l_wanted.nd rfl (.inl rfl) (pe_lst pa_nil))
      (pss_cons (ps_for PassesOwn.never rfl (k_il K (pi_list (pe_callB (cr_sortN K P w rfl (cr_sortA K rfl)) (by rfl) T.m_sorted (by decide +kernel) (pa_cons (pv 0) pa_nil)))) (pg_name (i := 6) sc_l_wanted.nd rfl (.inl rfl)) (pss_cons (ps_set (i := 7) sc_l_wanted.nd rfl (.inl rfl) (k_bm K (pe_bm PySem.F.plainAttrs_list PySem.F.slot_list_index PySem.F.type_list_index (mt_idxA K) (pv 0) (pa_cons (pv 6) pa_nil))))
      (pss_cons (ps_set (i := 8) sc_l_wanted.nd rfl (.inl rfl) (pe_lst (pa_cons pe_str (pa_cons pe_str pa_nil))))
      (pss_cons (ps_if (pt_cmpR (op_eqK K hr.units) (pv 7) pe_int (nomark _)) (pss_one (ps_set (i := 8) sc_l_wanted.nd rfl (.inl rfl) (pe_call (ok_l_long T) (hr.mono (by decide)) (by rfl) T.g_l_long T.F_l_long.kp T.b_l_long .nil pass0 (pa_cons (pv 2) (pa_cons (pv 3) pa_nil))))) pss_nil)
      (pss_cons (ps_if (PW.pt (pw_or (pt_cmpR (op_eqK K hr.units) (pv 7) pe_int (nomark _)) (pw_or1 (pt_cmpR (op_inN K P w hr.units (u65 hr)) (pe_ix (ix_K K (hu_of hr)) (pv 1) (pv 7) (fun _ _ => rfl)) (pe_tup (pa_cons pe_int (pa_cons pe_int pa_nil))) (by rfl))))) (pss_cons (ps_if (PW.pt (pw_or (pt_cmpR op_gt (pe_callB (cr_lenN K) (by rfl) T.m_len (by decide +kernel) (pa_cons (pv 8) pa_nil)) pe_int (nomark _)) (pw_or1 (pt_cmpR (op_eqK K hr.units) (pe_callB (cr_lenN K) (by rfl) T.m_len (by decide +kernel) (pa_cons (pv 4) pa_nil)) pe_int (nomark _))))) (pss_one (ps_ret (pe_tup (pa_cons (pv 6) (pa_cons pe_dnewK (pa_cons (pe_lst pa_nil) pa_nil)))))) pss_nil)
      (pss_one (ps_asg (pv 8) (pg_sub (pv 4) (pv 6) (set_any (hu_of hr)))))) pss_nil)
      (pss_cons (ps_if (PW.pt (pw_and (pt_cmpR (op_eqK K hr.units) (pv 7) pe_int (nomark _)) (pw_and1 (pt_cmpR (op_eqK K hr.units) (pe_ix (ix_K K (hu_of hr)) (pv 2) pe_int (fun _ _ => rfl)) pe_int (nomark _))))) (pss_one (ps_expr (k_bm K (pe_bm PySem.F.plainAttrs_list PySem.F.slot_list_append PySem.F.type_list_append mt_append (pv 5) (pa_cons (pe_tup (pa_cons (pv 6) (pa_cons pe_int pa_nil))) pa_nil))))) pss_nil)
      (pss_one (ps_if (PW.pt (pw_and (pt_cmpR op_ltA (pv 7) pe_int (nomark _)) (pw_and1 (pt_cmpR (op_eqK K hr.units) (pe_ix (ix_K K (hu_of hr)) (pv 1) (pv 7) (fun _ _ => rfl)) pe_int (nomark _))))) (pss_one (ps_expr (k_bm K (pe_bm PySem.F.plainAttrs_list PySem.F.slot_list_append PySem.F.type_list_append mt_append (pv 5) (pa_cons (pe_tup (pa_cons (pv 6) (pa_cons pe_int pa_nil))) pa_nil))))) pss_nil))))))))
      (pss_one (ps_ret (pe_tup (pa_cons pe_non (pa_cons (pv 4) (pa_cons (pv 5) pa_nil))))))))), ?_⟩
  obtain ⟨pl, fl, sl, ps, fs, s0, n, s2, tu, f, rfl, hpl, hfl, hsl, lps, ndp, lfs, l0, ln, l2, hf, q⟩ := h
  have hH := Has.start H
  refine g_start (σ' := [some (.ref pl), some (.ref fl), some (.ref sl), some (.bl tu), none, none, none, none, none]) rfl ?_
  walk_at "gg"
  refine g_dnewK hH (fun d H1 n1 h1 => ?_)
  walk_at "gg"
  refine g_klst (by walk_at "sz") h1 (fun lc H2 n2 h2 => ?_)
  walk_at "gg"
  refine g_sortNA (g_sortS (h2.same _ _ hpl) (by omega) h2 (fun zs p4 H3 pm srt n3 h3 => ?_))
  have asc := asc_of srt (pm.nodup_iff.mpr ndp)
  have mz : ∀ z, z ∈ zs ↔ z ∈ ps := fun z => pm.mem_iff
  have lus := pm.length_eq
  have q := fun u C cl H' => q zs u C cl H' asc mz (by rw [lus, lps])
  have h3 : Has H ((d, .dK (bK [])) :: (bO [] ++ [(lc, .lst []), (p4, .lst (zs.map V.str))])) H3 := h3.perm (by
    exact (List.perm_middle (l₁ := [(lc, HO.lst [])]) (a := (p4, HO.lst (zs.map V.str))) (l₂ := [])).cons _ |>.trans (List.perm_middle (l₁ := [_, _]) (l₂ := [])).symm)
  walk_at "gg"
  refine k_forL (h3.get (by walk_at "m")) (fun t σ H' => ∃ (F' : Hp) (B : Bt) (cv : List V) (cl : List (Str × Nat)) (y6 y7 y8 : Option V), σ = [some (.ref pl), some (.ref fl), some (.ref sl), some (.bl tu), some (.ref d), some (.ref lc), y6, y7, y8] ∧ Same H F' ∧ Has F' ((d, .dK (bK B)) :: (bO B ++ [(lc, .lst cv), (p4, .lst (zs.map V.str))])) H' ∧ DqAll F' cv (cl.map clD) ∧
    UpTo (fun z => (f z).1) (zs.take t) (bA B) ∧ UpTo (fun z => (f z).2) (zs.take t) cl ∧ outc (fun z => (f z).1) zs 0 = outc (fun z => (f z).1) (zs.drop t) B.length ∧ B.length ≤ 8) ⟨H, [], [], [], _, _, _, rfl, Same.refl _, h3, .nil, UpTo.nil, UpTo.nil, rfl, by decide⟩ ?_ ?_ ?_
  · rintro t σ H' _ ⟨F', B, cv, cl, y6, y7, y8, rfl, sF, h, _⟩
    exact h.get (List.mem_cons_of_mem _ (List.mem_append_right _ (by walk_at "m")))
  · rintro t xx σ H5 hxx ⟨F', B, cv, cl, y6, y7, y8, rfl, sF, h5, dqc, uB, uC, eO, lB8⟩
    rw [List.getElem?_map] at hxx
    obtain ⟨z, hz, rfl⟩ := Option.map_eq_some_iff.mp hxx
    have tl := (List.getElem?_eq_some_iff.mp hz).1
    have tk : zs.take (t + 1) = zs.take t ++ [z] := by rw [List.take_add_one, hz]; rfl
    have nz : z ∉ zs.take t := nd_new asc.nodup hz
    rw [List.drop_eq_getElem_cons tl, (List.getElem?_eq_some_iff.mp hz).2] at eO
    obtain ⟨k, hk⟩ := List.mem_iff_getElem?.mp ((mz z).mp (List.mem_of_getElem? hz))
    have lk : k < 9 := by have := (List.getElem?_eq_some_iff.mp hk).1; omega
    have fz := hf k z hk
    have lcl := uC.len
    rw [List.length_take] at lcl
    have lcv := dqc.len
    rw [List.length_map] at lcv
    have lbK : (bK B).length = B.length := by unfold bK; rw [List.length_map]
    have nzB : z ∉ B.map (·.1) := fun m => by
      rw [← bA_keys] at m
      exact nz (uB.1.subset m)
    have nw : z ∉ B.map (·.1) ∧ (bK B).length ≤ 9 := ⟨nzB, by omega⟩
    have hplF := sF _ _ hpl
    have hflF := sF _ _ hfl
    have hslF := sF _ _ hsl
    walk_at "gg"
    refine g_idx (h5.same _ _ hplF) ndp hk ?_
    walk_at "gg"
    refine g_klst (by walk_at "sz") h5 (fun p1 H6 n6 h6 => ?_)
    walk_at "gg"
    refine i_d (fun k8 => ?_) (fun k8 => ?_)
    · have k8 : k = 8 := by omega
      subst k8
      walk_at "gg"
      refine ⟨sl, s0, n, s2, tu, rfl, h6.same _ _ hslF, l0, ln, l2, fun p2 H7 s7 n7 h7_ => ?_⟩
      have h7 := (h6.drop).made n7 s7 h7_
      have fz1 : (f z).1 = some (longT s0 n s2 tu) := by rw [fz]; show wT fs s0 n s2 tu 8 = _; exact if_pos rfl
      walk_at "gg"
      refine i_d (fun _ => ?_) (fun c => (c rfl).elim)
      rw [outc_some fz1] at eO
      have hd := h7.get (List.Mem.tail _ (List.Mem.head _))
      have hp2 := h7.get (List.Mem.head _)
      walk_at "gg"
      refine i_d (fun c => ?_) (fun c => ?_)
      · rw [List.length_map] at c
        have eO : outc (fun z => (f z).1) zs 0 = some z := by rw [eO, if_pos (.inl (by omega))]
        walk_at "gg"
        refine g_dnewK h7.all (fun d2 H8 n8 h8 => ?_)
        walk_at "gg"
        refine g_klst (by walk_at "sz") h8 (fun l2 H9 n9 h9 => ?_)
        walk_at "gg"
        refine g_ktup (by walk_at "sz") h9 (fun u2 H10 n10 h10 => ?_)
        exact q u2 [] [] H10 ((sF.trans h7.same).trans h10.same) (by rw [eO]; exact ⟨d2, l2, [], h10.get (List.Mem.head _), ⟨[], h10.get (by walk_at "m"), rfl, List.nodup_nil, .nil⟩, h10.get (by walk_at "m"), .nil⟩) (fun e => by rw [eO] at e; cases e)
      rw [List.length_map] at c
      walk_at "gg"
      refine i_d (fun c2 => ?_) (fun c2 => ?_)
      · rw [lbK] at c2
        have eO : outc (fun z => (f z).1) zs 0 = some z := by rw [eO, if_pos (.inr (by omega))]
        walk_at "gg"
        refine g_dnewK h7.all (fun d2 H8 n8 h8 => ?_)
        walk_at "gg"
        refine g_klst (by walk_at "sz") h8 (fun l2 H9 n9 h9 => ?_)
        walk_at "gg"
        refine g_ktup (by walk_at "sz") h9 (fun u2 H10 n10 h10 => ?_)
        exact q u2 [] [] H10 ((sF.trans h7.same).trans h10.same) (by rw [eO]; exact ⟨d2, l2, [], h10.get (List.Mem.head _), ⟨[], h10.get (by walk_at "m"), rfl, List.nodup_nil, .nil⟩, h10.get (by walk_at "m"), .nil⟩) (fun e => by rw [eO] at e; cases e)
      rw [lbK] at c2
      rw [if_neg (by omega)] at eO
      walk_at "gg"
      refine g_stD (k := .inr z) rfl h7 (.tl .hd) (szl (by omega)) (fun H8 h8 => ?_)
      rw [putK_new _ (bK_none nzB)] at h8
      have h8 := Has.bput h8
      have uB2 : UpTo (fun z => (f z).1) (zs.take (t + 1)) (bA (B ++ [(z, p2, longT s0 n s2 tu)])) := by
        rw [bA_snoc, tk]
        exact uB.put fz1
      walk_at "gg"
      refine i_d (fun _ => ?_) (fun c => (c rfl).elim)
      walk_at "gg"
      refine g_ixL (v := .int (n : Nat)) (h8.same _ _ hslF) (atI_nat (j := 1) rfl) ?_
      walk_at "gg"
      refine i_d (fun n0 => ?_) (fun n0 => ?_)
      · have fz2 : (f z).2 = some 1 := by
          rw [fz]
          show wN fs n 8 = _
          unfold wN
          rw [if_pos rfl, if_neg (by omega)]
        walk_at "gg"
        refine g_kbm (h8.get (List.mem_cons_of_mem _ (List.mem_append_right _ (List.Mem.head _)))) ?_
        walk_at "gg"
        refine g_ktupF (by walk_at "sz") h8 (fun pt H9 F9 n9 s9 f9 h9 => ?_)
        walk_at "gg"
        refine g_append h9 (O' := (d, .dK (bK (B ++ [(z, p2, longT s0 n s2 tu)]))) :: (bO (B ++ [(z, p2, longT s0 n s2 tu)]) ++ [(lc, .lst (cv ++ [V.ref pt])), (p4, .lst (zs.map V.str))])) (.tl (Chg.right .hd)) (szl (by omega)) (fun H10 h10 => ?_)
        walk_at "gg"
        refine i_d (fun c => absurd c (by decide)) (fun _ => ?_)
        walk_at "gg"
        refine ⟨F9, B ++ [(z, p2, longT s0 n s2 tu)], cv ++ [V.ref pt], cl ++ [(z, 1)], _, _, _, rfl, sF.trans s9, h10, ?_, uB2, ?_, by rw [eO, List.length_append]; rfl, by rw [List.length_append]; show _ + 1 ≤ _; omega⟩
        · rw [List.map_append]
          exact (dqc.up s9 _ _).snoc (.tup f9 (.cons (.str z) (.cons (.int _) .nil)))
        · rw [tk]
          exact uC.put fz2
      · have fz2 : (f z).2 = none := by
          rw [fz]
          show wN fs n 8 = _
          unfold wN
          rw [if_pos rfl, if_pos (by omega)]
        walk_at "gg"
        refine i_d (fun c => absurd c (by decide)) (fun _ => ?_)
        walk_at "gg"
        exact ⟨F', B ++ [(z, p2, longT s0 n s2 tu)], cv, cl, _, _, _, rfl, sF, h8, dqc, uB2, by rw [tk]; exact uC.skip fz2, by rw [eO, List.length_append]; rfl, by rw [List.length_append]; show _ + 1 ≤ _; omega⟩
    · have k8' : k < 8 := by omega
      have ef : fs[k]? = some (fs[k]'(by omega)) := List.getElem?_eq_getElem (by omega)
      have eg : fs.getD k 0 = fs[k]'(by omega) := by rw [List.getD_eq_getElem?_getD, ef]; rfl
      unfold wT wN at fz
      rw [if_neg (by omega : ¬ k = 8), if_neg (by omega : ¬ k = 8), eg] at fz
      generalize fs[k]'(by omega) = fa at ef fz
      walk_at "gg"
      refine i_d (fun c => (k8 c).elim) (fun _ => ?_)
      walk_at "gg"
      refine g_ixL (v := .int fa) (h6.same _ _ hflF) (atI_nat (by rw [List.getElem?_map, ef]; rfl)) ?_
      walk_at "gg"
      refine g_ktupF (by walk_at "sz") h6 (fun p3 H7 F7 n7 s7 f7 h7 => ?_)
      refine g_inNM (g_inM (g_in03 (h7.same _ _ f7) ?_))
      have sF := sF.trans s7
      have dqc := dqc.up s7 _ _
      have hflF := s7 _ _ hflF
      walk_at "gg"
      refine i_d (fun f03 => ?_) (fun f03 => ?_)
      · have fz1 : (f z).1 = some nt := by rw [fz]; show (if _ then _ else _) = _; exact if_pos f03
        have h7 : Has F7 ((p1, .lst (nt.map V.str)) :: (d, .dK (bK B)) :: (bO B ++ [(lc, .lst cv), (p4, .lst (zs.map V.str))])) H7 := h7
        rw [outc_some fz1] at eO
        have hd := h7.get (List.Mem.tail _ (List.Mem.head _))
        have hp2 := h7.get (List.Mem.head _)
        walk_at "gg"
        refine i_d (fun c => ?_) (fun c => ?_)
        · rw [List.length_map] at c
          have eO : outc (fun z => (f z).1) zs 0 = some z := by rw [eO, if_pos (.inl (by omega))]
          walk_at "gg"
          refine g_dnewK h7.all (fun d2 H8 n8 h8 => ?_)
          walk_at "gg"
          refine g_klst (by walk_at "sz") h8 (fun l2 H9 n9 h9 => ?_)
          walk_at "gg"
          refine g_ktup (by walk_at "sz") h9 (fun u2 H10 n10 h10 => ?_)
          exact q u2 [] [] H10 ((sF.trans h7.same).trans h10.same) (by rw [eO]; exact ⟨d2, l2, [], h10.get (List.Mem.head _), ⟨[], h10.get (by walk_at "m"), rfl, List.nodup_nil, .nil⟩, h10.get (by walk_at "m"), .nil⟩) (fun e => by rw [eO] at e; cases e)
        rw [List.length_map] at c
        walk_at "gg"
        refine i_d (fun c2 => ?_) (fun c2 => ?_)
        · rw [lbK] at c2
          have eO : outc (fun z => (f z).1) zs 0 = some z := by rw [eO, if_pos (.inr (by omega))]
          walk_at "gg"
          refine g_dnewK h7.all (fun d2 H8 n8 h8 => ?_)
          walk_at "gg"
          refine g_klst (by walk_at "sz") h8 (fun l2 H9 n9 h9 => ?_)
          walk_at "gg"
          refine g_ktup (by walk_at "sz") h9 (fun u2 H10 n10 h10 => ?_)
          exact q u2 [] [] H10 ((sF.trans h7.same).trans h10.same) (by rw [eO]; exact ⟨d2, l2, [], h10.get (List.Mem.head _), ⟨[], h10.get (by walk_at "m"), rfl, List.nodup_nil, .nil⟩, h10.get (by walk_at "m"), .nil⟩) (fun e => by rw [eO] at e; cases e)
        rw [lbK] at c2
        rw [if_neg (by omega)] at eO
        walk_at "gg"
        refine g_stD (k := .inr z) rfl h7 (.tl .hd) (szl (by omega)) (fun H8 h8 => ?_)
        rw [putK_new _ (bK_none nzB)] at h8
        have h8 := Has.bput h8
        have uB2 : UpTo (fun z => (f z).1) (zs.take (t + 1)) (bA (B ++ [(z, p1, nt)])) := by
          rw [bA_snoc, tk]
          exact uB.put fz1
        walk_at "gg"
        refine i_d (fun c => (k8 c).elim) (fun _ => ?_)
        walk_at "gg"
        refine i_d (fun _ => ?_) (fun c => (c (by omega)).elim)
        walk_at "gg"
        refine g_ixL (v := .int fa) (h8.same _ _ hflF) (atI_nat (by rw [List.getElem?_map, ef]; rfl)) ?_
        walk_at "gg"
        refine i_d (fun f3 => ?_) (fun f3 => ?_)
        · have fz2 : (f z).2 = some 0 := by
            rw [fz]
            exact if_pos f3
          walk_at "gg"
          refine g_kbm (h8.get (List.mem_cons_of_mem _ (List.mem_append_right _ (List.Mem.head _)))) ?_
          walk_at "gg"
          refine g_ktupF (by walk_at "sz") h8 (fun pt H9 F9 n9 s9 f9 h9 => ?_)
          walk_at "gg"
          refine g_append h9 (O' := (d, .dK (bK (B ++ [(z, p1, nt)]))) :: (bO (B ++ [(z, p1, nt)]) ++ [(lc, .lst (cv ++ [V.ref pt])), (p4, .lst (zs.map V.str))])) (.tl (Chg.right .hd)) (szl (by omega)) (fun H10 h10 => ?_)
          walk_at "gg"
          refine ⟨F9, B ++ [(z, p1, nt)], cv ++ [V.ref pt], cl ++ [(z, 0)], _, _, _, rfl, sF.trans s9, h10, ?_, uB2, ?_, by rw [eO, List.length_append]; rfl, by rw [List.length_append]; show _ + 1 ≤ _; omega⟩
          · rw [List.map_append]
            exact (dqc.up s9 _ _).snoc (.tup f9 (.cons (.str z) (.cons (.int _) .nil)))
          · rw [tk]
            exact uC.put fz2
        · have fz2 : (f z).2 = none := by
            rw [fz]
            exact if_neg f3
          walk_at "gg"
          exact ⟨F7, B ++ [(z, p1, nt)], cv, cl, _, _, _, rfl, sF, h8, dqc, uB2, by rw [tk]; exact uC.skip fz2, by rw [eO, List.length_append]; rfl, by rw [List.length_append]; show _ + 1 ≤ _; omega⟩
      · have fz1 : (f z).1 = none := by rw [fz]; show (if _ then _ else _) = _; exact if_neg f03
        have fz2 : (f z).2 = none := by
          rw [fz]
          exact if_neg fun e => f03 (.inr e)
        rw [outc_none fz1] at eO
        walk_at "gg"
        refine i_d (fun c => (k8 c).elim) (fun _ => ?_)
        walk_at "gg"
        refine i_d (fun _ => ?_) (fun c => (c (by omega)).elim)
        walk_at "gg"
        refine g_ixL (v := .int fa) (h7.same _ _ hflF) (atI_nat (by rw [List.getElem?_map, ef]; rfl)) ?_
        walk_at "gg"
        refine i_d (fun f3 => (f03 (.inr f3)).elim) (fun _ => ?_)
        walk_at "gg"
        exact ⟨F7, B, cv, cl, _, _, _, rfl, sF, h7.drop, dqc, by rw [tk]; exact uB.skip fz1, by rw [tk]; exact uC.skip fz2, eO, lB8⟩
  · rintro σ H5 ⟨F', B, cv, cl, y6, y7, y8, rfl, sF, h5, dqc, uB, uC, eO, _⟩
    rw [List.length_map, List.take_length] at uB uC
    rw [List.length_map, List.drop_length] at eO
    have eO : outc (fun z => (f z).1) zs 0 = none := eO
    have q := q
    walk_at "gg"
    refine g_ktupF (by walk_at "sz") h5 (fun p H6 F6 n6 s6 f6 h6 => ?_)
    have aB : AscT (bA B) := asc.sublist uB.1
    exact q p (bA B) cl H6 (sF.trans (s6.trans h6.same)) (by rw [eO]; exact ⟨d, lc, cv, h6.same _ _ f6, h6.built (by rw [← bA_keys]; exact aB.nd), h6.get (List.mem_cons_of_mem _ (List.mem_append_right _ (List.Mem.head _))), dqc.up (s6.trans h6.same) _ _⟩) (fun _ => ⟨uB, uC⟩)
end

end K10

namespace K10
open PySem PySem.Spec PyProof.Rows L2 Qk
local macro_rules | `(tactic| walk_at "m") => `(tactic| ((repeat (first | exact List.Mem.head _ | apply List.Mem.tail)); done))
local macro_rules | `(tactic| walk_at "h") => `(tactic| first | assumption | exact Has.gF (by assumption) (by assumption) | exact Has.get (by assumption) (by walk_at "m"))
local macro_rules | `(tactic| walk_at "c") => `(tactic| ((repeat (first | exact Chg.hd | apply Chg.tl)); done))
local macro_rules | `(tactic| walk_at "is") => `(tactic| first
  | ((with_reducible refine' is2_non ?gh ?_); (case gh => walk_at "h"))
  | (with_reducible refine is_int_list ?_)
  | (with_reducible refine is_int_tuple ?_)
  | (with_reducible refine is_int_dict ?_)
  | (with_reducible refine is_int_int ?_)
  | (with_reducible refine is_int_bool ?_)
  | (with_reducible refine is_int_str ?_)
  | ((with_reducible refine' is2_int ?gh ?_); (case gh => walk_at "h"))
  | (with_reducible refine is_str_list ?_)
  | (with_reducible refine is_str_tuple ?_)
  | (with_reducible refine is_str_dict ?_)
  | (with_reducible refine is_str_int ?_)
  | (with_reducible refine is_str_bool ?_)
  | (with_reducible refine is_str_str ?_)
  | ((with_reducible refine' is2_str ?gh ?_); (case gh => walk_at "h"))
  | (with_reducible refine is_bool_list ?_)
  | (with_reducible refine is_bool_tuple ?_)
  | (with_reducible refine is_bool_dict ?_)
  | (with_reducible refine is_bool_int ?_)
  | (with_reducible refine is_bool_bool ?_)
  | (with_reducible refine is_bool_str ?_)
  | ((with_reducible refine' is2_bool ?gh ?_); (case gh => walk_at "h"))
  | ((with_reducible refine' is_list_list ?gh ?_); (case gh => walk_at "h"))
  | ((with_reducible refine' is_list_tuple ?gh ?_); (case gh => walk_at "h"))
  | ((with_reducible refine' is_list_dict ?gh ?_); (case gh => walk_at "h"))
  | ((with_reducible refine' is_list_int ?gh ?_); (case gh => walk_at "h"))
  | ((with_reducible refine' is_list_bool ?gh ?_); (case gh => walk_at "h"))
  | ((with_reducible refine' is_list_str ?gh ?_); (case gh => walk_at "h"))
  | ((with_reducible refine' is2_list ?ga ?gb ?_); (case ga => walk_at "h"); (case gb => walk_at "h"))
  | ((with_reducible refine' is_tuple_list ?gh ?_); (case gh => walk_at "h"))
  | ((with_reducible refine' is_tuple_tuple ?gh ?_); (case gh => walk_at "h"))
  | ((with_reducible refine' is_tuple_dict ?gh ?_); (case gh => walk_at "h"))
  | ((with_reducible refine' is_tuple_int ?gh ?_); (case gh => walk_at "h"))
  | ((with_reducible refine' is_tuple_bool ?gh ?_); (case gh => walk_at "h"))
  | ((with_reducible refine' is_tuple_str ?gh ?_); (case gh => walk_at "h"))
  | ((with_reducible refine' is2_tuple ?ga ?gb ?_); (case ga => walk_at "h"); (case gb => walk_at "h"))
  | ((with_reducible refine' is_dict_list ?gh ?_); (case gh => walk_at "h"))
  | ((with_reducible refine' is_dict_tuple ?gh ?_); (case gh => walk_at "h"))
  | ((with_reducible refine' is_dict_dict ?gh ?_); (case gh => walk_at "h"))
  | ((with_reducible refine' is_dict_int ?gh ?_); (case gh => walk_at "h"))
  | ((with_reducible refine' is_dict_bool ?gh ?_); (case gh => walk_at "h"))
  | ((with_reducible refine' is_dict_str ?gh ?_); (case gh => walk_at "h"))
  | ((with_reducible refine' is2_dict ?ga ?gb ?_); (case ga => walk_at "h"); (case gb => walk_at "h")))
local macro_rules | `(tactic| walk_at "g") => `(tactic| first
  | (with_reducible refine g_seq ?_)
  | (with_reducible refine g_asg ?_)
  | ((with_reducible refine g_name ?_); dsimp only [List.set, wipe, List.map])
  | ((with_reducible refine' g_var ?gv ?_); (case gv => exact rfl))
  | (with_reducible refine g_c ?_)
  | (with_reducible refine g_op ?_)
  | (with_reducible refine g_cons ?_)
  | (with_reducible refine g_nil ?_)
  | (with_reducible refine g_cb ?_)
  | (with_reducible refine g_call ?_)
  | (with_reducible refine g_tup ?_)
  | (with_reducible refine g_lst ?_)
  | (with_reducible refine g_bm ?_)
  | (with_reducible refine g_bm0 ?_)
  | ((with_reducible refine' g_kbm ?gh ?_); (case gh => walk_at "h"))
  | (with_reducible refine g_drop ?_)
  | (with_reducible refine g_ret ?_)
  | (with_reducible refine g_retN ?_)
  | (with_reducible refine g_next ?_)
  | (with_reducible refine g_brk ?_)
  | (with_reducible refine g_cont ?_)
  | (with_reducible refine g_if ?_)
  | ((with_reducible refine' g_aug ?gv ?_); (case gv => exact rfl))
  | (with_reducible refine g_ipI ?_)
  | (with_reducible refine g_test ?_)
  | (with_reducible refine g_tB ?_)
  | (with_reducible refine g_kB ?_)
  | (with_reducible refine g_not ?_)
  | (with_reducible refine g_and ?_)
  | (with_reducible refine g_or ?_)
  | (with_reducible refine g_andV ?_)
  | (with_reducible refine g_orV ?_)
  | (with_reducible refine g_notV ?_)
  | (with_reducible refine g_ifE ?_)
  | (with_reducible refine g_addI ?_)
  | (with_reducible refine g_rI0 ?_)
  | (with_reducible refine g_eqI ?_)
  | (with_reducible refine g_eqS ?_)
  | (with_reducible refine g_neI ?_)
  | (with_reducible refine g_neS ?_)
  | (with_reducible refine g_isN ?_)
  | (with_reducible refine g_notN ?_)
  | (with_reducible refine g_int ?_)
  | (with_reducible refine g_max2 ?_)
  | (with_reducible refine g_min2 ?_)
  | ((with_reducible refine' g_lenL ?gh ?_); (case gh => walk_at "h"))
  | (with_reducible refine g_sub ?_)
  | (with_reducible refine g_gcons ?_)
  | (with_reducible refine g_gnil ?_)
  | (with_reducible refine g_un ?_)
  | (with_reducible refine g_rU ?_)
  | (with_reducible refine g_forL ?_)
  | (with_reducible refine g_forS ?_)
  | (with_reducible refine g_forR1 ?_)
  | (with_reducible refine g_forR2 ?_)
  | (with_reducible refine g_forR3 ?_)
  | (with_reducible refine g_lcL ?_)
  | (with_reducible refine g_lcR1 ?_)
  | (with_reducible refine g_lcR2 ?_)
  | (with_reducible refine g_slice ?_)
  | (with_reducible refine g_part ?_)
  | (with_reducible refine g_kOI ?_)
  | (with_reducible refine g_nopart ?_)
  | (with_reducible refine g_yes ?_)
  | ((with_reducible refine' g_wipe ?gv ?_); (case gv => exact rfl))
  | (with_reducible refine iteT ?_)
  | (with_reducible refine iteF ?_)
  | (with_reducible refine i_nf ?_)
  | (with_reducible refine i_nt ?_)
  | ((with_reducible refine' g_gtup ?gh ?gl ?_); (case gh => walk_at "h"); (case gl => exact rfl))
  | ((with_reducible refine' g_notinI ?gh ?_); (case gh => walk_at "h"))
  | ((with_reducible refine' g_inI ?gh ?_); (case gh => walk_at "h"))
  | ((with_reducible refine' g_kget2 ?gh ?_); (case gh => walk_at "h"))
  | ((with_reducible refine' g_kgotI ?gh ?_); (case gh => walk_at "h"))
  | (with_reducible refine g_tRev ?_)
  | (with_reducible refine g_neB ?_)
  | (with_reducible refine g_eqB ?_)
  | ((with_reducible refine' g_lenT ?gh ?_); (case gh => walk_at "h"))
  | (with_reducible refine g_star ?_)
  | ((with_reducible refine' g_kstarL ?gh ?_); (case gh => walk_at "h"))
  | ((with_reducible refine' g_kstarT ?gh ?_); (case gh => walk_at "h"))
  | (with_reducible refine g_tru ?_)
  | ((with_reducible refine' g_truL ?gh ?_); (case gh => walk_at "h"))
  | (with_reducible refine g_get2 ?_)
  | (with_reducible refine g_try ?_)
  | (with_reducible refine g_fld ?_)
  | (with_reducible refine g_sfld ?_)
  | (with_reducible refine g_meth ?_)
  | (with_reducible refine g_make ?_)
  | (with_reducible refine g_del ?_)
  | (with_reducible refine g_callS ?_)
  | (with_reducible refine g_raise ?_)
  | (with_reducible refine g_xf ?_)
  | (with_reducible refine g_m0 ?_)
  | (with_reducible refine g_km0 ?_)
  | walk_at "is")
local macro_rules | `(tactic| walk_at "gg") => `(tactic| repeat walk_at "g")
local macro_rules | `(tactic| walk_at "sz") => `(tactic| (refine sz ?_; simp only [List.length_cons, List.length_nil, List.length_map, List.length_append, List.length_replicate]; omega))
local macro_rules | `(tactic| walk_at "sub") => `(tactic| ((repeat (first | exact List.Sublist.slnil | with_reducible apply List.Sublist.cons_cons | with_reducible apply List.Sublist.cons)); done))

/-! ### _law_asks -/
section
variable {P : Program} {w : World} {K : PySem.W.Frag} {mg : Str → Option Value} {base : Heap}
def sp_l_asks (K : PySem.W.Frag) : Sp := fun vs H Q _ => ∃ (tl u : Addr) (ds : List Addr) (A X Y C : Tre) (cl : List (Str × Nat)) (r : Option Str) (zs : List Str), vs = [.ref tl, .ref u] ∧ H tl = some (.lst (ds.map V.ref)) ∧ Trs H ds [A, X, Y] ∧ Due10 H u r C cl ∧ r = outc (fun z => (MT A X Y z).1) zs 0 ∧ (r = none → Mgd A X Y C cl) ∧ MOk A X Y zs ∧ (∀ z t, (MT A X Y z).1 = some t → t.length ≤ 1000) ∧
  ∀ H', Same H H' → Q (.bl true) H'
theorem sp_l_asks_len {vs H Q E} (h : sp_l_asks K vs H Q E) : vs.length = 2 := by
  obtain ⟨_, _, _, _, _, _, _, _, _, _, rfl, _⟩ := h
  rfl
set_option maxHeartbeats 2000000 in
theorem ok_l_asks (T : Txt K mg) : FnOk P w K mg base CX0 9 T.f_l_asks T.fd_l_asks ["trees", "due"] (sp_l_asks K) := by
  refine T.F_l_asks.ok sc_l_asks (fun vs H Q E h => sp_l_asks_len h) (fun cdv A outer s H vs Q E hr h => ?_)
  refine ⟨_, (pss_cons (ps_setLc (i := 2) (own := [("tree", 8)]) (g := gName 8) (tt := tYes) rfl sc_l_asks.nd rfl rfl (sw_true rfl rfl rfl (by decide +kernel)) (k_il K (pi_list (pv 0))) (blkOk_by (N := n_l_asks) (sc := defScope s_l_asks) (by decide +kernel)) (fun _ _ _ _ _ => (pg_name (i := 8) sc_l_asks.nd rfl (.inl rfl))) (fun _ _ _ _ _ => pts_nil) (fun _ _ _ _ _ => (pe_call (ok_l_copy T) (hr.mono (by decide)) (by rfl) T.g_l_copy T.F_l_copy.kp T.b_l_copy .nil pass0 (pa_cons (pv 8) pa_nil))))
      (pss_cons (ps_set (i := 3) sc_l_asks.nd rfl (.inl rfl) pe_non)
      (pss_cons (ps_set (i := 4) sc_l_asks.nd rfl (.inl rfl) pe_non)
      (pss_cons (ps_set (i := 5) sc_l_asks.nd rfl (.inl rfl) (pe_lst (pa_cons pe_bl (pa_cons pe_bl (pa_cons pe_bl pa_nil)))))
      (pss_cons (k_try K (i := 6) (Wout := fun _ _ _ _ => False) rfl rfl sc_l_asks.nd rfl rfl ⟨rfl, by decide, Or.inl T.g_TooLarge⟩ takesN (fun W pn xe tk hown => (pss_one (ps_set (i := 3) sc_l_asks.nd rfl (.inl rfl) (pe_callS (ok_merge_trees T) (hr.mono (by decide)) (by rfl) T.g_merge_trees T.F_merge_trees.kp T.b_merge_trees (fun σ => L2N.passAt tk σ) (pa_cons (pe_ix (ix_K K (hu_of hr)) (pv 2) pe_int (fun _ _ => rfl)) (pa_cons (pe_ix (ix_K K (hu_of hr)) (pv 2) pe_int (fun _ _ => rfl)) (pa_cons (pe_ix (ix_K K (hu_of hr)) (pv 2) pe_int (fun _ _ => rfl)) pa_nil))))))) (fun a oe cls d pn hz hf => (pss_cons (ps_set (i := 4) sc_l_asks.nd rfl (.inl rfl) (pe_xfA K hz.zc hf (pv 6)))
      (pss_one (ps_set (i := 5) sc_l_asks.nd rfl (.inl rfl) (pe_lst (pa_cons (pe_callB (cr_isX K hz.zc hf) (by rfl) T.m_isinstance (by decide +kernel) (pa_cons (pv 6) (pa_cons (pe_gc (v := .ref T.C_PartError) (by rfl) ⟨_, T.g_PartError, rfl⟩) pa_nil))) (pa_cons (pe_callB (cr_isX K hz.zc hf) (by rfl) T.m_isinstance (by decide +kernel) (pa_cons (pv 6) (pa_cons (pe_bltn (v := .ty "ValueError") (by rfl) T.m_ValueError (by decide +kernel) rfl) pa_nil))) (pa_cons (pe_callB (cr_isX K hz.zc hf) (by rfl) T.m_isinstance (by decide +kernel) (pa_cons (pv 6) (pa_cons (pe_gc (v := .ref T.C_BadTree) (by rfl) ⟨_, T.g_BadTree, rfl⟩) pa_nil))) pa_nil)))))))))
      (pss_cons (ps_if (PW.pt (pw_or (pt_not (pt_val (pe_call (ok_l_same T) (hr.mono (by decide)) (by rfl) T.g_l_same T.F_l_same.kp T.b_l_same .nil pass0 (pa_cons (pv 4) (pa_cons (pe_ix (ix_K K (hu_of hr)) (pv 1) pe_int (fun _ _ => rfl)) pa_nil))))) (pw_or1 (pt_cmpR (op_neK K hr.units) (pv 5) (pe_lst (pa_cons pe_bl (pa_cons pe_bl (pa_cons pe_bl pa_nil)))) (nomark _))))) (pss_one (ps_ret pe_bl)) pss_nil)
      (pss_cons (ps_if (PW.pt (pw_and (pt_cmpR op_isNA (pe_ix (ix_K K (hu_of hr)) (pv 1) pe_int (fun _ _ => rfl)) pe_non (nomark _)) (pw_and1 (pt_not (pt_val (pe_call (ok_l_same T) (hr.mono (by decide)) (by rfl) T.g_l_same T.F_l_same.kp T.b_l_same .nil pass0 (pa_cons (pv 3) (pa_cons (pe_tup (pa_cons (pe_ix (ix_K K (hu_of hr)) (pv 1) pe_int (fun _ _ => rfl)) (pa_cons (pe_ix (ix_K K (hu_of hr)) (pv 1) pe_int (fun _ _ => rfl)) pa_nil))) pa_nil)))))))) (pss_one (ps_ret pe_bl)) pss_nil)
      (pss_cons (ps_for PassesOwn.never rfl (pi_range1 rfl T.m_range (pa_cons pe_int pa_nil)) (pg_name (i := 7) sc_l_asks.nd rfl (.inl rfl)) (pss_one (ps_if (pt_not (pt_val (pe_call (ok_l_kept T) (hr.mono (by decide)) (by rfl) T.g_l_kept T.F_l_kept.kp T.b_l_kept .nil pass0 (pa_cons (pe_ix (ix_K K (hu_of hr)) (pv 2) (pv 7) (fun _ _ => rfl)) (pa_cons (pe_ix (ix_K K (hu_of hr)) (pv 0) (pv 7) (fun _ _ => rfl)) pa_nil))))) (pss_one (ps_ret pe_bl)) pss_nil)))
      (pss_one (ps_ret pe_bl)))))))))), ?_⟩
  obtain ⟨tl, u, ds, A, X, Y, C, cl, r, zs, rfl, htl, ts, ⟨ud, ul, ucv, hu, utd, hul, udq⟩, er, mg0, M, lfit, q⟩ := h
  have hH := Has.start H
  have lds := ts.len
  have ell : (ds.map V.ref).length = [A, X, Y].length := by rw [List.length_map, lds]
  refine g_start (σ' := [some (.ref tl), some (.ref u), none, none, none, none, none, none, none]) rfl ?_
  walk_at "gg"
  refine k_lcL htl hH (fun i acc F' O' => ∃ es, acc = es.map V.ref ∧ Trs F' es ([A, X, Y].take i) ∧ Same H F' ∧ O' = []) ⟨[], rfl, .nil, Same.refl _, rfl⟩ ?_ ?_ ?_
  · rintro i acc F' O' H' ⟨_, _, _, sF, rfl⟩ hh
    exact hh.same _ _ (sF _ _ htl)
  · rintro i v acc F' O' D H2 hv ⟨es, rfl, te, sF, rfl⟩ hh
    rw [List.getElem?_map] at hv
    obtain ⟨di, edi, rfl⟩ := Option.map_eq_some_iff.mp hv
    obtain ⟨C', eC', tc⟩ := ts.get edi
    have le := te.len
    rw [List.length_take] at le
    have le2 : es.length ≤ 3 := by rw [le]; exact Nat.min_le_right _ _
    obtain ⟨_, _, _, ndC, _⟩ := id tc
    walk_at "gg"
    refine ⟨di, C', rfl, (tc.up sF).up hh.same, by have := M.ln C' (List.mem_of_getElem? eC'); omega, fun pc B2 H3 h3 eB2 => ?_⟩
    obtain ⟨F3, sF3, h3, nw⟩ := hh.join h3
    have nB : (B2.map (·.1)).Nodup := by rw [← bA_keys, eB2]; exact ndC
    have tn : TrAt F3 pc C' := by rw [← eB2]; exact tr_own nw nB
    refine k_turn h3 (by rw [List.length_map]; omega) ⟨es ++ [pc], by rw [List.map_append]; rfl, ?_, sF.trans sF3, rfl⟩
    rw [List.take_add_one, eC']
    exact (te.up sF3).snoc tn
  rintro acc F2 O2 g H2 ⟨es, rfl, te, sF, rfl⟩ h2
  rw [ell, List.take_length] at te
  have le := te.len
  obtain ⟨e0, e1, e2_, rfl⟩ : ∃ e0 e1 e2_, es = [e0, e1, e2_] := by
    match es, le with
    | [a, b, c], _ => exact ⟨a, b, c, rfl⟩
  have t0 : TrAt F2 e0 A := by cases te; assumption
  have t1 : TrAt F2 e1 X := by cases te with | cons _ te => cases te; assumption
  have t2 : TrAt F2 e2_ Y := by cases te with | cons _ te => cases te with | cons _ te => cases te; assumption
  have htl := sF _ _ htl
  have ts := ts.up sF
  have hu := sF _ _ hu
  have utd := utd.up sF
  have hul := sF _ _ hul
  have udq := udq.up sF _ _
  walk_at "gg"
  refine g_klstF (by walk_at "sz") h2 (fun kl H3 F3 n3 s3 f3 h3 => ?_)
  have hg := h3.get (List.Mem.head _)
  have s23 := s3.trans h3.same
  have s3H : Same F2 H3 := s3.trans h3.same
  have hkl := h3.same _ _ f3
  have eqk : PyData.eqv (.list [.bool true, .bool true, .bool false]) (.list [.bool true, .bool true, .bool false]) = true := by decide +kernel
  have shk : SeqAt.shaped (.list [.bool true, .bool true, .bool false]) = true := by decide +kernel
  have dk : ∀ {H' : Hp} {a : Addr}, H' a = some (.lst [V.bl true, V.bl true, V.bl false]) → Dq H' (.ref a) (.list [.bool true, .bool true, .bool false]) := fun h => .lst h (.cons (.bl _) (.cons (.bl _) (.cons (.bl _) .nil)))
  walk_at "gg"
  refine g_ixL (v := .ref e0) hg (atI_nat (j := 0) rfl) ?_
  walk_at "gg"
  refine g_ixL (v := .ref e1) hg (atI_nat (j := 1) rfl) ?_
  walk_at "gg"
  refine g_ixL (v := .ref e2_) hg (atI_nat (j := 2) rfl) ?_
  walk_at "gg"
  cases r with
  | none =>
    refine ⟨e0, e1, e2_, A, X, Y, zs, rfl, t0.up s23, t1.up s23, t2.up s23, M, (fun _ p d l B cv cl' F4 H4 s4 np fp h4 dqc mg => ?_), (fun z e => by rw [← er] at e; cases e)⟩
    have mg0 := mg0 rfl
    obtain ⟨eB, ec⟩ := mg.uniq mg0
    subst ec
    have nB : (B.map (·.1)).Nodup := by rw [← bA_keys, eB]; exact mg0.asc.nd
    have lC : C.length ≤ 9 := by
      have := nd_le mg0.asc.nd (ys := zs) fun z hz => by
        obtain ⟨p, hp, rfl⟩ := List.mem_map.mp hz
        have := (mg0.tx p.1 p.2).mp hp
        refine Classical.byContradiction fun c => ?_
        rw [MT_none fun D hD m => c (by
          obtain ⟨r, hr, e⟩ := List.mem_map.mp m
          rw [← e]
          exact M.sub D hD r hr)] at this
        cases this
      rw [List.length_map] at this
      exact Nat.le_trans this M.few
    have lcl : cl'.length ≤ 9 := by
      have := nd_le mg0.casc.nodup (ys := zs) fun z hz => by
        obtain ⟨p, hp, rfl⟩ := List.mem_map.mp hz
        have := (mg0.cn p.1 p.2).mp hp
        refine Classical.byContradiction fun c => ?_
        rw [MT_none fun D hD m => c (by
          obtain ⟨r, hr, e⟩ := List.mem_map.mp m
          rw [← e]
          exact M.sub D hD r hr)] at this
        cases this
      rw [List.length_map] at this
      exact Nat.le_trans this M.few
    have td : TrAt H4 d C := by
      rw [← eB]
      exact tr_in h4 (fun p hp => List.mem_cons_of_mem _ hp) nB
    have s34 := s4.trans h4.same
    have due3 : DueAt H4 p C cl' := ⟨d, l, cv, h4.same _ _ fp, td, h4.get (List.Mem.head _), dqc.up h4.same _ _⟩
    obtain ⟨F4', s44, h5, nw4⟩ := (Has.start F4).join (h4 : Has F4 ((l, .lst cv) :: treeO d B) H4)
    have td : TrAt F4' d C := by
      rw [← eB]
      exact tr_own (fun p hp => nw4 p (List.mem_cons_of_mem _ hp)) nB
    have due1 : DueAt F4' p C cl' := ⟨d, l, cv, s44 _ _ fp, td, nw4 _ (List.Mem.head _), dqc.up s44 _ _⟩
    have s4 := s4.trans s44
    have hu4 := s34 _ _ (s3H _ _ hu)
    walk_at "gg"
    refine g_ixT (v := .non) hu4 (atI_nat (j := 0) rfl) ?_
    walk_at "gg"
    refine ⟨.non, .non, rfl, Sm.non, fun H5 s5 => ?_⟩
    have h5 := h5.on s5
    walk_at "gg"
    refine g_klst (by walk_at "sz") h5 (fun k2 H6 n6 h6 => ?_)
    refine g_neD (dk (h6.same _ _ (s4 _ _ hkl))) (dk (h6.get (List.Mem.head _))) shk shk ?_
    rw [eqk]
    have s56 := s5
    have h6 := h6.drop
    walk_at "gg"
    refine g_ixT (v := .non) (h6.same _ _ (s4 _ _ (s3H _ _ hu))) (atI_nat (j := 0) rfl) ?_
    walk_at "gg"
    refine i_d (fun _ => ?_) (fun c => (c rfl).elim)
    walk_at "gg"
    refine g_ixT (v := .ref ud) (h6.same _ _ (s4 _ _ (s3H _ _ hu))) (atI_nat (j := 1) rfl) ?_
    walk_at "gg"
    refine g_ixT (v := .ref ul) (h6.same _ _ (s4 _ _ (s3H _ _ hu))) (atI_nat (j := 2) rfl) ?_
    walk_at "gg"
    refine g_ktup (by walk_at "sz") h6 (fun u2 H7 n7 h7 => ?_)
    have s47 : Same F4' H7 := h7.same
    have due2 : DueAt H7 u2 C cl' := ⟨ud, ul, ucv, h7.get (List.Mem.head _), (((utd.up s3H).up s4).up s47), s47 _ _ (s4 _ _ (s3H _ _ hul)), ((udq.up s3H _ _).up s4 _ _).up s47 _ _⟩
    walk_at "gg"
    refine ⟨.ref p, .ref u2, rfl, (due1.up s47).sm due2 (by omega) (fun p hp => lfit p.1 p.2 ((mg0.tx p.1 p.2).mp hp)) (by omega), fun H8 s8 => ?_⟩
    have h8 := (h7.on s8).drop
    walk_at "gg"
    refine k_forR1 (fun t σ H' => ∃ y7 : Option V, σ = [some (.ref tl), some (.ref u), some (.ref g), some (.ref p), some .non, some (.ref kl), none, y7, none] ∧ Has F4' [] H') (by decide) (by decide) ⟨_, rfl, h8⟩ ?_ ?_
    · rintro t σ H8 ht ⟨y7, rfl, h8⟩
      have lt : t < 3 := ht
      have l3 : ds.length = 3 := lds
      have e2 : ds[t]? = some (ds[t]'(by omega)) := List.getElem?_eq_getElem (by omega)
      generalize ds[t]'(by omega) = d_ at e2
      have E1 : [e0, e1, e2_][t]? = some ([e0, e1, e2_][t]'(by exact lt)) := List.getElem?_eq_getElem (by exact lt)
      generalize [e0, e1, e2_][t]'(by exact lt) = e_ at E1
      obtain ⟨C1, eC1, tt1⟩ := te.get E1
      obtain ⟨C2, eC2, tt2⟩ := ts.get e2
      have e3 : C1 = C2 := Option.some.inj (eC1.symm.trans eC2)
      subst e3
      walk_at "gg"
      refine g_ixL (v := .ref e_) (h8.same _ _ (s4 _ _ hg)) (atI_nat (by rw [List.getElem?_map, E1]; rfl)) ?_
      walk_at "gg"
      refine g_ixL (v := .ref d_) (h8.same _ _ (s4 _ _ (s3H _ _ htl))) (atI_nat (by rw [List.getElem?_map, e2]; rfl)) ?_
      walk_at "gg"
      refine ⟨e_, d_, C1, rfl, ((tt1.up s3H).up s4).up h8.same, ((tt2.up s3H).up s4).up h8.same, M.ok C1 (List.mem_of_getElem? eC1), fun H9 s9 => ?_⟩
      walk_at "gg"
      exact ⟨_, rfl, h8.on s9⟩
    · rintro σ H8 ⟨y7, rfl, h8⟩
      walk_at "gg"
      exact q H8 (sF.trans (s3H.trans (s4.trans h8.same)))
  | some z =>
    refine ⟨e0, e1, e2_, A, X, Y, zs, rfl, t0.up s23, t1.up s23, t2.up s23, M, (fun e => by rw [← er] at e; cases e), (fun z' e e' H4 s4 n4 he => ?_)⟩
    rw [← er] at e
    injection e with e
    subst e
    refine g_caught T.M_TooLarge_TooLarge (fun exn nxn => ?_)
    have h4 := h3.all.made n4 s4 he
    have hx := h4.get (List.Mem.head _)
    walk_at "gg"
    refine g_kxf T.XF_TooLarge T.N_TooLarge_path hx rfl ?_
    walk_at "gg"
    refine g_isX T.IS_TooLarge hx T.K_TooLarge_PartError ?_
    walk_at "gg"
    refine g_isXT T.IS_TooLarge hx T.K_TooLarge_ValueError ?_
    walk_at "gg"
    refine g_isX T.IS_TooLarge hx T.K_TooLarge_BadTree ?_
    walk_at "gg"
    refine g_klstF (by walk_at "sz") h4.all (fun k2 H5 F5 n5 s5 f5 h5 => ?_)
    have s35 : Same H3 F5 := h4.same.trans s5
    walk_at "gg"
    refine g_ixT (v := .str z) (h5.same _ _ (s35 _ _ (s3H _ _ hu))) (atI_nat (j := 0) rfl) ?_
    walk_at "gg"
    refine ⟨.str z, .str z, rfl, .inr (.inr (.inl ⟨z, rfl, rfl⟩)), fun H6 s6 => ?_⟩
    have h6 := h5.on s6
    walk_at "gg"
    refine g_klst (by walk_at "sz") h6 (fun k3 H7 n7 h7 => ?_)
    refine g_neD (dk (h7.same _ _ f5)) (dk (h7.get (List.Mem.head _))) shk shk ?_
    rw [eqk]
    have h7 := h7.drop
    walk_at "gg"
    refine g_ixT (v := .str z) (h7.same _ _ (s35 _ _ (s3H _ _ hu))) (atI_nat (j := 0) rfl) ?_
    walk_at "gg"
    refine i_d (fun c => by cases c) (fun _ => ?_)
    walk_at "gg"
    refine k_forR1 (fun t σ H' => ∃ y7 : Option V, σ = [some (.ref tl), some (.ref u), some (.ref g), some .non, some (.str z), some (.ref k2), none, y7, none] ∧ Has F5 [] H') (by decide) (by decide) ⟨_, rfl, h7⟩ ?_ ?_
    · rintro t σ H8 ht ⟨y7, rfl, h8⟩
      have lt : t < 3 := ht
      have l3 : ds.length = 3 := lds
      have e2 : ds[t]? = some (ds[t]'(by omega)) := List.getElem?_eq_getElem (by omega)
      generalize ds[t]'(by omega) = d_ at e2
      have E1 : [e0, e1, e2_][t]? = some ([e0, e1, e2_][t]'(by exact lt)) := List.getElem?_eq_getElem (by exact lt)
      generalize [e0, e1, e2_][t]'(by exact lt) = e_ at E1
      obtain ⟨C1, eC1, tt1⟩ := te.get E1
      obtain ⟨C2, eC2, tt2⟩ := ts.get e2
      have e3 : C1 = C2 := Option.some.inj (eC1.symm.trans eC2)
      subst e3
      walk_at "gg"
      refine g_ixL (v := .ref e_) (h8.same _ _ (s35 _ _ hg)) (atI_nat (by rw [List.getElem?_map, E1]; rfl)) ?_
      walk_at "gg"
      refine g_ixL (v := .ref d_) (h8.same _ _ (s35 _ _ (s3H _ _ htl))) (atI_nat (by rw [List.getElem?_map, e2]; rfl)) ?_
      walk_at "gg"
      refine ⟨e_, d_, C1, rfl, ((tt1.up s3H).up s35).up h8.same, ((tt2.up s3H).up s35).up h8.same, M.ok C1 (List.mem_of_getElem? eC1), fun H9 s9 => ?_⟩
      walk_at "gg"
      exact ⟨_, rfl, h8.on s9⟩
    · rintro σ H8 ⟨y7, rfl, h8⟩
      walk_at "gg"
      exact q H8 (sF.trans (s3H.trans (s35.trans h8.same)))
end

end K10

namespace K10
open PySem PySem.Spec PyProof.Rows L2 Qk
local macro_rules | `(tactic| walk_at "m") => `(tactic| ((repeat (first | exact List.Mem.head _ | apply List.Mem.tail)); done))
local macro_rules | `(tactic| walk_at "h") => `(tactic| first | assumption | exact Has.gF (by assumption) (by assumption) | exact Has.get (by assumption) (by walk_at "m"))
local macro_rules | `(tactic| walk_at "c") => `(tactic| ((repeat (first | exact Chg.hd | apply Chg.tl)); done))
local macro_rules | `(tactic| walk_at "is") => `(tactic| first
  | ((with_reducible refine' is2_non ?gh ?_); (case gh => walk_at "h"))
  | (with_reducible refine is_int_list ?_)
  | (with_reducible refine is_int_tuple ?_)
  | (with_reducible refine is_int_dict ?_)
  | (with_reducible refine is_int_int ?_)
  | (with_reducible refine is_int_bool ?_)
  | (with_reducible refine is_int_str ?_)
  | ((with_reducible refine' is2_int ?gh ?_); (case gh => walk_at "h"))
  | (with_reducible refine is_str_list ?_)
  | (with_reducible refine is_str_tuple ?_)
  | (with_reducible refine is_str_dict ?_)
  | (with_reducible refine is_str_int ?_)
  | (with_reducible refine is_str_bool ?_)
  | (with_reducible refine is_str_str ?_)
  | ((with_reducible refine' is2_str ?gh ?_); (case gh => walk_at "h"))
  | (with_reducible refine is_bool_list ?_)
  | (with_reducible refine is_bool_tuple ?_)
  | (with_reducible refine is_bool_dict ?_)
  | (with_reducible refine is_bool_int ?_)
  | (with_reducible refine is_bool_bool ?_)
  | (with_reducible refine is_bool_str ?_)
  | ((with_reducible refine' is2_bool ?gh ?_); (case gh => walk_at "h"))
  | ((with_reducible refine' is_list_list ?gh ?_); (case gh => walk_at "h"))
  | ((with_reducible refine' is_list_tuple ?gh ?_); (case gh => walk_at "h"))
  | ((with_reducible refine' is_list_dict ?gh ?_); (case gh => walk_at "h"))
  | ((with_reducible refine' is_list_int ?gh ?_); (case gh => walk_at "h"))
  | ((with_reducible refine' is_list_bool ?gh ?_); (case gh => walk_at "h"))
  | ((with_reducible refine' is_list_str ?gh ?_); (case gh => walk_at "h"))
  | ((with_reducible refine' is2_list ?ga ?gb ?_); (case ga => walk_at "h"); (case gb => walk_at "h"))
  | ((with_reducible refine' is_tuple_list ?gh ?_); (case gh => walk_at "h"))
  | ((with_reducible refine' is_tuple_tuple ?gh ?_); (case gh => walk_at "h"))
  | ((with_reducible refine' is_tuple_dict ?gh ?_); (case gh => walk_at "h"))
  | ((with_reducible refine' is_tuple_int ?gh ?_); (case gh => walk_at "h"))
  | ((with_reducible refine' is_tuple_bool ?gh ?_); (case gh => walk_at "h"))
  | ((with_reducible refine' is_tuple_str ?gh ?_); (case gh => walk_at "h"))
  | ((with_reducible refine' is2_tuple ?ga ?gb ?_); (case ga => walk_at "h"); (case gb => walk_at "h"))
  | ((with_reducible refine' is_dict_list ?gh ?_); (case gh => walk_at "h"))
  | ((with_reducible refine' is_dict_tuple ?gh ?_); (case gh => walk_at "h"))
  | ((with_reducible refine' is_dict_dict ?gh ?_); (case gh => walk_at "h"))
  | ((with_reducible refine' is_dict_int ?gh ?_); (case gh => walk_at "h"))
  | ((with_reducible refine' is_dict_bool ?gh ?_); (case gh => walk_at "h"))
  | ((with_reducible refine' is_dict_str ?gh ?_); (case gh => walk_at "h"))
  | ((with_reducible refine' is2_dict ?ga ?gb ?_); (case ga => walk_at "h"); (case gb => walk_at "h")))
local macro_rules | `(tactic| walk_at "g") => `(tactic| first
  | (with_reducible refine g_seq ?_)
  | (with_reducible refine g_asg ?_)
  | ((with_reducible refine g_name ?_); dsimp only [List.set, wipe, List.map])
  | ((with_reducible refine' g_var ?gv ?_); (case gv => exact rfl))
  | (with_reducible refine g_c ?_)
  | (with_reducible refine g_op ?_)
  | (with_reducible refine g_cons ?_)
  | (with_reducible refine g_nil ?_)
  | (with_reducible refine g_cb ?_)
  | (with_reducible refine g_call ?_)
  | (with_reducible refine g_tup ?_)
  | (with_reducible refine g_lst ?_)
  | (with_reducible refine g_bm ?_)
  | (with_reducible refine g_bm0 ?_)
  | ((with_reducible refine' g_kbm ?gh ?_); (case gh => walk_at "h"))
  | (with_reducible refine g_drop ?_)
  | (with_reducible refine g_ret ?_)
  | (with_reducible refine g_retN ?_)
  | (with_reducible refine g_next ?_)
  | (with_reducible refine g_brk ?_)
  | (with_reducible refine g_cont ?_)
  | (with_reducible refine g_if ?_)
  | ((with_reducible refine' g_aug ?gv ?_); (case gv => exact rfl))
  | (with_reducible refine g_ipI ?_)
  | (with_reducible refine g_test ?_)
  | (with_reducible refine g_tB ?_)
  | (with_reducible refine g_kB ?_)
  | (with_reducible refine g_not ?_)
  | (with_reducible refine g_and ?_)
  | (with_reducible refine g_or ?_)
  | (with_reducible refine g_andV ?_)
  | (with_reducible refine g_orV ?_)
  | (with_reducible refine g_notV ?_)
  | (with_reducible refine g_ifE ?_)
  | (with_reducible refine g_addI ?_)
  | (with_reducible refine g_rI0 ?_)
  | (with_reducible refine g_eqI ?_)
  | (with_reducible refine g_eqS ?_)
  | (with_reducible refine g_neI ?_)
  | (with_reducible refine g_neS ?_)
  | (with_reducible refine g_isN ?_)
  | (with_reducible refine g_notN ?_)
  | (with_reducible refine g_int ?_)
  | (with_reducible refine g_max2 ?_)
  | (with_reducible refine g_min2 ?_)
  | ((with_reducible refine' g_lenL ?gh ?_); (case gh => walk_at "h"))
  | (with_reducible refine g_sub ?_)
  | (with_reducible refine g_gcons ?_)
  | (with_reducible refine g_gnil ?_)
  | (with_reducible refine g_un ?_)
  | (with_reducible refine g_rU ?_)
  | (with_reducible refine g_forL ?_)
  | (with_reducible refine g_forS ?_)
  | (with_reducible refine g_forR1 ?_)
  | (with_reducible refine g_forR2 ?_)
  | (with_reducible refine g_forR3 ?_)
  | (with_reducible refine g_lcL ?_)
  | (with_reducible refine g_lcR1 ?_)
  | (with_reducible refine g_lcR2 ?_)
  | (with_reducible refine g_slice ?_)
  | (with_reducible refine g_part ?_)
  | (with_reducible refine g_kOI ?_)
  | (with_reducible refine g_nopart ?_)
  | (with_reducible refine g_yes ?_)
  | ((with_reducible refine' g_wipe ?gv ?_); (case gv => exact rfl))
  | (with_reducible refine iteT ?_)
  | (with_reducible refine iteF ?_)
  | (with_reducible refine i_nf ?_)
  | (with_reducible refine i_nt ?_)
  | ((with_reducible refine' g_gtup ?gh ?gl ?_); (case gh => walk_at "h"); (case gl => exact rfl))
  | ((with_reducible refine' g_notinI ?gh ?_); (case gh => walk_at "h"))
  | ((with_reducible refine' g_inI ?gh ?_); (case gh => walk_at "h"))
  | ((with_reducible refine' g_kget2 ?gh ?_); (case gh => walk_at "h"))
  | ((with_reducible refine' g_kgotI ?gh ?_); (case gh => walk_at "h"))
  | (with_reducible refine g_tRev ?_)
  | (with_reducible refine g_neB ?_)
  | (with_reducible refine g_eqB ?_)
  | ((with_reducible refine' g_lenT ?gh ?_); (case gh => walk_at "h"))
  | (with_reducible refine g_star ?_)
  | ((with_reducible refine' g_kstarL ?gh ?_); (case gh => walk_at "h"))
  | ((with_reducible refine' g_kstarT ?gh ?_); (case gh => walk_at "h"))
  | (with_reducible refine g_tru ?_)
  | ((with_reducible refine' g_truL ?gh ?_); (case gh => walk_at "h"))
  | (with_reducible refine g_get2 ?_)
  | (with_reducible refine g_try ?_)
  | (with_reducible refine g_fld ?_)
  | (with_reducible refine g_sfld ?_)
  | (with_reducible refine g_meth ?_)
  | (with_reducible refine g_make ?_)
  | (with_reducible refine g_del ?_)
  | (with_reducible refine g_callS ?_)
  | (with_reducible refine g_raise ?_)
  | (with_reducible refine g_xf ?_)
  | (with_reducible refine g_m0 ?_)
  | (with_reducible refine g_km0 ?_)
  | walk_at "is")
local macro_rules | `(tactic| walk_at "gg") => `(tactic| repeat walk_at "g")
local macro_rules | `(tactic| walk_at "sz") => `(tactic| (refine sz ?_; simp only [List.length_cons, List.length_nil, List.length_map, List.length_append, List.length_replicate]; omega))
local macro_rules | `(tactic| walk_at "sub") => `(tactic| ((repeat (first | exact List.Sublist.slnil | with_reducible apply List.Sublist.cons_cons | with_reducible apply List.Sublist.cons)); done))

/-! ### the law -/
theorem way_nodup (s e : Int) (h : e % 10 = 1 ∨ e % 10 = 3 ∨ e % 10 = 7 ∨ e % 10 = 9) : ((List.range 9).map fun k => way (s + e * (k : Nat))).Nodup := by
  have key : ∀ a < 10, ∀ b < 10, (b = 1 ∨ b = 3 ∨ b = 7 ∨ b = 9) → ((List.range 9).map fun k => wayM.getD ((a + b * k) % 10) "").Nodup := by decide +kernel
  have := key (s % 10).toNat (by omega) (e % 10).toNat (by omega) (by omega)
  have e2 : ((List.range 9).map fun k => way (s + e * (k : Nat))) = ((List.range 9).map fun k => wayM.getD (((s % 10).toNat + (e % 10).toNat * k) % 10) "") := by
    apply List.map_congr_left
    intro k hk
    have hk := List.mem_range.mp hk
    have h3 : k = 0 ∨ k = 1 ∨ k = 2 ∨ k = 3 ∨ k = 4 ∨ k = 5 ∨ k = 6 ∨ k = 7 ∨ k = 8 := by omega
    unfold way
    congr 1
    rcases h3 with rfl | rfl | rfl | rfl | rfl | rfl | rfl | rfl | rfl <;> (push_cast; omega)
  rw [e2]
  exact this
/-- what the law draws of sizes and fates -/
structure Dr (fs : List Int) (s0 n s2 : Nat) : Prop where
  lf : fs.length = 8
  fr : ∀ f ∈ fs, 0 ≤ f ∧ f ≤ 3
  p0 : 0 < s0
  p2 : 0 < s2
  ln : n ≤ 11
  lx : s0 + n ≤ 40
  ly : n + s2 ≤ 40
theorem mk9 {ps : List Str} {os : List (Option Tx)} (lp : ps.length = 9) (hp : ∀ z ∈ ps, PyData.strOk z = true) (ho : ∀ o ∈ os, okO o ∧ ∀ t, o = some t → t.length ≤ 40) {zs : List Str} (mz : ∀ z, z ∈ zs ↔ z ∈ ps) :
    (∀ p ∈ mkTr ps os, p.1 ∈ zs) ∧ (mkTr ps os).length ≤ 9 ∧ okTr (mkTr ps os) ∧ ∀ p ∈ mkTr ps os, p.2.length ≤ 40 := by
  have mem : ∀ p ∈ mkTr ps os, p.1 ∈ ps ∧ (some p.2) ∈ os := fun p hp => by
    unfold mkTr at hp
    obtain ⟨q, hq, e⟩ := List.mem_filterMap.mp hp
    obtain ⟨t, et, e2⟩ := Option.map_eq_some_iff.mp e
    have := List.of_mem_zip hq
    subst e2
    exact ⟨this.1, et ▸ this.2⟩
  refine ⟨fun p h => (mz _).mpr (mem p h).1, ?_, fun p h => ⟨hp _ (mem p h).1, (ho _ (mem p h).2).1 _ rfl⟩, fun p h => (ho _ (mem p h).2).2 _ rfl⟩
  have := (mkTr_keys (ps := ps) (os := os)).length_le
  rw [List.length_map] at this
  omega
theorem okL_rp (c : Str) (h : PyData.strOk c = true) (n : Nat) : okL (rp c n) := fun z hz => by
  rw [rp_mem hz]
  exact h
theorem okT {t : Tx} (h : okL t) (l : t.length ≤ 40) : okO (some t) ∧ ∀ t', some t = some t' → t'.length ≤ 40 := ⟨okO_some h, fun t' e => by rw [← Option.some.inj e]; exact l⟩
theorem okN : okO none ∧ ∀ t', (none : Option Tx) = some t' → t'.length ≤ 40 := ⟨okO_none, fun t' e => by cases e⟩
theorem nt_ok : okL nt ∧ nt.length ≤ 40 ∧ okL (["m"] : Tx) := by
  have h : (nt.all fun z => PyData.strOk z) = true ∧ nt.length ≤ 40 ∧ ((["m"] : Tx).all fun z => PyData.strOk z) = true := by decide +kernel
  exact ⟨List.all_eq_true.mp h.1, h.2.1, List.all_eq_true.mp h.2.2⟩
theorem mok {ps zs : List Str} {fs : List Int} {s0 n s2 : Nat} {bare : Bool} (lp : ps.length = 9) (hp : ∀ z ∈ ps, PyData.strOk z = true) (az : Asc zs) (mz : ∀ z, z ∈ zs ↔ z ∈ ps) (lz : zs.length = 9) (D : Dr fs s0 n s2) :
    MOk (treeA ps fs n bare) (treeX ps fs s0 n) (treeY ps fs n s2) zs ∧ MOk (treeA ps fs n bare) (treeY ps fs n s2) (treeX ps fs s0 n) zs := by
  have ox : PyData.strOk "x" = true ∧ PyData.strOk "y" = true := by decide +kernel
  have hA := mk9 (os := osA fs ++ [bO9 n bare]) lp hp (fun o ho => by
    rcases List.mem_append.mp ho with ho | ho
    · obtain ⟨k, _, rfl⟩ := List.mem_map.mp ho
      unfold oA
      split
      · exact okT nt_ok.1 nt_ok.2.1
      · split
        · exact okT nt_ok.2.2 (by decide)
        · exact okN
    · rw [List.mem_singleton.mp ho]
      unfold bO9
      split
      · exact okT (bL_ok n) (by have := D.ln; rw [bL_len D.ln]; omega)
      · exact okN) mz
  have hS : ∀ i (T : Tx), okL T → T.length ≤ 40 → ∀ o ∈ osS fs i ++ [some T], okO o ∧ ∀ t, o = some t → t.length ≤ 40 := fun i T oT lT o ho => by
    rcases List.mem_append.mp ho with ho | ho
    · obtain ⟨k, _, rfl⟩ := List.mem_map.mp ho
      unfold oS
      split
      · exact okT nt_ok.1 nt_ok.2.1
      · exact okN
    · rw [List.mem_singleton.mp ho]
      exact okT oT lT
  have app : ∀ {x y : Tx}, okL x → okL y → okL (x ++ y) := fun h1 h2 z hz => by
    rcases List.mem_append.mp hz with hz | hz
    · exact h1 z hz
    · exact h2 z hz
  have hX := mk9 lp hp (hS 1 (rp "x" s0 ++ bL n) (app (okL_rp _ ox.1 _) (bL_ok n)) (by rw [List.length_append, rp_len, bL_len D.ln]; exact D.lx)) mz
  have hY := mk9 lp hp (hS 2 (bL n ++ rp "y" s2) (app (bL_ok n) (okL_rp _ ox.2 _)) (by rw [List.length_append, rp_len, bL_len D.ln]; exact D.ly)) mz
  have mk : ∀ C1 C2 C3 : Tre, ((∀ p ∈ C1, p.1 ∈ zs) ∧ C1.length ≤ 9 ∧ okTr C1 ∧ ∀ p ∈ C1, p.2.length ≤ 40) → ((∀ p ∈ C2, p.1 ∈ zs) ∧ C2.length ≤ 9 ∧ okTr C2 ∧ ∀ p ∈ C2, p.2.length ≤ 40) → ((∀ p ∈ C3, p.1 ∈ zs) ∧ C3.length ≤ 9 ∧ okTr C3 ∧ ∀ p ∈ C3, p.2.length ≤ 40) → MOk C1 C2 C3 zs := fun C1 C2 C3 h1 h2 h3 => by
    have all : ∀ C ∈ [C1, C2, C3], (∀ p ∈ C, p.1 ∈ zs) ∧ C.length ≤ 9 ∧ okTr C ∧ ∀ p ∈ C, p.2.length ≤ 40 := fun C hC => by
      simp only [List.mem_cons, List.not_mem_nil, or_false] at hC
      rcases hC with rfl | rfl | rfl
      · exact h1
      · exact h2
      · exact h3
    exact ⟨by omega, az, fun C hC => (all C hC).1, fun C hC => (all C hC).2.1, fun C hC => (all C hC).2.2.1, fun C hC => (all C hC).2.2.2⟩
  exact ⟨mk _ _ _ hA hX hY, mk _ _ _ hA hY hX⟩
/-- what the law asks: due and told agree -/
theorem due_mgd {A X Y C : Tre} {cl : List (Str × Nat)} {zs : List Str} (M : MOk A X Y zs) (h : UpTo (fun z => (MT A X Y z).1) zs C ∧ UpTo (fun z => (MT A X Y z).2) zs cl) : Mgd A X Y C cl := by
  have out : ∀ z, z ∉ zs → MT A X Y z = (none, none) := fun z n => MT_none fun D hD m => n (by
    obtain ⟨p, hp, rfl⟩ := List.mem_map.mp m
    exact M.sub D hD p hp)
  exact ⟨M.asc.sublist h.1.1, h.1.all fun z n => by
    show (MT A X Y z).1 = none
    rw [out z n], M.asc.sublist h.2.1, h.2.all fun z n => by
    show (MT A X Y z).2 = none
    rw [out z n]⟩
theorem fit_of {A X Y : Tre} {zs ps : List Str} {fs : List Int} {s0 n s2 : Nat} {tu : Bool} (M : MOk A X Y zs) (mz : ∀ z, z ∈ zs ↔ z ∈ ps) (D : Dr fs s0 n s2) (hf : ∀ k z, ps[k]? = some z → MT A X Y z = (wT fs s0 n s2 tu k, wN fs n k)) : ∀ z t, (MT A X Y z).1 = some t → t.length ≤ 1000 := fun z t e => by
  by_cases m : z ∈ zs
  · obtain ⟨k, hk⟩ := List.mem_iff_getElem?.mp ((mz z).mp m)
    rw [hf k z hk] at e
    have e : wT fs s0 n s2 tu k = some t := e
    unfold wT at e
    split at e
    · rw [← Option.some.inj e]
      have := longT_len (s0 := s0) (n := n) (s2 := s2) (tu := tu) D.ln (by have := D.lx; omega) (by have := D.ly; omega)
      omega
    · split at e
      · rw [← Option.some.inj e]
        exact Nat.le_trans nt_ok.2.1 (by decide)
      · cases e
  · rw [MT_none fun D hD m' => m (by
      obtain ⟨p, hp, rfl⟩ := List.mem_map.mp m'
      exact M.sub D hD p hp)] at e
    cases e

end K10

namespace K10
open PySem PySem.Spec PyProof.Rows L2 Qk
local macro_rules | `(tactic| walk_at "m") => `(tactic| ((repeat (first | exact List.Mem.head _ | apply List.Mem.tail)); done))
local macro_rules | `(tactic| walk_at "h") => `(tactic| first | assumption | exact Has.gF (by assumption) (by assumption) | exact Has.get (by assumption) (by walk_at "m"))
local macro_rules | `(tactic| walk_at "c") => `(tactic| ((repeat (first | exact Chg.hd | apply Chg.tl)); done))
local macro_rules | `(tactic| walk_at "is") => `(tactic| first
  | ((with_reducible refine' is2_non ?gh ?_); (case gh => walk_at "h"))
  | (with_reducible refine is_int_list ?_)
  | (with_reducible refine is_int_tuple ?_)
  | (with_reducible refine is_int_dict ?_)
  | (with_reducible refine is_int_int ?_)
  | (with_reducible refine is_int_bool ?_)
  | (with_reducible refine is_int_str ?_)
  | ((with_reducible refine' is2_int ?gh ?_); (case gh => walk_at "h"))
  | (with_reducible refine is_str_list ?_)
  | (with_reducible refine is_str_tuple ?_)
  | (with_reducible refine is_str_dict ?_)
  | (with_reducible refine is_str_int ?_)
  | (with_reducible refine is_str_bool ?_)
  | (with_reducible refine is_str_str ?_)
  | ((with_reducible refine' is2_str ?gh ?_); (case gh => walk_at "h"))
  | (with_reducible refine is_bool_list ?_)
  | (with_reducible refine is_bool_tuple ?_)
  | (with_reducible refine is_bool_dict ?_)
  | (with_reducible refine is_bool_int ?_)
  | (with_reducible refine is_bool_bool ?_)
  | (with_reducible refine is_bool_str ?_)
  | ((with_reducible refine' is2_bool ?gh ?_); (case gh => walk_at "h"))
  | ((with_reducible refine' is_list_list ?gh ?_); (case gh => walk_at "h"))
  | ((with_reducible refine' is_list_tuple ?gh ?_); (case gh => walk_at "h"))
  | ((with_reducible refine' is_list_dict ?gh ?_); (case gh => walk_at "h"))
  | ((with_reducible refine' is_list_int ?gh ?_); (case gh => walk_at "h"))
  | ((with_reducible refine' is_list_bool ?gh ?_); (case gh => walk_at "h"))
  | ((with_reducible refine' is_list_str ?gh ?_); (case gh => walk_at "h"))
  | ((with_reducible refine' is2_list ?ga ?gb ?_); (case ga => walk_at "h"); (case gb => walk_at "h"))
  | ((with_reducible refine' is_tuple_list ?gh ?_); (case gh => walk_at "h"))
  | ((with_reducible refine' is_tuple_tuple ?gh ?_); (case gh => walk_at "h"))
  | ((with_reducible refine' is_tuple_dict ?gh ?_); (case gh => walk_at "h"))
  | ((with_reducible refine' is_tuple_int ?gh ?_); (case gh => walk_at "h"))
  | ((with_reducible refine' is_tuple_bool ?gh ?_); (case gh => walk_at "h"))
  | ((with_reducible refine' is_tuple_str ?gh ?_); (case gh => walk_at "h"))
  | ((with_reducible refine' is2_tuple ?ga ?gb ?_); (case ga => walk_at "h"); (case gb => walk_at "h"))
  | ((with_reducible refine' is_dict_list ?gh ?_); (case gh => walk_at "h"))
  | ((with_reducible refine' is_dict_tuple ?gh ?_); (case gh => walk_at "h"))
  | ((with_reducible refine' is_dict_dict ?gh ?_); (case gh => walk_at "h"))
  | ((with_reducible refine' is_dict_int ?gh ?_); (case gh => walk_at "h"))
  | ((with_reducible refine' is_dict_bool ?gh ?_); (case gh => walk_at "h"))
  | ((with_reducible refine' is_dict_str ?gh ?_); (case gh => walk_at "h"))
  | ((with_reducible refine' is2_dict ?ga ?gb ?_); (case ga => walk_at "h"); (case gb => walk_at "h")))
local macro_rules | `(tactic| walk_at "g") => `(tactic| first
  | (with_reducible refine g_seq ?_)
  | (with_reducible refine g_asg ?_)
  | ((with_reducible refine g_name ?_); dsimp only [List.set, wipe, List.map])
  | ((with_reducible refine' g_var ?gv ?_); (case gv => exact rfl))
  | (with_reducible refine g_c ?_)
  | (with_reducible refine g_op ?_)
  | (with_reducible refine g_cons ?_)
  | (with_reducible refine g_nil ?_)
  | (with_reducible refine g_cb ?_)
  | (with_reducible refine g_call ?_)
  | (with_reducible refine g_tup ?_)
  | (with_reducible refine g_lst ?_)
  | (with_reducible refine g_bm ?_)
  | (with_reducible refine g_bm0 ?_)
  | ((with_reducible refine' g_kbm ?gh ?_); (case gh => walk_at "h"))
  | (with_reducible refine g_drop ?_)
  | (with_reducible refine g_ret ?_)
  | (with_reducible refine g_retN ?_)
  | (with_reducible refine g_next ?_)
  | (with_reducible refine g_brk ?_)
  | (with_reducible refine g_cont ?_)
  | (with_reducible refine g_if ?_)
  | ((with_reducible refine' g_aug ?gv ?_); (case gv => exact rfl))
  | (with_reducible refine g_ipI ?_)
  | (with_reducible refine g_test ?_)
  | (with_reducible refine g_tB ?_)
  | (with_reducible refine g_kB ?_)
  | (with_reducible refine g_not ?_)
  | (with_reducible refine g_and ?_)
  | (with_reducible refine g_or ?_)
  | (with_reducible refine g_andV ?_)
  | (with_reducible refine g_orV ?_)
  | (with_reducible refine g_notV ?_)
  | (with_reducible refine g_ifE ?_)
  | (with_reducible refine g_addI ?_)
  | (with_reducible refine g_rI0 ?_)
  | (with_reducible refine g_eqI ?_)
  | (with_reducible refine g_eqS ?_)
  | (with_reducible refine g_neI ?_)
  | (with_reducible refine g_neS ?_)
  | (with_reducible refine g_isN ?_)
  | (with_reducible refine g_notN ?_)
  | (with_reducible refine g_int ?_)
  | (with_reducible refine g_max2 ?_)
  | (with_reducible refine g_min2 ?_)
  | ((with_reducible refine' g_lenL ?gh ?_); (case gh => walk_at "h"))
  | (with_reducible refine g_sub ?_)
  | (with_reducible refine g_gcons ?_)
  | (with_reducible refine g_gnil ?_)
  | (with_reducible refine g_un ?_)
  | (with_reducible refine g_rU ?_)
  | (with_reducible refine g_forL ?_)
  | (with_reducible refine g_forS ?_)
  | (with_reducible refine g_forR1 ?_)
  | (with_reducible refine g_forR2 ?_)
  | (with_reducible refine g_forR3 ?_)
  | (with_reducible refine g_lcL ?_)
  | (with_reducible refine g_lcR1 ?_)
  | (with_reducible refine g_lcR2 ?_)
  | (with_reducible refine g_slice ?_)
  | (with_reducible refine g_part ?_)
  | (with_reducible refine g_kOI ?_)
  | (with_reducible refine g_nopart ?_)
  | (with_reducible refine g_yes ?_)
  | ((with_reducible refine' g_wipe ?gv ?_); (case gv => exact rfl))
  | (with_reducible refine iteT ?_)
  | (with_reducible refine iteF ?_)
  | (with_reducible refine i_nf ?_)
  | (with_reducible refine i_nt ?_)
  | ((with_reducible refine' g_gtup ?gh ?gl ?_); (case gh => walk_at "h"); (case gl => exact rfl))
  | ((with_reducible refine' g_notinI ?gh ?_); (case gh => walk_at "h"))
  | ((with_reducible refine' g_inI ?gh ?_); (case gh => walk_at "h"))
  | ((with_reducible refine' g_kget2 ?gh ?_); (case gh => walk_at "h"))
  | ((with_reducible refine' g_kgotI ?gh ?_); (case gh => walk_at "h"))
  | (with_reducible refine g_tRev ?_)
  | (with_reducible refine g_neB ?_)
  | (with_reducible refine g_eqB ?_)
  | ((with_reducible refine' g_lenT ?gh ?_); (case gh => walk_at "h"))
  | (with_reducible refine g_star ?_)
  | ((with_reducible refine' g_kstarL ?gh ?_); (case gh => walk_at "h"))
  | ((with_reducible refine' g_kstarT ?gh ?_); (case gh => walk_at "h"))
  | (with_reducible refine g_tru ?_)
  | ((with_reducible refine' g_truL ?gh ?_); (case gh => walk_at "h"))
  | (with_reducible refine g_get2 ?_)
  | (with_reducible refine g_try ?_)
  | (with_reducible refine g_fld ?_)
  | (with_reducible refine g_sfld ?_)
  | (with_reducible refine g_meth ?_)
  | (with_reducible refine g_make ?_)
  | (with_reducible refine g_del ?_)
  | (with_reducible refine g_callS ?_)
  | (with_reducible refine g_raise ?_)
  | (with_reducible refine g_xf ?_)
  | (with_reducible refine g_m0 ?_)
  | (with_reducible refine g_km0 ?_)
  | walk_at "is")
local macro_rules | `(tactic| walk_at "gg") => `(tactic| repeat walk_at "g")
local macro_rules | `(tactic| walk_at "sz") => `(tactic| (refine sz ?_; simp only [List.length_cons, List.length_nil, List.length_map, List.length_append, List.length_replicate]; omega))
local macro_rules | `(tactic| walk_at "sub") => `(tactic| ((repeat (first | exact List.Sublist.slnil | with_reducible apply List.Sublist.cons_cons | with_reducible apply List.Sublist.cons)); done))

section
variable {P : Program} {w : World} {K : PySem.W.Frag} {mg : Str → Option Value} {base : Heap}
theorem trees_frz {F H H' : Hp} {tl t0 t1 t2 : Addr} {B0 B1 B2 : Bt} {A X Y : Tre} (h : Has F [] H) (hT : Has H (tO [(t0, B0), (t1, B1), (t2, B2)] ++ [(tl, .lst [.ref t0, .ref t1, .ref t2])]) H') (e0 : bA B0 = A) (e1 : bA B1 = X) (e2 : bA B2 = Y) (n0 : (A.map (·.1)).Nodup) (n1 : (X.map (·.1)).Nodup) (n2 : (Y.map (·.1)).Nodup) :
    ∃ F', Same F F' ∧ Has F' [] H' ∧ F' tl = some (.lst [.ref t0, .ref t1, .ref t2]) ∧ TrAt F' t0 A ∧ TrAt F' t1 X ∧ TrAt F' t2 Y := by
  obtain ⟨F', s, h', nw⟩ := h.join hT
  have at_ : ∀ q ∈ [(t0, B0), (t1, B1), (t2, B2)], ((bA q.2).map (·.1)).Nodup → TrAt F' q.1 (bA q.2) := fun q hq n => tr_own (fun p hp => nw p (List.mem_append_left _ (tO_at hq p hp))) (by rw [← bA_keys]; exact n)
  have a0 := at_ (t0, B0) (by simp) (by rw [e0]; exact n0)
  have a1 := at_ (t1, B1) (by simp) (by rw [e1]; exact n1)
  have a2 := at_ (t2, B2) (by simp) (by rw [e2]; exact n2)
  rw [e0] at a0
  rw [e1] at a1
  rw [e2] at a2
  exact ⟨F', s, h', nw (tl, _) (List.mem_append_right _ (List.Mem.head _)), a0, a1, a2⟩
def sp_law (K : PySem.W.Frag) : Sp := fun vs H Q _ => ∃ (a : Addr) (ns : List Int), vs = [.ref a] ∧ SqL K H a (ns.map V.int) ∧ ns.length ≤ 63 ∧ ∀ H', Q (.bl true) H'
theorem sp_law_len {vs H Q E} (h : sp_law K vs H Q E) : vs.length = 1 := by
  obtain ⟨_, _, rfl, _⟩ := h
  rfl
theorem sp_law_start {H : Hp} {a : Addr} {ns : List Int} (hl : ns.length ≤ 63) (hS : SqL K H a (ns.map V.int)) : sp_law K [.ref a] H (fun v _ => v = .bl true) (fun _ _ _ => False) := ⟨a, ns, rfl, hS, hl, fun _ => rfl⟩
set_option maxHeartbeats 8000000 in
theorem ok_law (T : Txt K mg) : FnOk P w K mg base CX0 10 T.f_law T.fd_law ["script"] (sp_law K) := by
  refine T.F_law.ok sc_law (fun vs H Q E h => sp_law_len h) (fun cdv A outer s H vs Q E hr h => ?_)
  refine ⟨_, (pss_cons (ps_set (i := 1) sc_law.nd rfl (.inr rfl) (pe_call (ok_l_feed T) (hr.mono (by decide)) (by rfl) T.g_l_feed T.F_l_feed.kp T.b_l_feed .nil pass0 (pa_cons (pv 0) pa_nil)))
      (pss_cons (ps_set (i := 2) sc_law.nd rfl (.inr rfl) (pe_call (ok_l_next T) (hr.mono (by decide)) (by rfl) T.g_l_next T.F_l_next.kp T.b_l_next .nil pass0 (pa_cons (pv 1) (pa_cons pe_int pa_nil))))
      (pss_cons (ps_set (i := 3) sc_law.nd rfl (.inr rfl) (pe_ix (ix_K K (hu_of hr)) (pe_lst (pa_cons pe_int (pa_cons pe_int (pa_cons pe_int (pa_cons pe_int pa_nil))))) (pe_call (ok_l_next T) (hr.mono (by decide)) (by rfl) T.g_l_next T.F_l_next.kp T.b_l_next .nil pass0 (pa_cons (pv 1) (pa_cons pe_int pa_nil))) (fun _ _ => rfl)))
      (pss_cons (ps_setLc (i := 4) (own := [("k", 20)]) (g := gName 20) (tt := tYes) rfl sc_law.nd rfl rfl (sw_true rfl rfl rfl (by decide +kernel)) (pi_range1 rfl T.m_range (pa_cons pe_int pa_nil)) (blkOk_by (N := n_law) (sc := defScope s_law) (by decide +kernel)) (fun _ _ _ _ _ => (pg_name (i := 20) sc_law.nd rfl (.inl rfl))) (fun _ _ _ _ _ => pts_nil) (fun _ _ _ _ _ => (pe_call (ok_l_way T) (hr.mono (by decide)) (by rfl) T.g_l_way T.F_l_way.kp T.b_l_way .nil pass0 (pa_cons (pe_op (op_addK K) (pv 2) (pe_op op_mulA (pv 3) (pv 20))) pa_nil))))
      (pss_cons (ps_set (i := 5) sc_law.nd rfl (.inl rfl) (pe_op op_mod (pe_callTy cr_int1 (by rfl) T.m_int (by decide +kernel) (pa_cons (pe_op (op_addK K) (pe_call (ok_l_next T) (hr.mono (by decide)) (by rfl) T.g_l_next T.F_l_next.kp T.b_l_next .nil pass0 (pa_cons (pv 1) (pa_cons pe_int pa_nil))) pe_int) pa_nil)) pe_int))
      (pss_cons (ps_set (i := 6) sc_law.nd rfl (.inl rfl) (pe_op (op_addK K) pe_int (pe_call (ok_l_next T) (hr.mono (by decide)) (by rfl) T.g_l_next T.F_l_next.kp T.b_l_next .nil pass0 (pa_cons (pv 1) (pa_cons pe_int pa_nil)))))
      (pss_cons (ps_set (i := 7) sc_law.nd rfl (.inl rfl) (pe_op op_sub (pe_op op_sub (pe_op (op_addK K) pe_int (pe_op op_mod (pe_callTy cr_int1 (by rfl) T.m_int (by decide +kernel) (pa_cons (pe_op (op_addK K) (pe_call (ok_l_next T) (hr.mono (by decide)) (by rfl) T.g_l_next T.F_l_next.kp T.b_l_next .nil pass0 (pa_cons (pv 1) (pa_cons pe_int pa_nil))) pe_int) pa_nil)) pe_int)) (pv 6)) (pv 5)))
      (pss_cons (ps_if (pt_cmpR (op_eqK K hr.units) (pv 5) pe_int (nomark _)) (pss_one (ps_set (i := 7) sc_law.nd rfl (.inl rfl) (pe_op op_sub (pv 7) pe_int))) pss_nil)
      (pss_cons (ps_set (i := 8) sc_law.nd rfl (.inl rfl) (pe_lst (pa_cons (pv 6) (pa_cons (pv 5) (pa_cons (pv 7) pa_nil)))))
      (pss_cons (ps_set (i := 9) sc_law.nd rfl (.inl rfl) (pe_cmpR (op_eqK K hr.units) (pe_call (ok_l_next T) (hr.mono (by decide)) (by rfl) T.g_l_next T.F_l_next.kp T.b_l_next .nil pass0 (pa_cons (pv 1) (pa_cons pe_int pa_nil))) pe_int (nomark _)))
      (pss_cons (ps_set (i := 10) sc_law.nd rfl (.inr rfl) (pe_call (ok_l_next T) (hr.mono (by decide)) (by rfl) T.g_l_next T.F_l_next.kp T.b_l_next .nil pass0 (pa_cons (pv 1) (pa_cons pe_int pa_nil))))
      (pss_cons (ps_set (i := 11) sc_law.nd rfl (.inr rfl) (pe_op (op_addK K) pe_int (pe_call (ok_l_next T) (hr.mono (by decide)) (by rfl) T.g_l_next T.F_l_next.kp T.b_l_next .nil pass0 (pa_cons (pv 1) (pa_cons pe_int pa_nil)))))
      (pss_cons (ps_set (i := 12) sc_law.nd rfl (.inr rfl) (pe_lst (pa_cons pe_int (pa_cons pe_int (pa_cons pe_int (pa_cons pe_int (pa_cons pe_int (pa_cons pe_int (pa_cons pe_int (pa_cons pe_int pa_nil))))))))))
      (pss_cons (ps_setLc (i := 13) (own := [("k", 20)]) (g := gName 20) (tt := tYes) rfl sc_law.nd rfl rfl (sw_true rfl rfl rfl (by decide +kernel)) (pi_range1 rfl T.m_range (pa_cons pe_int pa_nil)) (blkOk_by (N := n_law) (sc := defScope s_law) (by decide +kernel)) (fun _ _ _ _ _ => (pg_name (i := 20) sc_law.nd rfl (.inl rfl))) (fun _ _ _ _ _ => pts_nil) (fun _ _ _ _ _ => (pe_ix (ix_K K (hu_of hr)) (pv 12) (pe_op op_mod (pe_callTy cr_int1 (by rfl) T.m_int (by decide +kernel) (pa_cons (pe_op (op_addK K) (pe_call (ok_l_next T) (hr.mono (by decide)) (by rfl) T.g_l_next T.F_l_next.kp T.b_l_next .nil pass0 (pa_cons (pv 1) (pa_cons pe_int pa_nil))) (pv 20)) pa_nil)) pe_int) (fun _ _ => rfl))))
      (pss_cons (ps_set (i := 14) sc_law.nd rfl (.inr rfl) (pe_lc (own := [("one", 21)]) (g := gName 21) (tt := tYes) rfl sc_law.nd (k_il K (pi_list (pv 13))) (blkOk_by (N := n_law) (sc := defScope s_law) (by decide +kernel)) (fun _ _ _ _ _ => (pg_name (i := 21) sc_law.nd rfl (.inl rfl))) (fun _ _ _ _ _ => pts_nil) (fun _ _ _ _ _ => (pe_ifExp (pt_cmpR (op_eqK K hr.units) (pv 21) pe_int (nomark _)) (pv 21) pe_int))))
      (pss_cons (ps_setLc (i := 15) (own := [("k", 20)]) (g := gName 20) (tt := tYes) rfl sc_law.nd rfl rfl (sw_true rfl rfl rfl (by decide +kernel)) (pi_range1 rfl T.m_range (pa_cons pe_int pa_nil)) (blkOk_by (N := n_law) (sc := defScope s_law) (by decide +kernel)) (fun _ _ _ _ _ => (pg_name (i := 20) sc_law.nd rfl (.inl rfl))) (fun _ _ _ _ _ => pts_nil) (fun _ _ _ _ _ => (pe_ifExp (pt_cmpR (op_eqK K hr.units) (pv 20) (pv 10) (nomark _)) (pv 11) (pe_ix (ix_K K (hu_of hr)) (pv 14) (pv 20) (fun _ _ => rfl)))))
      (pss_cons (ps_set (i := 16) sc_law.nd rfl (.inl rfl) (pe_lst (pa_cons (pv 6) (pa_cons (pv 5) (pa_cons (pe_op op_sub (pv 7) pe_int) pa_nil)))))
      (pss_cons (ps_set (i := 17) sc_law.nd rfl (.inl rfl) (pe_call (ok_l_trees T) (hr.mono (by decide)) (by rfl) T.g_l_trees T.F_l_trees.kp T.b_l_trees .nil pass0 (pa_cons (pv 4) (pa_cons (pv 13) (pa_cons (pv 8) (pa_cons (pv 9) pa_nil))))))
      (pss_cons (ps_if (pt_not (pt_val (pe_call (ok_l_asks T) (hr.mono (by decide)) (by rfl) T.g_l_asks T.F_l_asks.kp T.b_l_asks .nil pass0 (pa_cons (pv 17) (pa_cons (pe_call (ok_l_wanted T) (hr.mono (by decide)) (by rfl) T.g_l_wanted T.F_l_wanted.kp T.b_l_wanted .nil pass0 (pa_cons (pv 4) (pa_cons (pv 13) (pa_cons (pv 8) (pa_cons pe_bl pa_nil))))) pa_nil))))) (pss_one (ps_ret pe_bl)) pss_nil)
      (pss_cons (ps_set (i := 18) sc_law.nd rfl (.inl rfl) (pe_call (ok_l_wanted T) (hr.mono (by decide)) (by rfl) T.g_l_wanted T.F_l_wanted.kp T.b_l_wanted .nil pass0 (pa_cons (pv 4) (pa_cons (pv 13) (pa_cons (pv 8) (pa_cons pe_bl pa_nil))))))
      (pss_cons (ps_if (pt_not (pt_val (pe_call (ok_l_asks T) (hr.mono (by decide)) (by rfl) T.g_l_asks T.F_l_asks.kp T.b_l_asks .nil pass0 (pa_cons (pe_lst (pa_cons (pe_ix (ix_K K (hu_of hr)) (pv 17) pe_int (fun _ _ => rfl)) (pa_cons (pe_ix (ix_K K (hu_of hr)) (pv 17) pe_int (fun _ _ => rfl)) (pa_cons (pe_ix (ix_K K (hu_of hr)) (pv 17) pe_int (fun _ _ => rfl)) pa_nil)))) (pa_cons (pv 18) pa_nil))))) (pss_one (ps_ret pe_bl)) pss_nil)
      (pss_cons (ps_for PassesOwn.never rfl (k_il K (pi_list (pe_lst (pa_cons (pe_lst (pa_cons (pv 14) (pa_cons (pv 8) pa_nil))) (pa_cons (pe_lst (pa_cons (pv 15) (pa_cons (pv 8) pa_nil))) (pa_cons (pe_lst (pa_cons (pv 15) (pa_cons (pv 16) pa_nil))) pa_nil)))))) (pg_name (i := 19) sc_law.nd rfl (.inl rfl)) (pss_cons (ps_set (i := 17) sc_law.nd rfl (.inl rfl) (pe_call (ok_l_trees T) (hr.mono (by decide)) (by rfl) T.g_l_trees T.F_l_trees.kp T.b_l_trees .nil pass0 (pa_cons (pv 4) (pa_cons (pe_ix (ix_K K (hu_of hr)) (pv 19) pe_int (fun _ _ => rfl)) (pa_cons (pe_ix (ix_K K (hu_of hr)) (pv 19) pe_int (fun _ _ => rfl)) (pa_cons (pv 9) pa_nil))))))
      (pss_one (ps_if (pt_not (pt_val (pe_call (ok_l_asks T) (hr.mono (by decide)) (by rfl) T.g_l_asks T.F_l_asks.kp T.b_l_asks .nil pass0 (pa_cons (pv 17) (pa_cons (pe_call (ok_l_wanted T) (hr.mono (by decide)) (by rfl) T.g_l_wanted T.F_l_wanted.kp T.b_l_wanted .nil pass0 (pa_cons (pv 4) (pa_cons (pe_ix (ix_K K (hu_of hr)) (pv 19) pe_int (fun _ _ => rfl)) (pa_cons (pe_ix (ix_K K (hu_of hr)) (pv 19) pe_int (fun _ _ => rfl)) (pa_cons pe_bl pa_nil))))) pa_nil))))) (pss_one (ps_ret pe_bl)) pss_nil))))
      (pss_one (ps_ret pe_bl)))))))))))))))))))))))), ?_⟩
  obtain ⟨sc, ns, rfl, hS, hl, q⟩ := h
  refine g_start (σ' := [some (.ref sc), none, none, none, none, none, none, none, none, none, none, none, none, none, none, none, none, none, none, none, none, none]) rfl ?_
  walk_at "gg"
  refine ⟨sc, ns, rfl, hS, hl, fun c H1 F wc rows n1 s1 h dqc lr => ?_⟩
  clear n1 s1 hS
  -- the paths
  walk_at "gg"
  refine ⟨c, 10, F, wc, rows, rfl, h, dqc, lr, by decide, by decide, fun H5 F wc rows st hb g hs dqc lr st0 st1 => ?_⟩
  have h := h.grown .hd hb g hs.same (hs.get (List.Mem.head _))
  clear hb g hs
  walk_at "gg"
  refine g_klst (by walk_at "sz") h (fun p6 H6 n6 h6 => ?_)
  walk_at "gg"
  refine ⟨c, 4, F, wc, rows, rfl, h6.drop, dqc, lr, by decide, by decide, fun H7 F wc rows ix hb g hs dqc lr i0 i1 => ?_⟩
  have h7 := h6.grown (by walk_at "c") hb g hs.same (hs.get (List.Mem.head _))
  refine g_ixI (xs := [3, 1, 7, 9]) (h7.get (List.Mem.head _)) i0 (by exact i1) (fun stp hst => ?_)
  have hodd : stp % 10 = 1 ∨ stp % 10 = 3 ∨ stp % 10 = 7 ∨ stp % 10 = 9 := by
    have := List.mem_of_getElem? hst
    simp only [List.mem_cons, List.not_mem_nil, or_false] at this
    omega
  have lst : 0 ≤ stp ∧ stp ≤ 9 := by
    have := List.mem_of_getElem? hst
    simp only [List.mem_cons, List.not_mem_nil, or_false] at this
    omega
  have h := h7.drop
  clear hb g hs h6 h7 n6 hst i0 i1
  walk_at "gg"
  refine k_lcR1 (by decide) (by decide) h (fun i acc F' O' => acc = (((List.range i).map fun k => way (st + stp * (k : Nat)))).map V.str ∧ F = F' ∧ O' = [(c, HO.lst wc)]) ⟨rfl, rfl, rfl⟩ ?_ ?_
  · rintro i acc F' O' D H2 hi ⟨rfl, rfl, rfl⟩ hh
    have hi' : i < 9 := hi
    walk_at "gg"
    refine g_mulI (.inl ⟨by omega, by omega⟩) ?_
    walk_at "gg"
    refine ⟨_, rfl, fun H3 s3 => ?_⟩
    refine k_turn (hh.on s3) (by rw [List.length_map, List.length_map, List.length_range]; omega) ⟨?_, rfl, rfl⟩
    rw [List.range_succ, List.map_append, List.map_append]
    rfl
  rintro acc F2 O2 pl H2 ⟨rfl, rfl, rfl⟩ h2
  have e3 : ((9 : Int)).toNat = 9 := rfl
  rw [e3] at h2
  have ndp := way_nodup st stp hodd
  have okp : ∀ z ∈ (List.range 9).map fun k => way (st + stp * (k : Nat)), PyData.strOk z = true := fun z hz => by
    obtain ⟨k, _, rfl⟩ := List.mem_map.mp hz
    exact way_ok _
  have lp : ((List.range 9).map fun k => way (st + stp * (k : Nat))).length = 9 := rfl
  generalize ((List.range 9).map fun k => way (st + stp * (k : Nat))) = ps at h2 ndp okp lp
  have sG := h2.grow
  have h := h2.frz
  have fpl : upd F pl (.lst (ps.map V.str)) pl = some (.lst (ps.map V.str)) := upd_same
  have dqc := dqc.up sG _ _
  clear h2 sG
  generalize upd F pl (.lst (ps.map V.str)) = F at h fpl dqc
  -- the sizes
  walk_at "gg"
  refine ⟨c, 12, F, wc, rows, rfl, h, dqc, lr, by decide, by decide, fun H5 F1 wc rows r1 hb g hs dqc lr a0 a1 => ?_⟩
  have h := h.grown .hd hb g hs.same (hs.get (List.Mem.head _))
  have fpl := g.1 _ _ fpl
  clear hb g hs
  walk_at "gg"
  refine g_rI (by show (0 : Int) < 12; decide) ?_
  obtain ⟨n, en⟩ := Int.eq_ofNat_of_zero_le (show 0 ≤ (r1 + 6) % 12 by omega)
  have ln : n ≤ 11 := by omega
  rw [en]
  clear en a0 a1
  walk_at "gg"
  refine ⟨c, 7, F1, wc, rows, rfl, h, dqc, lr, by decide, by decide, fun H5 F2 wc rows r2 hb g hs dqc lr a0 a1 => ?_⟩
  have h := h.grown .hd hb g hs.same (hs.get (List.Mem.head _))
  have fpl := g.1 _ _ fpl
  clear hb g hs
  obtain ⟨s0, es0⟩ := Int.eq_ofNat_of_zero_le (show 0 ≤ 13 + r2 by omega)
  have ls0 : 13 ≤ s0 ∧ s0 ≤ 19 := by omega
  walk_at "gg"
  rw [es0]
  clear es0 a0 a1
  refine ⟨c, 5, F2, wc, rows, rfl, h, dqc, lr, by decide, by decide, fun H5 F3 wc rows r3 hb g hs dqc lr a0 a1 => ?_⟩
  have h := h.grown .hd hb g hs.same (hs.get (List.Mem.head _))
  have fpl := g.1 _ _ fpl
  clear hb g hs
  walk_at "gg"
  refine g_rI (by show (0 : Int) < 5; decide) ?_
  have x0 : 0 ≤ (r3 + 1) % 5 ∧ (r3 + 1) % 5 ≤ 4 := by omega
  generalize (r3 + 1) % 5 = x at x0
  walk_at "g"
  walk_at "g"
  walk_at "g"
  walk_at "g"
  walk_at "g"
  walk_at "g"
  walk_at "g"
  refine g_joinD (fun σ' H' => ∃ s2 : Nat, σ' = [some (.ref sc), some (.ref c), some (.int st), some (.int stp), some (.ref pl), some (.int (n : Nat)), some (.int (s0 : Nat)), some (.int (s2 : Nat)), none, none, none, none, none, none, none, none, none, none, none, none, none, none] ∧ H' = H5 ∧ 9 ≤ s2 ∧ n + s2 ≤ 30) ?_ (fun nx key => ?_)
  case refine_2 =>
    walk_at "gg"
    refine i_d (fun e => ?_) (fun e => ?_)
    · walk_at "gg"
      obtain ⟨s2, es2⟩ := Int.eq_ofNat_of_zero_le (show 0 ≤ 39 + x - (s0 : Nat) - (n : Nat) - 4 by omega)
      rw [es2]
      exact key _ _ ⟨s2, rfl, rfl, by omega, by omega⟩
    · walk_at "gg"
      obtain ⟨s2, es2⟩ := Int.eq_ofNat_of_zero_le (show 0 ≤ 39 + x - (s0 : Nat) - (n : Nat) by omega)
      rw [es2]
      exact key _ _ ⟨s2, rfl, rfl, by omega, by omega⟩
  rintro σ' H' ⟨s2, rfl, rfl, l2, ly⟩
  clear x0 a0 a1 x r3
  walk_at "gg"
  refine g_klstF (by walk_at "sz") h (fun sl H6 F4 n6 s6 f6 h => ?_)
  have fpl := s6 _ _ fpl
  have dqc := dqc.up s6 _ _
  clear s6 n6
  walk_at "gg"
  refine ⟨c, 2, F4, wc, rows, rfl, h, dqc, lr, by decide, by decide, fun H7 F wc rows r4 hb g hs dqc lr a0 a1 => ?_⟩
  have h := h.grown .hd hb g hs.same (hs.get (List.Mem.head _))
  have fpl := g.1 _ _ fpl
  have fsl := g.1 _ _ f6
  clear hb g hs f6
  walk_at "gg"
  generalize decide (r4 = 1) = bare
  walk_at "gg"
  refine ⟨c, 8, F, wc, rows, rfl, h, dqc, lr, by decide, by decide, fun H8 F wc rows sp hb g hs dqc lr sp0 sp1 => ?_⟩
  have h := h.grown .hd hb g hs.same (hs.get (List.Mem.head _))
  have fpl := g.1 _ _ fpl
  have fsl := g.1 _ _ fsl
  clear hb g hs
  walk_at "gg"
  refine ⟨c, 2, F, wc, rows, rfl, h, dqc, lr, by decide, by decide, fun H9 F wc rows ft hb g hs dqc lr ft0 ft1 => ?_⟩
  have h := h.grown .hd hb g hs.same (hs.get (List.Mem.head _))
  have fpl := g.1 _ _ fpl
  have fsl := g.1 _ _ fsl
  clear hb g hs
  walk_at "gg"
  refine g_klstF (by walk_at "sz") h (fun me H10 F5 n10 s10 f10 h => ?_)
  have fpl := s10 _ _ fpl
  have fsl := s10 _ _ fsl
  have dqc := dqc.up s10 _ _
  clear s10 n10
  walk_at "gg"
  refine k_lcR1 (by decide) (by decide) h (fun i acc F' O' => ∃ (fs : List Int) (wc : List V) (rows : List (Int × Int)), acc = fs.map V.int ∧ fs.length = i ∧ (∀ f ∈ fs, 0 ≤ f ∧ f ≤ 3) ∧ Same F5 F' ∧ O' = [(c, HO.lst wc)] ∧ DqAll F' wc (rows.map cellD) ∧ rows.length ≤ 100) ⟨[], wc, rows, rfl, rfl, by simp, Same.refl _, rfl, dqc, lr⟩ ?_ ?_
  · rintro i acc F' O' D H11 hi ⟨fs, wc, rows, rfl, rfl, rf, sF, rfl, dqc, lr⟩ hh
    have hi' : fs.length < 8 := hi
    walk_at "gg"
    refine ⟨c, 8, F', wc, rows, rfl, hh.drop, dqc, lr, by decide, by decide, fun H12 F3 wc3 rows3 r hb g hs dq3 l3 r0 r1 => ?_⟩
    have h12 := hh.grown (by walk_at "c") hb g hs.same (hs.get (List.Mem.head _))
    walk_at "gg"
    refine g_rI (by show (0 : Int) < 8; decide) ?_
    refine g_ixI (xs := [0, 3, 0, 3, 0, 0, 1, 2]) (h12.same _ _ (g.1 _ _ (sF _ _ f10))) (Int.emod_nonneg _ (by decide)) (by exact Int.emod_lt_of_pos _ (by decide)) (fun fa hfa => ?_)
    have hm := List.mem_of_getElem? hfa
    simp only [List.mem_cons, List.not_mem_nil, or_false] at hm
    walk_at "gg"
    refine k_turn h12 (by rw [List.length_map]; omega) ⟨fs ++ [fa], wc3, rows3, by rw [List.map_append]; rfl, by rw [List.length_append]; rfl, fun z hz => ?_, sF.trans g.1, rfl, dq3, l3⟩
    rcases List.mem_append.mp hz with hz | hz
    · exact rf z hz
    · rw [List.mem_singleton.mp hz]
      omega
  rintro acc F2 O2 fl H11 ⟨fs, wc3, rows3, rfl, lfs, rfs, sF, rfl, _, _⟩ h
  have lfs : fs.length = 8 := lfs
  have fpl := sF _ _ fpl
  have fsl := sF _ _ fsl
  have sG := h.grow
  have h := (h.frz).drop
  have ffl : upd F2 fl (.lst (fs.map V.int)) fl = some (.lst (fs.map V.int)) := upd_same
  have fpl := sG _ _ fpl
  have fsl := sG _ _ fsl
  clear sG sF f10 dqc lr
  generalize upd F2 fl (.lst (fs.map V.int)) = F at h ffl fpl fsl
  -- full
  walk_at "gg"
  refine k_lcL (h.same _ _ ffl) h (fun i acc F' O' => ∃ gs : List Int, acc = gs.map V.int ∧ gs.length = i ∧ (∀ f ∈ gs, 0 ≤ f ∧ f ≤ 3) ∧ F = F' ∧ O' = []) ⟨[], rfl, rfl, by simp, rfl, rfl⟩ ?_ ?_ ?_
  · rintro i acc F' O' H12 ⟨_, _, _, _, rfl, rfl⟩ hh
    exact hh.same _ _ ffl
  · rintro i v acc F' O' D H12 hv ⟨gs, rfl, rfl, rg, rfl, rfl⟩ hh
    have li := (List.getElem?_eq_some_iff.mp hv).1
    rw [List.length_map, lfs] at li
    rw [List.getElem?_map] at hv
    obtain ⟨fa, hfa, rfl⟩ := Option.map_eq_some_iff.mp hv
    have rfa := rfs fa (List.mem_of_getElem? hfa)
    walk_at "gg"
    refine i_d (fun e => ?_) (fun e => ?_)
    · walk_at "gg"
      refine k_turn hh (by rw [List.length_map]; omega) ⟨gs ++ [fa], by rw [List.map_append]; rfl, by rw [List.length_append]; rfl, fun z hz => ?_, rfl, rfl⟩
      rcases List.mem_append.mp hz with hz | hz
      · exact rg z hz
      · rw [List.mem_singleton.mp hz]
        exact rfa
    · walk_at "gg"
      refine k_turn hh (by rw [List.length_map]; omega) ⟨gs ++ [0], by rw [List.map_append]; rfl, by rw [List.length_append]; rfl, fun z hz => ?_, rfl, rfl⟩
      rcases List.mem_append.mp hz with hz | hz
      · exact rg z hz
      · rw [List.mem_singleton.mp hz]
        decide
  rintro acc F2 O2 gl H12 ⟨gs, rfl, lgs, rgs, rfl, rfl⟩ h12
  rw [List.length_map, lfs] at lgs
  have sG := h12.grow
  have h := h12.frz
  have fgl : upd F gl (.lst (gs.map V.int)) gl = some (.lst (gs.map V.int)) := upd_same
  have fpl := sG _ _ fpl
  have fsl := sG _ _ fsl
  have ffl := sG _ _ ffl
  clear sG h12
  generalize upd F gl (.lst (gs.map V.int)) = F at h ffl fpl fsl fgl
  -- less
  walk_at "gg"
  refine k_lcR1 (by decide) (by decide) h (fun i acc F' O' => ∃ es : List Int, acc = es.map V.int ∧ es.length = i ∧ (∀ f ∈ es, 0 ≤ f ∧ f ≤ 3) ∧ F = F' ∧ O' = []) ⟨[], rfl, rfl, by simp, rfl, rfl⟩ ?_ ?_
  · rintro i acc F' O' D H13 hi ⟨es, rfl, rfl, re, rfl, rfl⟩ hh
    have hi' : es.length < 8 := hi
    have put : ∀ (fa : Int) (H14 : Hp), 0 ≤ fa ∧ fa ≤ 3 → Has F [(D, .lst (es.map V.int))] H14 → kTurn D (kNx (fun i acc F' O' => ∃ es : List Int, acc = es.map V.int ∧ es.length = i ∧ (∀ f ∈ es, 0 ≤ f ∧ f ≤ 3) ∧ F = F' ∧ O' = []) es.length D) (.int fa) H14 := fun fa H14 rfa hh => by
      refine k_turn hh (by rw [List.length_map]; omega) ⟨es ++ [fa], by rw [List.map_append]; rfl, by rw [List.length_append]; rfl, fun z hz => ?_, rfl, rfl⟩
      rcases List.mem_append.mp hz with hz | hz
      · exact re z hz
      · rw [List.mem_singleton.mp hz]
        exact rfa
    walk_at "gg"
    refine i_d (fun e => ?_) (fun e => ?_)
    · walk_at "gg"
      exact put _ _ (by omega) hh
    · have eg : gs[es.length]? = some (gs[es.length]'(by omega)) := List.getElem?_eq_getElem (by omega)
      generalize gs[es.length]'(by omega) = fa at eg
      walk_at "gg"
      refine g_ixL (v := .int fa) (hh.same _ _ fgl) (atI_nat (by rw [List.getElem?_map, eg]; rfl)) ?_
      exact put _ _ (rgs fa (List.mem_of_getElem? eg)) hh
  rintro acc F2 O2 el H13 ⟨es, rfl, les, res, rfl, rfl⟩ h13
  have les : es.length = 8 := les
  have sG := h13.grow
  have h := h13.frz
  have fel : upd F el (.lst (es.map V.int)) el = some (.lst (es.map V.int)) := upd_same
  have fpl := sG _ _ fpl
  have fsl := sG _ _ fsl
  have ffl := sG _ _ ffl
  have fgl := sG _ _ fgl
  clear sG h13
  generalize upd F el (.lst (es.map V.int)) = F at h ffl fpl fsl fgl fel
  walk_at "gg"
  refine g_klstF (by walk_at "sz") h (fun sh H14 F4 n14 s14 fsh h => ?_)
  have fpl := s14 _ _ fpl
  have fsl := s14 _ _ fsl
  have ffl := s14 _ _ ffl
  have fgl := s14 _ _ fgl
  have fel := s14 _ _ fel
  clear s14 n14
  obtain ⟨s3, es3⟩ := Int.eq_ofNat_of_zero_le (show 0 ≤ ((s2 : Nat) : Int) - 1 by omega)
  rw [es3] at fsh
  have DF : Dr fs s0 n s2 := ⟨lfs, rfs, by omega, by omega, ln, by omega, by omega⟩
  have DG : Dr gs s0 n s2 := ⟨lgs, rgs, by omega, by omega, ln, by omega, by omega⟩
  have DE : Dr es s0 n s2 := ⟨les, res, by omega, by omega, ln, by omega, by omega⟩
  have DS : Dr es s0 n s3 := ⟨les, res, by omega, by omega, ln, by omega, by omega⟩
  have tnd : ∀ os : List (Option Tx), ((mkTr ps os).map (·.1)).Nodup := fun os => mkTr_keys.nodup ndp
  have mt : ∀ {fs : List Int} {s2 : Nat}, Dr fs s0 n s2 → ∀ k z, ps[k]? = some z → MT (treeA ps fs n bare) (treeX ps fs s0 n) (treeY ps fs n s2) z = (wT fs s0 n s2 false k, wN fs n k) ∧ MT (treeA ps fs n bare) (treeY ps fs n s2) (treeX ps fs s0 n) z = (wT fs s0 n s2 true k, wN fs n k) := fun D k z hz => MT_w ndp D.lf D.fr D.ln D.p0 D.p2 (by have := (List.getElem?_eq_some_iff.mp hz).1; omega) hz
  walk_at "gg"
  refine ⟨pl, fl, sl, ps, fs, s0, n, s2, bare, rfl, h.same _ _ fpl, h.same _ _ ffl, h.same _ _ fsl, lp, ndp, lfs, by omega, ln, by omega, fun tl t0 t1 t2 B0 B1 B2 H15 hT e0 e1 e2 => ?_⟩
  obtain ⟨F5, s5, h15, ftl, ta, tx, ty⟩ := trees_frz h hT e0 e1 e2 (tnd _) (tnd _) (tnd _)
  have fpl5 := s5 _ _ fpl
  have fsl5 := s5 _ _ fsl
  have ffl5 := s5 _ _ ffl
  walk_at "gg"
  refine ⟨pl, fl, sl, ps, fs, s0, n, s2, false, _, rfl, h15.same _ _ fpl5, h15.same _ _ ffl5, h15.same _ _ fsl5, lp, ndp, lfs, by omega, ln, by omega, fun k z hz => (mt DF k z hz).1, fun zs u C cl H16 az mz lz s16 du up => ?_⟩
  have h16 := h15.on s16
  have M := (mok (bare := bare) lp okp az mz lz DF)
  walk_at "gg"
  refine ⟨tl, u, [t0, t1, t2], _, _, _, C, cl, _, zs, rfl, h16.same _ _ ftl, .cons (ta.up h16.same) (.cons (tx.up h16.same) (.cons (ty.up h16.same) .nil)), du, rfl, (fun e => due_mgd M.1 (up e)), M.1, fit_of M.1 mz DF (fun k z hz => (mt DF k z hz).1), fun H17 s17 => ?_⟩
  have h17 := h16.on s17
  clear du up s16 s17 h16
  walk_at "gg"
  refine ⟨pl, fl, sl, ps, fs, s0, n, s2, true, _, rfl, h17.same _ _ fpl5, h17.same _ _ ffl5, h17.same _ _ fsl5, lp, ndp, lfs, by omega, ln, by omega, fun k z hz => (mt DF k z hz).2, fun zs2 u2 C2 cl2 H18 az2 mz2 lz2 s18 du2 up2 => ?_⟩
  have h18 := h17.on s18
  have M2 := (mok (bare := bare) lp okp az2 mz2 lz2 DF)
  walk_at "gg"
  refine g_ixL (v := .ref t0) (h18.same _ _ ftl) (atI_nat (j := 0) rfl) ?_
  walk_at "gg"
  refine g_ixL (v := .ref t2) (h18.same _ _ ftl) (atI_nat (j := 2) rfl) ?_
  walk_at "gg"
  refine g_ixL (v := .ref t1) (h18.same _ _ ftl) (atI_nat (j := 1) rfl) ?_
  walk_at "gg"
  refine g_klst (by walk_at "sz") h18.all (fun kl H19 n19 h19 => ?_)
  have h19' := h18.on h19.same
  walk_at "gg"
  refine ⟨kl, u2, [t0, t2, t1], _, _, _, C2, cl2, _, zs2, rfl, h19.get (List.Mem.head _), .cons (ta.up h19'.same) (.cons (ty.up h19'.same) (.cons (tx.up h19'.same) .nil)), du2.up h19.same, rfl, (fun e => due_mgd M2.2 (up2 e)), M2.2, fit_of M2.2 mz2 DF (fun k z hz => (mt DF k z hz).2), fun H20 s20 => ?_⟩
  have h20 := h19'.on s20
  have fgl5 := s5 _ _ fgl
  have fel5 := s5 _ _ fel
  have fsh5 := s5 _ _ fsh
  clear du2 up2 s20 h19' h19 n19 h18 s18 h17 h15 hT h fpl fsl ffl fgl fel fsh ta tx ty ftl e0 e1 e2 s5 M M2
  -- the cases
  walk_at "gg"
  refine g_klstF (by walk_at "sz") h20 (fun c1 H21 F6 n21 s6 f6 h => ?_)
  walk_at "gg"
  refine g_klstF (by walk_at "sz") h (fun c2 H22 F7 n22 s7 f7 h => ?_)
  walk_at "gg"
  refine g_klstF (by walk_at "sz") h (fun c3 H23 F8 n23 s8 f8 h => ?_)
  walk_at "gg"
  refine g_klstF (by walk_at "sz") h (fun cs H24 F9 n24 s9 f9 h => ?_)
  have s59 : Same F5 F9 := s6.trans (s7.trans (s8.trans s9))
  have fpl := s59 _ _ fpl5
  have fsl := s59 _ _ fsl5
  have fgl := s59 _ _ fgl5
  have fel := s59 _ _ fel5
  have fsh := s59 _ _ fsh5
  have f6 := s9 _ _ (s8 _ _ (s7 _ _ f6))
  have f7 := s9 _ _ (s8 _ _ f7)
  have f8 := s9 _ _ f8
  have rowAt : ∀ x, x ∈ [V.ref c1, V.ref c2, V.ref c3] → ∃ (a fa sa : Addr) (fs : List Int) (s2 : Nat), x = .ref a ∧ F9 a = some (.lst [.ref fa, .ref sa]) ∧ F9 fa = some (.lst (fs.map V.int)) ∧ F9 sa = some (.lst [.int (s0 : Nat), .int (n : Nat), .int (s2 : Nat)]) ∧ Dr fs s0 n s2 := fun x hx => by
    simp only [List.mem_cons, List.not_mem_nil, or_false] at hx
    rcases hx with rfl | rfl | rfl
    · exact ⟨c1, gl, sl, gs, s2, rfl, f6, fgl, fsl, DG⟩
    · exact ⟨c2, el, sl, es, s2, rfl, f7, fel, fsl, DE⟩
    · exact ⟨c3, el, sh, es, s3, rfl, f8, fel, fsh, DS⟩
  clear f6 f7 f8 s6 s7 s8 s9 s59 h20 n21 n22 n23 n24
  walk_at "gg"
  refine k_forL (h.same _ _ f9) (fun t σ H' => ∃ y17 y18 y19 : Option V, σ = [some (.ref sc), some (.ref c), some (.int st), some (.int stp), some (.ref pl), some (.int (n : Nat)), some (.int (s0 : Nat)), some (.int (s2 : Nat)), some (.ref sl), some (.bl bare), some (.int sp), some (.int (1 + ft)), some (.ref me), some (.ref fl), some (.ref gl), some (.ref el), some (.ref sh), y17, y18, y19, none, none] ∧ Has F9 [] H') ⟨_, _, _, rfl, h⟩ ?_ ?_ ?_
  · rintro t σ H' _ ⟨_, _, _, rfl, hh⟩
    exact hh.same _ _ f9
  · rintro t x σ H25 hx ⟨y17, y18, y19, rfl, h⟩
    obtain ⟨a, fa, sa, fs', s2', rfl, fra, ffa, fsa, D⟩ := rowAt x (List.mem_of_getElem? hx)
    have b0 := D.lx
    have b2 := D.ly
    walk_at "gg"
    refine g_ixL (v := .ref fa) (h.same _ _ fra) (atI_nat (j := 0) rfl) ?_
    walk_at "gg"
    refine g_ixL (v := .ref sa) (h.same _ _ fra) (atI_nat (j := 1) rfl) ?_
    walk_at "gg"
    refine ⟨pl, fa, sa, ps, fs', s0, n, s2', bare, rfl, h.same _ _ fpl, h.same _ _ ffa, h.same _ _ fsa, lp, ndp, D.lf, by omega, ln, by omega, fun tl t0 t1 t2 B0 B1 B2 H15 hT e0 e1 e2 => ?_⟩
    obtain ⟨F5, s5, h15, ftl, ta, tx, ty⟩ := trees_frz h hT e0 e1 e2 (tnd _) (tnd _) (tnd _)
    walk_at "gg"
    refine g_ixL (v := .ref fa) (h15.same _ _ (s5 _ _ fra)) (atI_nat (j := 0) rfl) ?_
    walk_at "gg"
    refine g_ixL (v := .ref sa) (h15.same _ _ (s5 _ _ fra)) (atI_nat (j := 1) rfl) ?_
    walk_at "gg"
    refine ⟨pl, fa, sa, ps, fs', s0, n, s2', false, _, rfl, h15.same _ _ (s5 _ _ fpl), h15.same _ _ (s5 _ _ ffa), h15.same _ _ (s5 _ _ fsa), lp, ndp, D.lf, by omega, ln, by omega, fun k z hz => (mt D k z hz).1, fun zs u C cl H16 az mz lz s16 du up => ?_⟩
    have h16 := h15.on s16
    have M := (mok (bare := bare) lp okp az mz lz D)
    walk_at "gg"
    refine ⟨tl, u, [t0, t1, t2], _, _, _, C, cl, _, zs, rfl, h16.same _ _ ftl, .cons (ta.up h16.same) (.cons (tx.up h16.same) (.cons (ty.up h16.same) .nil)), du, rfl, (fun e => due_mgd M.1 (up e)), M.1, fit_of M.1 mz D (fun k z hz => (mt D k z hz).1), fun H17 s17 => ?_⟩
    have h17 := h16.on s17
    walk_at "gg"
    exact ⟨_, _, _, rfl, ⟨s5.trans h17.same, (fun q hq => by cases hq), h17.nd⟩⟩
  · rintro σ H25 ⟨_, _, _, rfl, h⟩
    walk_at "gg"
    exact q H25
end

end K10

namespace K10
open PySem PySem.Spec PyProof.Rows L2 Qk
local macro_rules | `(tactic| walk_at "m") => `(tactic| ((repeat (first | exact List.Mem.head _ | apply List.Mem.tail)); done))
local macro_rules | `(tactic| walk_at "h") => `(tactic| first | assumption | exact Has.gF (by assumption) (by assumption) | exact Has.get (by assumption) (by walk_at "m"))
local macro_rules | `(tactic| walk_at "c") => `(tactic| ((repeat (first | exact Chg.hd | apply Chg.tl)); done))
local macro_rules | `(tactic| walk_at "is") => `(tactic| first
  | ((with_reducible refine' is2_non ?gh ?_); (case gh => walk_at "h"))
  | (with_reducible refine is_int_list ?_)
  | (with_reducible refine is_int_tuple ?_)
  | (with_reducible refine is_int_dict ?_)
  | (with_reducible refine is_int_int ?_)
  | (with_reducible refine is_int_bool ?_)
  | (with_reducible refine is_int_str ?_)
  | ((with_reducible refine' is2_int ?gh ?_); (case gh => walk_at "h"))
  | (with_reducible refine is_str_list ?_)
  | (with_reducible refine is_str_tuple ?_)
  | (with_reducible refine is_str_dict ?_)
  | (with_reducible refine is_str_int ?_)
  | (with_reducible refine is_str_bool ?_)
  | (with_reducible refine is_str_str ?_)
  | ((with_reducible refine' is2_str ?gh ?_); (case gh => walk_at "h"))
  | (with_reducible refine is_bool_list ?_)
  | (with_reducible refine is_bool_tuple ?_)
  | (with_reducible refine is_bool_dict ?_)
  | (with_reducible refine is_bool_int ?_)
  | (with_reducible refine is_bool_bool ?_)
  | (with_reducible refine is_bool_str ?_)
  | ((with_reducible refine' is2_bool ?gh ?_); (case gh => walk_at "h"))
  | ((with_reducible refine' is_list_list ?gh ?_); (case gh => walk_at "h"))
  | ((with_reducible refine' is_list_tuple ?gh ?_); (case gh => walk_at "h"))
  | ((with_reducible refine' is_list_dict ?gh ?_); (case gh => walk_at "h"))
  | ((with_reducible refine' is_list_int ?gh ?_); (case gh => walk_at "h"))
  | ((with_reducible refine' is_list_bool ?gh ?_); (case gh => walk_at "h"))
  | ((with_reducible refine' is_list_str ?gh ?_); (case gh => walk_at "h"))
  | ((with_reducible refine' is2_list ?ga ?gb ?_); (case ga => walk_at "h"); (case gb => walk_at "h"))
  | ((with_reducible refine' is_tuple_list ?gh ?_); (case gh => walk_at "h"))
  | ((with_reducible refine' is_tuple_tuple ?gh ?_); (case gh => walk_at "h"))
  | ((with_reducible refine' is_tuple_dict ?gh ?_); (case gh => walk_at "h"))
  | ((with_reducible refine' is_tuple_int ?gh ?_); (case gh => walk_at "h"))
  | ((with_reducible refine' is_tuple_bool ?gh ?_); (case gh => walk_at "h"))
  | ((with_reducible refine' is_tuple_str ?gh ?_); (case gh => walk_at "h"))
  | ((with_reducible refine' is2_tuple ?ga ?gb ?_); (case ga => walk_at "h"); (case gb => walk_at "h"))
  | ((with_reducible refine' is_dict_list ?gh ?_); (case gh => walk_at "h"))
  | ((with_reducible refine' is_dict_tuple ?gh ?_); (case gh => walk_at "h"))
  | ((with_reducible refine' is_dict_dict ?gh ?_); (case gh => walk_at "h"))
  | ((with_reducible refine' is_dict_int ?gh ?_); (case gh => walk_at "h"))
  | ((with_reducible refine' is_dict_bool ?gh ?_); (case gh => walk_at "h"))
  | ((with_reducible refine' is_dict_str ?gh ?_); (case gh => walk_at "h"))
  | ((with_reducible refine' is2_dict ?ga ?gb ?_); (case ga => walk_at "h"); (case gb => walk_at "h")))
local macro_rules | `(tactic| walk_at "g") => `(tactic| first
  | (with_reducible refine g_seq ?_)
  | (with_reducible refine g_asg ?_)
  | ((with_reducible refine g_name ?_); dsimp only [List.set, wipe, List.map])
  | ((with_reducible refine' g_var ?gv ?_); (case gv => exact rfl))
  | (with_reducible refine g_c ?_)
  | (with_reducible refine g_op ?_)
  | (with_reducible refine g_cons ?_)
  | (with_reducible refine g_nil ?_)
  | (with_reducible refine g_cb ?_)
  | (with_reducible refine g_call ?_)
  | (with_reducible refine g_tup ?_)
  | (with_reducible refine g_lst ?_)
  | (with_reducible refine g_bm ?_)
  | (with_reducible refine g_bm0 ?_)
  | ((with_reducible refine' g_kbm ?gh ?_); (case gh => walk_at "h"))
  | (with_reducible refine g_drop ?_)
  | (with_reducible refine g_ret ?_)
  | (with_reducible refine g_retN ?_)
  | (with_reducible refine g_next ?_)
  | (with_reducible refine g_brk ?_)
  | (with_reducible refine g_cont ?_)
  | (with_reducible refine g_if ?_)
  | ((with_reducible refine' g_aug ?gv ?_); (case gv => exact rfl))
  | (with_reducible refine g_ipI ?_)
  | (with_reducible refine g_test ?_)
  | (with_reducible refine g_tB ?_)
  | (with_reducible refine g_kB ?_)
  | (with_reducible refine g_not ?_)
  | (with_reducible refine g_and ?_)
  | (with_reducible refine g_or ?_)
  | (with_reducible refine g_andV ?_)
  | (with_reducible refine g_orV ?_)
  | (with_reducible refine g_notV ?_)
  | (with_reducible refine g_ifE ?_)
  | (with_reducible refine g_addI ?_)
  | (with_reducible refine g_rI0 ?_)
  | (with_reducible refine g_eqI ?_)
  | (with_reducible refine g_eqS ?_)
  | (with_reducible refine g_neI ?_)
  | (with_reducible refine g_neS ?_)
  | (with_reducible refine g_isN ?_)
  | (with_reducible refine g_notN ?_)
  | (with_reducible refine g_int ?_)
  | (with_reducible refine g_max2 ?_)
  | (with_reducible refine g_min2 ?_)
  | ((with_reducible refine' g_lenL ?gh ?_); (case gh => walk_at "h"))
  | (with_reducible refine g_sub ?_)
  | (with_reducible refine g_gcons ?_)
  | (with_reducible refine g_gnil ?_)
  | (with_reducible refine g_un ?_)
  | (with_reducible refine g_rU ?_)
  | (with_reducible refine g_forL ?_)
  | (with_reducible refine g_forS ?_)
  | (with_reducible refine g_forR1 ?_)
  | (with_reducible refine g_forR2 ?_)
  | (with_reducible refine g_forR3 ?_)
  | (with_reducible refine g_lcL ?_)
  | (with_reducible refine g_lcR1 ?_)
  | (with_reducible refine g_lcR2 ?_)
  | (with_reducible refine g_slice ?_)
  | (with_reducible refine g_part ?_)
  | (with_reducible refine g_kOI ?_)
  | (with_reducible refine g_nopart ?_)
  | (with_reducible refine g_yes ?_)
  | ((with_reducible refine' g_wipe ?gv ?_); (case gv => exact rfl))
  | (with_reducible refine iteT ?_)
  | (with_reducible refine iteF ?_)
  | (with_reducible refine i_nf ?_)
  | (with_reducible refine i_nt ?_)
  | ((with_reducible refine' g_gtup ?gh ?gl ?_); (case gh => walk_at "h"); (case gl => exact rfl))
  | ((with_reducible refine' g_notinI ?gh ?_); (case gh => walk_at "h"))
  | ((with_reducible refine' g_inI ?gh ?_); (case gh => walk_at "h"))
  | ((with_reducible refine' g_kget2 ?gh ?_); (case gh => walk_at "h"))
  | ((with_reducible refine' g_kgotI ?gh ?_); (case gh => walk_at "h"))
  | (with_reducible refine g_tRev ?_)
  | (with_reducible refine g_neB ?_)
  | (with_reducible refine g_eqB ?_)
  | ((with_reducible refine' g_lenT ?gh ?_); (case gh => walk_at "h"))
  | (with_reducible refine g_star ?_)
  | ((with_reducible refine' g_kstarL ?gh ?_); (case gh => walk_at "h"))
  | ((with_reducible refine' g_kstarT ?gh ?_); (case gh => walk_at "h"))
  | (with_reducible refine g_tru ?_)
  | ((with_reducible refine' g_truL ?gh ?_); (case gh => walk_at "h"))
  | (with_reducible refine g_get2 ?_)
  | (with_reducible refine g_try ?_)
  | (with_reducible refine g_fld ?_)
  | (with_reducible refine g_sfld ?_)
  | (with_reducible refine g_meth ?_)
  | (with_reducible refine g_make ?_)
  | (with_reducible refine g_del ?_)
  | (with_reducible refine g_callS ?_)
  | (with_reducible refine g_raise ?_)
  | (with_reducible refine g_xf ?_)
  | (with_reducible refine g_m0 ?_)
  | (with_reducible refine g_km0 ?_)
  | walk_at "is")
local macro_rules | `(tactic| walk_at "gg") => `(tactic| repeat walk_at "g")
local macro_rules | `(tactic| walk_at "sz") => `(tactic| (refine sz ?_; simp only [List.length_cons, List.length_nil, List.length_map, List.length_append, List.length_replicate]; omega))
local macro_rules | `(tactic| walk_at "sub") => `(tactic| ((repeat (first | exact List.Sublist.slnil | with_reducible apply List.Sublist.cons_cons | with_reducible apply List.Sublist.cons)); done))

set_option maxHeartbeats 4000000
theorem all_mk {l : PySem.W.OpenLaw} {w : World} {K : PySem.W.Frag} {h : Heap} {mg : Str → Option Value} {fa f1 f2 f3 f4 f5 f6 f7 f8 f9 f10 f11 f12 f13 f14 f15 f16 f17 f18 f19 f20 f21 f22 f23 c_PartError c_BadTree c_TooLarge fi_TooLarge : Addr} (X : K.In h) (G : h.Ns mainGlobals mg) (hfa : mg "law" = some (.ref fa))
    {od1 an1 od2 an2 od3 an3 od4 an4 od5 an5 od6 an6 od7 an7 od8 an8 od9 an9 od10 an10 od11 an11 od12 an12 od13 an13 od14 an14 od15 an15 od16 an16 od17 an17 od18 an18 od19 an19 od20 an20 od21 an21 od22 an22 od23 an23 : Option Addr} {sl1 sl2 sl3 sl4 sl5 sl6 sl7 sl8 sl9 sl10 sl11 sl12 sl13 sl14 sl15 sl16 sl17 sl18 sl19 sl20 sl21 sl22 sl23 : Array (Option Value)} {oc1 kV1 dc1 pm1 cd1 ct1 oc2 kV2 dc2 pm2 cd2 ct2 oc3 kV3 dc3 pm3 cd3 ct3 oc4 kV4 dc4 pm4 cd4 ct4 oc5 kV5 dc5 pm5 cd5 ct5 oc6 kV6 dc6 pm6 cd6 ct6 oc7 kV7 dc7 pm7 cd7 ct7 oc8 kV8 dc8 pm8 cd8 ct8 oc9 kV9 dc9 pm9 cd9 ct9 oc10 kV10 dc10 pm10 cd10 ct10 oc11 kV11 dc11 pm11 cd11 ct11 oc12 kV12 dc12 pm12 cd12 ct12 oc13 kV13 dc13 pm13 cd13 ct13 oc14 kV14 dc14 pm14 cd14 ct14 oc15 kV15 dc15 pm15 cd15 ct15 oc16 kV16 dc16 pm16 cd16 ct16 oc17 kV17 dc17 pm17 cd17 ct17 oc18 kV18 dc18 pm18 cd18 ct18 oc19 kV19 dc19 pm19 cd19 ct19 oc20 kV20 dc20 pm20 cd20 ct20 oc21 kV21 dc21 pm21 cd21 ct21 oc22 kV22 dc22 pm22 cd22 ct22 oc23 kV23 dc23 pm23 cd23 ct23 : Value}
    (a1 : PySem.W.nsIn K mainGlobals "_common_lengths" = some (some (.ref f1))) (l1 : K.lookup f1 = some ⟨oc1, od1, .func (PySem.W.fnOf "_common_lengths" "_common_lengths" (defArgs s_common_lengths) (defBody s_common_lengths) (defScope s_common_lengths) .none kV1 dc1 pm1 an1 cd1 ct1), sl1⟩) (c1 : PySem.W.codeIn K cd1 "_common_lengths" = true) (k1 : PySem.W.keepIn K (.ref f1) = true)
    (a2 : PySem.W.nsIn K mainGlobals "matched" = some (some (.ref f2))) (l2 : K.lookup f2 = some ⟨oc2, od2, .func (PySem.W.fnOf "matched" "matched" (defArgs s_matched) (defBody s_matched) (defScope s_matched) .none kV2 dc2 pm2 an2 cd2 ct2), sl2⟩) (c2 : PySem.W.codeIn K cd2 "matched" = true) (k2 : PySem.W.keepIn K (.ref f2) = true)
    (a3 : PySem.W.nsIn K mainGlobals "_stable_lines" = some (some (.ref f3))) (l3 : K.lookup f3 = some ⟨oc3, od3, .func (PySem.W.fnOf "_stable_lines" "_stable_lines" (defArgs s_stable_lines) (defBody s_stable_lines) (defScope s_stable_lines) .none kV3 dc3 pm3 an3 cd3 ct3), sl3⟩) (c3 : PySem.W.codeIn K cd3 "_stable_lines" = true) (k3 : PySem.W.keepIn K (.ref f3) = true)
    (a4 : PySem.W.nsIn K mainGlobals "_runs" = some (some (.ref f4))) (l4 : K.lookup f4 = some ⟨oc4, od4, .func (PySem.W.fnOf "_runs" "_runs" (defArgs s_runs) (defBody s_runs) (defScope s_runs) .none kV4 dc4 pm4 an4 cd4 ct4), sl4⟩) (c4 : PySem.W.codeIn K cd4 "_runs" = true) (k4 : PySem.W.keepIn K (.ref f4) = true)
    (a5 : PySem.W.nsIn K mainGlobals "text_chunks" = some (some (.ref f5))) (l5 : K.lookup f5 = some ⟨oc5, od5, .func (PySem.W.fnOf "text_chunks" "text_chunks" (defArgs s_text_chunks) (defBody s_text_chunks) (defScope s_text_chunks) .none kV5 dc5 pm5 an5 cd5 ct5), sl5⟩) (c5 : PySem.W.codeIn K cd5 "text_chunks" = true) (k5 : PySem.W.keepIn K (.ref f5) = true)
    (a6 : PySem.W.nsIn K mainGlobals "_clash_lines" = some (some (.ref f6))) (l6 : K.lookup f6 = some ⟨oc6, od6, .func (PySem.W.fnOf "_clash_lines" "_clash_lines" (defArgs s_clash_lines) (defBody s_clash_lines) (defScope s_clash_lines) .none kV6 dc6 pm6 an6 cd6 ct6), sl6⟩) (c6 : PySem.W.codeIn K cd6 "_clash_lines" = true) (k6 : PySem.W.keepIn K (.ref f6) = true)
    (a7 : PySem.W.nsIn K mainGlobals "merge_texts" = some (some (.ref f7))) (l7 : K.lookup f7 = some ⟨oc7, od7, .func (PySem.W.fnOf "merge_texts" "merge_texts" (defArgs s_merge_texts) (defBody s_merge_texts) (defScope s_merge_texts) .none kV7 dc7 pm7 an7 cd7 ct7), sl7⟩) (c7 : PySem.W.codeIn K cd7 "merge_texts" = true) (k7 : PySem.W.keepIn K (.ref f7) = true)
    (a8 : PySem.W.nsIn K mainGlobals "_merged_path" = some (some (.ref f8))) (l8 : K.lookup f8 = some ⟨oc8, od8, .func (PySem.W.fnOf "_merged_path" "_merged_path" (defArgs s_merged_path) (defBody s_merged_path) (defScope s_merged_path) .none kV8 dc8 pm8 an8 cd8 ct8), sl8⟩) (c8 : PySem.W.codeIn K cd8 "_merged_path" = true) (k8 : PySem.W.keepIn K (.ref f8) = true)
    (a9 : PySem.W.nsIn K mainGlobals "_copied" = some (some (.ref f9))) (l9 : K.lookup f9 = some ⟨oc9, od9, .func (PySem.W.fnOf "_copied" "_copied" (defArgs s_copied) (defBody s_copied) (defScope s_copied) .none kV9 dc9 pm9 an9 cd9 ct9), sl9⟩) (c9 : PySem.W.codeIn K cd9 "_copied" = true) (k9 : PySem.W.keepIn K (.ref f9) = true)
    (a10 : PySem.W.nsIn K mainGlobals "_base_lines" = some (some (.ref f10))) (l10 : K.lookup f10 = some ⟨oc10, od10, .func (PySem.W.fnOf "_base_lines" "_base_lines" (defArgs s_base_lines) (defBody s_base_lines) (defScope s_base_lines) .none kV10 dc10 pm10 an10 cd10 ct10), sl10⟩) (c10 : PySem.W.codeIn K cd10 "_base_lines" = true) (k10 : PySem.W.keepIn K (.ref f10) = true)
    (a11 : PySem.W.nsIn K mainGlobals "merge_trees" = some (some (.ref f11))) (l11 : K.lookup f11 = some ⟨oc11, od11, .func (PySem.W.fnOf "merge_trees" "merge_trees" (defArgs s_merge_trees) (defBody s_merge_trees) (defScope s_merge_trees) .none kV11 dc11 pm11 an11 cd11 ct11), sl11⟩) (c11 : PySem.W.codeIn K cd11 "merge_trees" = true) (k11 : PySem.W.keepIn K (.ref f11) = true)
    (a12 : PySem.W.nsIn K mainGlobals "_law_feed" = some (some (.ref f12))) (l12 : K.lookup f12 = some ⟨oc12, od12, .func (PySem.W.fnOf "_law_feed" "_law_feed" (defArgs s_l_feed) (defBody s_l_feed) (defScope s_l_feed) .none kV12 dc12 pm12 an12 cd12 ct12), sl12⟩) (c12 : PySem.W.codeIn K cd12 "_law_feed" = true) (k12 : PySem.W.keepIn K (.ref f12) = true)
    (a13 : PySem.W.nsIn K mainGlobals "_law_next" = some (some (.ref f13))) (l13 : K.lookup f13 = some ⟨oc13, od13, .func (PySem.W.fnOf "_law_next" "_law_next" (defArgs s_l_next) (defBody s_l_next) (defScope s_l_next) .none kV13 dc13 pm13 an13 cd13 ct13), sl13⟩) (c13 : PySem.W.codeIn K cd13 "_law_next" = true) (k13 : PySem.W.keepIn K (.ref f13) = true)
    (a14 : PySem.W.nsIn K mainGlobals "_law_same" = some (some (.ref f14))) (l14 : K.lookup f14 = some ⟨oc14, od14, .func (PySem.W.fnOf "_law_same" "_law_same" (defArgs s_l_same) (defBody s_l_same) (defScope s_l_same) .none kV14 dc14 pm14 an14 cd14 ct14), sl14⟩) (c14 : PySem.W.codeIn K cd14 "_law_same" = true) (k14 : PySem.W.keepIn K (.ref f14) = true)
    (a15 : PySem.W.nsIn K mainGlobals "_law_way" = some (some (.ref f15))) (l15 : K.lookup f15 = some ⟨oc15, od15, .func (PySem.W.fnOf "_law_way" "_law_way" (defArgs s_l_way) (defBody s_l_way) (defScope s_l_way) .none kV15 dc15 pm15 an15 cd15 ct15), sl15⟩) (c15 : PySem.W.codeIn K cd15 "_law_way" = true) (k15 : PySem.W.keepIn K (.ref f15) = true)
    (a16 : PySem.W.nsIn K mainGlobals "_law_copy" = some (some (.ref f16))) (l16 : K.lookup f16 = some ⟨oc16, od16, .func (PySem.W.fnOf "_law_copy" "_law_copy" (defArgs s_l_copy) (defBody s_l_copy) (defScope s_l_copy) .none kV16 dc16 pm16 an16 cd16 ct16), sl16⟩) (c16 : PySem.W.codeIn K cd16 "_law_copy" = true) (k16 : PySem.W.keepIn K (.ref f16) = true)
    (a17 : PySem.W.nsIn K mainGlobals "_law_kept" = some (some (.ref f17))) (l17 : K.lookup f17 = some ⟨oc17, od17, .func (PySem.W.fnOf "_law_kept" "_law_kept" (defArgs s_l_kept) (defBody s_l_kept) (defScope s_l_kept) .none kV17 dc17 pm17 an17 cd17 ct17), sl17⟩) (c17 : PySem.W.codeIn K cd17 "_law_kept" = true) (k17 : PySem.W.keepIn K (.ref f17) = true)
    (a18 : PySem.W.nsIn K mainGlobals "_law_base" = some (some (.ref f18))) (l18 : K.lookup f18 = some ⟨oc18, od18, .func (PySem.W.fnOf "_law_base" "_law_base" (defArgs s_l_base) (defBody s_l_base) (defScope s_l_base) .none kV18 dc18 pm18 an18 cd18 ct18), sl18⟩) (c18 : PySem.W.codeIn K cd18 "_law_base" = true) (k18 : PySem.W.keepIn K (.ref f18) = true)
    (a19 : PySem.W.nsIn K mainGlobals "_law_trees" = some (some (.ref f19))) (l19 : K.lookup f19 = some ⟨oc19, od19, .func (PySem.W.fnOf "_law_trees" "_law_trees" (defArgs s_l_trees) (defBody s_l_trees) (defScope s_l_trees) .none kV19 dc19 pm19 an19 cd19 ct19), sl19⟩) (c19 : PySem.W.codeIn K cd19 "_law_trees" = true) (k19 : PySem.W.keepIn K (.ref f19) = true)
    (a20 : PySem.W.nsIn K mainGlobals "_law_long" = some (some (.ref f20))) (l20 : K.lookup f20 = some ⟨oc20, od20, .func (PySem.W.fnOf "_law_long" "_law_long" (defArgs s_l_long) (defBody s_l_long) (defScope s_l_long) .none kV20 dc20 pm20 an20 cd20 ct20), sl20⟩) (c20 : PySem.W.codeIn K cd20 "_law_long" = true) (k20 : PySem.W.keepIn K (.ref f20) = true)
    (a21 : PySem.W.nsIn K mainGlobals "_law_wanted" = some (some (.ref f21))) (l21 : K.lookup f21 = some ⟨oc21, od21, .func (PySem.W.fnOf "_law_wanted" "_law_wanted" (defArgs s_l_wanted) (defBody s_l_wanted) (defScope s_l_wanted) .none kV21 dc21 pm21 an21 cd21 ct21), sl21⟩) (c21 : PySem.W.codeIn K cd21 "_law_wanted" = true) (k21 : PySem.W.keepIn K (.ref f21) = true)
    (a22 : PySem.W.nsIn K mainGlobals "_law_asks" = some (some (.ref f22))) (l22 : K.lookup f22 = some ⟨oc22, od22, .func (PySem.W.fnOf "_law_asks" "_law_asks" (defArgs s_l_asks) (defBody s_l_asks) (defScope s_l_asks) .none kV22 dc22 pm22 an22 cd22 ct22), sl22⟩) (c22 : PySem.W.codeIn K cd22 "_law_asks" = true) (k22 : PySem.W.keepIn K (.ref f22) = true)
    (a23 : PySem.W.nsIn K mainGlobals "law" = some (some (.ref f23))) (l23 : K.lookup f23 = some ⟨oc23, od23, .func (PySem.W.fnOf "law" "law" (defArgs s_law) (defBody s_law) (defScope s_law) .none kV23 dc23 pm23 an23 cd23 ct23), sl23⟩) (c23 : PySem.W.codeIn K cd23 "law" = true) (k23 : PySem.W.keepIn K (.ref f23) = true)
    (ac_PartError : PySem.W.nsIn K mainGlobals "PartError" = some (some (.ref c_PartError)))
    (ec_PartError : PySem.W.subIn K (.ref c_PartError) (.type "BaseException") = some true)
    (tc_PartError : PySem.W.typeIn K (.ref c_PartError) = some (.type "type"))
    (ic_PartError : PySem.W.isClsIn K c_PartError = true)
    (ac_BadTree : PySem.W.nsIn K mainGlobals "BadTree" = some (some (.ref c_BadTree)))
    (ec_BadTree : PySem.W.subIn K (.ref c_BadTree) (.type "BaseException") = some true)
    (tc_BadTree : PySem.W.typeIn K (.ref c_BadTree) = some (.type "type"))
    (ic_BadTree : PySem.W.isClsIn K c_BadTree = true)
    (ac_TooLarge : PySem.W.nsIn K mainGlobals "TooLarge" = some (some (.ref c_TooLarge)))
    (ec_TooLarge : PySem.W.subIn K (.ref c_TooLarge) (.type "BaseException") = some true)
    (tc_TooLarge : PySem.W.typeIn K (.ref c_TooLarge) = some (.type "type"))
    (ic_TooLarge : PySem.W.isClsIn K c_TooLarge = true)
    {nm_TooLarge q_TooLarge : Str} {ns_TooLarge : Addr} {bs_TooLarge : List Value} {sn_TooLarge : List Str} {sub_TooLarge : List Value} {ab_TooLarge : Bool} {col_TooLarge : Option Bool} {dd_TooLarge : Option Addr} {m0_TooLarge m1_TooLarge m2_TooLarge m3_TooLarge m5_TooLarge : Option Value}
    (xL_TooLarge : K.lookup c_TooLarge = some (excClassObj nm_TooLarge q_TooLarge c_TooLarge ns_TooLarge bs_TooLarge [.ref c_PartError, .type "ValueError", .type "Exception", .type "BaseException", .type "object"] true sn_TooLarge sub_TooLarge ab_TooLarge col_TooLarge dd_TooLarge m0_TooLarge m1_TooLarge m2_TooLarge m3_TooLarge m5_TooLarge "ValueError.__new__"))
    (sa_TooLarge : PySem.W.findIn K (.ref c_TooLarge) "__setattr__" = some (some (.builtin "object.__setattr__")))
    (ga_TooLarge : PySem.W.findIn K (.ref c_TooLarge) "__getattribute__" = some (some (.builtin "BaseException.__getattribute__")))
    (gg_TooLarge : PySem.W.findIn K (.ref c_TooLarge) "__getattr__" = some none)
    (gk_TooLarge : PySem.W.findIn K (.ref c_TooLarge) "__class__" = some (some (.builtin "object.__class__")))
    (gm_TooLarge : PySem.W.mroIn K c_TooLarge (.type "object") = some true)
    (n_path_TooLarge : PySem.W.findIn K (.ref c_TooLarge) "path" = some none)
    (ai_TooLarge : PySem.W.findIn K (.ref c_TooLarge) "__init__" = some (some (.ref fi_TooLarge)))
    (ti_TooLarge : PySem.W.typeIn K (.ref fi_TooLarge) = some (.type "function"))
    {odi_TooLarge ani_TooLarge : Option Addr} {sli_TooLarge : Array (Option Value)} {oci_TooLarge kVi_TooLarge dci_TooLarge pmi_TooLarge cdi_TooLarge cti_TooLarge : Value}
    (li_TooLarge : K.lookup fi_TooLarge = some ⟨oci_TooLarge, odi_TooLarge, .func (PySem.W.fnOf "__init__" "TooLarge.__init__" (defArgs (inClass (topS 3) 0)) (defBody (inClass (topS 3) 0)) (defScope (inClass (topS 3) 0)) .none kVi_TooLarge dci_TooLarge pmi_TooLarge ani_TooLarge cdi_TooLarge cti_TooLarge), sli_TooLarge⟩)
    (ci_TooLarge : PySem.W.codeIn K cdi_TooLarge "TooLarge.__init__" = true)
    (ki_TooLarge : PySem.W.keepIn K (.ref fi_TooLarge) = true)
    (kc_TooLarge : PySem.W.keepIn K (.ref c_TooLarge) = true)
    (hc_TooLarge : PySem.W.hasDictIn K c_TooLarge = true)
    (ss_TooLarge_BadTree : PySem.W.subIn K (.ref c_TooLarge) (.ref c_BadTree) = some false)
    (ss_TooLarge_PartError : PySem.W.subIn K (.ref c_TooLarge) (.ref c_PartError) = some true)
    (ss_TooLarge_TooLarge : PySem.W.subIn K (.ref c_TooLarge) (.ref c_TooLarge) = some true)
    (sv_TooLarge : PySem.W.subIn K (.ref c_TooLarge) (.type "ValueError") = some true)
    (xn : PySem.W.specialIn K (.builtin "object.__class__") "__get__" = some (some (.builtin "getset_descriptor.__get__"))) (xt : PySem.W.takesIn K (.builtin "object.__class__") = some true)
    (z_ValueError : PySem.W.nsIn K mainGlobals "ValueError" = some none)
    (z_abs : PySem.W.nsIn K mainGlobals "abs" = some none)
    (z_bool : PySem.W.nsIn K mainGlobals "bool" = some none)
    (z_dict : PySem.W.nsIn K mainGlobals "dict" = some none)
    (z_int : PySem.W.nsIn K mainGlobals "int" = some none)
    (z_isinstance : PySem.W.nsIn K mainGlobals "isinstance" = some none)
    (z_len : PySem.W.nsIn K mainGlobals "len" = some none)
    (z_list : PySem.W.nsIn K mainGlobals "list" = some none)
    (z_max : PySem.W.nsIn K mainGlobals "max" = some none)
    (z_range : PySem.W.nsIn K mainGlobals "range" = some none)
    (z_sorted : PySem.W.nsIn K mainGlobals "sorted" = some none)
    (z_str : PySem.W.nsIn K mainGlobals "str" = some none)
    (z_tuple : PySem.W.nsIn K mainGlobals "tuple" = some none)
    {ut_CLASH_START : Tok} (y_CLASH_START : PySem.W.nsIn K mainGlobals "CLASH_START" = some (some (.str "<<<<<<<" ut_CLASH_START)))
    {ut_CLASH_BASE : Tok} (y_CLASH_BASE : PySem.W.nsIn K mainGlobals "CLASH_BASE" = some (some (.str "|||||||" ut_CLASH_BASE)))
    {ut_CLASH_OTHER : Tok} (y_CLASH_OTHER : PySem.W.nsIn K mainGlobals "CLASH_OTHER" = some (some (.str "=======" ut_CLASH_OTHER)))
    {ut_CLASH_END : Tok} (y_CLASH_END : PySem.W.nsIn K mainGlobals "CLASH_END" = some (some (.str ">>>>>>>" ut_CLASH_END)))
    {ut_MERGED_PATHS : Tok} (y_MERGED_PATHS : PySem.W.nsIn K mainGlobals "MERGED_PATHS" = some (some (.int 8 ut_MERGED_PATHS)))
    {ut_MERGED_LINES : Tok} (y_MERGED_LINES : PySem.W.nsIn K mainGlobals "MERGED_LINES" = some (some (.int 40 ut_MERGED_LINES))) :
    ∃ fd : FuncData, (∀ (s : Shared) (v : Value), BindsTo s fd ⟨[v], []⟩ [("script", v)]) ∧ ∀ base : Heap, K.In base → base.Ns mainGlobals mg → FnOk l.prog w K mg base CX0 10 fa fd ["script"] (sp_law K) := by
  have e := hfa.symm.trans (PySem.W.mg_of X G a23)
  cases e
  have F1 := fun_mk (st := s_common_lengths) l1 c1 k1
  have b1 := F1.binds (ps := ["old", "new"]) fun _ _ _ _ _ _ us hl => match us, hl with | [_, _], _ => rfl
  have F2 := fun_mk (st := s_matched) l2 c2 k2
  have b2 := F2.binds (ps := ["old", "new"]) fun _ _ _ _ _ _ us hl => match us, hl with | [_, _], _ => rfl
  have F3 := fun_mk (st := s_stable_lines) l3 c3 k3
  have b3 := F3.binds (ps := ["base", "ours", "theirs"]) fun _ _ _ _ _ _ us hl => match us, hl with | [_, _, _], _ => rfl
  have F4 := fun_mk (st := s_runs) l4 c4 k4
  have b4 := F4.binds (ps := ["base", "ours", "theirs"]) fun _ _ _ _ _ _ us hl => match us, hl with | [_, _, _], _ => rfl
  have F5 := fun_mk (st := s_text_chunks) l5 c5 k5
  have b5 := F5.binds (ps := ["base", "ours", "theirs"]) fun _ _ _ _ _ _ us hl => match us, hl with | [_, _, _], _ => rfl
  have F6 := fun_mk (st := s_clash_lines) l6 c6 k6
  have b6 := F6.binds (ps := ["b", "x", "y"]) fun _ _ _ _ _ _ us hl => match us, hl with | [_, _, _], _ => rfl
  have F7 := fun_mk (st := s_merge_texts) l7 c7 k7
  have b7 := F7.binds (ps := ["base", "ours", "theirs"]) fun _ _ _ _ _ _ us hl => match us, hl with | [_, _, _], _ => rfl
  have F8 := fun_mk (st := s_merged_path) l8 c8 k8
  have b8 := F8.binds (ps := ["base", "ours", "theirs"]) fun _ _ _ _ _ _ us hl => match us, hl with | [_, _, _], _ => rfl
  have F9 := fun_mk (st := s_copied) l9 c9 k9
  have b9 := F9.binds (ps := ["text"]) fun _ _ _ _ _ _ us hl => match us, hl with | [_], _ => rfl
  have F10 := fun_mk (st := s_base_lines) l10 c10 k10
  have b10 := F10.binds (ps := ["base"]) fun _ _ _ _ _ _ us hl => match us, hl with | [_], _ => rfl
  have F11 := fun_mk (st := s_merge_trees) l11 c11 k11
  have b11 := F11.binds (ps := ["base", "ours", "theirs"]) fun _ _ _ _ _ _ us hl => match us, hl with | [_, _, _], _ => rfl
  have F12 := fun_mk (st := s_l_feed) l12 c12 k12
  have b12 := F12.binds (ps := ["script"]) fun _ _ _ _ _ _ us hl => match us, hl with | [_], _ => rfl
  have F13 := fun_mk (st := s_l_next) l13 c13 k13
  have b13 := F13.binds (ps := ["cells", "many"]) fun _ _ _ _ _ _ us hl => match us, hl with | [_, _], _ => rfl
  have F14 := fun_mk (st := s_l_same) l14 c14 k14
  have b14 := F14.binds (ps := ["told", "due"]) fun _ _ _ _ _ _ us hl => match us, hl with | [_, _], _ => rfl
  have F15 := fun_mk (st := s_l_way) l15 c15 k15
  have b15 := F15.binds (ps := ["place"]) fun _ _ _ _ _ _ us hl => match us, hl with | [_], _ => rfl
  have F16 := fun_mk (st := s_l_copy) l16 c16 k16
  have b16 := F16.binds (ps := ["tree"]) fun _ _ _ _ _ _ us hl => match us, hl with | [_], _ => rfl
  have F17 := fun_mk (st := s_l_kept) l17 c17 k17
  have b17 := F17.binds (ps := ["passed", "tree"]) fun _ _ _ _ _ _ us hl => match us, hl with | [_, _], _ => rfl
  have F18 := fun_mk (st := s_l_base) l18 c18 k18
  have b18 := F18.binds (ps := ["many"]) fun _ _ _ _ _ _ us hl => match us, hl with | [_], _ => rfl
  have F19 := fun_mk (st := s_l_trees) l19 c19 k19
  have b19 := F19.binds (ps := ["paths", "fates", "sizes", "bare"]) fun _ _ _ _ _ _ us hl => match us, hl with | [_, _, _, _], _ => rfl
  have F20 := fun_mk (st := s_l_long) l20 c20 k20
  have b20 := F20.binds (ps := ["sizes", "turned"]) fun _ _ _ _ _ _ us hl => match us, hl with | [_, _], _ => rfl
  have F21 := fun_mk (st := s_l_wanted) l21 c21 k21
  have b21 := F21.binds (ps := ["paths", "fates", "sizes", "turned"]) fun _ _ _ _ _ _ us hl => match us, hl with | [_, _, _, _], _ => rfl
  have F22 := fun_mk (st := s_l_asks) l22 c22 k22
  have b22 := F22.binds (ps := ["trees", "due"]) fun _ _ _ _ _ _ us hl => match us, hl with | [_, _], _ => rfl
  have F23 := fun_mk (st := s_law) l23 c23 k23
  have b23 := F23.binds (ps := ["script"]) fun _ _ _ _ _ _ us hl => match us, hl with | [_], _ => rfl
  have Fi_TooLarge := fun_mk (st := inClass (topS 3) 0) li_TooLarge ci_TooLarge ki_TooLarge
  have bi_TooLarge := Fi_TooLarge.binds (ps := ["self", "path"]) fun _ _ _ _ _ _ us hl => match us, hl with | [_, _], _ => rfl
  exact ⟨_, fun s v => .of_eq rfl, fun base _ _ => ok_law ⟨_, _, F1, PySem.W.mg_of X G a1, b1, _, _, F2, PySem.W.mg_of X G a2, b2, _, _, F3, PySem.W.mg_of X G a3, b3, _, _, F4, PySem.W.mg_of X G a4, b4, _, _, F5, PySem.W.mg_of X G a5, b5, _, _, F6, PySem.W.mg_of X G a6, b6, _, _, F7, PySem.W.mg_of X G a7, b7, _, _, F8, PySem.W.mg_of X G a8, b8, _, _, F9, PySem.W.mg_of X G a9, b9, _, _, F10, PySem.W.mg_of X G a10, b10, _, _, F11, PySem.W.mg_of X G a11, b11, _, _, F12, PySem.W.mg_of X G a12, b12, _, _, F13, PySem.W.mg_of X G a13, b13, _, _, F14, PySem.W.mg_of X G a14, b14, _, _, F15, PySem.W.mg_of X G a15, b15, _, _, F16, PySem.W.mg_of X G a16, b16, _, _, F17, PySem.W.mg_of X G a17, b17, _, _, F18, PySem.W.mg_of X G a18, b18, _, _, F19, PySem.W.mg_of X G a19, b19, _, _, F20, PySem.W.mg_of X G a20, b20, _, _, F21, PySem.W.mg_of X G a21, b21, _, _, F22, PySem.W.mg_of X G a22, b22, _, _, F23, PySem.W.mg_of X G a23, b23, c_PartError, PySem.W.mg_of X G ac_PartError, c_BadTree, PySem.W.mg_of X G ac_BadTree, c_TooLarge, PySem.W.mg_of X G ac_TooLarge, fi_TooLarge, _, Fi_TooLarge, bi_TooLarge, ⟨⟨_, _, _, _, _, _, _, _, _, _, _, _, _, _, _, xL_TooLarge, by rfl⟩, sa_TooLarge, ec_TooLarge, tc_TooLarge, kc_TooLarge⟩, ai_TooLarge, ti_TooLarge, n_path_TooLarge, ⟨ga_TooLarge, gg_TooLarge, ec_TooLarge, hc_TooLarge⟩, ⟨by unfold PySem.W.clsIn; rw [xL_TooLarge] <;> rfl, ga_TooLarge, gg_TooLarge, ec_TooLarge, hc_TooLarge, gk_TooLarge, xn, xt, gm_TooLarge⟩, exm_own ec_TooLarge ic_TooLarge tc_TooLarge ss_TooLarge_TooLarge, kit_own ss_TooLarge_TooLarge ss_TooLarge_BadTree ic_BadTree tc_BadTree, kit_own ss_TooLarge_TooLarge ss_TooLarge_PartError ic_PartError tc_PartError, kit_ve sv_TooLarge, PySem.W.mg_none_of X G z_ValueError, PySem.W.mg_none_of X G z_abs, PySem.W.mg_none_of X G z_bool, PySem.W.mg_none_of X G z_dict, PySem.W.mg_none_of X G z_int, PySem.W.mg_none_of X G z_isinstance, PySem.W.mg_none_of X G z_len, PySem.W.mg_none_of X G z_list, PySem.W.mg_none_of X G z_max, PySem.W.mg_none_of X G z_range, PySem.W.mg_none_of X G z_sorted, PySem.W.mg_none_of X G z_str, PySem.W.mg_none_of X G z_tuple, ⟨_, PySem.W.mg_of X G y_CLASH_START, _, rfl⟩, ⟨_, PySem.W.mg_of X G y_CLASH_BASE, _, rfl⟩, ⟨_, PySem.W.mg_of X G y_CLASH_OTHER, _, rfl⟩, ⟨_, PySem.W.mg_of X G y_CLASH_END, _, rfl⟩, ⟨_, PySem.W.mg_of X G y_MERGED_PATHS, _, rfl⟩, ⟨_, PySem.W.mg_of X G y_MERGED_LINES, _, rfl⟩⟩⟩
end K10
open PySem PySem.W PyProof.Rows
set_option maxHeartbeats 0 in
theorem PySem.Challenge.cw_partclones_k10_merge_too_large_holds : PySem.Challenge.rw_partclones_k10_merge_too_large.Holds := by
  w_on; o_law; k_head; (case hw => w_witness2)
  k_fill
  refine L2.walk_of (l := PySem.Challenge.rw_partclones_k10_merge_too_large) (n := 63) (k := 10) (x := "script") (CX := fun _ => L2.CX0) (sp := fun w => K10.sp_law _) rfl (by decide) rfl ⟨rfl, by decide, by decide⟩ (fun w h Y => PySem.W.kIn_of Y) ?F (fun _ H a ns hl _ hS => K10.sp_law_start hl hS) (fun _ _ _ _ _ h => h)
  case F =>
    intro w mg fa h KX G hmg
    refine' K10.all_mk KX G hmg ?a1 ?l1 ?c1 ?k1 ?a2 ?l2 ?c2 ?k2 ?a3 ?l3 ?c3 ?k3 ?a4 ?l4 ?c4 ?k4 ?a5 ?l5 ?c5 ?k5 ?a6 ?l6 ?c6 ?k6 ?a7 ?l7 ?c7 ?k7 ?a8 ?l8 ?c8 ?k8 ?a9 ?l9 ?c9 ?k9 ?a10 ?l10 ?c10 ?k10 ?a11 ?l11 ?c11 ?k11 ?a12 ?l12 ?c12 ?k12 ?a13 ?l13 ?c13 ?k13 ?a14 ?l14 ?c14 ?k14 ?a15 ?l15 ?c15 ?k15 ?a16 ?l16 ?c16 ?k16 ?a17 ?l17 ?c17 ?k17 ?a18 ?l18 ?c18 ?k18 ?a19 ?l19 ?c19 ?k19 ?a20 ?l20 ?c20 ?k20 ?a21 ?l21 ?c21 ?k21 ?a22 ?l22 ?c22 ?k22 ?a23 ?l23 ?c23 ?k23 ?ac_PartError ?ec_PartError ?tc_PartError ?ic_PartError ?ac_BadTree ?ec_BadTree ?tc_BadTree ?ic_BadTree ?ac_TooLarge ?ec_TooLarge ?tc_TooLarge ?ic_TooLarge ?xL_TooLarge ?sa_TooLarge ?ga_TooLarge ?gg_TooLarge ?gk_TooLarge ?gm_TooLarge ?n_path_TooLarge ?ai_TooLarge ?ti_TooLarge ?li_TooLarge ?ci_TooLarge ?ki_TooLarge ?kc_TooLarge ?hc_TooLarge ?ss_TooLarge_BadTree ?ss_TooLarge_PartError ?ss_TooLarge_TooLarge ?sv_TooLarge ?xn ?xt ?z_ValueError ?z_abs ?z_bool ?z_dict ?z_int ?z_isinstance ?z_len ?z_list ?z_max ?z_range ?z_sorted ?z_str ?z_tuple ?y_CLASH_START ?y_CLASH_BASE ?y_CLASH_OTHER ?y_CLASH_END ?y_MERGED_PATHS ?y_MERGED_LINES
    (case a1 => k_is)
    (case l1 => k_is)
    (case c1 => k_is)
    (case k1 => k_is)
    (case a2 => k_is)
    (case l2 => k_is)
    (case c2 => k_is)
    (case k2 => k_is)
    (case a3 => k_is)
    (case l3 => k_is)
    (case c3 => k_is)
    (case k3 => k_is)
    (case a4 => k_is)
    (case l4 => k_is)
    (case c4 => k_is)
    (case k4 => k_is)
    (case a5 => k_is)
    (case l5 => k_is)
    (case c5 => k_is)
    (case k5 => k_is)
    (case a6 => k_is)
    (case l6 => k_is)
    (case c6 => k_is)
    (case k6 => k_is)
    (case a7 => k_is)
    (case l7 => k_is)
    (case c7 => k_is)
    (case k7 => k_is)
    (case a8 => k_is)
    (case l8 => k_is)
    (case c8 => k_is)
    (case k8 => k_is)
    (case a9 => k_is)
    (case l9 => k_is)
    (case c9 => k_is)
    (case k9 => k_is)
    (case a10 => k_is)
    (case l10 => k_is)
    (case c10 => k_is)
    (case k10 => k_is)
    (case a11 => k_is)
    (case l11 => k_is)
    (case c11 => k_is)
    (case k11 => k_is)
    (case a12 => k_is)
    (case l12 => k_is)
    (case c12 => k_is)
    (case k12 => k_is)
    (case a13 => k_is)
    (case l13 => k_is)
    (case c13 => k_is)
    (case k13 => k_is)
    (case a14 => k_is)
    (case l14 => k_is)
    (case c14 => k_is)
    (case k14 => k_is)
    (case a15 => k_is)
    (case l15 => k_is)
    (case c15 => k_is)
    (case k15 => k_is)
    (case a16 => k_is)
    (case l16 => k_is)
    (case c16 => k_is)
    (case k16 => k_is)
    (case a17 => k_is)
    (case l17 => k_is)
    (case c17 => k_is)
    (case k17 => k_is)
    (case a18 => k_is)
    (case l18 => k_is)
    (case c18 => k_is)
    (case k18 => k_is)
    (case a19 => k_is)
    (case l19 => k_is)
    (case c19 => k_is)
    (case k19 => k_is)
    (case a20 => k_is)
    (case l20 => k_is)
    (case c20 => k_is)
    (case k20 => k_is)
    (case a21 => k_is)
    (case l21 => k_is)
    (case c21 => k_is)
    (case k21 => k_is)
    (case a22 => k_is)
    (case l22 => k_is)
    (case c22 => k_is)
    (case k22 => k_is)
    (case a23 => k_is)
    (case l23 => k_is)
    (case c23 => k_is)
    (case k23 => k_is)
    (case ac_PartError => k_is)
    (case ec_PartError => k_is)
    (case tc_PartError => k_is)
    (case ic_PartError => k_is)
    (case ac_BadTree => k_is)
    (case ec_BadTree => k_is)
    (case tc_BadTree => k_is)
    (case ic_BadTree => k_is)
    (case ac_TooLarge => k_is)
    (case ec_TooLarge => k_is)
    (case tc_TooLarge => k_is)
    (case ic_TooLarge => k_is)
    (case xL_TooLarge => k_is)
    (case sa_TooLarge => k_is)
    (case ga_TooLarge => k_is)
    (case gg_TooLarge => k_is)
    (case gk_TooLarge => k_is)
    (case gm_TooLarge => k_is)
    (case n_path_TooLarge => k_is)
    (case ai_TooLarge => k_is)
    (case ti_TooLarge => k_is)
    (case li_TooLarge => k_is)
    (case ci_TooLarge => k_is)
    (case ki_TooLarge => k_is)
    (case kc_TooLarge => k_is)
    (case hc_TooLarge => k_is)
    (case ss_TooLarge_BadTree => k_is)
    (case ss_TooLarge_PartError => k_is)
    (case ss_TooLarge_TooLarge => k_is)
    (case sv_TooLarge => k_is)
    (case xn => k_is)
    (case xt => k_is)
    (case z_ValueError => k_is)
    (case z_abs => k_is)
    (case z_bool => k_is)
    (case z_dict => k_is)
    (case z_int => k_is)
    (case z_isinstance => k_is)
    (case z_len => k_is)
    (case z_list => k_is)
    (case z_max => k_is)
    (case z_range => k_is)
    (case z_sorted => k_is)
    (case z_str => k_is)
    (case z_tuple => k_is)
    (case y_CLASH_START => k_is)
    (case y_CLASH_BASE => k_is)
    (case y_CLASH_OTHER => k_is)
    (case y_CLASH_END => k_is)
    (case y_MERGED_PATHS => k_is)
    (case y_MERGED_LINES => k_is)

