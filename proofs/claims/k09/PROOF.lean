import PyProof.Rows.All
import Wide.All
import OpenK.AllK
import Wide.FinOn
import HandS.ForMost
import HandS.Small
import HandS.Style
import HandS.Flow
import HandS.Deep
import HandS.IsInst
import HandS.More
import HandS.Star
import HandS.TupAny
import KE.KExcIs
import HandS.ExcCtx
import HandS.ExcInit
import HandS.ExcField
import HandS.HotCalls
import HandS.Wide
import HandS.Strs
import HandS.SetKeys
import HandS.Text
import HandS.Iter
import HandS.WideBits
import HandS.Dict
import HandS.WordsDict
import HandS.Conv
import HandS.List
import HandS.SetBool
import HandS.DictComp
import HandS.ListItems
import HandS.Ends
import PySem.Challenge.RW_partclones_k09_merge_trees
set_option Elab.async false
set_option linter.all false
set_option maxRecDepth 100000
namespace Qk
open PySem PySem.Spec PyProof.Rows L2

/-! ### heaps -/
abbrev Own := List (Addr × HO)
structure Has (F : Hp) (O : Own) (H : Hp) : Prop where
  same : Same F H
  own : ∀ p ∈ O, F p.1 = none ∧ H p.1 = some p.2
  nd : (O.map (·.1)).Nodup

/-- O with the object at a changed from o to o' -/
inductive Chg : Own → Addr → HO → HO → Own → Prop
  | hd {a : Addr} {o o' : HO} {O : Own} : Chg ((a, o) :: O) a o o' ((a, o') :: O)
  | tl {a : Addr} {o o' : HO} {O O' : Own} {x : Addr × HO} : Chg O a o o' O' → Chg (x :: O) a o o' (x :: O')
theorem Chg.mem {O O' : Own} {a : Addr} {o o' : HO} (c : Chg O a o o' O') : (a, o) ∈ O := by
  induction c with
  | hd => exact List.Mem.head _
  | tl _ ih => exact List.Mem.tail _ ih
theorem Chg.fst {O O' : Own} {a : Addr} {o o' : HO} (c : Chg O a o o' O') : O'.map (·.1) = O.map (·.1) := by
  induction c with
  | hd => rfl
  | tl _ ih => rw [List.map_cons, List.map_cons, ih]
theorem Chg.own {O O' : Own} {a : Addr} {o o' : HO} (c : Chg O a o o' O') (nd : (O.map (·.1)).Nodup) : ∀ p ∈ O', p = (a, o') ∨ (p ∈ O ∧ p.1 ≠ a) := by
  induction c with
  | @hd a o o' O =>
    intro p hp
    rw [List.map_cons] at nd
    have nm := (List.nodup_cons.mp nd).1
    rcases List.mem_cons.mp hp with e | hp
    · exact .inl e
    · refine .inr ⟨List.mem_cons_of_mem _ hp, fun e => nm ?_⟩
      exact List.mem_map.mpr ⟨p, hp, e⟩
  | @tl a o o' O O' x c ih =>
    intro p hp
    rw [List.map_cons] at nd
    have nm := List.nodup_cons.mp nd
    rcases List.mem_cons.mp hp with e | hp
    · subst e
      refine .inr ⟨List.mem_cons_self, fun e => nm.1 ?_⟩
      rw [e]
      exact List.mem_map.mpr ⟨_, c.mem, rfl⟩
    · rcases ih nm.2 p hp with e | ⟨e, ne⟩
      · exact .inl e
      · exact .inr ⟨List.mem_cons_of_mem _ e, ne⟩

section
variable {F F' : Hp} {O O' : Own} {H H' : Hp} {a p : Addr} {o o' : HO} {K : PySem.W.Frag} {xs : List V}
theorem Has.start (H : Hp) : Has H [] H := ⟨Same.refl H, fun _ h => (List.not_mem_nil h).elim, List.nodup_nil⟩
theorem Has.get (h : Has F O H) (m : (a, o) ∈ O) : H a = some o := (h.own _ m).2
theorem Has.but (h : Has F O H) (c : Chg O a o o' O') (s : ∀ b u, b ≠ a → H b = some u → H' b = some u) (e : H' a = some o') : Has F O' H' := by
  have fa : F a = none := (h.own _ c.mem).1
  refine ⟨fun b u q => s b u (fun z => by rw [z, fa] at q; cases q) (h.same b u q), fun q hq => ?_, by rw [c.fst]; exact h.nd⟩
  rcases c.own h.nd q hq with rfl | ⟨m, ne⟩
  · exact ⟨fa, e⟩
  · exact ⟨(h.own _ m).1, s _ _ ne (h.own _ m).2⟩
theorem Has.put (h : Has F O H) (c : Chg O a o o' O') : Has F O' (upd H a o') := h.but c (fun b u ne q => by rw [upd_ne ne]; exact q) upd_same
theorem Has.on (h : Has F O H) (s : Same H H') : Has F O H' := ⟨h.same.trans s, fun q hq => ⟨(h.own q hq).1, s _ _ (h.own q hq).2⟩, h.nd⟩
theorem Has.made (h : Has F O H) (n : H p = none) (s : Same H H') (e : H' p = some o) : Has F ((p, o) :: O) H' := by
  refine ⟨h.same.trans s, fun q hq => ?_, ?_⟩
  · rcases List.mem_cons.mp hq with rfl | hq
    · exact ⟨h.same.free n, e⟩
    · exact ⟨(h.own q hq).1, s _ _ (h.own q hq).2⟩
  · rw [List.map_cons]
    refine List.nodup_cons.mpr ⟨fun m => ?_, h.nd⟩
    obtain ⟨q, hq, e'⟩ := List.mem_map.mp m
    have z := (h.own q hq).2
    rw [e', n] at z
    cases z
theorem same_upd (n : H p = none) : Same H (upd H p o) := fun b u q => by
  rw [upd_ne (ne_of_none q n)]
  exact q
theorem Has.new (h : Has F O H) (n : H p = none) : Has F ((p, o) :: O) (upd H p o) := h.made n (same_upd n) upd_same
theorem Has.drop {x : Addr × HO} (h : Has F (x :: O) H) : Has F O H := ⟨h.same, fun q hq => h.own q (List.mem_cons_of_mem _ hq), (List.nodup_cons.mp (by have := h.nd; rw [List.map_cons] at this; exact this)).2⟩
theorem Has.sub (h : Has F O H) (s : O'.Sublist O) : Has F O' H := ⟨h.same, fun q hq => h.own q (s.subset hq), (s.map _).nodup h.nd⟩
theorem Has.perm (h : Has F O H) (s : O'.Perm O) : Has F O' H := ⟨h.same, fun q hq => h.own q (s.subset hq), (s.map _).nodup_iff.mpr h.nd⟩
/-- the first owned object stands still from now on -/
theorem Has.frz (h : Has F ((p, o) :: O) H) : Has (upd F p o) O H := by
  have hp := h.own (p, o) List.mem_cons_self
  have nd : p ∉ O.map (·.1) ∧ (O.map (·.1)).Nodup := List.nodup_cons.mp (by have := h.nd; rw [List.map_cons] at this; exact this)
  refine ⟨fun b u q => ?_, fun q hq => ⟨?_, (h.own q (List.mem_cons_of_mem _ hq)).2⟩, nd.2⟩
  · by_cases e : b = p
    · subst e
      rw [upd_same] at q
      cases q
      exact hp.2
    · rw [upd_ne e] at q
      exact h.same b u q
  · rw [upd_ne (fun z => nd.1 (List.mem_map.mpr ⟨q, hq, z⟩))]
    exact (h.own q (List.mem_cons_of_mem _ hq)).1
theorem Has.free (h : Has F ((p, o) :: O) H) : F p = none := (h.own _ List.mem_cons_self).1
theorem Has.grow (h : Has F ((p, o) :: O) H) : Same F (upd F p o) := same_upd h.free
/-- all stands still from now on -/
theorem Has.all (h : Has F O H) : Has H [] H := Has.start H
/-- F grown by what O knows nothing of -/
theorem Has.up (h : Has F O H) (s2 : Same F' H') (s : Same H H') (d : ∀ p ∈ O, F' p.1 = none) : Has F' O H' :=
  ⟨s2, fun q hq => ⟨d q hq, s _ _ (h.own q hq).2⟩, h.nd⟩
theorem Has.sqO (h : Has F O H) (m : (a, .lst xs) ∈ O) : SqL K H a xs := SqL.of (h.get m)
theorem Has.sqF (h : Has F O H) (m : SqL K F a xs) : SqL K H a xs := h.same.seq m
theorem Same.tup {K : PySem.W.Frag} (e : Same H H') (h : SqT K H a xs) : SqT K H' a xs := by
  rcases h with (h | ⟨o, h⟩) | h
  · exact .inl (.inl (e _ _ h))
  · exact .inl (.inr ⟨o, e _ _ h⟩)
  · exact .inr h
theorem Has.stF (h : Has F O H) (m : SqT K F a xs) : SqT K H a xs := Same.tup h.same m
theorem Has.stO (h : Has F O H) (m : (a, .tup xs) ∈ O) : SqT K H a xs := SqT.of (h.get m)
end

/-! ### data -/
mutual
inductive Dq (H : Hp) : V → PyData → Prop
  | non : Dq H .non .none
  | bl (b : Bool) : Dq H (.bl b) (.bool b)
  | int (i : Int) : Dq H (.int i) (.int i)
  | str (x : Str) : Dq H (.str x) (.str x)
  | lst {a : Addr} {xs : List V} {ds : List PyData} : H a = some (.lst xs) → DqAll H xs ds → Dq H (.ref a) (.list ds)
  | tup {a : Addr} {xs : List V} {ds : List PyData} : H a = some (.tup xs) → DqAll H xs ds → Dq H (.ref a) (.tuple ds)
inductive DqAll (H : Hp) : List V → List PyData → Prop
  | nil : DqAll H [] []
  | cons {v : V} {vs : List V} {d : PyData} {ds : List PyData} : Dq H v d → DqAll H vs ds → DqAll H (v :: vs) (d :: ds)
end
mutual
theorem Dq.up {H H' : Hp} (e : Same H H') : ∀ (d : PyData) (v : V), Dq H v d → Dq H' v d
  | _, _, .non => .non
  | _, _, .bl b => .bl b
  | _, _, .int i => .int i
  | _, _, .str x => .str x
  | .list ds, _, .lst s a => .lst (e _ _ s) (DqAll.up e ds _ a)
  | .tuple ds, _, .tup s a => .tup (e _ _ s) (DqAll.up e ds _ a)
theorem DqAll.up {H H' : Hp} (e : Same H H') : ∀ (ds : List PyData) (vs : List V), DqAll H vs ds → DqAll H' vs ds
  | _, _, .nil => .nil
  | d :: ds, _, .cons h t => .cons (Dq.up e d _ h) (DqAll.up e ds _ t)
end
mutual
theorem Dq.dp (K : PySem.W.Frag) {H : Hp} : ∀ (d : PyData) (v : V), Dq H v d → Dp K H v d
  | _, _, .non => .non
  | _, _, .bl b => .bl b
  | _, _, .int i => .int i
  | _, _, .str x => .str x
  | .list ds, _, .lst s a => .lst (SqL.of s) (DqAll.dp K ds _ a)
  | .tuple ds, _, .tup s a => .tup (SqT.of s) (DqAll.dp K ds _ a)
theorem DqAll.dp (K : PySem.W.Frag) {H : Hp} : ∀ (ds : List PyData) (vs : List V), DqAll H vs ds → DpAll K H vs ds
  | _, _, .nil => .nil
  | d :: ds, _, .cons h t => .cons (Dq.dp K d _ h) (DqAll.dp K ds _ t)
end
theorem DqAll.len {H : Hp} : ∀ {vs : List V} {ds : List PyData}, DqAll H vs ds → vs.length = ds.length
  | _, _, .nil => rfl
  | _, _, .cons _ t => by rw [List.length_cons, List.length_cons, t.len]
theorem DqAll.get {H : Hp} : ∀ {vs : List V} {ds : List PyData} {i : Nat} {v : V}, DqAll H vs ds → vs[i]? = some v → ∃ d, ds[i]? = some d ∧ Dq H v d
  | _, _, _, _, .nil, e => by simp at e
  | _, _, 0, _, .cons h _, e => ⟨_, rfl, by have e' := Option.some.inj e; rw [← e']; exact h⟩
  | _, _, i + 1, _, .cons _ t, e => t.get (i := i) e
theorem DqAll.snoc {H : Hp} : ∀ {vs : List V} {ds : List PyData} {v : V} {d : PyData}, DqAll H vs ds → Dq H v d → DqAll H (vs ++ [v]) (ds ++ [d])
  | _, _, _, _, .nil, h => .cons h .nil
  | _, _, _, _, .cons h t, h' => .cons h (t.snoc h')
theorem DqAll.app {H : Hp} : ∀ {vs ws : List V} {ds es : List PyData}, DqAll H vs ds → DqAll H ws es → DqAll H (vs ++ ws) (ds ++ es)
  | _, _, _, _, .nil, h => h
  | _, _, _, _, .cons h t, h' => .cons h (t.app h')
theorem DqAll.rev {H : Hp} : ∀ {vs : List V} {ds : List PyData}, DqAll H vs ds → DqAll H vs.reverse ds.reverse
  | _, _, .nil => .nil
  | _, _, .cons h t => by
    rw [List.reverse_cons, List.reverse_cons]
    exact t.rev.snoc h
theorem DqAll.strs {H : Hp} : ∀ (xs : List Str), DqAll H (xs.map V.str) (xs.map PyData.str)
  | [] => .nil
  | x :: xs => .cons (.str x) (DqAll.strs xs)
theorem DqAll.ints {H : Hp} : ∀ (xs : List Int), DqAll H (xs.map V.int) (xs.map PyData.int)
  | [] => .nil
  | x :: xs => .cons (.int x) (DqAll.ints xs)
theorem DqAll.of_strs {H : Hp} : ∀ {vs : List V} {xs : List Str}, DqAll H vs (xs.map PyData.str) → vs = xs.map V.str
  | _, [], .nil => rfl
  | _, x :: xs, .cons h t => by
    cases h
    rw [List.map_cons, t.of_strs]
theorem Dq.of_strs {H : Hp} {v : V} {xs : List Str} (h : Dq H v (.list (xs.map PyData.str))) : ∃ a, v = .ref a ∧ H a = some (.lst (xs.map V.str)) := by
  cases h with
  | lst s a =>
    rw [a.of_strs] at s
    exact ⟨_, rfl, s⟩
theorem Dq.strs {H : Hp} {a : Addr} {xs : List Str} (h : H a = some (.lst (xs.map V.str))) : Dq H (.ref a) (.list (xs.map PyData.str)) := .lst h (DqAll.strs xs)
theorem Dq.ints {H : Hp} {a : Addr} {xs : List Int} (h : H a = some (.lst (xs.map V.int))) : Dq H (.ref a) (.list (xs.map PyData.int)) := .lst h (DqAll.ints xs)
theorem Has.gF {F : Hp} {O : Own} {H : Hp} {a : Addr} {o : HO} (h : Has F O H) (e : F a = some o) : H a = some o := h.same _ _ e
theorem Has.dq {F : Hp} {O : Own} {H : Hp} (h : Has F O H) {v : V} {d : PyData} (p : Dq F v d) : Dq H v d := p.up h.same d v

/-! ### == of data -/
theorem eqvAll_strs : ∀ xs ys : List Str, PyData.eqvAll (xs.map PyData.str) (ys.map PyData.str) = decide (xs = ys)
  | [], [] => by simp [PyData.eqvAll]
  | [], y :: ys => by simp [PyData.eqvAll]
  | x :: xs, [] => by simp [PyData.eqvAll]
  | x :: xs, y :: ys => by
    rw [List.map_cons, List.map_cons, PyData.eqvAll, eqvAll_strs xs ys, PyData.eqv]
    by_cases h : x = y
    · subst h; simp
    · simp [h]
theorem eqv_strs (xs ys : List Str) : PyData.eqv (.list (xs.map PyData.str)) (.list (ys.map PyData.str)) = decide (xs = ys) := by
  rw [PyData.eqv, eqvAll_strs]
theorem eqvAll_ints : ∀ xs ys : List Int, PyData.eqvAll (xs.map PyData.int) (ys.map PyData.int) = decide (xs = ys)
  | [], [] => by simp [PyData.eqvAll]
  | [], y :: ys => by simp [PyData.eqvAll]
  | x :: xs, [] => by simp [PyData.eqvAll]
  | x :: xs, y :: ys => by
    rw [List.map_cons, List.map_cons, PyData.eqvAll, eqvAll_ints xs ys, PyData.eqv]
    by_cases h : x = y
    · subst h; simp
    · simp [h]
theorem eqv_ints (xs ys : List Int) : PyData.eqv (.list (xs.map PyData.int)) (.list (ys.map PyData.int)) = decide (xs = ys) := by
  rw [PyData.eqv, eqvAll_ints]
theorem canLayAll_mem : ∀ {ds : List PyData}, (∀ d ∈ ds, d.canLay0 = true) → PyData.canLayAll0 ds = true
  | [], _ => rfl
  | d :: ds, h => by
    rw [PyData.canLayAll0, h d List.mem_cons_self, canLayAll_mem fun x hx => h x (List.mem_cons_of_mem _ hx)]
    rfl
theorem depthAll_le {n : Nat} : ∀ {ds : List PyData}, (∀ d ∈ ds, d.depth ≤ n) → PyData.depthAll ds ≤ n
  | [], _ => Nat.zero_le _
  | d :: ds, h => by
    rw [PyData.depthAll]
    exact Nat.max_le.mpr ⟨h d List.mem_cons_self, depthAll_le fun x hx => h x (List.mem_cons_of_mem _ hx)⟩
/-- data of depth n that can be compared -/
def Sh (n : Nat) (d : PyData) : Prop := d.canLay0 = true ∧ d.depth ≤ n
theorem Sh.list {n : Nat} {ds : List PyData} (h : ∀ d ∈ ds, Sh n d) : Sh (n + 1) (.list ds) := by
  refine ⟨?_, ?_⟩
  · rw [PyData.canLay0]
    exact canLayAll_mem fun d hd => (h d hd).1
  · rw [PyData.depth]
    have := depthAll_le (n := n) fun d hd => (h d hd).2
    omega
theorem Sh.tuple {n : Nat} {ds : List PyData} (h : ∀ d ∈ ds, Sh n d) : Sh (n + 1) (.tuple ds) := by
  refine ⟨?_, ?_⟩
  · rw [PyData.canLay0]
    exact canLayAll_mem fun d hd => (h d hd).1
  · rw [PyData.depth]
    have := depthAll_le (n := n) fun d hd => (h d hd).2
    omega
theorem Sh.ok {n : Nat} {d : PyData} (h : Sh n d) (hn : n ≤ 64) : SeqAt.shaped d = true := by
  unfold SeqAt.shaped
  rw [h.1, Bool.true_and]
  exact decide_eq_true (Nat.le_trans h.2 hn)
theorem Sh.int {n : Nat} (i : Int) : Sh n (.int i) := ⟨rfl, Nat.zero_le _⟩
theorem Sh.non {n : Nat} : Sh n .none := ⟨rfl, Nat.zero_le _⟩
theorem Sh.bl {n : Nat} (b : Bool) : Sh n (.bool b) := ⟨rfl, Nat.zero_le _⟩
theorem Sh.str {n : Nat} {x : Str} (h : PyData.strOk x = true) : Sh n (.str x) := ⟨h, Nat.zero_le _⟩
theorem Sh.strs {n : Nat} {xs : List Str} (h : ∀ x ∈ xs, PyData.strOk x = true) : Sh (n + 1) (.list (xs.map PyData.str)) := Sh.list fun d hd => by
  obtain ⟨x, hx, rfl⟩ := List.mem_map.mp hd
  exact Sh.str (h x hx)
theorem Sh.ints {n : Nat} {xs : List Int} : Sh (n + 1) (.list (xs.map PyData.int)) := Sh.list fun d hd => by
  obtain ⟨x, hx, rfl⟩ := List.mem_map.mp hd
  exact Sh.int x

/-! ### readings, in order -/
def kB (x : V) (H : Hp) (R : Bool → Hp → Prop) : Prop := ∃ k, x = .bl k ∧ R k H
def kTup (xs : List V) (H : Hp) (Q : VK) : Prop := xs.length ≤ sizeLine ∧ ∀ p, H p = none → Q (.ref p) (upd H p (.tup xs))
def kLst (xs : List V) (H : Hp) (Q : VK) : Prop := xs.length ≤ sizeLine ∧ ∀ p, H p = none → Q (.ref p) (upd H p (.lst xs))
def kBM (K : PySem.W.Frag) (T : String) (r : V → List V → Hp → VK → Prop) (t : TA) (σ : L2.St) (x : V) (H : Hp) (Q : VK) : Prop := tyV K T x H ∧ t σ H fun xs H2 => r x xs H2 Q
section
variable {K : PySem.W.Frag} {σ : L2.St} {F : Hp} {O O' : Own} {H : Hp} {Q : VK} {ta tb tc te : TE} {x y v : V} {D : Ends} {t1 t2 : TS}
theorem g_var {i : Nat} (h : σ[i]? = some (some v)) (q : Q v H) : tVar i σ H Q := ⟨v, h, q⟩
theorem g_c (q : Q v H) : tC v σ H Q := q
theorem g_op {r : R2} (q : ta σ H fun x H1 => tb σ H1 fun y H2 => r x y H2 Q) : tOp r ta tb σ H Q := q
theorem g_un {r : V → Hp → VK → Prop} (q : ta σ H fun x H1 => r x H1 Q) : tUn r ta σ H Q := q
theorem g_cons {tr : TA} {QA : List V → Hp → Prop} (q : ta σ H fun x H1 => tr σ H1 fun xs H2 => QA (x :: xs) H2) : tCons ta tr σ H QA := q
theorem g_nil {QA : List V → Hp → Prop} (q : QA [] H) : tNil σ H QA := q
theorem g_cb {r : List V → Hp → VK → Prop} {t : TA} (q : t σ H fun vs H1 => r vs H1 Q) : tCB r t σ H Q := q
theorem g_call {sp : Sp} {E : XK} {t : TA} (q : t σ H fun vs H1 => sp vs H1 Q E) : tCall sp [] E t σ H Q := by
  unfold tCall
  simp only [List.append_nil]
  exact q
theorem g_tup {t : TA} (q : t σ H fun xs H1 => kTup xs H1 Q) : tTup t σ H Q := q
theorem g_lst {t : TA} (q : t σ H fun xs H1 => kLst xs H1 Q) : tLst t σ H Q := q
theorem g_bm {T : String} {r : V → List V → Hp → VK → Prop} {t : TA} (q : ta σ H fun x H1 => kBM K T r t σ x H1 Q) : tBM K T r ta t σ H Q := q
theorem g_bm0 {T : String} {r : V → List V → Hp → VK → Prop} (q : ta σ H fun x H1 => kBM K T r tNil σ x H1 Q) : tBM0 K T r ta σ H Q := q
theorem g_kbm {r : V → List V → Hp → VK → Prop} {t : TA} {a : Addr} {xs : List V} (h : H a = some (.lst xs)) (q : t σ H fun vs H2 => r (.ref a) vs H2 Q) : kBM K "list" r t σ (.ref a) H Q := ⟨.inl ⟨rfl, _, SqL.of h⟩, q⟩
theorem g_ktup {xs : List V} (hl : xs.length ≤ sizeLine) (hH : Has F O H) (q : ∀ p H', H p = none → Has F ((p, .tup xs) :: O) H' → Q (.ref p) H') : kTup xs H Q := ⟨hl, fun p n => q p _ n (hH.new n)⟩
theorem g_klst {xs : List V} (hl : xs.length ≤ sizeLine) (hH : Has F O H) (q : ∀ p H', H p = none → Has F ((p, .lst xs) :: O) H' → Q (.ref p) H') : kLst xs H Q := ⟨hl, fun p n => q p _ n (hH.new n)⟩
/-- a tuple that stands still at once -/
theorem g_ktupF {xs : List V} (hl : xs.length ≤ sizeLine) (hH : Has F O H) (q : ∀ p H' F', H p = none → Same F F' → F' p = some (.tup xs) → Has F' O H' → Q (.ref p) H') : kTup xs H Q :=
  ⟨hl, fun p n => q p _ (upd F p (.tup xs)) n (same_upd (hH.same.free n)) upd_same (hH.new n).frz⟩
theorem g_klstF {xs : List V} (hl : xs.length ≤ sizeLine) (hH : Has F O H) (q : ∀ p H' F', H p = none → Same F F' → F' p = some (.lst xs) → Has F' O H' → Q (.ref p) H') : kLst xs H Q :=
  ⟨hl, fun p n => q p _ (upd F p (.lst xs)) n (same_upd (hH.same.free n)) upd_same (hH.new n).frz⟩
theorem g_seq (h : t1 { D with nx := t2 D } σ H) : tSeq t1 t2 D σ H := h
theorem g_asg {g : TG} (q : te σ H fun x H1 => g x σ H1 D.nx) : tAsg te g D σ H := q
theorem g_name {i : Nat} {R : L2.St → Hp → Prop} (q : R (σ.set i (some v)) H) : gName i v σ H R := q
theorem g_drop (q : te σ H fun _ H1 => D.nx σ H1) : tDrop te D σ H := q
theorem g_ret (q : te σ H fun x H1 => D.rt x H1) : tRet te D σ H := q
theorem g_retN (q : D.rt .non H) : tRetN D σ H := q
theorem g_next (q : D.nx σ H) : tNext D σ H := q
theorem g_brk (q : D.bk σ H) : tBreak D σ H := q
theorem g_cont (q : D.ct σ H) : tCont D σ H := q
theorem g_if {c : TT} (q : c σ H fun b H1 => if b = true then t1 D σ H1 else t2 D σ H1) : tIfS c t1 t2 D σ H := q
theorem g_aug {i : Nat} {ti : TIp} (h : σ[i]? = some (some x)) (q : te σ H fun y H1 => ti x y H1 fun z H2 => D.nx (σ.set i (some z)) H2) : tAug i te ti D σ H := ⟨x, h, q⟩
theorem g_ipI {f : Int → Int → Int} {i j : Int} (q : Q (.int (f i j)) H) : ipI f (.int i) (.int j) H Q := ⟨i, j, rfl, rfl, q⟩
theorem g_test {R : Bool → Hp → Prop} (q : te σ H fun x H1 => kB x H1 R) : tTest te σ H R := q
theorem g_tB {R : Bool → Hp → Prop} (q : te σ H fun x H1 => kB x H1 R) : tB te σ H R := q
theorem g_kB {b : Bool} {R : Bool → Hp → Prop} (q : R b H) : kB (.bl b) H R := ⟨b, rfl, q⟩
theorem g_not {t : TT} {R : Bool → Hp → Prop} (q : t σ H fun c H1 => R (!c) H1) : tNot t σ H R := q
theorem g_and {t u : TT} {R : Bool → Hp → Prop} (q : t σ H fun c H1 => if c = true then u σ H1 R else R false H1) : tAnd t u σ H R := q
theorem g_or {t u : TT} {R : Bool → Hp → Prop} (q : t σ H fun c H1 => if c = true then R true H1 else u σ H1 R) : tOr t u σ H R := q
theorem g_andV (q : ta σ H fun x H1 => kB x H1 fun c H2 => if c = true then tb σ H2 Q else Q (.bl false) H2) : tAndV ta tb σ H Q := q
theorem g_orV (q : ta σ H fun x H1 => kB x H1 fun c H2 => if c = true then Q (.bl true) H2 else tb σ H2 Q) : tOrV ta tb σ H Q := q
theorem g_notV (q : ta σ H fun x H1 => kB x H1 fun c H2 => Q (.bl (!c)) H2) : tNotV ta σ H Q := q
theorem g_ifE {t : TT} (q : t σ H fun c H1 => if c = true then ta σ H1 Q else tb σ H1 Q) : tIf t ta tb σ H Q := q
theorem i_d {c A B : Prop} [Decidable c] (h1 : c → A) (h2 : ¬ c → B) : if decide c = true then A else B := by
  by_cases h : c
  · rw [if_pos (decide_eq_true h)]
    exact h1 h
  · rw [if_neg (by rw [decide_eq_false h]; exact Bool.false_ne_true)]
    exact h2 h
theorem i_n {c A B : Prop} [Decidable c] (h1 : ¬ c → A) (h2 : c → B) : if (!decide c) = true then A else B := by
  by_cases h : c
  · rw [decide_eq_true h, if_neg (by decide)]
    exact h2 h
  · rw [decide_eq_false h, if_pos (by decide)]
    exact h1 h
theorem i_b {b : Bool} {A B : Prop} (h1 : b = true → A) (h2 : b = false → B) : if b = true then A else B := by
  cases b with
  | true => rw [if_pos rfl]; exact h1 rfl
  | false => rw [if_neg Bool.false_ne_true]; exact h2 rfl
theorem i_nb {b : Bool} {A B : Prop} (h1 : b = false → A) (h2 : b = true → B) : if (!b) = true then A else B := by
  cases b with
  | false =>
    show (if true = true then A else B)
    rw [if_pos rfl]
    exact h1 rfl
  | true =>
    show (if false = true then A else B)
    rw [if_neg Bool.false_ne_true]
    exact h2 rfl
/-- a test by its answer -/
theorem g_bool {t : TT} {R : Bool → Hp → Prop} (b : Bool) (h : ∀ R : Bool → Hp → Prop, R b H → t σ H R) (q : R b H) : t σ H R := h R q

/-! ### operators -/
def rAdd (K : PySem.W.Frag) : R2 := fun x y H Q => (rI0 (fun i j => .int (i + j)) x y H Q ∨ ∃ i j, x = .str i ∧ y = .str j ∧ i.length + j.length ≤ sizeLine ∧ Q (.str (i ++ j)) H) ∨ rCat x y H Q ∨ rCatA K x y H Q
theorem g_addI {i j : Int} (q : Q (.int (i + j)) H) : rAdd K (.int i) (.int j) H Q := .inl (.inl ⟨i, j, rfl, rfl, q⟩)
theorem g_addS {i j : Str} (hl : i.length + j.length ≤ sizeLine) (q : Q (.str (i ++ j)) H) : rAdd K (.str i) (.str j) H Q := .inl (.inr ⟨i, j, rfl, rfl, hl, q⟩)
theorem g_addL {a b : Addr} {xs ys : List V} (h1 : H a = some (.lst xs)) (h2 : H b = some (.lst ys)) (hl : xs.length + ys.length ≤ sizeLine) (hH : Has F O H) (q : ∀ p H', H p = none → Has F ((p, .lst (xs ++ ys)) :: O) H' → Q (.ref p) H') : rAdd K (.ref a) (.ref b) H Q :=
  .inr (.inl ⟨a, b, xs, ys, rfl, rfl, h1, h2, hl, fun p n => q p _ n (hH.new n)⟩)
theorem g_rI0 {g : Int → Int → V} {i j : Int} (q : Q (g i j) H) : rI0 g (.int i) (.int j) H Q := ⟨i, j, rfl, rfl, q⟩
theorem g_rI {C : Int → Int → Prop} {g : Int → Int → V} {i j : Int} (hc : C i j) (q : Q (g i j) H) : rI C g (.int i) (.int j) H Q := ⟨i, j, rfl, rfl, hc, q⟩
theorem g_rU {g : Int → V} {i : Int} (q : Q (g i) H) : rU g (.int i) H Q := ⟨i, rfl, q⟩
def rMul : R2 := fun x y H Q => rI CMul (fun i j => .int (i * j)) x y H Q ∨ rRep x y H Q
theorem g_mulI {i j : Int} (hc : CMul i j) (q : Q (.int (i * j)) H) : rMul (.int i) (.int j) H Q := .inl ⟨i, j, rfl, rfl, hc, q⟩
theorem g_mulL {a : Addr} {k : Int} {xs : List V} (h : H a = some (.lst xs)) (h1 : -(2 ^ 63) ≤ k) (h2 : k < 2 ^ 63) (hl : xs.length * k.toNat ≤ sizeLine) (hH : Has F O H)
    (q : ∀ p H', H p = none → Has F ((p, .lst (List.replicate k.toNat xs).flatten) :: O) H' → Q (.ref p) H') : rMul (.ref a) (.int k) H Q := .inr ⟨a, k, xs, rfl, rfl, h, h1, h2, hl, fun p n => q p _ n (hH.new n)⟩
def rEqA (K : PySem.W.Frag) : R2 := fun x y H Q => rEq x y H Q ∨ rEqD K x y H Q
def rNeA (K : PySem.W.Frag) : R2 := fun x y H Q => rNe x y H Q ∨ rNeD K x y H Q
theorem g_eqI {i j : Int} (q : Q (.bl (decide (i = j))) H) : rEqA K (.int i) (.int j) H Q := .inl ⟨rfl, by rw [dec_int, Bool.beq_eq_decide_eq]; exact q⟩
theorem g_eqS {i j : Str} (q : Q (.bl (decide (i = j))) H) : rEqA K (.str i) (.str j) H Q := .inl ⟨rfl, by rw [dec_str, Bool.beq_eq_decide_eq]; exact q⟩
theorem g_neI {i j : Int} (q : Q (.bl (!decide (i = j))) H) : rNeA K (.int i) (.int j) H Q := .inl ⟨rfl, by rw [dec_int, Bool.beq_eq_decide_eq]; exact q⟩
theorem g_neS {i j : Str} (q : Q (.bl (!decide (i = j))) H) : rNeA K (.str i) (.str j) H Q := .inl ⟨rfl, by rw [dec_str, Bool.beq_eq_decide_eq]; exact q⟩
theorem g_eqD {d e : PyData} (hx : Dq H x d) (hy : Dq H y e) (sd : SeqAt.shaped d = true) (se : SeqAt.shaped e = true) (q : Q (.bl (PyData.eqv d e)) H) : rEqA K x y H Q := .inr ⟨d, e, hx.dp K d x, hy.dp K e y, sd, se, q⟩
theorem g_neD {d e : PyData} (hx : Dq H x d) (hy : Dq H y e) (sd : SeqAt.shaped d = true) (se : SeqAt.shaped e = true) (q : Q (.bl (!PyData.eqv d e)) H) : rNeA K x y H Q := .inr ⟨d, e, hx.dp K d x, hy.dp K e y, sd, se, q⟩
def rIsN : R2 := fun x y H Q => y = .non ∧ Q (.bl (decide (x = .non))) H
def rNotN : R2 := fun x y H Q => y = .non ∧ Q (.bl (!decide (x = .non))) H
theorem g_isN (q : Q (.bl (decide (x = .non))) H) : rIsN x .non H Q := ⟨rfl, q⟩
theorem g_notN (q : Q (.bl (!decide (x = .non))) H) : rNotN x .non H Q := ⟨rfl, q⟩
def rIxD : R2 := fun x y H Q => ∃ a v, x = .ref a ∧ DGet H a y (some v) ∧ Q v H
def rIxA (K : PySem.W.Frag) : R2 := fun x y H Q => rIx K x y H Q ∨ rIxD x y H Q
theorem g_ixL {a : Addr} {xs : List V} {i : Int} (h : H a = some (.lst xs)) (ha : atI xs i = some v) (q : Q v H) : rIxA K (.ref a) (.int i) H Q := .inl <| .inl ⟨a, xs, i, v, rfl, rfl, SqL.of h, ha, q⟩
theorem g_ixT {a : Addr} {xs : List V} {i : Int} (h : H a = some (.tup xs)) (ha : atI xs i = some v) (q : Q v H) : rIxA K (.ref a) (.int i) H Q := .inl (.inr (.inl ⟨a, xs, i, v, rfl, rfl, SqT.of h, ha, q⟩))
theorem g_ixS {z : Str} {i : Int} {c : Nat} (hl : z.length ≤ sizeLine) (ha : atI z.cps.toList i = some c) (q : Q (.str ⟨#[c]⟩) H) : rIxA K (.str z) (.int i) H Q := .inl (.inr (.inr ⟨z, i, c, rfl, rfl, hl, ha, q⟩))
theorem at_n {xs : List V} {i : Int} (h0 : 0 ≤ i) (h : xs[i.toNat]? = some v) : atI xs i = some v := by
  have e : i = (i.toNat : Int) := by omega
  rw [e]
  exact atI_nat h

/-! ### calls of what is built in -/
def rLen (K : PySem.W.Frag) : List V → Hp → VK → Prop := fun xs H Q => (∃ p ys, xs = [.ref p] ∧ (SqL K H p ys ∨ SqT K H p ys) ∧ Q (.int ys.length) H) ∨ ∃ z, xs = [.str z] ∧ z.length ≤ sizeLine ∧ Q (.int z.length) H
theorem g_lenL {a : Addr} {xs : List V} (h : H a = some (.lst xs)) (q : Q (.int (xs.length : Int)) H) : rLen K [.ref a] H Q := .inl ⟨a, xs, rfl, .inl (SqL.of h), q⟩
theorem g_lenT {a : Addr} {xs : List V} (h : H a = some (.tup xs)) (q : Q (.int (xs.length : Int)) H) : rLen K [.ref a] H Q := .inl ⟨a, xs, rfl, .inr (SqT.of h), q⟩
theorem g_lenS {z : Str} (h : z.length ≤ sizeLine) (q : Q (.int (z.length : Int)) H) : rLen K [.str z] H Q := .inr ⟨z, rfl, h, q⟩
def rInt1 : List V → Hp → VK → Prop := fun xs H Q => (∃ i, xs = [.int i] ∧ Q (.int i) H) ∨ ∃ k, xs = [.bl k] ∧ Q (.int (if k then 1 else 0)) H
theorem g_int {i : Int} (q : Q (.int i) H) : rInt1 [.int i] H Q := .inl ⟨i, rfl, q⟩
theorem g_intB {k : Bool} (q : Q (.int (if k then 1 else 0)) H) : rInt1 [.bl k] H Q := .inr ⟨k, rfl, q⟩
def rAbs1 : List V → Hp → VK → Prop := fun xs H Q => ∃ i, xs = [.int i] ∧ Q (.int (if i < 0 then -i else i)) H
theorem g_abs {i : Int} (q : ∀ j : Int, 0 ≤ j → Q (.int j) H) : rAbs1 [.int i] H Q := ⟨i, rfl, q _ (by split <;> omega)⟩
def rMax2 : List V → Hp → VK → Prop := fun xs H Q => ∃ i j, xs = [.int i, .int j] ∧ Q (.int (if j > i then j else i)) H
theorem g_max2 {i j : Int} (q : Q (.int (max i j)) H) : rMax2 [.int i, .int j] H Q := ⟨i, j, rfl, by
  have e : (if j > i then j else i) = max i j := by split <;> omega
  rw [e]
  exact q⟩
def rListOf (K : PySem.W.Frag) : List V → Hp → VK → Prop := fun xs H Q => ∃ p ys, xs = [.ref p] ∧ (SqL K H p ys ∨ SqT K H p ys) ∧ ∀ l, H l = none → Q (.ref l) (upd H l (.lst ys))
theorem g_listL {a : Addr} {xs : List V} (h : H a = some (.lst xs)) (hH : Has F O H) (q : ∀ p H', H p = none → Has F ((p, .lst xs) :: O) H' → Q (.ref p) H') : rListOf K [.ref a] H Q := ⟨a, xs, rfl, .inl (SqL.of h), fun p n => q p _ n (hH.new n)⟩
theorem g_listT {a : Addr} {xs : List V} (h : H a = some (.tup xs)) (hH : Has F O H) (q : ∀ p H', H p = none → Has F ((p, .lst xs) :: O) H' → Q (.ref p) H') : rListOf K [.ref a] H Q := ⟨a, xs, rfl, .inr (SqT.of h), fun p n => q p _ n (hH.new n)⟩
def rTupleOf (K : PySem.W.Frag) : List V → Hp → VK → Prop := fun xs H Q => ∃ p ys, xs = [.ref p] ∧ ((SqL K H p ys ∧ ∀ l, H l = none → Q (.ref l) (upd H l (.tup ys))) ∨ (SqT K H p ys ∧ Q (.ref p) H))
theorem g_tupleL {a : Addr} {xs : List V} (h : H a = some (.lst xs)) (hH : Has F O H) (q : ∀ p H' F', H p = none → Same F F' → F' p = some (.tup xs) → Has F' O H' → Q (.ref p) H') : rTupleOf K [.ref a] H Q :=
  ⟨a, xs, rfl, .inl ⟨SqL.of h, fun p n => q p _ (upd F p (.tup xs)) n (same_upd (hH.same.free n)) upd_same (hH.new n).frz⟩⟩
theorem g_tupleT {a : Addr} {xs : List V} (h : H a = some (.tup xs)) (q : Q (.ref a) H) : rTupleOf K [.ref a] H Q := ⟨a, xs, rfl, .inr ⟨SqT.of h, q⟩⟩

/-! ### methods of lists, stores -/
theorem g_append {a : Addr} {xs : List V} (hH : Has F O H) (c : Chg O a (.lst xs) (.lst (xs ++ [y])) O') (hl : xs.length < sizeLine) (q : ∀ H', Has F O' H' → Q .non H') : rAppend (.ref a) [y] H Q :=
  ⟨a, xs, y, rfl, rfl, hH.get c.mem, hl, q _ (hH.put c)⟩
theorem g_popAt {a : Addr} {xs : List V} {i : Int} {k : Nat} (hH : Has F O H) (c : Chg O a (.lst xs) (.lst (xs.eraseIdx k)) O') (h1 : -(2 ^ 63) ≤ i) (h2 : i < 2 ^ 63) (hk : seqIndex? i xs.length = some k) (hy : xs[k]? = some y)
    (q : ∀ H', Has F O' H' → Q y H') : rPopAt (.ref a) [.int i] H Q := ⟨a, xs, i, k, y, rfl, rfl, hH.get c.mem, h1, h2, hk, hy, q _ (hH.put c)⟩
theorem g_clear {a : Addr} {xs : List V} (hH : Has F O H) (c : Chg O a (.lst xs) (.lst []) O') (q : ∀ H', Has F O' H' → Q .non H') : rClear (.ref a) [] H Q := ⟨a, xs, rfl, rfl, hH.get c.mem, q _ (hH.put c)⟩
/-- o[i] = v -/
def kSet (t : TSet) (R : L2.St → Hp → Prop) (σ : L2.St) (o i v : V) (H : Hp) : Prop := t o i v H fun H3 => R σ H3
theorem g_sub {to ti : TE} {t : TSet} {R : L2.St → Hp → Prop} (q : to σ H fun o H1 => ti σ H1 fun i H2 => kSet t R σ o i v H2) : gSub to ti t v σ H R := q
theorem g_setL {R : L2.St → Hp → Prop} {a : Addr} {xs : List V} {k : Int} {j : Nat} (hH : Has F O H) (c : Chg O a (.lst xs) (.lst (xs.set j v)) O') (hj : ixN xs.length k = some j) (q : ∀ H', Has F O' H' → R σ H') : kSet rSetL R σ (.ref a) (.int k) v H :=
  ⟨a, xs, k, j, rfl, rfl, hH.get c.mem, hj, q _ (hH.put c)⟩
theorem ixN_nat {n : Nat} {k : Int} (h0 : 0 ≤ k) (h : k < n) : ixN n k = some k.toNat := by
  unfold ixN
  rw [if_pos h0, if_pos h]
/-- a, b = a tuple -/
theorem g_gtup {n : Nat} {t : TGs} {a : Addr} {xs : List V} {R : L2.St → Hp → Prop} (h : H a = some (.tup xs)) (hl : xs.length = n) (q : t xs σ H R) : gTup K n t (.ref a) σ H R := ⟨a, xs, rfl, SqT.of h, hl, q⟩
theorem g_gcons {t : TG} {u : TGs} {r : List V} {R : L2.St → Hp → Prop} (q : t v σ H fun σ' H' => u r σ' H' R) : gCons t u (v :: r) σ H R := ⟨v, r, rfl, q⟩
theorem g_gnil {R : L2.St → Hp → Prop} (q : R σ H) : gNil [] σ H R := ⟨rfl, q⟩
/-- slices -/
def kSl (r : V → Option Int → Option Int → Hp → VK → Prop) (tl th : TO) (σ : L2.St) (x : V) (H : Hp) (Q : VK) : Prop := tl σ H fun l H2 => th σ H2 fun u H3 => r x l u H3 Q
theorem g_sl {r : V → Option Int → Option Int → Hp → VK → Prop} {tl th : TO} (q : te σ H fun x H1 => kSl r tl th σ x H1 Q) : tSl r te tl th σ H Q := q
theorem g_kslN {r : V → Option Int → Option Int → Hp → VK → Prop} (q : r x none none H Q) : kSl r tNoPart tNoPart σ x H Q := q
theorem g_kslL {r : V → Option Int → Option Int → Hp → VK → Prop} {tl : TE} {i : Int} (q : tl σ H fun z H1 => ∃ i, z = .int i ∧ r x (some i) none H1 Q) : kSl r (tPart tl) tNoPart σ x H Q := q
theorem g_kslH {r : V → Option Int → Option Int → Hp → VK → Prop} {tl : TE} {i : Int} (q : tl σ H fun z H1 => ∃ i, z = .int i ∧ r x none (some i) H1 Q) : kSl r tNoPart (tPart tl) σ x H Q := q
def rRevL (K : PySem.W.Frag) (x : V) (H : Hp) (Q : VK) : Prop := ∃ a xs, x = .ref a ∧ SqL K H a xs ∧ ∀ p, H p = none → Q (.ref p) (upd H p (.lst xs.reverse))
end

/-! ### loops -/
def kW (J : It) (g : TG) (tb : TS) (D : Ends) (σ : L2.St) (H : Hp) : Prop := ∃ W : Nat → Nat → L2.St → Hp → Prop, (∃ m, W 0 m σ H) ∧ ∀ i m σ H, W i m σ H →
  (J.stop i H ∧ D.nx σ H) ∨ (J.go i H ∧ ∃ N : L2.St → Hp → Prop, (∀ σ' H', N σ' H' → ∃ m', m' < m ∧ W (i + 1) m' σ' H') ∧ ∀ x H', J.yld i H x H' → g x σ H' fun σ2 H2 => tb { D with nx := N, ct := N, bk := D.nx } σ2 H2)
def kForL (K : PySem.W.Frag) (g : TG) (tb : TS) (D : Ends) (σ : L2.St) (x : V) (H : Hp) : Prop := ∃ a, x = .ref a ∧ (∃ xs, SqL K H a xs) ∧ kW (Itl K a) g tb D σ H
def kForR1 (g : TG) (tb : TS) (D : Ends) (σ : L2.St) (vs : List V) (H : Hp) : Prop := ∃ j : Int, vs = [.int j] ∧ -(2 ^ 62) ≤ j ∧ j < 2 ^ 62 ∧ kW (Itr 0 j.toNat) g tb D σ H
def kForR2 (g : TG) (tb : TS) (D : Ends) (σ : L2.St) (vs : List V) (H : Hp) : Prop := ∃ i j : Int, vs = [.int i, .int j] ∧ (-(2 ^ 62) ≤ i ∧ i < 2 ^ 62 ∧ -(2 ^ 62) ≤ j ∧ j < 2 ^ 62) ∧ kW (Itr i (j - i).toNat) g tb D σ H
def kForR3 (g : TG) (tb : TS) (D : Ends) (σ : L2.St) (vs : List V) (H : Hp) : Prop := ∃ (i j c : Int) (n : Nat), vs = [.int i, .int j, .int c] ∧ RgC i j c n ∧ kW (Itc i c n) g tb D σ H
section
variable {K : PySem.W.Frag} {σ : L2.St} {F : Hp} {O O' : Own} {H : Hp} {Q : VK} {ta tb tc te : TE} {x y v : V} {D : Ends} {t1 t2 ts : TS} {g : TG}
theorem g_forL (q : te σ H fun x H1 => kForL K g ts D σ x H1) : tFor (iList K te) g ts D σ H := q
theorem g_forR1 {ta : TA} (q : ta σ H fun vs H1 => kForR1 g ts D σ vs H1) : tFor (iRng1 ta) g ts D σ H := q
theorem g_forR2 {ta : TA} (q : ta σ H fun vs H1 => kForR2 g ts D σ vs H1) : tFor (iRng2 ta) g ts D σ H := q
theorem g_forR3 {ta : TA} (q : ta σ H fun vs H1 => kForR3 g ts D σ vs H1) : tFor (iRng3 ta) g ts D σ H := q
theorem k_forL {a : Addr} {xs : List V} (h : H a = some (.lst xs)) (Pv : Nat → L2.St → Hp → Prop) (h0 : Pv 0 σ H) (hl : ∀ i σ H, i ≤ xs.length → Pv i σ H → H a = some (.lst xs))
    (hs : ∀ i x σ H, xs[i]? = some x → Pv i σ H → g x σ H fun σ2 H2 => ts { D with nx := Pv (i + 1), ct := Pv (i + 1), bk := D.nx } σ2 H2) (hd : ∀ σ H, Pv xs.length σ H → D.nx σ H) : kForL K g ts D σ (.ref a) H :=
  ⟨a, rfl, ⟨xs, SqL.of h⟩, for_list Pv h0 (fun i σ H hi p => SqL.of (hl i σ H hi p)) hs hd⟩
theorem k_forR1 {j : Int} (Pv : Nat → L2.St → Hp → Prop) (h1 : -(2 ^ 62) ≤ j) (h2 : j < 2 ^ 62) (h0 : Pv 0 σ H)
    (hs : ∀ i σ H, i < j.toNat → Pv i σ H → g (.int (i : Int)) σ H fun σ2 H2 => ts { D with nx := Pv (i + 1), ct := Pv (i + 1), bk := D.nx } σ2 H2) (hd : ∀ σ H, Pv j.toNat σ H → D.nx σ H) : kForR1 g ts D σ [.int j] H :=
  ⟨j, rfl, h1, h2, for_range Pv h0 (fun i σ H hi p => by rw [Int.zero_add]; exact hs i σ H hi p) hd⟩
/-- n - 1 down to 0 -/
theorem k_forDown {n : Nat} {j : Int} (hj : j = (n : Int) - 1) (hn : n < 2 ^ 60) (Pv : Nat → L2.St → Hp → Prop) (h0 : Pv n σ H)
    (hs : ∀ i σ H, i < n → Pv (i + 1) σ H → g (.int (i : Int)) σ H fun σ2 H2 => ts { D with nx := Pv i, ct := Pv i, bk := D.nx } σ2 H2) (hd : ∀ σ H, Pv 0 σ H → D.nx σ H) : kForR3 g ts D σ [.int j, .int (-1), .int (-1)] H := by
  subst hj
  have e : (((n : Int) - 1) - (-1)).toNat = n := by omega
  have rg := RgC.neg (i := (n : Int) - 1) (j := -1) (by omega) (by omega) (by decide) (by decide)
  rw [e] at rg
  refine ⟨_, _, _, n, rfl, rg, for_rangeC (fun i => Pv (n - i)) h0 (fun i σ H hi p => ?_) (fun σ H p => ?_)⟩
  · have e1 : (n : Int) - 1 + (i : Nat) * (-1) = ((n - (i + 1) : Nat) : Int) := by omega
    have e2 : n - i = (n - (i + 1)) + 1 := by omega
    rw [e1]
    have p' : Pv ((n - (i + 1)) + 1) σ H := by rw [← e2]; exact p
    exact hs _ σ H (by omega) p'
  · have p' : Pv (n - n) σ H := p
    rw [Nat.sub_self] at p'
    exact hd σ H p'
/-- while -/
def kWh (Pv : Nat → L2.St → Hp → Prop) (m : Nat) (tb : TS) (D : Ends) (σ : L2.St) (b : Bool) (H : Hp) : Prop := if b = true then ∃ N : L2.St → Hp → Prop, (∀ σ' H', N σ' H' → ∃ m', m' < m ∧ Pv m' σ' H') ∧ tb { D with nx := N, ct := N, bk := D.nx } σ H else D.nx σ H
theorem g_while {c : TT} (Pv : Nat → L2.St → Hp → Prop) (m : Nat) (h0 : Pv m σ H) (hs : ∀ m σ H, Pv m σ H → c σ H fun b H1 => kWh Pv m ts D σ b H1) : tWhile c ts D σ H := ⟨Pv, ⟨m, h0⟩, hs⟩
theorem kwh_t {Pv : Nat → L2.St → Hp → Prop} {m : Nat} (q : ts { D with nx := fun σ' H' => ∃ m', m' < m ∧ Pv m' σ' H', ct := fun σ' H' => ∃ m', m' < m ∧ Pv m' σ' H', bk := D.nx } σ H) : kWh Pv m ts D σ true H := by
  unfold kWh
  rw [if_pos rfl]
  exact ⟨_, fun _ _ h => h, q⟩
theorem kwh_f {Pv : Nat → L2.St → Hp → Prop} {m : Nat} (q : D.nx σ H) : kWh Pv m ts D σ false H := by
  unfold kWh
  rw [if_neg Bool.false_ne_true]
  exact q

/-! ### list comprehensions -/
def kLc (J : It) (g : TG) (tt : TT) (te : TE) (vs : List Nat) (σ : L2.St) (H1 : Hp) (Q : VK) : Prop := ∀ D, H1 D = none → ∃ W : Nat → Nat → Hp → Prop, (∃ m, W 0 m (upd H1 D (.lst []))) ∧ ∀ i m H, W i m H →
  (J.stop i H ∧ Q (.ref D) H) ∨ (J.go i H ∧ ∃ Nx : Hp → Prop, (∀ H', Nx H' → ∃ m', m' < m ∧ W (i + 1) m' H') ∧ ∀ x H', J.yld i H x H' → g x (wipe σ vs) H' fun σ2 H2 => wipe σ2 vs = wipe σ vs ∧ tt σ2 H2 fun b H3 =>
    if b = true then te σ2 H3 fun y H4 => ∃ acc, H4 D = some (.lst acc) ∧ acc.length < sizeLine ∧ Nx (upd H4 D (.lst (acc ++ [y]))) else Nx H3)
def kLcL (K : PySem.W.Frag) (g : TG) (tt : TT) (te : TE) (vs : List Nat) (σ : L2.St) (x : V) (H : Hp) (Q : VK) : Prop := ∃ a, x = .ref a ∧ (∃ xs, SqL K H a xs) ∧ kLc (Itl K a) g tt te vs σ H Q
def kLcR1 (g : TG) (tt : TT) (te : TE) (ws : List Nat) (σ : L2.St) (vs : List V) (H : Hp) (Q : VK) : Prop := ∃ j : Int, vs = [.int j] ∧ -(2 ^ 62) ≤ j ∧ j < 2 ^ 62 ∧ kLc (Itr 0 j.toNat) g tt te ws σ H Q
theorem g_lcL {tt : TT} {vs : List Nat} (q : ta σ H fun x H1 => kLcL K g tt te vs σ x H1 Q) : tLc (iList K ta) g tt te vs σ H Q := q
theorem g_lcR1 {ta : TA} {tt : TT} {vs : List Nat} (q : ta σ H fun xs H1 => kLcR1 g tt te vs σ xs H1 Q) : tLc (iRng1 ta) g tt te vs σ H Q := q
/-- what a turn is to leave -/
def kNx (S : Nat → List V → Hp → Own → Prop) (i : Nat) (D : Addr) (H : Hp) : Prop := ∃ acc F' O', S (i + 1) acc F' O' ∧ Has F' ((D, .lst acc) :: O') H
def kTurn (D : Addr) (Nx : Hp → Prop) (y : V) (H : Hp) : Prop := ∃ acc, H D = some (.lst acc) ∧ acc.length < sizeLine ∧ Nx (upd H D (.lst (acc ++ [y])))
theorem k_turn {S : Nat → List V → Hp → Own → Prop} {i : Nat} {D : Addr} {acc : List V} {y : V} {H : Hp} {F : Hp} {O : Own} (h : Has F ((D, .lst acc) :: O) H) (hl : acc.length ≤ 100000) (s : S (i + 1) (acc ++ [y]) F O) : kTurn D (kNx S i D) y H :=
  ⟨acc, h.get (List.Mem.head _), by rw [sizeLine_eq]; omega, _, F, O, s, h.put .hd⟩
theorem k_skip {S : Nat → List V → Hp → Own → Prop} {i : Nat} {D : Addr} {acc : List V} {H : Hp} {F : Hp} {O : Own} (h : Has F ((D, .lst acc) :: O) H) (s : S (i + 1) acc F O) : kNx S i D H := ⟨acc, F, O, s, h⟩
theorem k_lc {J : It} {tt : TT} {vs : List Nat} (hH : Has F O H) (n : Nat) (S : Nat → List V → Hp → Own → Prop) (h0 : S 0 [] F O)
    (go : ∀ i acc F O D H, i < n → S i acc F O → Has F ((D, .lst acc) :: O) H → J.go i H) (stop : ∀ acc F O D H, S n acc F O → Has F ((D, .lst acc) :: O) H → J.stop n H)
    (hs : ∀ i x acc F O D H H', i < n → J.yld i H x H' → S i acc F O → Has F ((D, .lst acc) :: O) H → g x (wipe σ vs) H' fun σ2 H2 => wipe σ2 vs = wipe σ vs ∧ tt σ2 H2 fun b H3 => if b = true then te σ2 H3 fun y H4 => kTurn D (kNx S i D) y H4 else kNx S i D H3)
    (hd : ∀ acc F O D H, S n acc F O → Has F ((D, .lst acc) :: O) H → Q (.ref D) H) : kLc J g tt te vs σ H Q := by
  intro D hD
  refine ⟨fun i m H => m = n - i ∧ i ≤ n ∧ ∃ acc F O, S i acc F O ∧ Has F ((D, .lst acc) :: O) H, ⟨n, by simp, Nat.zero_le _, [], F, O, h0, hH.new hD⟩, ?_⟩
  rintro i m H1 ⟨rfl, hi, acc, F1, O1, s1, hH1⟩
  by_cases hlt : i < n
  · exact .inr ⟨go i acc F1 O1 D H1 hlt s1 hH1, kNx S i D, fun H' p => ⟨n - (i + 1), by omega, rfl, hlt, p⟩, fun x H' y => hs i x acc F1 O1 D H1 H' hlt y s1 hH1⟩
  · have e : i = n := by omega
    subst e
    exact .inl ⟨stop acc F1 O1 D H1 s1 hH1, hd acc F1 O1 D H1 s1 hH1⟩
/-- over a list that stands still -/
theorem k_lcL {a : Addr} {xs : List V} {tt : TT} {vs : List Nat} (h : H a = some (.lst xs)) (hH : Has F O H) (S : Nat → List V → Hp → Own → Prop) (h0 : S 0 [] F O) (hl : ∀ i acc F O H, S i acc F O → Has F O H → H a = some (.lst xs))
    (hs : ∀ i x acc F O D H, xs[i]? = some x → S i acc F O → Has F ((D, .lst acc) :: O) H → g x (wipe σ vs) H fun σ2 H2 => wipe σ2 vs = wipe σ vs ∧ tt σ2 H2 fun b H3 => if b = true then te σ2 H3 fun y H4 => kTurn D (kNx S i D) y H4 else kNx S i D H3)
    (hd : ∀ acc F O D H, S xs.length acc F O → Has F ((D, .lst acc) :: O) H → Q (.ref D) H) : kLcL K g tt te vs σ (.ref a) H Q := by
  refine ⟨a, rfl, ⟨xs, SqL.of h⟩, k_lc hH xs.length S h0 (fun i acc F O D H hi s hh => ?_) (fun acc F O D H s hh => ?_) (fun i x acc F O D H H' hi y s hh => ?_) hd⟩
  · exact ⟨xs, xs[i], SqL.of (hl i acc F O H s hh.drop), List.getElem?_eq_getElem hi⟩
  · exact ⟨xs, SqL.of (hl _ acc F O H s hh.drop), Nat.le_refl _⟩
  · obtain ⟨e, y⟩ := y
    subst e
    exact hs i x acc F O D _ (y xs (SqL.of (hl i acc F O _ s hh.drop))) s hh
theorem k_lcR1 {j : Int} {tt : TT} {vs : List Nat} (h1 : -(2 ^ 62) ≤ j) (h2 : j < 2 ^ 62) (hH : Has F O H) (S : Nat → List V → Hp → Own → Prop) (h0 : S 0 [] F O)
    (hs : ∀ i acc F O D H, i < j.toNat → S i acc F O → Has F ((D, .lst acc) :: O) H → g (.int (i : Int)) (wipe σ vs) H fun σ2 H2 => wipe σ2 vs = wipe σ vs ∧ tt σ2 H2 fun b H3 => if b = true then te σ2 H3 fun y H4 => kTurn D (kNx S i D) y H4 else kNx S i D H3)
    (hd : ∀ acc F O D H, S j.toNat acc F O → Has F ((D, .lst acc) :: O) H → Q (.ref D) H) : kLcR1 g tt te vs σ [.int j] H Q := by
  refine ⟨j, rfl, h1, h2, k_lc hH j.toNat S h0 (fun i acc F O D H hi s hh => hi) (fun acc F O D H s hh => Nat.le_refl _) (fun i x acc F O D H H' hi y s hh => ?_) hd⟩
  obtain ⟨e, y⟩ := y
  subst e y
  rw [Int.zero_add]
  exact hs i acc F O D _ hi s hh
end

/-! ### the rules' own soundness: one operator for several kinds -/
section
variable {X : Cx}
theorem op_addA : OpR X (binaryOp .Add) (rAdd X.K) := by
  intro pins s σ H x y v u Q I rx ry h
  rcases h with (h | h) | h | h
  · exact op_add pins s σ H x y v u Q I rx ry h
  · exact op_add_str pins s σ H x y v u Q I rx ry h
  · exact op_cat pins s σ H x y v u Q I rx ry h
  · exact op_catA pins s σ H x y v u Q I rx ry h
theorem op_mulA : OpR X (binaryOp .Mult) rMul := by
  intro pins s σ H x y v u Q I rx ry h
  rcases h with h | h
  · exact op_mul pins s σ H x y v u Q I rx ry h
  · exact op_rep pins s σ H x y v u Q I rx ry h
theorem op_eqA (hu : X.A.units + 64 < cLine) : OpR X (compareOp .Eq) (rEqA X.K) := by
  intro pins s σ H x y v u Q I rx ry h
  rcases h with h | h
  · exact op_eq pins s σ H x y v u Q I rx ry h
  · exact op_eqD hu pins s σ H x y v u Q I rx ry h
theorem op_neA (hu : X.A.units + 64 < cLine) : OpR X (compareOp .NotEq) (rNeA X.K) := by
  intro pins s σ H x y v u Q I rx ry h
  rcases h with h | h
  · exact op_ne pins s σ H x y v u Q I rx ry h
  · exact op_neD hu pins s σ H x y v u Q I rx ry h
theorem op_isNA : OpR X (compareOp .Is) rIsN := op_isN
theorem op_notNA : OpR X (compareOp .IsNot) rNotN := op_notN
theorem cr_len : CallR X (.builtin "len") (rLen X.K) := by
  intro pins s σ H xs us Q I r h
  rcases h with h | h
  · exact call_len_seq pins s σ H xs us Q I r h
  · exact call_len_str pins s σ H xs us Q I r h
theorem cr_int1 : CallR X (.type "int") rInt1 := call_int1
theorem cr_abs1 : CallR X (.builtin "abs") rAbs1 := call_abs
theorem cr_max2 (hc : X.calm = true) : CallR X (.builtin "max") rMax2 := call_max2 hc
theorem cr_listOf : CallR X (.type "list") (rListOf X.K) := call_list_of
theorem cr_tupleOf : CallR X (.type "tuple") (rTupleOf X.K) := call_tuple_of
end

/-! ### dicts -/
def rInDc : R2 := fun x y H Q => ∃ a o, y = .ref a ∧ DGet H a x o ∧ Q (.bl o.isSome) H
def rNotInDc : R2 := fun x y H Q => ∃ a o, y = .ref a ∧ DGet H a x o ∧ Q (.bl (!o.isSome)) H
section
variable {X : Cx}
theorem op_inDc (hu : X.A.units + 1 < cLine) : OpR X (compareOp .In) rInDc := by
  intro pins s σ H x y v u Q I rx ry h
  obtain ⟨a, o, rfl, g, q⟩ := h
  cases ry
  exact d_in hu I g rx fun s' I' => ⟨.bl _, H, I', rfl, q⟩
theorem op_notinDc (hu : X.A.units + 1 < cLine) : OpR X (compareOp .NotIn) rNotInDc := by
  intro pins s σ H x y v u Q I rx ry h
  obtain ⟨a, o, rfl, g, q⟩ := h
  cases ry
  exact d_notIn hu I g rx fun s' I' => ⟨.bl _, H, I', rfl, q⟩
end
def kGet2 (ty tx : TE) (σ : L2.St) (x : V) (H : Hp) (Q : VK) : Prop := ∃ a, x = .ref a ∧ IsD H a ∧ ty σ H fun y H2 => tx σ H2 fun z H3 => ∃ o, DGet H3 a y o ∧ Q (o.getD z) H3
def kGot (a : Addr) (y z : V) (H : Hp) (Q : VK) : Prop := ∃ o, DGet H a y o ∧ Q (o.getD z) H
section
variable {K : PySem.W.Frag} {σ : L2.St} {F : Hp} {O O' : Own} {H : Hp} {Q : VK} {ta tb tc te : TE} {x y v : V} {D : Ends} {t1 t2 ts : TS} {g : TG}
theorem g_dnew (hH : Has F O H) (q : ∀ p H', H p = none → Has F ((p, .dK []) :: O) H' → Q (.ref p) H') : tDNewK σ H Q := fun p n => q p _ n (hH.new n)
theorem g_inDI {a : Addr} {kvs : List (Key × V)} {i : Int} (h : H a = some (.dK kvs)) (q : Q (.bl (valV kvs (.inl i)).isSome) H) : rInDc (.int i) (.ref a) H Q := ⟨a, _, rfl, DGet.k (k := .inl i) h, q⟩
theorem g_notinDI {a : Addr} {kvs : List (Key × V)} {i : Int} (h : H a = some (.dK kvs)) (q : Q (.bl (!(valV kvs (.inl i)).isSome)) H) : rNotInDc (.int i) (.ref a) H Q := ⟨a, _, rfl, DGet.k (k := .inl i) h, q⟩
theorem g_setDI {R : L2.St → Hp → Prop} {a : Addr} {kvs : List (Key × V)} {i : Int} (hH : Has F O H) (c : Chg O a (.dK kvs) (.dK (putK kvs (.inl i) v)) O') (hl : kvs.length < sizeLine) (q : ∀ H', Has F O' H' → R σ H') : kSet rSetD R σ (.ref a) (.int i) v H :=
  ⟨a, _, rfl, DPut.k (k := .inl i) (hH.get c.mem) hl, q _ (hH.put c)⟩
theorem g_get2 (q : ta σ H fun x H1 => kGet2 tb tc σ x H1 Q) : tDGet2 ta tb tc σ H Q := q
theorem g_kget2 {a : Addr} {kvs : List (Key × V)} (h : H a = some (.dK kvs)) (q : tb σ H fun y H2 => tc σ H2 fun z H3 => kGot a y z H3 Q) : kGet2 tb tc σ (.ref a) H Q := ⟨a, rfl, .inl ⟨kvs, .inl h⟩, q⟩
theorem g_kgotI {a : Addr} {kvs : List (Key × V)} {i : Int} {z : V} (h : H a = some (.dK kvs)) (q : Q ((valV kvs (.inl i)).getD z) H) : kGot a (.int i) z H Q := ⟨_, DGet.k (k := .inl i) h, q⟩
theorem g_kgotS {a : Addr} {kvs : List (Key × V)} {i : Str} {z : V} (h : H a = some (.dK kvs)) (q : Q ((valV kvs (.inr i)).getD z) H) : kGot a (.str i) z H Q := ⟨_, DGet.k (k := .inr i) h, q⟩
end

/-! ### in, not in; o[i] = v: any of the kinds -/
def rInA (K : PySem.W.Frag) : R2 := fun x y H Q => (rIn K false x y H Q ∨ rInDc x y H Q) ∨ (∃ i j, x = .str i ∧ y = .str j ∧ Q (.bl (!(Builtin.Str.occurrences j i 0 j.length 1).isEmpty)) H) ∨ rInD K x y H Q
def rNotInA (K : PySem.W.Frag) : R2 := fun x y H Q => (rIn K true x y H Q ∨ rNotInDc x y H Q) ∨ (∃ i j, x = .str i ∧ y = .str j ∧ Q (.bl (!(!(Builtin.Str.occurrences j i 0 j.length 1).isEmpty))) H) ∨ rNotInD K x y H Q
def rSetA : TSet := fun o i v H Q => rSetL o i v H Q ∨ rSetD o i v H Q
section
variable {X : Cx}
theorem op_inA (hu : X.A.units + 64 < cLine) (hu' : X.A.units + 65 < cLine) : OpR X (compareOp .In) (rInA X.K) := by
  intro pins s σ H x y v u Q I rx ry h
  rcases h with (h | h) | h | h
  · exact op_in_seq pins s σ H x y v u Q I rx ry h
  · exact op_inDc (by omega) pins s σ H x y v u Q I rx ry h
  · exact op_in_str pins s σ H x y v u Q I rx ry h
  · exact op_inD hu' pins s σ H x y v u Q I rx ry h
theorem op_notinA (hu : X.A.units + 64 < cLine) (hu' : X.A.units + 65 < cLine) : OpR X (compareOp .NotIn) (rNotInA X.K) := by
  intro pins s σ H x y v u Q I rx ry h
  rcases h with (h | h) | h | h
  · exact op_notIn_seq pins s σ H x y v u Q I rx ry h
  · exact op_notinDc (by omega) pins s σ H x y v u Q I rx ry h
  · exact L2.op_notIn_str pins s σ H x y v u Q I rx ry h
  · exact op_notInD hu' pins s σ H x y v u Q I rx ry h
theorem set_any (hu : X.A.units + 1 < cLine) : PSet X rSetA := by
  intro pins s σ H o i v ov iv u Q I ro ri rv h
  rcases h with h | h
  · exact set_list pins s σ H o i v ov iv u Q I ro ri rv h
  · exact set_dict hu pins s σ H o i v ov iv u Q I ro ri rv h
theorem u65 {k : Nat} {A : Around} (r : Room k A) : A.units + 65 < cLine := by have := r.un; omega
end
section
variable {K : PySem.W.Frag} {σ : L2.St} {F : Hp} {O O' : Own} {H : Hp} {Q : VK} {x y v : V}
theorem g_inFL {a : Addr} {xs : List V} (h : H a = some (.lst xs)) (hx : flatV x = true) (hf : xs.all flatV = true) (q : Q (.bl (inV x xs)) H) : rInA K x (.ref a) H Q := .inl (.inl ⟨a, xs, rfl, .inl (SqL.of h), hx, hf, q⟩)
theorem g_notinFL {a : Addr} {xs : List V} (h : H a = some (.lst xs)) (hx : flatV x = true) (hf : xs.all flatV = true) (q : Q (.bl (!inV x xs)) H) : rNotInA K x (.ref a) H Q := .inl (.inl ⟨a, xs, rfl, .inl (SqL.of h), hx, hf, q⟩)
theorem g_inI {a : Addr} {kvs : List (Key × V)} {i : Int} (h : H a = some (.dK kvs)) (q : Q (.bl (valV kvs (.inl i)).isSome) H) : rInA K (.int i) (.ref a) H Q := .inl (.inr ⟨a, _, rfl, DGet.k (k := .inl i) h, q⟩)
theorem g_notinI {a : Addr} {kvs : List (Key × V)} {i : Int} (h : H a = some (.dK kvs)) (q : Q (.bl (!(valV kvs (.inl i)).isSome)) H) : rNotInA K (.int i) (.ref a) H Q := .inl (.inr ⟨a, _, rfl, DGet.k (k := .inl i) h, q⟩)
theorem g_inS {a : Addr} {kvs : List (Key × V)} {i : Str} (h : H a = some (.dK kvs)) (q : Q (.bl (valV kvs (.inr i)).isSome) H) : rInA K (.str i) (.ref a) H Q := .inl (.inr ⟨a, _, rfl, DGet.k (k := .inr i) h, q⟩)
theorem g_notinS {a : Addr} {kvs : List (Key × V)} {i : Str} (h : H a = some (.dK kvs)) (q : Q (.bl (!(valV kvs (.inr i)).isSome)) H) : rNotInA K (.str i) (.ref a) H Q := .inl (.inr ⟨a, _, rfl, DGet.k (k := .inr i) h, q⟩)
theorem g_stL {R : L2.St → Hp → Prop} {a : Addr} {xs : List V} {k : Int} {j : Nat} (hH : Has F O H) (c : Chg O a (.lst xs) (.lst (xs.set j v)) O') (hj : ixN xs.length k = some j) (q : ∀ H', Has F O' H' → R σ H') : kSet rSetA R σ (.ref a) (.int k) v H :=
  .inl ⟨a, xs, k, j, rfl, rfl, hH.get c.mem, hj, q _ (hH.put c)⟩
theorem g_stD {R : L2.St → Hp → Prop} {a : Addr} {kvs : List (Key × V)} {k : Key} {z : V} (ez : z = kV k) (hH : Has F O H) (c : Chg O a (.dK kvs) (.dK (putK kvs k v)) O') (hl : kvs.length < sizeLine) (q : ∀ H', Has F O' H' → R σ H') : kSet rSetA R σ (.ref a) z v H := by
  subst ez
  exact .inr ⟨a, _, rfl, DPut.k (hH.get c.mem) hl, q _ (hH.put c)⟩
end

/-! ### an argument that is changed -/
def rm (H : Hp) (a : Addr) : Hp := fun b => if b = a then none else H b
/-- all but a stands as it stood -/
def But (a : Addr) (H H' : Hp) : Prop := ∀ b u, b ≠ a → H b = some u → H' b = some u
theorem rm_at {H : Hp} {a : Addr} : rm H a a = none := if_pos rfl
theorem rm_ne {H : Hp} {a b : Addr} (h : b ≠ a) : rm H a b = H b := if_neg h
theorem Has.arg {H : Hp} {a : Addr} {o : HO} (h : H a = some o) : Has (rm H a) [(a, o)] H := by
  refine ⟨fun b u q => ?_, fun p hp => ?_, by simp⟩
  · by_cases e : b = a
    · subst e; rw [rm_at] at q; cases q
    · rw [rm_ne e] at q; exact q
  · have e : p = (a, o) := by simpa using hp
    subst e
    exact ⟨rm_at, h⟩
theorem But.of {H H' : Hp} {a : Addr} (h : Same (rm H a) H') : But a H H' := fun b u ne q => h b u (by rw [rm_ne ne]; exact q)
theorem But.trans {a : Addr} {H H1 H2 : Hp} (x : But a H H1) (y : But a H1 H2) : But a H H2 := fun b u ne q => y b u ne (x b u ne q)
theorem But.same {a : Addr} {H H1 H2 : Hp} (x : But a H H1) (y : Same H1 H2) : But a H H2 := fun b u ne q => y b u (x b u ne q)
section
variable {K : PySem.W.Frag} {σ : L2.St} {F : Hp} {O O' : Own} {H : Hp} {Q : VK} {x y v : V}
/-- a test by a fact about its answer -/
theorem g_fact {t : TT} {R : Bool → Hp → Prop} (C : Bool → Prop) (h : ∀ R : Bool → Hp → Prop, (∀ b, C b → R b H) → t σ H R) (q : ∀ b, C b → R b H) : t σ H R := h R q
theorem g_ixV {a : Addr} {xs : List V} {i : Int} (h : H a = some (.lst xs)) (h0 : 0 ≤ i) (hl : i < xs.length) (q : ∀ v, xs[i.toNat]? = some v → Q v H) : rIxA K (.ref a) (.int i) H Q := by
  have e : i.toNat < xs.length := by omega
  exact g_ixL h (at_n h0 (List.getElem?_eq_getElem e)) (q _ (List.getElem?_eq_getElem e))
theorem g_ixI {a : Addr} {xs : List Int} {i : Int} (h : H a = some (.lst (xs.map V.int))) (h0 : 0 ≤ i) (hl : i < xs.length) (q : ∀ z, xs[i.toNat]? = some z → Q (.int z) H) : rIxA K (.ref a) (.int i) H Q := by
  have e : i.toNat < xs.length := by omega
  refine g_ixL h (at_n h0 (v := .int xs[i.toNat]) ?_) (q _ (List.getElem?_eq_getElem e))
  rw [List.getElem?_map, List.getElem?_eq_getElem e]
  rfl
theorem g_ixZ {a : Addr} {xs : List Str} {i : Int} (h : H a = some (.lst (xs.map V.str))) (h0 : 0 ≤ i) (hl : i < xs.length) (q : ∀ z, xs[i.toNat]? = some z → Q (.str z) H) : rIxA K (.ref a) (.int i) H Q := by
  have e : i.toNat < xs.length := by omega
  refine g_ixL h (at_n h0 (v := .str xs[i.toNat]) ?_) (q _ (List.getElem?_eq_getElem e))
  rw [List.getElem?_map, List.getElem?_eq_getElem e]
  rfl
theorem g_stI {R : L2.St → Hp → Prop} {a : Addr} {xs : List Int} {k z : Int} (hH : Has F O H) (c : Chg O a (.lst (xs.map V.int)) (.lst ((xs.set k.toNat z).map V.int)) O') (h0 : 0 ≤ k) (hl : k < xs.length) (q : ∀ H', Has F O' H' → R σ H') : kSet rSetA R σ (.ref a) (.int k) (.int z) H := by
  refine g_stL (xs := xs.map V.int) (j := k.toNat) hH ?_ (ixN_nat h0 (by rw [List.length_map]; exact hl)) q
  rw [← List.map_set]
  exact c
theorem g_popAtI {a : Addr} {xs : List Int} {i : Int} (hH : Has F O H) (c : Chg O a (.lst (xs.map V.int)) (.lst ((xs.eraseIdx i.toNat).map V.int)) O') (h0 : 0 ≤ i) (hl : i < xs.length) (h2 : xs.length ≤ 1000) (q : ∀ H' z, Has F O' H' → Q (.int z) H') : rPopAt (.ref a) [.int i] H Q := by
  have e : i.toNat < xs.length := by omega
  refine g_popAt (xs := xs.map V.int) (k := i.toNat) (y := .int xs[i.toNat]) hH ?_ (by omega) (by omega) ?_ ?_ (fun H' h => q H' _ h)
  · have : (xs.map V.int).eraseIdx i.toNat = (xs.eraseIdx i.toNat).map V.int := by
      rw [List.eraseIdx_eq_take_drop_succ, List.eraseIdx_eq_take_drop_succ, List.map_append, List.map_take, List.map_drop]
    rw [this]
    exact c
  · have := (ixN_seq (n := (xs.map V.int).length) (i := i) (j := i.toNat) (ixN_nat h0 (by rw [List.length_map]; exact hl))).1
    exact this
  · rw [List.getElem?_map, List.getElem?_eq_getElem e]
    rfl
end
theorem sz {n : Nat} (h : n ≤ 100000) : n ≤ sizeLine := by rw [sizeLine_eq]; omega
theorem szl {n : Nat} (h : n < 100000) : n < sizeLine := by rw [sizeLine_eq]; omega

section
variable {K : PySem.W.Frag} {σ : L2.St} {F : Hp} {O O' : Own} {H : Hp} {Q : VK} {x y v : V} {te ta : TE}
theorem g_yes {R : Bool → Hp → Prop} (q : R true H) : tYes σ H R := q
theorem g_wipe {σ1 σ2 : L2.St} {B : Prop} (e : σ1 = σ2) (q : B) : σ1 = σ2 ∧ B := ⟨e, q⟩
def kOI (x : V) (H : Hp) (R : Option Int → Hp → Prop) : Prop := ∃ i, x = .int i ∧ R (some i) H
theorem g_part {R : Option Int → Hp → Prop} (q : te σ H fun x H1 => kOI x H1 R) : tPart te σ H R := q
theorem g_kOI {R : Option Int → Hp → Prop} {i : Int} (q : R (some i) H) : kOI (.int i) H R := ⟨i, rfl, q⟩
theorem g_nopart {R : Option Int → Hp → Prop} (q : R none H) : tNoPart σ H R := q
theorem g_slice {r : V → Option Int → Option Int → Hp → VK → Prop} {tl th : TO} (q : te σ H fun x H1 => tl σ H1 fun l H2 => th σ H2 fun u H3 => r x l u H3 Q) : tSl r te tl th σ H Q := q
def rSlB (K : PySem.W.Frag) : V → Option Int → Option Int → Hp → VK → Prop := fun x lo hi H Q => rSlL K x lo hi H Q ∨ rSlA K x lo hi H Q
theorem g_slS {a : Addr} {xs : List V} {lo hi : Option Int} (h : SqL K H a xs) (hH : Has F O H) (q : ∀ p H', H p = none → Has F ((p, .lst (cutV xs lo hi)) :: O) H' → Q (.ref p) H') : rSlB K (.ref a) lo hi H Q := .inl ⟨a, xs, rfl, h, fun p n => q p _ n (hH.new n)⟩
theorem g_slTF {a : Addr} {xs : List V} {lo hi : Option Int} (h : F a = some (.tup xs)) (hH : Has F O H) (q : ∀ p H' F', Same F F' → F' p = some (.tup (cutV xs lo hi)) → Has F' O H' → Q (.ref p) H') : rSlB K (.ref a) lo hi H Q :=
  .inr ⟨a, xs, rfl, SqT.of (hH.same _ _ h), fun w => q a H F (Same.refl _) (by
    have e : cutV xs lo hi = xs := by
      unfold cutV
      rw [w.1, w.2, List.drop_zero, Nat.sub_zero, List.take_length]
    rw [e]; exact h) hH, fun _ p n => q p _ (upd F p (.tup (cutV xs lo hi))) (same_upd (hH.same.free n)) upd_same (hH.new n).frz⟩
theorem g_addTF {a b : Addr} {xs ys : List V} (h1 : F a = some (.tup xs)) (h2 : F b = some (.tup ys)) (hl : xs.length + ys.length ≤ sizeLine) (hH : Has F O H) (q : ∀ p H' F', Same F F' → F' p = some (.tup (xs ++ ys)) → Has F' O H' → Q (.ref p) H') : rAdd K (.ref a) (.ref b) H Q :=
  .inr (.inr ⟨a, b, xs, ys, rfl, rfl, SqT.of (hH.same _ _ h1), SqT.of (hH.same _ _ h2), hl, fun e => q b H F (Same.refl _) (by rw [e]; exact h2) hH, fun _ e => q a H F (Same.refl _) (by rw [e, List.append_nil]; exact h1) hH,
    fun _ _ p n => q p _ (upd F p (.tup (xs ++ ys))) (same_upd (hH.same.free n)) upd_same (hH.new n).frz⟩)
theorem g_slL {a : Addr} {xs : List V} {lo hi : Option Int} (h : H a = some (.lst xs)) (hH : Has F O H) (q : ∀ p H', H p = none → Has F ((p, .lst (cutV xs lo hi)) :: O) H' → Q (.ref p) H') : rSlB K (.ref a) lo hi H Q := g_slS (SqL.of h) hH q
theorem cutV_ints (ns : List Int) (lo hi : Option Int) : ∃ ms : List Int, cutV (ns.map V.int) lo hi = ms.map V.int ∧ ms.length ≤ ns.length := by
  refine ⟨(ns.drop (HT.sIx ns.length 0 lo)).take (HT.sIx ns.length ns.length hi - HT.sIx ns.length 0 lo), ?_, ?_⟩
  · unfold cutV
    rw [List.length_map, List.map_take, List.map_drop]
  · rw [List.length_take, List.length_drop]
    omega
theorem g_revL {a : Addr} {xs : List V} (h : H a = some (.lst xs)) (hH : Has F O H) (q : ∀ p H', H p = none → Has F ((p, .lst xs.reverse) :: O) H' → Q (.ref p) H') : (∃ b ys, V.ref a = .ref b ∧ SqL K H b ys ∧ ∀ p, H p = none → Q (.ref p) (upd H p (.lst ys.reverse))) :=
  ⟨a, xs, rfl, SqL.of h, fun p n => q p _ n (hH.new n)⟩
theorem g_tRev (q : te σ H fun x H1 => rRevL K x H1 Q) : tRevL K te σ H Q := q
theorem g_rRev {a : Addr} {xs : List V} (h : H a = some (.lst xs)) (hH : Has F O H) (q : ∀ p H', H p = none → Has F ((p, .lst xs.reverse) :: O) H' → Q (.ref p) H') : rRevL K (.ref a) H Q := ⟨a, xs, rfl, SqL.of h, fun p n => q p _ n (hH.new n)⟩
/-- an item of a list of texts that are in order, of ints from 0 to n -/
def okS : V → Bool
  | .str z => PyData.strOk z
  | _ => false
def okI (n : Int) : V → Bool
  | .int z => decide (0 ≤ z ∧ z ≤ n)
  | _ => false
theorem g_ixM {a : Addr} {xs : List V} {i : Int} (h : H a = some (.lst xs)) (ok : xs.all okS = true) (h0 : 0 ≤ i) (hl : i < xs.length) (q : ∀ z, PyData.strOk z = true → Q (.str z) H) : rIxA K (.ref a) (.int i) H Q := by
  refine g_ixV h h0 hl fun v hv => ?_
  have m := List.all_eq_true.mp ok v (List.mem_of_getElem? hv)
  cases v with
  | str z => exact q z m
  | _ => cases m
theorem g_ixN {n : Int} {a : Addr} {xs : List V} {i : Int} (h : H a = some (.lst xs)) (ok : xs.all (okI n) = true) (h0 : 0 ≤ i) (hl : i < xs.length) (q : ∀ z, 0 ≤ z → z ≤ n → Q (.int z) H) : rIxA K (.ref a) (.int i) H Q := by
  refine g_ixV h h0 hl fun v hv => ?_
  have m := List.all_eq_true.mp ok v (List.mem_of_getElem? hv)
  cases v with
  | int z =>
    have := of_decide_eq_true (show decide (0 ≤ z ∧ z ≤ n) = true from m)
    exact q z this.1 this.2
  | _ => cases m
end

/-! ### tables of ints: a list of rows -/
def rowO (r : Addr × List Int) : Addr × HO := (r.1, .lst (r.2.map V.int))
def tabO (t : Addr) (rows : List (Addr × List Int)) : Own := (t, .lst (rows.map fun r => V.ref r.1)) :: rows.map rowO
theorem Chg.row {r : Addr × List Int} {zs : List Int} {O : Own} : ∀ {rows : List (Addr × List Int)} {k : Nat}, rows[k]? = some r → Chg (rows.map rowO ++ O) r.1 (.lst (r.2.map V.int)) (.lst (zs.map V.int)) ((rows.set k (r.1, zs)).map rowO ++ O)
  | [], k, h => by simp at h
  | x :: rows, 0, h => by
    have e : x = r := Option.some.inj h
    subst e
    exact .hd
  | x :: rows, k + 1, h => .tl (Chg.row (rows := rows) (k := k) h)
theorem rows_ref {r : Addr × List Int} {zs : List Int} : ∀ {rows : List (Addr × List Int)} {k : Nat}, rows[k]? = some r → (rows.set k (r.1, zs)).map (fun r => V.ref r.1) = rows.map fun r => V.ref r.1
  | [], k, h => by simp at h
  | x :: rows, 0, h => by
    have e : x = r := Option.some.inj h
    subst e
    rfl
  | x :: rows, k + 1, h => by
    have := rows_ref (rows := rows) (k := k) (zs := zs) h
    show V.ref x.1 :: (rows.set k (r.1, zs)).map (fun r => V.ref r.1) = _
    rw [this]
    rfl
section
variable {K : PySem.W.Frag} {σ : L2.St} {F : Hp} {O O' : Own} {H : Hp} {Q : VK} {t : Addr} {rows : List (Addr × List Int)}
theorem Has.row {r : Addr × List Int} {k : Nat} (hH : Has F (tabO t rows ++ O) H) (hr : rows[k]? = some r) : H r.1 = some (.lst (r.2.map V.int)) :=
  hH.get (List.mem_append_left _ (List.mem_cons_of_mem _ (List.mem_map.mpr ⟨r, List.mem_of_getElem? hr, rfl⟩)))
theorem Has.tab (hH : Has F (tabO t rows ++ O) H) : H t = some (.lst (rows.map fun r => V.ref r.1)) := hH.get (List.mem_append_left _ List.mem_cons_self)
theorem g_ixRow {i : Int} (hH : Has F (tabO t rows ++ O) H) (h0 : 0 ≤ i) (hl : i < rows.length) (q : ∀ r, rows[i.toNat]? = some r → H r.1 = some (.lst (r.2.map V.int)) → Q (.ref r.1) H) : rIxA K (.ref t) (.int i) H Q := by
  have e : i.toNat < rows.length := by omega
  have hr := List.getElem?_eq_getElem e
  refine g_ixL hH.tab (at_n h0 (v := .ref rows[i.toNat].1) ?_) (q _ hr (hH.row hr))
  rw [List.getElem?_map, hr]
  rfl
theorem g_setRow {R : L2.St → Hp → Prop} {r : Addr × List Int} {k : Nat} {j z : Int} (hH : Has F (tabO t rows ++ O) H) (hr : rows[k]? = some r) (h0 : 0 ≤ j) (hl : j < r.2.length) (q : ∀ H', Has F (tabO t (rows.set k (r.1, r.2.set j.toNat z)) ++ O) H' → R σ H') :
    kSet rSetA R σ (.ref r.1) (.int j) (.int z) H := by
  refine g_stI hH (xs := r.2) ?_ h0 hl q
  have c := Chg.row (O := O) (zs := r.2.set j.toNat z) hr
  unfold tabO
  rw [List.cons_append, List.cons_append, rows_ref hr]
  exact .tl c
end

/-! ### the rules with the written part by its name -/
section
variable {X : Cx}
theorem op_addK (K : PySem.W.Frag) (e : X.K = K := by rfl) : OpR X (binaryOp .Add) (rAdd K) := by subst e; exact op_addA
theorem op_eqK (K : PySem.W.Frag) (hu : X.A.units + 64 < cLine) (e : X.K = K := by rfl) : OpR X (compareOp .Eq) (rEqA K) := by subst e; exact op_eqA hu
theorem op_neK (K : PySem.W.Frag) (hu : X.A.units + 64 < cLine) (e : X.K = K := by rfl) : OpR X (compareOp .NotEq) (rNeA K) := by subst e; exact op_neA hu
theorem op_inK (K : PySem.W.Frag) (hu : X.A.units + 64 < cLine) (hu' : X.A.units + 65 < cLine) (e : X.K = K := by rfl) : OpR X (compareOp .In) (rInA K) := by subst e; exact op_inA hu hu'
theorem op_notinK (K : PySem.W.Frag) (hu : X.A.units + 64 < cLine) (hu' : X.A.units + 65 < cLine) (e : X.K = K := by rfl) : OpR X (compareOp .NotIn) (rNotInA K) := by subst e; exact op_notinA hu hu'
theorem ix_dict (hu : X.A.units + 1 < cLine) : IxR X rIxD := by
  intro value slice pins s σ H x y v u Q I rx ry h hs
  obtain ⟨a, z, rfl, g, q⟩ := h
  cases rx
  have hT := dict_typeIs I g
  have fin : wpAny (model X.prog X.w) X.A (subscripted slice false (.ref a) u) (fun r s₃ => wpAny (model X.prog X.w) X.A (letTemporaryGo value (.ref a) r >>= fun _ => pure r) (EP X pins σ Q) X.xe s₃) X.xe s := by
    rw [hs]
    exact wpAny_operating (wpAny_mono (d_getItem hu I g ry (Q := fun r s' => EP X pins σ Q r s') fun w' s3 I3 rw' => ⟨z, H, I3, rw', q⟩) (fun r s₃ h₃ => wpAny_bind (wpAny_letTemporaryGo (wpAny_pure h₃))) fun _ _ x => x)
  unfold subscriptTail
  refine wpAny_bind ?_
  rw [getitemInPython_of_ne hT.not_modules]
  refine wpAny_bind (wpAny_specialOf hT PySem.F.slot_dict_getitem.lookup ?_)
  first
    | exact wpAny_pure (wpAny_bind fin)
    | exact wpAny_bind (wpAny_pure (wpAny_bind fin))
    | exact wpAny_bind fin
theorem ix_K (K : PySem.W.Frag) (hu : X.A.units + 1 < cLine) (e : X.K = K := by rfl) : IxR X (rIxA K) := by subst e; exact ix_seq.or (ix_dict hu)
theorem cr_lenK (K : PySem.W.Frag) (e : X.K = K := by rfl) : CallR X (.builtin "len") (rLen K) := by subst e; exact cr_len
theorem cr_listK (K : PySem.W.Frag) (e : X.K = K := by rfl) : CallR X (.type "list") (rListOf K) := by subst e; exact cr_listOf
theorem cr_tupleK (K : PySem.W.Frag) (e : X.K = K := by rfl) : CallR X (.type "tuple") (rTupleOf K) := by subst e; exact cr_tupleOf
theorem sl_all : SlR X (rSlB X.K) := by
  intro pins s σ H x v vl vu lo hi sl Q I rx hs pl pu h
  rcases h with h | h
  · exact sl_list pins s σ H x v vl vu lo hi sl Q I rx hs pl pu h
  · exact sl_tupA pins s σ H x v vl vu lo hi sl Q I rx hs pl pu h
theorem sl_K (K : PySem.W.Frag) (e : X.K = K := by rfl) : SlR X (rSlB K) := by subst e; exact sl_all
theorem k_bm {ex : Expr} {T : String} {r : V → List V → Hp → VK → Prop} {to : TE} {t : TA} (K : PySem.W.Frag) (h : PE X ex (tBM X.K T r to t)) (e : X.K = K := by rfl) : PE X ex (tBM K T r to t) := by subst e; exact h
theorem k_bm0 {ex : Expr} {T : String} {r : V → List V → Hp → VK → Prop} {to : TE} (K : PySem.W.Frag) (h : PE X ex (tBM0 X.K T r to)) (e : X.K = K := by rfl) : PE X ex (tBM0 K T r to) := by subst e; exact h
theorem k_rev {ex : Expr} {to : TE} (K : PySem.W.Frag) (h : PE X ex (tRevL X.K to)) (e : X.K = K := by rfl) : PE X ex (tRevL K to) := by subst e; exact h
theorem k_il {tg l : Expr} {tl : TE} (K : PySem.W.Frag) (h : PI X tg l (iList X.K tl)) (e : X.K = K := by rfl) : PI X tg l (iList K tl) := by subst e; exact h
theorem k_gt {tg : Expr} {n : Nat} {t : TGs} (K : PySem.W.Frag) (h : PG X tg (gTup X.K n t)) (e : X.K = K := by rfl) : PG X tg (gTup K n t) := by subst e; exact h
end
theorem g_start {t : TS} {D : Ends} {σ σ' : L2.St} {H : Hp} (e : σ = σ') (h : t D σ' H) : t D σ H := by subst e; exact h

theorem Has.argFree {H H' : Hp} {a D : Addr} {o : HO} {O : Own} (h : Has (rm H a) ((D, o) :: O) H') (m : a ∈ O.map (·.1)) : H D = none := by
  have nd : D ∉ O.map (·.1) ∧ (O.map (·.1)).Nodup := List.nodup_cons.mp (by have := h.nd; rw [List.map_cons] at this; exact this)
  have e := h.free
  rw [rm_ne (fun z => nd.1 (by rw [z]; exact m))] at e
  exact e

theorem Has.but2 {F H H' : Hp} {O O' : Own} {a p : Addr} {o o' op : HO} (h : Has F O H) (c : Chg O a o o' O') (hb : But a H H') (e : H' a = some o') (n : H p = none) (ep : H' p = some op) : Has F ((p, op) :: O') H' := by
  have h' := h.but c hb e
  refine ⟨h'.same, fun q hq => ?_, ?_⟩
  · rcases List.mem_cons.mp hq with rfl | hq
    · exact ⟨h.same.free n, ep⟩
    · exact h'.own q hq
  · rw [List.map_cons]
    refine List.nodup_cons.mpr ⟨fun m => ?_, h'.nd⟩
    rw [c.fst] at m
    obtain ⟨q, hq, e'⟩ := List.mem_map.mp m
    have z := (h.own q hq).2
    rw [e', n] at z
    cases z

theorem Has.mono {F F' H : Hp} {O : Own} (h : Has F O H) (s : Same F' F) : Has F' O H := ⟨s.trans h.same, fun q hq => ⟨s.free (h.own q hq).1, (h.own q hq).2⟩, h.nd⟩
theorem same_rm {F H : Hp} {a : Addr} (s : Same F H) (n : F a = none) : Same F (rm H a) := fun b u q => by
  rw [rm_ne (ne_of_none q n)]
  exact s b u q
theorem take_foldl {α β : Type} {f : β → α → β} {z : β} {l : List α} {i : Nat} {x : α} (h : l[i]? = some x) : (l.take (i + 1)).foldl f z = f ((l.take i).foldl f z) x := by
  rw [List.take_add_one, h, List.foldl_append]
  rfl

/-! ### isinstance -/
def rIsA (K : PySem.W.Frag) : List V → Hp → VK → Prop := fun xs H Q => rIsi K xs H Q ∨ rIsiT K xs H Q
theorem cr_isK {X : Cx} (K : PySem.W.Frag) (e : X.K = K := by rfl) : CallR X (.builtin "isinstance") (rIsA K) := by
  subst e
  intro pins s σ H xs us Q I r h
  rcases h with h | h
  · exact call_isi pins s σ H xs us Q I r h
  · exact call_isiT pins s σ H xs us Q I r h
theorem g_is {K : PySem.W.Frag} {H : Hp} {Q : VK} {x : V} {t n : String} {b : Bool} (ty : TyX K H x (.type t)) (e : kitB t n = some b) (q : Q (.bl b) H) : rIsA K [x, .ty n] H Q := .inl ⟨x, .ty n, _, _, b, rfl, .ty n, ty, kit_ty e, q⟩
theorem g_is2 {K : PySem.W.Frag} {H : Hp} {Q : VK} {x : V} {t n m : String} {a b : Bool} {tp : Addr} (h : H tp = some (.tup [.ty n, .ty m])) (ty : TyX K H x (.type t)) (ea : kitB t n = some a) (eb : kitB t m = some b) (q : Q (.bl (a || b)) H) : rIsA K [x, .ref tp] H Q := by
  refine .inr ⟨x, tp, _, _, _, a || b, rfl, h, .cons (.ty n) (.cons (.ty m) .nil), ty, ?_, q⟩
  refine kitAny_cons (kit_ty ea) (fun z => ?_) (fun z => by rw [z]; rfl)
  refine kitAny_cons (kit_ty eb) (fun y => ?_) (fun y => by rw [z, y]; rfl)
  rw [z, y]
  exact kitAny_nil
theorem kit_list_list : kitB "list" "list" = some true := by decide +kernel
theorem kit_list_tuple : kitB "list" "tuple" = some false := by decide +kernel
theorem kit_list_dict : kitB "list" "dict" = some false := by decide +kernel
theorem kit_list_int : kitB "list" "int" = some false := by decide +kernel
theorem kit_list_bool : kitB "list" "bool" = some false := by decide +kernel
theorem kit_list_str : kitB "list" "str" = some false := by decide +kernel
theorem kit_tuple_list : kitB "tuple" "list" = some false := by decide +kernel
theorem kit_tuple_tuple : kitB "tuple" "tuple" = some true := by decide +kernel
theorem kit_tuple_dict : kitB "tuple" "dict" = some false := by decide +kernel
theorem kit_tuple_int : kitB "tuple" "int" = some false := by decide +kernel
theorem kit_tuple_bool : kitB "tuple" "bool" = some false := by decide +kernel
theorem kit_tuple_str : kitB "tuple" "str" = some false := by decide +kernel
theorem kit_dict_list : kitB "dict" "list" = some false := by decide +kernel
theorem kit_dict_tuple : kitB "dict" "tuple" = some false := by decide +kernel
theorem kit_dict_dict : kitB "dict" "dict" = some true := by decide +kernel
theorem kit_dict_int : kitB "dict" "int" = some false := by decide +kernel
theorem kit_dict_bool : kitB "dict" "bool" = some false := by decide +kernel
theorem kit_dict_str : kitB "dict" "str" = some false := by decide +kernel
theorem kit_int_list : kitB "int" "list" = some false := by decide +kernel
theorem kit_int_tuple : kitB "int" "tuple" = some false := by decide +kernel
theorem kit_int_dict : kitB "int" "dict" = some false := by decide +kernel
theorem kit_int_int : kitB "int" "int" = some true := by decide +kernel
theorem kit_int_bool : kitB "int" "bool" = some false := by decide +kernel
theorem kit_int_str : kitB "int" "str" = some false := by decide +kernel
theorem kit_bool_list : kitB "bool" "list" = some false := by decide +kernel
theorem kit_bool_tuple : kitB "bool" "tuple" = some false := by decide +kernel
theorem kit_bool_dict : kitB "bool" "dict" = some false := by decide +kernel
theorem kit_bool_int : kitB "bool" "int" = some true := by decide +kernel
theorem kit_bool_bool : kitB "bool" "bool" = some true := by decide +kernel
theorem kit_bool_str : kitB "bool" "str" = some false := by decide +kernel
theorem kit_str_list : kitB "str" "list" = some false := by decide +kernel
theorem kit_str_tuple : kitB "str" "tuple" = some false := by decide +kernel
theorem kit_str_dict : kitB "str" "dict" = some false := by decide +kernel
theorem kit_str_int : kitB "str" "int" = some false := by decide +kernel
theorem kit_str_bool : kitB "str" "bool" = some false := by decide +kernel
theorem kit_str_str : kitB "str" "str" = some true := by decide +kernel
section
variable {K : PySem.W.Frag} {H : Hp} {Q : VK}
theorem is_list_list {a : Addr} {xs : List V} (h : H a = some (.lst xs)) (q : Q (.bl true) H) : rIsA K [.ref a, .ty "list"] H Q := g_is (.base (.lst h)) kit_list_list q
theorem is_list_tuple {a : Addr} {xs : List V} (h : H a = some (.lst xs)) (q : Q (.bl false) H) : rIsA K [.ref a, .ty "tuple"] H Q := g_is (.base (.lst h)) kit_list_tuple q
theorem is_list_dict {a : Addr} {xs : List V} (h : H a = some (.lst xs)) (q : Q (.bl false) H) : rIsA K [.ref a, .ty "dict"] H Q := g_is (.base (.lst h)) kit_list_dict q
theorem is_list_int {a : Addr} {xs : List V} (h : H a = some (.lst xs)) (q : Q (.bl false) H) : rIsA K [.ref a, .ty "int"] H Q := g_is (.base (.lst h)) kit_list_int q
theorem is_list_bool {a : Addr} {xs : List V} (h : H a = some (.lst xs)) (q : Q (.bl false) H) : rIsA K [.ref a, .ty "bool"] H Q := g_is (.base (.lst h)) kit_list_bool q
theorem is_list_str {a : Addr} {xs : List V} (h : H a = some (.lst xs)) (q : Q (.bl false) H) : rIsA K [.ref a, .ty "str"] H Q := g_is (.base (.lst h)) kit_list_str q
theorem is2_list {a : Addr} {xs : List V} (h : H a = some (.lst xs)) {tp : Addr} (hp : H tp = some (.tup [.ty "list", .ty "tuple"])) (q : Q (.bl true) H) : rIsA K [.ref a, .ref tp] H Q := g_is2 hp (.base (.lst h)) kit_list_list kit_list_tuple q
theorem is_tuple_list {a : Addr} {xs : List V} (h : H a = some (.tup xs)) (q : Q (.bl false) H) : rIsA K [.ref a, .ty "list"] H Q := g_is (.base (.tup h)) kit_tuple_list q
theorem is_tuple_tuple {a : Addr} {xs : List V} (h : H a = some (.tup xs)) (q : Q (.bl true) H) : rIsA K [.ref a, .ty "tuple"] H Q := g_is (.base (.tup h)) kit_tuple_tuple q
theorem is_tuple_dict {a : Addr} {xs : List V} (h : H a = some (.tup xs)) (q : Q (.bl false) H) : rIsA K [.ref a, .ty "dict"] H Q := g_is (.base (.tup h)) kit_tuple_dict q
theorem is_tuple_int {a : Addr} {xs : List V} (h : H a = some (.tup xs)) (q : Q (.bl false) H) : rIsA K [.ref a, .ty "int"] H Q := g_is (.base (.tup h)) kit_tuple_int q
theorem is_tuple_bool {a : Addr} {xs : List V} (h : H a = some (.tup xs)) (q : Q (.bl false) H) : rIsA K [.ref a, .ty "bool"] H Q := g_is (.base (.tup h)) kit_tuple_bool q
theorem is_tuple_str {a : Addr} {xs : List V} (h : H a = some (.tup xs)) (q : Q (.bl false) H) : rIsA K [.ref a, .ty "str"] H Q := g_is (.base (.tup h)) kit_tuple_str q
theorem is2_tuple {a : Addr} {xs : List V} (h : H a = some (.tup xs)) {tp : Addr} (hp : H tp = some (.tup [.ty "list", .ty "tuple"])) (q : Q (.bl true) H) : rIsA K [.ref a, .ref tp] H Q := g_is2 hp (.base (.tup h)) kit_tuple_list kit_tuple_tuple q
theorem is_dict_list {a : Addr} {kvs : List (Key × V)} (h : H a = some (.dK kvs)) (q : Q (.bl false) H) : rIsA K [.ref a, .ty "list"] H Q := g_is (.base (.dK h)) kit_dict_list q
theorem is_dict_tuple {a : Addr} {kvs : List (Key × V)} (h : H a = some (.dK kvs)) (q : Q (.bl false) H) : rIsA K [.ref a, .ty "tuple"] H Q := g_is (.base (.dK h)) kit_dict_tuple q
theorem is_dict_dict {a : Addr} {kvs : List (Key × V)} (h : H a = some (.dK kvs)) (q : Q (.bl true) H) : rIsA K [.ref a, .ty "dict"] H Q := g_is (.base (.dK h)) kit_dict_dict q
theorem is_dict_int {a : Addr} {kvs : List (Key × V)} (h : H a = some (.dK kvs)) (q : Q (.bl false) H) : rIsA K [.ref a, .ty "int"] H Q := g_is (.base (.dK h)) kit_dict_int q
theorem is_dict_bool {a : Addr} {kvs : List (Key × V)} (h : H a = some (.dK kvs)) (q : Q (.bl false) H) : rIsA K [.ref a, .ty "bool"] H Q := g_is (.base (.dK h)) kit_dict_bool q
theorem is_dict_str {a : Addr} {kvs : List (Key × V)} (h : H a = some (.dK kvs)) (q : Q (.bl false) H) : rIsA K [.ref a, .ty "str"] H Q := g_is (.base (.dK h)) kit_dict_str q
theorem is2_dict {a : Addr} {kvs : List (Key × V)} (h : H a = some (.dK kvs)) {tp : Addr} (hp : H tp = some (.tup [.ty "list", .ty "tuple"])) (q : Q (.bl false) H) : rIsA K [.ref a, .ref tp] H Q := g_is2 hp (.base (.dK h)) kit_dict_list kit_dict_tuple q
theorem is_int_list {i : Int} (q : Q (.bl false) H) : rIsA K [.int i, .ty "list"] H Q := g_is (.base (.int i)) kit_int_list q
theorem is_int_tuple {i : Int} (q : Q (.bl false) H) : rIsA K [.int i, .ty "tuple"] H Q := g_is (.base (.int i)) kit_int_tuple q
theorem is_int_dict {i : Int} (q : Q (.bl false) H) : rIsA K [.int i, .ty "dict"] H Q := g_is (.base (.int i)) kit_int_dict q
theorem is_int_int {i : Int} (q : Q (.bl true) H) : rIsA K [.int i, .ty "int"] H Q := g_is (.base (.int i)) kit_int_int q
theorem is_int_bool {i : Int} (q : Q (.bl false) H) : rIsA K [.int i, .ty "bool"] H Q := g_is (.base (.int i)) kit_int_bool q
theorem is_int_str {i : Int} (q : Q (.bl false) H) : rIsA K [.int i, .ty "str"] H Q := g_is (.base (.int i)) kit_int_str q
theorem is2_int {i : Int} {tp : Addr} (hp : H tp = some (.tup [.ty "list", .ty "tuple"])) (q : Q (.bl false) H) : rIsA K [.int i, .ref tp] H Q := g_is2 hp (.base (.int i)) kit_int_list kit_int_tuple q
theorem is_bool_list {b : Bool} (q : Q (.bl false) H) : rIsA K [.bl b, .ty "list"] H Q := g_is (.base (.bl b)) kit_bool_list q
theorem is_bool_tuple {b : Bool} (q : Q (.bl false) H) : rIsA K [.bl b, .ty "tuple"] H Q := g_is (.base (.bl b)) kit_bool_tuple q
theorem is_bool_dict {b : Bool} (q : Q (.bl false) H) : rIsA K [.bl b, .ty "dict"] H Q := g_is (.base (.bl b)) kit_bool_dict q
theorem is_bool_int {b : Bool} (q : Q (.bl true) H) : rIsA K [.bl b, .ty "int"] H Q := g_is (.base (.bl b)) kit_bool_int q
theorem is_bool_bool {b : Bool} (q : Q (.bl true) H) : rIsA K [.bl b, .ty "bool"] H Q := g_is (.base (.bl b)) kit_bool_bool q
theorem is_bool_str {b : Bool} (q : Q (.bl false) H) : rIsA K [.bl b, .ty "str"] H Q := g_is (.base (.bl b)) kit_bool_str q
theorem is2_bool {b : Bool} {tp : Addr} (hp : H tp = some (.tup [.ty "list", .ty "tuple"])) (q : Q (.bl false) H) : rIsA K [.bl b, .ref tp] H Q := g_is2 hp (.base (.bl b)) kit_bool_list kit_bool_tuple q
theorem is_str_list {z : Str} (q : Q (.bl false) H) : rIsA K [.str z, .ty "list"] H Q := g_is (.base (.str z)) kit_str_list q
theorem is_str_tuple {z : Str} (q : Q (.bl false) H) : rIsA K [.str z, .ty "tuple"] H Q := g_is (.base (.str z)) kit_str_tuple q
theorem is_str_dict {z : Str} (q : Q (.bl false) H) : rIsA K [.str z, .ty "dict"] H Q := g_is (.base (.str z)) kit_str_dict q
theorem is_str_int {z : Str} (q : Q (.bl false) H) : rIsA K [.str z, .ty "int"] H Q := g_is (.base (.str z)) kit_str_int q
theorem is_str_bool {z : Str} (q : Q (.bl false) H) : rIsA K [.str z, .ty "bool"] H Q := g_is (.base (.str z)) kit_str_bool q
theorem is_str_str {z : Str} (q : Q (.bl true) H) : rIsA K [.str z, .ty "str"] H Q := g_is (.base (.str z)) kit_str_str q
theorem is2_str {z : Str} {tp : Addr} (hp : H tp = some (.tup [.ty "list", .ty "tuple"])) (q : Q (.bl false) H) : rIsA K [.str z, .ref tp] H Q := g_is2 hp (.base (.str z)) kit_str_list kit_str_tuple q
end
section
variable {K : PySem.W.Frag} {σ : L2.St} {F : Hp} {O O' : Own} {H : Hp} {Q : VK} {x y v : V}
theorem g_neB {i j : Bool} (q : Q (.bl (!decide (i = j))) H) : rNeA K (.bl i) (.bl j) H Q := .inl ⟨rfl, by rw [dec_bl, Bool.beq_eq_decide_eq]; exact q⟩
theorem g_eqB {i j : Bool} (q : Q (.bl (decide (i = j))) H) : rEqA K (.bl i) (.bl j) H Q := .inl ⟨rfl, by rw [dec_bl, Bool.beq_eq_decide_eq]; exact q⟩
/-! ### insert, max, the last item -/
def rInsert : V → List V → Hp → VK → Prop := fun x vs H Q => ∃ (l : Addr) (xs : List V) (i : Int) (y : V), x = .ref l ∧ vs = [.int i, y] ∧ H l = some (.lst xs) ∧ xs.length < sizeLine ∧ 0 ≤ i ∧ i < 2 ^ 63 ∧ Q .non (upd H l (.lst (xs.take i.toNat ++ [y] ++ xs.drop i.toNat)))
theorem mt_insertA {X : Cx} : MtR X "list.insert" rInsert := mt_insert
theorem g_insert {a : Addr} {xs : List V} {i : Int} (hH : Has F O H) (c : Chg O a (.lst xs) (.lst (xs.take i.toNat ++ [y] ++ xs.drop i.toNat)) O') (hl : xs.length < sizeLine) (h0 : 0 ≤ i) (h1 : i < 2 ^ 63) (q : ∀ H', Has F O' H' → Q .non H') : rInsert (.ref a) [.int i, y] H Q :=
  ⟨a, xs, i, y, rfl, rfl, hH.get c.mem, hl, h0, h1, q _ (hH.put c)⟩
theorem cr_maxK {X : Cx} (K : PySem.W.Frag) (hc : X.calm = true) (e : X.K = K := by rfl) : CallR X (.builtin "max") (rMax K) := by subst e; exact cr_max hc
theorem g_max {a : Addr} {ns : List Int} (h : H a = some (.lst (ns.map V.int))) (hl : 0 < ns.length) (q : ∀ m, m ∈ ns → (∀ y, y ∈ ns → y ≤ m) → Q (.int m) H) : rMax K [.ref a] H Q := ⟨a, ns, rfl, SqL.of h, hl, q⟩
theorem g_ixLast {a : Addr} {xs : List V} {v : V} (h : H a = some (.lst xs)) (hl : xs.getLast? = some v) (q : Q v H) : rIxA K (.ref a) (.int (-1)) H Q := by
  obtain ⟨ys, rfl⟩ := List.getLast?_eq_some_iff.mp hl
  exact g_ixL h (atI_last ys v) q
end
theorem cutV_nat (xs : List V) (a b : Nat) : cutV xs (some (a : Int)) (some (b : Int)) = (xs.drop a).take (b - a) := by
  unfold cutV
  rw [HT.sIx_nat, HT.sIx_nat]
  by_cases h : a ≤ xs.length
  · rw [Nat.min_eq_left h]
    rcases Nat.le_total b xs.length with hb | hb
    · rw [Nat.min_eq_left hb]
    · rw [Nat.min_eq_right hb, List.take_of_length_le (by rw [List.length_drop]; omega), List.take_of_length_le (by rw [List.length_drop]; omega)]
  · rw [Nat.min_eq_right (show xs.length ≤ a by omega), List.drop_of_length_le (Nat.le_refl _), List.drop_of_length_le (show xs.length ≤ a by omega), List.take_nil, List.take_nil]
theorem cutV_from (xs : List V) (a : Nat) : cutV xs (some (a : Int)) none = xs.drop a := by
  unfold cutV
  rw [HT.sIx_nat, HT.sIx_none]
  by_cases h : a ≤ xs.length
  · rw [Nat.min_eq_left h, List.take_of_length_le (by rw [List.length_drop]; omega)]
  · rw [Nat.min_eq_right (show xs.length ≤ a by omega), List.drop_of_length_le (Nat.le_refl _), List.drop_of_length_le (show xs.length ≤ a by omega), List.take_nil]
theorem cutV_to (xs : List V) (b : Nat) : cutV xs none (some (b : Int)) = xs.take b := by
  unfold cutV
  rw [HT.sIx_none, HT.sIx_nat, List.drop_zero, Nat.sub_zero]
  rcases Nat.le_total b xs.length with hb | hb
  · rw [Nat.min_eq_left hb]
  · rw [Nat.min_eq_right hb, List.take_length, List.take_of_length_le hb]
/-! ### a def that adds to what stands still -/
def Grow (F H F' : Hp) : Prop := Same F F' ∧ ∀ b, H b ≠ none → F' b = F b
theorem Has.grown {F F' H H' : Hp} {O O' : Own} {a : Addr} {o o' : HO} (h : Has F O H) (c : Chg O a o o' O') (hb : But a H H') (g : Grow F H F') (s : Same F' H') (e : H' a = some o') : Has F' O' H' := by
  have h' := h.but c hb e
  refine ⟨s, fun q hq => ⟨?_, (h'.own q hq).2⟩, h'.nd⟩
  rcases c.own h.nd q hq with rfl | ⟨m, _⟩
  · rw [g.2 a (by rw [h.get c.mem]; exact fun z => by cases z)]
    exact (h.own _ c.mem).1
  · rw [g.2 q.1 (by rw [(h.own q m).2]; exact fun z => by cases z)]
    exact (h.own q m).1

section
variable {K : PySem.W.Frag} {H : Hp} {Q : VK}
theorem g_ixVT {a : Addr} {xs : List V} {i : Int} (h : H a = some (.tup xs)) (h0 : 0 ≤ i) (hl : i < xs.length) (q : ∀ v, xs[i.toNat]? = some v → Q v H) : rIxA K (.ref a) (.int i) H Q := by
  have e : i.toNat < xs.length := by omega
  exact g_ixT h (at_n h0 (List.getElem?_eq_getElem e)) (q _ (List.getElem?_eq_getElem e))
theorem is2_non {tp : Addr} (hp : H tp = some (.tup [.ty "list", .ty "tuple"])) (q : Q (.bl false) H) : rIsA K [.non, .ref tp] H Q := g_is2 hp (.base .non) (by decide +kernel : kitB "NoneType" "list" = some false) (by decide +kernel : kitB "NoneType" "tuple" = some false) q
end

theorem i_nf {A B : Prop} (h : A) : if (!false) = true then A else B := by
  show (if true = true then A else B)
  rw [if_pos rfl]
  exact h
theorem i_nt {A B : Prop} (h : B) : if (!true) = true then A else B := by
  show (if false = true then A else B)
  rw [if_neg Bool.false_ne_true]
  exact h

/-- ways that meet: what holds where they meet -/
theorem g_join {t : TS} {D : Ends} {σ : L2.St} {H : Hp} (M : L2.St → Hp → Prop) (h : ∀ σ' H', M σ' H' → D.nx σ' H') (q : (∀ σ' H', M σ' H' → D.nx σ' H') → t D σ H) : t D σ H := q h

/-! ### all that is not owned stands still from now on -/
def rmO (O : Own) (H : Hp) : Hp := fun b => if b ∈ O.map (·.1) then none else H b
section
variable {F H : Hp} {O : Own}
theorem Has.re (h : Has F O H) : Has (rmO O H) O H := by
  refine ⟨fun b u e => ?_, fun p hp => ⟨if_pos (List.mem_map.mpr ⟨p, hp, rfl⟩), (h.own p hp).2⟩, h.nd⟩
  unfold rmO at e
  split at e
  · cases e
  · exact e
theorem Has.reF (h : Has F O H) : Same F (rmO O H) := fun b u e => by
  unfold rmO
  rw [if_neg]
  · exact h.same b u e
  · intro m
    obtain ⟨p, hp, rfl⟩ := List.mem_map.mp m
    rw [(h.own p hp).1] at e
    cases e
theorem Has.re_of (h : Has F O H) {b : Addr} {u : HO} (e : H b = some u) (ne : ∀ p ∈ O, p.2 ≠ u) : rmO O H b = some u := by
  unfold rmO
  rw [if_neg]
  · exact e
  · intro m
    obtain ⟨p, hp, rfl⟩ := List.mem_map.mp m
    rw [(h.own p hp).2] at e
    exact ne p hp (Option.some.inj e)
end

section
variable {K : PySem.W.Frag} {σ : L2.St} {F : Hp} {O O' : Own} {H : Hp} {Q : VK} {x y v : V} {ta te : TE}
theorem g_ixDI {a : Addr} {kvs : List (Key × V)} {i : Int} (h : H a = some (.dK kvs)) (hv : valV kvs (.inl i) = some v) (q : Q v H) : rIxA K (.ref a) (.int i) H Q := .inr ⟨a, v, rfl, hv ▸ DGet.k (k := .inl i) h, q⟩
theorem g_ixDS {a : Addr} {kvs : List (Key × V)} {i : Str} (h : H a = some (.dK kvs)) (hv : valV kvs (.inr i) = some v) (q : Q v H) : rIxA K (.ref a) (.str i) H Q := .inr ⟨a, v, rfl, hv ▸ DGet.k (k := .inr i) h, q⟩
/-! ### [*xs, y]; if xs:; dict(pairs) -/
def kStar (K : PySem.W.Frag) (t : TA) (σ : L2.St) (x : V) (H : Hp) (Q : List V → Hp → Prop) : Prop := ∃ p xs, x = V.ref p ∧ (SqT K H p xs ∨ SqL K H p xs) ∧ t σ H fun ys H2 => Q (xs ++ ys) H2
theorem g_star {t : TA} {QA : List V → Hp → Prop} (q : te σ H fun x H1 => kStar K t σ x H1 QA) : StX.tStar K te t σ H QA := q
theorem g_kstarL {t : TA} {QA : List V → Hp → Prop} {a : Addr} {xs : List V} (h : H a = some (.lst xs)) (q : t σ H fun ys H2 => QA (xs ++ ys) H2) : kStar K t σ (.ref a) H QA := ⟨a, xs, rfl, .inr (SqL.of h), q⟩
theorem g_kstarT {t : TA} {QA : List V → Hp → Prop} {a : Addr} {xs : List V} (h : H a = some (.tup xs)) (q : t σ H fun ys H2 => QA (xs ++ ys) H2) : kStar K t σ (.ref a) H QA := ⟨a, xs, rfl, .inl (SqT.of h), q⟩
theorem k_star {X : Cx} {es : List Expr} {t : TA} {ex : Expr} {p : Pos} (K : PySem.W.Frag) (h : PA X (.Starred ex p :: es) (StX.tStar X.K te t)) (e : X.K = K := by rfl) : PA X (.Starred ex p :: es) (StX.tStar K te t) := by subst e; exact h
def kTru (K : PySem.W.Frag) (x : V) (H : Hp) (R : Bool → Hp → Prop) : Prop := ∃ k, TruV K x H k ∧ R k H
def tTru (K : PySem.W.Frag) (te : TE) : TT := fun σ H R => te σ H fun x H1 => kTru K x H1 R
theorem pt_tru {X : Cx} {a : Expr} (K : PySem.W.Frag) (ha : PE X a ta) (he : ∀ whole, isTrue a X.env whole = (do let v ← whole; standAt a.pos; holding [v] (truthy v)) := by intro _; rfl) (e : X.K = K := by rfl) : PT X a (tTru K ta) := by subst e; exact pt_truth ha he
theorem g_tru {R : Bool → Hp → Prop} (q : te σ H fun x H1 => kTru K x H1 R) : tTru K te σ H R := q
theorem g_truL {R : Bool → Hp → Prop} {a : Addr} {xs : List V} (h : H a = some (.lst xs)) (q : R (!xs.isEmpty) H) : kTru K (.ref a) H R := ⟨_, .inl ⟨xs, SqL.of h, rfl⟩, q⟩
def rDictP (K : PySem.W.Frag) : List V → Hp → VK → Prop := fun xs H Q => ∃ (a : Addr) (ps : List Addr) (kvs : List (Key × V)), xs = [.ref a] ∧ SqL K H a (ps.map V.ref) ∧ Paired (fun p kv => SqT K H p [kV kv.1, kv.2]) ps kvs ∧ ∀ p, H p = none → Q (.ref p) (upd H p (.dK (mergeK [] kvs)))
theorem cr_dictP {X : Cx} (K : PySem.W.Frag) (hc : X.calm = true) (e : X.K = K := by rfl) : CallR X (.type "dict") (rDictP K) := by subst e; exact call_dictP hc
theorem g_dictP {a : Addr} {ps : List Addr} {kvs : List (Key × V)} (h : H a = some (.lst (ps.map V.ref))) (hp : Paired (fun p kv => SqT K H p [kV kv.1, kv.2]) ps kvs) (hH : Has F O H) (q : ∀ p H', H p = none → Has F ((p, .dK (mergeK [] kvs)) :: O) H' → Q (.ref p) H') : rDictP K [.ref a] H Q :=
  ⟨a, ps, kvs, rfl, SqL.of h, hp, fun p n => q p _ n (hH.new n)⟩
end
/-! ### data without lists; tuples of ints; pairs to a dict -/
mutual
def noL : PyData → Bool
  | .list _ => false
  | .dict _ => false
  | .tuple ds => noLs ds
  | _ => true
def noLs : List PyData → Bool
  | [] => true
  | d :: ds => noL d && noLs ds
end
theorem noLs_mem : ∀ {ds : List PyData}, (∀ d ∈ ds, noL d = true) → noLs ds = true
  | [], _ => by rw [noLs]
  | d :: ds, h => by
    rw [noLs, h d List.mem_cons_self, noLs_mem fun x hx => h x (List.mem_cons_of_mem _ hx)]
    rfl
mutual
theorem Dq.keep {H H' : Hp} (e : ∀ b xs, H b = some (.tup xs) → H' b = some (.tup xs)) : ∀ (d : PyData) (v : V), noL d = true → Dq H v d → Dq H' v d
  | _, _, _, .non => .non
  | _, _, _, .bl b => .bl b
  | _, _, _, .int i => .int i
  | _, _, _, .str x => .str x
  | .list ds, _, n, .lst s a => by rw [noL] at n; cases n
  | .tuple ds, _, n, .tup s a => .tup (e _ _ s) (DqAll.keep e ds _ (by rw [noL] at n; exact n) a)
theorem DqAll.keep {H H' : Hp} (e : ∀ b xs, H b = some (.tup xs) → H' b = some (.tup xs)) : ∀ (ds : List PyData) (vs : List V), noLs ds = true → DqAll H vs ds → DqAll H' vs ds
  | _, _, _, .nil => .nil
  | d :: ds, _, n, .cons h t => by
    rw [noLs, Bool.and_eq_true] at n
    exact .cons (Dq.keep e d _ n.1 h) (DqAll.keep e ds _ n.2 t)
end
theorem Has.keep {F H : Hp} {O : Own} (h : Has F O H) (ho : ∀ p ∈ O, ∀ xs, p.2 ≠ .tup xs) {ds : List PyData} {vs : List V} (n : ∀ d ∈ ds, noL d = true) (d : DqAll H vs ds) : DqAll (rmO O H) vs ds :=
  d.keep (fun _ _ e => h.re_of e fun p hp => ho p hp _) _ _ (noLs_mem n)
theorem eqv_tints (xs ys : List Int) : PyData.eqv (.tuple (xs.map PyData.int)) (.tuple (ys.map PyData.int)) = decide (xs = ys) := by
  rw [PyData.eqv, eqvAll_ints]
theorem eqv_tstrs (xs ys : List Str) : PyData.eqv (.tuple (xs.map PyData.str)) (.tuple (ys.map PyData.str)) = decide (xs = ys) := by
  rw [PyData.eqv, eqvAll_strs]
theorem ixN_last (n : Nat) : ixN (n + 1) (-1) = some n := by
  unfold ixN
  rw [if_neg (by decide), if_pos (by omega)]
  congr 1
  omega
theorem valV_merge (i : Key) : ∀ (kvs acc : List (Key × V)), valV (mergeK acc kvs) i = (valV kvs.reverse i).or (valV acc i)
  | [], acc => by simp [mergeK, valV]
  | p :: r, acc => by
    show valV (mergeK (putK acc p.1 p.2) r) i = _
    rw [valV_merge i r, valV_put, List.reverse_cons]
    unfold valV
    rw [List.find?_append]
    cases h : r.reverse.find? fun kv => decide (kv.1 = i) with
    | some x => simp
    | none =>
      by_cases e : p.1 = i
      · simp [List.find?_cons, e]
      · rw [if_neg (fun z => e z.symm)]; simp [List.find?_cons, e]
def kLcR2 (g : TG) (tt : TT) (te : TE) (ws : List Nat) (σ : L2.St) (vs : List V) (H : Hp) (Q : VK) : Prop := ∃ i j : Int, vs = [.int i, .int j] ∧ (-(2 ^ 62) ≤ i ∧ i < 2 ^ 62 ∧ -(2 ^ 62) ≤ j ∧ j < 2 ^ 62) ∧ kLc (Itr i (j - i).toNat) g tt te ws σ H Q
section
variable {K : PySem.W.Frag} {σ : L2.St} {F : Hp} {O O' : Own} {H : Hp} {Q : VK} {x y v : V} {ta te : TE} {g : TG}
theorem g_lcR2 {ta : TA} {tt : TT} {vs : List Nat} (q : ta σ H fun xs H1 => kLcR2 g tt te vs σ xs H1 Q) : tLc (iRng2 ta) g tt te vs σ H Q := q
theorem k_lcR2 {lo j : Int} {tt : TT} {vs : List Nat} (h0 : -(2 ^ 62) ≤ lo ∧ lo < 2 ^ 62 ∧ -(2 ^ 62) ≤ j ∧ j < 2 ^ 62) (hH : Has F O H) (S : Nat → List V → Hp → Own → Prop) (h0 : S 0 [] F O)
    (hs : ∀ i acc F O D H, i < (j - lo).toNat → S i acc F O → Has F ((D, .lst acc) :: O) H → g (.int (lo + (i : Nat))) (wipe σ vs) H fun σ2 H2 => wipe σ2 vs = wipe σ vs ∧ tt σ2 H2 fun b H3 => if b = true then te σ2 H3 fun y H4 => kTurn D (kNx S i D) y H4 else kNx S i D H3)
    (hd : ∀ acc F O D H, S (j - lo).toNat acc F O → Has F ((D, .lst acc) :: O) H → Q (.ref D) H) : kLcR2 g tt te vs σ [.int lo, .int j] H Q := by
  refine ⟨lo, j, rfl, by assumption, k_lc hH (j - lo).toNat S h0 (fun i acc F O D H hi s hh => hi) (fun acc F O D H s hh => Nat.le_refl _) (fun i x acc F O D H H' hi y s hh => ?_) hd⟩
  obtain ⟨e, y⟩ := y
  subst e y
  exact hs i acc F O D _ hi s hh
theorem g_truT {R : Bool → Hp → Prop} {a : Addr} {xs : List V} (h : H a = some (.tup xs)) (q : R (!xs.isEmpty) H) : kTru K (.ref a) H R := ⟨_, .inr (.inl ⟨xs, SqT.of h, rfl⟩), q⟩
end
/-! ### list.extend by a list, by a tuple -/
theorem ext_tup (l : Addr) (items : Array Value) (n : Nat) (b : Addr) (items2 : Array Value) (n2 : Nat) (d0 : Option Addr) (sl : Array (Option Value)) (hs0 : ¬(!items.isEmpty && Builtin.List.listTooLong (items.size + items2.size)) = true) (hs1 : items.size ≤ sizeLine) (hs2 : items.size + items2.size ≤ sizeLine + 1) :
    Meets (Builtin.«list.extend» ⟨[.ref l, .ref b], []⟩) (fun _ R s => s.heap.get? l = some { cls := .type "list", dict := none, data := .seq items n, slots := #[] } ∧ s.heap.get? b = some { cls := .type "tuple", dict := d0, data := .seq items2 n2, slots := sl } ∧ R (.ok (.ret Value.none)) { s with heap := s.heap.update l (Obj.mapSeq fun x => x ++ items2), toks := s.toks }) :=
  .of_wp fun prog w A R s h => by
    obtain ⟨hp, g, d, tk, os⟩ := s
    obtain ⟨hl, hb, h⟩ := h
    have f1 := PySem.AutoSeq1.sub_tuple_tuple
    have f2 := PySem.AutoSeq1.sub_list_list
    have f3 := PySem.AutoSeq1.sub_tuple_list
    have f4 := PySem.AutoSeq1.sub_list_tuple
    have hz' : (items ++ items2).size ≤ sizeLine + 1 := by rw [Array.size_append]; exact hs2
    wp_walk using (wpAny_updateSeq hl rfl (hz := hs1) (_hz' := hz')), PySem.AutoSeq1.wpAny_loadPart' hl, PySem.AutoSeq1.wpAny_loadPart' hb
    exact ⟨_, rfl, h⟩
section
variable {X : Cx}
def rExtendT (K : PySem.W.Frag) : V → List V → Hp → VK → Prop := fun x vs H Q => ∃ l b xs zs, x = .ref l ∧ vs = [.ref b] ∧ H l = some (.lst xs) ∧ SqT K H b zs ∧ xs.length + zs.length ≤ sizeLine ∧ Q .non (upd H l (.lst (xs ++ zs)))
theorem mt_extendT : MtM X "list.extend" (rExtendT X.K) := by
  intro pins s σ H x vs v us Q I rx rv h
  obtain ⟨l, b, xs, zs, rfl, rfl, hH, hB, hz, q⟩ := h
  cases rx
  obtain ⟨u, rfl, ru⟩ := rv.one
  cases ru
  obtain ⟨z, its, n, r, hl, e⟩ := I.lstM hH
  obtain ⟨its2, r2, ⟨⟨cl, dc, da, so⟩, e2, hc, n2, hd⟩, z2⟩ := I.tuple hB
  have hc : cl = .type "tuple" := hc
  have hd : da = .seq its2.toArray n2 := hd
  subst hc hd
  have hl2 := r2.length
  have hsz : its.toArray.size + its2.toArray.size ≤ sizeLine := by rw [List.size_toArray, List.size_toArray]; omega
  have hlong : ¬ (!its.toArray.isEmpty && Builtin.List.listTooLong (its.toArray.size + its2.toArray.size)) = true := by
    rw [notLongL hsz, Bool.and_false]
    exact Bool.false_ne_true
  refine call_meets F.slot_list_extend ⟨_, e, rfl⟩ F.entry_list_extend (F.args_list_extend_2 _ _) (ext_tup l its.toArray n b its2.toArray n2 dc so hlong (by rw [List.size_toArray]; omega) (by omega)) ⟨e, e2, ?_⟩
  refine ⟨.non, _, I.lset (its' := its ++ its2) hH e (by simp) (r.append r2) ?_, rfl, q⟩
  rw [List.length_append]
  omega
def rExtendA (K : PySem.W.Frag) : V → List V → Hp → VK → Prop := fun x vs H Q => rExtend x vs H Q ∨ rExtendT K x vs H Q
theorem mt_extendA (K : PySem.W.Frag) (e : X.K = K := by rfl) : MtR X "list.extend" (rExtendA K) := by
  subst e
  intro pins s σ H x vs v us Q I rx rv h
  rcases h with h | h
  · exact mt_extend pins s σ H x vs v us Q I rx rv h
  · exact mt_extendT pins s σ H x vs v us Q I rx rv h
end
section
variable {K : PySem.W.Frag} {F : Hp} {O O' : Own} {H : Hp} {Q : VK}
theorem g_extL {a b : Addr} {xs zs : List V} (hH : Has F O H) (hb : H b = some (.lst zs)) (c : Chg O a (.lst xs) (.lst (xs ++ zs)) O') (hl : xs.length + zs.length ≤ sizeLine) (q : ∀ H', Has F O' H' → Q .non H') : rExtendA K (.ref a) [.ref b] H Q :=
  .inl ⟨a, b, xs, zs, rfl, rfl, hH.get c.mem, hb, hl, q _ (hH.put c)⟩
theorem g_extT {a b : Addr} {xs zs : List V} (hH : Has F O H) (hb : H b = some (.tup zs)) (c : Chg O a (.lst xs) (.lst (xs ++ zs)) O') (hl : xs.length + zs.length ≤ sizeLine) (q : ∀ H', Has F O' H' → Q .non H') : rExtendA K (.ref a) [.ref b] H Q :=
  .inr ⟨a, b, xs, zs, rfl, rfl, hH.get c.mem, SqT.of hb, hl, q _ (hH.put c)⟩
end
theorem Has.made2 {F H H' : Hp} {O : Own} {p l : Addr} {o u : HO} (h : Has F O H) (np : H p = none) (nl : H l = none) (s : Same H H') (ep : H' p = some o) (el : H' l = some u) (ne : p ≠ l) : Has F ((p, o) :: (l, u) :: O) H' := by
  have h1 := h.made nl s el
  refine ⟨h1.same, fun q hq => ?_, ?_⟩
  · rcases List.mem_cons.mp hq with rfl | hq
    · exact ⟨h.same.free np, ep⟩
    · exact h1.own q hq
  · rw [List.map_cons]
    refine List.nodup_cons.mpr ⟨fun m => ?_, h1.nd⟩
    obtain ⟨q, hq, e⟩ := List.mem_map.mp m
    rcases List.mem_cons.mp hq with rfl | hq
    · exact ne e.symm
    · have := (h.own q hq).2
      rw [e, np] at this
      cases this
end Qk

namespace Qk
open PySem PySem.Spec PyProof.Rows L2

/-! ### defs that raise -/
section
variable {P : Program} {w : World} {K : PySem.W.Frag} {mg : Str → Option Value} {base : Heap}
theorem Fun.okN {x qual : Str} {st : Stmt} {f : Addr} {fd : FuncData} {N ps : List Str} {k : Nat} {sp : Sp} (F : Fun K x qual st f fd) (S : FnScope N ps (defScope st)) (len : ∀ vs H Q E, sp vs H Q E → vs.length = ps.length)
    (hbody : ∀ (cdv : Value) (A : Around) (outer : List Env) (s : Shared) (H : Hp) (vs : List V) (Q : VK) (E : XK), Room k (A.deeper (envOfC qual (defScope st) s.heap.objs.size f cdv)) → sp vs H Q E →
      ∃ t, PSs (cxOf (L2N.CX P w) P w K mg base N qual (defScope st) f cdv A outer s H E) (defBody st) t ∧ t { nx := fun _ H' => Q .non H', rt := Q } (start N vs) H) : FnOk P w K mg base (L2N.CX P w) (k + 1) f fd ps sp := by
  obtain ⟨oc, od, kV, doc, pm, an, cdv, ct, osl, rfl, lk, hcd⟩ := F.ex
  exact fn_of lk hcd S len fun A outer s H vs Q E hr hsp => hbody cdv A outer s H vs Q E hr hsp
/-- a def that is called in a suite -/
theorem Fun.okH {x qual : Str} {st : Stmt} {f : Addr} {fd : FuncData} {N ps : List Str} {k : Nat} {sp : Sp} (F : Fun K x qual st f fd) (S : FnScope N ps (defScope st)) (len : ∀ vs H Q E, sp vs H Q E → vs.length = ps.length)
    (hbody : ∀ (cdv : Value) (A : Around) (outer : List Env) (s : Shared) (H : Hp) (vs : List V) (Q : VK) (E : XK) (p : Addr × Obj), L2H.Hot1 A p → L2H.RoomH k (A.deeper (envOfC qual (defScope st) s.heap.objs.size f cdv)) → sp vs H Q E →
      ∃ t, PSs (L2H.cxH CX0 P w K mg base N qual (defScope st) f cdv A outer s H E p) (defBody st) t ∧ t { nx := fun _ H' => Q .non H', rt := Q } (start N vs) H) : L2H.FnH P w K mg base CX0 (k + 1) f fd ps sp := by
  obtain ⟨oc, od, kV, doc, pm, an, cdv, ct, osl, rfl, lk, hcd⟩ := F.ex
  exact L2H.fn_ofH lk hcd S len fun A outer s H vs Q E p hot hr hsp => hbody cdv A outer s H vs Q E p hot hr hsp
end
theorem passN {X : Cx} : Passes (L2N.CX X.prog X.w) X E0 := fun _ _ _ _ _ _ _ h => by
  obtain ⟨_, _, _, _, _, _, _, _, _, _, _, _, z⟩ := h
  exact z.elim
theorem takesN {X : Cx} : L2N.Takes X (fun _ _ _ _ => False) := fun _ _ x => by
  obtain ⟨_, _, _, _, _, _, _, _, _, _, _, _, _, _, _, _, z⟩ := x
  exact z.elim

theorem _root_.L2H.RoomH.units {k : Nat} {A : Around} (r : L2H.RoomH k A) : A.units + 64 < cLine := by
  have := r.un
  omega
theorem roomS {k j : Nat} {A : Around} {h : Option Value} (r : Room k A) (e : j ≤ k) : L2H.RoomH j (A.mark h) := by
  have h1 := r.dp
  have h2 := r.un
  exact ⟨by show A.depth + 3 * j + 5 < _; omega, by show A.units + 16 * j + 200 < _; omega⟩
theorem huH {k : Nat} {A : Around} (r : L2H.RoomH k A) : A.units + 1 < cLine := by
  have := r.un
  omega
theorem u65H {k : Nat} {A : Around} (r : L2H.RoomH k A) : A.units + 65 < cLine := by
  have := r.un
  omega
/-- ways that meet in one heap fact: refine' g_merge (F := F) (O := O) (R := _) ?a ?b -/
theorem g_merge {F : Hp} {O : Own} {G : Prop} {R : Hp → Prop} (h1 : (∀ H', Has F O H' → R H') → G) (h2 : ∀ H', Has F O H' → R H') : G := h1 h2
theorem g_merge2 {α : Type} {G : Prop} {R : α → Hp → Prop} (P : α → Hp → Prop) (h1 : (∀ x H', P x H' → R x H') → G) (h2 : ∀ x H', P x H' → R x H') : G := h1 h2
theorem g_mergeP {F : Hp} {O : Own} {P G : Prop} {R : Hp → Prop} (h1 : (∀ H', Has F O H' → P → R H') → G) (h2 : ∀ H', Has F O H' → P → R H') : G := h1 h2
/-- a constant of the program's text -/
theorem pe_gc {X : Cx} {x : Str} {pos : Pos} {v : V} (hg : Gl X x) (h : ∃ u, X.mg x = some u ∧ RelV v u) (hd : (x == ("__debug__" : Str)) = false := by decide) : PE X (.Name x pos) (tC v) := by
  obtain ⟨u, hm, r⟩ := h
  exact pe_glob hg hm r hd
/-! ### raise C(e, ..) -/
section
variable {X : Cx} {pins : List (Addr × Obj)} {σ : L2.St} {H : Hp} {hp : Heap} {g : Array GenState} {dr : Drawn} {tk : Nat} {os : OsState} {C : Addr}
/-- the tuple of the arguments and the bare exception laid behind the heap -/
abbrev barePut (hp : Heap) (C : Addr) (us : List Value) : Heap := (hp.push (PySem.W.kdv_tup us)).push (PySem.HandSPX.excO C hp.objs.size)
theorem barePut_keeps {us : List Value} (b : Addr) (o : Obj) (e : hp.get? b = some o) : (barePut hp C us).get? b = some o := Heap.get?_push_of_some _ (Heap.get?_push_of_some _ e)
theorem barePut_inv (I : Inv X pins σ H ⟨hp, g, dr, tk, os⟩) (us : List Value) : Inv X pins σ (upd H (hp.objs.size + 1) (exo (hp.objs.size + 1) C none)) ⟨barePut hp C us, g, dr, tk, os⟩ := by
  refine I.laid (t' := tk) barePut_keeps (Nat.le_succ _) (exo_ok (t1 := hp.objs.size) ?_)
  unfold barePut
  heap_get
/-- what an __init__ leaves, as an exception in hand -/
theorem in_hand {H2 : Hp} {Q : XK} {us : List Value} {s' : Shared} {d : Addr} {fs : List (Str × V)} (T : OexC X.K C) (I : Inv X pins σ H ⟨hp, g, dr, tk, os⟩) (un : Un (frs X.stack) [] (upd H (hp.objs.size + 1) (exo (hp.objs.size + 1) C none)) H2 (barePut hp C us) s'.heap)
    (ok : HOk X.prog X.w H2 s'.heap) (eo : s'.os = os) (bare : AllBare s'.gens) (ea : H2 (hp.objs.size + 1) = some (exo (hp.objs.size + 1) C (some d))) (ed : H2 d = some (exd d fs)) (nd : H d = none)
    (q : Q (.ref C) (some d) (upd (del H2 (hp.objs.size + 1)) d (.xd fs))) : L2N.MkP X pins σ Q (.ref (hp.objs.size + 1)) s' := by
  obtain ⟨h2, g2, d2, t2, o2⟩ := s'
  obtain ⟨tt, G, J, kG, gone, there, free⟩ := mk_end0 (t2 := t2) (d2 := d2) I (Nat.le_succ _) barePut_keeps un ok eo bare ea ed nd
  have zn : L2N.Zn (.ref C) (some d) ({ cls := .ref C, dict := some d, data := .fields #[.ref tt, .none, .none, .none, .bool false, .none] } : Obj) := ⟨rfl, rfl, fun vs hv => by cases hv; rfl⟩
  exact ⟨_, _, _, ⟨G, g2, d2, t2, o2⟩, _, _, some d, rfl, J, kG, gone, there, zn, rfl, rfl, free, rfl, bare, raises_own T.exC T.tyC, q⟩
end
theorem pmk_oexN {X : Cx} {e : Expr} {es : List Expr} {ta : TA} {p pos : Pos} {CX : CXT} {x : Str} {C fI : Addr} {k : Nat} {fd : FuncData} {ps : List Str} {sp : Sp} (T : OexC X.K C) (iC : PySem.W.findIn X.K (.ref C) "__init__" = some (some (.ref fI))) (tI : PySem.W.typeIn X.K (.ref fI) = some (.type "function"))
    (Fi : FnOk X.prog X.w X.K X.mg X.base CX k fI fd ps sp) (room : Room (k + 1) X.A) (binds : Binds X.K fd ps []) (pass : Passes CX X (fun _ _ _ => False)) (gl : Gl X x) (gm : X.mg x = some (.ref C)) (args : PA X (e :: es) ta)
    (dbg : (x == ("__debug__" : Str)) = false := by decide) (star : starEach (e :: es) X.env = (false, eval e X.env) :: starEach es X.env := by rfl) (plain : (backTo pos (starEach es X.env)).any (·.1) = false := by rfl) :
    L2N.PMk X (.Call (.Name x p) (e :: es) [] pos) (tMkO C sp [] ta) := fun pins s σ H Q I h => by
  obtain ⟨_, _, _, _, bm, _, _, _, _, _, _, _, _, _, _, cl, rf⟩ := T.cls
  refine wpAny_Call_Name_kw (ld_glob I gl gm (PySem.W.callWith_K (h₀ := X.base) I.ok.mod.kin T.kC (thn (args.run pos pins s σ H _ I h) fun us s1 hs => ?_) star plain) dbg)
  obtain ⟨vs, H1, J, rel, few, spq⟩ := hs
  refine ⟨J.kIn, ?_⟩
  obtain ⟨hp, g, dr, tk, os⟩ := s1
  have J2 := barePut_inv (C := C) J us
  have start := spq (hp.objs.size + 1) (J.hok.fresh (Nat.le_succ _))
  rw [List.append_nil] at start
  have vals : Vals (V.ref (hp.objs.size + 1) :: vs) (Value.ref (hp.objs.size + 1) :: us) := .cons rfl rel
  have many : (Value.ref (hp.objs.size + 1) :: us).length = ps.length := vals.length.symm.trans (Fi.len _ _ _ _ start)
  have bd := binds _ (Value.ref (hp.objs.size + 1) :: us) J2.kIn (by rw [List.append_nil]; exact many)
  rw [List.append_nil] at bd
  have room2 : us.length ≤ sizeLine := sz (by have := Paired.length rel; omega)
  have run := Fi.run _ X.stack _ _ ⟨Value.ref (hp.objs.size + 1) :: us, []⟩ (Value.ref (hp.objs.size + 1) :: us) _ _ (fun _ _ _ => False) (room.make C us []) (J2.env0.make C us []) bd vals start
  show wpAny (model X.prog X.w) X.A (call (.ref C) us) _ _ _
  refine wpAny_call (PySem.HandSPX.call_own F.excBase_ValueError (fun Y => PySem.HandSPX.refsVE_contains Y bm rf) (J.kIn _ _ cl) (PySem.W.looks_findIn J.kIn iC) (fun self => PySem.W.bind_fn J.kIn self tI) room2 (codeAny_mono run fun r s' end_ => ?_))
  match r, end_ with
  | .error er, end_ => exact pass pins σ _ _ er s' J2 end_
  | .ok (.ret u), ⟨v, H2, eo, bare, un, ok, ru, ev, d, fs, ea, ed, nd, q⟩ =>
    subst ev
    exact ⟨ru, in_hand T J un ok eo bare ea ed nd q⟩
  | .ok .next, end_ => exact end_.elim
  | .ok .brk, end_ => exact end_.elim
  | .ok .cont, end_ => exact end_.elim

/-! ### readings in order -/
/-- raise C(vs) -/
def kMk (C : Addr) (sp : Sp) (vs : List V) (H : Hp) (Q : XK) : Prop := vs.length ≤ 1000 ∧ ∀ a, H a = none → sp (.ref a :: (vs ++ [])) (upd H a (exo a C none))
  (fun v H2 => v = .non ∧ ∃ (d : Addr) (fs : List (Str × V)), H2 a = some (exo a C (some d)) ∧ H2 d = some (exd d fs) ∧ H d = none ∧ Q (.ref C) (some d) (upd (del H2 a) d (.xd fs))) (fun _ _ _ => False)
def tRaise (W : WX) (C : Addr) (sp : Sp) (ta : TA) : TS := fun _ σ H => tMkO C sp [] ta σ H fun cls d H' => W cls d σ H'
theorem k_raise {X : Cx} {W : WX} {e : Expr} {C : Addr} {sp : Sp} {ta : TA} {pos : Pos} (hc : X.calm = true) (tk : L2N.Takes X W) (he : L2N.PMk X e (tMkO C sp [] ta)) : PS X (.Raise (some e) none pos) (tRaise W C sp ta) := L2N.ps_raise hc tk he
theorem g_raise {W : WX} {C : Addr} {sp : Sp} {ta : TA} {D : Ends} {σ : L2.St} {H : Hp} (q : ta σ H fun vs H1 => kMk C sp vs H1 fun cls d H' => W cls d σ H') : tRaise W C sp ta D σ H := q
/-- try: body, except c as i: suite -/
def tTry (K : PySem.W.Frag) (c : Value) (i : Nat) (tb : WX → TS) (ts : Addr → Value → Option Addr → TS) (Wout : WX) : TS := fun D σ H => tb (wAs K c i ts Wout D) D σ H
theorem k_try {X : Cx} {x n : Str} {c : Value} {i : Nat} {body suite : List Stmt} {b₀ : Stmt} {np pos pos' : Pos} {tb : WX → TS} {ts : Addr → Value → Option Addr → TS} {Wout : WX} (K : PySem.W.Frag)
    (hs : X.stack = X.env :: X.outer) (hf : X.env.frame = some X.env.locals) (hN : X.N.Nodup) (hi : X.N[i]? = some n) (hln : X.env.kindOf n = some .local) (hc : Names X x c) (tk : L2N.Takes X Wout)
    (hb : ∀ (W : WX) (pn : List (Addr × Obj)) (xe : Value → Shared → Prop), L2N.Takes (X.tr pn xe) W → PassesOwn (model X.prog X.w) X.A X.env xe → PSs (X.tr pn xe) body (tb W))
    (hsu : ∀ (a : Addr) (oe : Obj) (cls : Value) (d : Option Addr) (pn : List (Addr × Obj)), L2N.Zn cls d oe → (∃ vs, oe.data = .fields vs) → PSs (X.suite a ((a, oe) :: pn)) (b₀ :: suite) (ts a cls d)) (e : X.K = K := by rfl) :
    PS X (.Try body [.ExceptHandler (some (.Name x np)) (some n) (b₀ :: suite) pos'] [] [] pos) (tTry K c i tb ts Wout) := by subst e; exact L2N.ps_try_as hs hf hN hi hln hc tk hb hsu
/-- the way into the suite -/
theorem g_caught {K : PySem.W.Frag} {c cls : Value} {i : Nat} {ts : Addr → Value → Option Addr → TS} {Wout : WX} {D : Ends} {d : Option Addr} {σ : L2.St} {H : Hp} (m : PySem.W.exmOne K cls c = some true)
    (q : ∀ a, H a = none → ts a cls d { nx := fun σ' H' => D.nx (σ'.set i none) H', rt := D.rt, bk := fun σ' H' => D.bk (σ'.set i none) H', ct := fun σ' H' => D.ct (σ'.set i none) H' } (σ.set i (some (.ref a))) H) : wAs K c i ts Wout D cls d σ H :=
  ⟨true, m, fun _ => q, fun z => by cases z⟩
theorem g_try {K : PySem.W.Frag} {c : Value} {i : Nat} {tb : WX → TS} {ts : Addr → Value → Option Addr → TS} {Wout : WX} {D : Ends} {σ : L2.St} {H : Hp} (q : tb (wAs K c i ts Wout D) D σ H) : tTry K c i tb ts Wout D σ H := q
theorem g_callS {sp : Sp} {E : L2.St → XK} {t : TA} {σ : L2.St} {H : Hp} {Q : VK} (q : t σ H fun vs H1 => sp vs H1 Q (E σ)) : tCallS sp E t σ H Q := q

theorem g_ost {K : PySem.W.Frag} {f : Str} {to te : TE} {D : Ends} {σ : L2.St} {H : Hp} (q : tOst K f to te D σ H) : tOst K f to te D σ H := q
theorem upd_over {H : Hp} {dx a : Addr} {e1 e2 x : HO} (ne : dx ≠ a) : upd (upd (upd H dx e1) a x) dx e2 = upd (upd H dx e2) a x := by
  funext b
  by_cases h1 : b = dx
  · subst h1
    rw [upd_same, upd_ne ne, upd_same]
  · rw [upd_ne h1]
    by_cases h2 : b = a
    · subst h2
      rw [upd_same, upd_same]
    · rw [upd_ne h2, upd_ne h2, upd_ne h1, upd_ne h1]
/-- __init__ that keeps each argument in a field of its name -/
def sp_oinit (C : Addr) (names : List Str) : Sp := fun vs H Q _ => ∃ (a : Addr) (ws : List V), vs = .ref a :: ws ∧ ws.length = names.length ∧ H a = some (exo a C none) ∧
  ∀ dx, H dx = none → dx ≠ a → Q .non (upd (upd H dx (exd dx (names.zip ws).reverse)) a (exo a C (some dx)))
theorem sp_oinit_len {C : Addr} {names : List Str} {vs H Q E} (h : sp_oinit C names vs H Q E) : vs.length = names.length + 1 := by
  obtain ⟨a, ws, rfl, hl, _⟩ := h
  rw [List.length_cons, hl]
theorem g_mk {C : Addr} {names : List Str} {vs : List V} {F H : Hp} {O : Own} {Q : XK} (hl : vs.length = names.length) (hs : names.length ≤ 1000) (hH : Has F O H) (q : ∀ d H', H d = none → Has F ((d, .xd (names.zip vs).reverse) :: O) H' → Q (.ref C) (some d) H') : kMk C (sp_oinit C names) vs H Q := by
  refine ⟨by omega, fun a n => ⟨a, vs ++ [], rfl, by rw [List.append_nil]; exact hl, upd_same, fun dx n1 ne => ⟨rfl, dx, (names.zip vs).reverse, upd_same, ?_, ?_, ?_⟩⟩⟩
  · rw [upd_ne ne, upd_same, List.append_nil]
  · rw [upd_ne ne] at n1
    exact n1
  · rw [upd_ne ne] at n1
    have e : upd (del (upd (upd (upd H a (exo a C none)) dx (exd dx (names.zip (vs ++ [])).reverse)) a (exo a C (some dx))) a) dx (.xd (names.zip vs).reverse) = upd H dx (.xd (names.zip vs).reverse) := by
      funext b
      by_cases h1 : b = dx
      · subst h1
        rw [upd_same, upd_same]
      · rw [upd_ne h1, upd_ne h1]
        by_cases h2 : b = a
        · subst h2
          rw [del_same, n]
        · rw [del_ne h2, upd_ne h2, upd_ne h1, upd_ne h2]
    rw [e]
    exact q dx _ n1 (hH.new n1)
/-! ### in a suite: isinstance, a field, a call -/
structure IsC (K : PySem.W.Frag) (D : Addr) : Prop where
  cl : (PySem.W.clsIn K D).isSome = true
  hg : PySem.W.findIn K (.ref D) "__getattribute__" = some (some (.builtin "BaseException.__getattribute__"))
  hk : PySem.W.findIn K (.ref D) "__getattr__" = some none
  hs : PySem.W.subIn K (.ref D) (.type "BaseException") = some true
  hd : PySem.W.hasDictIn K D = true
  ha : PySem.W.findIn K (.ref D) "__class__" = some (some (.builtin "object.__class__"))
  hn : PySem.W.specialIn K (.builtin "object.__class__") "__get__" = some (some (.builtin "getset_descriptor.__get__"))
  ht : PySem.W.takesIn K (.builtin "object.__class__") = some true
  hm : PySem.W.mroIn K D (.type "object") = some true
/-- isinstance(e, c) for the caught e: a is where it stands -/
def rIsX (K : PySem.W.Frag) (a : Addr) (cls : Value) (d : Option Addr) : List V → Hp → VK → Prop := fun xs H Q => ∃ (D : Addr) (c : V) (cv : Value) (b : Bool), cls = .ref D ∧ IsC K D ∧ (d = none ∨ ∃ dd fs, d = some dd ∧ H dd = some (.xd fs)) ∧ xs = [.ref a, c] ∧ (∀ u, RelV c u → u = cv) ∧ PySem.W.kitOne K (.ref D) cv = some b ∧ Q (.bl b) H
def rIsY (K : PySem.W.Frag) (a : Addr) (cls : Value) (d : Option Addr) : List V → Hp → VK → Prop := fun xs H Q => rIsX K a cls d xs H Q ∨ rIsA K xs H Q
theorem cr_isX {X : Cx} {a : Addr} {oe : Obj} {cls : Value} {d : Option Addr} {pn : List (Addr × Obj)} (K : PySem.W.Frag) (hz : L2.Zc cls d oe) (hf : ∃ vs, oe.data = .fields vs) (e : X.K = K := by rfl) : CallR (X.suite a ((a, oe) :: pn)) (.builtin "isinstance") (rIsY K a cls d) := by
  subst e
  intro pins s σ H xs us Q I r h
  rcases h with h | h
  · obtain ⟨D, c, cv, b, ecl, C, hd, rfl, hcv, e, q⟩ := h
    cases r with
    | cons rx rr =>
      cases rr with
      | cons rt rr =>
        cases rr
        cases rx
        have ec := hcv _ rt
        subst ec
        obtain ⟨hget, _⟩ := I.pin (a, oe) (List.mem_append.mpr (.inl List.mem_cons_self))
        obtain ⟨vs, hv⟩ := hf
        have hcl : oe.cls = .ref D := hz.1.trans ecl
        have hdx := hz.2
        have key : ∀ od, PySem.W.InstAt s.heap a oe D od → wpAny (model X.prog X.w) (X.suite a ((a, oe) :: pn)).A (call (.builtin "isinstance") [.ref a, _]) (EP (X.suite a ((a, oe) :: pn)) pins σ Q) (X.suite a ((a, oe) :: pn)).xe s := fun od J =>
          PySem.W.kia_one (PySem.W.kitx_exc C.cl C.hg C.hk C.hs C.ha C.hn C.ht C.hm) I.kIn J e (fun z => nomatch z) fun tk => ⟨.bl b, H, I.kept (t' := tk) fun _ _ z => z, rfl, q⟩
        rcases hd with hd | ⟨dd, fs, hd, ea⟩
        · refine key none ?_
          rw [hd] at hdx
          exact ⟨hget, hcl, by unfold PySem.W.notCls; rw [hv] <;> rfl, by rw [hdx]; trivial⟩
        · have hx : ObjOk X.prog X.w H s.heap dd (.xd fs) := I.hok dd _ ea
          obtain ⟨mA, hns, hr⟩ := hx
          obtain ⟨od, ho, hl⟩ := lookIn_ns hns
          refine key (some od) ?_
          rw [hd] at hdx
          exact ⟨hget, hcl, by unfold PySem.W.notCls; rw [hv] <;> rfl, by rw [hdx]; exact ho⟩
  · exact cr_isK X.K (X := X.suite a ((a, oe) :: pn)) rfl pins s σ H xs us Q I r h
/-- e.f for the caught e -/
def tXfA (K : PySem.W.Frag) (a : Addr) (cls : Value) (d : Option Addr) (f : Str) (te : TE) : TE := fun σ H Q => te σ H fun x H1 => x = .ref a ∧ ∃ (C dd : Addr) (fs : List (Str × V)) (v : V), cls = .ref C ∧ XfC K C ∧ PySem.W.findIn K (.ref C) f = some none ∧ d = some dd ∧ H1 dd = some (.xd fs) ∧ fs.lookup f = some v ∧ Q v H1
theorem pe_xfA {X : Cx} {a : Addr} {oe : Obj} {cls : Value} {d : Option Addr} {pn : List (Addr × Obj)} {e : Expr} {te : TE} {pos : Pos} {n : Str} (K : PySem.W.Frag) (hz : L2.Zc cls d oe) (hf : ∃ vs, oe.data = .fields vs) (he : PE (X.suite a ((a, oe) :: pn)) e te) (ek : X.K = K := by rfl) (hb : attributeBase e n X.env (eval e X.env) = eval e X.env := by rfl) :
    PE (X.suite a ((a, oe) :: pn)) (.Attribute e n pos) (tXfA K a cls d n te) := by
  subst ek
  refine ⟨fun pins s σ H Q I h => ?_⟩
  refine attr_of hb (thn (he.run pins s σ H _ I h) fun u s1 hh => ?_)
  obtain ⟨x, H1, I1, rx, ex, C, dd, fs, v, ec, T, hno, ed, ea, l, q⟩ := hh
  subst ex
  obtain rfl : u = Value.ref a := rx
  subst ec
  subst ed
  obtain ⟨ha, _⟩ := I1.pin (a, oe) (List.mem_append_left _ List.mem_cons_self)
  obtain ⟨vs, hd⟩ := hf
  have hx : ObjOk X.prog X.w H1 s1.heap dd (.xd fs) := I1.hok dd _ ea
  obtain ⟨mA, hns, hr⟩ := hx
  obtain ⟨od, ho, hl⟩ := lookIn_ns hns
  obtain ⟨u, hu, ru⟩ := RelO.some_of (v := v) (o := mA n) (by rw [← l]; exact hr n)
  have J : PySem.W.InstAt s1.heap a oe C (some od) := ⟨ha, hz.1, by unfold PySem.W.notCls; rw [hd] <;> rfl, by rw [hz.2]; exact ho⟩
  exact HandSPX.exc_get I1.kIn J T.ga T.gg T.exC (PySem.W.findObj_own T.hdC hno rfl (by rw [hl, hu])) (handed_of ru) ⟨v, H1, I1.tok _, ru, q⟩
def kXf (K : PySem.W.Frag) (a : Addr) (cls : Value) (d : Option Addr) (f : Str) (x : V) (H1 : Hp) (Q : VK) : Prop := x = .ref a ∧ ∃ (C dd : Addr) (fs : List (Str × V)) (v : V), cls = .ref C ∧ XfC K C ∧ PySem.W.findIn K (.ref C) f = some none ∧ d = some dd ∧ H1 dd = some (.xd fs) ∧ fs.lookup f = some v ∧ Q v H1
theorem g_xf {K : PySem.W.Frag} {a : Addr} {cls : Value} {d : Option Addr} {f : Str} {te : TE} {σ : L2.St} {H : Hp} {Q : VK} (q : te σ H fun x H1 => kXf K a cls d f x H1 Q) : tXfA K a cls d f te σ H Q := q
theorem g_kxf {K : PySem.W.Frag} {a C dd : Addr} {f : Str} {fs : List (Str × V)} {v : V} {H : Hp} {Q : VK} (X : XfC K C) (n : PySem.W.findIn K (.ref C) f = some none) (hd : H dd = some (.xd fs)) (l : fs.lookup f = some v) (q : Q v H) : kXf K a (.ref C) (some dd) f (.ref a) H Q :=
  ⟨rfl, C, dd, fs, v, rfl, X, n, rfl, hd, l, q⟩
theorem g_isX {K : PySem.W.Frag} {a D C dd : Addr} {fs : List (Str × V)} {b : Bool} {H : Hp} {Q : VK} (I : IsC K D) (hd : H dd = some (.xd fs)) (k : PySem.W.kitOne K (.ref D) (.ref C) = some b) (q : Q (.bl b) H) : rIsY K a (.ref D) (some dd) [.ref a, .ref C] H Q :=
  .inl ⟨D, .ref C, .ref C, b, rfl, I, .inr ⟨dd, fs, rfl, hd⟩, rfl, fun u r => r, k, q⟩
theorem g_isXT {K : PySem.W.Frag} {a D dd : Addr} {n : String} {fs : List (Str × V)} {b : Bool} {H : Hp} {Q : VK} (I : IsC K D) (hd : H dd = some (.xd fs)) (k : PySem.W.kitOne K (.ref D) (.type n) = some b) (q : Q (.bl b) H) : rIsY K a (.ref D) (some dd) [.ref a, .ty n] H Q :=
  .inl ⟨D, .ty n, .type n, b, rfl, I, .inr ⟨dd, fs, rfl, hd⟩, rfl, fun u r => r, k, q⟩
theorem exm_own {K : PySem.W.Frag} {C : Addr} {cls : Value} {b : Bool} (h1 : PySem.W.subIn K (.ref C) (.type "BaseException") = some true) (hc : PySem.W.isClsIn K C = true) (ht : PySem.W.typeIn K (.ref C) = some (.type "type")) (h4 : PySem.W.subIn K cls (.ref C) = some b) : PySem.W.exmOne K cls (.ref C) = some b := by
  have hc' : (PySem.W.clsIn K C).isSome = true := hc
  have e1 : (PySem.W.subIn K (.ref C) (.type "BaseException") == some true) = true := by rw [h1] <;> rfl
  have e2 : ((PySem.W.clsIn K C).isSome && PySem.W.typeIn K (.ref C) == some (.type "type")) = true := by rw [hc', ht] <;> rfl
  show (if (PySem.W.subIn K (.ref C) (.type "BaseException") == some true) = true then (if ((PySem.W.clsIn K C).isSome && PySem.W.typeIn K (.ref C) == some (.type "type")) = true then PySem.W.subIn K cls (.ref C) else none) else none) = some b
  rw [if_pos e1, if_pos e2]
  exact h4
theorem kit_own {K : PySem.W.Frag} {D C : Addr} {b : Bool} (hs : PySem.W.subIn K (.ref D) (.ref D) = some true) (h4 : PySem.W.subIn K (.ref D) (.ref C) = some b) (hc : PySem.W.isClsIn K C = true) (ht : PySem.W.typeIn K (.ref C) = some (.type "type")) : PySem.W.kitOne K (.ref D) (.ref C) = some b := by
  have hc' : (PySem.W.clsIn K C).isSome = true := hc
  unfold PySem.W.kitOne
  by_cases e : (Value.ref D == Value.ref C) = true
  · rw [if_pos e]
    have e2 : D = C := Value.ref.inj (beq_iff_eq.mp e)
    subst e2
    rw [hs] at h4
    exact h4
  · rw [if_neg e]
    have e2 : ((PySem.W.clsIn K C).isSome && PySem.W.typeIn K (.ref C) == some (.type "type")) = true := by rw [hc', ht] <;> rfl
    show (if ((PySem.W.clsIn K C).isSome && PySem.W.typeIn K (.ref C) == some (.type "type")) = true then PySem.W.subIn K (.ref D) (.ref C) else none) = some b
    rw [if_pos e2]
    exact h4
theorem kit_ve {K : PySem.W.Frag} {D : Addr} (h : PySem.W.subIn K (.ref D) (.type "ValueError") = some true) : PySem.W.kitOne K (.ref D) (.type "ValueError") = some true := by
  have e : ¬ (Value.ref D == Value.type "ValueError") = true := by
    intro z
    cases (beq_iff_eq.mp z)
  unfold PySem.W.kitOne
  rw [if_neg e]
  show (if PySem.W.kitMeta "ValueError" = true then PySem.W.subIn K (.ref D) (.type "ValueError") else none) = some true
  rw [if_pos (by decide +kernel)]
  exact h
theorem hot_suite {X : Cx} {a : Addr} {oe : Obj} {cls : Value} {d : Option Addr} {pn : List (Addr × Obj)} (hz : L2N.Zn cls d oe) (hf : ∃ vs, oe.data = .fields vs) : L2H.HotC (X.suite a ((a, oe) :: pn)) := by
  obtain ⟨vs, hv⟩ := hf
  exact ⟨(a, oe), ⟨rfl, vs, hv, hz.2.2 vs hv⟩, List.mem_cons_self⟩

/-! ### objects -/
section
variable {X : Cx} {K : PySem.W.Frag} {σ : L2.St} {F : Hp} {O O' : Own} {H : Hp} {Q : VK} {ta te tv : TE} {x y v : V} {D : Ends}
theorem k_fld {ex : Expr} {f : Str} (K : PySem.W.Frag) (h : PE X ex (tFld X.K te f)) (e : X.K = K := by rfl) : PE X ex (tFld K te f) := by subst e; exact h
def kFld (K : PySem.W.Frag) (f : Str) (x : V) (H1 : Hp) (Q : VK) : Prop := ∃ a C dx fs v, x = .ref a ∧ H1 a = some (.ins C dx fs) ∧ Cls K C ∧ NoAttr K C f ∧ fs.lookup f = some v ∧ Q v H1
theorem g_fld {f : Str} (q : te σ H fun x H1 => kFld K f x H1 Q) : tFld K te f σ H Q := q
theorem g_kfld {a C dx : Addr} {fs : List (Str × V)} {f : Str} (h : H a = some (.ins C dx fs)) (c : Cls K C) (n : NoAttr K C f) (l : fs.lookup f = some v) (q : Q v H) : kFld K f (.ref a) H Q := ⟨a, C, dx, fs, v, rfl, h, c, n, l, q⟩
theorem k_sfld {st : Stmt} {f : Str} (K : PySem.W.Frag) (h : PS X st (sFld X.K ta tv f)) (e : X.K = K := by rfl) : PS X st (sFld K ta tv f) := by subst e; exact h
def kSFld (K : PySem.W.Frag) (f : Str) (x y : V) (D : Ends) (σ : L2.St) (H2 : Hp) : Prop := ∃ a C dx fs, x = .ref a ∧ H2 a = some (.ins C dx fs) ∧ Cls K C ∧ NoAttr K C f ∧ fs.length < 1000 ∧ D.nx σ (upd H2 a (.ins C dx (putF f y fs)))
theorem g_sfld {f : Str} (q : tv σ H fun y H1 => ta σ H1 fun x H2 => kSFld K f x y D σ H2) : sFld K ta tv f D σ H := q
theorem g_ksfld {a C dx : Addr} {fs fs' : List (Str × V)} {f : Str} (hH : Has F O H) (c : Chg O a (.ins C dx fs) (.ins C dx fs') O') (e : putF f y fs = fs') (cl : Cls K C) (n : NoAttr K C f) (hl : fs.length < 1000) (q : ∀ H', Has F O' H' → D.nx σ H') : kSFld K f (.ref a) y D σ H := by
  subst e
  exact ⟨a, C, dx, fs, rfl, hH.get c.mem, cl, n, hl, q _ (hH.put c)⟩
/-- o.m(..), what is let out told at the slots -/
def tMethS (C : Addr) (m : Str) (sp : Sp) (E : L2.St → XK) (ta : TE) (t : TA) : TE := fun σ H Q => ta σ H fun x H1 => ∃ a dx fs, x = .ref a ∧ H1 a = some (.ins C dx fs) ∧ fs.lookup m = none ∧ t σ H1 fun vs H2 => sp (x :: vs) H2 Q (E σ)
def kMeth (C : Addr) (m : Str) (sp : Sp) (E : L2.St → XK) (t : TA) (σ : L2.St) (x : V) (H1 : Hp) (Q : VK) : Prop := ∃ a dx fs, x = .ref a ∧ H1 a = some (.ins C dx fs) ∧ fs.lookup m = none ∧ t σ H1 fun vs H2 => sp (x :: vs) H2 Q (E σ)
theorem g_meth {C : Addr} {m : Str} {sp : Sp} {E : L2.St → XK} {t : TA} (q : ta σ H fun x H1 => kMeth C m sp E t σ x H1 Q) : tMethS C m sp E ta t σ H Q := q
theorem g_kmeth {C : Addr} {m : Str} {sp : Sp} {E : L2.St → XK} {t : TA} {a dx : Addr} {fs : List (Str × V)} (h : H a = some (.ins C dx fs)) (l : fs.lookup m = none) (q : t σ H fun vs H2 => sp (.ref a :: vs) H2 Q (E σ)) : kMeth C m sp E t σ (.ref a) H Q := ⟨a, dx, fs, rfl, h, l, q⟩
variable {CX : CXT} {k : Nat} {f C : Addr} {fd : FuncData} {ps : List Str} {sp : Sp} {E : L2.St → XK} {m : Str} {pos apos : Pos} {e o : Expr} {es : List Expr} {t : TA}
theorem pe_methW {pl : Sem Bool} (ho : PE X o ta) (cl : Cls X.K C) (me : Meth X.K C m f) (G : FnOk X.prog X.w X.K X.mg X.base CX k f fd ps sp) (room : Room k X.A) (bd : Binds X.K fd ps []) (pass : ∀ σ, PassesAt CX X σ (E σ)) (args : PA X (e :: es) t)
    (star : starEach (e :: es) X.env = (false, eval e X.env) :: starEach es X.env := by rfl) (plain : (backTo pos (starEach es X.env)).any (·.1) = false := by rfl)
    (tree : eval (.Call (.Attribute o m apos) (e :: es) [] pos) X.env = (do
      let ov ← eval o X.env
      standAt apos.atName
      let (f, first) ← holding [ov] (getMethod ov m pl)
      callWith pos f first (backTo pos (starEach (e :: es) X.env)) (backToKw pos (keywordEach [] X.env))) := by rfl) :
    PE X (.Call (.Attribute o m apos) (e :: es) [] pos) (tMethS C m sp E ta t) := ⟨fun pins s σ H Q I h => by
  refine PySem.W.methodCall_KW (pl := pl) (thn (ho.run pins s σ H _ I h) fun u s1 hu => ?_) tree
  obtain ⟨x, H1, J, rx, a, dx, fs, rfl, there, none_, go⟩ := hu
  cases (show u = Value.ref a from rx)
  refine getmeth_ok J there cl me none_ (PySem.W.callWith_K (first := [.ref a]) (h₀ := X.base) I.ok.mod.kin me.kp (thn (args.run pos pins s1 σ H1 _ J go) fun us s2 hs => ?_) star plain)
  obtain ⟨vs, H2, J2, rel, pr⟩ := hs
  exact ⟨J2.kIn, run_fnS (us := .ref a :: us) (vs := .ref a :: vs) G room bd (pass σ) J2 (.cons rfl rel) pr⟩⟩
theorem pe_methW0 {pl : Sem Bool} (ho : PE X o ta) (cl : Cls X.K C) (me : Meth X.K C m f) (G : FnOk X.prog X.w X.K X.mg X.base CX k f fd ps sp) (room : Room k X.A) (bd : Binds X.K fd ps []) (pass : ∀ σ, PassesAt CX X σ (E σ))
    (tree : eval (.Call (.Attribute o m apos) [] [] pos) X.env = (do
      let ov ← eval o X.env
      standAt apos.atName
      let (f, first) ← holding [ov] (getMethod ov m pl)
      callWith pos f first (backTo pos (starEach [] X.env)) (backToKw pos (keywordEach [] X.env))) := by rfl) :
    PE X (.Call (.Attribute o m apos) [] [] pos) (tMethS C m sp E ta tNil) := ⟨fun pins s σ H Q I h => by
  refine PySem.W.methodCall_KW (pl := pl) (thn (ho.run pins s σ H _ I h) fun u s1 hu => ?_) tree
  obtain ⟨x, H1, J, rx, a, dx, fs, rfl, there, none_, go⟩ := hu
  cases (show u = Value.ref a from rx)
  exact getmeth_ok J there cl me none_ (PySem.W.callWith_K0 (first := [.ref a]) J.kIn me.kp (run_fnS (us := [.ref a]) (vs := [.ref a]) G room bd (pass σ) J (.cons rfl .nil) go))⟩
theorem pass0S {X : Cx} {E : L2.St → XK} : ∀ σ, PassesAt CX0 X σ (E σ) := fun _ _ _ _ _ _ _ h => h.elim
theorem passNS {X : Cx} : ∀ σ, PassesAt (L2N.CX X.prog X.w) X σ ((fun _ => E0) σ) := fun _ _ _ _ _ _ _ h => by
  obtain ⟨_, _, _, _, _, _, _, _, _, _, _, _, z⟩ := h
  exact z.elim
/-- C(..) -/
def kMake (C : Addr) (sp : Sp) (E : XK) (vs : List V) (H1 : Hp) (Q : VK) : Prop := ∀ x dx, H1 x = none → H1 dx = none → dx ≠ x → sp (.ref x :: (vs ++ [])) (upd (upd H1 dx (.own x)) x (.ins C dx [])) (fun v H2 => v = .non ∧ Q (.ref x) H2) E
theorem g_make {E : XK} (q : t σ H fun vs H1 => kMake C sp E vs H1 Q) : tMake C sp [] E t σ H Q := q
theorem g_kmake {E : XK} {vs : List V} (hH : Has F O H) (q : ∀ x dx H', H x = none → Has F ((x, .ins C dx []) :: (dx, .own x) :: O) H' → sp (.ref x :: vs) H' (fun v H2 => v = .non ∧ Q (.ref x) H2) E) : kMake C sp E vs H Q := by
  intro x dx nx nd ne
  rw [List.append_nil]
  refine q x dx _ nx ((hH.new nd).new (by rw [upd_ne (Ne.symm ne)]; exact nx))
/-- del d[k] -/
def kDel (x y : V) (D : Ends) (σ : L2.St) (H2 : Hp) : Prop := ∃ a kvs k, x = .ref a ∧ H2 a = some (.dK kvs) ∧ y = kV k ∧ (valV kvs k).isSome = true ∧ D.nx σ (upd H2 a (.dK (dropK kvs k)))
end
section
variable {X : Cx} {K : PySem.W.Frag} {σ : L2.St} {F : Hp} {O O' : Own} {H : Hp} {Q : VK} {td ty : TE} {D : Ends}
theorem g_del (q : td σ H fun x H1 => ty σ H1 fun y H2 => kDel x y D σ H2) : sDDel td ty D σ H := q
theorem g_kdel {a : Addr} {kvs : List (Key × V)} {z : V} {k : Key} (ez : z = kV k) (hH : Has F O H) (c : Chg O a (.dK kvs) (.dK (dropK kvs k)) O') (i : (valV kvs k).isSome = true) (q : ∀ H', Has F O' H' → D.nx σ H') : kDel (.ref a) z D σ H :=
  ⟨a, kvs, k, rfl, hH.get c.mem, ez, i, q _ (hH.put c)⟩
theorem g_dnewK (hH : Has F O H) (q : ∀ p H', H p = none → Has F ((p, .dK []) :: O) H' → Q (.ref p) H') : tDNewK σ H Q := fun p n => q p _ n (hH.new n)
/-! ### sorted -/
def rSortA (K : PySem.W.Frag) : List V → Hp → VK → Prop := fun vs H Q => (rSorted K vs H Q ∨ rSortedS K vs H Q) ∨
  (∃ (a : Addr) (kvs : List (Key × V)) (ks : List Str), vs = [.ref a] ∧ Rd H a (.dK kvs) ∧ kvs.map (·.1) = ks.map Sum.inr ∧ ks.length < 64 ∧ ∀ ys p, ys.Perm ks → sortedS ys = true → H p = none → Q (.ref p) (upd H p (.lst (ys.map V.str)))) ∨
  (∃ (a : Addr) (kvs : List (Key × V)) (ks : List Int), vs = [.ref a] ∧ Rd H a (.dK kvs) ∧ kvs.map (·.1) = ks.map Sum.inl ∧ ks.length < 64 ∧ ∀ (ys : List Int) (p : Addr), ys.Perm ks → ys.Pairwise (· ≤ ·) → H p = none → Q (.ref p) (upd H p (.lst (ys.map V.int))))
theorem cr_sortA (K : PySem.W.Frag) (hc : X.calm = true) (e : X.K = K := by rfl) : CallR X (.builtin "sorted") (rSortA K) := by
  subst e
  intro pins s σ H xs us Q I r h
  rcases h with (h | h) | h | h
  · exact cr_sorted pins s σ H xs us Q I r h
  · exact cr_sortedS pins s σ H xs us Q I r h
  · exact call_sortedD hc pins s σ H xs us Q I r h
  · exact call_sortedDI hc pins s σ H xs us Q I r h
theorem g_sortI {a : Addr} {ns : List Int} (h : H a = some (.lst (ns.map V.int))) (l : ns.length < 64) (hH : Has F O H) (q : ∀ (ys : List Int) p H', ys.Perm ns → ys.Pairwise (· ≤ ·) → H p = none → Has F ((p, .lst (ys.map V.int)) :: O) H' → Q (.ref p) H') : rSortA K [.ref a] H Q :=
  .inl (.inl ⟨a, ns, rfl, SqL.of h, l, fun ys p e s n => q ys p _ e s n (hH.new n)⟩)
theorem g_sortS {a : Addr} {ns : List Str} (h : H a = some (.lst (ns.map V.str))) (l : ns.length < 64) (hH : Has F O H) (q : ∀ (ys : List Str) p H', ys.Perm ns → sortedS ys = true → H p = none → Has F ((p, .lst (ys.map V.str)) :: O) H' → Q (.ref p) H') : rSortA K [.ref a] H Q :=
  .inl (.inr ⟨a, ns, rfl, SqL.of h, l, fun ys p e s n => q ys p _ e s n (hH.new n)⟩)
theorem g_sortDS {a : Addr} {kvs : List (Key × V)} {ks : List Str} (h : H a = some (.dK kvs)) (e : kvs.map (·.1) = ks.map Sum.inr) (l : ks.length < 64) (hH : Has F O H) (q : ∀ (ys : List Str) p H', ys.Perm ks → sortedS ys = true → H p = none → Has F ((p, .lst (ys.map V.str)) :: O) H' → Q (.ref p) H') : rSortA K [.ref a] H Q :=
  .inr (.inl ⟨a, kvs, ks, rfl, .inl h, e, l, fun ys p e s n => q ys p _ e s n (hH.new n)⟩)
theorem g_sortDI {a : Addr} {kvs : List (Key × V)} {ks : List Int} (h : H a = some (.dK kvs)) (e : kvs.map (·.1) = ks.map Sum.inl) (l : ks.length < 64) (hH : Has F O H) (q : ∀ (ys : List Int) p H', ys.Perm ks → ys.Pairwise (· ≤ ·) → H p = none → Has F ((p, .lst (ys.map V.int)) :: O) H' → Q (.ref p) H') : rSortA K [.ref a] H Q :=
  .inr (.inr ⟨a, kvs, ks, rfl, .inl h, e, l, fun ys p e s n => q ys p _ e s n (hH.new n)⟩)
end
/-! ### what a method changes -/
section
variable {F F1 F' H H' H1 : Hp} {A A' R : Own}
def ButA (A : Own) (H H' : Hp) : Prop := ∀ b u, b ∉ A.map (·.1) → H b = some u → H' b = some u
theorem Has.grownA (h : Has F (A ++ R) H) (hb : ButA A H H') (g : Grow F H F') (hA : Has F' A' H') (ea : ∀ q ∈ A', q.1 ∈ A.map (·.1) ∨ H q.1 = none) : Has F' (A' ++ R) H' := by
  have nd := h.nd
  rw [List.map_append, List.nodup_append] at nd
  refine ⟨hA.same, fun q hq => ?_, ?_⟩
  · rcases List.mem_append.mp hq with hq | hq
    · exact hA.own q hq
    · obtain ⟨f0, h0⟩ := h.own q (List.mem_append_right _ hq)
      refine ⟨by rw [g.2 _ (by rw [h0]; exact fun z => by cases z)]; exact f0, hb _ _ (fun m => ?_) h0⟩
      exact nd.2.2 _ m _ (List.mem_map.mpr ⟨q, hq, rfl⟩) rfl
  · rw [List.map_append, List.nodup_append]
    refine ⟨hA.nd, nd.2.1, fun x hx y hy e => ?_⟩
    obtain ⟨q, hq, rfl⟩ := List.mem_map.mp hx
    obtain ⟨r, hr, rfl⟩ := List.mem_map.mp hy
    rcases ea q hq with m | n
    · exact nd.2.2 _ m _ (List.mem_map.mpr ⟨r, hr, rfl⟩) e
    · rw [e, (h.own r (List.mem_append_right _ hr)).2] at n
      cases n
theorem Grow.refl : Grow F H F := ⟨Same.refl F, fun _ _ => rfl⟩
/-- what stands still: of old what stood still, of new what stands still now -/
def mixF (F H F1 : Hp) : Hp := fun b => match H b with
  | none => F1 b
  | some _ => F b
theorem mix_at {b : Addr} (n : H b = none) : mixF F H F1 b = F1 b := by
  unfold mixF
  rw [n]
theorem mix_old {b : Addr} (n : H b ≠ none) : mixF F H F1 b = F b := by
  unfold mixF
  cases e : H b with
  | none => exact (n e).elim
  | some u => rfl
theorem mix_grow (h : Has F A H) (s : Same (rmO A H) F1) : Grow F H (mixF F H F1) := by
  refine ⟨fun b u e => ?_, fun b n => mix_old n⟩
  rw [mix_old (by rw [h.same _ _ e]; exact fun z => by cases z)]
  exact e
theorem mix_but (h : Has F A H) (s : Same (rmO A H) F1) (h1 : Has F1 A' H1) : ButA A H H1 := fun b u n e => h1.same _ _ (s _ _ (by
  unfold rmO
  rw [if_neg n]
  exact e))
theorem mix_has (h : Has F A H) (s : Same (rmO A H) F1) (h1 : Has F1 A' H1) (ea : ∀ q ∈ A', q.1 ∈ A.map (·.1) ∨ H q.1 = none) : Has (mixF F H F1) A' H1 := by
  refine ⟨fun b u e => ?_, fun q hq => ⟨?_, (h1.own q hq).2⟩, h1.nd⟩
  · cases eh : H b with
    | none =>
      rw [mix_at eh] at e
      exact h1.same _ _ e
    | some o =>
      rw [mix_old (by rw [eh]; exact fun z => by cases z)] at e
      have := h.same _ _ e
      refine mix_but h s h1 b u (fun m => ?_) this
      obtain ⟨q, hq, rfl⟩ := List.mem_map.mp m
      rw [(h.own q hq).1] at e
      cases e
  · rcases ea q hq with m | n
    · obtain ⟨p, hp, e⟩ := List.mem_map.mp m
      have o := h.own p hp
      rw [← e, mix_old (by rw [o.2]; exact fun z => by cases z)]
      exact o.1
    · rw [mix_at n]
      exact (h1.own q hq).1
end
theorem ButA.step {F H H1 H2 : Hp} {A O1 O2 : Own} (hb : ButA A H H1) (h1 : Has F O1 H1) (nw : ∀ x ∈ O1, x.1 ∈ A.map (·.1) ∨ H x.1 = none) (h2 : Has (rmO O1 H1) O2 H2) : ButA A H H2 := fun b u n e => h2.same _ _ (by
  unfold rmO
  rw [if_neg (fun m => ?_)]
  · exact hb b u n e
  · obtain ⟨x, hx, rfl⟩ := List.mem_map.mp m
    rcases nw x hx with m' | z
    · exact n m'
    · rw [e] at z; cases z)
/-- what is new now was new then -/
theorem newp {F F1 H H1 : Hp} {A O1 : Own} {p : Addr} (h : Has F A H) (hb : ButA A H H1) (h1 : Has F1 O1 H1) (ea : ∀ q ∈ A, q.1 ∈ O1.map (·.1)) (n : H1 p = none) : H p = none := by
  cases e : H p with
  | none => rfl
  | some u =>
    by_cases m : p ∈ A.map (·.1)
    · obtain ⟨q, hq, rfl⟩ := List.mem_map.mp m
      obtain ⟨x, hx, ex⟩ := List.mem_map.mp (ea q hq)
      have := (h1.own x hx).2
      rw [ex, n] at this
      cases this
    · rw [hb p u m e] at n
      cases n
end Qk

/-! Qs: sets of keys made of lists; membership of more kinds -/
namespace Qk
open PySem PySem.Spec PyProof.Rows L2
/-! ### set(a list of keys) -/
section
variable {prog : Program} {w : World} {A : Around} {R : Result → Shared → Prop} {I : Addr} {fp wr : List Addr} {G : Array GenState → Array GenState → Prop} {n : Nat} {P : Nat → Value → Prop} {St : Nat → Shared → Prop}
/-- the loop puts in all keys from the i-th on -/
theorem loop_keys (W : WalksS prog w A.in1 I fp wr G n P St) (D : Addr) (hD : D ∉ fp) (ks : List Key) (hn : ks.length = n) (hb : n + 1 < scanBound)
    (hv : ∀ i v, P i v → ∃ k, ks[i]? = some k ∧ (mixKind prog w).is k v = true ∧ v.scannable = true) :
    ∀ (d i m : Nat) (T : Key → Bool) (s : Shared), i + d = n → m ≤ i → St i s → s.heap.SetOf (mixKind prog w) D T m →
      (∀ s' T' m', Moved (D :: wr) G s s' → s'.heap.SetOf (mixKind prog w) D T' m' → m' ≤ n → (∀ k, T' k = (T k || (ks.drop i).any fun j => decide (k = j))) → R (.ok (.ret .none)) s') →
      codeAny (model prog w) A (.builtin "set.update.loop" ⟨[.ref D, .ref I], []⟩) R s
  | 0, i, m, T, s, e, hm, st, hT, q => by
    refine codeAny_builtin F.entry_set_update_loop ?_
    rw [Around.under_plainId F.plain_set_update_loop _]
    show wpAny _ A.in1 (pyNext (.ref I) >>= _) _ _ s
    rw [Nat.add_zero] at e
    subst e
    refine wpAny_bind (W.done s _ _ st fun s1 mv => ?_)
    show wpAny _ A.in1 (ret Value.none) _ _ s1
    obtain ⟨o, es, ep, t, ho, rest⟩ := hT
    refine wpAny_pure (q s1 T m (mv.mono fun b hb => List.mem_cons_of_mem _ hb) ⟨o, es, ep, t, mv.heap D _ (fun z => hD (W.sub _ z)) ho, rest⟩ hm fun k => ?_)
    rw [← hn, List.drop_length]
    simp
  | d + 1, i, m, T, s, e, hm, st, hT, q => by
    refine codeAny_builtin F.entry_set_update_loop ?_
    rw [Around.under_plainId F.plain_set_update_loop _]
    show wpAny _ A.in1 (pyNext (.ref I) >>= _) _ _ s
    have hi : i < n := by omega
    refine wpAny_bind (W.item i s _ _ hi st fun v s1 pv st1 mv => ?_)
    obtain ⟨k, ek, his, hsc⟩ := hv i v pv
    obtain ⟨o, es, ep, t, ho, rest⟩ := hT
    have hT1 : s1.heap.SetOf (mixKind prog w) D T m := ⟨o, es, ep, t, mv.heap D _ (fun z => hD (W.sub _ z)) ho, rest⟩
    show wpAny _ A.in1 (holding [v] (setAdd D v) >>= _) _ _ s1
    refine wpAny_bind (wpAny_holding ?_)
    unfold setAdd
    refine wpAny_holding ?_
    refine wpAny_bind ((mixKind prog w).pyHash his ?_)
    refine wpAny_setAddHashed_of (knd := mixKind prog w) (s := { s1 with toks := s1.toks + 1 }) his hsc hT1 (by omega) fun h2 sb hT2 => ?_
    refine wpAny_pure ⟨plainId_quiet F.plain_set_update_loop _, loop_keys W D hD ks hn hb hv d (i + 1) _ _ _ (by omega) ?_ (W.frame _ s1 _ _ st1 (Nat.le_succ _) fun b hb o e => ?_) hT2 fun s3 T3 m3 mv3 hT3 le eq => ?_⟩
    · split <;> omega
    · rw [sb.2 b (fun z => hD (by rw [← z]; exact hb))]
      exact e
    · refine q s3 T3 m3 (Moved.trans W.gtrans ((mv.mono fun b hb => List.mem_cons_of_mem _ hb).then_heap (Nat.le_succ _) fun b o hb e => ?_) mv3) hT3 le fun k' => ?_
      · rw [sb.2 b (fun z => hb (by rw [z]; exact List.mem_cons_self))]
        exact e
      · rw [eq k']
        have hlt : i < ks.length := by omega
        have ek' : ks[i] = k := by rw [List.getElem?_eq_getElem hlt] at ek; exact Option.some.inj ek
        rw [List.drop_eq_getElem_cons hlt, ek', Bool.or_assoc]
        congr 1
end
section
variable {prog : Program} {w : World} {A : Around} {E : Value → Shared → Prop} {s : Shared}
def newSetObj (led : Bool) : Obj := { cls := .type "set", dict := none, data := .set #[] 0 (.fresh 0 0 led) }
/-- what the filling of the new set leaves -/
def Filled (prog : Program) (w : World) (ks : List Key) (s s2 : Shared) : Prop := ∃ h' tk T m, s2 = { s with heap := h', toks := tk } ∧ h'.SetOf (mixKind prog w) s.heap.objs.size T m ∧ m ≤ ks.length ∧
  (∀ k, T k = ks.any fun j => decide (k = j)) ∧ ∀ b o, b < s.heap.objs.size → s.heap.get? b = some o → h'.get? b = some o
set_option maxHeartbeats 4000000 in
theorem call_set_keys {l : Addr} {items : Array Value} {ks : List Key} {Q : Value → Shared → Prop} (hh : A.handled = none) (hl : s.heap.IsList l items) (hsz : items.size = ks.length)
    (hv : ∀ (i : Nat) (v : Value), items[i]? = some v → ∃ k, ks[i]? = some k ∧ (mixKind prog w).is k v = true ∧ v.scannable = true) (hb : ks.length + 1 < scanBound) (q : ∀ s2, Filled prog w ks s s2 → Q (.ref s.heap.objs.size) s2) :
    wpAny (model prog w) A (call (.type "set") [.ref l]) Q E s := by
  obtain ⟨c, tl, hmro⟩ := PySem.F.called_set.mro
  have hmade := PySem.F.called_set.made
  have hsub := PySem.F.called_set.sub
  have h1 := PySem.F.called_set.notType
  have h2 := PySem.F.called_set.canCreate
  have hct := PySem.F.typeCall_set_1 (.ref l)
  refine wpAny_call (codeAny_of_tree ?_)
  show wpAny _ _ (callAny (.type "set") _) _ _ _
  refine wpAny_pure ⟨Code.quiet_builtin _ (by decide +kernel), codeAny_builtin PySem.F.entry_type_call ?_⟩
  rw [Around.under_plain (weight_type_call_type "set" [.ref l] []) rfl]
  repeat (any_goals (first | assumption | wp_step))
  refine codeAny_mono (code_set_new_1 (.ref l) (E := E) (Q₁ := fun obj s₁ => ∃ led : Bool, obj = .ref s.heap.objs.size ∧ s₁ = { s with heap := s.heap.push (newSetObj led) }) fun led => ⟨led, rfl, rfl⟩) fun r s₁ hr => ?_
  cases r with
  | error e => exact hr
  | ok fl =>
    cases fl with
    | ret obj =>
      obtain ⟨led, rfl, rfl⟩ := hr
      have hS : (s.heap.push (newSetObj led)).get? s.heap.objs.size = some (newSetObj led) := Heap.get?_push_size _ rfl
      have hT : Shared.TypeIs { s with heap := s.heap.push (newSetObj led) } (.ref s.heap.objs.size) "set" := ⟨_, hS, rfl⟩
      have hli := PySem.F.called_set.init.lookup
      have hbi := PySem.F.called_set.init.bind (.ref s.heap.objs.size)
      repeat (any_goals (first | assumption | wp_step))
      refine codeAny_mono (codeAny_call_builtin (R := wants (fun r s₂ => r = .none ∧ Filled prog w ks s s₂) E) PySem.F.called_set.init.plain PySem.F.entry_set_init (check_set_init_1 hT ?_)) fun r₂ s₂ hr₂ => ?_
      · obtain ⟨ol, hol, hcl, nl, hdl⟩ := hl
        obtain ⟨ocls, odict, odata, oslots⟩ := ol
        simp only at hcl hdl
        subst hcl
        subst hdl
        have hol' : (s.heap.push (newSetObj led)).get? l = some { cls := .type "list", dict := odict, data := .seq items nl, slots := oslots } := Heap.get?_push_of_some _ hol
        have hsls := PySem.F.sub_list_set
        have hslf := PySem.F.sub_list_frozenset
        have hne : (Value.type "list" == Value.type "dict") = false := by decide
        have hl1 : (s.heap.push (newSetObj led)).IsList l items := ⟨_, hol', rfl, nl, rfl⟩
        unfold Builtin.«set.__init__» noKeywords Builtin.Frozenset.updateFrom
        generalize hPI : pyIter = PI
        wp_walk
        subst hPI
        refine wpAny_pyIter_list hl1 ?_
        refine wpAny_bind (wpAny_runValue ?_)
        have hlS : l < s.heap.objs.size := Heap.lt_size hol
        have hh3 : A.in1.in1.in1.handled = none := by simp [hh]
        have nI : l ≠ (s.heap.push (newSetObj led)).objs.size := by
          rw [Heap.size_push]
          exact Nat.ne_of_lt (Nat.lt_succ_of_lt hlS)
        have nS : s.heap.objs.size ∉ [(s.heap.push (newSetObj led)).objs.size, l] := by
          rw [Heap.size_push]
          simp only [List.mem_cons, List.not_mem_nil, or_false, not_or]
          exact ⟨Nat.ne_of_lt (Nat.lt_succ_self _), Nat.ne_of_gt hlS⟩
        refine loop_keys ((Walks.list hh3 _ l nI items).toS) s.heap.objs.size nS ks hsz.symm (by rw [hsz]; exact hb) hv items.size 0 0 (fun _ => false) _ (Nat.zero_add _) (Nat.le_refl _)
          ⟨⟨_, Heap.get?_push_size _ rfl, rfl, rfl⟩, hl1.push _⟩ ?hA ?hB
        case hA =>
          have hg : ((s.heap.push (newSetObj led)).push { cls := .type "list_iterator", data := .fields #[.ref l, .int 0 0] }).get? s.heap.objs.size = some (newSetObj led) := Heap.get?_push_of_some _ hS
          exact ⟨_, #[], 0, _, hg, ⟨rfl, rfl, rfl⟩, rfl, (fun e he => by simp at he), (fun k => by simp), (by decide), (by rfl), rfl⟩
        case hB =>
          intro s' T' m' mv hT' le eq
          obtain ⟨h', g', d', tk', os'⟩ := s'
          have eg : g' = s.gens := mv.gens
          have ed : d' = s.drawn := mv.drawn
          have eo : os' = s.os := mv.os
          subst eg
          subst ed
          subst eo
          show wpAny _ _ _ _ _ _
          refine wpAny_pure ?_
          show wpAny _ _ (ret Value.none) _ _ _
          refine wpAny_pure ⟨rfl, h', tk', T', m', rfl, hT', by omega, fun k => by rw [eq k]; rfl, fun b o hb e => ?_⟩
          refine mv.heap b o ?_ (Heap.get?_push_of_some _ (Heap.get?_push_of_some _ e))
          simp only [List.mem_cons, List.not_mem_nil, or_false, not_or]
          exact ⟨Nat.ne_of_lt hb, by rw [Heap.size_push]; exact Nat.ne_of_lt (Nat.lt_succ_of_lt hb)⟩
      · cases r₂ with
        | error e => exact hr₂
        | ok fl₂ =>
          cases fl₂ with
          | ret r =>
            obtain ⟨rfl, hf⟩ := hr₂
            repeat (any_goals (first | assumption | wp_step))
            exact q _ hf
          | _ => exact hr₂.elim
    | _ => exact hr.elim
end
/-- the keys of a list as values -/
theorem keys_vals {P : Program} {w : World} : ∀ {ks : List Key} {us : List Value}, Vals (ks.map kV) us → ∀ (i : Nat) (v : Value), us[i]? = some v → ∃ k, ks[i]? = some k ∧ (mixKind P w).is k v = true ∧ v.scannable = true
  | [], _, .nil, i, v, e => by simp at e
  | k :: ks, _, .cons r t, 0, v, e => by
    simp at e
    subst e
    exact ⟨k, rfl, kV_is r, key_scan r⟩
  | k :: ks, _, .cons r t, i + 1, v, e => by
    simp only [List.getElem?_cons_succ] at e ⊢
    exact keys_vals t i v e
section
variable {X : Cx}
/-- set(a list of texts) -/
def rSetTx (K : PySem.W.Frag) (P : Program) (w : World) : List V → Hp → VK → Prop := fun xs H Q => ∃ (l : Addr) (zs : List Str), xs = [.ref l] ∧ SqL K H l (zs.map V.str) ∧ zs.length < 1000 ∧
  ∀ a n T, H a = none → n ≤ zs.length → (∀ z, T (Sum.inr z) = decide (z ∈ zs)) → Q (.ref a) (upd H a (SetK P w a T n))
theorem cr_setTx (K : PySem.W.Frag) (hc : X.calm = true) (e : X.K = K := by rfl) : CallR X (.type "set") (rSetTx K X.prog X.w) := by
  subst e
  intro pins s σ H xs us Q I r h
  obtain ⟨l, zs, rfl, hl, hf, q⟩ := h
  rw [Vals.ref1 r]
  obtain ⟨its, rv, pl, hz⟩ := I.list hl
  have rv : Vals ((zs.map Sum.inr).map kV) its := by
    rw [List.map_map]
    exact rv
  have hle : its.length = zs.length := by rw [← rv.length, List.length_map, List.length_map]
  have hn : H s.heap.objs.size = none := I.hok.fresh (Nat.le_refl _)
  refine call_set_keys (ks := zs.map Sum.inr) (I.ok.hd hc) pl.isList (by rw [List.size_toArray, hle, List.length_map]) (fun i v e => keys_vals rv i v (by simpa using e)) (by rw [List.length_map]; unfold scanBound; omega) fun s2 F => ?_
  obtain ⟨h', tk, T, m, rfl, hT, hm, eT, k⟩ := F
  rw [List.length_map] at hm
  refine ⟨.ref s.heap.objs.size, upd H s.heap.objs.size (SetK X.prog X.w s.heap.objs.size T m), I.laid (t' := tk) (fun b o e => k b o (Heap.lt_size e) e) (Nat.le_refl _) (setK_new hT), rfl, q _ m T hn hm fun z => ?_⟩
  rw [eT, Bool.eq_iff_iff]
  simp [List.any_eq_true]
end
end Qk

/-! Qt: membership in sets, slices of texts, loops over texts, dict displays, bits -/
namespace Qk
open PySem PySem.Spec PyProof.Rows L2
/-! ### in, not in: also sets -/
def rInM (K : PySem.W.Frag) (P : Program) (w : World) : R2 := fun x y H Q => rInA K x y H Q ∨ rSInK P w false x y H Q
def rNotInM (K : PySem.W.Frag) (P : Program) (w : World) : R2 := fun x y H Q => rNotInA K x y H Q ∨ rSInK P w true x y H Q
section
variable {X : Cx}
theorem op_inM (K : PySem.W.Frag) (P : Program) (w : World) (hu : X.A.units + 64 < cLine) (hu' : X.A.units + 65 < cLine) (e : X.K = K := by rfl) (eP : X.prog = P := by rfl) (ew : X.w = w := by rfl) : OpR X (compareOp .In) (rInM K P w) := by
  subst e
  subst eP
  subst ew
  intro pins s σ H x y v u Q I rx ry h
  rcases h with h | h
  · exact op_inA hu hu' pins s σ H x y v u Q I rx ry h
  · exact or_sinK pins s σ H x y v u Q I rx ry h
theorem op_notinM (K : PySem.W.Frag) (P : Program) (w : World) (hu : X.A.units + 64 < cLine) (hu' : X.A.units + 65 < cLine) (e : X.K = K := by rfl) (eP : X.prog = P := by rfl) (ew : X.w = w := by rfl) : OpR X (compareOp .NotIn) (rNotInM K P w) := by
  subst e
  subst eP
  subst ew
  intro pins s σ H x y v u Q I rx ry h
  rcases h with h | h
  · exact op_notinA hu hu' pins s σ H x y v u Q I rx ry h
  · exact or_snotinK pins s σ H x y v u Q I rx ry h
/-- slices of lists, tuples, texts -/
def rSlM (K : PySem.W.Frag) : V → Option Int → Option Int → Hp → VK → Prop := fun x lo hi H Q => rSlB K x lo hi H Q ∨ rSlS x lo hi H Q
theorem sl_M (K : PySem.W.Frag) (e : X.K = K := by rfl) : SlR X (rSlM K) := by
  subst e
  intro pins s σ H x v vl vu lo hi sl Q I rx hs pl pu h
  rcases h with h | h
  · exact sl_all pins s σ H x v vl vu lo hi sl Q I rx hs pl pu h
  · exact sl_str pins s σ H x v vl vu lo hi sl Q I rx hs pl pu h
end
section
variable {K : PySem.W.Frag} {P : Program} {w : World} {σ : L2.St} {F : Hp} {O O' : Own} {H : Hp} {Q : VK} {x y v : V} {te ta tk tv : TE} {D : Ends} {ts : TS} {g : TG}
theorem g_inM (q : rInA K x y H Q) : rInM K P w x y H Q := .inl q
theorem g_notinM (q : rNotInA K x y H Q) : rNotInM K P w x y H Q := .inl q
theorem g_inK {a : Addr} {T : Key → Bool} {n : Nat} {k : Key} (ek : x = kV k) (h : H a = some (SetK P w a T n)) (q : Q (.bl (T k)) H) : rInM K P w x (.ref a) H Q := .inr ⟨k, a, T, n, ek, rfl, h, q⟩
theorem g_notinK {a : Addr} {T : Key → Bool} {n : Nat} {k : Key} (ek : x = kV k) (h : H a = some (SetK P w a T n)) (q : Q (.bl (!T k)) H) : rNotInM K P w x (.ref a) H Q := .inr ⟨k, a, T, n, ek, rfl, h, q⟩
theorem g_inC {c : Nat} {z : Str} (q : Q (.bl (decide (c ∈ z.cps.toList))) H) : rInA K (.str ⟨#[c]⟩) (.str z) H Q := .inr (.inl ⟨_, _, rfl, rfl, by rw [PySem.StrLaws.found_one z c]; exact q⟩)
theorem g_notinC {c : Nat} {z : Str} (q : Q (.bl (!decide (c ∈ z.cps.toList))) H) : rNotInA K (.str ⟨#[c]⟩) (.str z) H Q := .inr (.inl ⟨_, _, rfl, rfl, by rw [PySem.StrLaws.found_one z c]; exact q⟩)
theorem g_slM {lo hi : Option Int} (q : rSlB K x lo hi H Q) : rSlM K x lo hi H Q := .inl q
theorem g_slZ {z : Str} {lo hi : Option Int} (hl : z.length ≤ sizeLine) (q : Q (.str (cutS z lo hi)) H) : rSlM K (.str z) lo hi H Q := .inr ⟨z, rfl, hl, q⟩
/-! ### loops over a text -/
def kForS (g : TG) (tb : TS) (D : Ends) (σ : L2.St) (x : V) (H : Hp) : Prop := ∃ z, x = .str z ∧ kW (Its z) g tb D σ H
theorem g_forS (q : te σ H fun x H1 => kForS g ts D σ x H1) : tFor (iStr te) g ts D σ H := q
theorem k_forS {z : Str} (Pv : Nat → L2.St → Hp → Prop) (h0 : Pv 0 σ H)
    (hs : ∀ i c σ H, z.cps[i]? = some c → Pv i σ H → g (.str ⟨#[c]⟩) σ H fun σ2 H2 => ts { D with nx := Pv (i + 1), ct := Pv (i + 1), bk := D.nx } σ2 H2) (hd : ∀ σ H, Pv z.length σ H → D.nx σ H) : kForS g ts D σ (.str z) H := by
  refine ⟨z, rfl, fun i m σ H => m = z.length - i ∧ i ≤ z.length ∧ Pv i σ H, ⟨z.length, rfl, Nat.zero_le _, h0⟩, ?_⟩
  rintro i m σ H ⟨rfl, hi, p⟩
  by_cases hlt : i < z.length
  · refine .inr ⟨hlt, Pv (i + 1), fun σ' H' p' => ⟨z.length - (i + 1), by omega, rfl, hlt, p'⟩, fun x H' y => ?_⟩
    obtain ⟨e, c, hc, rfl⟩ := y
    subst e
    exact hs i c σ _ hc p
  · have e : i = z.length := by omega
    subst e
    exact .inl ⟨Nat.le_refl _, hd σ H p⟩
/-! ### {k: v} -/
def kDisp1 (p : Addr) (x y : V) (H : Hp) (Q : VK) : Prop := H p = some (.dK []) ∧ ∃ kvs : List (Key × V), [(x, y)] = kvs.map (fun kv => (kV kv.1, kv.2)) ∧ kvs.length ≤ 15 ∧ Q (.ref p) (upd H p (.dK (mergeK [] kvs)))
theorem g_disp1 (hH : Has F O H) (q : ∀ p H1, H p = none → Has F ((p, .dK []) :: O) H1 → tk σ H1 fun x H2 => tv σ H2 fun y H3 => kDisp1 p x y H3 Q) : tDisp [(tk, tv)] σ H Q := fun p n => q p _ n (hH.new n)
theorem g_kdisp1 {p : Addr} {z : V} {k : Key} (h : Has F ((p, .dK []) :: O) H) (ez : z = kV k) (q : ∀ H', Has F ((p, .dK [(k, y)]) :: O) H' → Q (.ref p) H') : kDisp1 p z y H Q := by
  subst ez
  exact ⟨h.get (List.Mem.head _), [(k, y)], rfl, Nat.succ_le_succ (Nat.zero_le _), q _ (h.put .hd)⟩
/-! ### sum, str, set -/
theorem cr_setTxK {X : Cx} (K : PySem.W.Frag) (P : Program) (w : World) (hc : X.calm = true) (e : X.K = K := by rfl) (eP : X.prog = P := by rfl) (ew : X.w = w := by rfl) : CallR X (.type "set") (rSetTx K P w) := by
  subst e
  subst eP
  subst ew
  exact cr_setTx _ hc
theorem g_sum {a : Addr} {ns : List Int} (h : H a = some (.lst (ns.map V.int))) (q : Q (.int ns.sum) H) : rSum K [.ref a] H Q := ⟨a, ns, rfl, SqL.of h, q⟩
def rStrI : List V → Hp → VK → Prop := fun xs H Q => ∃ i : Int, xs = [.int i] ∧ i.natAbs.log2 < 1920 ∧ Q (.str (toString i)) H
theorem cr_strI {X : Cx} : CallR X (.type "str") rStrI := call_str_int
theorem g_strI {i : Int} (h : i.natAbs.log2 < 1920) (q : Q (.str (toString i)) H) : rStrI [.int i] H Q := ⟨i, rfl, h, q⟩
theorem cr_sumK {X : Cx} (K : PySem.W.Frag) (hc : X.calm = true) (e : X.K = K := by rfl) : CallR X (.builtin "sum") (rSum K) := by subst e; exact cr_sum hc
theorem g_setOf {a : Addr} {zs : List Str} (h : H a = some (.lst (zs.map V.str))) (hl : zs.length < 1000) (hH : Has F O H) (q : ∀ p n T H', H p = none → (∀ z, T (Sum.inr z) = decide (z ∈ zs)) → Has F ((p, SetK P w p T n) :: O) H' → Q (.ref p) H') : rSetTx K P w [.ref a] H Q :=
  ⟨a, zs, rfl, SqL.of h, hl, fun p n T np _ eT => q p n T _ np eT (hH.new np)⟩
/-! ### methods of texts -/
def kM0 (r : V → List V → Hp → VK → Prop) (x : V) (H : Hp) (Q : VK) : Prop := (∃ a, x = .str a) ∧ r x [] H Q
theorem g_m0 {r : V → List V → Hp → VK → Prop} (q : ta σ H fun x H1 => kM0 r x H1 Q) : tM0 r ta σ H Q := q
theorem g_km0 {r : V → List V → Hp → VK → Prop} {z : Str} (q : r (.str z) [] H Q) : kM0 r (.str z) H Q := ⟨⟨z, rfl⟩, q⟩
end
/-! ### ways that meet, the rest of the way out of sight -/
theorem g_joinD {t : TS} {D : Ends} {σ : L2.St} {H : Hp} (M : L2.St → Hp → Prop) (h : ∀ σ' H', M σ' H' → D.nx σ' H') (q : ∀ nx' : L2.St → Hp → Prop, (∀ σ' H', M σ' H' → nx' σ' H') → t { D with nx := nx' } σ H) : t D σ H := q D.nx h
end Qk

/-! Qu: sets of keys that can be gone through: set(list), sorted(set), in -/
namespace Qk
open PySem PySem.Spec PyProof.Rows L2
/-- the entries of a set and their keys -/
structure KE (P : Program) (w : World) (es : Array (Int × Value)) (ks : List Key) : Prop where
  ex : ∃ kes : List (Key × (Int × Value)), (kes.map (·.2)).Perm es.toList ∧ (∀ p ∈ kes, (mixKind P w).is p.1 p.2.2 = true) ∧ kes.map (·.1) = ks
  nd : ks.Nodup
def KR (P : Program) (w : World) (h : Heap) (a : Addr) (T : Key → Bool) (n : Nat) : Prop :=
  ∃ (o : Obj) (es : Array (Int × Value)) (ep : Nat) (t : SetTable) (ks : List Key), h.get? a = some o ∧ o.ExactSet ∧ o.data = .set es ep t ∧ ElemsOf (mixKind P w) es.toList ∧ KE P w es ks ∧ (∀ k, T k = true ↔ k ∈ ks) ∧
    es.size < scanBound ∧ t.fits es.size = true ∧ es.size = n ∧ Ris t.place.toList ∧ (w.params.followText "set-order" = true ∨ t.led = true)
section
variable {P : Program} {w : World} {h h' : Heap} {a : Addr} {T : Key → Bool} {n : Nat}
theorem KE.mem {es : Array (Int × Value)} {ks : List Key} (e : KE P w es ks) (k : Key) : k ∈ ks ↔ ∃ x, x ∈ es.toList ∧ (mixKind P w).is k x.2 = true := by
  obtain ⟨kes, pm, hi, rfl⟩ := e.ex
  rw [List.mem_map]
  constructor
  · rintro ⟨p, hp, rfl⟩
    exact ⟨p.2, pm.mem_iff.mp (List.mem_map.mpr ⟨p, hp, rfl⟩), hi p hp⟩
  · rintro ⟨x, hx, hk⟩
    obtain ⟨p, hp, rfl⟩ := List.mem_map.mp (pm.mem_iff.mpr hx)
    exact ⟨p, hp, (mixKind P w).inj _ _ _ (hi p hp) hk⟩
theorem KE.len {es : Array (Int × Value)} {ks : List Key} (e : KE P w es ks) : ks.length = es.size := by
  obtain ⟨kes, pm, _, rfl⟩ := e.ex
  rw [List.length_map, ← Array.length_toList, ← pm.length_eq, List.length_map]
theorem KR.setOf (r : KR P w h a T n) : h.SetOf (mixKind P w) a T n := by
  obtain ⟨o, es, ep, t, ks, h1, h2, h3, h4, h5, h6, h7, h8, h9, _⟩ := r
  exact ⟨o, es, ep, t, h1, h2, h3, h4, fun k => (h6 k).trans (h5.mem k), h7, h8, h9⟩
theorem KR.at_ (r : KR P w h a T n) (s : ∀ o, h.get? a = some o → h'.get? a = some o) : KR P w h' a T n := by
  obtain ⟨o, es, ep, t, ks, h1, rest⟩ := r
  exact ⟨o, es, ep, t, ks, s _ h1, rest⟩
theorem KR.congr {T' : Key → Bool} (r : KR P w h a T n) (e : ∀ k, T' k = T k) : KR P w h a T' n := by
  have : T' = T := funext e
  rw [this]
  exact r
end
def SetQ (P : Program) (w : World) (a : Addr) (T : Key → Bool) (n : Nat) : HO := HO.ext fun h => KR P w h a T n
theorem setQ_get {X : Cx} {pins : List (Addr × Obj)} {σ : L2.St} {H : Hp} {s : Shared} {a : Addr} {T : Key → Bool} {n : Nat} (I : L2.Inv X pins σ H s) (ha : H a = some (SetQ X.prog X.w a T n)) : KR X.prog X.w s.heap a T n := (I.hok a _ ha).1
theorem setQ_new {P : Program} {w : World} {H : Hp} {h : Heap} {a : Addr} {T : Key → Bool} {n : Nat} (r : KR P w h a T n) : ObjOk P w H h a (SetQ P w a T n) := by
  obtain ⟨o, _, _, _, _, ho, _⟩ := id r
  exact ⟨r, ⟨o, ho⟩, fun h1 h2 r1 s => KR.at_ r1 s⟩
/-! ### one more key -/
section
variable {P : Program} {w : World} {A : Around} {E : Value → Shared → Prop} {s : Shared} {a : Addr}
theorem KE.push {es es1 : Array (Int × Value)} {ks : List Key} (e : KE P w es ks) {k : Key} {x : Value} {hx : Int} (hk : (mixKind P w).is k x = true) (nk : k ∉ ks) (pm : es1.toList.Perm (es.push (hx, x)).toList) : KE P w es1 (ks ++ [k]) := by
  obtain ⟨kes, p0, hi, rfl⟩ := e.ex
  refine ⟨⟨kes ++ [(k, (hx, x))], ?_, ?_, by rw [List.map_append]; rfl⟩, ?_⟩
  · rw [List.map_append]
    refine List.Perm.trans (List.Perm.append_right _ p0) ?_
    rw [Array.toList_push] at pm
    exact pm.symm
  · intro p hp
    rcases List.mem_append.mp hp with hp | hp
    · exact hi p hp
    · rw [List.mem_singleton.mp hp]; exact hk
  · rw [List.nodup_append]
    refine ⟨e.nd, List.nodup_cons.mpr ⟨fun h => (by cases h), List.nodup_nil⟩, fun x hx y hy e => ?_⟩
    rw [List.mem_singleton.mp hy] at e
    exact nk (e ▸ hx)
theorem KE.perm {es es1 : Array (Int × Value)} {ks : List Key} (e : KE P w es ks) (pm : es1.toList.Perm es.toList) : KE P w es1 ks := by
  obtain ⟨kes, p0, hi, ek⟩ := e.ex
  exact ⟨⟨kes, p0.trans pm.symm, hi, ek⟩, e.nd⟩
theorem kr_tail {g : Bool → Sem Unit} (hg : ∀ (b : Bool) (s₁ : Shared) (Q' : Unit → Shared → Prop), Q' () s₁ → wpAny (model P w) A (g b) Q' E s₁) {o : Obj} {es : Array (Int × Value)} {ep : Nat} {t : SetTable}
    (ho : s.heap.get? a = some o) (hx : o.ExactSet) (hd : o.data = .set es ep t) {es1 : Array (Int × Value)} {t2 : SetTable} {T' : Key → Bool} {ks : List Key}
    (he : ElemsOf (mixKind P w) es1.toList) (hk : KE P w es1 ks) (hT : ∀ k, T' k = true ↔ k ∈ ks) (hsz : es1.size < scanBound) (hf : t2.fits es1.size = true) (hr : Ris t2.place.toList) (hl : w.params.followText "set-order" = true ∨ t2.led = true)
    {wasDummy : Bool} {R : Option Bool → Shared → Prop} (q : ∀ h', Heap.SameBut a s.heap h' → KR P w h' a T' es1.size → R (some true) { s with heap := h' }) :
    wpAny (model P w) A (do
      storeSet a es1 t2
      if (!wasDummy && t2.tooFull) = true then do
          g (relayAll t2 es1 (SetTable.grown es1.size)).snd.snd
          storeSet a (relayAll t2 es1 (SetTable.grown es1.size)).fst (relayAll t2 es1 (SetTable.grown es1.size)).snd.fst
          pure (some true)
        else pure (some true)) R E s := by
  refine wpAny_bind (wpAny_storeSet_of ho hd ?_ (fits_of_scanBound hsz))
  have h1 := store_at (es' := es1) (t' := t2) ho hd
  have b1 := Heap.SameBut.update s.heap a (Obj.putSet es1 t2)
  split
  · refine wpAny_bind (hg _ _ _ ?_)
    have pm := relayAll_perm t2 es1 (SetTable.grown es1.size)
    have fit := relayAll_fits t2 es1 (SetTable.grown es1.size)
    have ris := relayAll_ris t2 es1 (SetTable.grown es1.size)
    have led := relayAll_led t2 es1 (SetTable.grown es1.size)
    generalize relayAll t2 es1 (SetTable.grown es1.size) = rl at pm fit ris led
    obtain ⟨es2, t3, gv⟩ := rl
    have es_sz : es2.size = es1.size := by
      have := pm.length_eq
      rwa [Array.length_toList, Array.length_toList] at this
    refine wpAny_bind (wpAny_storeSet_of h1 rfl ?_ (fits_of_scanBound (by show es2.size < _; omega)))
    refine wpAny_pure (q _ (b1.trans (Heap.SameBut.update _ a _)) ?_)
    refine ⟨_, es2, ep + 1 + 1, t3, ks, store_at (es' := es2) (t' := t3) h1 rfl, ⟨hx.1, hx.2.1, hx.2.2⟩, rfl, he.perm pm, hk.perm pm, hT, by omega, fit, es_sz, ris, ?_⟩
    rcases hl with hl | hl
    · exact .inl hl
    · exact .inr (led.trans hl)
  · exact wpAny_pure (q _ b1 ⟨_, es1, ep + 1, t2, ks, h1, ⟨hx.1, hx.2.1, hx.2.2⟩, rfl, he, hk, hT, hsz, hf, rfl, hr, hl⟩)
theorem kr_add {T : Key → Bool} {n : Nat} {k : Key} {x : Value} {Q : Bool → Shared → Prop} (his : (mixKind P w).is k x = true) (hsc : x.scannable = true) (hT : KR P w s.heap a T n) (hn : n + 1 < scanBound)
    (q : ∀ h', Heap.SameBut a s.heap h' → KR P w h' a (fun k' => T k' || decide (k' = k)) (if T k = true then n else n + 1) → Q (!T k) { s with heap := h' }) : wpAny (model P w) A (setAddHashed a x ((mixKind P w).hash k)) Q E s := by
  obtain ⟨o, es, ep, t, ks, ho, hx, hd, he, hk, hT', hsz, hf, hn', hr, hl⟩ := hT
  unfold setAddHashed
  refine wpAny_holding ?_
  rw [setAddHashedIn.eq_def]
  dsimp only
  refine wpAny_bind (wpAny_setState_of ho hd hf ?_)
  dsimp only
  rw [if_pos (byScan_of (knd := mixKind P w) hsc hsz he)]
  refine wpAny_bind ?_
  unfold setAddByScan
  refine wpAny_bind (wpAny_rule ?_)
  refine wpAny_bind (wpAny_setScan_of (knd := mixKind P w) his ho hd hf he ?_)
  cases hfi : List.findIdx? (fun e => (mixKind P w).is k e.2) es.toList with
  | some j =>
    have hk1 : T k = true := by
      rw [hT' k, hk.mem k]
      have h1 := List.findIdx?_eq_some_iff_getElem.mp hfi
      obtain ⟨hj, hp, _⟩ := h1
      exact ⟨_, List.getElem_mem hj, hp⟩
    dsimp only
    refine wpAny_pure ?_
    dsimp only
    refine wpAny_pure ?_
    have q' := q s.heap (Heap.SameBut.refl _ _) ?_
    · rw [hk1] at q'
      exact q'
    · rw [if_pos hk1]
      refine KR.congr ⟨o, es, ep, t, ks, ho, hx, hd, he, hk, hT', hsz, hf, hn', hr, hl⟩ fun k' => ?_
      by_cases e : k' = k
      · rw [e, hk1]; rfl
      · rw [decide_eq_false e, Bool.or_false]
  | none =>
    have hk0 : T k = false := by
      cases e : T k with
      | false => rfl
      | true =>
        obtain ⟨x', hx', hi'⟩ := (hk.mem k).mp ((hT' k).mp e)
        have := List.findIdx?_eq_none_iff.mp hfi x' hx'
        rw [hi'] at this
        cases this
    have nk : k ∉ ks := fun m => by
      have := (hT' k).mpr m
      rw [hk0] at this
      cases this
    dsimp only
    have pm := layNew_perm t es ((mixKind P w).hash k) x
    have fit := layNew_fits t es ((mixKind P w).hash k) x
    have ris := layNew_ris t es ((mixKind P w).hash k) x hr
    have led := layNew_led t es ((mixKind P w).hash k) x
    generalize layNew t es ((mixKind P w).hash k) x = ln at pm fit ris led
    obtain ⟨es1, t1, wd, gv⟩ := ln
    dsimp only at pm fit ris led ⊢
    have sz1 : es1.size = es.size + 1 := by
      have := pm.length_eq
      rwa [Array.length_toList, Array.length_toList, Array.size_push] at this
    have he1 : ElemsOf (mixKind P w) es1.toList := by
      have := he.push his hsc
      rw [← Array.toList_push] at this
      exact this.perm pm
    have hk1 := hk.push his nk pm
    have hT1 : ∀ k', (T k' || decide (k' = k)) = true ↔ k' ∈ ks ++ [k] := fun k' => by
      rw [Bool.or_eq_true, decide_eq_true_eq, hT' k', List.mem_append, List.mem_singleton]
    have hsz1 : es1.size < scanBound := by omega
    have led1 : w.params.followText "set-order" = true ∨ t1.led = true := by
      rcases hl with hl | hl
      · exact .inl hl
      · exact .inr (led.trans hl)
    rw [hk0] at q
    have fin : ∀ h', Heap.SameBut a s.heap h' → KR P w h' a (fun k' => T k' || decide (k' = k)) es1.size → Q true { s with heap := h' } := fun h' b r => q h' b (by rw [sz1, hn'] at r; exact r)
    have tl : ∀ b : Bool, (if b = true then t1 else { t1 with plain := false }).fits es1.size = true ∧ Ris (if b = true then t1 else { t1 with plain := false }).place.toList ∧ (w.params.followText "set-order" = true ∨ (if b = true then t1 else { t1 with plain := false }).led = true) := fun b => by
      cases b
      · exact ⟨SetTable.fits_plain_off fit, ris, led1⟩
      · exact ⟨fit, ris, led1⟩
    refine wpAny_bind ?_
    cases gv <;> (first | refine wpAny_pure ?_ | refine wpAny_rule ?_)
    all_goals
      split
      · rw [hashByValue_scannable _ hsc]
        refine wpAny_bind (wpAny_pure ?_)
        refine kr_tail ?_ ho hx hd he1 hk1 hT1 hsz1 (tl _).1 (tl _).2.1 (tl _).2.2 (fun h' sb r => ?_)
        · intro b s₁ Q' h
          cases b <;> (first | exact wpAny_pure h | exact wpAny_rule h)
        · exact wpAny_pure (fin h' sb r)
      · refine wpAny_bind (wpAny_pure ?_)
        refine kr_tail ?_ ho hx hd he1 hk1 hT1 hsz1 (tl true).1 (tl true).2.1 (tl true).2.2 (fun h' sb r => ?_)
        · intro b s₁ Q' h
          cases b <;> (first | exact wpAny_pure h | exact wpAny_rule h)
        · exact wpAny_pure (fin h' sb r)
end
theorem code_set_led1 {P : Program} {w : World} {A : Around} {E : Value → Shared → Prop} {s : Shared} (a : Value) {Q₁ : Value → Shared → Prop}
    (q : Q₁ (.ref s.heap.objs.size) { s with heap := s.heap.push { cls := .type "set", data := .set #[] 0 (.fresh 0 0 !w.params.followText "set-order") } }) :
    codeAny (model P w) A (.call (.builtin "set.__new__") ⟨[.type "set", a], []⟩) (wants Q₁ E) s := by
  refine codeAny_of_tree ?_
  show wpAny _ _ (_ >>= _) _ _ _
  refine wpAny_bind ?_
  refine wpAny_of_eq (PySem.F.newCall_set_1 a) ?_
  refine wpAny_pure ?_
  refine ⟨plainId_quiet F.plain_set_new _, codeAny_builtin F.entry_set_new ?_⟩
  rw [Around.under_plainId F.plain_set_new _]
  show wpAny _ _ (Builtin.«set.__new__» _) _ _ _
  unfold Builtin.«set.__new__» Builtin.Frozenset.newClass newSet
  dsimp only
  have hs := @PySem.sub_set_self
  repeat (any_goals (first | assumption | wp_step))
  refine wpAny_askSetting ?_
  refine wpAny_pure ?_
  dsimp only
  unfold newObj
  repeat (any_goals (first | assumption | wp_step))

/-! ### set(a list of keys) -/
section
variable {prog : Program} {w : World} {A : Around} {R : Result → Shared → Prop} {I : Addr} {fp wr : List Addr} {G : Array GenState → Array GenState → Prop} {n : Nat} {P : Nat → Value → Prop} {St : Nat → Shared → Prop}
/-- the loop puts in all keys from the i-th on -/
theorem loop_keysQ (W : WalksS prog w A.in1 I fp wr G n P St) (D : Addr) (hD : D ∉ fp) (ks : List Key) (hn : ks.length = n) (hb : n + 1 < scanBound)
    (hv : ∀ i v, P i v → ∃ k, ks[i]? = some k ∧ (mixKind prog w).is k v = true ∧ v.scannable = true) :
    ∀ (d i m : Nat) (T : Key → Bool) (s : Shared), i + d = n → m ≤ i → St i s → KR prog w s.heap D T m →
      (∀ s' T' m', Moved (D :: wr) G s s' → KR prog w s'.heap D T' m' → m' ≤ n → (∀ k, T' k = (T k || (ks.drop i).any fun j => decide (k = j))) → R (.ok (.ret .none)) s') →
      codeAny (model prog w) A (.builtin "set.update.loop" ⟨[.ref D, .ref I], []⟩) R s
  | 0, i, m, T, s, e, hm, st, hT, q => by
    refine codeAny_builtin F.entry_set_update_loop ?_
    rw [Around.under_plainId F.plain_set_update_loop _]
    show wpAny _ A.in1 (pyNext (.ref I) >>= _) _ _ s
    rw [Nat.add_zero] at e
    subst e
    refine wpAny_bind (W.done s _ _ st fun s1 mv => ?_)
    show wpAny _ A.in1 (ret Value.none) _ _ s1
    refine wpAny_pure (q s1 T m (mv.mono fun b hb => List.mem_cons_of_mem _ hb) (hT.at_ fun o ho => mv.heap D _ (fun z => hD (W.sub _ z)) ho) hm fun k => ?_)
    rw [← hn, List.drop_length]
    simp
  | d + 1, i, m, T, s, e, hm, st, hT, q => by
    refine codeAny_builtin F.entry_set_update_loop ?_
    rw [Around.under_plainId F.plain_set_update_loop _]
    show wpAny _ A.in1 (pyNext (.ref I) >>= _) _ _ s
    have hi : i < n := by omega
    refine wpAny_bind (W.item i s _ _ hi st fun v s1 pv st1 mv => ?_)
    obtain ⟨k, ek, his, hsc⟩ := hv i v pv
    have hT1 : KR prog w s1.heap D T m := hT.at_ fun o ho => mv.heap D _ (fun z => hD (W.sub _ z)) ho
    show wpAny _ A.in1 (holding [v] (setAdd D v) >>= _) _ _ s1
    refine wpAny_bind (wpAny_holding ?_)
    unfold setAdd
    refine wpAny_holding ?_
    refine wpAny_bind ((mixKind prog w).pyHash his ?_)
    refine kr_add (s := { s1 with toks := s1.toks + 1 }) his hsc hT1 (by omega) fun h2 sb hT2 => ?_
    refine wpAny_pure ⟨plainId_quiet F.plain_set_update_loop _, loop_keysQ W D hD ks hn hb hv d (i + 1) _ _ _ (by omega) ?_ (W.frame _ s1 _ _ st1 (Nat.le_succ _) fun b hb o e => ?_) hT2 fun s3 T3 m3 mv3 hT3 le eq => ?_⟩
    · split <;> omega
    · rw [sb.2 b (fun z => hD (by rw [← z]; exact hb))]
      exact e
    · refine q s3 T3 m3 (Moved.trans W.gtrans ((mv.mono fun b hb => List.mem_cons_of_mem _ hb).then_heap (Nat.le_succ _) fun b o hb e => ?_) mv3) hT3 le fun k' => ?_
      · rw [sb.2 b (fun z => hb (by rw [z]; exact List.mem_cons_self))]
        exact e
      · rw [eq k']
        have hlt : i < ks.length := by omega
        have ek' : ks[i] = k := by rw [List.getElem?_eq_getElem hlt] at ek; exact Option.some.inj ek
        rw [List.drop_eq_getElem_cons hlt, ek', Bool.or_assoc]
        congr 1
end
section
variable {prog : Program} {w : World} {A : Around} {E : Value → Shared → Prop} {s : Shared}
def newSetQ (w : World) : Obj := { cls := .type "set", dict := none, data := .set #[] 0 (.fresh 0 0 !w.params.followText "set-order") }
/-- what the filling of the new set leaves -/
def FilledQ (prog : Program) (w : World) (ks : List Key) (s s2 : Shared) : Prop := ∃ h' tk T m, s2 = { s with heap := h', toks := tk } ∧ KR prog w h' s.heap.objs.size T m ∧ m ≤ ks.length ∧
  (∀ k, T k = ks.any fun j => decide (k = j)) ∧ ∀ b o, b < s.heap.objs.size → s.heap.get? b = some o → h'.get? b = some o
set_option maxHeartbeats 4000000 in
theorem call_set_keysQ {l : Addr} {items : Array Value} {ks : List Key} {Q : Value → Shared → Prop} (hh : A.handled = none) (hl : s.heap.IsList l items) (hsz : items.size = ks.length)
    (hv : ∀ (i : Nat) (v : Value), items[i]? = some v → ∃ k, ks[i]? = some k ∧ (mixKind prog w).is k v = true ∧ v.scannable = true) (hb : ks.length + 1 < scanBound) (q : ∀ s2, FilledQ prog w ks s s2 → Q (.ref s.heap.objs.size) s2) :
    wpAny (model prog w) A (call (.type "set") [.ref l]) Q E s := by
  obtain ⟨c, tl, hmro⟩ := PySem.F.called_set.mro
  have hmade := PySem.F.called_set.made
  have hsub := PySem.F.called_set.sub
  have h1 := PySem.F.called_set.notType
  have h2 := PySem.F.called_set.canCreate
  have hct := PySem.F.typeCall_set_1 (.ref l)
  refine wpAny_call (codeAny_of_tree ?_)
  show wpAny _ _ (callAny (.type "set") _) _ _ _
  refine wpAny_pure ⟨Code.quiet_builtin _ (by decide +kernel), codeAny_builtin PySem.F.entry_type_call ?_⟩
  rw [Around.under_plain (weight_type_call_type "set" [.ref l] []) rfl]
  repeat (any_goals (first | assumption | wp_step))
  refine codeAny_mono (code_set_led1 (.ref l) (E := E) (Q₁ := fun obj s₁ => obj = .ref s.heap.objs.size ∧ s₁ = { s with heap := s.heap.push (newSetQ w) }) ⟨rfl, rfl⟩) fun r s₁ hr => ?_
  cases r with
  | error e => exact hr
  | ok fl =>
    cases fl with
    | ret obj =>
      obtain ⟨rfl, rfl⟩ := hr
      have hS : (s.heap.push (newSetQ w)).get? s.heap.objs.size = some (newSetQ w) := Heap.get?_push_size _ rfl
      have hT : Shared.TypeIs { s with heap := s.heap.push (newSetQ w) } (.ref s.heap.objs.size) "set" := ⟨_, hS, rfl⟩
      have hli := PySem.F.called_set.init.lookup
      have hbi := PySem.F.called_set.init.bind (.ref s.heap.objs.size)
      repeat (any_goals (first | assumption | wp_step))
      refine codeAny_mono (codeAny_call_builtin (R := wants (fun r s₂ => r = .none ∧ FilledQ prog w ks s s₂) E) PySem.F.called_set.init.plain PySem.F.entry_set_init (check_set_init_1 hT ?_)) fun r₂ s₂ hr₂ => ?_
      · obtain ⟨ol, hol, hcl, nl, hdl⟩ := hl
        obtain ⟨ocls, odict, odata, oslots⟩ := ol
        simp only at hcl hdl
        subst hcl
        subst hdl
        have hol' : (s.heap.push (newSetQ w)).get? l = some { cls := .type "list", dict := odict, data := .seq items nl, slots := oslots } := Heap.get?_push_of_some _ hol
        have hsls := PySem.F.sub_list_set
        have hslf := PySem.F.sub_list_frozenset
        have hne : (Value.type "list" == Value.type "dict") = false := by decide
        have hl1 : (s.heap.push (newSetQ w)).IsList l items := ⟨_, hol', rfl, nl, rfl⟩
        unfold Builtin.«set.__init__» noKeywords Builtin.Frozenset.updateFrom
        generalize hPI : pyIter = PI
        wp_walk
        subst hPI
        refine wpAny_pyIter_list hl1 ?_
        refine wpAny_bind (wpAny_runValue ?_)
        have hlS : l < s.heap.objs.size := Heap.lt_size hol
        have hh3 : A.in1.in1.in1.handled = none := by simp [hh]
        have nI : l ≠ (s.heap.push (newSetQ w)).objs.size := by
          rw [Heap.size_push]
          exact Nat.ne_of_lt (Nat.lt_succ_of_lt hlS)
        have nS : s.heap.objs.size ∉ [(s.heap.push (newSetQ w)).objs.size, l] := by
          rw [Heap.size_push]
          simp only [List.mem_cons, List.not_mem_nil, or_false, not_or]
          exact ⟨Nat.ne_of_lt (Nat.lt_succ_self _), Nat.ne_of_gt hlS⟩
        refine loop_keysQ ((Walks.list hh3 _ l nI items).toS) s.heap.objs.size nS ks hsz.symm (by rw [hsz]; exact hb) hv items.size 0 0 (fun _ => false) _ (Nat.zero_add _) (Nat.le_refl _)
          ⟨⟨_, Heap.get?_push_size _ rfl, rfl, rfl⟩, hl1.push _⟩ ?hA ?hB
        case hA =>
          have hg : ((s.heap.push (newSetQ w)).push { cls := .type "list_iterator", data := .fields #[.ref l, .int 0 0] }).get? s.heap.objs.size = some (newSetQ w) := Heap.get?_push_of_some _ hS
          refine ⟨_, #[], 0, _, [], hg, ⟨rfl, rfl, rfl⟩, rfl, (fun e he => by simp at he), ⟨⟨[], List.Perm.refl _, (fun p h => by cases h), rfl⟩, List.nodup_nil⟩, (fun k => by simp), (by decide), (by rfl), rfl, List.Pairwise.nil, ?_⟩
          show _ ∨ (!w.params.followText "set-order") = true
          cases w.params.followText "set-order" <;> simp
        case hB =>
          intro s' T' m' mv hT' le eq
          obtain ⟨h', g', d', tk', os'⟩ := s'
          have eg : g' = s.gens := mv.gens
          have ed : d' = s.drawn := mv.drawn
          have eo : os' = s.os := mv.os
          subst eg
          subst ed
          subst eo
          show wpAny _ _ _ _ _ _
          refine wpAny_pure ?_
          show wpAny _ _ (ret Value.none) _ _ _
          refine wpAny_pure ⟨rfl, h', tk', T', m', rfl, hT', by omega, fun k => by rw [eq k]; rfl, fun b o hb e => ?_⟩
          refine mv.heap b o ?_ (Heap.get?_push_of_some _ (Heap.get?_push_of_some _ e))
          simp only [List.mem_cons, List.not_mem_nil, or_false, not_or]
          exact ⟨Nat.ne_of_lt hb, by rw [Heap.size_push]; exact Nat.ne_of_lt (Nat.lt_succ_of_lt hb)⟩
      · cases r₂ with
        | error e => exact hr₂
        | ok fl₂ =>
          cases fl₂ with
          | ret r =>
            obtain ⟨rfl, hf⟩ := hr₂
            repeat (any_goals (first | assumption | wp_step))
            exact q _ hf
          | _ => exact hr₂.elim
    | _ => exact hr.elim
end
section
variable {X : Cx}
/-- set(a list of texts), to be gone through -/
def rSetTQ (K : PySem.W.Frag) (P : Program) (w : World) : List V → Hp → VK → Prop := fun xs H Q => ∃ (l : Addr) (zs : List Str), xs = [.ref l] ∧ SqL K H l (zs.map V.str) ∧ zs.length < 1000 ∧
  ∀ a n T, H a = none → n ≤ zs.length → (∀ k, T k = true ↔ ∃ z, k = Sum.inr z ∧ z ∈ zs) → Q (.ref a) (upd H a (SetQ P w a T n))
theorem cr_setTQ (K : PySem.W.Frag) (P : Program) (w : World) (hc : X.calm = true) (e : X.K = K := by rfl) (eP : X.prog = P := by rfl) (ew : X.w = w := by rfl) : CallR X (.type "set") (rSetTQ K P w) := by
  subst e
  subst eP
  subst ew
  intro pins s σ H xs us Q I r h
  obtain ⟨l, zs, rfl, hl, hf, q⟩ := h
  rw [Vals.ref1 r]
  obtain ⟨its, rv, pl, hz⟩ := I.list hl
  have rv : Vals ((zs.map Sum.inr).map kV) its := by
    rw [List.map_map]
    exact rv
  have hle : its.length = zs.length := by rw [← rv.length, List.length_map, List.length_map]
  have hn : H s.heap.objs.size = none := I.hok.fresh (Nat.le_refl _)
  refine call_set_keysQ (ks := zs.map Sum.inr) (I.ok.hd hc) pl.isList (by rw [List.size_toArray, hle, List.length_map]) (fun i v e => keys_vals rv i v (by simpa using e)) (by rw [List.length_map]; unfold scanBound; omega) fun s2 F => ?_
  obtain ⟨h', tk, T, m, rfl, hT, hm, eT, k⟩ := F
  rw [List.length_map] at hm
  refine ⟨.ref s.heap.objs.size, upd H s.heap.objs.size (SetQ X.prog X.w s.heap.objs.size T m), I.laid (t' := tk) (fun b o e => k b o (Heap.lt_size e) e) (Nat.le_refl _) (setQ_new hT), rfl, q _ m T hn hm fun z => ?_⟩
  rw [eT, List.any_eq_true]
  constructor
  · rintro ⟨x, hx, e⟩
    obtain ⟨z', hz', rfl⟩ := List.mem_map.mp hx
    exact ⟨z', of_decide_eq_true e, hz'⟩
  · rintro ⟨z', rfl, hz'⟩
    exact ⟨_, List.mem_map.mpr ⟨z', hz', rfl⟩, decide_eq_true rfl⟩
end
end Qk

/-! Qv: sorted(a set of texts), in, not in -/
namespace Qk
open PySem PySem.Spec PyProof.Rows L2
section
variable {P : Program} {w : World} {A : Around} {E : Value → Shared → Prop} {s : Shared} {a : Addr} {T : Key → Bool} {n : Nat} {Q : Value → Shared → Prop}
theorem strs_of : ∀ (l : List Value) (zs : List Str), l.length = zs.length → (∀ i (h : i < l.length) (h' : i < zs.length), ∃ tk, l[i] = .str zs[i] tk) → StrsAre l zs
  | [], [], _, _ => .nil
  | [], _ :: _, e, _ => by cases e
  | _ :: _, [], e, _ => by cases e
  | v :: l, z :: zs, e, h => by
    obtain ⟨tk, hv⟩ := h 0 (Nat.zero_lt_succ _) (Nat.zero_lt_succ _)
    have hv : v = .str z tk := hv
    subst hv
    exact .cons z tk (strs_of l zs (by simpa using e) fun i h1 h2 => h (i + 1) (Nat.succ_lt_succ h1) (Nat.succ_lt_succ h2))
/-- values whose keys are all texts -/
theorem strs_ex : ∀ (l : List Value), (∀ v ∈ l, ∃ z tk, v = .str z tk) → ∃ zs, StrsAre l zs
  | [], _ => ⟨[], .nil⟩
  | v :: l, h => by
    obtain ⟨z, tk, rfl⟩ := h v List.mem_cons_self
    obtain ⟨zs, hz⟩ := strs_ex l fun u hu => h u (List.mem_cons_of_mem _ hu)
    exact ⟨z :: zs, .cons z tk hz⟩
theorem strs_len {l : List Value} {zs : List Str} (h : StrsAre l zs) : zs.length = l.length := by
  induction h with
  | nil => rfl
  | cons y t r ih => simp [ih]
theorem is_text {z : Str} {v : Value} (h : (mixKind P w).is (Sum.inr z) v = true) : ∃ tk, v = .str z tk := by
  have h : keyIs (Sum.inr z) v = true := h
  have h : v.isStrOf z = true := h
  cases v <;> simp [Value.isStrOf] at h ⊢
  exact h
/-- the texts of values, found by their keys -/
theorem strs_keys : ∀ (l : List (Key × (Int × Value))), (∀ p ∈ l, (mixKind P w).is p.1 p.2.2 = true) → (∀ p ∈ l, ∃ z, p.1 = Sum.inr z) → ∃ zs, StrsAre (l.map (·.2.2)) zs ∧ l.map (·.1) = zs.map Sum.inr
  | [], _, _ => ⟨[], .nil, rfl⟩
  | p :: l, h1, h2 => by
    obtain ⟨z, ez⟩ := h2 p List.mem_cons_self
    have hi := h1 p List.mem_cons_self
    rw [ez] at hi
    obtain ⟨tk, ev⟩ := is_text hi
    obtain ⟨zs, hz, e⟩ := strs_keys l (fun q hq => h1 q (List.mem_cons_of_mem _ hq)) fun q hq => h2 q (List.mem_cons_of_mem _ hq)
    refine ⟨z :: zs, ?_, ?_⟩
    · rw [List.map_cons, ev]
      exact .cons z tk hz
    · rw [List.map_cons, ez, e]
      rfl
theorem StrsAre.perm {l l' : List Value} (pm : l.Perm l') : ∀ {zs : List Str}, StrsAre l zs → ∃ zs', StrsAre l' zs' ∧ zs.Perm zs' := by
  induction pm with
  | nil => intro zs h; exact ⟨zs, h, List.Perm.refl _⟩
  | cons x _ ih =>
    intro zs h
    cases h with
    | cons y t r =>
      obtain ⟨zs', h', p⟩ := ih r
      exact ⟨y :: zs', .cons y t h', p.cons y⟩
  | swap x y l =>
    intro zs h
    cases h with
    | cons a t r =>
      cases r with
      | cons b t' r => exact ⟨_, .cons b t' (.cons a t r), List.Perm.swap _ _ _⟩
  | trans _ _ ih1 ih2 =>
    intro zs h
    obtain ⟨z1, h1, p1⟩ := ih1 h
    obtain ⟨z2, h2, p2⟩ := ih2 h1
    exact ⟨z2, h2, p1.trans p2⟩
theorem sorted_setQ (R : KR P w s.heap a T n) (hh : A.handled = none) (hn : n < 64) (ht : ∀ k, T k = true → ∃ z, k = Sum.inr z)
    (q : ∀ (s' : Shared) (p : Nat) (out : Array Value) (c : Nat) (zs : List Str), (∀ (b : Addr) (o : Obj), s.heap.get? b = some o → s'.heap.get? b = some o) → s'.gens = s.gens → s'.os = s.os → s.heap.objs.size ≤ p →
      s'.heap.get? p = some (seqObj "list" out c) → StrsAre out.toList zs → sortedS zs = true → zs.Nodup → (∀ z, z ∈ zs ↔ T (Sum.inr z) = true) → zs.length = n → Q (.ref p) s') :
    wpAny (model P w) A (call (.builtin "sorted") [.ref a]) Q E s := by
  obtain ⟨o, es, ep, t, ks, ho, hx, hd, he, hk, hT, hsz, hf, hn', hr, hl⟩ := R
  obtain ⟨kes, pm, hi, ek⟩ := hk.ex
  refine Calls.call_function_entry kind_sorted plain_sorted entry_sorted (args_sorted1 _) ?_
  unfold Builtin.sorted
  refine wpAny_bind (wpAny_pure ?_)
  refine wpAny_bind (collect_set (by simpa using hh) ⟨o, ho, hx.1, hd⟩ hf hsz hr hl fun s1 out k1 z1 g1 o1 p1 => ?_)
  have hall : ∀ p ∈ kes, ∃ z, p.1 = Sum.inr z := fun p hp => ht _ ((hT _).mpr (by rw [← ek]; exact List.mem_map.mpr ⟨p, hp, rfl⟩))
  obtain ⟨zs, hz, ez⟩ := strs_keys kes hi hall
  have pv : (kes.map (·.2.2)).Perm out := by
    have := pm.map (·.2)
    rw [List.map_map] at this
    exact this.trans p1.symm
  obtain ⟨zs', hz', pz⟩ := StrsAre.perm pv hz
  have lo : out.length = n := by rw [p1.length_eq, List.length_map, Array.length_toList, hn']
  refine wpAny_bind (wpAny_newList ?_ (by rw [lo, sizeLine_eq]; omega))
  refine wpAny_bind (wpAny_holding ?_)
  have hp : (s1.heap.push { cls := Value.type "list", data := Data.seq out.toArray }).get? s1.heap.objs.size = some (seqObj "list" out.toArray 0) := Heap.get?_push_size _ rfl
  refine wpAny_call_entry slot_list_sort ⟨_, hp, rfl⟩ entry_list_sort ?_ (args_list_sort _)
  refine list_sort_treeK strKind_oneLt hp hz'.keysOf (fun v1 v2 rest e => by subst e; exact keyKind_strs hz') (by omega) fun st' pa so => ?_
  obtain ⟨ss, h1, h2, h3⟩ := sorted_out_str hz' pa so
  refine ⟨.none, rfl, ?_⟩
  refine wpAny_pure ⟨_, rfl, ?_⟩
  obtain ⟨c, hc⟩ := sortedHeap_at (out := Array.map (fun x => x.snd) (arrOf st')) hp
  have nds : ss.Nodup := by
    have nz : zs.Nodup := by
      have := hk.nd
      rw [← ek, ez] at this
      exact (List.pairwise_map.mp this).imp fun h e => h (by rw [e])
    exact (h2.trans pz.symm).nodup_iff.mpr nz
  refine q _ s1.heap.objs.size _ c ss (fun b u e => ?_) g1 o1 z1 hc h1 h3 nds (fun z => ?_) ?_
  · have e1 := k1 b u e
    have l1 := Heap.lt_size e1
    have e2 := sortedHeap_old (h := s1.heap.push { cls := Value.type "list", data := Data.seq out.toArray }) (vs := out) (out := Array.map (fun x => x.snd) (arrOf st')) (Nat.ne_of_lt l1) (by rw [size_push']; exact Nat.lt_succ_of_lt l1)
    exact e2.trans (Heap.get?_push_of_some _ e1)
  · rw [h2.mem_iff, ← pz.mem_iff, hT, ← ek, ez, List.mem_map]
    constructor
    · intro h
      exact ⟨z, h, rfl⟩
    · rintro ⟨z', h, e⟩
      injection e with e
      rw [← e]
      exact h
  · rw [h2.length_eq, strs_len hz', lo]
end
/-! ### the rules -/
def rSortQ (P : Program) (w : World) : List V → Hp → VK → Prop := fun xs H Q => ∃ (a : Addr) (T : Key → Bool) (n : Nat), xs = [.ref a] ∧ H a = some (SetQ P w a T n) ∧ n < 64 ∧ (∀ k, T k = true → ∃ z, k = Sum.inr z) ∧
  ∀ (zs : List Str) (p : Addr), sortedS zs = true → zs.Nodup → (∀ z, z ∈ zs ↔ T (Sum.inr z) = true) → zs.length = n → H p = none → Q (.ref p) (upd H p (.lst (zs.map V.str)))
section
variable {X : Cx}
theorem cr_sortQ (P : Program) (w : World) (hc : X.calm = true) (eP : X.prog = P := by rfl) (ew : X.w = w := by rfl) : CallR X (.builtin "sorted") (rSortQ P w) := by
  subst eP
  subst ew
  intro pins s σ H xs us Q I r h
  obtain ⟨a, T, n, rfl, ha, hn, ht, q⟩ := h
  rw [Vals.ref1 r]
  refine sorted_setQ (setQ_get I ha) (I.ok.hd hc) hn ht fun s' p out c zs k g o hp hg hi hs nd hm hl => ?_
  have hl' : (zs.map V.str).length ≤ sizeLine := by rw [List.length_map, hl, sizeLine_eq]; omega
  have hn : H p = none := I.hok.fresh hp
  obtain ⟨heap, gens, drawn, toks, os⟩ := s'
  have g : gens = s.gens := g
  have o : os = s.os := o
  subst g
  subst o
  have hob : ObjOk X.prog X.w (upd H p (.lst (zs.map V.str))) heap p (.lst (zs.map V.str)) := ⟨hl', out.toList, c, vals_of_strs hi, hg⟩
  have J := I.call (ch := []) (d' := drawn) (t' := toks) (g' := s.gens) (Un.laid k hp hn) (HOk.laid I.hok k hp hob) I.bare (fun x z => (by cases z))
  exact ⟨.ref p, upd H p (.lst (zs.map V.str)), J, rfl, q zs p hs nd hm hl hn⟩
def rInQ (P : Program) (w : World) (neg : Bool) : R2 := fun x y H Q => ∃ (k : Key) (a : Addr) (T : Key → Bool) (n : Nat), x = kV k ∧ y = .ref a ∧ H a = some (SetQ P w a T n) ∧ Q (.bl (if neg = true then !T k else T k)) H
theorem or_inQ : OpR X (compareOp .In) (rInQ X.prog X.w false) := by
  intro pins s σ H x y v u Q I rx ry h
  obtain ⟨k, a, T, n, rfl, rfl, ha, q⟩ := h
  have eu : u = .ref a := ry
  subst eu
  refine wpAny_inSet_of (knd := mixKind X.prog X.w) (kV_is rx) (key_scan rx) (setQ_get I ha).setOf ?_
  exact ⟨.bl (T k), H, I.tok _, rfl, q⟩
theorem or_notinQ : OpR X (compareOp .NotIn) (rInQ X.prog X.w true) := by
  intro pins s σ H x y v u Q I rx ry h
  obtain ⟨k, a, T, n, rfl, rfl, ha, q⟩ := h
  have eu : u = .ref a := ry
  subst eu
  refine wpAny_notInSet_of (knd := mixKind X.prog X.w) (kV_is rx) (key_scan rx) (setQ_get I ha).setOf ?_
  exact ⟨.bl (!T k), H, I.tok _, rfl, q⟩
end
/-! ### in, not in: lists, texts, sets of both kinds -/
def rInN (K : PySem.W.Frag) (P : Program) (w : World) : R2 := fun x y H Q => rInM K P w x y H Q ∨ rInQ P w false x y H Q
def rNotInN (K : PySem.W.Frag) (P : Program) (w : World) : R2 := fun x y H Q => rNotInM K P w x y H Q ∨ rInQ P w true x y H Q
def rSortN (K : PySem.W.Frag) (P : Program) (w : World) : List V → Hp → VK → Prop := fun xs H Q => rSortA K xs H Q ∨ rSortQ P w xs H Q
section
variable {X : Cx}
theorem op_inN (K : PySem.W.Frag) (P : Program) (w : World) (hu : X.A.units + 64 < cLine) (hu' : X.A.units + 65 < cLine) (e : X.K = K := by rfl) (eP : X.prog = P := by rfl) (ew : X.w = w := by rfl) : OpR X (compareOp .In) (rInN K P w) := by
  subst e
  subst eP
  subst ew
  intro pins s σ H x y v u Q I rx ry h
  rcases h with h | h
  · exact op_inM _ _ _ hu hu' rfl rfl rfl pins s σ H x y v u Q I rx ry h
  · exact or_inQ pins s σ H x y v u Q I rx ry h
theorem op_notinN (K : PySem.W.Frag) (P : Program) (w : World) (hu : X.A.units + 64 < cLine) (hu' : X.A.units + 65 < cLine) (e : X.K = K := by rfl) (eP : X.prog = P := by rfl) (ew : X.w = w := by rfl) : OpR X (compareOp .NotIn) (rNotInN K P w) := by
  subst e
  subst eP
  subst ew
  intro pins s σ H x y v u Q I rx ry h
  rcases h with h | h
  · exact op_notinM _ _ _ hu hu' rfl rfl rfl pins s σ H x y v u Q I rx ry h
  · exact or_notinQ pins s σ H x y v u Q I rx ry h
theorem cr_sortN (K : PySem.W.Frag) (P : Program) (w : World) (hc : X.calm = true) (c : CallR X (.builtin "sorted") (rSortA K)) (eP : X.prog = P := by rfl) (ew : X.w = w := by rfl) : CallR X (.builtin "sorted") (rSortN K P w) := by
  intro pins s σ H xs us Q I r h
  rcases h with h | h
  · exact c pins s σ H xs us Q I r h
  · exact cr_sortQ P w hc eP ew pins s σ H xs us Q I r h
end
section
variable {K : PySem.W.Frag} {P : Program} {w : World} {F : Hp} {O O' : Own} {H : Hp} {Q : VK} {x y v : V}
theorem g_inNM (q : rInM K P w x y H Q) : rInN K P w x y H Q := .inl q
theorem g_notinNM (q : rNotInM K P w x y H Q) : rNotInN K P w x y H Q := .inl q
theorem g_inNQ {a : Addr} {T : Key → Bool} {n : Nat} {k : Key} (ek : x = kV k) (h : H a = some (SetQ P w a T n)) (q : Q (.bl (T k)) H) : rInN K P w x (.ref a) H Q := .inr ⟨k, a, T, n, ek, rfl, h, q⟩
theorem g_notinNQ {a : Addr} {T : Key → Bool} {n : Nat} {k : Key} (ek : x = kV k) (h : H a = some (SetQ P w a T n)) (q : Q (.bl (!T k)) H) : rNotInN K P w x (.ref a) H Q := .inr ⟨k, a, T, n, ek, rfl, h, q⟩
theorem g_sortNA {xs : List V} (q : rSortA K xs H Q) : rSortN K P w xs H Q := .inl q
theorem g_sortNQ {a : Addr} {T : Key → Bool} {n : Nat} (h : H a = some (SetQ P w a T n)) (hn : n < 64) (ht : ∀ k, T k = true → ∃ z, k = Sum.inr z) (hH : Has F O H)
    (q : ∀ (zs : List Str) p H', sortedS zs = true → zs.Nodup → (∀ z, z ∈ zs ↔ T (Sum.inr z) = true) → zs.length = n → H p = none → Has F ((p, .lst (zs.map V.str)) :: O) H' → Q (.ref p) H') : rSortN K P w [.ref a] H Q :=
  .inr ⟨a, T, n, rfl, h, hn, ht, fun zs p s nd m l np => q zs p _ s nd m l np (hH.new np)⟩
theorem g_setOfQ {a : Addr} {zs : List Str} (h : H a = some (.lst (zs.map V.str))) (hl : zs.length < 1000) (hH : Has F O H) (q : ∀ p n T H', H p = none → n ≤ zs.length → (∀ k, T k = true ↔ ∃ z, k = Sum.inr z ∧ z ∈ zs) → Has F ((p, SetQ P w p T n) :: O) H' → Q (.ref p) H') : rSetTQ K P w [.ref a] H Q :=
  ⟨a, zs, rfl, SqL.of h, hl, fun p n T np le eT => q p n T _ np le eT (hH.new np)⟩
end
/-! ### min of two numbers -/
def rMin2 : List V → Hp → VK → Prop := fun xs H Q => ∃ i j, xs = [.int i, .int j] ∧ Q (.int (if j < i then j else i)) H
theorem cr_min2 {X : Cx} (hc : X.calm = true) : CallR X (.builtin "min") rMin2 := call_min2 hc
theorem g_min2 {i j : Int} {H : Hp} {Q : VK} (q : Q (.int (min i j)) H) : rMin2 [.int i, .int j] H Q := ⟨i, j, rfl, by
  have e : (if j < i then j else i) = min i j := by split <;> omega
  rw [e]
  exact q⟩
/-! ### any, all of a list of truth values -/
theorem cr_anyK {X : Cx} (K : PySem.W.Frag) (hc : X.calm = true) (e : X.K = K := by rfl) : CallR X (.builtin "any") (rAny K) := by subst e; exact cr_any hc
theorem cr_allK {X : Cx} (K : PySem.W.Frag) (hc : X.calm = true) (e : X.K = K := by rfl) : CallR X (.builtin "all") (rAll K) := by subst e; exact cr_all hc
theorem g_any {K : PySem.W.Frag} {a : Addr} {bs : List Bool} {H : Hp} {Q : VK} (h : H a = some (.lst (bs.map V.bl))) (q : Q (.bl (bs.any id)) H) : rAny K [.ref a] H Q := ⟨a, bs, rfl, SqL.of h, q⟩
theorem g_all {K : PySem.W.Frag} {a : Addr} {bs : List Bool} {H : Hp} {Q : VK} (h : H a = some (.lst (bs.map V.bl))) (q : Q (.bl (bs.all id)) H) : rAll K [.ref a] H Q := ⟨a, bs, rfl, SqL.of h, q⟩
end Qk

/-! Qz: loops over the keys of a dict (locked meanwhile), len of a dict, texts in order, reverse -/
namespace Qk
open PySem PySem.Spec PyProof.Rows L2
def kForK (d : Addr) (od : Obj) (kvs : List (Key × V)) (g : TG) (tb : TS) (D : Ends) (σ : L2.St) (H : Hp) : Prop := kW (Itk d od kvs) g tb D σ H
/-- the ends of a statement under a lock -/
def lockD (d : Addr) (od : Obj) (u : HO) (D : Ends) : Ends := ⟨fun σ' H' => H' d = some (.frz od u) ∧ D.nx σ' (upd H' d u), fun v H' => H' d = some (.frz od u) ∧ D.rt v (upd H' d u), fun σ' H' => H' d = some (.frz od u) ∧ D.bk σ' (upd H' d u), fun σ' H' => H' d = some (.frz od u) ∧ D.ct σ' (upd H' d u)⟩
def kForKx (g : TG) (tb : TS) (D : Ends) (σ : L2.St) (x : V) (H1 : Hp) : Prop := ∃ d o, x = .ref d ∧ ((∃ kvs, H1 d = some (.frz o (.dK kvs)) ∧ kForK d o kvs g tb D σ H1) ∨ ∃ kvs, H1 d = some (.frz o (.dT kvs)) ∧ kW (Itkt d o kvs) g tb D σ H1)
section
variable {K : PySem.W.Frag} {σ : L2.St} {F : Hp} {O O' : Own} {H : Hp} {Q : VK} {te : TE} {x y v : V} {D : Ends} {ts : TS} {g : TG} {d : Addr} {od : Obj} {kvs : List (Key × V)}
theorem g_forK (q : te σ H fun x H1 => kForKx g ts D σ x H1) : tFor (iKeys te) g ts D σ H := q
theorem g_kforKx (h : H d = some (.frz od (.dK kvs))) (q : kForK d od kvs g ts D σ H) : kForKx g ts D σ (.ref d) H := ⟨d, od, rfl, .inl ⟨kvs, h, q⟩⟩
theorem g_lockK {i : Nat} (hv : σ[i]? = some (some (.ref d))) (h : H d = some (.dK kvs)) (q : ∀ od, kForK d od kvs g ts (lockD d od (.dK kvs) D) σ (upd H d (.frz od (.dK kvs)))) : tLock (tFor (iKeys (tVar i)) g ts) D σ H :=
  ⟨d, .dK kvs, h, trivial, fun od => ⟨.ref d, hv, d, od, rfl, .inl ⟨kvs, upd_same, q od⟩⟩⟩
theorem k_forK (Pv : Nat → L2.St → Hp → Prop) (h0 : Pv 0 σ H) (hl : ∀ i σ H, Pv i σ H → H d = some (.frz od (.dK kvs)))
    (hs : ∀ i k v σ H, kvs[i]? = some (k, v) → Pv i σ H → g (kV k) σ H fun σ2 H2 => ts { D with nx := Pv (i + 1), ct := Pv (i + 1), bk := D.nx } σ2 H2) (hd : ∀ σ H, Pv kvs.length σ H → D.nx σ H) : kForK d od kvs g ts D σ H := by
  refine ⟨fun i m σ H => m = kvs.length - i ∧ i ≤ kvs.length ∧ Pv i σ H, ⟨_, rfl, Nat.zero_le _, h0⟩, ?_⟩
  rintro i m σ H1 ⟨rfl, hi, p⟩
  have hq := hl i σ H1 p
  by_cases hlt : i < kvs.length
  · refine .inr ⟨⟨hq, hlt⟩, Pv (i + 1), fun σ' H' p' => ⟨kvs.length - (i + 1), by omega, rfl, hlt, p'⟩, ?_⟩
    rintro x H' ⟨rfl, k, v, e, rfl⟩
    exact hs i k v σ _ e p
  · have e : i = kvs.length := by omega
    subst e
    exact .inl ⟨⟨hq, Nat.le_refl _⟩, hd σ H1 p⟩
end
/-! ### a locked thing -/
section
variable {F H H' : Hp} {O : Own} {d a : Addr} {od : Obj} {u o : HO} {kvs : List (Key × V)}
theorem Has.lock (h : Has F O H) (e : F d = some u) : Has (upd F d (.frz od u)) O (upd H d (.frz od u)) := by
  refine ⟨fun b v q => ?_, fun p hp => ?_, h.nd⟩
  · by_cases c : b = d
    · subst c
      rw [upd_same] at q ⊢
      exact q
    · rw [upd_ne c] at q ⊢
      exact h.same b v q
  · have f := h.own p hp
    have ne : p.1 ≠ d := fun z => by
      rw [z, e] at f
      cases f.1
    rw [upd_ne ne, upd_ne ne]
    exact f
theorem lock_at (e : H d = some u) (h : H a = some o) (ne : o ≠ u) : upd H d (.frz od u) a = some o := by
  rw [upd_ne (fun z => ?_)]
  · exact h
  · subst z
    rw [e] at h
    exact ne (Option.some.inj h).symm
theorem unlock_at (e : H' d = some (.frz od u)) (h : H' a = some o) (ne : o ≠ .frz od u) : upd H' d u a = some o := by
  rw [upd_ne (fun z => ?_)]
  · exact h
  · subst z
    rw [e] at h
    exact ne (Option.some.inj h).symm
theorem unlock_same (e : H d = some u) (s : Same (upd H d (.frz od u)) H') : Same H (upd H' d u) := fun b v q => by
  by_cases c : b = d
  · subst c
    rw [upd_same]
    rw [e] at q
    exact q
  · rw [upd_ne c]
    exact s b v (by rw [upd_ne c]; exact q)
theorem Has.unlock (h : Has F O H) (e : F d = some (.frz od u)) : Has (upd F d u) O (upd H d u) := by
  refine ⟨fun b v q => ?_, fun p hp => ?_, h.nd⟩
  · by_cases c : b = d
    · subst c
      rw [upd_same] at q ⊢
      exact q
    · rw [upd_ne c] at q ⊢
      exact h.same b v q
  · have f := h.own p hp
    have ne : p.1 ≠ d := fun z => by
      rw [z, e] at f
      cases f.1
    rw [upd_ne ne, upd_ne ne]
    exact f
end
mutual
theorem Dq.upL {H H' : Hp} (e1 : ∀ a xs, H a = some (.lst xs) → H' a = some (.lst xs)) (e2 : ∀ a xs, H a = some (.tup xs) → H' a = some (.tup xs)) : ∀ (d : PyData) (v : V), Dq H v d → Dq H' v d
  | _, _, .non => .non
  | _, _, .bl b => .bl b
  | _, _, .int i => .int i
  | _, _, .str x => .str x
  | .list ds, _, .lst s a => .lst (e1 _ _ s) (DqAll.upL e1 e2 ds _ a)
  | .tuple ds, _, .tup s a => .tup (e2 _ _ s) (DqAll.upL e1 e2 ds _ a)
theorem DqAll.upL {H H' : Hp} (e1 : ∀ a xs, H a = some (.lst xs) → H' a = some (.lst xs)) (e2 : ∀ a xs, H a = some (.tup xs) → H' a = some (.tup xs)) : ∀ (ds : List PyData) (vs : List V), DqAll H vs ds → DqAll H' vs ds
  | _, _, .nil => .nil
  | d :: ds, _, .cons h t => .cons (Dq.upL e1 e2 d _ h) (DqAll.upL e1 e2 ds _ t)
end
theorem DqAll.lockK {H : Hp} {d : Addr} {od : Obj} {kvs : List (Key × V)} (e : H d = some (.dK kvs)) {ds : List PyData} {vs : List V} (h : DqAll H vs ds) : DqAll (upd H d (.frz od (.dK kvs))) vs ds :=
  h.upL (fun a xs q => lock_at e q (fun z => by cases z)) (fun a xs q => lock_at e q (fun z => by cases z)) ds vs
/-! ### len, also of a dict -/
def rLenN (K : PySem.W.Frag) : List V → Hp → VK → Prop := fun xs H Q => rLen K xs H Q ∨ ∃ a kvs, xs = [V.ref a] ∧ H a = some (.dK kvs) ∧ Q (.int kvs.length) H
theorem cr_lenN {X : Cx} (K : PySem.W.Frag) (e : X.K = K := by rfl) : CallR X (.builtin "len") (rLenN K) := by
  subst e
  intro pins s σ H xs us Q I r h
  rcases h with h | h
  · exact cr_len pins s σ H xs us Q I r h
  · exact call_lenD pins s σ H xs us Q I r h
section
variable {K : PySem.W.Frag} {H : Hp} {Q : VK}
theorem g_lenNL {a : Addr} {xs : List V} (h : H a = some (.lst xs)) (q : Q (.int (xs.length : Int)) H) : rLenN K [.ref a] H Q := .inl (g_lenL h q)
theorem g_lenNT {a : Addr} {xs : List V} (h : H a = some (.tup xs)) (q : Q (.int (xs.length : Int)) H) : rLenN K [.ref a] H Q := .inl (g_lenT h q)
theorem g_lenNS {z : Str} (h : z.length ≤ sizeLine) (q : Q (.int (z.length : Int)) H) : rLenN K [.str z] H Q := .inl (g_lenS h q)
theorem g_lenND {a : Addr} {kvs : List (Key × V)} (h : H a = some (.dK kvs)) (q : Q (.int (kvs.length : Int)) H) : rLenN K [.ref a] H Q := .inr ⟨a, kvs, rfl, h, q⟩
end
/-! ### texts in order -/
def rLtA : R2 := fun x y H Q => (rI0 (fun i j => .bl (decide (i < j))) x y H Q) ∨ ∃ i j, x = .str i ∧ y = .str j ∧ Q (.bl (decide (i.cps.toList < j.cps.toList))) H
theorem op_ltA {X : Cx} : OpR X (compareOp .Lt) rLtA := by
  intro pins s σ H x y v u Q I rx ry h
  rcases h with h | h
  · exact op_lt pins s σ H x y v u Q I rx ry h
  · exact op_lt_str pins s σ H x y v u Q I rx ry h
theorem g_ltI {i j : Int} {H : Hp} {Q : VK} (q : Q (.bl (decide (i < j))) H) : rLtA (.int i) (.int j) H Q := .inl ⟨i, j, rfl, rfl, q⟩
theorem g_ltS {i j : Str} {H : Hp} {Q : VK} (q : Q (.bl (decide (i.cps.toList < j.cps.toList))) H) : rLtA (.str i) (.str j) H Q := .inr ⟨i, j, rfl, rfl, q⟩
/-! ### reverse -/
def rRevA : V → List V → Hp → VK → Prop := fun x vs H Q => ∃ l xs, x = .ref l ∧ vs = [] ∧ H l = some (.lst xs) ∧ Q .non (upd H l (.lst xs.reverse))
theorem mt_revA {X : Cx} : MtR X "list.reverse" rRevA := mt_reverse
theorem g_revA {F H : Hp} {O O' : Own} {Q : VK} {a : Addr} {xs : List V} (hH : Has F O H) (c : Chg O a (.lst xs) (.lst xs.reverse) O') (q : ∀ H', Has F O' H' → Q .non H') : rRevA (.ref a) [] H Q :=
  ⟨a, xs, rfl, rfl, hH.get c.mem, q _ (hH.put c)⟩
/-! ### list(range(n)) -/
def kLstRg (x : V) (H1 : Hp) (Q : VK) : Prop := ∃ n, x = .int n ∧ (RgOk 0 n ∧ ∀ q, H1 q = none → Q (.ref q) (upd H1 q (.lst (rgV 0 n))))
section
variable {σ : L2.St} {F : Hp} {O : Own} {H : Hp} {Q : VK} {ta : TE}
theorem g_lstRg (q : ta σ H fun x H1 => kLstRg x H1 Q) : tLstRg (tRg1 ta) σ H Q := q
theorem g_kLstRg {n : Nat} (hn : n ≤ 1000) (hH : Has F O H) (q : ∀ p H', H p = none → Has F ((p, .lst ((List.range n).map fun (a : Nat) => V.int (a : Int))) :: O) H' → Q (.ref p) H') : kLstRg (.int (n : Int)) H Q := by
  refine ⟨n, rfl, RgOk.of_le (by omega) (by omega) (by omega) (by omega), fun p np => q p _ np ?_⟩
  have e : rgV 0 (n : Int) = (List.range n).map fun (a : Nat) => V.int (a : Int) := by
    unfold rgV
    have : ((n : Int) - 0).toNat = n := by omega
    rw [this]
    apply List.map_congr_left
    intro a _
    rw [Int.zero_add]
  rw [e]
  exact hH.new np
end
/-! ### dicts read whether locked or not -/
section
variable {K : PySem.W.Frag} {P : Program} {w : World} {H : Hp} {Q : VK} {a : Addr} {kvs : List (Key × V)} {i : Str} {v : V}
theorem g_ixDR (h : Rd H a (.dK kvs)) (hv : valV kvs (.inr i) = some v) (q : Q v H) : rIxA K (.ref a) (.str i) H Q := .inr ⟨a, v, rfl, .inl ⟨kvs, .inr i, h, rfl, hv.symm⟩, q⟩
theorem g_inSR (h : Rd H a (.dK kvs)) (q : Q (.bl (valV kvs (.inr i)).isSome) H) : rInA K (.str i) (.ref a) H Q := .inl (.inr ⟨a, _, rfl, .inl ⟨kvs, .inr i, h, rfl, rfl⟩, q⟩)
theorem g_notinSR (h : Rd H a (.dK kvs)) (q : Q (.bl (!(valV kvs (.inr i)).isSome)) H) : rNotInA K (.str i) (.ref a) H Q := .inl (.inr ⟨a, _, rfl, .inl ⟨kvs, .inr i, h, rfl, rfl⟩, q⟩)
end
end Qk

/-! Qd: a set comprehension of keys with two clauses; set.add; a dict comprehension stored under a name -/
namespace Qk
open PySem PySem.Spec PyProof.Rows L2
theorem kr_fresh (P : Program) (w : World) {h : Heap} : KR P w (h.push (newSetQ w)) h.objs.size (fun _ => false) 0 := by
  refine ⟨_, #[], 0, _, [], Heap.get?_push_size _ rfl, ⟨rfl, rfl, rfl⟩, rfl, (fun e he => by simp at he), ⟨⟨[], List.Perm.refl _, (fun p h => by cases h), rfl⟩, List.nodup_nil⟩, (fun k => by simp), (by decide), (by rfl), rfl, List.Pairwise.nil, ?_⟩
  show _ ∨ (!w.params.followText "set-order") = true
  cases w.params.followText "set-order" <;> simp
theorem newSetQ_ok {P : Program} {w : World} {A : Around} {E : Value → Shared → Prop} {s : Shared} {Q : Value → Shared → Prop} (h : Q (.ref s.heap.objs.size) { s with heap := s.heap.push (newSetQ w) }) : wpAny (model P w) A (newSet (.type "set")) Q E s := PpSet.newSet_ok h
/-- a.add(x) of a key -/
theorem kq_add {P : Program} {w : World} {A : Around} {E : Value → Shared → Prop} {s : Shared} {a : Addr} {T : Key → Bool} {n : Nat} {k : Key} {x : Value} {Q : Value → Shared → Prop} (his : (mixKind P w).is k x = true) (hsc : x.scannable = true) (R : KR P w s.heap a T n) (room : n + 1 < scanBound)
    (q : ∀ h', Heap.SameBut a s.heap h' → KR P w h' a (fun k' => T k' || decide (k' = k)) (if T k = true then n else n + 1) → Q .none { s with heap := h', toks := s.toks + 1 }) : wpAny (model P w) A (call (.builtin "set.add") [.ref a, x]) Q E s := by
  refine wpAny_call_entry F.slot_set_add R.setOf.typeIs F.entry_set_add ?_ (F.args_set_add_2 _ _)
  unfold Builtin.«set.add» Builtin.Frozenset.oneOther
  simp only [List.isEmpty_nil, bind_assoc]
  unfold Builtin.Frozenset.addrOf setAdd
  refine wpAny_bind (wpAny_pure ?_)
  try dsimp only
  refine wpAny_bind (wpAny_pure ?_)
  try dsimp only
  refine wpAny_bind ?_
  refine wpAny_holding ?_
  refine wpAny_bind ((mixKind P w).pyHash his ?_)
  refine kr_add (s := { s with toks := s.toks + 1 }) his hsc R room fun h' sb r => ?_
  show wpAny _ _ (ret Value.none) _ _ _
  exact wpAny_pure ⟨_, rfl, q h' sb r⟩
theorem addQ_ok {X : Cx} {pins : List (Addr × Obj)} {σ : L2.St} {H : Hp} {s : Shared} {E : Value → Shared → Prop} {D : Addr} {T : Key → Bool} {n : Nat} {k : Key} {u : Value} {Q : Value → Shared → Prop} (I : Inv X pins σ H s) (hD : H D = some (SetQ X.prog X.w D T n)) (ru : RelV (kV k) u) (room : n + 1 < scanBound)
    (q : ∀ s', Inv X pins σ (upd H D (SetQ X.prog X.w D (fun k' => T k' || decide (k' = k)) (if T k = true then n else n + 1))) s' → Q .none s') : wpAny (model X.prog X.w) X.A (call (.builtin "set.add") [.ref D, u]) Q E s := by
  refine kq_add (kV_is ru) (key_scan ru) (setQ_get I hD) room fun h' sb new => ?_
  have he : ∃ o, h'.get? D = some o := by
    obtain ⟨o, _, _, _, _, ho, _⟩ := id new
    exact ⟨o, ho⟩
  exact q _ (I.write (e := D) (t' := s.toks + 1) (by rw [hD]; trivial) (.inl rfl) (fun b o hb e => (sb.2 b hb).trans e) he (setQ_new new))
theorem compTurnS2_out (el ta ia tb ib : Expr) (fa fb : List Expr) (sco : Scope) (pos : Pos) (itr ac : Value) (env : Env) :
    compTurn (.SetComp el [⟨ta, ia, fa, 0⟩, ⟨tb, ib, fb, 0⟩] sco pos) 0 itr ac env = (do
      standAt ia.pos
      match ← pyNext itr with
      | none => pure (.done .next)
      | some v =>
        letOwnedTupleGo ta itr v
        assign ta env v
        let mut ok := true
        for c in fa do
          if ok then ok ← isTrue c env (eval c env)
        if ok then
          let x ← eval ib env
          standAt ib.pos
          let x ← foldedSetIterable ib env x
          let _ ← runOwn (.compStart (.SetComp el [⟨ta, ia, fa, 0⟩, ⟨tb, ib, fb, 0⟩] sco pos) 1 (← holding [x] (pyIter x)) ac env) env
        again (.compLoop (.SetComp el [⟨ta, ia, fa, 0⟩, ⟨tb, ib, fb, 0⟩] sco pos) 0 itr ac env)) := by rfl
theorem compTurnS2_in (el ta ia tb ib : Expr) (fa fb : List Expr) (sco : Scope) (pos : Pos) (itr ac : Value) (env : Env) :
    compTurn (.SetComp el [⟨ta, ia, fa, 0⟩, ⟨tb, ib, fb, 0⟩] sco pos) 1 itr ac env = (do
      standAt ib.pos
      match ← pyNext itr with
      | none => pure (.done .next)
      | some v =>
        letOwnedTupleGo tb itr v
        assign tb env v
        let mut ok := true
        for c in fb do
          if ok then ok ← isTrue c env (eval c env)
        if ok then
          (do let v ← eval el env; standAt el.pos; let _ ← call (.builtin "set.add") [ac, v])
        again (.compLoop (.SetComp el [⟨ta, ia, fa, 0⟩, ⟨tb, ib, fb, 0⟩] sco pos) 1 itr ac env)) := by rfl

section
variable {prog : Program} {w : World} {A : Around} {R : Result → Shared → Prop} {s : Shared} {el ta ia tb ib : Expr} {fa fb : List Expr} {sco : Scope} {pos : Pos} {itr ac : Value} {env : Env}
/-- the loop of the first clause -/
theorem compLoopS2_out (hs : ∀ x, foldedSetIterable ib env x = pure x) (I : Nat → Shared → Prop)
    (trn : ∀ n s, I n s → wpAny (model prog w) A (pyNext itr) (fun r s₁ => match r with
      | none => R (.ok .next) s₁
      | some v => wpAny (model prog w) A (letOwnedTupleGo ta itr v) (fun _ s₁' => wpAny (model prog w) A (assign ta env v) (fun _ s₂ =>
          wpAny (model prog w) A (forIn fa true fun c r => if r = true then do let ok ← isTrue c env (eval c env); pure (ForInStep.yield ok) else pure (ForInStep.yield r)) (fun ok s₃ =>
            if ok = true then wpAny (model prog w) A (eval ib env) (fun x s₄ => wpAny (model prog w) A (pyIter x) (fun it1 s₅ =>
              codeAny (model prog w) A (.compStart (.SetComp el [⟨ta, ia, fa, 0⟩, ⟨tb, ib, fb, 0⟩] sco pos) 1 it1 ac env) (fun r s' => match r with
                | .ok _ => ∃ m, m < n ∧ I m s'
                | .error _ => False) s₅) (notedBy (model prog w) A env fun e s' => R (.error e) s') s₄) (notedBy (model prog w) A env fun e s' => R (.error e) s') s₃
            else ∃ m, m < n ∧ I m s₃) (notedBy (model prog w) A env fun e s' => R (.error e) s') s₂) (notedBy (model prog w) A env fun e s' => R (.error e) s') s₁') (notedBy (model prog w) A env fun e s' => R (.error e) s') s₁) (notedBy (model prog w) A env fun e s' => R (.error e) s') s)
    (n : Nat) (h : I n s) :
    codeAny (model prog w) A (.compLoop (.SetComp el [⟨ta, ia, fa, 0⟩, ⟨tb, ib, fb, 0⟩] sco pos) 0 itr ac env) R s := by
  refine codeAny_loop rfl I (fun n s hI => ?_) n h
  show wpAny _ A ((compTurn (.SetComp el [⟨ta, ia, fa, 0⟩, ⟨tb, ib, fb, 0⟩] sco pos) 0 itr ac env).onRaise (fun x => do noteFrame x env; theTreesLotGoes x)) _ _ s
  refine wpAny_noted ?_
  rw [compTurnS2_out]
  refine wpAny_bind (wpAny_standAt (wpAny_bind (wpAny_mono (trn n s hI) (fun r s₁ h₁ => ?_) fun _ _ h' => h')))
  cases r with
  | none => exact wpAny_pure h₁
  | some v =>
    refine wpAny_bind (wpAny_mono h₁ (fun _ s₁' h₁' => ?_) fun _ _ h' => h')
    refine wpAny_bind (wpAny_mono h₁' (fun _ s₂ h₂ => wpAny_bind (wpAny_mono h₂ (fun ok s₃ h₃ => ?_) fun _ _ h' => h')) fun _ _ h' => h')
    cases ok with
    | false => exact wpAny_pure ⟨rfl, h₃⟩
    | true =>
      refine wpAny_bind (wpAny_mono h₃ (fun x s₄ h₄ => ?_) fun _ _ h' => h')
      refine wpAny_bind (wpAny_standAt (wpAny_bind (wpAny_of_eq (hs x) (wpAny_bind (wpAny_holding (wpAny_mono h₄ (fun it1 s₅ h₅ => ?_) fun _ _ h' => h'))))))
      refine wpAny_bind (wpAny_runOwn ?_)
      rw [Around.mark_none]
      refine codeAny_mono h₅ fun r s' hr => ?_
      cases r with
      | ok f =>
        first
          | exact wpAny_pure ⟨rfl, hr⟩
          | exact wpAny_bind (wpAny_pure (wpAny_pure ⟨rfl, hr⟩))
      | error e => exact hr.elim
/-- the loop of the second -/
theorem compLoopS2_in (I : Nat → Shared → Prop)
    (trn : ∀ n s, I n s → wpAny (model prog w) A (pyNext itr) (fun r s₁ => match r with
      | none => R (.ok .next) s₁
      | some v => wpAny (model prog w) A (letOwnedTupleGo tb itr v) (fun _ s₁' => wpAny (model prog w) A (assign tb env v) (fun _ s₂ =>
          wpAny (model prog w) A (forIn fb true fun c r => if r = true then do let ok ← isTrue c env (eval c env); pure (ForInStep.yield ok) else pure (ForInStep.yield r)) (fun ok s₃ =>
            if ok = true then wpAny (model prog w) A (eval el env) (fun x s₄ =>
              wpAny (model prog w) A (call (.builtin "set.add") [ac, x]) (fun _ s₅ => ∃ m, m < n ∧ I m s₅) (notedBy (model prog w) A env fun e s' => R (.error e) s') s₄) (notedBy (model prog w) A env fun e s' => R (.error e) s') s₃
            else ∃ m, m < n ∧ I m s₃) (notedBy (model prog w) A env fun e s' => R (.error e) s') s₂) (notedBy (model prog w) A env fun e s' => R (.error e) s') s₁') (notedBy (model prog w) A env fun e s' => R (.error e) s') s₁) (notedBy (model prog w) A env fun e s' => R (.error e) s') s)
    (n : Nat) (h : I n s) :
    codeAny (model prog w) A (.compLoop (.SetComp el [⟨ta, ia, fa, 0⟩, ⟨tb, ib, fb, 0⟩] sco pos) 1 itr ac env) R s := by
  refine codeAny_loop rfl I (fun n s hI => ?_) n h
  show wpAny _ A ((compTurn (.SetComp el [⟨ta, ia, fa, 0⟩, ⟨tb, ib, fb, 0⟩] sco pos) 1 itr ac env).onRaise (fun x => do noteFrame x env; theTreesLotGoes x)) _ _ s
  refine wpAny_noted ?_
  rw [compTurnS2_in]
  refine wpAny_bind (wpAny_standAt (wpAny_bind (wpAny_mono (trn n s hI) (fun r s₁ h₁ => ?_) fun _ _ h' => h')))
  cases r with
  | none => exact wpAny_pure h₁
  | some v =>
    refine wpAny_bind (wpAny_mono h₁ (fun _ s₁' h₁' => ?_) fun _ _ h' => h')
    refine wpAny_bind (wpAny_mono h₁' (fun _ s₂ h₂ => wpAny_bind (wpAny_mono h₂ (fun ok s₃ h₃ => ?_) fun _ _ h' => h')) fun _ _ h' => h')
    cases ok with
    | false => exact wpAny_pure ⟨rfl, h₃⟩
    | true =>
      exact wpAny_bind (wpAny_bind (wpAny_mono h₃ (fun x s₄ h₄ => wpAny_bind (wpAny_standAt (wpAny_bind (wpAny_mono h₄ (fun _ s₅ h₅ => wpAny_pure (wpAny_pure ⟨rfl, h₅⟩)) fun _ _ h' => h')))) fun _ _ h' => h'))
/-- the second clause's start -/
theorem compStartS1_ok (h0 : codeAny (model prog w) A (.compLoop (.SetComp el [⟨ta, ia, fa, 0⟩, ⟨tb, ib, fb, 0⟩] sco pos) 1 itr ac env) R s)
    (h : wpAny (model prog w) A (pyIter itr) (fun it' s' => codeAny (model prog w) A (.compLoop (.SetComp el [⟨ta, ia, fa, 0⟩, ⟨tb, ib, fb, 0⟩] sco pos) 1 it' ac env) R s')
      (notedBy (model prog w) A env fun x s' => R (.error x) s') s) :
    codeAny (model prog w) A (.compStart (.SetComp el [⟨ta, ia, fa, 0⟩, ⟨tb, ib, fb, 0⟩] sco pos) 1 itr ac env) R s := by
  refine codeAny_of_tree ?_
  show wpAny _ _ ((compStart (.SetComp el [⟨ta, ia, fa, 0⟩, ⟨tb, ib, fb, 0⟩] sco pos) 1 itr ac env).onRaise (fun x => do noteFrame x env; standAt theWindowsPlace)) _ _ s
  refine wpAny_notedAt ?_
  unfold compStart
  show wpAny _ _ (ask >>= _) _ _ s
  refine wpAny_bind (wpAny_askSetting (wpAny_ite ?_))
  split
  · first
      | exact wpAny_bind (wpAny_pure (wpAny_pure (And.intro rfl h0)))
      | exact wpAny_pure (And.intro rfl h0)
  · first
      | exact wpAny_bind (wpAny_rule (wpAny_bind (wpAny_standAt (wpAny_bind (wpAny_mono h (fun it' s' h' => wpAny_pure (And.intro rfl h')) fun _ _ x => x)))))
      | (refine wpAny_bind (wpAny_rule ?_); show wpAny _ _ (standAt ib.pos >>= _) _ _ s; exact wpAny_bind (wpAny_standAt (wpAny_bind (wpAny_mono h (fun it' s' h' => wpAny_pure (And.intro rfl h')) fun _ _ x => x))))
end

section
variable {X : Cx}
/-- [el for tg in ita if .. for tgb in itb if ..]: behind the first clause's store and tests the second source's own loop, from which Nx is reached. vs: the block's names; vs1: those of the second target -/
def tSc2 (P : Program) (w : World) (wi : TI) (g : TG) (tt : TT) (wib : TI) (gb : TG) (ttb : TT) (te : TE) (vs vs1 : List Nat) : TE := fun σ H Q => wi σ H fun J H1 => ∀ D, H1 D = none → ∃ W : Nat → Nat → Hp → Prop, (∃ m, W 0 m (upd H1 D (SetQ P w D (fun _ => false) 0))) ∧ ∀ i m H, W i m H →
  (J.stop i H ∧ Q (.ref D) H) ∨ (J.go i H ∧ ∃ Nx : Hp → Prop, (∀ H', Nx H' → ∃ m', m' < m ∧ W (i + 1) m' H') ∧ ∀ x H', J.yld i H x H' → g x (wipe σ vs) H' fun σ2 H2 => wipe σ2 vs = wipe σ vs ∧ tt σ2 H2 fun b H3 =>
    if b = true then ∃ (d : Addr) (u : HO), H3 d = some u ∧ Mut (some u) ∧ ∀ od, wib σ2 (upd H3 d (.frz od u)) fun J1 H4 => ∃ W1 : Nat → Nat → Hp → Prop, (∃ m, W1 0 m H4) ∧ ∀ j k H, W1 j k H →
      (J1.stop j H ∧ H d = some (.frz od u) ∧ Nx (upd H d u)) ∨ (J1.go j H ∧ ∃ Nx1 : Hp → Prop, (∀ H', Nx1 H' → ∃ k', k' < k ∧ W1 (j + 1) k' H') ∧ ∀ x H', J1.yld j H x H' → gb x (wipe σ2 vs1) H' fun σ3 H5 => wipe σ3 vs1 = wipe σ2 vs1 ∧ ttb σ3 H5 fun b H6 =>
        if b = true then te σ3 H6 fun y H7 => ∃ (k : Key) (T : Key → Bool) (n : Nat), y = kV k ∧ H7 D = some (SetQ P w D T n) ∧ n + 1 < scanBound ∧ Nx1 (upd H7 D (SetQ P w D (fun k' => T k' || decide (k' = k)) (if T k = true then n else n + 1))) else Nx1 H6)
    else Nx H3)
theorem sc2_core {pins : List (Addr × Obj)} {s : Shared} {σ : L2.St} {H : Hp} {Q : VK} {el tg ita tgb itb : Expr} {fs fb : List Expr} {sco : Scope} {own : List (Str × Nat)} {vs1 : List Nat} {pos pos' : Pos} {wi wib : TI} {g gb : TG} {tt ttb : TT} {te : TE} {use : Option (Value → Sem Unit)} {Qf : Value → Shared → Prop}
    (hc : X.calm = true) (hN : X.N.Nodup) (I : Inv X pins σ H s) (hi : PI X tg ita wi) (ok : BlkOk X.N X.env.scope sco own) (hv : ∀ i ∈ vs1, i ∈ own.map (·.2))
    (hg : ∀ (s : Shared) (H : Hp) (C : Addr) (cl : List (Str × Addr)) (fp : List Addr), PG (X.blk s H sco (compEnvC sco cl C X.env) fp) tg g) (ht : ∀ (s : Shared) (H : Hp) (C : Addr) (cl : List (Str × Addr)) (fp : List Addr), PTs (X.blk s H sco (compEnvC sco cl C X.env) fp) fs tt)
    (he : ∀ (s : Shared) (H : Hp) (C : Addr) (cl : List (Str × Addr)) (fp : List Addr), PE (X.blk s H sco (compEnvC sco cl C X.env) fp) el te) (hs : ∀ x, foldedSetIterable ita X.env x = pure x)
    (hi1 : ∀ (s : Shared) (H : Hp) (C : Addr) (cl : List (Str × Addr)) (fp : List Addr), PI (X.blk s H sco (compEnvC sco cl C X.env) fp) tgb itb wib)
    (hg1 : ∀ (s : Shared) (H : Hp) (C : Addr) (cl : List (Str × Addr)) (fp : List Addr), PG (X.blk s H sco (compEnvC sco cl C X.env) fp) tgb gb)
    (ht1 : ∀ (s : Shared) (H : Hp) (C : Addr) (cl : List (Str × Addr)) (fp : List Addr), PTs (X.blk s H sco (compEnvC sco cl C X.env) fp) fb ttb)
    (hs1 : ∀ env x, foldedSetIterable itb env x = pure x)
    (h : tSc2 X.prog X.w wi g tt wib gb ttb te (own.map (·.2)) vs1 σ H Q)
    (hRR : ∀ D C s' m H', Inv X pins σ H' s' → Q (.ref D) H' → s'.heap.Ns C m → FpOk X pins H' C → compPost (model X.prog X.w) X.A X.xe use Qf (.ref D) C (.ok .next) s') :
    wpAny (model X.prog X.w) X.A (comprehension (.SetComp el [⟨tg, ita, fs, 0⟩, ⟨tgb, itb, fb, 0⟩] sco pos) sco X.env pos' (newSet (.type "set")) false (eval ita X.env) use) Qf X.xe s := by
  have freeC : ∀ y ∈ sco.names, y.2 = .free → ∃ c, X.env.cells.lookup y.1 = some c := fun y hy e => by
    rcases ok.free y hy e with k | k
    · exact I.ok.has _ (.inl k)
    · exact I.ok.has _ (.inr k)
  refine wpAny_comprehension_free (use := use) rfl hs (closure_ok freeC) ok.kind (fun y hy e => by rw [ok.uniq y hy, e])
    (thn (hi.run pins s σ H _ I h) fun xv s1 hx => thn hx fun itv s2 h2 => ?_)
  obtain ⟨itr, fp, tn, J, H2, e, I2, T, st2, f2, q⟩ := h2
  subst e
  refine newSetQ_ok (newEnv_comp ?_)
  generalize hD : s2.heap.objs.size = D
  have hDn : H2 D = none := I2.hok.fresh (Nat.le_of_eq hD)
  obtain ⟨W, ⟨m0, w0⟩, trn⟩ := q D hDn
  -- the new list
  generalize hs3 : ({ s2 with heap := s2.heap.push (newSetQ X.w) } : Shared) = s3
  have I3 : Inv X pins σ (upd H2 D (SetQ X.prog X.w D (fun _ => false) 0)) s3 := by
    rw [← hs3]
    refine I2.laid (t' := s2.toks) (fun b o e => Heap.get?_push_of_some _ e) (Nat.le_of_eq hD) ?_
    rw [← hD]
    exact setQ_new (kr_fresh X.prog X.w)
  have h3 : s3.heap = s2.heap.push (newSetQ X.w) := by rw [← hs3]
  have sz : ∀ b ∈ fp, b < s2.heap.objs.size := fun b hb => by
    obtain ⟨o, e, _⟩ := T.obj _ _ st2 b hb
    exact Heap.lt_size e
  have f3 : ∀ b ∈ fp, FpOk X pins (upd H2 D (SetQ X.prog X.w D (fun _ => false) 0)) b ∧ b < s3.heap.objs.size := fun b hb => by
    have hlt := sz b hb
    refine ⟨⟨?_, (f2 b hb).2⟩, by rw [h3, Heap.size_push]; exact Nat.lt_succ_of_lt hlt⟩
    rw [upd_ne (by rw [← hD]; exact Nat.ne_of_lt hlt)]
    exact (f2 b hb).1
  have st3 : tn 0 s3.heap := T.keep _ _ _ st2 fun b _ o e => by rw [h3]; exact Heap.get?_push_of_some _ e
  have I4 := block_start I3 ok hN f3
  have qg := hg s3 (upd H2 D (SetQ X.prog X.w D (fun _ => false) 0)) s3.heap.objs.size (cellsFrom (s3.heap.objs.size + 1) sco.names (cloFrom X.env.cells sco.names [])) fp
  have qt := ht s3 (upd H2 D (SetQ X.prog X.w D (fun _ => false) 0)) s3.heap.objs.size (cellsFrom (s3.heap.objs.size + 1) sco.names (cloFrom X.env.cells sco.names [])) fp
  have qe := he s3 (upd H2 D (SetQ X.prog X.w D (fun _ => false) 0)) s3.heap.objs.size (cellsFrom (s3.heap.objs.size + 1) sco.names (cloFrom X.env.cells sco.names [])) fp
  have qib := hi1 s3 (upd H2 D (SetQ X.prog X.w D (fun _ => false) 0)) s3.heap.objs.size (cellsFrom (s3.heap.objs.size + 1) sco.names (cloFrom X.env.cells sco.names [])) fp
  have qgb := hg1 s3 (upd H2 D (SetQ X.prog X.w D (fun _ => false) 0)) s3.heap.objs.size (cellsFrom (s3.heap.objs.size + 1) sco.names (cloFrom X.env.cells sco.names [])) fp
  have qtb := ht1 s3 (upd H2 D (SetQ X.prog X.w D (fun _ => false) 0)) s3.heap.objs.size (cellsFrom (s3.heap.objs.size + 1) sco.names (cloFrom X.env.cells sco.names [])) fp
  show codeAny _ _ (.compStart (.SetComp el [⟨tg, ita, fs, 0⟩, ⟨tgb, itb, fb, 0⟩] sco pos) 0 (.ref itr) (.ref D) (compEnvC sco (cellsFrom (s3.heap.objs.size + 1) sco.names (cloFrom X.env.cells sco.names [])) s3.heap.objs.size X.env)) (compPost (model X.prog X.w) X.A X.xe use Qf (.ref D) s3.heap.objs.size) { s3 with heap := pushCells (s3.heap.push { cls := .type "dict", data := .dict #[] }) sco.names }
  have noFp : ∀ b ∈ fp, (upd H2 D (SetQ X.prog X.w D (fun _ => false) 0)) b = none := fun b hb => (f3 b hb).1.1
  generalize hce : compEnvC sco (cellsFrom (s3.heap.objs.size + 1) sco.names (cloFrom X.env.cells sco.names [])) s3.heap.objs.size X.env = ce at I4 qg qt qe qib qgb qtb ⊢
  have cL : ce.locals = s3.heap.objs.size := by subst hce; rfl
  generalize hH3 : upd H2 D (SetQ X.prog X.w D (fun _ => false) 0) = H3 at I3 I4 qg qt qe qib qgb qtb w0 noFp f3
  generalize hs4 : ({ s3 with heap := pushCells (s3.heap.push { cls := .type "dict", data := .dict #[] }) sco.names } : Shared) = s4 at I4 ⊢
  have st4 : tn 0 s4.heap := T.keep _ _ _ st3 fun b _ o e => by rw [← hs4]; exact pushCells_keeps _ _ _ _ (Heap.get?_push_of_some _ e)
  have still : ∀ {σ' : L2.St} {H' : Hp} {s' : Shared}, Inv (X.blk s3 H3 sco ce fp) [] σ' H' s' → (∀ b ∈ fp, H' b = none) → ∀ b ∈ fp, FpOk (X.blk s3 H3 sco ce fp) [] H' b := fun {σ' H' s'} I' hn b hb =>
    ⟨hn b hb, (I'.ok.exf b hb).1, I'.ok.exfs b hb, .inl hb, fun x c e => (I'.ok.exf b hb).2 x c e, fun p hp => absurd (show p ∈ ([] : List (Addr × Obj)) ++ [] from hp) (by simp)⟩
  have loop : codeAny (model X.prog X.w) X.A (.compLoop (.SetComp el [⟨tg, ita, fs, 0⟩, ⟨tgb, itb, fb, 0⟩] sco pos) 0 (.ref itr) (.ref D) ce) (compPost (model X.prog X.w) X.A X.xe use Qf (.ref D) s3.heap.objs.size) s4 := by
    refine compLoopS2_out (hs1 ce) (fun n s' => ∃ i H', Inv (X.blk s3 H3 sco ce fp) [] (wipe σ (own.map (·.2))) H' s' ∧ tn i s'.heap ∧ (∀ b ∈ fp, H' b = none) ∧ W i n H') ?_ m0 ⟨0, H3, I4, st4, noFp, w0⟩
    rintro n s5 ⟨i, H5, I5, st5, n5, w5⟩
    rcases trn i n H5 w5 with ⟨stop, qq⟩ | ⟨go, Nx, hNx, step⟩
    · have td := T.done (X.blk s3 H3 sco ce fp) rfl rfl rfl hc i [] s5 _ H5 (fun _ _ => False) I5 (still I5 n5) st5 stop
      refine thnF td fun r s6 ⟨hr, I6⟩ => ?_
      subst hr
      -- back in the def's context
      have I7 : Inv X pins σ H5 s6 := I3.call' (ch := fp) I6.os I6.base I6.hok I6.bare fun b hb => ⟨(f3 b hb).1.2.2.2.1, (f3 b hb).1.2.1, (f3 b hb).1.2.2.2.2.1, (f3 b hb).1.2.2.2.2.2⟩
      have nC : H5 s3.heap.objs.size = none := by
        have z : H5 ce.locals = none := I6.free
        rw [cL] at z
        exact z
      obtain ⟨m, hn, _⟩ := I6.loc
      have hn : s6.heap.Ns ce.locals m := hn
      rw [cL] at hn
      exact hRR D s3.heap.objs.size s6 m H5 I7 qq hn (I3.fpOk (Nat.le_refl _) nC)
    · have ti := T.item (X.blk s3 H3 sco ce fp) rfl rfl rfl hc i [] s5 _ H5 (fun _ _ => False) I5 (still I5 n5) st5 go
      refine thnF ti fun r s6 ⟨u, hr, h6⟩ => ?_
      subst hr
      refine thnF h6 fun _ s7 ⟨x, H7, I7, r7, y7, st7, n7⟩ => ?_
      have I7' := I7.pinned (still I7 n7) (T.obj _ _ st7)
      refine thnF (qg.run _ s7 _ H7 x u _ I7' r7 (step x H7 y7)) fun _ s8 ⟨σ8, H8, I8, hw8, q8⟩ => ?_
      refine thnF (qt.run _ s8 σ8 H8 _ I8 q8) fun b s9 ⟨H9, I9, q9⟩ => ?_
      -- the turn's end, from any slots that know what the block knew at its start
      have last : ∀ {σ9 : L2.St} {s' : Shared} {H' : Hp}, Inv (X.blk s3 H3 sco ce fp) ([] ++ pinsAt fp s7.heap) σ9 H' s' → (wipe σ (own.map (·.2))).length = σ9.length → (∀ (j : Nat) v, (wipe σ (own.map (·.2)))[j]? = some (some v) → σ9[j]? = some (some v)) → Nx H' →
          ∃ m, m < n ∧ ∃ i H', Inv (X.blk s3 H3 sco ce fp) [] (wipe σ (own.map (·.2))) H' s' ∧ tn i s'.heap ∧ (∀ b ∈ fp, H' b = none) ∧ W i m H' := fun {σ9 s' H'} I' hl hk nx => by
        obtain ⟨m', hm, w'⟩ := hNx H' nx
        have pin' : ∀ b ∈ fp, ∀ o, s7.heap.get? b = some o → s'.heap.get? b = some o ∧ H' b = none := fun b hb o e =>
          let z := I'.pin (b, o) (List.mem_append_right _ (List.mem_append_right _ (mem_pinsAt hb e)))
          ⟨z.1, z.2.1⟩
        refine ⟨m', hm, i + 1, H', (I'.unpinned (pins := [])).weak hl hk, T.keep _ _ _ st7 fun b hb o e => (pin' b hb o e).1, fun b hb => ?_, w'⟩
        obtain ⟨o, e, _⟩ := T.obj _ _ st7 b hb
        exact (pin' b hb o e).2
      have hl8 : (wipe σ (own.map (·.2))).length = σ8.length := by rw [← hw8, wipe_length]
      have hk8 : ∀ (j : Nat) v, (wipe σ (own.map (·.2)))[j]? = some (some v) → σ8[j]? = some (some v) := fun j v e => by
        rw [← hw8] at e
        exact (wipe_some e).1
      have hk9 : ∀ (j : Nat) v, (wipe σ (own.map (·.2)))[j]? = some (some v) → (wipe σ8 vs1)[j]? = some (some v) := fun j v e => by
        rw [← hw8] at e
        obtain ⟨e1, e2⟩ := wipe_some e
        rw [wipe_out fun z => e2 (hv j z)]
        exact e1
      cases b with
      | false =>
        simp only [Bool.false_eq_true, if_false] at q9 ⊢
        exact last I9 hl8 hk8 q9
      | true =>
        simp only [if_true] at q9 ⊢
        obtain ⟨dl, ul, hdl, mul, q9⟩ := q9
        have nfz := I9.nofrz hdl mul
        obtain ⟨odl, I9⟩ := I9.lock hdl mul
        refine thnF (qib.run _ s9 σ8 _ _ I9 (q9 odl)) fun xv s10 hx => thnF hx fun itv s11 h11 => ?_
        obtain ⟨it1, fp1, tn1, J1, H11, e1, I11, T1, st11, f11, W1, ⟨m1, w1⟩, trn1⟩ := h11
        subst e1
        -- the inner loop
        have still1 : ∀ {H' : Hp}, (∀ b ∈ fp1, H' b = none) → ∀ b ∈ fp1, FpOk (X.blk s3 H3 sco ce fp) ([] ++ pinsAt fp s7.heap) H' b := fun hn b hb => ⟨hn b hb, (f11 b hb).2⟩
        have loop1 : codeAny (model X.prog X.w) X.A (.compLoop (.SetComp el [⟨tg, ita, fs, 0⟩, ⟨tgb, itb, fb, 0⟩] sco pos) 1 (.ref it1) (.ref D) ce)
            (fun r s' => match r with
              | .ok _ => ∃ m, m < n ∧ ∃ i H', Inv (X.blk s3 H3 sco ce fp) [] (wipe σ (own.map (·.2))) H' s' ∧ tn i s'.heap ∧ (∀ b ∈ fp, H' b = none) ∧ W i m H'
              | .error _ => False) s11 := by
          refine compLoopS2_in (fun k s' => ∃ j H', Inv (X.blk s3 H3 sco ce fp) ([] ++ pinsAt fp s7.heap) (wipe σ8 vs1) H' s' ∧ tn1 j s'.heap ∧ (∀ b ∈ fp1, H' b = none) ∧ W1 j k H') ?_ m1 ⟨0, H11, I11.weak (wipe_length _ _) (fun j v e => (wipe_some e).1), st11, fun b hb => (f11 b hb).1, w1⟩
          rintro k s12 ⟨j, H12, I12, st12, n12, w12⟩
          rcases trn1 j k H12 w12 with ⟨stop1, lk1, nx1⟩ | ⟨go1, Nx1, hNx1, step1⟩
          · refine thnF (T1.done (X.blk s3 H3 sco ce fp) rfl rfl rfl hc j _ s12 (wipe σ8 vs1) H12 (fun _ _ => False) I12 (still1 n12) st12 stop1) fun r s13 ⟨hr, I13⟩ => ?_
            subst hr
            exact last (I13.unlock lk1 nfz) (hl8.trans (wipe_length σ8 vs1).symm) hk9 nx1
          · refine thnF (T1.item (X.blk s3 H3 sco ce fp) rfl rfl rfl hc j _ s12 (wipe σ8 vs1) H12 (fun _ _ => False) I12 (still1 n12) st12 go1) fun r s13 ⟨u1, hr, h13⟩ => ?_
            subst hr
            refine thnF h13 fun _ s14 ⟨x1, H14, I14, r14, y14, st14, n14⟩ => ?_
            have I14' := I14.pinned (still1 n14) (T1.obj _ _ st14)
            refine thnF (qgb.run _ s14 (wipe σ8 vs1) H14 x1 u1 _ I14' r14 (step1 x1 H14 y14)) fun _ s15 ⟨σ15, H15, I15, hw15, q15⟩ => ?_
            refine thnF (qtb.run _ s15 σ15 H15 _ I15 q15) fun b1 s16 ⟨H16, I16, q16⟩ => ?_
            have last1 : ∀ {s' : Shared} {H' : Hp}, Inv (X.blk s3 H3 sco ce fp) (([] ++ pinsAt fp s7.heap) ++ pinsAt fp1 s14.heap) σ15 H' s' → Nx1 H' → ∃ m, m < k ∧ ∃ j H', Inv (X.blk s3 H3 sco ce fp) ([] ++ pinsAt fp s7.heap) (wipe σ8 vs1) H' s' ∧ tn1 j s'.heap ∧ (∀ b ∈ fp1, H' b = none) ∧ W1 j m H' := fun {s' H'} I' nx => by
              obtain ⟨m', hm, w'⟩ := hNx1 H' nx
              have pin' : ∀ b ∈ fp1, ∀ o, s14.heap.get? b = some o → s'.heap.get? b = some o ∧ H' b = none := fun b hb o e =>
                let z := I'.pin (b, o) (List.mem_append_right _ (List.mem_append_right _ (mem_pinsAt hb e)))
                ⟨z.1, z.2.1⟩
              refine ⟨m', hm, j + 1, H', I'.unpinned.weak (by rw [← hw15, wipe_length]) (fun j v e => by rw [← hw15] at e; exact (wipe_some e).1), T1.keep _ _ _ st14 fun b hb o e => (pin' b hb o e).1, fun b hb => ?_, w'⟩
              obtain ⟨o, e, _⟩ := T1.obj _ _ st14 b hb
              exact (pin' b hb o e).2
            cases b1 with
            | false =>
              simp only [Bool.false_eq_true, if_false] at q16 ⊢
              exact last1 I16 q16
            | true =>
              simp only [if_true] at q16 ⊢
              refine thnF (qe.run _ s16 σ15 H16 _ I16 q16) fun z s17 ⟨yv, H17, I17, r17, k0, T0, n0, ek0, hD17, hz17, nx⟩ => ?_
              subst ek0
              exact addQ_ok (X := X.blk s3 H3 sco ce fp) I17 hD17 r17 hz17 fun s18 I18 => last1 I18 nx
        exact compStartS1_ok loop1 (T1.self X.A 0 _ _ _ st11 loop1)
  exact PpSet.codeAny_compStart_set loop (T.self X.A 0 _ _ _ st4 loop)
/-- as a value -/
theorem pe_sc2 {el tg ita tgb itb : Expr} {fs fb : List Expr} {sco : Scope} {own : List (Str × Nat)} {vs1 : List Nat} {pos : Pos} {wi wib : TI} {g gb : TG} {tt ttb : TT} {te : TE} (hc : X.calm = true) (hN : X.N.Nodup) (hi : PI X tg ita wi) (ok : BlkOk X.N X.env.scope sco own) (hv : ∀ i ∈ vs1, i ∈ own.map (·.2))
    (hg : ∀ (s : Shared) (H : Hp) (C : Addr) (cl : List (Str × Addr)) (fp : List Addr), PG (X.blk s H sco (compEnvC sco cl C X.env) fp) tg g) (ht : ∀ (s : Shared) (H : Hp) (C : Addr) (cl : List (Str × Addr)) (fp : List Addr), PTs (X.blk s H sco (compEnvC sco cl C X.env) fp) fs tt)
    (hi1 : ∀ (s : Shared) (H : Hp) (C : Addr) (cl : List (Str × Addr)) (fp : List Addr), PI (X.blk s H sco (compEnvC sco cl C X.env) fp) tgb itb wib)
    (hg1 : ∀ (s : Shared) (H : Hp) (C : Addr) (cl : List (Str × Addr)) (fp : List Addr), PG (X.blk s H sco (compEnvC sco cl C X.env) fp) tgb gb) (ht1 : ∀ (s : Shared) (H : Hp) (C : Addr) (cl : List (Str × Addr)) (fp : List Addr), PTs (X.blk s H sco (compEnvC sco cl C X.env) fp) fb ttb)
    (he : ∀ (s : Shared) (H : Hp) (C : Addr) (cl : List (Str × Addr)) (fp : List Addr), PE (X.blk s H sco (compEnvC sco cl C X.env) fp) el te) (hs : ∀ x, foldedSetIterable ita X.env x = pure x := by intro _; rfl) (hs1 : ∀ env x, foldedSetIterable itb env x = pure x := by intro _ _; rfl) :
    PE X (.SetComp el [⟨tg, ita, fs, 0⟩, ⟨tgb, itb, fb, 0⟩] sco pos) (tSc2 X.prog X.w wi g tt wib gb ttb te (own.map (·.2)) vs1) := by
  refine ⟨fun pins s σ H Q I h => ?_⟩
  rw [PpSet.eval_SetComp]
  refine sc2_core hc hN I hi ok hv hg ht he hs hi1 hg1 ht1 hs1 h fun D C s' m H' I' q hn f => ⟨m, hn, fun h'' sb => ?_⟩
  obtain ⟨f0, f1, f2, f3, f4, f5⟩ := f
  exact ⟨.ref D, H', I'.turned (t' := s'.toks) (fun b o hb e => (sb.2 b hb).trans e) f0 f1 f3 f4 f5, rfl, q⟩
theorem ps_setSc2 {i : Nat} {y : Str} {py : Pos} {el tg ita tgb itb : Expr} {fs fb : List Expr} {sco : Scope} {own : List (Str × Nat)} {vs1 : List Nat} {pos spos : Pos} {wi wib : TI} {g gb : TG} {tt ttb : TT} {te : TE} (hc : X.calm = true) (hN : X.N.Nodup) (hy : X.N[i]? = some y) (hyl : X.env.scope.names.lookup y = some .local)
    (hsw : swapsWith (.SetComp el [⟨tg, ita, fs, 0⟩, ⟨tgb, itb, fb, 0⟩] sco pos) (some (.Name y py)) spos.line X.env = pure true) (hi : PI X tg ita wi) (ok : BlkOk X.N X.env.scope sco own) (hv : ∀ i ∈ vs1, i ∈ own.map (·.2))
    (hg : ∀ (s : Shared) (H : Hp) (C : Addr) (cl : List (Str × Addr)) (fp : List Addr), PG (X.blk s H sco (compEnvC sco cl C X.env) fp) tg g) (ht : ∀ (s : Shared) (H : Hp) (C : Addr) (cl : List (Str × Addr)) (fp : List Addr), PTs (X.blk s H sco (compEnvC sco cl C X.env) fp) fs tt)
    (hi1 : ∀ (s : Shared) (H : Hp) (C : Addr) (cl : List (Str × Addr)) (fp : List Addr), PI (X.blk s H sco (compEnvC sco cl C X.env) fp) tgb itb wib)
    (hg1 : ∀ (s : Shared) (H : Hp) (C : Addr) (cl : List (Str × Addr)) (fp : List Addr), PG (X.blk s H sco (compEnvC sco cl C X.env) fp) tgb gb) (ht1 : ∀ (s : Shared) (H : Hp) (C : Addr) (cl : List (Str × Addr)) (fp : List Addr), PTs (X.blk s H sco (compEnvC sco cl C X.env) fp) fb ttb)
    (he : ∀ (s : Shared) (H : Hp) (C : Addr) (cl : List (Str × Addr)) (fp : List Addr), PE (X.blk s H sco (compEnvC sco cl C X.env) fp) el te) (hs : ∀ x, foldedSetIterable ita X.env x = pure x := by intro _; rfl) (hs1 : ∀ env x, foldedSetIterable itb env x = pure x := by intro _ _; rfl) :
    PS X (.Assign [.Name y py] (.SetComp el [⟨tg, ita, fs, 0⟩, ⟨tgb, itb, fb, 0⟩] sco pos) spos) (tAsg (tSc2 X.prog X.w wi g tt wib gb ttb te (own.map (·.2)) vs1) (gName i)) := by
  refine ⟨fun pins s σ H D I h => ?_⟩
  rw [exec_Assign_Name_used _ _ _ _ hsw]
  refine wpAny_bind (wpAny_standAt (wpAny_bind ?_))
  show wpAny _ X.A (do let _ ← comprehension (.SetComp el [⟨tg, ita, fs, 0⟩, ⟨tgb, itb, fb, 0⟩] sco pos) sco X.env (firstIterPos [⟨tg, ita, fs, 0⟩, ⟨tgb, itb, fb, 0⟩] pos) (newSet (.type "set")) false (eval ita X.env) (some (assign (.Name y py) X.env))) _ _ s
  have h : tSc2 X.prog X.w wi g tt wib gb ttb te (own.map (·.2)) vs1 σ H (fun x H1 => gName i x σ H1 D.nx) := h
  refine wpAny_bind (thn (sc2_core (Qf := fun _ s' => SP X pins D .next s') hc hN I hi ok hv hg ht he hs hi1 hg1 ht1 hs1 h fun L C s' m H' I' q hn f => ?_) fun _ s' hq => wpAny_pure (wpAny_pure hq))
  show wpAny _ _ (assign (.Name y py) X.env (.ref L)) _ _ _
  refine wpAny_assign_Name (store_ok2 (v := V.ref L) I' hN hy (.inl hyl) rfl (fun s2 I2 ⟨a, sb, ha⟩ => ?_) (.inr hyl))
  obtain ⟨f0, f1, f2, f3, f4, f5⟩ := f
  have haC : C ≠ a := by
    rcases ha with z | z
    · rw [z]; exact f1
    · exact fun e => f4 y a z e.symm
  refine ⟨m, hn.sameBut sb haC, fun h3 sb3 => ?_⟩
  exact ⟨_, H', I2.turned (t' := s2.toks) (fun b o hb e => (sb3.2 b hb).trans e) f0 f1 f3 f4 f5, q⟩

end
/-! ### {k for d in ds for k in d}: ds a list of dicts -/
def kSc2 (P : Program) (w : World) (J : It) (g : TG) (tt : TT) (wi1 : TI) (g1 : TG) (tt1 : TT) (te : TE) (vs vs1 : List Nat) (σ : L2.St) (H1 : Hp) (Q : VK) : Prop := ∀ D, H1 D = none → ∃ W : Nat → Nat → Hp → Prop, (∃ m, W 0 m (upd H1 D (SetQ P w D (fun _ => false) 0))) ∧ ∀ i m H, W i m H →
  (J.stop i H ∧ Q (.ref D) H) ∨ (J.go i H ∧ ∃ Nx : Hp → Prop, (∀ H', Nx H' → ∃ m', m' < m ∧ W (i + 1) m' H') ∧ ∀ x H', J.yld i H x H' → g x (wipe σ vs) H' fun σ2 H2 => wipe σ2 vs = wipe σ vs ∧ tt σ2 H2 fun b H3 =>
    if b = true then ∃ (d : Addr) (u : HO), H3 d = some u ∧ Mut (some u) ∧ ∀ od, wi1 σ2 (upd H3 d (.frz od u)) fun J1 H4 => ∃ W1 : Nat → Nat → Hp → Prop, (∃ m, W1 0 m H4) ∧ ∀ j k H, W1 j k H →
      (J1.stop j H ∧ H d = some (.frz od u) ∧ Nx (upd H d u)) ∨ (J1.go j H ∧ ∃ Nx1 : Hp → Prop, (∀ H', Nx1 H' → ∃ k', k' < k ∧ W1 (j + 1) k' H') ∧ ∀ x H', J1.yld j H x H' → g1 x (wipe σ2 vs1) H' fun σ3 H5 => wipe σ3 vs1 = wipe σ2 vs1 ∧ tt1 σ3 H5 fun b H6 =>
        if b = true then te σ3 H6 fun y H7 => ∃ (k : Key) (T : Key → Bool) (n : Nat), y = kV k ∧ H7 D = some (SetQ P w D T n) ∧ n + 1 < scanBound ∧ Nx1 (upd H7 D (SetQ P w D (fun k' => T k' || decide (k' = k)) (if T k = true then n else n + 1))) else Nx1 H6)
    else Nx H3)
def kSc2L (K : PySem.W.Frag) (P : Program) (w : World) (g : TG) (tt : TT) (wi1 : TI) (g1 : TG) (tt1 : TT) (te : TE) (vs vs1 : List Nat) (σ : L2.St) (x : V) (H1 : Hp) (Q : VK) : Prop := ∃ a, x = .ref a ∧ (∃ xs, SqL K H1 a xs) ∧ kSc2 P w (Itl K a) g tt wi1 g1 tt1 te vs vs1 σ H1 Q
theorem g_sc2 {K : PySem.W.Frag} {P : Program} {w : World} {g : TG} {tt : TT} {wi1 : TI} {g1 : TG} {tt1 : TT} {tl te : TE} {vs vs1 : List Nat} {σ : L2.St} {H : Hp} {Q : VK} (q : tl σ H fun x H1 => kSc2L K P w g tt wi1 g1 tt1 te vs vs1 σ x H1 Q) : tSc2 P w (iList K tl) g tt wi1 g1 tt1 te vs vs1 σ H Q := q
/-- the number of entries of the dicts -/
def sumL (kv : Addr → List (Key × V)) : List Addr → Nat
  | [] => 0
  | d :: ds => (kv d).length + sumL kv ds
theorem sumL_app (kv : Addr → List (Key × V)) : ∀ xs ys : List Addr, sumL kv (xs ++ ys) = sumL kv xs + sumL kv ys
  | [], ys => (Nat.zero_add _).symm
  | x :: xs, ys => by
    show (kv x).length + sumL kv (xs ++ ys) = (kv x).length + sumL kv xs + sumL kv ys
    rw [sumL_app kv xs ys]
    omega
theorem sumL_take (kv : Addr → List (Key × V)) (xs : List Addr) (i : Nat) : sumL kv (xs.take i) ≤ sumL kv xs := by
  have := sumL_app kv (xs.take i) (xs.drop i)
  rw [List.take_append_drop] at this
  omega
theorem setQ_frz {P : Program} {w : World} {D : Addr} {T : Key → Bool} {n : Nat} {u : HO} (h : ∀ h', u ≠ .ext h') : SetQ P w D T n ≠ u := fun e => h _ e.symm
theorem k_keysOf {K : PySem.W.Frag} {P : Program} {w : World} {i j : Nat} {σ : L2.St} {F H1 : Hp} {O : Own} {Q : VK} {a : Addr} {ds : List Addr} (hH : Has F O H1) (ha : F a = some (.lst (ds.map V.ref)) ∨ (a, .lst (ds.map V.ref)) ∈ O) (kv : Addr → List (Key × V)) (hd : ∀ d ∈ ds, F d = some (.dK (kv d)))
    (hl : sumL kv ds ≤ 1000) (hi : i < σ.length) (hj : j < σ.length) (ne : i ≠ j)
    (q : ∀ D H' T n, H1 D = none → (∀ k, T k = true ↔ ∃ d ∈ ds, ∃ v, (k, v) ∈ kv d) → n ≤ sumL kv ds → Has F ((D, SetQ P w D T n) :: O) H' → Q (.ref D) H') :
    kSc2L K P w (gName i) tYes (iKeys (tVar i)) (gName j) tYes (tVar j) [i, j] [j] σ (.ref a) H1 Q := by
  have la : ∀ {H' : Hp} {D : Addr} {o : HO}, Has F ((D, o) :: O) H' → H' a = some (.lst (ds.map V.ref)) := fun {H' D o} h => by
    rcases ha with h' | h'
    · exact h.same _ _ h'
    · exact h.get (List.mem_cons_of_mem _ h')
  have la1 : H1 a = some (.lst (ds.map V.ref)) := by
    rcases ha with h' | h'
    · exact hH.same _ _ h'
    · exact hH.get h'
  refine ⟨a, rfl, ⟨_, SqL.of la1⟩, fun D nD => ?_⟩
  refine ⟨fun t m H => m = ds.length - t ∧ t ≤ ds.length ∧ ∃ T n, Has F ((D, SetQ P w D T n) :: O) H ∧ (∀ k, T k = true ↔ ∃ d ∈ ds.take t, ∃ v, (k, v) ∈ kv d) ∧ n ≤ sumL kv (ds.take t),
    ⟨_, rfl, Nat.zero_le _, _, _, hH.new nD, fun k => by simp, Nat.le_refl _⟩, ?_⟩
  rintro t m H ⟨rfl, ht, T, n, hh, hT, hn⟩
  by_cases hlt : t < ds.length
  · have ed : ds[t]? = some ds[t] := List.getElem?_eq_getElem hlt
    generalize ds[t] = d at ed
    have dm := List.mem_of_getElem? ed
    have ex : (ds.map V.ref)[t]? = some (.ref d) := by rw [List.getElem?_map, ed]; rfl
    have tk : ds.take (t + 1) = ds.take t ++ [d] := by rw [List.take_add_one, ed]; rfl
    refine .inr ⟨⟨_, _, SqL.of (la hh), ex⟩, fun H' => ∃ T n, Has F ((D, SetQ P w D T n) :: O) H' ∧ (∀ k, T k = true ↔ ∃ d ∈ ds.take (t + 1), ∃ v, (k, v) ∈ kv d) ∧ n ≤ sumL kv (ds.take (t + 1)), fun H' z => ⟨ds.length - (t + 1), by omega, rfl, hlt, z⟩, ?_⟩
    rintro x H' ⟨rfl, y⟩
    have exx := (y _ (SqL.of (la hh))).symm.trans ex
    injection exx with exx
    subst exx
    have w2 : wipe ((wipe σ [i, j]).set i (some (V.ref d))) [i, j] = wipe σ [i, j] := by
      dsimp only [wipe]
      apply List.ext_getElem?
      intro z
      simp only [List.getElem?_set]
      split <;> split <;> simp_all
    refine ⟨w2, ?_⟩
    refine g_yes (iteT ?_)
    have fd := hd d dm
    have hld := hh.same _ _ fd
    refine ⟨d, _, hld, trivial, fun od => ?_⟩
    have hL := hh.lock (od := od) fd
    have gi : ((wipe σ [i, j]).set i (some (V.ref d)))[i]? = some (some (V.ref d)) := by
      dsimp only [wipe]
      simp [hi]
    refine ⟨.ref d, gi, d, od, rfl, .inl ⟨_, upd_same, ?_⟩⟩
    have lkv : sumL kv (ds.take t) + (kv d).length ≤ 1000 := by
      have h1 := sumL_take kv ds (t + 1)
      rw [tk, sumL_app] at h1
      have h2 : sumL kv [d] = (kv d).length := Nat.add_zero _
      omega
    refine ⟨fun u k H => k = (kv d).length - u ∧ u ≤ (kv d).length ∧ ∃ T n, Has (upd F d (.frz od (.dK (kv d)))) ((D, SetQ P w D T n) :: O) H ∧ (∀ k, T k = true ↔ (∃ d ∈ ds.take t, ∃ v, (k, v) ∈ kv d) ∨ ∃ v, (k, v) ∈ (kv d).take u) ∧ n ≤ sumL kv (ds.take t) + u,
      ⟨_, rfl, Nat.zero_le _, T, n, hL, fun k => by rw [hT k]; simp, by omega⟩, ?_⟩
    rintro u k H ⟨rfl, hu, T, n, hh, hT, hn⟩
    have hfz : H d = some (.frz od (.dK (kv d))) := hh.same _ _ upd_same
    by_cases hul : u < (kv d).length
    · have ep : (kv d)[u]? = some (kv d)[u] := List.getElem?_eq_getElem hul
      generalize (kv d)[u] = p at ep
      have tk2 : (kv d).take (u + 1) = (kv d).take u ++ [p] := by rw [List.take_add_one, ep]; rfl
      refine .inr ⟨⟨hfz, hul⟩, fun H' => ∃ T n, Has (upd F d (.frz od (.dK (kv d)))) ((D, SetQ P w D T n) :: O) H' ∧ (∀ k, T k = true ↔ (∃ d ∈ ds.take t, ∃ v, (k, v) ∈ kv d) ∨ ∃ v, (k, v) ∈ (kv d).take (u + 1)) ∧ n ≤ sumL kv (ds.take t) + (u + 1), fun H' z => ⟨(kv d).length - (u + 1), by omega, rfl, hul, z⟩, ?_⟩
      rintro x H' ⟨rfl, k0, v0, ek, rfl⟩
      rw [ep] at ek
      injection ek with ek
      subst ek
      have w3 : wipe ((wipe ((wipe σ [i, j]).set i (some (V.ref d))) [j]).set j (some (kV k0))) [j] = wipe ((wipe σ [i, j]).set i (some (V.ref d))) [j] := by
        dsimp only [wipe]
        rw [List.set_set]
        rw [List.set_set]
      refine ⟨w3, ?_⟩
      refine g_yes (iteT ?_)
      have gj : ((wipe ((wipe σ [i, j]).set i (some (V.ref d))) [j]).set j (some (kV k0)))[j]? = some (some (kV k0)) := by
        dsimp only [wipe]
        simp [hj]
      refine ⟨_, gj, k0, T, n, rfl, hh.get (List.Mem.head _), by unfold scanBound; omega, _, _, hh.put .hd, fun k' => ?_, ?_⟩
      · rw [Bool.or_eq_true, hT k', decide_eq_true_eq, tk2]
        constructor
        · rintro ((h | ⟨v, h⟩) | h)
          · exact .inl h
          · exact .inr ⟨v, List.mem_append_left _ h⟩
          · subst h
            exact .inr ⟨v0, List.mem_append_right _ (List.mem_singleton.mpr rfl)⟩
        · rintro (h | ⟨v, h⟩)
          · exact .inl (.inl h)
          · rcases List.mem_append.mp h with h | h
            · exact .inl (.inr ⟨v, h⟩)
            · have := List.mem_singleton.mp h
              injection this with e1 e2
              exact .inr e1
      · split <;> omega
    · have e : u = (kv d).length := by omega
      subst e
      refine .inl ⟨⟨hfz, Nat.le_refl _⟩, hfz, ?_⟩
      have hU := hh.unlock (od := od) (u := .dK (kv d)) upd_same
      have eF : upd (upd F d (.frz od (.dK (kv d)))) d (.dK (kv d)) = F := by
        funext b
        by_cases e : b = d
        · subst e
          rw [upd_same, fd]
        · rw [upd_ne e, upd_ne e]
      rw [eF] at hU
      refine ⟨T, n, hU, fun k => ?_, ?_⟩
      · rw [hT k, List.take_length, tk]
        constructor
        · rintro (⟨d', hd', v, h⟩ | ⟨v, h⟩)
          · exact ⟨d', List.mem_append_left _ hd', v, h⟩
          · exact ⟨d, List.mem_append_right _ (List.mem_singleton.mpr rfl), v, h⟩
        · rintro ⟨d', hd', v, h⟩
          rcases List.mem_append.mp hd' with hd' | hd'
          · exact .inl ⟨d', hd', v, h⟩
          · rw [List.mem_singleton.mp hd'] at h
            exact .inr ⟨v, h⟩
      · rw [tk, sumL_app]
        show n ≤ sumL kv (ds.take t) + ((kv d).length + 0)
        omega
  · have e : t = ds.length := by omega
    subst e
    rw [List.take_length] at hT hn
    refine .inl ⟨⟨_, SqL.of (la hh), by rw [List.length_map]; exact Nat.le_refl _⟩, q D H T n nD hT hn hh⟩
section
variable {X : Cx} {ex : Expr} {st : Stmt} {wi wi1 : TI} {g g1 : TG} {tt tt1 : TT} {te : TE} {vs vs1 : List Nat} {i : Nat}
theorem k_sc2 (P : Program) (w : World) (h : PE X ex (tSc2 X.prog X.w wi g tt wi1 g1 tt1 te vs vs1)) (eP : X.prog = P := by rfl) (ew : X.w = w := by rfl) : PE X ex (tSc2 P w wi g tt wi1 g1 tt1 te vs vs1) := by
  subst eP
  subst ew
  exact h
theorem k_sc2S (P : Program) (w : World) (h : PS X st (tAsg (tSc2 X.prog X.w wi g tt wi1 g1 tt1 te vs vs1) (gName i))) (eP : X.prog = P := by rfl) (ew : X.w = w := by rfl) : PS X st (tAsg (tSc2 P w wi g tt wi1 g1 tt1 te vs vs1) (gName i)) := by
  subst eP
  subst ew
  exact h
end
section
variable {elt kx vx : Expr} {gs : List Comprehension} {sco : Scope} {pos py : Pos} {y : Str} {l : Nat} {env : Env}
theorem sw_trueS (hk : env.scope.kind = .function) (hy : env.scope.names.lookup y = some .local) (hl : (py.line == pos.line) = true) (ha : (sco.names.any fun (n, k) => n == y && (k == .local || k == .cell)) = false) : swapsWith (.SetComp elt gs sco pos) (some (.Name y py)) l env = pure true := by
  have ky : env.kindOf y = some .local := hy
  have hb : env.blockKind = .function := by
    unfold Env.blockKind
    rw [hk]
    rfl
  unfold swapsWith
  simp only [hb, ky, ha, Expr.pos, hl]
  rfl
theorem sw_trueD (hk : env.scope.kind = .function) (hy : env.scope.names.lookup y = some .local) (hl : (py.line == pos.line) = true) (ha : (sco.names.any fun (n, k) => n == y && (k == .local || k == .cell)) = false) : swapsWith (.DictComp kx vx gs sco pos) (some (.Name y py)) l env = pure true := by
  have ky : env.kindOf y = some .local := hy
  have hb : env.blockKind = .function := by
    unfold Env.blockKind
    rw [hk]
    rfl
  unfold swapsWith
  simp only [hb, ky, ha, Expr.pos, hl]
  rfl
end
end Qk

/-! Qtr: dicts of lists: list(d), list(d.items()), d.get(k), dict comprehensions -/
namespace Qk
open PySem PySem.Spec PyProof.Rows L2
/-! ### list(d) -/
def rListD : List V → Hp → VK → Prop := fun xs H Q => ∃ (a : Addr) (kvs : List (Key × V)), xs = [.ref a] ∧ Rd H a (.dK kvs) ∧ ∀ p, H p = none → Q (.ref p) (upd H p (.lst (kvs.map fun kv => kV kv.1)))
theorem cr_listD {X : Cx} (hc : X.calm = true) : CallR X (.type "list") rListD := call_listD hc
section
variable {K : PySem.W.Frag} {σ : L2.St} {F : Hp} {O O' : Own} {H : Hp} {Q : VK} {te ta tb : TE} {x y v : V}
theorem g_listD {a : Addr} {kvs : List (Key × V)} (h : H a = some (.dK kvs)) (hH : Has F O H) (q : ∀ p H', H p = none → Has F ((p, .lst (kvs.map fun kv => kV kv.1)) :: O) H' → Q (.ref p) H') : rListD [.ref a] H Q :=
  ⟨a, kvs, rfl, .inl h, fun p n => q p _ n (hH.new n)⟩
/-! ### d.get(k) -/
def kGet1 (ty : TE) (σ : L2.St) (x : V) (H : Hp) (Q : VK) : Prop := ∃ a, x = .ref a ∧ IsD H a ∧ ty σ H fun y H2 => ∃ o, DGet H2 a y o ∧ Q (o.getD .non) H2
theorem g_get1 (q : ta σ H fun x H1 => kGet1 tb σ x H1 Q) : tDGet1 ta tb σ H Q := q
theorem g_kget1 {a : Addr} {kvs : List (Key × V)} (h : H a = some (.dK kvs)) (q : tb σ H fun y H2 => kGot a y .non H2 Q) : kGet1 tb σ (.ref a) H Q := ⟨a, rfl, .inl ⟨kvs, .inl h⟩, q⟩
/-! ### list(d.items()) -/
theorem g_listItems (q : te σ H fun x H1 => LiI.rItemsL x H1 Q) : LiI.tListItems te σ H Q := q
theorem g_items {d : Addr} {kvs : List (Key × V)} (h : H d = some (.dK kvs)) (q : ∀ p H' ts, Same H H' → H p = none → H' p = some (.lst (ts.map V.ref)) → Paired (fun (t : Addr) (q : Key × V) => H' t = some (.tup [kV q.1, q.2])) ts kvs → Q (.ref p) H') : LiI.rItemsL (.ref d) H Q :=
  ⟨d, kvs, rfl, h, fun H' p ts s n _ _ e pd => q p H' ts s n e pd⟩
end
end Qk

/-! Qtm: texts that may lack, trees as dicts of lists -/
namespace Qk
open PySem PySem.Spec PyProof.Rows L2
abbrev Tx := List Str
def txD (t : Tx) : PyData := .list (t.map PyData.str)
def oxD : Option Tx → PyData
  | none => .none
  | some t => txD t
def okX (t : Tx) : Prop := ∀ z ∈ t, PyData.strOk z = true
def okO (o : Option Tx) : Prop := ∀ t, o = some t → okX t
theorem eqv_oxD : ∀ a b : Option Tx, PyData.eqv (oxD a) (oxD b) = decide (a = b)
  | none, none => by rw [oxD, PyData.eqv]; rfl
  | none, some t => by rw [oxD, oxD, txD, PyData.eqv]; rfl
  | some t, none => by rw [oxD, oxD, txD, PyData.eqv]; rfl
  | some s, some t => by
    rw [oxD, oxD, txD, txD, eqv_strs]
    rw [Bool.eq_iff_iff, decide_eq_true_eq, decide_eq_true_eq]
    exact ⟨fun h => by rw [h], fun h => Option.some.inj h⟩
theorem eqvAll_oxD : ∀ xs ys : List (Option Tx), PyData.eqvAll (xs.map oxD) (ys.map oxD) = decide (xs = ys)
  | [], [] => by rw [List.map_nil, PyData.eqvAll]; rfl
  | [], y :: ys => by rw [List.map_nil, List.map_cons, PyData.eqvAll]; rfl
  | x :: xs, [] => by rw [List.map_nil, List.map_cons, PyData.eqvAll]; rfl
  | x :: xs, y :: ys => by
    rw [List.map_cons, List.map_cons, PyData.eqvAll, eqv_oxD, eqvAll_oxD xs ys]
    by_cases e : x = y
    · subst e
      simp
    · simp [e]
theorem eqv_oxL (xs ys : List (Option Tx)) : PyData.eqv (.list (xs.map oxD)) (.list (ys.map oxD)) = decide (xs = ys) := by rw [PyData.eqv, eqvAll_oxD]
theorem any_oxD (xs : List (Option Tx)) (x : Option Tx) : ((xs.map oxD).any fun z => PyData.eqv z (oxD x)) = decide (x ∈ xs) := by
  rw [List.any_map, Bool.eq_iff_iff, List.any_eq_true, decide_eq_true_eq]
  constructor
  · rintro ⟨y, hy, e⟩
    have e : PyData.eqv (oxD y) (oxD x) = true := e
    rw [eqv_oxD] at e
    rw [← of_decide_eq_true e]
    exact hy
  · intro h
    refine ⟨x, h, ?_⟩
    show PyData.eqv (oxD x) (oxD x) = true
    rw [eqv_oxD]
    exact decide_eq_true rfl
theorem sh_oxD {o : Option Tx} (h : okO o) : Sh 1 (oxD o) := by
  cases o with
  | none => exact Sh.non
  | some t => exact Sh.strs (h t rfl)
theorem shL_oxD {xs : List (Option Tx)} (h : ∀ o ∈ xs, okO o) : Sh 2 (.list (xs.map oxD)) := Sh.list fun d hd => by
  obtain ⟨o, ho, rfl⟩ := List.mem_map.mp hd
  exact sh_oxD (h o ho)
theorem okO_some {t : Tx} (h : okX t) : okO (some t) := fun _ e => by
  injection e with e
  rw [← e]
  exact h
theorem okO_none : okO none := fun _ e => by cases e
/-! ### the chosen one -/
def oth (base : Option Tx) (vs : List (Option Tx)) : List (Option Tx) := vs.foldl (fun acc v => if v = base then acc else if v ∈ acc then acc else acc ++ [v]) []
def cho (base : Option Tx) (vs : List (Option Tx)) : Option Tx := if (oth base vs).length = 1 then (oth base vs).headD base else base
theorem oth_step {base : Option Tx} {vs : List (Option Tx)} {i : Nat} {v : Option Tx} (h : vs[i]? = some v) : oth base (vs.take (i + 1)) = if v = base then oth base (vs.take i) else if v ∈ oth base (vs.take i) then oth base (vs.take i) else oth base (vs.take i) ++ [v] := take_foldl h
theorem oth_inv (base : Option Tx) : ∀ (vs acc : List (Option Tx)), acc.Nodup → (vs.foldl (fun acc v => if v = base then acc else if v ∈ acc then acc else acc ++ [v]) acc).Nodup ∧ ∀ v, v ∈ vs.foldl (fun acc v => if v = base then acc else if v ∈ acc then acc else acc ++ [v]) acc ↔ v ∈ acc ∨ (v ∈ vs ∧ v ≠ base)
  | [], acc, n => ⟨n, fun v => by simp⟩
  | x :: vs, acc, n => by
    rw [List.foldl_cons]
    by_cases e : x = base
    · rw [if_pos e]
      obtain ⟨h1, h2⟩ := oth_inv base vs acc n
      refine ⟨h1, fun v => ?_⟩
      rw [h2, List.mem_cons]
      refine or_congr Iff.rfl ⟨fun h => ⟨.inr h.1, h.2⟩, fun h => ?_⟩
      rcases h.1 with h' | h'
      · exact (h.2 (h'.trans e)).elim
      · exact ⟨h', h.2⟩
    · rw [if_neg e]
      by_cases m : x ∈ acc
      · rw [if_pos m]
        obtain ⟨h1, h2⟩ := oth_inv base vs acc n
        refine ⟨h1, fun v => ?_⟩
        rw [h2, List.mem_cons]
        constructor
        · rintro (h | h)
          · exact .inl h
          · exact .inr ⟨.inr h.1, h.2⟩
        · rintro (h | ⟨h | h, k⟩)
          · exact .inl h
          · exact .inl (h ▸ m)
          · exact .inr ⟨h, k⟩
      · rw [if_neg m]
        have n' : (acc ++ [x]).Nodup := by
          rw [List.nodup_append]
          refine ⟨n, by simp, fun a ha b hb e => m ?_⟩
          rw [List.mem_singleton.mp hb] at e
          exact e ▸ ha
        obtain ⟨h1, h2⟩ := oth_inv base vs (acc ++ [x]) n'
        refine ⟨h1, fun v => ?_⟩
        rw [h2, List.mem_append, List.mem_singleton, List.mem_cons]
        constructor
        · rintro ((h | h) | h)
          · exact .inl h
          · subst h
            exact .inr ⟨.inl rfl, e⟩
          · exact .inr ⟨.inr h.1, h.2⟩
        · rintro (h | ⟨h | h, k⟩)
          · exact .inl (.inl h)
          · exact .inl (.inr h)
          · exact .inr ⟨h, k⟩
theorem oth_nd (base : Option Tx) (vs : List (Option Tx)) : (oth base vs).Nodup := (oth_inv base vs [] .nil).1
theorem oth_mem {base : Option Tx} {vs : List (Option Tx)} {v : Option Tx} : v ∈ oth base vs ↔ v ∈ vs ∧ v ≠ base := by
  have := (oth_inv base vs [] .nil).2 v
  rw [show oth base vs = vs.foldl (fun acc v => if v = base then acc else if v ∈ acc then acc else acc ++ [v]) [] from rfl, this]
  simp
theorem oth_len (base : Option Tx) (vs : List (Option Tx)) : (oth base vs).length ≤ vs.length := by
  have : ∀ (ws acc : List (Option Tx)), (ws.foldl (fun acc v => if v = base then acc else if v ∈ acc then acc else acc ++ [v]) acc).length ≤ acc.length + ws.length := by
    intro ws
    induction ws with
    | nil => intro acc; exact Nat.le_refl _
    | cons x ws ih =>
      intro acc
      rw [List.foldl_cons, List.length_cons]
      split
      · have := ih acc; omega
      · split
        · have := ih acc; omega
        · have := ih (acc ++ [x])
          rw [List.length_append, List.length_singleton] at this
          omega
  have h := this vs []
  rw [List.length_nil, Nat.zero_add] at h
  exact h
theorem cho_congr {base : Option Tx} {vs ws : List (Option Tx)} (h : ∀ v, v ≠ base → (v ∈ vs ↔ v ∈ ws)) : cho base vs = cho base ws := by
  have m : ∀ v, v ∈ oth base vs ↔ v ∈ oth base ws := fun v => by
    rw [oth_mem, oth_mem]
    exact ⟨fun k => ⟨(h v k.2).mp k.1, k.2⟩, fun k => ⟨(h v k.2).mpr k.1, k.2⟩⟩
  have pm : (oth base vs).Perm (oth base ws) := (List.perm_ext_iff_of_nodup (oth_nd _ _) (oth_nd _ _)).mpr m
  have l := pm.length_eq
  unfold cho
  rw [l]
  by_cases e : (oth base ws).length = 1
  · rw [if_pos e, if_pos e]
    obtain ⟨a, ea⟩ := List.length_eq_one_iff.mp e
    obtain ⟨b, eb⟩ := List.length_eq_one_iff.mp (l.trans e)
    rw [ea, eb] at pm ⊢
    rw [List.perm_singleton.mp pm]
  · rw [if_neg e, if_neg e]
theorem cho_nil (base : Option Tx) : cho base [] = base := rfl
theorem cho_mem {base : Option Tx} {vs : List (Option Tx)} : cho base vs = base ∨ cho base vs ∈ vs := by
  unfold cho
  by_cases e : (oth base vs).length = 1
  · rw [if_pos e]
    obtain ⟨a, ea⟩ := List.length_eq_one_iff.mp e
    have : a ∈ oth base vs := by rw [ea]; exact List.mem_singleton.mpr rfl
    rw [ea]
    exact .inr (oth_mem.mp this).1
  · rw [if_neg e]
    exact .inl rfl
/-- none, or a new list -/
def Fr (H H' : Hp) (v : V) (o : Option Tx) : Prop := (v = .non ∧ o = none) ∨ ∃ p t, v = .ref p ∧ o = some t ∧ H p = none ∧ H' p = some (.lst (t.map V.str))
theorem Dq.non_inv {H : Hp} {v : V} (h : Dq H v .none) : v = .non := by
  cases h
  rfl
/-! ### trees -/
abbrev Tr := List (Str × Tx)
def kS (z : Str) : Key := Sum.inr z
def getT : Tr → Str → Option Tx
  | [], _ => none
  | p :: r, z => if p.1 = z then some p.2 else getT r z
theorem getT_mem : ∀ {A : Tr} {z : Str} {t : Tx}, getT A z = some t → (z, t) ∈ A
  | [], _, _, h => by cases h
  | p :: r, z, t, h => by
    unfold getT at h
    by_cases e : p.1 = z
    · rw [if_pos e] at h
      injection h with h
      subst e
      subst h
      exact List.mem_cons_self
    · rw [if_neg e] at h
      exact List.mem_cons_of_mem _ (getT_mem h)
theorem getT_of : ∀ {A : Tr} {z : Str} {t : Tx}, (A.map (·.1)).Nodup → (z, t) ∈ A → getT A z = some t
  | [], _, _, _, h => by cases h
  | p :: r, z, t, n, h => by
    rw [List.map_cons] at n
    have n' := List.nodup_cons.mp n
    unfold getT
    rcases List.mem_cons.mp h with e | m
    · subst e
      rw [if_pos rfl]
    · rw [if_neg (fun e => n'.1 ?_)]
      · exact getT_of n'.2 m
      · rw [e]
        exact List.mem_map.mpr ⟨_, m, rfl⟩
theorem getT_none : ∀ {A : Tr} {z : Str}, getT A z = none ↔ z ∉ A.map (·.1)
  | [], _ => by simp [getT]
  | p :: r, z => by
    unfold getT
    rw [List.map_cons, List.mem_cons]
    by_cases e : p.1 = z
    · rw [if_pos e]
      simp [e]
    · rw [if_neg e, getT_none]
      constructor
      · rintro h (k | k)
        · exact e k.symm
        · exact h k
      · exact fun h k => h (.inr k)
/-- a dict of lists, locked or not -/
def RT (H : Hp) (d : Addr) (A : Tr) : Prop := ∃ kvs : List (Key × V), Rd H d (.dK kvs) ∧ kvs.map (·.1) = A.map (fun p => kS p.1) ∧ (A.map (·.1)).Nodup ∧ DqAll H (kvs.map (·.2)) (A.map fun p => txD p.2)
def TrAt (H : Hp) (d : Addr) (A : Tr) : Prop := ∃ kvs : List (Key × V), H d = some (.dK kvs) ∧ kvs.map (·.1) = A.map (fun p => kS p.1) ∧ (A.map (·.1)).Nodup ∧ DqAll H (kvs.map (·.2)) (A.map fun p => txD p.2)
theorem TrAt.rt {H : Hp} {d : Addr} {A : Tr} (h : TrAt H d A) : RT H d A := by
  obtain ⟨kvs, e, r⟩ := h
  exact ⟨kvs, .inl e, r⟩
theorem TrAt.up {H H' : Hp} {d : Addr} {A : Tr} (h : TrAt H d A) (s : Same H H') : TrAt H' d A := by
  obtain ⟨kvs, e, k, n, q⟩ := h
  exact ⟨kvs, s _ _ e, k, n, q.up s _ _⟩
theorem RT.up {H H' : Hp} {d : Addr} {A : Tr} (h : RT H d A) (s : Same H H') : RT H' d A := by
  obtain ⟨kvs, e, k, n, q⟩ := h
  refine ⟨kvs, ?_, k, n, q.up s _ _⟩
  rcases e with e | ⟨o, e⟩
  · exact .inl (s _ _ e)
  · exact .inr ⟨o, s _ _ e⟩
theorem RT.lock {H : Hp} {d e : Addr} {od : Obj} {ks : List (Key × V)} {A : Tr} (he : H e = some (.dK ks)) (h : RT H d A) : RT (upd H e (.frz od (.dK ks))) d A := by
  obtain ⟨kvs, r, k, n, q⟩ := h
  refine ⟨kvs, ?_, k, n, q.lockK he⟩
  by_cases c : d = e
  · subst c
    rcases r with r | ⟨o, r⟩
    · rw [he] at r
      injection r with r
      injection r with r
      subst r
      exact .inr ⟨od, upd_same⟩
    · rw [he] at r
      cases r
  · rcases r with r | ⟨o, r⟩
    · exact .inl (by rw [upd_ne c]; exact r)
    · exact .inr ⟨o, by rw [upd_ne c]; exact r⟩
theorem tr_get {H : Hp} : ∀ {kvs : List (Key × V)} {A : Tr} (z : Str), kvs.map (·.1) = A.map (fun p => kS p.1) → DqAll H (kvs.map (·.2)) (A.map fun p => txD p.2) → Dq H ((valV kvs (.inr z)).getD .non) (oxD (getT A z)) ∧ (valV kvs (.inr z)).isSome = (getT A z).isSome
  | [], [], z, _, _ => ⟨.non, rfl⟩
  | [], _ :: _, _, e, _ => by cases e
  | _ :: _, [], _, e, _ => by cases e
  | kv :: kvs, p :: A, z, e, q => by
    rw [List.map_cons, List.map_cons] at e
    injection e with e1 e2
    rw [List.map_cons, List.map_cons] at q
    cases q with
    | cons q1 q2 =>
    unfold getT
    by_cases c : p.1 = z
    · rw [if_pos c, valV_pos (by rw [e1, c]; rfl)]
      exact ⟨q1, rfl⟩
    · rw [if_neg c, valV_neg (fun h => c (by rw [e1] at h; exact Sum.inr.inj h))]
      exact tr_get z e2 q2
theorem tr_at {H : Hp} {kvs : List (Key × V)} {A : Tr} {z : Str} {t : Tx} (k : kvs.map (·.1) = A.map (fun p => kS p.1)) (q : DqAll H (kvs.map (·.2)) (A.map fun p => txD p.2)) (e : getT A z = some t) : ∃ l, valV kvs (.inr z) = some (.ref l) ∧ H l = some (.lst (t.map V.str)) := by
  obtain ⟨h1, h2⟩ := tr_get z k q
  rw [e] at h1 h2
  cases c : valV kvs (.inr z) with
  | none => rw [c] at h2; cases h2
  | some v =>
    rw [c] at h1
    obtain ⟨l, rfl, hl⟩ := Dq.of_strs (xs := t) h1
    exact ⟨l, rfl, hl⟩
theorem tr_len {kvs : List (Key × V)} {A : Tr} (k : kvs.map (·.1) = A.map (fun p => kS p.1)) : kvs.length = A.length := by
  have := congrArg List.length k
  rw [List.length_map, List.length_map] at this
  exact this
theorem tr_key {kvs : List (Key × V)} {A : Tr} (k : kvs.map (·.1) = A.map (fun p => kS p.1)) {i : Nat} {x : Key} {v : V} (e : kvs[i]? = some (x, v)) : ∃ p, A[i]? = some p ∧ x = .inr p.1 := by
  have e2 : (kvs.map (·.1))[i]? = some x := by rw [List.getElem?_map, e]; rfl
  rw [k, List.getElem?_map] at e2
  obtain ⟨p, ep, e3⟩ := Option.map_eq_some_iff.mp e2
  exact ⟨p, ep, e3.symm⟩
theorem tr_keys {kvs : List (Key × V)} {A : Tr} (k : kvs.map (·.1) = A.map (fun p => kS p.1)) : (kvs.map fun kv => kV kv.1) = (A.map (·.1)).map V.str := by
  have := congrArg (List.map kV) k
  rw [List.map_map, List.map_map] at this
  rw [List.map_map]
  exact this
/-! ### a tree just made: its own lists -/
abbrev Bt := List (Str × Addr × Tx)
def bK (B : Bt) : List (Key × V) := B.map fun b => (kS b.1, V.ref b.2.1)
def bO (B : Bt) : Own := B.map fun b => (b.2.1, HO.lst (b.2.2.map V.str))
def bA (B : Bt) : Tr := B.map fun b => (b.1, b.2.2)
theorem bA_keys (B : Bt) : (bA B).map (·.1) = B.map (·.1) := by
  unfold bA
  rw [List.map_map]
  rfl
theorem bK_keys (B : Bt) : (bK B).map (·.1) = (bA B).map (fun p => kS p.1) := by
  unfold bK bA
  rw [List.map_map, List.map_map]
  rfl
theorem bK_none {B : Bt} {z : Str} (h : z ∉ B.map (·.1)) : valV (bK B) (.inr z) = none := by
  have : ∀ C : Bt, z ∉ C.map (·.1) → valV (bK C) (.inr z) = none := by
    intro C
    induction C with
    | nil => intro _; rfl
    | cons b C ih =>
      intro n
      rw [List.map_cons, List.mem_cons] at n
      show valV ((kS b.1, V.ref b.2.1) :: bK C) (.inr z) = none
      rw [valV_neg (fun e => n (.inl (Sum.inr.inj e).symm))]
      exact ih fun m => n (.inr m)
  exact this B h
theorem bK_snoc (B : Bt) (z : Str) (p : Addr) (t : Tx) : bK (B ++ [(z, p, t)]) = bK B ++ [(kS z, V.ref p)] := by
  unfold bK
  rw [List.map_append]
  rfl
theorem bO_snoc (B : Bt) (z : Str) (p : Addr) (t : Tx) : bO (B ++ [(z, p, t)]) = bO B ++ [(p, HO.lst (t.map V.str))] := by
  unfold bO
  rw [List.map_append]
  rfl
theorem bA_snoc (B : Bt) (z : Str) (p : Addr) (t : Tx) : bA (B ++ [(z, p, t)]) = bA B ++ [(z, t)] := by
  unfold bA
  rw [List.map_append]
  rfl
theorem bK_dq {H : Hp} : ∀ {B : Bt}, (∀ b ∈ B, H b.2.1 = some (.lst (b.2.2.map V.str))) → DqAll H ((bK B).map (·.2)) ((bA B).map fun p => txD p.2)
  | [], _ => .nil
  | b :: B, h => .cons (Dq.strs (xs := b.2.2) (h b List.mem_cons_self)) (bK_dq fun c hc => h c (List.mem_cons_of_mem _ hc))
theorem Has.built {F H : Hp} {d : Addr} {B : Bt} {O : Own} (h : Has F ((d, .dK (bK B)) :: (bO B ++ O)) H) (n : (B.map (·.1)).Nodup) : TrAt H d (bA B) :=
  ⟨bK B, h.get List.mem_cons_self, bK_keys B, by rw [bA_keys]; exact n, bK_dq fun b hb => h.get (List.mem_cons_of_mem _ (List.mem_append_left _ (List.mem_map.mpr ⟨b, hb, rfl⟩)))⟩
/-- one more path, not there yet -/
theorem Has.bput {F H : Hp} {d p : Addr} {B : Bt} {O : Own} {z : Str} {t : Tx} (h : Has F ((p, .lst (t.map V.str)) :: (d, .dK (bK B ++ [(kS z, V.ref p)])) :: (bO B ++ O)) H) : Has F ((d, .dK (bK (B ++ [(z, p, t)]))) :: (bO (B ++ [(z, p, t)]) ++ O)) H := by
  refine h.perm ?_
  rw [bK_snoc, bO_snoc, List.append_assoc, List.singleton_append]
  exact List.perm_middle (a := (p, HO.lst (t.map V.str))) (l₁ := (d, HO.dK (bK B ++ [(kS z, V.ref p)])) :: bO B) (l₂ := O)
/-! ### a loop over the keys of a dict that stands still -/
theorem k_forDK {i : Nat} {d : Addr} {kvs : List (Key × V)} {g : TG} {ts : TS} {D : Ends} {σ : L2.St} {F H : Hp} {O : Own} (hv : σ[i]? = some (some (.ref d))) (fd : F d = some (.dK kvs)) (hH : Has F O H) (S : Nat → L2.St → Own → Prop) (h0 : S 0 σ O)
    (hs : ∀ t k v σ O H od, kvs[t]? = some (k, v) → S t σ O → Has (upd F d (.frz od (.dK kvs))) O H → g (kV k) σ H fun σ2 H2 => ts { lockD d od (.dK kvs) D with nx := fun σ' H' => ∃ O', S (t + 1) σ' O' ∧ Has (upd F d (.frz od (.dK kvs))) O' H', ct := fun σ' H' => ∃ O', S (t + 1) σ' O' ∧ Has (upd F d (.frz od (.dK kvs))) O' H', bk := (lockD d od (.dK kvs) D).nx } σ2 H2)
    (hd : ∀ σ O H, S kvs.length σ O → Has F O H → D.nx σ H) : tLock (tFor (iKeys (tVar i)) g ts) D σ H := by
  refine g_lockK hv (hH.same _ _ fd) (fun od => ?_)
  refine k_forK (fun t σ H' => ∃ O', S t σ O' ∧ Has (upd F d (.frz od (.dK kvs))) O' H') ⟨O, h0, hH.lock fd⟩ ?_ ?_ ?_
  · rintro t σ H' ⟨O', _, h⟩
    exact h.same _ _ upd_same
  · rintro t k v σ H' e ⟨O', s, h⟩
    exact hs t k v σ O' H' od e s h
  · rintro σ H' ⟨O', s, h⟩
    have e : upd (upd F d (.frz od (.dK kvs))) d (.dK kvs) = F := by
      funext b
      by_cases c : b = d
      · subst c
        rw [upd_same, fd]
      · rw [upd_ne c, upd_ne c]
    have h2 := h.unlock (od := od) (u := .dK kvs) upd_same
    rw [e] at h2
    exact ⟨h.same _ _ upd_same, hd σ O' _ s h2⟩
theorem nd_inj {α : Type} {xs : List α} (nd : xs.Nodup) {i j : Nat} {z : α} (h1 : xs[i]? = some z) (h2 : xs[j]? = some z) : i = j := by
  obtain ⟨l1, e1⟩ := List.getElem?_eq_some_iff.mp h1
  obtain ⟨l2, e2⟩ := List.getElem?_eq_some_iff.mp h2
  have pw := List.pairwise_iff_getElem.mp nd
  rcases Nat.lt_trichotomy i j with c | c | c
  · exact (pw i j l1 l2 c (by rw [e1, e2])).elim
  · exact c
  · exact (pw j i l2 l1 c (by rw [e1, e2])).elim
theorem nd_new {α : Type} {xs : List α} (nd : xs.Nodup) {t : Nat} {z : α} (e : xs[t]? = some z) : z ∉ xs.take t := fun m => by
  obtain ⟨j, hj⟩ := List.mem_iff_getElem?.mp m
  have lj := (List.getElem?_eq_some_iff.mp hj).1
  rw [List.length_take] at lj
  rw [List.getElem?_take_of_lt (by omega)] at hj
  have := nd_inj nd hj e
  omega
theorem Has.b0 {F H : Hp} {d : Addr} {O : Own} (h : Has F ((d, .dK []) :: O) H) : Has F ((d, .dK (bK [])) :: (bO [] ++ O)) H := h
/-- what came out stands still from now on -/
theorem Has.fr {F H H' : Hp} {O : Own} {v : V} {o : Option Tx} (h : Has F O H) (s : Same H H') (f : Fr H H' v o) : ∃ F', Same F F' ∧ Has F' O H' ∧ Dq F' v (oxD o) := by
  rcases f with ⟨rfl, rfl⟩ | ⟨p, t, rfl, rfl, n, e⟩
  · exact ⟨F, Same.refl _, h.on s, .non⟩
  · have h2 := h.made n s e
    exact ⟨_, h2.grow, h2.frz, Dq.strs (xs := t) upd_same⟩
theorem oxL_take {H : Hp} {acc : List V} {xs : List (Option Tx)} {i : Nat} {o : Option Tx} {v : V} (h : DqAll H acc ((xs.take i).map oxD)) (e : xs[i]? = some o) (d : Dq H v (oxD o)) : DqAll H (acc ++ [v]) ((xs.take (i + 1)).map oxD) := by
  rw [List.take_add_one, e, List.map_append]
  exact h.snoc d
/-- texts of a bounded length -/
def lnO (o : Option Tx) : Prop := ∀ t, o = some t → t.length ≤ 1000
theorem cho_all {Pr : Option Tx → Prop} {b : Option Tx} {ts : List (Option Tx)} (hb : Pr b) (ht : ∀ o ∈ ts, Pr o) : Pr (cho b ts) := by
  rcases cho_mem (base := b) (vs := ts) with e | m
  · rw [e]; exact hb
  · exact ht _ m
/-! ### lists of trees -/
inductive Trs (H : Hp) : List Addr → List Tr → Prop
  | nil : Trs H [] []
  | cons {d : Addr} {A : Tr} {ds : List Addr} {As : List Tr} : TrAt H d A → Trs H ds As → Trs H (d :: ds) (A :: As)
theorem Trs.len {H : Hp} : ∀ {ds : List Addr} {As : List Tr}, Trs H ds As → ds.length = As.length
  | _, _, .nil => rfl
  | _, _, .cons _ t => by rw [List.length_cons, List.length_cons, t.len]
theorem Trs.up {H H' : Hp} (s : Same H H') : ∀ {ds : List Addr} {As : List Tr}, Trs H ds As → Trs H' ds As
  | _, _, .nil => .nil
  | _, _, .cons h t => .cons (h.up s) (t.up s)
theorem Trs.get {H : Hp} : ∀ {ds : List Addr} {As : List Tr} {i : Nat} {d : Addr}, Trs H ds As → ds[i]? = some d → ∃ A, As[i]? = some A ∧ TrAt H d A
  | _, _, _, _, .nil, e => by simp at e
  | _, _, 0, _, .cons h _, e => by
    have e := Option.some.inj e
    subst e
    exact ⟨_, rfl, h⟩
  | _, _, i + 1, _, .cons _ t, e => t.get (i := i) e
theorem Trs.app {H : Hp} : ∀ {ds es : List Addr} {As Bs : List Tr}, Trs H ds As → Trs H es Bs → Trs H (ds ++ es) (As ++ Bs)
  | _, _, _, _, .nil, h => h
  | _, _, _, _, .cons h t, h' => .cons h (t.app h')
theorem Trs.rev {H : Hp} : ∀ {ds : List Addr} {As : List Tr}, Trs H ds As → Trs H ds.reverse As.reverse
  | _, _, .nil => .nil
  | _, _, .cons h t => by
    rw [List.reverse_cons, List.reverse_cons]
    exact t.rev.app (.cons h .nil)
theorem Trs.snoc {H : Hp} {ds : List Addr} {As : List Tr} {d : Addr} {A : Tr} (h : Trs H ds As) (t : TrAt H d A) : Trs H (ds ++ [d]) (As ++ [A]) := h.app (.cons t .nil)
/-- the entries of the dict at d -/
def kvOf (H : Hp) (d : Addr) : List (Key × V) := match H d with
  | some (.dK kvs) => kvs
  | _ => []
theorem kvOf_at {H : Hp} {d : Addr} {kvs : List (Key × V)} (h : H d = some (.dK kvs)) : kvOf H d = kvs := by
  unfold kvOf
  rw [h]
theorem Trs.at_ {H : Hp} : ∀ {ds : List Addr} {As : List Tr}, Trs H ds As → ∀ d ∈ ds, H d = some (.dK (kvOf H d))
  | _, _, .nil, _, h => by cases h
  | _, _, .cons h t, d, m => by
    rcases List.mem_cons.mp m with rfl | m
    · obtain ⟨kvs, e, _⟩ := h
      rw [kvOf_at e]
      exact e
    · exact t.at_ d m
theorem TrAt.keys {H : Hp} {d : Addr} {A : Tr} (h : TrAt H d A) {k : Key} : (∃ v, (k, v) ∈ kvOf H d) ↔ ∃ z, k = Sum.inr z ∧ z ∈ A.map (·.1) := by
  obtain ⟨kvs, e, ek, _, _⟩ := h
  rw [kvOf_at e]
  constructor
  · rintro ⟨v, m⟩
    have m2 : k ∈ kvs.map (·.1) := List.mem_map.mpr ⟨_, m, rfl⟩
    rw [ek] at m2
    obtain ⟨p, hp, e2⟩ := List.mem_map.mp m2
    exact ⟨p.1, e2.symm, List.mem_map.mpr ⟨p, hp, rfl⟩⟩
  · rintro ⟨z, rfl, m⟩
    obtain ⟨p, hp, rfl⟩ := List.mem_map.mp m
    have m2 : (Sum.inr p.1 : Key) ∈ kvs.map (·.1) := by
      rw [ek]
      exact List.mem_map.mpr ⟨p, hp, rfl⟩
    obtain ⟨q, hq, e2⟩ := List.mem_map.mp m2
    exact ⟨q.2, by rw [← e2]; exact hq⟩
theorem TrAt.klen {H : Hp} {d : Addr} {A : Tr} (h : TrAt H d A) : (kvOf H d).length = A.length := by
  obtain ⟨kvs, e, ek, _, _⟩ := h
  rw [kvOf_at e]
  exact tr_len ek
theorem Trs.keys {H : Hp} : ∀ {ds : List Addr} {As : List Tr}, Trs H ds As → ∀ {k : Key}, (∃ d ∈ ds, ∃ v, (k, v) ∈ kvOf H d) ↔ ∃ z, k = Sum.inr z ∧ ∃ A ∈ As, z ∈ A.map (·.1)
  | _, _, .nil, k => by simp
  | _, _, .cons h t, k => by
    constructor
    · rintro ⟨d, hd, hv⟩
      rcases List.mem_cons.mp hd with rfl | hd
      · obtain ⟨z, e, m⟩ := h.keys.mp hv
        exact ⟨z, e, _, List.mem_cons_self, m⟩
      · obtain ⟨z, e, A, hA, m⟩ := t.keys.mp ⟨d, hd, hv⟩
        exact ⟨z, e, A, List.mem_cons_of_mem _ hA, m⟩
    · rintro ⟨z, e, A, hA, m⟩
      rcases List.mem_cons.mp hA with rfl | hA
      · exact ⟨_, List.mem_cons_self, h.keys.mpr ⟨z, e, m⟩⟩
      · obtain ⟨d, hd, hv⟩ := t.keys.mpr ⟨z, e, A, hA, m⟩
        exact ⟨d, List.mem_cons_of_mem _ hd, hv⟩
theorem Trs.sum {H : Hp} {m : Nat} : ∀ {ds : List Addr} {As : List Tr}, Trs H ds As → (∀ A ∈ As, A.length ≤ m) → sumL (kvOf H) ds ≤ m * As.length
  | _, _, .nil, _ => Nat.zero_le _
  | _, _, .cons (A := A) (As := As) h t, l => by
    have h1 := t.sum fun A hA => l A (List.mem_cons_of_mem _ hA)
    have h2 := h.klen
    have h3 := l A List.mem_cons_self
    show _ + sumL _ _ ≤ _
    rw [List.length_cons, Nat.mul_succ]
    omega
theorem getT_in {A : Tr} {z : Str} {Pr : Option Tx → Prop} (h0 : Pr none) (h : ∀ p ∈ A, Pr (some p.2)) : Pr (getT A z) := by
  cases e : getT A z with
  | none => exact h0
  | some t => exact h _ (getT_mem e)
/-! ### what a call has made -/
theorem Has.join {F H H' : Hp} {O N : Own} (h : Has F O H) (n : Has H N H') : ∃ F', Same F F' ∧ Has F' O H' ∧ ∀ p ∈ N, F' p.1 = some p.2 := by
  refine ⟨fun b => if b ∈ N.map (·.1) then H' b else F b, fun b u e => ?_, ⟨fun b u e => ?_, fun p hp => ⟨?_, ?_⟩, h.nd⟩, fun p hp => ?_⟩
  · have ne : b ∉ N.map (·.1) := fun m => by
      obtain ⟨p, hp, rfl⟩ := List.mem_map.mp m
      have := (n.own p hp).1
      rw [h.same _ _ e] at this
      cases this
    show (if b ∈ N.map (·.1) then H' b else F b) = some u
    rw [if_neg ne]
    exact e
  · have e : (if b ∈ N.map (·.1) then H' b else F b) = some u := e
    split at e
    · exact e
    · exact n.same _ _ (h.same _ _ e)
  · have ne : p.1 ∉ N.map (·.1) := fun m => by
      obtain ⟨q, hq, e⟩ := List.mem_map.mp m
      have := (n.own q hq).1
      rw [e, (h.own p hp).2] at this
      cases this
    show (if p.1 ∈ N.map (·.1) then H' p.1 else F p.1) = none
    rw [if_neg ne]
    exact (h.own p hp).1
  · exact n.same _ _ (h.own p hp).2
  · show (if p.1 ∈ N.map (·.1) then H' p.1 else F p.1) = some p.2
    rw [if_pos (List.mem_map.mpr ⟨p, hp, rfl⟩)]
    exact (n.own p hp).2
theorem Has.plus {F H H' : Hp} {O N : Own} (h : Has F O H) (n : Has H N H') : Has F (N ++ O) H' := by
  refine ⟨h.same.trans n.same, fun p hp => ?_, ?_⟩
  · rcases List.mem_append.mp hp with m | m
    · exact ⟨h.same.free (n.own p m).1, (n.own p m).2⟩
    · exact ⟨(h.own p m).1, n.same _ _ (h.own p m).2⟩
  · rw [List.map_append, List.nodup_append]
    refine ⟨n.nd, h.nd, fun a ha b hb e => ?_⟩
    subst e
    obtain ⟨p, hp, rfl⟩ := List.mem_map.mp ha
    obtain ⟨q, hq, e⟩ := List.mem_map.mp hb
    have := (n.own p hp).1
    rw [← e, (h.own q hq).2] at this
    cases this
theorem tr_own {F : Hp} {d : Addr} {B : Bt} (h : ∀ p ∈ (d, HO.dK (bK B)) :: bO B, F p.1 = some p.2) (n : (B.map (·.1)).Nodup) : TrAt F d (bA B) :=
  ⟨bK B, h _ List.mem_cons_self, bK_keys B, by rw [bA_keys]; exact n, bK_dq fun b hb => h _ (List.mem_cons_of_mem _ (List.mem_map.mpr ⟨b, hb, rfl⟩))⟩
/-- a path laid anew -/
theorem bK_put {b : Str × Addr × Tx} {p : Addr} {x : Tx} : ∀ {B : Bt} {j : Nat}, (B.map (·.1)).Nodup → B[j]? = some b → (bK B).map (fun kv => if kv.1 = kS b.1 then (kv.1, V.ref p) else kv) = bK (B.set j (b.1, p, x))
  | [], j, _, h => by simp at h
  | c :: B, 0, n, h => by
    have e : c = b := Option.some.inj h
    subst e
    rw [List.map_cons] at n
    have n' := List.nodup_cons.mp n
    show (if kS c.1 = kS c.1 then (kS c.1, V.ref p) else _) :: (bK B).map _ = (kS c.1, V.ref p) :: bK B
    rw [if_pos rfl]
    congr 1
    have : ∀ kv ∈ bK B, (if kv.1 = kS c.1 then (kv.1, V.ref p) else kv) = kv := fun kv hkv => by
      obtain ⟨r, hr, rfl⟩ := List.mem_map.mp hkv
      rw [if_neg]
      intro e
      refine n'.1 ?_
      rw [← show r.1 = c.1 from Sum.inr.inj e]
      exact List.mem_map.mpr ⟨r, hr, rfl⟩
    rw [List.map_congr_left this, List.map_id']
  | c :: B, j + 1, n, h => by
    rw [List.map_cons] at n
    have n' := List.nodup_cons.mp n
    have ih := bK_put (p := p) (x := x) n'.2 (j := j) h
    show (if kS c.1 = kS b.1 then (kS c.1, V.ref p) else (kS c.1, V.ref c.2.1)) :: (bK B).map _ = (kS c.1, V.ref c.2.1) :: bK (B.set j _)
    rw [ih, if_neg]
    intro e
    refine n'.1 ?_
    rw [show c.1 = b.1 from Sum.inr.inj e]
    exact List.mem_map.mpr ⟨b, List.mem_of_getElem? h, rfl⟩
theorem putK_rep {b : Str × Addr × Tx} {p : Addr} {x : Tx} {B : Bt} {j : Nat} (n : (B.map (·.1)).Nodup) (h : B[j]? = some b) : putK (bK B) (kS b.1) (V.ref p) = bK (B.set j (b.1, p, x)) := by
  have a : ((bK B).any fun kv => decide (kv.1 = kS b.1)) = true := List.any_eq_true.mpr ⟨(kS b.1, V.ref b.2.1), List.mem_map.mpr ⟨b, List.mem_of_getElem? h, rfl⟩, decide_eq_true rfl⟩
  unfold putK
  rw [if_pos a]
  exact bK_put n h
theorem Has.brep {F H : Hp} {d p : Addr} {B : Bt} {O : Own} {j : Nat} {b : Str × Addr × Tx} {x : Tx} {u : HO} (e : B[j]? = some b) (h : Has F ((p, .lst (x.map V.str)) :: (d, u) :: (bO B ++ O)) H) : Has F ((d, u) :: (bO (B.set j (b.1, p, x)) ++ O)) H := by
  obtain ⟨l, eb⟩ := List.getElem?_eq_some_iff.mp e
  have e1 : B = B.take j ++ b :: B.drop (j + 1) := by
    rw [← eb, ← List.drop_eq_getElem_cons l, List.take_append_drop]
  have e2 : B.set j (b.1, p, x) = B.take j ++ (b.1, p, x) :: B.drop (j + 1) := List.set_eq_take_append_cons_drop.trans (if_pos l)
  rw [e2]
  rw [e1] at h
  have o : ∀ (c : Str × Addr × Tx), bO (B.take j ++ c :: B.drop (j + 1)) ++ O = bO (B.take j) ++ (c.2.1, HO.lst (c.2.2.map V.str)) :: (bO (B.drop (j + 1)) ++ O) := fun c => by
    unfold bO
    rw [List.map_append, List.map_cons, List.append_assoc, List.cons_append]
  rw [o] at h ⊢
  have h2 : Has F ((p, .lst (x.map V.str)) :: (d, u) :: (bO (B.take j) ++ (bO (B.drop (j + 1)) ++ O))) H := h.sub (List.Sublist.cons_cons _ (List.Sublist.cons_cons _ (List.Sublist.append (List.Sublist.refl _) (List.Sublist.cons _ (List.Sublist.refl _)))))
  exact h2.perm (List.perm_middle (a := (p, HO.lst (x.map V.str))) (l₁ := (d, u) :: bO (B.take j)) (l₂ := bO (B.drop (j + 1)) ++ O))
theorem bA_set {B : Bt} {j : Nat} {b : Str × Addr × Tx} {p : Addr} (e : B[j]? = some b) : bA (B.set j (b.1, p, b.2.2)) = bA B := by
  unfold bA
  rw [List.map_set]
  refine List.ext_getElem? fun i => ?_
  rw [List.getElem?_set]
  split
  · rename_i c
    subst c
    split
    · rw [List.getElem?_map, e]
      rfl
    · rename_i c
      rw [List.length_map] at c
      exact (c (List.getElem?_eq_some_iff.mp e).1).elim
  · rfl
theorem DqAll.tak {H : Hp} : ∀ {vs : List V} {ds : List PyData} (n : Nat), DqAll H vs ds → DqAll H (vs.take n) (ds.take n)
  | _, _, 0, _ => .nil
  | _, _, n + 1, .nil => .nil
  | _, _, n + 1, .cons h t => .cons h (DqAll.tak n t)
theorem DqAll.dro {H : Hp} : ∀ {vs : List V} {ds : List PyData} (n : Nat), DqAll H vs ds → DqAll H (vs.drop n) (ds.drop n)
  | _, _, 0, h => h
  | _, _, n + 1, .nil => .nil
  | _, _, n + 1, .cons _ t => DqAll.dro n t
theorem ox_at {H : Hp} {ws : List V} {os : List (Option Tx)} {i : Nat} {v : V} (h : DqAll H ws (os.map oxD)) (e : ws[i]? = some v) : ∃ o, os[i]? = some o ∧ Dq H v (oxD o) := by
  obtain ⟨d, ed, q⟩ := h.get e
  rw [List.getElem?_map] at ed
  obtain ⟨o, eo, rfl⟩ := Option.map_eq_some_iff.mp ed
  exact ⟨o, eo, q⟩
theorem ox_len {H : Hp} {ws : List V} {os : List (Option Tx)} (h : DqAll H ws (os.map oxD)) : ws.length = os.length := by rw [h.len, List.length_map]
/-! ### what a call has made beside what is owned -/
theorem Has.glue {F F' H H' : Hp} {O N : Own} (h : Has F O H) (s : Same H F') (n : Has F' N H') : Has (rmO O F') (N ++ O) H' ∧ Same F (rmO O F') := by
  have off : ∀ p ∈ O, ∀ q ∈ N, q.1 ≠ p.1 := fun p hp q hq e => by
    have := (n.own q hq).1
    rw [e, s _ _ (h.own p hp).2] at this
    cases this
  refine ⟨⟨fun b u e => ?_, fun p hp => ?_, ?_⟩, fun b u e => ?_⟩
  · unfold rmO at e
    split at e
    · cases e
    · exact n.same _ _ e
  · rcases List.mem_append.mp hp with m | m
    · refine ⟨?_, (n.own p m).2⟩
      unfold rmO
      split
      · rfl
      · exact (n.own p m).1
    · exact ⟨if_pos (List.mem_map.mpr ⟨p, m, rfl⟩), n.same _ _ (s _ _ (h.own p m).2)⟩
  · rw [List.map_append, List.nodup_append]
    refine ⟨n.nd, h.nd, fun a ha b hb e => ?_⟩
    obtain ⟨q, hq, rfl⟩ := List.mem_map.mp ha
    obtain ⟨p, hp, rfl⟩ := List.mem_map.mp hb
    exact off p hp q hq e
  · unfold rmO
    rw [if_neg]
    · exact s _ _ (h.same _ _ e)
    · intro m
      obtain ⟨p, hp, rfl⟩ := List.mem_map.mp m
      rw [(h.own p hp).1] at e
      cases e
/-- a call that changes what is owned ahead -/
theorem Has.swap {F H H' : Hp} {A A' R : Own} (h : Has F (A ++ R) H) (h' : Has (rmO A H) A' H') : Has F (A' ++ R) H' := by
  have nd := h.nd
  rw [List.map_append, List.nodup_append] at nd
  have inA : ∀ b, F b ≠ none → b ∉ A.map (·.1) := fun b e m => by
    obtain ⟨p, hp, rfl⟩ := List.mem_map.mp m
    exact e (h.own p (List.mem_append_left _ hp)).1
  have at_ : ∀ b, b ∉ A.map (·.1) → rmO A H b = H b := fun b n => if_neg n
  have sF : ∀ b u, F b = some u → rmO A H b = some u := fun b u e => by
    rw [at_ b (inA b (by rw [e]; exact fun z => by cases z))]
    exact h.same _ _ e
  have aR : ∀ p ∈ R, rmO A H p.1 = some p.2 := fun p hp => by
    rw [at_ p.1 (fun m => nd.2.2 _ m _ (List.mem_map.mpr ⟨p, hp, rfl⟩) rfl)]
    exact (h.own p (List.mem_append_right _ hp)).2
  refine ⟨fun b u e => h'.same _ _ (sF b u e), fun p hp => ?_, ?_⟩
  · rcases List.mem_append.mp hp with m | m
    · refine ⟨?_, (h'.own p m).2⟩
      cases e : F p.1 with
      | none => rfl
      | some u =>
        have := (h'.own p m).1
        rw [sF _ _ e] at this
        cases this
    · exact ⟨(h.own p (List.mem_append_right _ m)).1, h'.same _ _ (aR p m)⟩
  · rw [List.map_append, List.nodup_append]
    refine ⟨h'.nd, nd.2.1, fun a ha b hb e => ?_⟩
    subst e
    obtain ⟨p, hp, rfl⟩ := List.mem_map.mp ha
    obtain ⟨q, hq, e⟩ := List.mem_map.mp hb
    have := (h'.own p hp).1
    rw [← e, aR q hq] at this
    cases this
def treeO (d : Addr) (B : Bt) : Own := (d, HO.dK (bK B)) :: bO B
def tO (Bs : List (Addr × Bt)) : Own := Bs.flatMap fun q => treeO q.1 q.2
theorem tO_snoc (Bs : List (Addr × Bt)) (q : Addr × Bt) : tO (Bs ++ [q]) = tO Bs ++ treeO q.1 q.2 := by
  unfold tO
  rw [List.flatMap_append]
  simp
theorem tO_at {Bs : List (Addr × Bt)} {q : Addr × Bt} (h : q ∈ Bs) : ∀ p ∈ treeO q.1 q.2, p ∈ tO Bs := fun p hp => List.mem_flatMap.mpr ⟨q, h, hp⟩
theorem tr_in {F H : Hp} {O : Own} {d : Addr} {B : Bt} (h : Has F O H) (m : ∀ p ∈ treeO d B, p ∈ O) (n : (B.map (·.1)).Nodup) : TrAt H d (bA B) := tr_own (fun p hp => h.get (m p hp)) n
abbrev Tre := Tr
theorem Chg.right {O O' A : Own} {a : Addr} {o o' : HO} (c : Chg O a o o' O') : Chg (A ++ O) a o o' (A ++ O') := by
  induction A with
  | nil => exact c
  | cons x A ih => exact .tl ih
end Qk

namespace K09
open PySem PySem.Spec PyProof.Rows L2 Qk
/-! ### the text -/
def topS (i : Nat) : Stmt := PySem.Challenge.pw_partclones_k09_merge_trees.main.body.getD i (.Pass ⟨0, 0, 0, 0⟩)
abbrev s_common_lengths : Stmt := topS 4
abbrev n_common_lengths : List Str := ["old", "new", "lengths", "i", "j", "_"]
theorem sc_common_lengths : FnScope n_common_lengths ["old", "new"] (defScope s_common_lengths) := ⟨rfl, rfl, rfl, by decide +kernel, rfl, by decide +kernel, by decide +kernel⟩
abbrev s_matched : Stmt := topS 5
abbrev n_matched : List Str := ["old", "new", "lengths", "pairs", "i", "j"]
theorem sc_matched : FnScope n_matched ["old", "new"] (defScope s_matched) := ⟨rfl, rfl, rfl, by decide +kernel, rfl, by decide +kernel, by decide +kernel⟩
abbrev s_stable_lines : Stmt := topS 7
abbrev n_stable_lines : List Str := ["base", "ours", "theirs", "places", "i", "j"]
theorem sc_stable_lines : FnScope n_stable_lines ["base", "ours", "theirs"] (defScope s_stable_lines) := ⟨rfl, rfl, rfl, by decide +kernel, rfl, by decide +kernel, by decide +kernel⟩
abbrev s_runs : Stmt := topS 8
abbrev n_runs : List Str := ["base", "ours", "theirs", "runs", "i", "j", "k", "first_i", "first_j", "first_k", "length"]
theorem sc_runs : FnScope n_runs ["base", "ours", "theirs"] (defScope s_runs) := ⟨rfl, rfl, rfl, by decide +kernel, rfl, by decide +kernel, by decide +kernel⟩
abbrev s_text_chunks : Stmt := topS 9
abbrev n_text_chunks : List Str := ["base", "ours", "theirs", "chunks", "i", "j", "k", "end", "next_i", "next_j", "next_k", "length", "b", "x", "y", "lines"]
theorem sc_text_chunks : FnScope n_text_chunks ["base", "ours", "theirs"] (defScope s_text_chunks) := ⟨rfl, rfl, rfl, by decide +kernel, rfl, by decide +kernel, by decide +kernel⟩
abbrev s_clash_lines : Stmt := topS 15
abbrev n_clash_lines : List Str := ["b", "x", "y"]
theorem sc_clash_lines : FnScope n_clash_lines ["b", "x", "y"] (defScope s_clash_lines) := ⟨rfl, rfl, rfl, by decide +kernel, rfl, by decide +kernel, by decide +kernel⟩
abbrev s_merge_texts : Stmt := topS 16
abbrev n_merge_texts : List Str := ["base", "ours", "theirs", "lines", "clashes", "_", "b", "x", "y"]
theorem sc_merge_texts : FnScope n_merge_texts ["base", "ours", "theirs"] (defScope s_merge_texts) := ⟨rfl, rfl, rfl, by decide +kernel, rfl, by decide +kernel, by decide +kernel⟩
abbrev s_merged_path : Stmt := topS 20
abbrev n_merged_path : List Str := ["base", "ours", "theirs", "lines", "clashes"]
theorem sc_merged_path : FnScope n_merged_path ["base", "ours", "theirs"] (defScope s_merged_path) := ⟨rfl, rfl, rfl, by decide +kernel, rfl, by decide +kernel, by decide +kernel⟩
abbrev s_copied : Stmt := topS 21
abbrev n_copied : List Str := ["text"]
theorem sc_copied : FnScope n_copied ["text"] (defScope s_copied) := ⟨rfl, rfl, rfl, by decide +kernel, rfl, by decide +kernel, by decide +kernel⟩
abbrev s_base_lines : Stmt := topS 22
abbrev n_base_lines : List Str := ["base"]
theorem sc_base_lines : FnScope n_base_lines ["base"] (defScope s_base_lines) := ⟨rfl, rfl, rfl, by decide +kernel, rfl, by decide +kernel, by decide +kernel⟩
abbrev s_merge_trees : Stmt := topS 23
abbrev n_merge_trees : List Str := ["base", "ours", "theirs", "paths", "merged", "clashes", "path", "text", "number", "tree"]
theorem sc_merge_trees : FnScope n_merge_trees ["base", "ours", "theirs"] (defScope s_merge_trees) := ⟨rfl, rfl, rfl, by decide +kernel, rfl, by decide +kernel, by decide +kernel⟩
abbrev s_l_feed : Stmt := topS 25
abbrev n_l_feed : List Str := ["script", "cell"]
theorem sc_l_feed : FnScope n_l_feed ["script"] (defScope s_l_feed) := ⟨rfl, rfl, rfl, by decide +kernel, rfl, by decide +kernel, by decide +kernel⟩
abbrev s_l_next : Stmt := topS 26
abbrev n_l_next : List Str := ["cells", "many", "number"]
theorem sc_l_next : FnScope n_l_next ["cells", "many"] (defScope s_l_next) := ⟨rfl, rfl, rfl, by decide +kernel, rfl, by decide +kernel, by decide +kernel⟩
abbrev s_l_same : Stmt := topS 27
abbrev n_l_same : List Str := ["told", "due", "k", "key"]
theorem sc_l_same : FnScope n_l_same ["told", "due"] (defScope s_l_same) := ⟨rfl, rfl, rfl, by decide +kernel, rfl, by decide +kernel, by decide +kernel⟩
abbrev s_l_way : Stmt := topS 28
abbrev n_l_way : List Str := ["place", "paths"]
theorem sc_l_way : FnScope n_l_way ["place"] (defScope s_l_way) := ⟨rfl, rfl, rfl, by decide +kernel, rfl, by decide +kernel, by decide +kernel⟩
abbrev s_l_text : Stmt := topS 29
abbrev n_l_text : List Str := ["place", "texts"]
theorem sc_l_text : FnScope n_l_text ["place"] (defScope s_l_text) := ⟨rfl, rfl, rfl, by decide +kernel, rfl, by decide +kernel, by decide +kernel⟩
abbrev s_l_made : Stmt := topS 30
abbrev n_l_made : List Str := ["paths", "texts", "tree", "k"]
theorem sc_l_made : FnScope n_l_made ["paths", "texts"] (defScope s_l_made) := ⟨rfl, rfl, rfl, by decide +kernel, rfl, by decide +kernel, by decide +kernel⟩
abbrev s_l_copy : Stmt := topS 31
abbrev n_l_copy : List Str := ["tree", "copy", "path"]
theorem sc_l_copy : FnScope n_l_copy ["tree"] (defScope s_l_copy) := ⟨rfl, rfl, rfl, by decide +kernel, rfl, by decide +kernel, by decide +kernel⟩
abbrev s_l_rising : Stmt := topS 32
abbrev n_l_rising : List Str := ["tree", "rising", "path"]
theorem sc_l_rising : FnScope n_l_rising ["tree"] (defScope s_l_rising) := ⟨rfl, rfl, rfl, by decide +kernel, rfl, by decide +kernel, by decide +kernel⟩
abbrev s_l_kept : Stmt := topS 33
abbrev n_l_kept : List Str := ["passed", "tree"]
theorem sc_l_kept : FnScope n_l_kept ["passed", "tree"] (defScope s_l_kept) := ⟨rfl, rfl, rfl, by decide +kernel, rfl, by decide +kernel, by decide +kernel⟩
abbrev s_l_spoil : Stmt := topS 34
abbrev n_l_spoil : List Str := ["tree", "path"]
theorem sc_l_spoil : FnScope n_l_spoil ["tree"] (defScope s_l_spoil) := ⟨rfl, rfl, rfl, by decide +kernel, rfl, by decide +kernel, by decide +kernel⟩
abbrev s_l_ends : Stmt := topS 35
abbrev n_l_ends : List Str := ["old", "new", "ends", "line", "last", "row", "k", "found", "j"]
theorem sc_l_ends : FnScope n_l_ends ["old", "new"] (defScope s_l_ends) := ⟨rfl, rfl, rfl, by decide +kernel, rfl, by decide +kernel, by decide +kernel⟩
abbrev s_l_common : Stmt := topS 36
abbrev n_l_common : List Str := ["ends", "i", "j", "row", "end"]
theorem sc_l_common : FnScope n_l_common ["ends", "i", "j"] (defScope s_l_common) := ⟨rfl, rfl, rfl, by decide +kernel, rfl, by decide +kernel, by decide +kernel⟩
abbrev s_l_walk : Stmt := topS 37
abbrev n_l_walk : List Str := ["old", "new", "ends", "pairs", "i", "j"]
theorem sc_l_walk : FnScope n_l_walk ["old", "new"] (defScope s_l_walk) := ⟨rfl, rfl, rfl, by decide +kernel, rfl, by decide +kernel, by decide +kernel⟩
abbrev s_l_mates : Stmt := topS 38
abbrev n_l_mates : List Str := ["base", "side", "mates", "pair", "line"]
theorem sc_l_mates : FnScope n_l_mates ["base", "side"] (defScope s_l_mates) := ⟨rfl, rfl, rfl, by decide +kernel, rfl, by decide +kernel, by decide +kernel⟩
abbrev s_l_chunks : Stmt := topS 39
abbrev n_l_chunks : List Str := ["base", "ours", "theirs", "one", "two", "stable", "marks", "chunks", "spot", "run", "mark", "part", "left", "right", "i"]
theorem sc_l_chunks : FnScope n_l_chunks ["base", "ours", "theirs"] (defScope s_l_chunks) := ⟨rfl, rfl, rfl, by decide +kernel, rfl, by decide +kernel, by decide +kernel⟩
abbrev s_l_decided : Stmt := topS 40
abbrev n_l_decided : List Str := ["base", "ours", "theirs", "lines"]
theorem sc_l_decided : FnScope n_l_decided ["base", "ours", "theirs"] (defScope s_l_decided) := ⟨rfl, rfl, rfl, by decide +kernel, rfl, by decide +kernel, by decide +kernel⟩
abbrev s_l_text_merge : Stmt := topS 41
abbrev n_l_text_merge : List Str := ["base", "ours", "theirs", "lines", "clashes", "chunk", "done"]
theorem sc_l_text_merge : FnScope n_l_text_merge ["base", "ours", "theirs"] (defScope s_l_text_merge) := ⟨rfl, rfl, rfl, by decide +kernel, rfl, by decide +kernel, by decide +kernel⟩
abbrev s_l_merged : Stmt := topS 42
abbrev n_l_merged : List Str := ["paths", "base", "ours", "theirs", "merged", "clashes", "path", "old", "left", "right", "result", "done"]
theorem sc_l_merged : FnScope n_l_merged ["paths", "base", "ours", "theirs"] (defScope s_l_merged) := ⟨rfl, rfl, rfl, by decide +kernel, rfl, by decide +kernel, by decide +kernel⟩
abbrev s_l_holds : Stmt := topS 43
abbrev n_l_holds : List Str := ["trees", "due", "passed", "told", "k", "again", "j", "tree"]
theorem sc_l_holds : FnScope n_l_holds ["trees", "due"] (defScope s_l_holds) := ⟨rfl, rfl, rfl, by decide +kernel, rfl, by decide +kernel, by decide +kernel⟩
abbrev s_law : Stmt := topS 44
abbrev n_law : List Str := ["script", "cells", "start", "step", "paths", "rows", "trees", "row", "texts", "base", "ours", "theirs", "due", "side", "k", "place"]
theorem sc_law : FnScope n_law ["script"] (defScope s_law) := ⟨rfl, rfl, rfl, by decide +kernel, rfl, by decide +kernel, by decide +kernel⟩
set_option maxHeartbeats 4000000 in
structure Txt (K : PySem.W.Frag) (mg : Str → Option Value) where
  f_common_lengths : Addr
  fd_common_lengths : FuncData
  F_common_lengths : Fun K "_common_lengths" "_common_lengths" s_common_lengths f_common_lengths fd_common_lengths
  g_common_lengths : mg "_common_lengths" = some (.ref f_common_lengths)
  b_common_lengths : Binds K fd_common_lengths ["old", "new"] []
  f_matched : Addr
  fd_matched : FuncData
  F_matched : Fun K "matched" "matched" s_matched f_matched fd_matched
  g_matched : mg "matched" = some (.ref f_matched)
  b_matched : Binds K fd_matched ["old", "new"] []
  f_stable_lines : Addr
  fd_stable_lines : FuncData
  F_stable_lines : Fun K "_stable_lines" "_stable_lines" s_stable_lines f_stable_lines fd_stable_lines
  g_stable_lines : mg "_stable_lines" = some (.ref f_stable_lines)
  b_stable_lines : Binds K fd_stable_lines ["base", "ours", "theirs"] []
  f_runs : Addr
  fd_runs : FuncData
  F_runs : Fun K "_runs" "_runs" s_runs f_runs fd_runs
  g_runs : mg "_runs" = some (.ref f_runs)
  b_runs : Binds K fd_runs ["base", "ours", "theirs"] []
  f_text_chunks : Addr
  fd_text_chunks : FuncData
  F_text_chunks : Fun K "text_chunks" "text_chunks" s_text_chunks f_text_chunks fd_text_chunks
  g_text_chunks : mg "text_chunks" = some (.ref f_text_chunks)
  b_text_chunks : Binds K fd_text_chunks ["base", "ours", "theirs"] []
  f_clash_lines : Addr
  fd_clash_lines : FuncData
  F_clash_lines : Fun K "_clash_lines" "_clash_lines" s_clash_lines f_clash_lines fd_clash_lines
  g_clash_lines : mg "_clash_lines" = some (.ref f_clash_lines)
  b_clash_lines : Binds K fd_clash_lines ["b", "x", "y"] []
  f_merge_texts : Addr
  fd_merge_texts : FuncData
  F_merge_texts : Fun K "merge_texts" "merge_texts" s_merge_texts f_merge_texts fd_merge_texts
  g_merge_texts : mg "merge_texts" = some (.ref f_merge_texts)
  b_merge_texts : Binds K fd_merge_texts ["base", "ours", "theirs"] []
  f_merged_path : Addr
  fd_merged_path : FuncData
  F_merged_path : Fun K "_merged_path" "_merged_path" s_merged_path f_merged_path fd_merged_path
  g_merged_path : mg "_merged_path" = some (.ref f_merged_path)
  b_merged_path : Binds K fd_merged_path ["base", "ours", "theirs"] []
  f_copied : Addr
  fd_copied : FuncData
  F_copied : Fun K "_copied" "_copied" s_copied f_copied fd_copied
  g_copied : mg "_copied" = some (.ref f_copied)
  b_copied : Binds K fd_copied ["text"] []
  f_base_lines : Addr
  fd_base_lines : FuncData
  F_base_lines : Fun K "_base_lines" "_base_lines" s_base_lines f_base_lines fd_base_lines
  g_base_lines : mg "_base_lines" = some (.ref f_base_lines)
  b_base_lines : Binds K fd_base_lines ["base"] []
  f_merge_trees : Addr
  fd_merge_trees : FuncData
  F_merge_trees : Fun K "merge_trees" "merge_trees" s_merge_trees f_merge_trees fd_merge_trees
  g_merge_trees : mg "merge_trees" = some (.ref f_merge_trees)
  b_merge_trees : Binds K fd_merge_trees ["base", "ours", "theirs"] []
  f_l_feed : Addr
  fd_l_feed : FuncData
  F_l_feed : Fun K "_law_feed" "_law_feed" s_l_feed f_l_feed fd_l_feed
  g_l_feed : mg "_law_feed" = some (.ref f_l_feed)
  b_l_feed : Binds K fd_l_feed ["script"] []
  f_l_next : Addr
  fd_l_next : FuncData
  F_l_next : Fun K "_law_next" "_law_next" s_l_next f_l_next fd_l_next
  g_l_next : mg "_law_next" = some (.ref f_l_next)
  b_l_next : Binds K fd_l_next ["cells", "many"] []
  f_l_same : Addr
  fd_l_same : FuncData
  F_l_same : Fun K "_law_same" "_law_same" s_l_same f_l_same fd_l_same
  g_l_same : mg "_law_same" = some (.ref f_l_same)
  b_l_same : Binds K fd_l_same ["told", "due"] []
  f_l_way : Addr
  fd_l_way : FuncData
  F_l_way : Fun K "_law_way" "_law_way" s_l_way f_l_way fd_l_way
  g_l_way : mg "_law_way" = some (.ref f_l_way)
  b_l_way : Binds K fd_l_way ["place"] []
  f_l_text : Addr
  fd_l_text : FuncData
  F_l_text : Fun K "_law_text" "_law_text" s_l_text f_l_text fd_l_text
  g_l_text : mg "_law_text" = some (.ref f_l_text)
  b_l_text : Binds K fd_l_text ["place"] []
  f_l_made : Addr
  fd_l_made : FuncData
  F_l_made : Fun K "_law_made" "_law_made" s_l_made f_l_made fd_l_made
  g_l_made : mg "_law_made" = some (.ref f_l_made)
  b_l_made : Binds K fd_l_made ["paths", "texts"] []
  f_l_copy : Addr
  fd_l_copy : FuncData
  F_l_copy : Fun K "_law_copy" "_law_copy" s_l_copy f_l_copy fd_l_copy
  g_l_copy : mg "_law_copy" = some (.ref f_l_copy)
  b_l_copy : Binds K fd_l_copy ["tree"] []
  f_l_rising : Addr
  fd_l_rising : FuncData
  F_l_rising : Fun K "_law_rising" "_law_rising" s_l_rising f_l_rising fd_l_rising
  g_l_rising : mg "_law_rising" = some (.ref f_l_rising)
  b_l_rising : Binds K fd_l_rising ["tree"] []
  f_l_kept : Addr
  fd_l_kept : FuncData
  F_l_kept : Fun K "_law_kept" "_law_kept" s_l_kept f_l_kept fd_l_kept
  g_l_kept : mg "_law_kept" = some (.ref f_l_kept)
  b_l_kept : Binds K fd_l_kept ["passed", "tree"] []
  f_l_spoil : Addr
  fd_l_spoil : FuncData
  F_l_spoil : Fun K "_law_spoil" "_law_spoil" s_l_spoil f_l_spoil fd_l_spoil
  g_l_spoil : mg "_law_spoil" = some (.ref f_l_spoil)
  b_l_spoil : Binds K fd_l_spoil ["tree"] []
  f_l_ends : Addr
  fd_l_ends : FuncData
  F_l_ends : Fun K "_law_ends" "_law_ends" s_l_ends f_l_ends fd_l_ends
  g_l_ends : mg "_law_ends" = some (.ref f_l_ends)
  b_l_ends : Binds K fd_l_ends ["old", "new"] []
  f_l_common : Addr
  fd_l_common : FuncData
  F_l_common : Fun K "_law_common" "_law_common" s_l_common f_l_common fd_l_common
  g_l_common : mg "_law_common" = some (.ref f_l_common)
  b_l_common : Binds K fd_l_common ["ends", "i", "j"] []
  f_l_walk : Addr
  fd_l_walk : FuncData
  F_l_walk : Fun K "_law_walk" "_law_walk" s_l_walk f_l_walk fd_l_walk
  g_l_walk : mg "_law_walk" = some (.ref f_l_walk)
  b_l_walk : Binds K fd_l_walk ["old", "new"] []
  f_l_mates : Addr
  fd_l_mates : FuncData
  F_l_mates : Fun K "_law_mates" "_law_mates" s_l_mates f_l_mates fd_l_mates
  g_l_mates : mg "_law_mates" = some (.ref f_l_mates)
  b_l_mates : Binds K fd_l_mates ["base", "side"] []
  f_l_chunks : Addr
  fd_l_chunks : FuncData
  F_l_chunks : Fun K "_law_chunks" "_law_chunks" s_l_chunks f_l_chunks fd_l_chunks
  g_l_chunks : mg "_law_chunks" = some (.ref f_l_chunks)
  b_l_chunks : Binds K fd_l_chunks ["base", "ours", "theirs"] []
  f_l_decided : Addr
  fd_l_decided : FuncData
  F_l_decided : Fun K "_law_decided" "_law_decided" s_l_decided f_l_decided fd_l_decided
  g_l_decided : mg "_law_decided" = some (.ref f_l_decided)
  b_l_decided : Binds K fd_l_decided ["base", "ours", "theirs"] []
  f_l_text_merge : Addr
  fd_l_text_merge : FuncData
  F_l_text_merge : Fun K "_law_text_merge" "_law_text_merge" s_l_text_merge f_l_text_merge fd_l_text_merge
  g_l_text_merge : mg "_law_text_merge" = some (.ref f_l_text_merge)
  b_l_text_merge : Binds K fd_l_text_merge ["base", "ours", "theirs"] []
  f_l_merged : Addr
  fd_l_merged : FuncData
  F_l_merged : Fun K "_law_merged" "_law_merged" s_l_merged f_l_merged fd_l_merged
  g_l_merged : mg "_law_merged" = some (.ref f_l_merged)
  b_l_merged : Binds K fd_l_merged ["paths", "base", "ours", "theirs"] []
  f_l_holds : Addr
  fd_l_holds : FuncData
  F_l_holds : Fun K "_law_holds" "_law_holds" s_l_holds f_l_holds fd_l_holds
  g_l_holds : mg "_law_holds" = some (.ref f_l_holds)
  b_l_holds : Binds K fd_l_holds ["trees", "due"] []
  f_law : Addr
  fd_law : FuncData
  F_law : Fun K "law" "law" s_law f_law fd_law
  g_law : mg "law" = some (.ref f_law)
  b_law : Binds K fd_law ["script"] []
  m_abs : mg "abs" = none
  m_bool : mg "bool" = none
  m_dict : mg "dict" = none
  m_int : mg "int" = none
  m_isinstance : mg "isinstance" = none
  m_len : mg "len" = none
  m_list : mg "list" = none
  m_max : mg "max" = none
  m_range : mg "range" = none
  m_sorted : mg "sorted" = none
  m_str : mg "str" = none
  m_tuple : mg "tuple" = none
  k_CLASH_START : ∃ u, mg "CLASH_START" = some u ∧ RelV (.str "<<<<<<<") u
  k_CLASH_BASE : ∃ u, mg "CLASH_BASE" = some u ∧ RelV (.str "|||||||") u
  k_CLASH_OTHER : ∃ u, mg "CLASH_OTHER" = some u ∧ RelV (.str "=======") u
  k_CLASH_END : ∃ u, mg "CLASH_END" = some u ∧ RelV (.str ">>>>>>>") u
  k_MERGED_PATHS : ∃ u, mg "MERGED_PATHS" = some u ∧ RelV (.int 8) u
  k_MERGED_LINES : ∃ u, mg "MERGED_LINES" = some u ∧ RelV (.int 40) u
local macro_rules | `(tactic| walk_at "m") => `(tactic| ((repeat (first | exact List.Mem.head _ | apply List.Mem.tail)); done))
local macro_rules | `(tactic| walk_at "h") => `(tactic| first | assumption | exact Has.gF (by assumption) (by assumption) | exact Has.get (by assumption) (by walk_at "m"))
local macro_rules | `(tactic| walk_at "c") => `(tactic| ((repeat (first | exact Chg.hd | apply Chg.tl)); done))
local macro_rules | `(tactic| walk_at "is") => `(tactic| first
  | ((with_reducible refine' is2_non ?gh ?_); (case gh => walk_at "h"))
  | (with_reducible refine is_int_list ?_)
  | (with_reducible refine is_int_tuple ?_)
  | (with_reducible refine is_int_dict ?_)
  | (with_reducible refine is_int_int ?_)
  | (with_reducible refine is_int_bool ?_)
  | (with_reducible refine is_int_str ?_)
  | ((with_reducible refine' is2_int ?gh ?_); (case gh => walk_at "h"))
  | (with_reducible refine is_str_list ?_)
  | (with_reducible refine is_str_tuple ?_)
  | (with_reducible refine is_str_dict ?_)
  | (with_reducible refine is_str_int ?_)
  | (with_reducible refine is_str_bool ?_)
  | (with_reducible refine is_str_str ?_)
  | ((with_reducible refine' is2_str ?gh ?_); (case gh => walk_at "h"))
  | (with_reducible refine is_bool_list ?_)
  | (with_reducible refine is_bool_tuple ?_)
  | (with_reducible refine is_bool_dict ?_)
  | (with_reducible refine is_bool_int ?_)
  | (with_reducible refine is_bool_bool ?_)
  | (with_reducible refine is_bool_str ?_)
  | ((with_reducible refine' is2_bool ?gh ?_); (case gh => walk_at "h"))
  | ((with_reducible refine' is_list_list ?gh ?_); (case gh => walk_at "h"))
  | ((with_reducible refine' is_list_tuple ?gh ?_); (case gh => walk_at "h"))
  | ((with_reducible refine' is_list_dict ?gh ?_); (case gh => walk_at "h"))
  | ((with_reducible refine' is_list_int ?gh ?_); (case gh => walk_at "h"))
  | ((with_reducible refine' is_list_bool ?gh ?_); (case gh => walk_at "h"))
  | ((with_reducible refine' is_list_str ?gh ?_); (case gh => walk_at "h"))
  | ((with_reducible refine' is2_list ?ga ?gb ?_); (case ga => walk_at "h"); (case gb => walk_at "h"))
  | ((with_reducible refine' is_tuple_list ?gh ?_); (case gh => walk_at "h"))
  | ((with_reducible refine' is_tuple_tuple ?gh ?_); (case gh => walk_at "h"))
  | ((with_reducible refine' is_tuple_dict ?gh ?_); (case gh => walk_at "h"))
  | ((with_reducible refine' is_tuple_int ?gh ?_); (case gh => walk_at "h"))
  | ((with_reducible refine' is_tuple_bool ?gh ?_); (case gh => walk_at "h"))
  | ((with_reducible refine' is_tuple_str ?gh ?_); (case gh => walk_at "h"))
  | ((with_reducible refine' is2_tuple ?ga ?gb ?_); (case ga => walk_at "h"); (case gb => walk_at "h"))
  | ((with_reducible refine' is_dict_list ?gh ?_); (case gh => walk_at "h"))
  | ((with_reducible refine' is_dict_tuple ?gh ?_); (case gh => walk_at "h"))
  | ((with_reducible refine' is_dict_dict ?gh ?_); (case gh => walk_at "h"))
  | ((with_reducible refine' is_dict_int ?gh ?_); (case gh => walk_at "h"))
  | ((with_reducible refine' is_dict_bool ?gh ?_); (case gh => walk_at "h"))
  | ((with_reducible refine' is_dict_str ?gh ?_); (case gh => walk_at "h"))
  | ((with_reducible refine' is2_dict ?ga ?gb ?_); (case ga => walk_at "h"); (case gb => walk_at "h")))
local macro_rules | `(tactic| walk_at "g") => `(tactic| first
  | (with_reducible refine g_seq ?_)
  | (with_reducible refine g_asg ?_)
  | ((with_reducible refine g_name ?_); dsimp only [List.set, wipe, List.map])
  | ((with_reducible refine' g_var ?gv ?_); (case gv => exact rfl))
  | (with_reducible refine g_c ?_)
  | (with_reducible refine g_op ?_)
  | (with_reducible refine g_cons ?_)
  | (with_reducible refine g_nil ?_)
  | (with_reducible refine g_cb ?_)
  | (with_reducible refine g_call ?_)
  | (with_reducible refine g_tup ?_)
  | (with_reducible refine g_lst ?_)
  | (with_reducible refine g_bm ?_)
  | (with_reducible refine g_bm0 ?_)
  | ((with_reducible refine' g_kbm ?gh ?_); (case gh => walk_at "h"))
  | (with_reducible refine g_drop ?_)
  | (with_reducible refine g_ret ?_)
  | (with_reducible refine g_retN ?_)
  | (with_reducible refine g_next ?_)
  | (with_reducible refine g_brk ?_)
  | (with_reducible refine g_cont ?_)
  | (with_reducible refine g_if ?_)
  | ((with_reducible refine' g_aug ?gv ?_); (case gv => exact rfl))
  | (with_reducible refine g_ipI ?_)
  | (with_reducible refine g_test ?_)
  | (with_reducible refine g_tB ?_)
  | (with_reducible refine g_kB ?_)
  | (with_reducible refine g_not ?_)
  | (with_reducible refine g_and ?_)
  | (with_reducible refine g_or ?_)
  | (with_reducible refine g_andV ?_)
  | (with_reducible refine g_orV ?_)
  | (with_reducible refine g_notV ?_)
  | (with_reducible refine g_ifE ?_)
  | (with_reducible refine g_addI ?_)
  | (with_reducible refine g_rI0 ?_)
  | (with_reducible refine g_eqI ?_)
  | (with_reducible refine g_eqS ?_)
  | (with_reducible refine g_neI ?_)
  | (with_reducible refine g_neS ?_)
  | (with_reducible refine g_isN ?_)
  | (with_reducible refine g_notN ?_)
  | (with_reducible refine g_int ?_)
  | (with_reducible refine g_max2 ?_)
  | (with_reducible refine g_min2 ?_)
  | ((with_reducible refine' g_lenL ?gh ?_); (case gh => walk_at "h"))
  | (with_reducible refine g_sub ?_)
  | (with_reducible refine g_gcons ?_)
  | (with_reducible refine g_gnil ?_)
  | (with_reducible refine g_un ?_)
  | (with_reducible refine g_rU ?_)
  | (with_reducible refine g_forL ?_)
  | (with_reducible refine g_forS ?_)
  | (with_reducible refine g_forR1 ?_)
  | (with_reducible refine g_forR2 ?_)
  | (with_reducible refine g_forR3 ?_)
  | (with_reducible refine g_lcL ?_)
  | (with_reducible refine g_lcR1 ?_)
  | (with_reducible refine g_lcR2 ?_)
  | (with_reducible refine g_slice ?_)
  | (with_reducible refine g_part ?_)
  | (with_reducible refine g_kOI ?_)
  | (with_reducible refine g_nopart ?_)
  | (with_reducible refine g_yes ?_)
  | ((with_reducible refine' g_wipe ?gv ?_); (case gv => exact rfl))
  | (with_reducible refine iteT ?_)
  | (with_reducible refine iteF ?_)
  | (with_reducible refine i_nf ?_)
  | (with_reducible refine i_nt ?_)
  | ((with_reducible refine' g_gtup ?gh ?gl ?_); (case gh => walk_at "h"); (case gl => exact rfl))
  | ((with_reducible refine' g_notinI ?gh ?_); (case gh => walk_at "h"))
  | ((with_reducible refine' g_inI ?gh ?_); (case gh => walk_at "h"))
  | ((with_reducible refine' g_kget2 ?gh ?_); (case gh => walk_at "h"))
  | ((with_reducible refine' g_kgotI ?gh ?_); (case gh => walk_at "h"))
  | (with_reducible refine g_tRev ?_)
  | (with_reducible refine g_neB ?_)
  | (with_reducible refine g_eqB ?_)
  | ((with_reducible refine' g_lenT ?gh ?_); (case gh => walk_at "h"))
  | (with_reducible refine g_star ?_)
  | ((with_reducible refine' g_kstarL ?gh ?_); (case gh => walk_at "h"))
  | ((with_reducible refine' g_kstarT ?gh ?_); (case gh => walk_at "h"))
  | (with_reducible refine g_tru ?_)
  | ((with_reducible refine' g_truL ?gh ?_); (case gh => walk_at "h"))
  | (with_reducible refine g_get2 ?_)
  | (with_reducible refine g_try ?_)
  | (with_reducible refine g_fld ?_)
  | (with_reducible refine g_sfld ?_)
  | (with_reducible refine g_meth ?_)
  | (with_reducible refine g_make ?_)
  | (with_reducible refine g_del ?_)
  | (with_reducible refine g_callS ?_)
  | (with_reducible refine g_raise ?_)
  | (with_reducible refine g_xf ?_)
  | (with_reducible refine g_m0 ?_)
  | (with_reducible refine g_km0 ?_)
  | walk_at "is")
local macro_rules | `(tactic| walk_at "gg") => `(tactic| repeat walk_at "g")
local macro_rules | `(tactic| walk_at "sz") => `(tactic| (refine sz ?_; simp only [List.length_cons, List.length_nil, List.length_map, List.length_append, List.length_replicate]; omega))
local macro_rules | `(tactic| walk_at "sub") => `(tactic| ((repeat (first | exact List.Sublist.slnil | with_reducible apply List.Sublist.cons_cons | with_reducible apply List.Sublist.cons)); done))

/-! ### the mathematics -/
def lc : List Str → List Str → Nat
  | [], _ => 0
  | _ :: _, [] => 0
  | x :: xs, y :: ys => if x = y then lc xs ys + 1 else max (lc xs (y :: ys)) (lc (x :: xs) ys)
termination_by xs ys => xs.length + ys.length
def mt : List Str → List Str → Nat → Nat → List (Nat × Nat)
  | [], _, _, _ => []
  | _ :: _, [], _, _ => []
  | x :: xs, y :: ys, i, j => if x = y then (i, j) :: mt xs ys (i + 1) (j + 1) else if lc xs (y :: ys) ≥ lc (x :: xs) ys then mt xs (y :: ys) (i + 1) j else mt (x :: xs) ys i (j + 1)
termination_by xs ys => xs.length + ys.length
theorem lc_nil (xs : List Str) : lc xs [] = 0 := by
  cases xs <;> rw [lc]
theorem mt_lt : ∀ (xs ys : List Str) (i j : Nat) (p : Nat × Nat), p ∈ mt xs ys i j → (i ≤ p.1 ∧ p.1 < i + xs.length) ∧ j ≤ p.2 ∧ p.2 < j + ys.length
  | [], _, _, _, _, h => by rw [mt] at h; cases h
  | _ :: _, [], _, _, _, h => by rw [mt] at h; cases h
  | x :: xs, y :: ys, i, j, p, h => by
    rw [mt] at h
    rw [List.length_cons, List.length_cons]
    split at h
    · rcases List.mem_cons.mp h with rfl | h
      · simp only; omega
      · have := mt_lt xs ys (i + 1) (j + 1) p h
        omega
    · split at h
      · have := mt_lt xs (y :: ys) (i + 1) j p h
        rw [List.length_cons] at this
        omega
      · have := mt_lt (x :: xs) ys i (j + 1) p h
        rw [List.length_cons] at this
        omega
termination_by xs ys => xs.length + ys.length
theorem lc_at {xs ys : List Str} {i j : Nat} {x y : Str} (hx : xs[i]? = some x) (hy : ys[j]? = some y) :
    lc (xs.drop i) (ys.drop j) = if x = y then lc (xs.drop (i + 1)) (ys.drop (j + 1)) + 1 else max (lc (xs.drop (i + 1)) (ys.drop j)) (lc (xs.drop i) (ys.drop (j + 1))) := by
  obtain ⟨h1, e1⟩ := List.getElem?_eq_some_iff.mp hx
  obtain ⟨h2, e2⟩ := List.getElem?_eq_some_iff.mp hy
  rw [List.drop_eq_getElem_cons h1, List.drop_eq_getElem_cons h2, e1, e2, lc]
theorem mt_at {xs ys : List Str} {i j : Nat} {x y : Str} (hx : xs[i]? = some x) (hy : ys[j]? = some y) :
    mt (xs.drop i) (ys.drop j) i j = if x = y then (i, j) :: mt (xs.drop (i + 1)) (ys.drop (j + 1)) (i + 1) (j + 1) else if lc (xs.drop (i + 1)) (ys.drop j) ≥ lc (xs.drop i) (ys.drop (j + 1)) then mt (xs.drop (i + 1)) (ys.drop j) (i + 1) j
      else mt (xs.drop i) (ys.drop (j + 1)) i (j + 1) := by
  obtain ⟨h1, e1⟩ := List.getElem?_eq_some_iff.mp hx
  obtain ⟨h2, e2⟩ := List.getElem?_eq_some_iff.mp hy
  rw [List.drop_eq_getElem_cons h1, List.drop_eq_getElem_cons h2, e1, e2, mt]
theorem mt_end {xs ys : List Str} {i j : Nat} (h : xs.length ≤ i ∨ ys.length ≤ j) : mt (xs.drop i) (ys.drop j) i j = [] := by
  rcases h with h | h
  · rw [List.drop_eq_nil_of_le h, mt]
  · rw [List.drop_eq_nil_of_le h]
    cases xs.drop i <;> rw [mt]


/-! ### longest common parts -/
theorem lc_bounds : ∀ (n : Nat) (xs ys : List Str), xs.length + ys.length ≤ n → (∀ y, lc xs ys ≤ lc xs (y :: ys) ∧ lc xs (y :: ys) ≤ lc xs ys + 1) ∧ ∀ x, lc xs ys ≤ lc (x :: xs) ys ∧ lc (x :: xs) ys ≤ lc xs ys + 1
  | 0, xs, ys, h => by
    have e1 : xs = [] := List.eq_nil_of_length_eq_zero (by omega)
    have e2 : ys = [] := List.eq_nil_of_length_eq_zero (by omega)
    subst e1 e2
    refine ⟨fun y => ?_, fun x => ?_⟩
    · rw [lc, lc]; omega
    · rw [lc, lc_nil]; omega
  | n + 1, xs, ys, h => by
    refine ⟨fun y => ?_, fun x => ?_⟩
    · cases xs with
      | nil => rw [lc, lc]; omega
      | cons a xs =>
        rw [List.length_cons] at h
        have ih := lc_bounds n xs ys (by omega)
        have i1 := ih.2 a
        have i2 := ih.1 y
        rw [lc]
        split <;> omega
    · cases ys with
      | nil => rw [lc_nil, lc_nil]; omega
      | cons b ys =>
        rw [List.length_cons] at h
        have ih := lc_bounds n xs ys (by omega)
        have i1 := ih.2 x
        have i2 := ih.1 b
        rw [lc.eq_3]
        split <;> omega
theorem lc_y (xs ys : List Str) (y : Str) : lc xs ys ≤ lc xs (y :: ys) ∧ lc xs (y :: ys) ≤ lc xs ys + 1 := (lc_bounds _ xs ys (Nat.le_refl _)).1 y
theorem lc_x (xs ys : List Str) (x : Str) : lc xs ys ≤ lc (x :: xs) ys ∧ lc (x :: xs) ys ≤ lc xs ys + 1 := (lc_bounds _ xs ys (Nat.le_refl _)).2 x
theorem lc_drop1 (xs ys : List Str) : ∀ j, lc xs (ys.drop (j + 1)) ≤ lc xs (ys.drop j) := fun j => by
  by_cases h : j < ys.length
  · rw [List.drop_eq_getElem_cons h]
    exact (lc_y _ _ _).1
  · rw [List.drop_eq_nil_of_le (by omega : ys.length ≤ j), List.drop_eq_nil_of_le (by omega : ys.length ≤ j + 1)]
    exact Nat.le_refl _
theorem lc_drop (xs ys : List Str) (j : Nat) : ∀ d, lc xs (ys.drop (j + d)) ≤ lc xs (ys.drop j)
  | 0 => Nat.le_refl _
  | d + 1 => Nat.le_trans (lc_drop1 xs ys (j + d)) (lc_drop xs ys j d)
theorem lc_mono {xs ys : List Str} {i j : Nat} (h : i ≤ j) : lc xs (ys.drop j) ≤ lc xs (ys.drop i) := by
  have := lc_drop xs ys i (j - i)
  rw [show i + (j - i) = j by omega] at this
  exact this
theorem lc_len : ∀ (xs ys : List Str), lc xs ys ≤ xs.length
  | [], _ => by rw [lc]; exact Nat.le_refl _
  | x :: xs, ys => by
    have := (lc_x xs ys x).2
    have := lc_len xs ys
    rw [List.length_cons]; omega
theorem lc_leny (xs : List Str) : ∀ (ys : List Str), lc xs ys ≤ ys.length
  | [] => by rw [lc_nil]; exact Nat.le_refl _
  | y :: ys => by
    have := (lc_y xs ys y).2
    have := lc_leny xs ys
    rw [List.length_cons]; omega
theorem lc_step (x : Str) (xs : List Str) (k : Nat) : ∀ l : List Str, k + 1 ≤ lc (x :: xs) l ↔ k + 1 ≤ lc xs l ∨ ∃ i : Nat, l[i]? = some x ∧ k ≤ lc xs (l.drop (i + 1))
  | [] => by
    rw [lc_nil, lc_nil]
    constructor
    · intro h; omega
    · rintro (h | ⟨i, h, _⟩)
      · omega
      · simp at h
  | y :: l => by
    have ih := lc_step x xs k l
    have m1 := (lc_y xs l y).1
    have m2 := (lc_y xs l y).2
    have m3 := lc_x xs (y :: l) x
    constructor
    · intro h
      rw [lc] at h
      split at h
      · rename_i e
        subst e
        exact .inr ⟨0, rfl, by show k ≤ lc xs l; omega⟩
      · by_cases h1 : k + 1 ≤ lc xs (y :: l)
        · exact .inl h1
        · have h2 : k + 1 ≤ lc (x :: xs) l := by omega
          rcases ih.mp h2 with h3 | ⟨i, h3, h4⟩
          · exact .inl (by omega)
          · exact .inr ⟨i + 1, h3, h4⟩
    · rintro (h | ⟨i, h1, h2⟩)
      · omega
      · cases i with
        | zero =>
          have e : y = x := Option.some.inj h1
          subst e
          rw [lc, if_pos rfl]
          have h2' : k ≤ lc xs l := h2
          omega
        | succ i =>
          have h3 := ih.mpr (.inr ⟨i, h1, h2⟩)
          have := (lc_y (x :: xs) l y).1
          omega
/-! ### the greatest place from which k lines are common -/
def gr (p : Nat → Bool) : Nat → Nat
  | 0 => 0
  | j + 1 => if p (j + 1) = true then j + 1 else gr p j
theorem gr_le (p : Nat → Bool) : ∀ m, gr p m ≤ m
  | 0 => Nat.le_refl _
  | m + 1 => by
    rw [gr]
    split
    · exact Nat.le_refl _
    · exact Nat.le_succ_of_le (gr_le p m)
theorem gr_ok {p : Nat → Bool} (h0 : p 0 = true) : ∀ m, p (gr p m) = true
  | 0 => h0
  | m + 1 => by
    rw [gr]
    split
    · assumption
    · exact gr_ok h0 m
theorem gr_ge {p : Nat → Bool} : ∀ {m j : Nat}, j ≤ m → p j = true → j ≤ gr p m
  | 0, j, h, _ => h
  | m + 1, j, h, hp => by
    rw [gr]
    split
    · exact h
    · rename_i hn
      rcases Nat.lt_or_ge m j with h1 | h1
      · have : j = m + 1 := by omega
        subst this
        exact (hn hp).elim
      · exact gr_ge h1 hp
def mx (xs ys : List Str) (k : Nat) : Nat := gr (fun j => decide (k ≤ lc xs (ys.drop j))) ys.length
theorem mx_le (xs ys : List Str) (k : Nat) : mx xs ys k ≤ ys.length := gr_le _ _
theorem mx_iff {xs ys : List Str} {k j : Nat} (hk : k ≤ lc xs ys) (hj : j ≤ ys.length) : j ≤ mx xs ys k ↔ k ≤ lc xs (ys.drop j) := by
  constructor
  · intro h
    have e : k ≤ lc xs (ys.drop (mx xs ys k)) := of_decide_eq_true (gr_ok (p := fun j => decide (k ≤ lc xs (ys.drop j))) (decide_eq_true hk) ys.length)
    exact Nat.le_trans e (lc_mono h)
  · intro h
    exact gr_ge (p := fun j => decide (k ≤ lc xs (ys.drop j))) hj (decide_eq_true h)
theorem mx_zero (xs ys : List Str) : mx xs ys 0 = ys.length := by
  have h := (mx_iff (xs := xs) (ys := ys) (k := 0) (j := ys.length) (Nat.zero_le _) (Nat.le_refl _)).mpr (Nat.zero_le _)
  have := mx_le xs ys 0
  omega
/-- the row of a part: the places for 0, 1, .. common lines -/
def eR (xs ys : List Str) : List Nat := (List.range (lc xs ys + 1)).map (mx xs ys)
/-- what a turn finds: M is its greatest -/
theorem mx_step {x : Str} {xs ys : List Str} {k : Nat} (hk : k ≤ lc xs ys) {M : Nat} (hin : (M < mx xs ys k ∧ ys[M]? = some x) ∨ (k + 1 ≤ lc xs ys ∧ M = mx xs ys (k + 1)))
    (hall : ∀ j, j < mx xs ys k → ys[j]? = some x → j ≤ M) (hlast : k + 1 ≤ lc xs ys → mx xs ys (k + 1) ≤ M) : k + 1 ≤ lc (x :: xs) ys ∧ M = mx (x :: xs) ys (k + 1) := by
  have key : ∀ j, j ≤ ys.length → (k + 1 ≤ lc (x :: xs) (ys.drop j) ↔ j ≤ M) := fun j hj => by
    rw [lc_step]
    constructor
    · rintro (h | ⟨i, h1, h2⟩)
      · have hk1 : k + 1 ≤ lc xs ys := Nat.le_trans h (by have := lc_mono (xs := xs) (ys := ys) (Nat.zero_le j); exact this)
        exact Nat.le_trans ((mx_iff hk1 hj).mpr h) (hlast hk1)
      · rw [List.getElem?_drop] at h1
        rw [List.drop_drop] at h2
        have hlt := (List.getElem?_eq_some_iff.mp h1).1
        have h3 : j + i < mx xs ys k := (mx_iff hk (show j + (i + 1) ≤ ys.length by omega)).mpr h2
        have := hall _ h3 h1
        omega
    · intro h
      rcases hin with ⟨h1, h2⟩ | ⟨h1, h2⟩
      · refine .inr ⟨M - j, ?_, ?_⟩
        · rw [List.getElem?_drop, show j + (M - j) = M by omega]
          exact h2
        · rw [List.drop_drop, show j + (M - j + 1) = M + 1 by omega]
          exact (mx_iff hk (by have := (List.getElem?_eq_some_iff.mp h2).1; omega)).mp h1
      · exact .inl ((mx_iff h1 hj).mp (by omega))
  have h0 : k + 1 ≤ lc (x :: xs) ys := (key 0 (Nat.zero_le _)).mpr (Nat.zero_le _)
  have hM : M ≤ ys.length := by
    rcases hin with ⟨_, h2⟩ | ⟨_, h2⟩
    · exact Nat.le_of_lt (List.getElem?_eq_some_iff.mp h2).1
    · rw [h2]; exact mx_le _ _ _
  refine ⟨h0, Nat.le_antisymm ((mx_iff h0 hM).mpr ((key M hM).mpr (Nat.le_refl _))) ?_⟩
  exact (key _ (mx_le _ _ _)).mp ((mx_iff h0 (mx_le _ _ _)).mp (Nat.le_refl _))
/-- nothing found: no more common lines -/
theorem mx_stop {x : Str} {xs ys : List Str} {k : Nat} (hk : k ≤ lc xs ys) (hno : ∀ j, j < mx xs ys k → ys[j]? ≠ some x) (hlast : ¬ k + 1 ≤ lc xs ys) : ¬ k + 1 ≤ lc (x :: xs) ys := by
  rw [lc_step]
  rintro (h | ⟨i, h1, h2⟩)
  · exact hlast h
  · have hlt := (List.getElem?_eq_some_iff.mp h1).1
    exact hno i ((mx_iff hk (show i + 1 ≤ ys.length by omega)).mpr h2) h1
theorem cnt_le (n j : Nat) (f : Nat → Nat) (p : Nat) (hp : p ≤ n) (h : ∀ k, 1 ≤ k → k ≤ n → (j ≤ f k ↔ k ≤ p)) : ((List.range n).filter fun k => decide (j ≤ f (k + 1))).length = p := by
  have e : (List.range n).filter (fun k => decide (j ≤ f (k + 1))) = (List.range n).filter (fun k => decide (k < p)) := by
    apply List.filter_congr
    intro k hk
    have hk' := List.mem_range.mp hk
    rw [decide_eq_decide]
    rw [h (k + 1) (by omega) (by omega)]
    omega
  rw [e]
  clear e h
  induction n with
  | zero =>
    have : p = 0 := by omega
    subst this
    rfl
  | succ n ih =>
    rw [List.range_succ, List.filter_append, List.length_append]
    by_cases hn : p ≤ n
    · rw [ih hn]
      have : decide (n < p) = false := decide_eq_false (by omega)
      simp [this]
    · have e2 : p = n + 1 := by omega
      subst e2
      have e3 : (List.range n).filter (fun k => decide (k < n + 1)) = List.range n := List.filter_eq_self.mpr fun k hk => decide_eq_true (by have := List.mem_range.mp hk; omega)
      rw [e3, List.length_range]
      simp
theorem eR_count {xs ys : List Str} {j : Nat} (hj : j ≤ ys.length) : (((eR xs ys).drop 1).filter fun e => decide (j ≤ e)).length = lc xs (ys.drop j) := by
  unfold eR
  rw [List.range_succ_eq_map, List.map_cons, List.drop_one, List.tail_cons, List.map_map, List.filter_map, List.length_map]
  exact cnt_le (lc xs ys) j (mx xs ys) (lc xs (ys.drop j)) (by have := lc_mono (xs := xs) (ys := ys) (Nat.zero_le j); exact this) fun k _ hk => mx_iff hk hj
/-! ### common parts -/
theorem lc_has : ∀ (xs ys : List Str), ∃ q : List Str, q.Sublist xs ∧ q.Sublist ys ∧ q.length = lc xs ys
  | [], ys => ⟨[], List.nil_sublist _, List.nil_sublist _, by rw [lc]; rfl⟩
  | x :: xs, [] => ⟨[], List.nil_sublist _, List.nil_sublist _, by rw [lc]; rfl⟩
  | x :: xs, y :: ys => by
    rw [lc]
    split
    · rename_i e
      subst e
      obtain ⟨q, h1, h2, h3⟩ := lc_has xs ys
      exact ⟨x :: q, h1.cons_cons _, h2.cons_cons _, by rw [List.length_cons, h3]⟩
    · rcases Nat.le_total (lc xs (y :: ys)) (lc (x :: xs) ys) with h | h
      · obtain ⟨q, h1, h2, h3⟩ := lc_has (x :: xs) ys
        exact ⟨q, h1, h2.cons _, by omega⟩
      · obtain ⟨q, h1, h2, h3⟩ := lc_has xs (y :: ys)
        exact ⟨q, h1.cons _, h2, by omega⟩
termination_by xs ys => xs.length + ys.length
theorem lc_most : ∀ (xs ys q : List Str), q.Sublist xs → q.Sublist ys → q.length ≤ lc xs ys
  | [], ys, q, h, _ => by rw [List.sublist_nil.mp h]; exact Nat.zero_le _
  | x :: xs, [], q, _, h => by rw [List.sublist_nil.mp h]; exact Nat.zero_le _
  | x :: xs, y :: ys, q, h1, h2 => by
    cases q with
    | nil => exact Nat.zero_le _
    | cons a q =>
      rw [List.length_cons, lc]
      have t1 : q.Sublist xs := List.cons_sublist_cons.mp (by
        cases h1 with
        | cons _ h => exact (List.Sublist.cons_cons x ((List.sublist_cons_self a q).trans h))
        | cons_cons _ h => exact List.Sublist.cons_cons x h)
      have t2 : q.Sublist ys := List.cons_sublist_cons.mp (by
        cases h2 with
        | cons _ h => exact (List.Sublist.cons_cons y ((List.sublist_cons_self a q).trans h))
        | cons_cons _ h => exact List.Sublist.cons_cons y h)
      split
      · have := lc_most xs ys q t1 t2
        omega
      · rename_i ne
        cases h1 with
        | cons _ h =>
          have := lc_most xs (y :: ys) (a :: q) h h2
          rw [List.length_cons] at this
          omega
        | cons_cons _ h =>
          cases h2 with
          | cons _ h' =>
            have := lc_most (x :: xs) ys (x :: q) (h.cons_cons _) h'
            rw [List.length_cons] at this
            omega
          | cons_cons _ h' => exact (ne rfl).elim
termination_by xs ys => xs.length + ys.length
theorem mt_length : ∀ (xs ys : List Str) (i j : Nat), (mt xs ys i j).length = lc xs ys
  | [], _, _, _ => by rw [mt, lc]; rfl
  | _ :: _, [], _, _ => by rw [mt, lc]; rfl
  | x :: xs, y :: ys, i, j => by
    rw [mt, lc]
    split
    · rw [List.length_cons, mt_length xs ys]
    · split
      · rw [mt_length xs (y :: ys)]; omega
      · rw [mt_length (x :: xs) ys]; omega
termination_by xs ys => xs.length + ys.length
theorem mt_self : ∀ (xs : List Str) (i : Nat), mt xs xs i i = (List.range xs.length).map fun k => (i + k, i + k)
  | [], i => by rw [mt]; rfl
  | x :: xs, i => by
    rw [mt, if_pos rfl, mt_self xs (i + 1), List.length_cons, List.range_succ_eq_map, List.map_cons, List.map_map]
    congr 1
    apply List.map_congr_left
    intro k _
    show (i + 1 + k, i + 1 + k) = (i + (k + 1), i + (k + 1))
    rw [show i + 1 + k = i + (k + 1) by omega]

/-! ### tables -/
def tz (n m i j k l : Nat) : Prop := i < k ∨ (i = k ∧ j ≤ l) ∨ l = m ∨ k = n
/-- the rows from (i, j) on are right -/
structure Tb (xs ys : List Str) (i j : Nat) (rows : List (Addr × List Int)) : Prop where
  len : rows.length = xs.length + 1
  wid : ∀ (k : Nat) (r : Addr × List Int), rows[k]? = some r → r.2.length = ys.length + 1
  val : ∀ (k l : Nat) (r : Addr × List Int) (z : Int), rows[k]? = some r → r.2[l]? = some z → tz xs.length ys.length i j k l → z = (lc (xs.drop k) (ys.drop l) : Nat)
theorem Tb.start {xs ys : List Str} {rows : List (Addr × List Int)} (hl : rows.length = xs.length + 1) (h : ∀ r ∈ rows, r.2 = List.replicate (ys.length + 1) 0) : Tb xs ys xs.length 0 rows := by
  refine ⟨hl, fun k r hr => ?_, fun k l r z hr hz ht => ?_⟩
  · rw [h r (List.mem_of_getElem? hr), List.length_replicate]
  · have e := h r (List.mem_of_getElem? hr)
    rw [e, List.getElem?_replicate] at hz
    have hk : k < xs.length + 1 := by rw [← hl]; exact (List.getElem?_eq_some_iff.mp hr).1
    split at hz
    · have hz' : z = 0 := (Option.some.inj hz).symm
      subst hz'
      have e0 : lc (xs.drop k) (ys.drop l) = 0 := by
        rcases ht with ht | ht | ht | ht
        · omega
        · rw [← ht.1, List.drop_length, lc]
        · rw [ht, List.drop_length, lc_nil]
        · rw [ht, List.drop_length, lc]
      rw [e0]; rfl
    · cases hz
theorem Tb.row {xs ys : List Str} {i : Nat} {rows : List (Addr × List Int)} (h : Tb xs ys (i + 1) 0 rows) : Tb xs ys i ys.length rows := by
  refine ⟨h.len, h.wid, fun k l r z hr hz ht => h.val k l r z hr hz ?_⟩
  have hl : l < ys.length + 1 := by rw [← h.wid k r hr]; exact (List.getElem?_eq_some_iff.mp hz).1
  unfold tz at *
  omega
theorem Tb.set {xs ys : List Str} {i j : Nat} {rows : List (Addr × List Int)} {r : Addr × List Int} {z : Int} (h : Tb xs ys i (j + 1) rows) (hr : rows[i]? = some r) (hz : z = (lc (xs.drop i) (ys.drop j) : Nat)) (hj : j < ys.length + 1) :
    Tb xs ys i j (rows.set i (r.1, r.2.set j z)) := by
  have hi := (List.getElem?_eq_some_iff.mp hr).1
  have hw := h.wid i r hr
  refine ⟨by rw [List.length_set]; exact h.len, fun k q hq => ?_, fun k l q y hq hy ht => ?_⟩
  · by_cases e : i = k
    · subst e
      rw [List.getElem?_set_self hi] at hq
      rw [← Option.some.inj hq, List.length_set]
      exact hw
    · rw [List.getElem?_set_ne e] at hq
      exact h.wid k q hq
  · by_cases e : i = k
    · subst e
      rw [List.getElem?_set_self hi] at hq
      rw [← Option.some.inj hq] at hy
      by_cases e2 : j = l
      · subst e2
        rw [List.getElem?_set_self (by rw [hw]; exact hj)] at hy
        rw [← Option.some.inj hy]
        exact hz
      · rw [List.getElem?_set_ne e2] at hy
        refine h.val i l r y hr hy ?_
        unfold tz at *
        omega
    · rw [List.getElem?_set_ne e] at hq
      refine h.val k l q y hq hy ?_
      unfold tz at *
      omega
/-- the same place set to something first -/
theorem Tb.any {xs ys : List Str} {i j : Nat} {rows : List (Addr × List Int)} {r : Addr × List Int} {z : Int} (h : Tb xs ys i (j + 1) rows) (hr : rows[i]? = some r) (hj : j < ys.length) (hi' : i < xs.length) : Tb xs ys i (j + 1) (rows.set i (r.1, r.2.set j z)) := by
  have hi := (List.getElem?_eq_some_iff.mp hr).1
  have hw := h.wid i r hr
  refine ⟨by rw [List.length_set]; exact h.len, fun k q hq => ?_, fun k l q y hq hy ht => ?_⟩
  · by_cases e : i = k
    · subst e
      rw [List.getElem?_set_self hi] at hq
      rw [← Option.some.inj hq, List.length_set]
      exact hw
    · rw [List.getElem?_set_ne e] at hq
      exact h.wid k q hq
  · by_cases e : i = k
    · subst e
      rw [List.getElem?_set_self hi] at hq
      rw [← Option.some.inj hq] at hy
      have e2 : j ≠ l := by unfold tz at ht; omega
      rw [List.getElem?_set_ne e2] at hy
      exact h.val i l r y hr hy ht
    · rw [List.getElem?_set_ne e] at hq
      exact h.val k l q y hq hy ht
theorem Tb.get {xs ys : List Str} {i j k l : Nat} {rows : List (Addr × List Int)} {r : Addr × List Int} (h : Tb xs ys i j rows) (hr : rows[k]? = some r) (hl : l < ys.length + 1) (ht : tz xs.length ys.length i j k l) :
    r.2[l]? = some ((lc (xs.drop k) (ys.drop l) : Nat) : Int) := by
  have hw := h.wid k r hr
  have e : l < r.2.length := by omega
  have := h.val k l r _ hr (List.getElem?_eq_getElem e) ht
  rw [List.getElem?_eq_getElem e, this]
theorem flat_rep (k : Nat) (z : Int) : (List.replicate k [V.int z]).flatten = (List.replicate k z).map V.int := by
  induction k with
  | zero => rfl
  | succ k ih =>
    rw [List.replicate_succ, List.flatten_cons, ih, List.replicate_succ]
    rfl
/-- a table that stands in H -/
def Table (H : Hp) (t : Addr) (xs ys : List Str) : Prop := ∃ rows : List (Addr × List Int), Tb xs ys 0 0 rows ∧ H t = some (.lst (rows.map fun r => V.ref r.1)) ∧ ∀ r ∈ rows, H r.1 = some (.lst (r.2.map V.int))
def prd (p : Nat × Nat) : PyData := .tuple [.int p.1, .int p.2]
section
variable {P : Program} {w : World} {K : PySem.W.Frag} {mg : Str → Option Value} {base : Heap} {σ : L2.St} {F : Hp} {O O' : Own} {H : Hp} {Q : VK} {t : Addr} {xs ys : List Str}
/-- lengths[k][l] of a table that stands -/
theorem g_tabAt {i : Int} (h : Table H t xs ys) (hi : 0 ≤ i) (hi2 : i ≤ xs.length) (q : ∀ r, H r = some (.lst ((List.range (ys.length + 1)).map fun l => V.int (lc (xs.drop i.toNat) (ys.drop l) : Nat))) → Q (.ref r) H) : rIxA K (.ref t) (.int i) H Q := by
  obtain ⟨rows, tb, h1, h2⟩ := h
  have e : i.toNat < rows.length := by rw [tb.len]; omega
  have hr := List.getElem?_eq_getElem e
  refine g_ixL h1 (at_n hi (v := .ref rows[i.toNat].1) ?_) (q _ ?_)
  · rw [List.getElem?_map, hr]
    rfl
  · rw [h2 _ (List.getElem_mem e)]
    congr 1
    congr 1
    apply List.ext_getElem?
    intro l
    rw [List.getElem?_map, List.getElem?_map]
    by_cases hl : l < ys.length + 1
    · rw [tb.get hr hl (by unfold tz; omega), List.getElem?_range hl]
      rfl
    · rw [List.getElem?_eq_none (by rw [tb.wid _ _ hr]; omega), List.getElem?_eq_none (by rw [List.length_range]; omega)]
      rfl
def sp_common_lengths (K : PySem.W.Frag) : Sp := fun vs H Q _ => ∃ (a b : Addr) (xs ys : List Str), vs = [.ref a, .ref b] ∧ H a = some (.lst (xs.map V.str)) ∧ H b = some (.lst (ys.map V.str)) ∧ xs.length ≤ 1000 ∧ ys.length ≤ 1000 ∧
  ∀ t H', Same H H' → H t = none → Table H' t xs ys → Q (.ref t) H'
theorem sp_common_lengths_len {vs H Q E} (h : sp_common_lengths K vs H Q E) : vs.length = 2 := by
  obtain ⟨_, _, _, _, rfl, _⟩ := h
  rfl
theorem ok_common_lengths (T : Txt K mg) : FnOk P w K mg base CX0 1 T.f_common_lengths T.fd_common_lengths ["old", "new"] (sp_common_lengths K) := by
  refine T.F_common_lengths.ok sc_common_lengths (fun vs H Q E h => sp_common_lengths_len h) (fun cdv A outer s H vs Q E hr h => ?_)
  refine ⟨_, (pss_cons (ps_setLc (i := 2) (own := [("_", 5)]) (g := gName 5) (tt := tYes) rfl sc_common_lengths.nd rfl rfl (sw_true rfl rfl rfl (by decide +kernel)) (pi_range1 rfl T.m_range (pa_cons (pe_op (op_addK K) (pe_callB (cr_lenK K) (by rfl) T.m_len (by decide +kernel) (pa_cons (pv 0) pa_nil)) pe_int) pa_nil)) (blkOk_by (N := n_common_lengths) (sc := defScope s_common_lengths) (by decide +kernel)) (fun _ _ _ _ _ => (pg_name (i := 5) sc_common_lengths.nd rfl (.inl rfl))) (fun _ _ _ _ _ => pts_nil) (fun _ _ _ _ _ => (pe_op op_mulA (pe_lst (pa_cons pe_int pa_nil)) (pe_op (op_addK K) (pe_callB (cr_lenK K) (by rfl) T.m_len (by decide +kernel) (pa_cons (pv 1) pa_nil)) pe_int))))
      (pss_cons (ps_for PassesOwn.never rfl (pi_range3 rfl T.m_range (pa_cons (pe_op op_sub (pe_callB (cr_lenK K) (by rfl) T.m_len (by decide +kernel) (pa_cons (pv 0) pa_nil)) pe_int) (pa_cons (pe_un un_neg pe_int) (pa_cons (pe_un un_neg pe_int) pa_nil)))) (pg_name (i := 3) sc_common_lengths.nd rfl (.inl rfl)) (pss_one (ps_for PassesOwn.never rfl (pi_range3 rfl T.m_range (pa_cons (pe_op op_sub (pe_callB (cr_lenK K) (by rfl) T.m_len (by decide +kernel) (pa_cons (pv 1) pa_nil)) pe_int) (pa_cons (pe_un un_neg pe_int) (pa_cons (pe_un un_neg pe_int) pa_nil)))) (pg_name (i := 4) sc_common_lengths.nd rfl (.inl rfl)) (pss_one (ps_if (pt_cmpR (op_eqK K hr.units) (pe_ix (ix_K K (hu_of hr)) (pv 0) (pv 3) (fun _ _ => rfl)) (pe_ix (ix_K K (hu_of hr)) (pv 1) (pv 4) (fun _ _ => rfl)) (nomark _)) (pss_one (ps_asg (pe_op (op_addK K) (pe_ix (ix_K K (hu_of hr)) (pe_ix (ix_K K (hu_of hr)) (pv 2) (pe_op (op_addK K) (pv 3) pe_int) (fun _ _ => rfl)) (pe_op (op_addK K) (pv 4) pe_int) (fun _ _ => rfl)) pe_int) (pg_sub (pe_ix (ix_K K (hu_of hr)) (pv 2) (pv 3) (fun _ _ => rfl)) (pv 4) (set_any (hu_of hr))))) (pss_one (ps_asg (pe_callB (cr_max2 rfl) (by rfl) T.m_max (by decide +kernel) (pa_cons (pe_ix (ix_K K (hu_of hr)) (pe_ix (ix_K K (hu_of hr)) (pv 2) (pe_op (op_addK K) (pv 3) pe_int) (fun _ _ => rfl)) (pv 4) (fun _ _ => rfl)) (pa_cons (pe_ix (ix_K K (hu_of hr)) (pe_ix (ix_K K (hu_of hr)) (pv 2) (pv 3) (fun _ _ => rfl)) (pe_op (op_addK K) (pv 4) pe_int) (fun _ _ => rfl)) pa_nil))) (pg_sub (pe_ix (ix_K K (hu_of hr)) (pv 2) (pv 3) (fun _ _ => rfl)) (pv 4) (set_any (hu_of hr))))))))))
      (pss_one (ps_ret (pv 2))))), ?_⟩
  obtain ⟨a, b, xs, ys, rfl, ha, hb, hx, hy, q⟩ := h
  have hH := Has.start H
  refine g_start (σ' := [some (.ref a), some (.ref b), none, none, none, none]) rfl ?_
  walk_at "gg"
  rw [List.length_map]
  refine k_lcR1 (by omega) (by omega) hH (fun i acc F' O' => ∃ rows : List (Addr × List Int), acc = rows.map (fun r => V.ref r.1) ∧ rows.length = i ∧ (∀ r ∈ rows, r.2 = List.replicate (ys.length + 1) 0) ∧ H = F' ∧ O' = rows.map rowO) ⟨[], rfl, rfl, by simp, rfl, rfl⟩ ?_ ?_
  · rintro i acc F' O' D H1 hi ⟨rows, rfl, rfl, hr, rfl, rfl⟩ hh
    walk_at "gg"
    refine g_klst (by walk_at "sz") hh (fun p1 H2 n2 h2 => ?_)
    walk_at "gg"
    rw [List.length_map]
    refine g_mulL (by walk_at "h") (by omega) (by omega) (sz (by show 1 * _ ≤ _; omega)) h2 (fun p2 H3 n3 h3 => ?_)
    have e1 : ((ys.length : Int) + 1).toNat = ys.length + 1 := by omega
    rw [e1, flat_rep] at h3
    have h4 := h3.sub (.cons₂ _ (.cons _ (List.Sublist.refl _)))
    have h5 : Has H ((D, .lst (rows.map fun r => V.ref r.1)) :: (rows ++ [(p2, List.replicate (ys.length + 1) 0)]).map rowO) H3 := by
      refine h4.perm ?_
      rw [List.map_append]
      exact ((List.Perm.cons _ (List.perm_append_singleton _ _)).trans (List.Perm.swap _ _ _))
    refine k_turn h5 (by rw [List.length_map]; omega) ⟨rows ++ [(p2, List.replicate (ys.length + 1) 0)], by rw [List.map_append]; rfl, by rw [List.length_append]; rfl, fun r h => ?_, rfl, rfl⟩
    rcases List.mem_append.mp h with h | h
    · exact hr r h
    · rw [List.mem_singleton.mp h]
  · rintro acc F' O' D H1 ⟨rows, rfl, hk, hr, rfl, rfl⟩ hh
    have hk' : rows.length = xs.length + 1 := by omega
    have tb0 := Tb.start (xs := xs) (ys := ys) hk' hr
    have hh1 : Has H (tabO D rows ++ []) H1 := by rw [List.append_nil]; exact hh
    walk_at "gg"
    refine k_forDown (n := xs.length) (by rw [List.length_map]) (by omega) (fun i σ H' => ∃ (rows : List (Addr × List Int)) (y3 y4 : Option V), σ = [some (.ref a), some (.ref b), some (.ref D), y3, y4, none] ∧ Has H (tabO D rows ++ []) H' ∧ Tb xs ys i 0 rows) ⟨rows, none, none, rfl, hh1, tb0⟩ ?_ ?_
    · rintro i σ H2 hi ⟨rows, y3, y4, rfl, h2, tb⟩
      walk_at "gg"
      refine k_forDown (n := ys.length) (by rw [List.length_map]) (by omega) (fun j σ H' => ∃ (rows : List (Addr × List Int)) (y4 : Option V), σ = [some (.ref a), some (.ref b), some (.ref D), some (.int i), y4, none] ∧ Has H (tabO D rows ++ []) H' ∧ Tb xs ys i j rows) ⟨rows, y4, rfl, h2, tb.row⟩ ?_ ?_
      · rintro j σ H3 hj ⟨rows, y4, rfl, h3, tb⟩
        have hxi : xs[i]? = some xs[i] := List.getElem?_eq_getElem hi
        have hyj : ys[j]? = some ys[j] := List.getElem?_eq_getElem hj
        have hlen := tb.len
        have hrow : ∀ k, k < xs.length + 1 → ∃ r, rows[k]? = some r := fun k hk => ⟨rows[k], List.getElem?_eq_getElem (by omega)⟩
        walk_at "gg"
        refine g_ixZ (by walk_at "h") (by omega) (by omega) (fun x hx' => ?_)
        walk_at "gg"
        refine g_ixZ (by walk_at "h") (by omega) (by omega) (fun y hy' => ?_)
        have ex : x = xs[i] := Option.some.inj (hx'.symm.trans hxi)
        have ey : y = ys[j] := Option.some.inj (hy'.symm.trans hyj)
        subst ex ey
        have la := lc_at hxi hyj
        walk_at "gg"
        refine i_d (fun e => ?_) (fun e => ?_)
        · rw [if_pos e] at la
          walk_at "gg"
          refine g_ixRow h3 (by omega) (by omega) (fun r hr h5 => ?_)
          have e1 : ((i : Int) + 1).toNat = i + 1 := by omega
          have e2 : ((j : Int) + 1).toNat = j + 1 := by omega
          rw [e1] at hr
          have hw := tb.wid _ _ hr
          walk_at "gg"
          refine g_ixI h5 (by omega) (by omega) (fun z hz => ?_)
          rw [e2, tb.get hr (by omega) (by unfold tz; omega)] at hz
          have hz' := (Option.some.inj hz).symm
          walk_at "gg"
          refine g_ixRow h3 (by omega) (by omega) (fun r2 hr2 h6 => ?_)
          walk_at "gg"
          have hr2' : rows[i]? = some r2 := hr2
          have hw2 := tb.wid _ _ hr2'
          refine g_setRow h3 hr2' (by omega) (by omega) (fun H4 h4 => ?_)
          exact ⟨_, _, rfl, h4, tb.set hr2' (by rw [la, hz']; omega) (by omega)⟩
        · rw [if_neg e] at la
          walk_at "gg"
          refine g_ixRow h3 (by omega) (by omega) (fun r hr h5 => ?_)
          have e1 : ((i : Int) + 1).toNat = i + 1 := by omega
          have e2 : ((j : Int) + 1).toNat = j + 1 := by omega
          rw [e1] at hr
          have hw := tb.wid _ _ hr
          walk_at "gg"
          refine g_ixI h5 (by omega) (by omega) (fun z hz => ?_)
          rw [show ((j : Int)).toNat = j from rfl, tb.get hr (by omega) (by unfold tz; omega)] at hz
          have hz' := (Option.some.inj hz).symm
          walk_at "gg"
          refine g_ixRow h3 (by omega) (by omega) (fun r3 hr3 h7 => ?_)
          have hr3' : rows[i]? = some r3 := hr3
          have hw3 := tb.wid _ _ hr3'
          walk_at "gg"
          refine g_ixI h7 (by omega) (by omega) (fun z3 hz3 => ?_)
          rw [e2, tb.get hr3' (by omega) (by unfold tz; omega)] at hz3
          have hz3' := (Option.some.inj hz3).symm
          walk_at "gg"
          refine g_ixRow h3 (by omega) (by omega) (fun r2 hr2 h6 => ?_)
          walk_at "gg"
          have hr2' : rows[i]? = some r2 := hr2
          have hw2 := tb.wid _ _ hr2'
          refine g_setRow h3 hr2' (by omega) (by omega) (fun H4 h4 => ?_)
          exact ⟨_, _, rfl, h4, tb.set hr2' (by rw [la, hz', hz3']; omega) (by omega)⟩
      · rintro σ H3 ⟨rows, y4, rfl, h3, tb⟩
        exact ⟨rows, _, _, rfl, h3, tb⟩
    · rintro σ H2 ⟨rows, y3, y4, rfl, h2, tb⟩
      walk_at "gg"
      exact q D H2 h2.same (hh.free) ⟨rows, tb, h2.tab, fun r hr => h2.get (List.mem_append_left _ (List.mem_cons_of_mem _ (List.mem_map.mpr ⟨r, hr, rfl⟩)))⟩
theorem Table.up {H H' : Hp} (h : Table H t xs ys) (s : Same H H') : Table H' t xs ys := by
  obtain ⟨rows, tb, h1, h2⟩ := h
  exact ⟨rows, tb, s _ _ h1, fun r hr => s _ _ (h2 r hr)⟩
def sp_matched (K : PySem.W.Frag) : Sp := fun vs H Q _ => ∃ (a b : Addr) (xs ys : List Str), vs = [.ref a, .ref b] ∧ H a = some (.lst (xs.map V.str)) ∧ H b = some (.lst (ys.map V.str)) ∧ xs.length ≤ 1000 ∧ ys.length ≤ 1000 ∧
  ∀ p H' (vs : List V), Same H H' → H p = none → H' p = some (.lst vs) → DqAll H' vs ((mt xs ys 0 0).map prd) → Q (.ref p) H'
theorem sp_matched_len {vs H Q E} (h : sp_matched K vs H Q E) : vs.length = 2 := by
  obtain ⟨_, _, _, _, rfl, _⟩ := h
  rfl
theorem ok_matched (T : Txt K mg) : FnOk P w K mg base CX0 2 T.f_matched T.fd_matched ["old", "new"] (sp_matched K) := by
  refine T.F_matched.ok sc_matched (fun vs H Q E h => sp_matched_len h) (fun cdv A outer s H vs Q E hr h => ?_)
  refine ⟨_, (pss_cons (ps_set (i := 2) sc_matched.nd rfl (.inl rfl) (pe_call (ok_common_lengths T) (hr.mono (by decide)) (by rfl) T.g_common_lengths T.F_common_lengths.kp T.b_common_lengths .nil pass0 (pa_cons (pv 0) (pa_cons (pv 1) pa_nil))))
      (pss_cons (ps_set (i := 3) sc_matched.nd rfl (.inl rfl) (pe_lst pa_nil))
      (pss_cons (ps_set (i := 4) sc_matched.nd rfl (.inl rfl) pe_int)
      (pss_cons (ps_set (i := 5) sc_matched.nd rfl (.inl rfl) pe_int)
      (pss_cons (ps_while PassesOwn.never (PW.pt (pw_and (pt_cmpR op_lt (pv 4) (pe_callB (cr_lenK K) (by rfl) T.m_len (by decide +kernel) (pa_cons (pv 0) pa_nil)) (nomark _)) (pw_and1 (pt_cmpR op_lt (pv 5) (pe_callB (cr_lenK K) (by rfl) T.m_len (by decide +kernel) (pa_cons (pv 1) pa_nil)) (nomark _))))) (pss_one (ps_if (pt_cmpR (op_eqK K hr.units) (pe_ix (ix_K K (hu_of hr)) (pv 0) (pv 4) (fun _ _ => rfl)) (pe_ix (ix_K K (hu_of hr)) (pv 1) (pv 5) (fun _ _ => rfl)) (nomark _)) (pss_cons (ps_expr (k_bm K (pe_bm PySem.F.plainAttrs_list PySem.F.slot_list_append PySem.F.type_list_append mt_append (pv 3) (pa_cons (pe_tup (pa_cons (pv 4) (pa_cons (pv 5) pa_nil))) pa_nil))))
      (pss_cons (ps_aug (i := 4) sc_matched.nd rfl (.inl rfl) pe_int ip_add)
      (pss_one (ps_aug (i := 5) sc_matched.nd rfl (.inl rfl) pe_int ip_add)))) (pss_one (ps_if (pt_cmpR op_ge (pe_ix (ix_K K (hu_of hr)) (pe_ix (ix_K K (hu_of hr)) (pv 2) (pe_op (op_addK K) (pv 4) pe_int) (fun _ _ => rfl)) (pv 5) (fun _ _ => rfl)) (pe_ix (ix_K K (hu_of hr)) (pe_ix (ix_K K (hu_of hr)) (pv 2) (pv 4) (fun _ _ => rfl)) (pe_op (op_addK K) (pv 5) pe_int) (fun _ _ => rfl)) (nomark _)) (pss_one (ps_aug (i := 4) sc_matched.nd rfl (.inl rfl) pe_int ip_add)) (pss_one (ps_aug (i := 5) sc_matched.nd rfl (.inl rfl) pe_int ip_add)))))))
      (pss_one (ps_ret (pv 3)))))))), ?_⟩
  obtain ⟨a, b, xs, ys, rfl, ha, hb, hx, hy, q⟩ := h
  refine g_start (σ' := [some (.ref a), some (.ref b), none, none, none, none]) rfl ?_
  walk_at "gg"
  refine ⟨a, b, xs, ys, rfl, ha, hb, hx, hy, fun t H1 s0 n1 tab => ?_⟩
  have ha1 := s0 _ _ ha
  have hb1 := s0 _ _ hb
  have hH := Has.start H1
  walk_at "gg"
  refine g_klst (by walk_at "sz") hH (fun p H2 n2 h2 => ?_)
  walk_at "gg"
  refine g_while (fun k σ H' => ∃ (i j : Nat) (acc : List (Nat × Nat)) (vs : List V) (F : Hp), σ = [some (.ref a), some (.ref b), some (.ref t), some (.ref p), some (.int i), some (.int j)] ∧ Same H1 F ∧ Has F [(p, .lst vs)] H' ∧ DqAll F vs (acc.map prd) ∧ acc ++ mt (xs.drop i) (ys.drop j) i j = mt xs ys 0 0 ∧ i ≤ xs.length ∧ j ≤ ys.length ∧ acc.length ≤ i ∧ k = (xs.length - i) + (ys.length - j)) _ ⟨0, 0, [], [], H1, rfl, Same.refl _, h2, .nil, by simp, by omega, by omega, by simp, rfl⟩ ?_
  · rintro k σ H3 ⟨i, j, acc, vs, F, rfl, sF, h3, dq, ea, hi, hj, hac, rfl⟩
    have ha3 : F a = some (.lst (xs.map V.str)) := sF _ _ ha1
    have hb3 : F b = some (.lst (ys.map V.str)) := sF _ _ hb1
    have tab3 : Table H3 t xs ys := (tab.up sF).up h3.same
    refine g_fact (fun c => c = true ↔ (i < xs.length ∧ j < ys.length)) (fun R r => ?_) (fun c hc => ?_)
    · walk_at "gg"
      rw [List.length_map]
      refine i_d (fun l1 => ?_) (fun l1 => r _ ⟨fun z => (Bool.false_ne_true z).elim, fun z => by omega⟩)
      walk_at "gg"
      rw [List.length_map]
      exact r _ ⟨fun z => by have := of_decide_eq_true z; omega, fun z => decide_eq_true (by omega)⟩
    cases c with
    | true =>
      have hij := hc.mp rfl
      have hxi : xs[i]? = some xs[i] := List.getElem?_eq_getElem hij.1
      have hyj : ys[j]? = some ys[j] := List.getElem?_eq_getElem hij.2
      have ma := mt_at hxi hyj
      refine kwh_t ?_
      walk_at "gg"
      refine g_ixZ (by walk_at "h") (by omega) (by omega) (fun x hx' => ?_)
      walk_at "gg"
      refine g_ixZ (by walk_at "h") (by omega) (by omega) (fun y hy' => ?_)
      have ex : x = xs[i] := Option.some.inj (hx'.symm.trans hxi)
      have ey : y = ys[j] := Option.some.inj (hy'.symm.trans hyj)
      subst ex ey
      walk_at "gg"
      refine i_d (fun e => ?_) (fun e => ?_)
      · rw [if_pos e] at ma
        walk_at "gg"
        refine g_ktupF (by walk_at "sz") h3 (fun T H4 F' n4 s4 hT h4 => ?_)
        walk_at "gg"
        have hvl : vs.length = acc.length := by rw [dq.len, List.length_map]
        refine g_append h4 (by walk_at "c") (szl (by omega)) (fun H5 h5 => ?_)
        walk_at "gg"
        refine ⟨(xs.length - (i + 1)) + (ys.length - (j + 1)), by omega, i + 1, j + 1, acc ++ [(i, j)], _, F', rfl, sF.trans s4, h5, ?_, ?_, by omega, by omega, by rw [List.length_append]; show acc.length + 1 ≤ _; omega, rfl⟩
        · rw [List.map_append]
          exact (dq.up s4 _ _).snoc (.tup hT (.cons (.int _) (.cons (.int _) .nil)))
        · rw [← ea, ma, List.append_assoc]
          rfl
      · rw [if_neg e] at ma
        walk_at "gg"
        refine g_tabAt tab3 (by omega) (by omega) (fun r hr => ?_)
        walk_at "gg"
        refine g_ixV hr (by omega) (by rw [List.length_map, List.length_range]; omega) (fun v hv => ?_)
        rw [List.getElem?_map, List.getElem?_range (by omega)] at hv
        have hv' := (Option.some.inj hv).symm
        subst hv'
        walk_at "gg"
        refine g_tabAt tab3 (by omega) (by omega) (fun r hr => ?_)
        walk_at "gg"
        refine g_ixV hr (by omega) (by rw [List.length_map, List.length_range]; omega) (fun v hv => ?_)
        rw [List.getElem?_map, List.getElem?_range (by omega)] at hv
        have hv' := (Option.some.inj hv).symm
        subst hv'
        walk_at "gg"
        have e1 : ((i : Int) + 1).toNat = i + 1 := by omega
        have e2 : ((j : Int) + 1).toNat = j + 1 := by omega
        rw [e1, e2]
        refine i_d (fun g => ?_) (fun g => ?_)
        · have g' : lc (xs.drop (i + 1)) (ys.drop j) ≥ lc (xs.drop i) (ys.drop (j + 1)) := Int.ofNat_le.mp g
          rw [if_pos g'] at ma
          walk_at "gg"
          exact ⟨(xs.length - (i + 1)) + (ys.length - j), by omega, i + 1, j, acc, vs, F, rfl, sF, h3, dq, by rw [← ea, ma], by omega, hj, by omega, rfl⟩
        · have g' : ¬ lc (xs.drop (i + 1)) (ys.drop j) ≥ lc (xs.drop i) (ys.drop (j + 1)) := fun z => g (Int.ofNat_le.mpr z)
          rw [if_neg g'] at ma
          walk_at "gg"
          exact ⟨(xs.length - i) + (ys.length - (j + 1)), by omega, i, j + 1, acc, vs, F, rfl, sF, h3, dq, by rw [← ea, ma], hi, by omega, by omega, rfl⟩
    | false =>
      have hij : xs.length ≤ i ∨ ys.length ≤ j := by
        have : ¬ (i < xs.length ∧ j < ys.length) := fun z => Bool.false_ne_true (hc.mpr z)
        omega
      refine kwh_f ?_
      rw [mt_end hij, List.append_nil] at ea
      subst ea
      walk_at "gg"
      exact q p H3 vs (s0.trans (sF.trans h3.same)) (s0.free n2) (by walk_at "h") (dq.up h3.same _ _)

end

theorem prd_inv {F : Hp} {v : V} {p : Nat × Nat} (h : Dq F v (prd p)) : ∃ T, v = .ref T ∧ F T = some (.tup [.int p.1, .int p.2]) := by
  cases h with
  | tup hT hs =>
    cases hs with
    | cons h1 hs =>
      cases hs with
      | cons h2 hs =>
        cases hs
        cases h1
        cases h2
        exact ⟨_, rfl, hT⟩
theorem prd_rm {H : Hp} {a : Addr} {o : HO} (h : H a = some o) (ho : ∀ xs, o ≠ .tup xs) : ∀ {vs : List V} {ps : List (Nat × Nat)}, DqAll H vs (ps.map prd) → DqAll (rm H a) vs (ps.map prd)
  | _, [], .nil => .nil
  | _, p :: ps, .cons d t => by
    refine .cons ?_ (prd_rm h ho t)
    obtain ⟨T, rfl, hT⟩ := prd_inv d
    refine .tup ?_ (.cons (.int _) (.cons (.int _) .nil))
    rw [rm_ne (ne_of hT h (fun e => ho _ e.symm))]
    exact hT
theorem prd_re {F H : Hp} {O : Own} (h : Has F O H) (ho : ∀ p ∈ O, ∀ xs, p.2 ≠ .tup xs) : ∀ {vs : List V} {ps : List (Nat × Nat)}, DqAll H vs (ps.map prd) → DqAll (rmO O H) vs (ps.map prd)
  | _, [], .nil => .nil
  | _, p :: ps, .cons d t => by
    refine .cons ?_ (prd_re h ho t)
    obtain ⟨T, rfl, hT⟩ := prd_inv d
    exact .tup (h.re_of hT fun p hp => ho p hp _) (.cons (.int _) (.cons (.int _) .nil))

end K09

namespace K09
open PySem PySem.Spec PyProof.Rows L2 Qk
local macro_rules | `(tactic| walk_at "m") => `(tactic| ((repeat (first | exact List.Mem.head _ | apply List.Mem.tail)); done))
local macro_rules | `(tactic| walk_at "h") => `(tactic| first | assumption | exact Has.gF (by assumption) (by assumption) | exact Has.get (by assumption) (by walk_at "m"))
local macro_rules | `(tactic| walk_at "c") => `(tactic| ((repeat (first | exact Chg.hd | apply Chg.tl)); done))
local macro_rules | `(tactic| walk_at "is") => `(tactic| first
  | ((with_reducible refine' is2_non ?gh ?_); (case gh => walk_at "h"))
  | (with_reducible refine is_int_list ?_)
  | (with_reducible refine is_int_tuple ?_)
  | (with_reducible refine is_int_dict ?_)
  | (with_reducible refine is_int_int ?_)
  | (with_reducible refine is_int_bool ?_)
  | (with_reducible refine is_int_str ?_)
  | ((with_reducible refine' is2_int ?gh ?_); (case gh => walk_at "h"))
  | (with_reducible refine is_str_list ?_)
  | (with_reducible refine is_str_tuple ?_)
  | (with_reducible refine is_str_dict ?_)
  | (with_reducible refine is_str_int ?_)
  | (with_reducible refine is_str_bool ?_)
  | (with_reducible refine is_str_str ?_)
  | ((with_reducible refine' is2_str ?gh ?_); (case gh => walk_at "h"))
  | (with_reducible refine is_bool_list ?_)
  | (with_reducible refine is_bool_tuple ?_)
  | (with_reducible refine is_bool_dict ?_)
  | (with_reducible refine is_bool_int ?_)
  | (with_reducible refine is_bool_bool ?_)
  | (with_reducible refine is_bool_str ?_)
  | ((with_reducible refine' is2_bool ?gh ?_); (case gh => walk_at "h"))
  | ((with_reducible refine' is_list_list ?gh ?_); (case gh => walk_at "h"))
  | ((with_reducible refine' is_list_tuple ?gh ?_); (case gh => walk_at "h"))
  | ((with_reducible refine' is_list_dict ?gh ?_); (case gh => walk_at "h"))
  | ((with_reducible refine' is_list_int ?gh ?_); (case gh => walk_at "h"))
  | ((with_reducible refine' is_list_bool ?gh ?_); (case gh => walk_at "h"))
  | ((with_reducible refine' is_list_str ?gh ?_); (case gh => walk_at "h"))
  | ((with_reducible refine' is2_list ?ga ?gb ?_); (case ga => walk_at "h"); (case gb => walk_at "h"))
  | ((with_reducible refine' is_tuple_list ?gh ?_); (case gh => walk_at "h"))
  | ((with_reducible refine' is_tuple_tuple ?gh ?_); (case gh => walk_at "h"))
  | ((with_reducible refine' is_tuple_dict ?gh ?_); (case gh => walk_at "h"))
  | ((with_reducible refine' is_tuple_int ?gh ?_); (case gh => walk_at "h"))
  | ((with_reducible refine' is_tuple_bool ?gh ?_); (case gh => walk_at "h"))
  | ((with_reducible refine' is_tuple_str ?gh ?_); (case gh => walk_at "h"))
  | ((with_reducible refine' is2_tuple ?ga ?gb ?_); (case ga => walk_at "h"); (case gb => walk_at "h"))
  | ((with_reducible refine' is_dict_list ?gh ?_); (case gh => walk_at "h"))
  | ((with_reducible refine' is_dict_tuple ?gh ?_); (case gh => walk_at "h"))
  | ((with_reducible refine' is_dict_dict ?gh ?_); (case gh => walk_at "h"))
  | ((with_reducible refine' is_dict_int ?gh ?_); (case gh => walk_at "h"))
  | ((with_reducible refine' is_dict_bool ?gh ?_); (case gh => walk_at "h"))
  | ((with_reducible refine' is_dict_str ?gh ?_); (case gh => walk_at "h"))
  | ((with_reducible refine' is2_dict ?ga ?gb ?_); (case ga => walk_at "h"); (case gb => walk_at "h")))
local macro_rules | `(tactic| walk_at "g") => `(tactic| first
  | (with_reducible refine g_seq ?_)
  | (with_reducible refine g_asg ?_)
  | ((with_reducible refine g_name ?_); dsimp only [List.set, wipe, List.map])
  | ((with_reducible refine' g_var ?gv ?_); (case gv => exact rfl))
  | (with_reducible refine g_c ?_)
  | (with_reducible refine g_op ?_)
  | (with_reducible refine g_cons ?_)
  | (with_reducible refine g_nil ?_)
  | (with_reducible refine g_cb ?_)
  | (with_reducible refine g_call ?_)
  | (with_reducible refine g_tup ?_)
  | (with_reducible refine g_lst ?_)
  | (with_reducible refine g_bm ?_)
  | (with_reducible refine g_bm0 ?_)
  | ((with_reducible refine' g_kbm ?gh ?_); (case gh => walk_at "h"))
  | (with_reducible refine g_drop ?_)
  | (with_reducible refine g_ret ?_)
  | (with_reducible refine g_retN ?_)
  | (with_reducible refine g_next ?_)
  | (with_reducible refine g_brk ?_)
  | (with_reducible refine g_cont ?_)
  | (with_reducible refine g_if ?_)
  | ((with_reducible refine' g_aug ?gv ?_); (case gv => exact rfl))
  | (with_reducible refine g_ipI ?_)
  | (with_reducible refine g_test ?_)
  | (with_reducible refine g_tB ?_)
  | (with_reducible refine g_kB ?_)
  | (with_reducible refine g_not ?_)
  | (with_reducible refine g_and ?_)
  | (with_reducible refine g_or ?_)
  | (with_reducible refine g_andV ?_)
  | (with_reducible refine g_orV ?_)
  | (with_reducible refine g_notV ?_)
  | (with_reducible refine g_ifE ?_)
  | (with_reducible refine g_addI ?_)
  | (with_reducible refine g_rI0 ?_)
  | (with_reducible refine g_eqI ?_)
  | (with_reducible refine g_eqS ?_)
  | (with_reducible refine g_neI ?_)
  | (with_reducible refine g_neS ?_)
  | (with_reducible refine g_isN ?_)
  | (with_reducible refine g_notN ?_)
  | (with_reducible refine g_int ?_)
  | (with_reducible refine g_max2 ?_)
  | (with_reducible refine g_min2 ?_)
  | ((with_reducible refine' g_lenL ?gh ?_); (case gh => walk_at "h"))
  | (with_reducible refine g_sub ?_)
  | (with_reducible refine g_gcons ?_)
  | (with_reducible refine g_gnil ?_)
  | (with_reducible refine g_un ?_)
  | (with_reducible refine g_rU ?_)
  | (with_reducible refine g_forL ?_)
  | (with_reducible refine g_forS ?_)
  | (with_reducible refine g_forR1 ?_)
  | (with_reducible refine g_forR2 ?_)
  | (with_reducible refine g_forR3 ?_)
  | (with_reducible refine g_lcL ?_)
  | (with_reducible refine g_lcR1 ?_)
  | (with_reducible refine g_lcR2 ?_)
  | (with_reducible refine g_slice ?_)
  | (with_reducible refine g_part ?_)
  | (with_reducible refine g_kOI ?_)
  | (with_reducible refine g_nopart ?_)
  | (with_reducible refine g_yes ?_)
  | ((with_reducible refine' g_wipe ?gv ?_); (case gv => exact rfl))
  | (with_reducible refine iteT ?_)
  | (with_reducible refine iteF ?_)
  | (with_reducible refine i_nf ?_)
  | (with_reducible refine i_nt ?_)
  | ((with_reducible refine' g_gtup ?gh ?gl ?_); (case gh => walk_at "h"); (case gl => exact rfl))
  | ((with_reducible refine' g_notinI ?gh ?_); (case gh => walk_at "h"))
  | ((with_reducible refine' g_inI ?gh ?_); (case gh => walk_at "h"))
  | ((with_reducible refine' g_kget2 ?gh ?_); (case gh => walk_at "h"))
  | ((with_reducible refine' g_kgotI ?gh ?_); (case gh => walk_at "h"))
  | (with_reducible refine g_tRev ?_)
  | (with_reducible refine g_neB ?_)
  | (with_reducible refine g_eqB ?_)
  | ((with_reducible refine' g_lenT ?gh ?_); (case gh => walk_at "h"))
  | (with_reducible refine g_star ?_)
  | ((with_reducible refine' g_kstarL ?gh ?_); (case gh => walk_at "h"))
  | ((with_reducible refine' g_kstarT ?gh ?_); (case gh => walk_at "h"))
  | (with_reducible refine g_tru ?_)
  | ((with_reducible refine' g_truL ?gh ?_); (case gh => walk_at "h"))
  | (with_reducible refine g_get2 ?_)
  | (with_reducible refine g_try ?_)
  | (with_reducible refine g_fld ?_)
  | (with_reducible refine g_sfld ?_)
  | (with_reducible refine g_meth ?_)
  | (with_reducible refine g_make ?_)
  | (with_reducible refine g_del ?_)
  | (with_reducible refine g_callS ?_)
  | (with_reducible refine g_raise ?_)
  | (with_reducible refine g_xf ?_)
  | (with_reducible refine g_m0 ?_)
  | (with_reducible refine g_km0 ?_)
  | walk_at "is")
local macro_rules | `(tactic| walk_at "gg") => `(tactic| repeat walk_at "g")
local macro_rules | `(tactic| walk_at "sz") => `(tactic| (refine sz ?_; simp only [List.length_cons, List.length_nil, List.length_map, List.length_append, List.length_replicate]; omega))
local macro_rules | `(tactic| walk_at "sub") => `(tactic| ((repeat (first | exact List.Sublist.slnil | with_reducible apply List.Sublist.cons_cons | with_reducible apply List.Sublist.cons)); done))

/-! ### _law_same, trees among the data -/
/-- what _law_same finds the same, n deep -/
def Sm (H : Hp) : Nat → V → V → Prop
  | 0, _, _ => False
  | n + 1, x, y => (x = .non ∧ y = .non) ∨ (∃ i : Int, x = .int i ∧ y = .int i) ∨ (∃ z : Str, x = .str z ∧ y = .str z) ∨
    (∃ (a b : Addr) (xs ys : List V), x = .ref a ∧ y = .ref b ∧ ((H a = some (.lst xs) ∧ H b = some (.lst ys)) ∨ (H a = some (.tup xs) ∧ H b = some (.tup ys))) ∧ xs.length = ys.length ∧ xs.length ≤ 100000 ∧ ∀ (i : Nat) (u v : V), xs[i]? = some u → ys[i]? = some v → Sm H n u v) ∨
    (∃ (a b : Addr) (A : Tr), x = .ref a ∧ y = .ref b ∧ TrAt H a A ∧ TrAt H b A ∧ 2 ≤ n ∧ A.length ≤ 1000 ∧ ∀ p ∈ A, p.2.length ≤ 1000)
theorem Sm.up {H H' : Hp} (s : Same H H') : ∀ {n : Nat} {x y : V}, Sm H n x y → Sm H' n x y
  | 0, _, _, h => h.elim
  | n + 1, _, _, h => by
    rcases h with h | h | h | ⟨a, b, xs, ys, e1, e2, h1, l1, l2, h2⟩ | ⟨a, b, A, e1, e2, t1, t2, r⟩
    · exact .inl h
    · exact .inr (.inl h)
    · exact .inr (.inr (.inl h))
    · refine .inr (.inr (.inr (.inl ⟨a, b, xs, ys, e1, e2, ?_, l1, l2, fun i u v hu hv => (h2 i u v hu hv).up s⟩)))
      rcases h1 with h1 | h1
      · exact .inl ⟨s _ _ h1.1, s _ _ h1.2⟩
      · exact .inr ⟨s _ _ h1.1, s _ _ h1.2⟩
    · exact .inr (.inr (.inr (.inr ⟨a, b, A, e1, e2, t1.up s, t2.up s, r⟩)))
theorem Sm.strs {H : Hp} {n : Nat} {a b : Addr} {xs : List Str} (ha : H a = some (.lst (xs.map V.str))) (hb : H b = some (.lst (xs.map V.str))) (l : xs.length ≤ 100000) : Sm H (n + 2) (.ref a) (.ref b) := by
  refine .inr (.inr (.inr (.inl ⟨a, b, _, _, rfl, rfl, .inl ⟨ha, hb⟩, rfl, by rw [List.length_map]; exact l, fun i u v hu hv => ?_⟩)))
  rw [hu] at hv
  injection hv with hv
  subst hv
  rw [List.getElem?_map] at hu
  obtain ⟨z, _, rfl⟩ := Option.map_eq_some_iff.mp hu
  exact .inr (.inr (.inl ⟨z, rfl, rfl⟩))
theorem Sm.non {H : Hp} {n : Nat} : Sm H (n + 1) .non .non := .inl ⟨rfl, rfl⟩
theorem Sm.int {H : Hp} {n : Nat} {i : Int} : Sm H (n + 1) (.int i) (.int i) := .inr (.inl ⟨i, rfl, rfl⟩)
theorem Sm.tree {H : Hp} {n : Nat} {a b : Addr} {A : Tr} (h1 : TrAt H a A) (h2 : TrAt H b A) (l : A.length ≤ 1000) (lt : ∀ p ∈ A, p.2.length ≤ 1000) : Sm H (n + 3) (.ref a) (.ref b) := .inr (.inr (.inr (.inr ⟨a, b, A, rfl, rfl, h1, h2, by omega, l, lt⟩)))
section
variable {P : Program} {w : World} {K : PySem.W.Frag} {mg : Str → Option Value} {base : Heap}
def sp_l_same_n (K : PySem.W.Frag) (n : Nat) : Sp := fun vs H Q _ => ∃ (x y : V), vs = [x, y] ∧ Sm H n x y ∧ ∀ H', Same H H' → Q (.bl true) H'
theorem sp_l_same_n_len {n vs H Q E} (h : sp_l_same_n K n vs H Q E) : vs.length = 2 := by
  obtain ⟨_, _, rfl, _⟩ := h
  rfl
set_option maxHeartbeats 1000000 in
theorem ok_l_same_n (T : Txt K mg) (n : Nat) : FnOk P w K mg base CX0 n T.f_l_same T.fd_l_same ["told", "due"] (sp_l_same_n K n) := by
  induction n with
  | zero =>
    refine ⟨fun _ _ _ _ h => sp_l_same_n_len h, fun _ _ _ _ _ _ _ _ _ _ _ _ _ h => ?_⟩
    obtain ⟨_, _, _, h, _⟩ := h
    exact h.elim
  | succ n GR =>
  refine T.F_l_same.ok sc_l_same (fun vs H Q E h => sp_l_same_n_len h) (fun cdv A outer s H vs Q E hr h => ?_)
  refine ⟨_, (pss_cons (ps_if (pt_val (pe_callB (cr_isK K) (by rfl) T.m_isinstance (by decide +kernel) (pa_cons (pv 1) (pa_cons (pe_tup (pa_cons (pe_bltn (v := .ty "list") (by rfl) T.m_list (by decide +kernel) rfl) (pa_cons (pe_bltn (v := .ty "tuple") (by rfl) T.m_tuple (by decide +kernel) rfl) pa_nil))) pa_nil)))) (pss_cons (ps_if (pt_cmpR (op_neK K hr.units) (pe_callB (cr_isK K) (by rfl) T.m_isinstance (by decide +kernel) (pa_cons (pv 0) (pa_cons (pe_bltn (v := .ty "list") (by rfl) T.m_list (by decide +kernel) rfl) pa_nil))) (pe_callB (cr_isK K) (by rfl) T.m_isinstance (by decide +kernel) (pa_cons (pv 1) (pa_cons (pe_bltn (v := .ty "list") (by rfl) T.m_list (by decide +kernel) rfl) pa_nil))) (nomark _)) (pss_one (ps_ret pe_bl)) pss_nil)
      (pss_cons (ps_if (PW.pt (pw_or (pt_cmpR (op_neK K hr.units) (pe_callB (cr_isK K) (by rfl) T.m_isinstance (by decide +kernel) (pa_cons (pv 0) (pa_cons (pe_bltn (v := .ty "tuple") (by rfl) T.m_tuple (by decide +kernel) rfl) pa_nil))) (pe_callB (cr_isK K) (by rfl) T.m_isinstance (by decide +kernel) (pa_cons (pv 1) (pa_cons (pe_bltn (v := .ty "tuple") (by rfl) T.m_tuple (by decide +kernel) rfl) pa_nil))) (nomark _)) (pw_or1 (pt_cmpR (op_neK K hr.units) (pe_callB (cr_lenK K) (by rfl) T.m_len (by decide +kernel) (pa_cons (pv 0) pa_nil)) (pe_callB (cr_lenK K) (by rfl) T.m_len (by decide +kernel) (pa_cons (pv 1) pa_nil)) (nomark _))))) (pss_one (ps_ret pe_bl)) pss_nil)
      (pss_cons (ps_for PassesOwn.never rfl (pi_range1 rfl T.m_range (pa_cons (pe_callB (cr_lenK K) (by rfl) T.m_len (by decide +kernel) (pa_cons (pv 1) pa_nil)) pa_nil)) (pg_name (i := 2) sc_l_same.nd rfl (.inl rfl)) (pss_one (ps_if (pt_not (pt_val (pe_call GR hr (by rfl) T.g_l_same T.F_l_same.kp T.b_l_same .nil pass0 (pa_cons (pe_ix (ix_K K (hu_of hr)) (pv 0) (pv 2) (fun _ _ => rfl)) (pa_cons (pe_ix (ix_K K (hu_of hr)) (pv 1) (pv 2) (fun _ _ => rfl)) pa_nil))))) (pss_one (ps_ret pe_bl)) pss_nil)))
      (pss_one (ps_ret pe_bl))))) pss_nil)
      (pss_cons (ps_if (pt_val (pe_callB (cr_isK K) (by rfl) T.m_isinstance (by decide +kernel) (pa_cons (pv 1) (pa_cons (pe_bltn (v := .ty "dict") (by rfl) T.m_dict (by decide +kernel) rfl) pa_nil)))) (pss_cons (ps_if (PW.pt (pw_or (pt_not (pt_val (pe_callB (cr_isK K) (by rfl) T.m_isinstance (by decide +kernel) (pa_cons (pv 0) (pa_cons (pe_bltn (v := .ty "dict") (by rfl) T.m_dict (by decide +kernel) rfl) pa_nil))))) (pw_or1 (pt_not (pt_val (pe_call GR hr (by rfl) T.g_l_same T.F_l_same.kp T.b_l_same .nil pass0 (pa_cons (pe_callTy (cr_listD rfl) (by rfl) T.m_list (by decide +kernel) (pa_cons (pv 0) pa_nil)) (pa_cons (pe_callTy (cr_listD rfl) (by rfl) T.m_list (by decide +kernel) (pa_cons (pv 1) pa_nil)) pa_nil)))))))) (pss_one (ps_ret pe_bl)) pss_nil)
      (pss_cons (ps_lock (ps_for PassesOwn.never rfl (pi_keys (pv 1)) (pg_name (i := 3) sc_l_same.nd rfl (.inl rfl)) (pss_one (ps_if (pt_not (pt_val (pe_call GR hr (by rfl) T.g_l_same T.F_l_same.kp T.b_l_same .nil pass0 (pa_cons (pe_ix (ix_K K (hu_of hr)) (pv 0) (pv 3) (fun _ _ => rfl)) (pa_cons (pe_ix (ix_K K (hu_of hr)) (pv 1) (pv 3) (fun _ _ => rfl)) pa_nil))))) (pss_one (ps_ret pe_bl)) pss_nil))))
      (pss_one (ps_ret pe_bl)))) pss_nil)
      (pss_cons (ps_if (pt_cmpR op_isNA (pv 1) pe_non (nomark _)) (pss_one (ps_ret (pe_cmpR op_isNA (pv 0) pe_non (nomark _)))) pss_nil)
      (pss_cons (ps_if (pt_val (pe_callB (cr_isK K) (by rfl) T.m_isinstance (by decide +kernel) (pa_cons (pv 1) (pa_cons (pe_bltn (v := .ty "int") (by rfl) T.m_int (by decide +kernel) rfl) pa_nil)))) (pss_one (ps_ret (pe_and (pe_callB (cr_isK K) (by rfl) T.m_isinstance (by decide +kernel) (pa_cons (pv 0) (pa_cons (pe_bltn (v := .ty "int") (by rfl) T.m_int (by decide +kernel) rfl) pa_nil))) (pe_and (pe_not (pe_callB (cr_isK K) (by rfl) T.m_isinstance (by decide +kernel) (pa_cons (pv 0) (pa_cons (pe_bltn (v := .ty "bool") (by rfl) T.m_bool (by decide +kernel) rfl) pa_nil)))) (pe_one (pe_cmpR (op_eqK K hr.units) (pv 0) (pv 1) (nomark _))))))) pss_nil)
      (pss_one (ps_ret (pe_and (pe_callB (cr_isK K) (by rfl) T.m_isinstance (by decide +kernel) (pa_cons (pv 0) (pa_cons (pe_bltn (v := .ty "str") (by rfl) T.m_str (by decide +kernel) rfl) pa_nil))) (pe_one (pe_cmpR (op_eqK K hr.units) (pv 0) (pv 1) (nomark _)))))))))), ?_⟩
  obtain ⟨x, y, rfl, hs, q⟩ := h
  have hH := Has.start H
  refine g_start (σ' := [some (x), some (y), none, none]) rfl ?_
  rcases hs with ⟨rfl, rfl⟩ | ⟨i, rfl, rfl⟩ | ⟨z, rfl, rfl⟩ | ⟨a, b, xs, ys, rfl, rfl, hab, l1, l2, hs⟩ | ⟨a, b, A, rfl, rfl, t1, t2, hn, lA, lt⟩
  · walk_at "gg"
    refine g_ktupF (by walk_at "sz") hH (fun p1 H1 F1 n1 s1 f1 h1 => ?_)
    walk_at "gg"
    refine g_is (b := false) (.base .non) (by decide +kernel) ?_
    walk_at "gg"
    refine i_d (fun _ => ?_) (fun z => (z rfl).elim)
    walk_at "gg"
    rw [decide_eq_true rfl]
    exact q H1 (s1.trans h1.same)
  · walk_at "gg"
    refine g_ktupF (by walk_at "sz") hH (fun p1 H1 F1 n1 s1 f1 h1 => ?_)
    walk_at "gg"
    refine i_d (fun z => by cases z) (fun _ => ?_)
    walk_at "gg"
    rw [decide_eq_true rfl]
    exact q H1 (s1.trans h1.same)
  · walk_at "gg"
    refine g_ktupF (by walk_at "sz") hH (fun p1 H1 F1 n1 s1 f1 h1 => ?_)
    walk_at "gg"
    refine i_d (fun z => by cases z) (fun _ => ?_)
    walk_at "gg"
    rw [decide_eq_true rfl]
    exact q H1 (s1.trans h1.same)
  · walk_at "gg"
    refine g_ktupF (by walk_at "sz") hH (fun p1 H1 F1 n1 s1 f1 h1 => ?_)
    rcases hab with ⟨ha, hb⟩ | ⟨ha, hb⟩
    · have ha1 := s1 _ _ ha
      have hb1 := s1 _ _ hb
      walk_at "gg"
      refine i_n (fun z => (z rfl).elim) (fun _ => ?_)
      walk_at "gg"
      refine i_n (fun z => (z rfl).elim) (fun _ => ?_)
      walk_at "gg"
      refine i_n (fun z => (z (by rw [l1])).elim) (fun _ => ?_)
      walk_at "gg"
      refine k_forR1 (fun i σ H' => ∃ y2 y3, σ = [some (.ref a), some (.ref b), y2, y3] ∧ Has F1 [] H') (by omega) (by omega) ⟨_, _, rfl, h1⟩ ?_ ?_
      · rintro i σ H2 hi ⟨y2, y3, rfl, h2⟩
        walk_at "gg"
        refine g_ixV (by walk_at "h") (by omega) (by omega) (fun u hu => ?_)
        walk_at "gg"
        refine g_ixV (by walk_at "h") (by omega) (by omega) (fun v hv => ?_)
        walk_at "gg"
        refine ⟨u, v, rfl, (hs _ u v hu hv).up (s1.trans h2.same), fun H3 s3 => ?_⟩
        walk_at "gg"
        exact ⟨_, _, rfl, h2.on s3⟩
      · rintro σ H2 ⟨y2, y3, rfl, h2⟩
        walk_at "gg"
        exact q H2 (s1.trans h2.same)
    · have ha1 := s1 _ _ ha
      have hb1 := s1 _ _ hb
      walk_at "gg"
      refine i_n (fun z => (z rfl).elim) (fun _ => ?_)
      walk_at "gg"
      refine i_n (fun z => (z rfl).elim) (fun _ => ?_)
      walk_at "gg"
      refine i_n (fun z => (z (by rw [l1])).elim) (fun _ => ?_)
      walk_at "gg"
      refine k_forR1 (fun i σ H' => ∃ y2 y3, σ = [some (.ref a), some (.ref b), y2, y3] ∧ Has F1 [] H') (by omega) (by omega) ⟨_, _, rfl, h1⟩ ?_ ?_
      · rintro i σ H2 hi ⟨y2, y3, rfl, h2⟩
        walk_at "gg"
        refine g_ixVT (by walk_at "h") (by omega) (by omega) (fun u hu => ?_)
        walk_at "gg"
        refine g_ixVT (by walk_at "h") (by omega) (by omega) (fun v hv => ?_)
        walk_at "gg"
        refine ⟨u, v, rfl, (hs _ u v hu hv).up (s1.trans h2.same), fun H3 s3 => ?_⟩
        walk_at "gg"
        exact ⟨_, _, rfl, h2.on s3⟩
      · rintro σ H2 ⟨y2, y3, rfl, h2⟩
        walk_at "gg"
        exact q H2 (s1.trans h2.same)
  · obtain ⟨m, rfl⟩ : ∃ m, n = m + 2 := ⟨n - 2, by omega⟩
    obtain ⟨ka, ha, eka, nda, dqa⟩ := t1
    obtain ⟨kb, hb, ekb, ndb, dqb⟩ := t2
    walk_at "gg"
    refine g_ktupF (by walk_at "sz") hH (fun p1 H1 F1 n1 s1 f1 h1 => ?_)
    have fa := s1 _ _ ha
    have fb := s1 _ _ hb
    have dqa := dqa.up s1 _ _
    have dqb := dqb.up s1 _ _
    walk_at "gg"
    refine g_listD (h1.same _ _ fa) h1 (fun p2 H2 n2 h2 => ?_)
    walk_at "gg"
    refine g_listD (h2.same _ _ fb) h2 (fun p3 H3 n3 h3 => ?_)
    rw [tr_keys eka] at h3
    rw [tr_keys ekb] at h3
    walk_at "gg"
    refine ⟨.ref p2, .ref p3, rfl, Sm.strs (h3.get (by walk_at "m")) (h3.get (List.Mem.head _)) (by rw [List.length_map]; omega), fun H4 s4 => ?_⟩
    have h4 := (h3.on s4).drop.drop
    walk_at "gg"
    refine k_forDK rfl fb h4 (fun t σ O' => ∃ y2 y3, σ = [some (.ref a), some (.ref b), y2, y3] ∧ O' = []) ⟨_, _, rfl, rfl⟩ ?_ ?_
    · rintro t k v σ O' H5 od ekv ⟨y2, y3, rfl, rfl⟩ h5
      obtain ⟨p, ep, rfl⟩ := tr_key ekb ekv
      have ra : RT (upd F1 b (.frz od (.dK kb))) a A := RT.lock fb ⟨ka, .inl fa, eka, nda, dqa⟩
      have rb : RT (upd F1 b (.frz od (.dK kb))) b A := RT.lock fb ⟨kb, .inl fb, ekb, ndb, dqb⟩
      obtain ⟨ka', rda, eka', _, dqa'⟩ := ra.up h5.same
      obtain ⟨kb', rdb, ekb', _, dqb'⟩ := rb.up h5.same
      have eg : getT A p.1 = some p.2 := getT_of nda (List.mem_of_getElem? ep)
      obtain ⟨l1, v1, hl1⟩ := tr_at eka' dqa' eg
      obtain ⟨l2, v2, hl2⟩ := tr_at ekb' dqb' eg
      walk_at "gg"
      refine g_ixDR rda v1 ?_
      walk_at "gg"
      refine g_ixDR rdb v2 ?_
      walk_at "gg"
      refine ⟨.ref l1, .ref l2, rfl, Sm.strs hl1 hl2 (by have := lt p (List.mem_of_getElem? ep); omega), fun H6 s6 => ?_⟩
      walk_at "gg"
      exact ⟨[], ⟨_, _, rfl, rfl⟩, h5.on s6⟩
    · rintro σ O' H5 ⟨y2, y3, rfl, rfl⟩ h5
      walk_at "gg"
      exact q H5 (s1.trans h5.same)
def sp_l_same (K : PySem.W.Frag) : Sp := sp_l_same_n K 6
theorem ok_l_same (T : Txt K mg) : FnOk P w K mg base CX0 6 T.f_l_same T.fd_l_same ["told", "due"] (sp_l_same K) := ok_l_same_n T 6
end

end K09

namespace K09
open PySem PySem.Spec PyProof.Rows L2 Qk
local macro_rules | `(tactic| walk_at "m") => `(tactic| ((repeat (first | exact List.Mem.head _ | apply List.Mem.tail)); done))
local macro_rules | `(tactic| walk_at "h") => `(tactic| first | assumption | exact Has.gF (by assumption) (by assumption) | exact Has.get (by assumption) (by walk_at "m"))
local macro_rules | `(tactic| walk_at "c") => `(tactic| ((repeat (first | exact Chg.hd | apply Chg.tl)); done))
local macro_rules | `(tactic| walk_at "is") => `(tactic| first
  | ((with_reducible refine' is2_non ?gh ?_); (case gh => walk_at "h"))
  | (with_reducible refine is_int_list ?_)
  | (with_reducible refine is_int_tuple ?_)
  | (with_reducible refine is_int_dict ?_)
  | (with_reducible refine is_int_int ?_)
  | (with_reducible refine is_int_bool ?_)
  | (with_reducible refine is_int_str ?_)
  | ((with_reducible refine' is2_int ?gh ?_); (case gh => walk_at "h"))
  | (with_reducible refine is_str_list ?_)
  | (with_reducible refine is_str_tuple ?_)
  | (with_reducible refine is_str_dict ?_)
  | (with_reducible refine is_str_int ?_)
  | (with_reducible refine is_str_bool ?_)
  | (with_reducible refine is_str_str ?_)
  | ((with_reducible refine' is2_str ?gh ?_); (case gh => walk_at "h"))
  | (with_reducible refine is_bool_list ?_)
  | (with_reducible refine is_bool_tuple ?_)
  | (with_reducible refine is_bool_dict ?_)
  | (with_reducible refine is_bool_int ?_)
  | (with_reducible refine is_bool_bool ?_)
  | (with_reducible refine is_bool_str ?_)
  | ((with_reducible refine' is2_bool ?gh ?_); (case gh => walk_at "h"))
  | ((with_reducible refine' is_list_list ?gh ?_); (case gh => walk_at "h"))
  | ((with_reducible refine' is_list_tuple ?gh ?_); (case gh => walk_at "h"))
  | ((with_reducible refine' is_list_dict ?gh ?_); (case gh => walk_at "h"))
  | ((with_reducible refine' is_list_int ?gh ?_); (case gh => walk_at "h"))
  | ((with_reducible refine' is_list_bool ?gh ?_); (case gh => walk_at "h"))
  | ((with_reducible refine' is_list_str ?gh ?_); (case gh => walk_at "h"))
  | ((with_reducible refine' is2_list ?ga ?gb ?_); (case ga => walk_at "h"); (case gb => walk_at "h"))
  | ((with_reducible refine' is_tuple_list ?gh ?_); (case gh => walk_at "h"))
  | ((with_reducible refine' is_tuple_tuple ?gh ?_); (case gh => walk_at "h"))
  | ((with_reducible refine' is_tuple_dict ?gh ?_); (case gh => walk_at "h"))
  | ((with_reducible refine' is_tuple_int ?gh ?_); (case gh => walk_at "h"))
  | ((with_reducible refine' is_tuple_bool ?gh ?_); (case gh => walk_at "h"))
  | ((with_reducible refine' is_tuple_str ?gh ?_); (case gh => walk_at "h"))
  | ((with_reducible refine' is2_tuple ?ga ?gb ?_); (case ga => walk_at "h"); (case gb => walk_at "h"))
  | ((with_reducible refine' is_dict_list ?gh ?_); (case gh => walk_at "h"))
  | ((with_reducible refine' is_dict_tuple ?gh ?_); (case gh => walk_at "h"))
  | ((with_reducible refine' is_dict_dict ?gh ?_); (case gh => walk_at "h"))
  | ((with_reducible refine' is_dict_int ?gh ?_); (case gh => walk_at "h"))
  | ((with_reducible refine' is_dict_bool ?gh ?_); (case gh => walk_at "h"))
  | ((with_reducible refine' is_dict_str ?gh ?_); (case gh => walk_at "h"))
  | ((with_reducible refine' is2_dict ?ga ?gb ?_); (case ga => walk_at "h"); (case gb => walk_at "h")))
local macro_rules | `(tactic| walk_at "g") => `(tactic| first
  | (with_reducible refine g_seq ?_)
  | (with_reducible refine g_asg ?_)
  | ((with_reducible refine g_name ?_); dsimp only [List.set, wipe, List.map])
  | ((with_reducible refine' g_var ?gv ?_); (case gv => exact rfl))
  | (with_reducible refine g_c ?_)
  | (with_reducible refine g_op ?_)
  | (with_reducible refine g_cons ?_)
  | (with_reducible refine g_nil ?_)
  | (with_reducible refine g_cb ?_)
  | (with_reducible refine g_call ?_)
  | (with_reducible refine g_tup ?_)
  | (with_reducible refine g_lst ?_)
  | (with_reducible refine g_bm ?_)
  | (with_reducible refine g_bm0 ?_)
  | ((with_reducible refine' g_kbm ?gh ?_); (case gh => walk_at "h"))
  | (with_reducible refine g_drop ?_)
  | (with_reducible refine g_ret ?_)
  | (with_reducible refine g_retN ?_)
  | (with_reducible refine g_next ?_)
  | (with_reducible refine g_brk ?_)
  | (with_reducible refine g_cont ?_)
  | (with_reducible refine g_if ?_)
  | ((with_reducible refine' g_aug ?gv ?_); (case gv => exact rfl))
  | (with_reducible refine g_ipI ?_)
  | (with_reducible refine g_test ?_)
  | (with_reducible refine g_tB ?_)
  | (with_reducible refine g_kB ?_)
  | (with_reducible refine g_not ?_)
  | (with_reducible refine g_and ?_)
  | (with_reducible refine g_or ?_)
  | (with_reducible refine g_andV ?_)
  | (with_reducible refine g_orV ?_)
  | (with_reducible refine g_notV ?_)
  | (with_reducible refine g_ifE ?_)
  | (with_reducible refine g_addI ?_)
  | (with_reducible refine g_rI0 ?_)
  | (with_reducible refine g_eqI ?_)
  | (with_reducible refine g_eqS ?_)
  | (with_reducible refine g_neI ?_)
  | (with_reducible refine g_neS ?_)
  | (with_reducible refine g_isN ?_)
  | (with_reducible refine g_notN ?_)
  | (with_reducible refine g_int ?_)
  | (with_reducible refine g_max2 ?_)
  | (with_reducible refine g_min2 ?_)
  | ((with_reducible refine' g_lenL ?gh ?_); (case gh => walk_at "h"))
  | (with_reducible refine g_sub ?_)
  | (with_reducible refine g_gcons ?_)
  | (with_reducible refine g_gnil ?_)
  | (with_reducible refine g_un ?_)
  | (with_reducible refine g_rU ?_)
  | (with_reducible refine g_forL ?_)
  | (with_reducible refine g_forS ?_)
  | (with_reducible refine g_forR1 ?_)
  | (with_reducible refine g_forR2 ?_)
  | (with_reducible refine g_forR3 ?_)
  | (with_reducible refine g_lcL ?_)
  | (with_reducible refine g_lcR1 ?_)
  | (with_reducible refine g_lcR2 ?_)
  | (with_reducible refine g_slice ?_)
  | (with_reducible refine g_part ?_)
  | (with_reducible refine g_kOI ?_)
  | (with_reducible refine g_nopart ?_)
  | (with_reducible refine g_yes ?_)
  | ((with_reducible refine' g_wipe ?gv ?_); (case gv => exact rfl))
  | (with_reducible refine iteT ?_)
  | (with_reducible refine iteF ?_)
  | (with_reducible refine i_nf ?_)
  | (with_reducible refine i_nt ?_)
  | ((with_reducible refine' g_gtup ?gh ?gl ?_); (case gh => walk_at "h"); (case gl => exact rfl))
  | ((with_reducible refine' g_notinI ?gh ?_); (case gh => walk_at "h"))
  | ((with_reducible refine' g_inI ?gh ?_); (case gh => walk_at "h"))
  | ((with_reducible refine' g_kget2 ?gh ?_); (case gh => walk_at "h"))
  | ((with_reducible refine' g_kgotI ?gh ?_); (case gh => walk_at "h"))
  | (with_reducible refine g_tRev ?_)
  | (with_reducible refine g_neB ?_)
  | (with_reducible refine g_eqB ?_)
  | ((with_reducible refine' g_lenT ?gh ?_); (case gh => walk_at "h"))
  | (with_reducible refine g_star ?_)
  | ((with_reducible refine' g_kstarL ?gh ?_); (case gh => walk_at "h"))
  | ((with_reducible refine' g_kstarT ?gh ?_); (case gh => walk_at "h"))
  | (with_reducible refine g_tru ?_)
  | ((with_reducible refine' g_truL ?gh ?_); (case gh => walk_at "h"))
  | (with_reducible refine g_get2 ?_)
  | (with_reducible refine g_try ?_)
  | (with_reducible refine g_fld ?_)
  | (with_reducible refine g_sfld ?_)
  | (with_reducible refine g_meth ?_)
  | (with_reducible refine g_make ?_)
  | (with_reducible refine g_del ?_)
  | (with_reducible refine g_callS ?_)
  | (with_reducible refine g_raise ?_)
  | (with_reducible refine g_xf ?_)
  | (with_reducible refine g_m0 ?_)
  | (with_reducible refine g_km0 ?_)
  | walk_at "is")
local macro_rules | `(tactic| walk_at "gg") => `(tactic| repeat walk_at "g")
local macro_rules | `(tactic| walk_at "sz") => `(tactic| (refine sz ?_; simp only [List.length_cons, List.length_nil, List.length_map, List.length_append, List.length_replicate]; omega))
local macro_rules | `(tactic| walk_at "sub") => `(tactic| ((repeat (first | exact List.Sublist.slnil | with_reducible apply List.Sublist.cons_cons | with_reducible apply List.Sublist.cons)); done))

/-! ### the draws: a list of pairs -/
def cellD (p : Int × Int) : PyData := .list [.int p.1, .int p.2]
theorem cell_inv {F : Hp} {v : V} {p : Int × Int} (h : Dq F v (cellD p)) : ∃ r, v = .ref r ∧ F r = some (.lst [.int p.1, .int p.2]) := by
  cases h with
  | lst hT hs =>
    cases hs with
    | cons h1 hs =>
      cases hs with
      | cons h2 hs =>
        cases hs
        cases h1
        cases h2
        exact ⟨_, rfl, hT⟩
theorem cells_sh (rows : List (Int × Int)) : Sh 2 (.list (rows.map cellD)) := Sh.list fun d hd => by
  obtain ⟨p, _, rfl⟩ := List.mem_map.mp hd
  exact Sh.list fun d hd => by
    rcases List.mem_cons.mp hd with rfl | hd
    · exact Sh.int _
    · rw [List.mem_singleton.mp hd]
      exact Sh.int _
/-- the draws stand at c: what is left, each number with its count -/
structure Cells (F : Hp) (c : Addr) (H : Hp) (vs : List V) : Prop where
  at_ : H c = some (.lst vs)
  dq : ∃ rows : List (Int × Int), DqAll F vs (rows.map cellD) ∧ rows.length ≤ 100
section
variable {P : Program} {w : World} {K : PySem.W.Frag} {mg : Str → Option Value} {base : Heap}
def sp_l_feed (K : PySem.W.Frag) : Sp := fun vs H Q _ => ∃ (a : Addr) (ns : List Int), vs = [.ref a] ∧ SqL K H a (ns.map V.int) ∧ ns.length ≤ 63 ∧
  ∀ p H' F' (vs : List V) (rows : List (Int × Int)), H p = none → Same H F' → Has F' [(p, .lst vs)] H' → DqAll F' vs (rows.map cellD) → rows.length ≤ 100 → Q (.ref p) H'
theorem sp_l_feed_len {vs H Q E} (h : sp_l_feed K vs H Q E) : vs.length = 1 := by
  obtain ⟨_, _, rfl, _⟩ := h
  rfl
theorem ok_l_feed (T : Txt K mg) : FnOk P w K mg base CX0 1 T.f_l_feed T.fd_l_feed ["script"] (sp_l_feed K) := by
  refine T.F_l_feed.ok sc_l_feed (fun vs H Q E h => sp_l_feed_len h) (fun cdv A outer s H vs Q E hr h => ?_)
  refine ⟨_, (pss_one (ps_ret (pe_lc (own := [("cell", 1)]) (g := gName 1) (tt := tYes) rfl sc_l_feed.nd (k_il K (pi_list (pe_slice (sl_K K) (pv 0) po_none (po_some pe_int)))) (blkOk_by (N := n_l_feed) (sc := defScope s_l_feed) (by decide +kernel)) (fun _ _ _ _ _ => (pg_name (i := 1) sc_l_feed.nd rfl (.inl rfl))) (fun _ _ _ _ _ => pts_nil) (fun _ _ _ _ _ => (pe_lst (pa_cons (pe_callB cr_abs1 (by rfl) T.m_abs (by decide +kernel) (pa_cons (pe_callTy cr_int1 (by rfl) T.m_int (by decide +kernel) (pa_cons (pv 1) pa_nil)) pa_nil)) (pa_cons pe_int pa_nil))))))), ?_⟩
  obtain ⟨a, ns, rfl, ha, hn, q⟩ := h
  have hH := Has.start H
  refine g_start (σ' := [some (.ref a), none]) rfl ?_
  walk_at "gg"
  refine g_slS ha hH (fun p2 H2 n2 hH2 => ?_)
  obtain ⟨ms, em, lm⟩ := cutV_ints ns none (some 63)
  rw [em] at hH2
  refine k_lcL (by walk_at "h") hH2 (fun i acc F' O' => ∃ rows : List (Int × Int), DqAll F' acc (rows.map cellD) ∧ rows.length = i ∧ Same H F' ∧ O' = [(p2, .lst (ms.map V.int))]) ⟨[], .nil, rfl, Same.refl _, rfl⟩ ?_ ?_ ?_
  · rintro i acc F' O' H3 ⟨rows, dq, rfl, sF, rfl⟩ hh
    walk_at "h"
  · rintro i x acc F' O' D H3 hx ⟨rows, dq, rfl, sF, rfl⟩ hh
    rw [List.getElem?_map] at hx
    obtain ⟨z, hz, rfl⟩ := Option.map_eq_some_iff.mp hx
    have hl : rows.length < ms.length := (List.getElem?_eq_some_iff.mp hz).1
    have hal : acc.length = rows.length := by rw [dq.len, List.length_map]
    walk_at "gg"
    refine g_abs (fun j hj => ?_)
    walk_at "gg"
    refine g_klstF (by walk_at "sz") hh (fun r H4 F4 n4 s4 f4 h4 => ?_)
    refine k_turn h4 (by omega) ⟨rows ++ [(j, 0)], ?_, by rw [List.length_append]; rfl, sF.trans s4, rfl⟩
    rw [List.map_append]
    exact (dq.up s4 _ _).snoc (.lst f4 (.cons (.int _) (.cons (.int _) .nil)))
  · rintro acc F' O' D H3 ⟨rows, dq, hk, sF, rfl⟩ hh
    rw [List.length_map] at hk
    exact q D H3 F' acc rows (sF.free hh.free) sF (hh.sub (.cons_cons _ (.cons _ (List.Sublist.refl _)))) dq (by omega)
theorem Grow.refl (F H : Hp) : Grow F H F := ⟨Same.refl F, fun _ _ => rfl⟩
theorem Grow.new {F H : Hp} {p : Addr} {o : HO} (n : H p = none) (f : F p = none) : Grow F H (upd F p o) := ⟨same_upd f, fun b h => upd_ne (fun z => h (by rw [z]; exact n))⟩
theorem Grow.new2 {F H F1 : Hp} {p : Addr} {o : HO} (g : Grow F H F1) (n : H p = none) (f : F1 p = none) : Grow F H (upd F1 p o) := ⟨g.1.trans (same_upd f), fun b h => by rw [upd_ne (fun z => h (by rw [z]; exact n))]; exact g.2 b h⟩
def sp_l_next (K : PySem.W.Frag) : Sp := fun vs H Q _ => ∃ (c : Addr) (m : Int) (F : Hp) (ws : List V) (rows : List (Int × Int)), vs = [.ref c, .int m] ∧ Has F [(c, .lst ws)] H ∧ DqAll F ws (rows.map cellD) ∧ rows.length ≤ 100 ∧ 0 < m ∧ m < 1000000 ∧
  ∀ H' F' (ws' : List V) (rows' : List (Int × Int)) (r : Int), But c H H' → Grow F H F' → Has F' [(c, .lst ws')] H' → DqAll F' ws' (rows'.map cellD) → rows'.length ≤ 100 → 0 ≤ r → r < m → Q (.int r) H'
theorem sp_l_next_len {vs H Q E} (h : sp_l_next K vs H Q E) : vs.length = 2 := by
  obtain ⟨_, _, _, _, _, rfl, _⟩ := h
  rfl
theorem same_upd2 {F G : Hp} {p : Addr} {o : HO} (s : Same F G) : Same (upd F p o) (upd G p o) := fun b u q => by
  by_cases e : b = p
  · subst e
    rw [upd_same] at q ⊢
    exact q
  · rw [upd_ne e] at q ⊢
    exact s b u q
theorem ok_l_next (T : Txt K mg) : FnOk P w K mg base CX0 1 T.f_l_next T.fd_l_next ["cells", "many"] (sp_l_next K) := by
  refine T.F_l_next.ok sc_l_next (fun vs H Q E h => sp_l_next_len h) (fun cdv A outer s H vs Q E hr h => ?_)
  refine ⟨_, (pss_cons (ps_if (pt_cmpR (op_eqK K hr.units) (pv 0) (pe_lst pa_nil) (nomark _)) (pss_one (ps_ret pe_int)) pss_nil)
      (pss_cons (ps_set (i := 2) sc_l_next.nd rfl (.inl rfl) (pe_op op_mod (pe_callTy cr_int1 (by rfl) T.m_int (by decide +kernel) (pa_cons (pe_ix (ix_K K (hu_of hr)) (pe_ix (ix_K K (hu_of hr)) (pv 0) pe_int (fun _ _ => rfl)) pe_int (fun _ _ => rfl)) pa_nil)) (pv 1)))
      (pss_cons (ps_asg (pe_lst (pa_cons (pe_op op_fdiv (pe_ix (ix_K K (hu_of hr)) (pe_ix (ix_K K (hu_of hr)) (pv 0) pe_int (fun _ _ => rfl)) pe_int (fun _ _ => rfl)) (pv 1)) (pa_cons (pe_op (op_addK K) (pe_ix (ix_K K (hu_of hr)) (pe_ix (ix_K K (hu_of hr)) (pv 0) pe_int (fun _ _ => rfl)) pe_int (fun _ _ => rfl)) pe_int) pa_nil))) (pg_sub (pv 0) pe_int (set_any (hu_of hr))))
      (pss_cons (ps_if (PW.pt (pw_or (pt_cmpR (op_eqK K hr.units) (pe_ix (ix_K K (hu_of hr)) (pe_ix (ix_K K (hu_of hr)) (pv 0) pe_int (fun _ _ => rfl)) pe_int (fun _ _ => rfl)) pe_int (nomark _)) (pw_or1 (pt_cmpR (op_eqK K hr.units) (pe_ix (ix_K K (hu_of hr)) (pe_ix (ix_K K (hu_of hr)) (pv 0) pe_int (fun _ _ => rfl)) pe_int (fun _ _ => rfl)) pe_int (nomark _))))) (pss_one (ps_expr (k_bm K (pe_bm PySem.F.plainAttrs_list PySem.F.slot_list_pop PySem.F.type_list_pop mt_popAt (pv 0) (pa_cons pe_int pa_nil))))) pss_nil)
      (pss_one (ps_ret (pv 2))))))), ?_⟩
  obtain ⟨c, m, F, ws, rows, rfl, hH, dq0, hl, hm0, hm, q⟩ := h
  have sFG : Same F (rm H c) := same_rm hH.same hH.free
  have dq := dq0.up sFG _ _
  have hR := Has.arg (hH.get (List.Mem.head _))
  generalize hG : rm H c = G at *
  refine g_start (σ' := [some (.ref c), some (.int m), none]) rfl ?_
  walk_at "gg"
  refine g_klst (by walk_at "sz") hR (fun t H1 n1 hR1 => ?_)
  have hR1' := hR1.drop
  have hc1 := hR1'.get (List.Mem.head _)
  refine g_eqD (.lst hc1 (dq.up hR1'.same _ _)) (.lst (hR1.get (List.Mem.head _)) .nil) ((cells_sh rows).ok (by decide)) (by decide +kernel) ?_
  walk_at "gg"
  cases rows with
  | nil =>
    cases dq
    refine i_b (fun _ => ?_) (fun z => ?_)
    · walk_at "gg"
      exact q H1 F [] [] 0 (But.of (by rw [hG]; exact hR1.same)) (Grow.refl _ _) (hR1'.mono sFG) .nil (by simp) (by omega) hm0
    · rw [List.map_nil, PyData.eqv, PyData.eqvAll] at z
      cases z
  | cons row rows =>
    cases dq with
    | @cons v vs _ _ dv dvs =>
    cases dq0 with
    | cons dv0 dvs0 =>
    obtain ⟨r, rfl, hr⟩ := cell_inv dv
    refine i_b (fun z => ?_) (fun _ => ?_)
    · rw [List.map_cons, PyData.eqv, PyData.eqvAll] at z
      cases z
    have hr1 := hR1'.same _ _ hr
    walk_at "gg"
    refine g_ixL (v := .ref r) hc1 (atI_nat (j := 0) rfl) ?_
    walk_at "gg"
    refine g_ixL (v := .int row.1) hr1 (atI_nat (j := 0) rfl) ?_
    walk_at "gg"
    refine g_rI hm0 ?_
    walk_at "gg"
    refine g_ixL (v := .ref r) hc1 (atI_nat (j := 0) rfl) ?_
    walk_at "gg"
    refine g_ixL (v := .int row.1) hr1 (atI_nat (j := 0) rfl) ?_
    walk_at "gg"
    refine g_rI ⟨by omega, by omega⟩ ?_
    walk_at "gg"
    refine g_ixL (v := .ref r) hc1 (atI_nat (j := 0) rfl) ?_
    walk_at "gg"
    refine g_ixL (v := .int row.2) hr1 (atI_nat (j := 1) rfl) ?_
    walk_at "gg"
    refine g_klst (by walk_at "sz") hR1' (fun p H2 n2 hR2 => ?_)
    have fp : F p = none := sFG.free hR2.free
    have np : H p = none := by
      have nd : p ≠ c := by
        have := hR2.nd
        simp only [List.map_cons, List.map_nil, List.nodup_cons, List.mem_singleton] at this
        exact this.1
      have e := hR2.free
      rw [← hG, rm_ne nd] at e
      exact e
    have hR3 := hR2.frz
    have sG3 := hR2.grow
    have dv2 : Dq (upd F p (.lst [.int (row.1 / m), .int (row.2 + 1)])) (.ref p) (cellD (row.1 / m, row.2 + 1)) := .lst upd_same (.cons (.int _) (.cons (.int _) .nil))
    have dvs2 := dvs0.up (same_upd (o := .lst [.int (row.1 / m), .int (row.2 + 1)]) fp) _ _
    have gF : Grow F H (upd F p (.lst [.int (row.1 / m), .int (row.2 + 1)])) := Grow.new np fp
    have hp3 : upd G p (.lst [.int (row.1 / m), .int (row.2 + 1)]) p = some (.lst [.int (row.1 / m), .int (row.2 + 1)]) := upd_same
    walk_at "gg"
    refine g_stL (j := 0) hR3 (by walk_at "c") (ixN_nat (by decide) (by rw [List.length_cons]; omega)) (fun H4 hR4 => ?_)
    have fin : ∀ (H5 : Hp) (ws' : List V) (rows' : List (Int × Int)), Has (upd G p (.lst [.int (row.1 / m), .int (row.2 + 1)])) [(c, .lst ws')] H5 → DqAll (upd F p (.lst [.int (row.1 / m), .int (row.2 + 1)])) ws' (rows'.map cellD) → rows'.length ≤ 100 → Q (.int (row.1 % m)) H5 := fun H5 ws' rows' h5 d5 l5 =>
      q H5 _ ws' rows' _ (But.of (by rw [hG]; exact sG3.trans h5.same)) gF (h5.mono (same_upd2 sFG)) d5 l5 (Int.emod_nonneg _ (by omega)) (Int.emod_lt_of_pos _ hm0)
    have hc4 := hR4.get (List.Mem.head _)
    have hp4 := hR4.same _ _ hp3
    walk_at "g"
    walk_at "g"
    refine g_fact (fun _ => True) (fun R r => ?_) (fun b _ => ?_)
    · walk_at "gg"
      refine g_ixL (v := .ref p) hc4 (atI_nat (j := 0) rfl) ?_
      walk_at "gg"
      refine g_ixL (v := .int (row.1 / m)) hp4 (atI_nat (j := 0) rfl) ?_
      walk_at "gg"
      refine i_d (fun _ => r _ trivial) (fun _ => ?_)
      walk_at "gg"
      refine g_ixL (v := .ref p) hc4 (atI_nat (j := 0) rfl) ?_
      walk_at "gg"
      refine g_ixL (v := .int (row.2 + 1)) hp4 (atI_nat (j := 1) rfl) ?_
      walk_at "gg"
      exact r _ trivial
    refine i_b (fun _ => ?_) (fun _ => ?_)
    · walk_at "gg"
      refine g_popAt (k := 0) (y := .ref p) hR4 (by walk_at "c") (by omega) (by omega) (ixN_seq (ixN_nat (k := 0) (by decide) (by rw [List.length_set, List.length_cons]; omega))).1 rfl (fun H5 h5 => ?_)
      walk_at "gg"
      exact fin H5 vs rows h5 dvs2 (by rw [List.length_cons] at hl; omega)
    · walk_at "gg"
      exact fin H4 (.ref p :: vs) ((row.1 / m, row.2 + 1) :: rows) hR4 (.cons dv2 dvs2) hl
theorem Has.drawn {F F' H H' : Hp} {O : Own} {c : Addr} {ws ws' : List V} (h : Has F ((c, .lst ws) :: O) H) (hb : But c H H') (g : Grow F H F') (s : Has F' [(c, .lst ws')] H') : Has F' ((c, .lst ws') :: O) H' :=
  h.grown .hd hb g s.same (s.get (List.Mem.head _))
end

end K09

namespace K09
open PySem PySem.Spec PyProof.Rows L2 Qk
local macro_rules | `(tactic| walk_at "m") => `(tactic| ((repeat (first | exact List.Mem.head _ | apply List.Mem.tail)); done))
local macro_rules | `(tactic| walk_at "h") => `(tactic| first | assumption | exact Has.gF (by assumption) (by assumption) | exact Has.get (by assumption) (by walk_at "m"))
local macro_rules | `(tactic| walk_at "c") => `(tactic| ((repeat (first | exact Chg.hd | apply Chg.tl)); done))
local macro_rules | `(tactic| walk_at "is") => `(tactic| first
  | ((with_reducible refine' is2_non ?gh ?_); (case gh => walk_at "h"))
  | (with_reducible refine is_int_list ?_)
  | (with_reducible refine is_int_tuple ?_)
  | (with_reducible refine is_int_dict ?_)
  | (with_reducible refine is_int_int ?_)
  | (with_reducible refine is_int_bool ?_)
  | (with_reducible refine is_int_str ?_)
  | ((with_reducible refine' is2_int ?gh ?_); (case gh => walk_at "h"))
  | (with_reducible refine is_str_list ?_)
  | (with_reducible refine is_str_tuple ?_)
  | (with_reducible refine is_str_dict ?_)
  | (with_reducible refine is_str_int ?_)
  | (with_reducible refine is_str_bool ?_)
  | (with_reducible refine is_str_str ?_)
  | ((with_reducible refine' is2_str ?gh ?_); (case gh => walk_at "h"))
  | (with_reducible refine is_bool_list ?_)
  | (with_reducible refine is_bool_tuple ?_)
  | (with_reducible refine is_bool_dict ?_)
  | (with_reducible refine is_bool_int ?_)
  | (with_reducible refine is_bool_bool ?_)
  | (with_reducible refine is_bool_str ?_)
  | ((with_reducible refine' is2_bool ?gh ?_); (case gh => walk_at "h"))
  | ((with_reducible refine' is_list_list ?gh ?_); (case gh => walk_at "h"))
  | ((with_reducible refine' is_list_tuple ?gh ?_); (case gh => walk_at "h"))
  | ((with_reducible refine' is_list_dict ?gh ?_); (case gh => walk_at "h"))
  | ((with_reducible refine' is_list_int ?gh ?_); (case gh => walk_at "h"))
  | ((with_reducible refine' is_list_bool ?gh ?_); (case gh => walk_at "h"))
  | ((with_reducible refine' is_list_str ?gh ?_); (case gh => walk_at "h"))
  | ((with_reducible refine' is2_list ?ga ?gb ?_); (case ga => walk_at "h"); (case gb => walk_at "h"))
  | ((with_reducible refine' is_tuple_list ?gh ?_); (case gh => walk_at "h"))
  | ((with_reducible refine' is_tuple_tuple ?gh ?_); (case gh => walk_at "h"))
  | ((with_reducible refine' is_tuple_dict ?gh ?_); (case gh => walk_at "h"))
  | ((with_reducible refine' is_tuple_int ?gh ?_); (case gh => walk_at "h"))
  | ((with_reducible refine' is_tuple_bool ?gh ?_); (case gh => walk_at "h"))
  | ((with_reducible refine' is_tuple_str ?gh ?_); (case gh => walk_at "h"))
  | ((with_reducible refine' is2_tuple ?ga ?gb ?_); (case ga => walk_at "h"); (case gb => walk_at "h"))
  | ((with_reducible refine' is_dict_list ?gh ?_); (case gh => walk_at "h"))
  | ((with_reducible refine' is_dict_tuple ?gh ?_); (case gh => walk_at "h"))
  | ((with_reducible refine' is_dict_dict ?gh ?_); (case gh => walk_at "h"))
  | ((with_reducible refine' is_dict_int ?gh ?_); (case gh => walk_at "h"))
  | ((with_reducible refine' is_dict_bool ?gh ?_); (case gh => walk_at "h"))
  | ((with_reducible refine' is_dict_str ?gh ?_); (case gh => walk_at "h"))
  | ((with_reducible refine' is2_dict ?ga ?gb ?_); (case ga => walk_at "h"); (case gb => walk_at "h")))
local macro_rules | `(tactic| walk_at "g") => `(tactic| first
  | (with_reducible refine g_seq ?_)
  | (with_reducible refine g_asg ?_)
  | ((with_reducible refine g_name ?_); dsimp only [List.set, wipe, List.map])
  | ((with_reducible refine' g_var ?gv ?_); (case gv => exact rfl))
  | (with_reducible refine g_c ?_)
  | (with_reducible refine g_op ?_)
  | (with_reducible refine g_cons ?_)
  | (with_reducible refine g_nil ?_)
  | (with_reducible refine g_cb ?_)
  | (with_reducible refine g_call ?_)
  | (with_reducible refine g_tup ?_)
  | (with_reducible refine g_lst ?_)
  | (with_reducible refine g_bm ?_)
  | (with_reducible refine g_bm0 ?_)
  | ((with_reducible refine' g_kbm ?gh ?_); (case gh => walk_at "h"))
  | (with_reducible refine g_drop ?_)
  | (with_reducible refine g_ret ?_)
  | (with_reducible refine g_retN ?_)
  | (with_reducible refine g_next ?_)
  | (with_reducible refine g_brk ?_)
  | (with_reducible refine g_cont ?_)
  | (with_reducible refine g_if ?_)
  | ((with_reducible refine' g_aug ?gv ?_); (case gv => exact rfl))
  | (with_reducible refine g_ipI ?_)
  | (with_reducible refine g_test ?_)
  | (with_reducible refine g_tB ?_)
  | (with_reducible refine g_kB ?_)
  | (with_reducible refine g_not ?_)
  | (with_reducible refine g_and ?_)
  | (with_reducible refine g_or ?_)
  | (with_reducible refine g_andV ?_)
  | (with_reducible refine g_orV ?_)
  | (with_reducible refine g_notV ?_)
  | (with_reducible refine g_ifE ?_)
  | (with_reducible refine g_addI ?_)
  | (with_reducible refine g_rI0 ?_)
  | (with_reducible refine g_eqI ?_)
  | (with_reducible refine g_eqS ?_)
  | (with_reducible refine g_neI ?_)
  | (with_reducible refine g_neS ?_)
  | (with_reducible refine g_isN ?_)
  | (with_reducible refine g_notN ?_)
  | (with_reducible refine g_int ?_)
  | (with_reducible refine g_max2 ?_)
  | (with_reducible refine g_min2 ?_)
  | ((with_reducible refine' g_lenL ?gh ?_); (case gh => walk_at "h"))
  | (with_reducible refine g_sub ?_)
  | (with_reducible refine g_gcons ?_)
  | (with_reducible refine g_gnil ?_)
  | (with_reducible refine g_un ?_)
  | (with_reducible refine g_rU ?_)
  | (with_reducible refine g_forL ?_)
  | (with_reducible refine g_forS ?_)
  | (with_reducible refine g_forR1 ?_)
  | (with_reducible refine g_forR2 ?_)
  | (with_reducible refine g_forR3 ?_)
  | (with_reducible refine g_lcL ?_)
  | (with_reducible refine g_lcR1 ?_)
  | (with_reducible refine g_lcR2 ?_)
  | (with_reducible refine g_slice ?_)
  | (with_reducible refine g_part ?_)
  | (with_reducible refine g_kOI ?_)
  | (with_reducible refine g_nopart ?_)
  | (with_reducible refine g_yes ?_)
  | ((with_reducible refine' g_wipe ?gv ?_); (case gv => exact rfl))
  | (with_reducible refine iteT ?_)
  | (with_reducible refine iteF ?_)
  | (with_reducible refine i_nf ?_)
  | (with_reducible refine i_nt ?_)
  | ((with_reducible refine' g_gtup ?gh ?gl ?_); (case gh => walk_at "h"); (case gl => exact rfl))
  | ((with_reducible refine' g_notinI ?gh ?_); (case gh => walk_at "h"))
  | ((with_reducible refine' g_inI ?gh ?_); (case gh => walk_at "h"))
  | ((with_reducible refine' g_kget2 ?gh ?_); (case gh => walk_at "h"))
  | ((with_reducible refine' g_kgotI ?gh ?_); (case gh => walk_at "h"))
  | (with_reducible refine g_tRev ?_)
  | (with_reducible refine g_neB ?_)
  | (with_reducible refine g_eqB ?_)
  | ((with_reducible refine' g_lenT ?gh ?_); (case gh => walk_at "h"))
  | (with_reducible refine g_star ?_)
  | ((with_reducible refine' g_kstarL ?gh ?_); (case gh => walk_at "h"))
  | ((with_reducible refine' g_kstarT ?gh ?_); (case gh => walk_at "h"))
  | (with_reducible refine g_tru ?_)
  | ((with_reducible refine' g_truL ?gh ?_); (case gh => walk_at "h"))
  | (with_reducible refine g_get2 ?_)
  | (with_reducible refine g_try ?_)
  | (with_reducible refine g_fld ?_)
  | (with_reducible refine g_sfld ?_)
  | (with_reducible refine g_meth ?_)
  | (with_reducible refine g_make ?_)
  | (with_reducible refine g_del ?_)
  | (with_reducible refine g_callS ?_)
  | (with_reducible refine g_raise ?_)
  | (with_reducible refine g_xf ?_)
  | (with_reducible refine g_m0 ?_)
  | (with_reducible refine g_km0 ?_)
  | walk_at "is")
local macro_rules | `(tactic| walk_at "gg") => `(tactic| repeat walk_at "g")
local macro_rules | `(tactic| walk_at "sz") => `(tactic| (refine sz ?_; simp only [List.length_cons, List.length_nil, List.length_map, List.length_append, List.length_replicate]; omega))
local macro_rules | `(tactic| walk_at "sub") => `(tactic| ((repeat (first | exact List.Sublist.slnil | with_reducible apply List.Sublist.cons_cons | with_reducible apply List.Sublist.cons)); done))

/-! ### ascending lists of texts -/
abbrev kk (z : Str) : List Nat := z.cps.toList
theorem kk_inj {a b : Str} (h : kk a = kk b) : a = b := by
  cases a with
  | mk x =>
    cases b with
    | mk y =>
      congr 1
      exact Array.toList_inj.mp h
def Asc (xs : List Str) : Prop := xs.Pairwise fun a b => kk a < kk b
theorem kk_cases {a b : Str} (h : ¬ kk b < kk a) (n : a ≠ b) : kk a < kk b := by
  refine Decidable.byContradiction fun h2 => n (kk_inj ?_)
  exact List.le_antisymm (List.not_lt.mp h) (List.not_lt.mp h2)
theorem asc_rise : ∀ (p : Str) (l : List Str), risingS p l = true → (p :: l).Nodup → Asc (p :: l)
  | p, [], _, _ => List.pairwise_cons.mpr ⟨fun _ h => (by cases h), List.Pairwise.nil⟩
  | p, x :: r, h, n => by
    have h : (!PySem.Spec.ltCps x.cps.toList p.cps.toList && risingS x r) = true := h
    rw [Bool.and_eq_true] at h
    have h1 : ¬ kk x < kk p := by
      have := h.1
      rw [ltCps_eq] at this
      simpa using this
    have n2 := List.nodup_cons.mp n
    have ih := asc_rise x r h.2 n2.2
    have lt : kk p < kk x := kk_cases h1 fun e => n2.1 (by rw [e]; exact List.mem_cons_self)
    refine List.pairwise_cons.mpr ⟨fun z hz => ?_, ih⟩
    rcases List.mem_cons.mp hz with rfl | hz
    · exact lt
    · exact List.lt_trans lt ((List.pairwise_cons.mp ih).1 z hz)
theorem asc_of {xs : List Str} (h : sortedS xs = true) (n : xs.Nodup) : Asc xs := by
  cases xs with
  | nil => exact List.Pairwise.nil
  | cons x r => exact asc_rise x r h n
theorem Asc.nodup {xs : List Str} (h : Asc xs) : xs.Nodup := h.imp fun {a b} l e => by
  rw [e] at l
  exact List.lt_irrefl _ l
theorem Asc.ext : ∀ {xs ys : List Str}, Asc xs → Asc ys → (∀ z, z ∈ xs ↔ z ∈ ys) → xs = ys
  | [], [], _, _, _ => rfl
  | [], y :: ys, _, _, h => by cases (h y).mpr List.mem_cons_self
  | x :: xs, [], _, _, h => by cases (h x).mp List.mem_cons_self
  | x :: xs, y :: ys, hx, hy, h => by
    have hx' := List.pairwise_cons.mp hx
    have hy' := List.pairwise_cons.mp hy
    have e : x = y := by
      rcases List.mem_cons.mp ((h x).mp List.mem_cons_self) with e | m1
      · exact e
      · rcases List.mem_cons.mp ((h y).mpr List.mem_cons_self) with e | m2
        · exact e.symm
        · exact (List.lt_irrefl _ (List.lt_trans (hy'.1 x m1) (hx'.1 y m2))).elim
    subst e
    have := Asc.ext hx'.2 hy'.2 fun z => by
      have hz := h z
      rw [List.mem_cons, List.mem_cons] at hz
      constructor
      · intro m
        rcases hz.mp (.inr m) with e | m'
        · exact (List.lt_irrefl _ (e ▸ hx'.1 z m)).elim
        · exact m'
      · intro m
        rcases hz.mpr (.inr m) with e | m'
        · exact (List.lt_irrefl _ (e ▸ hy'.1 z m)).elim
        · exact m'
    rw [this]
theorem Asc.filter {xs : List Str} (h : Asc xs) (p : Str → Bool) : Asc (xs.filter p) := h.sublist List.filter_sublist
/-- a list without repeats, grown by one -/
def addL (xs : List Str) (y : Str) : List Str := if y ∈ xs then xs else xs ++ [y]
theorem addL_mem {xs : List Str} {y z : Str} : z ∈ addL xs y ↔ z ∈ xs ∨ z = y := by
  unfold addL
  split
  · next h =>
    constructor
    · exact .inl
    · rintro (m | rfl)
      · exact m
      · exact h
  · simp
theorem addL_nodup {xs : List Str} {y : Str} (n : xs.Nodup) : (addL xs y).Nodup := by
  unfold addL
  split
  · exact n
  · next h =>
    rw [List.nodup_append]
    refine ⟨n, List.nodup_cons.mpr ⟨fun h => (by cases h), List.nodup_nil⟩, fun a ha b hb e => ?_⟩
    rw [List.mem_singleton.mp hb] at e
    exact h (e ▸ ha)
theorem addL_len (xs : List Str) (y : Str) : (addL xs y).length ≤ xs.length + 1 := by
  unfold addL
  split
  · omega
  · rw [List.length_append]; exact Nat.le_refl _
/-- the keys of a dict that is used as a set -/
def tk (xs : List Str) : List (Key × V) := xs.map fun z => (Sum.inr z, V.bl true)
theorem tk_keys (xs : List Str) : (tk xs).map (·.1) = xs.map Sum.inr := by
  unfold tk
  rw [List.map_map]
  rfl
theorem tk_val (xs : List Str) (z : Str) : (valV (tk xs) (.inr z)).isSome = decide (z ∈ xs) := by
  rw [← valV_any]
  unfold tk
  rw [List.any_map, Bool.eq_iff_iff]
  simp only [List.any_eq_true, Function.comp, decide_eq_true_eq]
  constructor
  · rintro ⟨x, hx, e⟩
    exact Sum.inr.inj e ▸ hx
  · exact fun h => ⟨z, h, rfl⟩
theorem tk_put (xs : List Str) (z : Str) : putK (tk xs) (.inr z) (.bl true) = tk (addL xs z) := by
  unfold putK addL
  rw [valV_any, tk_val]
  by_cases h : z ∈ xs
  · rw [if_pos (decide_eq_true h), if_pos h]
    unfold tk
    rw [List.map_map]
    apply List.map_congr_left
    intro x hx
    show (if (Sum.inr x : Key) = .inr z then ((Sum.inr x : Key), V.bl true) else (.inr x, .bl true)) = _
    split <;> rfl
  · rw [if_neg (by simpa using h), if_neg h]
    unfold tk
    rw [List.map_append]
    rfl
theorem tk_len (xs : List Str) : (tk xs).length = xs.length := List.length_map ..

/-! ### trees: the law's own makings -/
def mkTr (ps : List Str) (os : List (Option Tx)) : Tr := (ps.zip os).filterMap fun p => p.2.map fun t => (p.1, t)
theorem mkTr_step {ps : List Str} {os : List (Option Tx)} {i : Nat} {z : Str} {o : Option Tx} (h1 : ps[i]? = some z) (h2 : os[i]? = some o) : mkTr (ps.take (i + 1)) (os.take (i + 1)) = mkTr (ps.take i) (os.take i) ++ (o.map fun t => (z, t)).toList := by
  unfold mkTr
  rw [List.take_add_one, h1, List.take_add_one, h2]
  have l1 := (List.getElem?_eq_some_iff.mp h1).1
  have l2 := (List.getElem?_eq_some_iff.mp h2).1
  rw [show (some z).toList = [z] from rfl, show (some o).toList = [o] from rfl, List.zip_append (by rw [List.length_take, List.length_take]; omega), List.filterMap_append]
  congr 1
theorem mkTr_keys {ps : List Str} {os : List (Option Tx)} : ((mkTr ps os).map (·.1)).Sublist ps := by
  unfold mkTr
  induction ps generalizing os with
  | nil => exact List.nil_sublist _
  | cons z ps ih =>
    cases os with
    | nil => exact List.nil_sublist _
    | cons o os =>
      rw [List.zip_cons_cons]
      cases o with
      | none => exact List.Sublist.cons _ ih
      | some t => exact List.Sublist.cons_cons _ ih
def AscT (A : Tr) : Prop := Asc (A.map (·.1))
theorem AscT.nd {A : Tr} (h : AscT A) : (A.map (·.1)).Nodup := Asc.nodup h
theorem AscT.ext {A B : Tr} (ha : AscT A) (hb : AscT B) (h : ∀ z t, (z, t) ∈ A ↔ (z, t) ∈ B) : A = B := by
  have hk : ∀ z, z ∈ A.map (·.1) ↔ z ∈ B.map (·.1) := fun z => by
    rw [List.mem_map, List.mem_map]
    constructor
    · rintro ⟨p, hp, rfl⟩
      exact ⟨p, (h p.1 p.2).mp hp, rfl⟩
    · rintro ⟨p, hp, rfl⟩
      exact ⟨p, (h p.1 p.2).mpr hp, rfl⟩
  have ek := Asc.ext ha hb hk
  refine List.ext_getElem? fun i => ?_
  cases ea : A[i]? with
  | none =>
    have l : A.length = B.length := by
      have := congrArg List.length ek
      rw [List.length_map, List.length_map] at this
      exact this
    rw [List.getElem?_eq_none_iff] at ea
    rw [List.getElem?_eq_none (by omega)]
  | some p =>
    have ek' : (A.map (·.1))[i]? = (B.map (·.1))[i]? := by rw [ek]
    rw [List.getElem?_map, List.getElem?_map, ea] at ek'
    obtain ⟨r, er, e2⟩ := Option.map_eq_some_iff.mp ek'.symm
    rw [er]
    have m1 := getT_of hb.nd (List.mem_of_getElem? er)
    have m2 := getT_of hb.nd ((h p.1 p.2).mp (List.mem_of_getElem? ea))
    rw [e2, m2] at m1
    injection m1 with m1
    rw [show p = r from Prod.ext e2.symm m1]
/-- what may be compared -/
def okTr (A : Tr) : Prop := ∀ p ∈ A, PyData.strOk p.1 = true ∧ okX p.2
def itD (A : Tr) : PyData := .list (A.map fun p => .tuple [.str p.1, txD p.2])
theorem sh_itD {A : Tr} (h : okTr A) : SeqAt.shaped (itD A) = true := by
  refine Sh.ok (n := 3) (Sh.list (n := 2) fun d hd => ?_) (by decide)
  obtain ⟨p, hp, rfl⟩ := List.mem_map.mp hd
  refine Sh.tuple (n := 1) fun d hd => ?_
  simp only [List.mem_cons, List.not_mem_nil, or_false] at hd
  rcases hd with rfl | rfl
  · exact Sh.str (h p hp).1
  · exact Sh.strs (n := 0) (h p hp).2
theorem dq_items {H : Hp} : ∀ {ts : List Addr} {kvs : List (Key × V)} {A : Tr}, Paired (fun (t : Addr) (q : Key × V) => H t = some (.tup [kV q.1, q.2])) ts kvs → kvs.map (·.1) = A.map (fun p => kS p.1) → DqAll H (kvs.map (·.2)) (A.map fun p => txD p.2) → DqAll H (ts.map V.ref) (A.map fun p => .tuple [.str p.1, txD p.2])
  | [], [], [], _, _, _ => .nil
  | [], [], _ :: _, _, e, _ => by cases e
  | t :: ts, q :: kvs, [], _, e, _ => by cases e
  | t :: ts, q :: kvs, p :: A, .cons h pd, e, dq => by
    rw [List.map_cons, List.map_cons] at e
    injection e with e1 e2
    cases dq with
    | cons d1 d2 =>
    rw [e1] at h
    exact .cons (.tup h (.cons (.str p.1) (.cons d1 .nil))) (dq_items pd e2 d2)
  | [], _ :: _, _, pd, _, _ => by cases pd
theorem eqvAll_self : ∀ {ds : List PyData}, (∀ d ∈ ds, PyData.eqv d d = true) → PyData.eqvAll ds ds = true
  | [], _ => by rw [PyData.eqvAll]
  | d :: ds, h => by
    rw [PyData.eqvAll, h d List.mem_cons_self, eqvAll_self fun x hx => h x (List.mem_cons_of_mem _ hx)]
    rfl
theorem eqv_itD (A : Tr) : PyData.eqv (itD A) (itD A) = true := by
  rw [itD, PyData.eqv]
  refine eqvAll_self fun d hd => ?_
  obtain ⟨p, _, rfl⟩ := List.mem_map.mp hd
  rw [PyData.eqv]
  refine eqvAll_self fun d hd => ?_
  simp only [List.mem_cons, List.not_mem_nil, or_false] at hd
  rcases hd with rfl | rfl
  · rw [PyData.eqv]
    exact beq_self_eq_true _
  · rw [txD, eqv_strs]
    exact decide_eq_true rfl
theorem Chg.bt {b : Str × Addr × Tx} {t : Tx} {O : Own} : ∀ {B : Bt} {k : Nat}, B[k]? = some b → Chg (bO B ++ O) b.2.1 (.lst (b.2.2.map V.str)) (.lst (t.map V.str)) (bO (B.set k (b.1, b.2.1, t)) ++ O)
  | [], k, h => by simp at h
  | x :: B, 0, h => by
    have e : x = b := Option.some.inj h
    subst e
    exact .hd
  | x :: B, k + 1, h => .tl (Chg.bt (B := B) (k := k) h)
theorem bK_set {b : Str × Addr × Tx} {t : Tx} : ∀ {B : Bt} {k : Nat}, B[k]? = some b → bK (B.set k (b.1, b.2.1, t)) = bK B
  | [], k, h => by simp at h
  | x :: B, 0, h => by
    have e : x = b := Option.some.inj h
    subst e
    rfl
  | x :: B, k + 1, h => by
    have := bK_set (B := B) (k := k) (t := t) h
    show _ :: bK (B.set k _) = _ :: bK B
    rw [this]
theorem bK_at : ∀ {B : Bt} {k : Nat} {b : Str × Addr × Tx}, (B.map (·.1)).Nodup → B[k]? = some b → valV (bK B) (.inr b.1) = some (.ref b.2.1)
  | [], k, _, _, h => by simp at h
  | x :: B, 0, b, _, h => by
    have e : x = b := Option.some.inj h
    subst e
    exact valV_pos rfl
  | x :: B, k + 1, b, n, h => by
    rw [List.map_cons] at n
    have n' := List.nodup_cons.mp n
    show valV ((kS x.1, V.ref x.2.1) :: bK B) _ = _
    rw [valV_neg (fun e => n'.1 ?_)]
    · exact bK_at n'.2 (k := k) h
    · have : x.1 = b.1 := Sum.inr.inj e
      rw [this]
      exact List.mem_map.mpr ⟨b, List.mem_of_getElem? h, rfl⟩
section
variable {P : Program} {w : World} {K : PySem.W.Frag} {mg : Str → Option Value} {base : Heap}
def wayM : List Str := ["a", "a/b", "b/a/c", "ab", "0", "abcdef/012345/z9", "a/b/c", "a0"]
def way (i : Int) : Str := wayM.getD (i % 8).toNat ""
theorem way_ok (i : Int) : PyData.strOk (way i) = true := by
  have h : ∀ k, k < 8 → PyData.strOk (wayM.getD k "") = true := by decide +kernel
  exact h _ (by omega)
def sp_l_way (K : PySem.W.Frag) : Sp := fun vs H Q _ => ∃ i : Int, vs = [.int i] ∧ ∀ H', Same H H' → Q (.str (way i)) H'
theorem sp_l_way_len {vs H Q E} (h : sp_l_way K vs H Q E) : vs.length = 1 := by
  obtain ⟨_, rfl, _⟩ := h
  rfl
theorem ok_l_way (T : Txt K mg) : FnOk P w K mg base CX0 1 T.f_l_way T.fd_l_way ["place"] (sp_l_way K) := by
  refine T.F_l_way.ok sc_l_way (fun vs H Q E h => sp_l_way_len h) (fun cdv A outer s H vs Q E hr h => ?_)
  refine ⟨_, (pss_cons (ps_set (i := 1) sc_l_way.nd rfl (.inl rfl) (pe_lst (pa_cons pe_str (pa_cons pe_str (pa_cons pe_str (pa_cons pe_str (pa_cons pe_str (pa_cons pe_str (pa_cons pe_str (pa_cons pe_str pa_nil))))))))))
      (pss_one (ps_ret (pe_ix (ix_K K (hu_of hr)) (pv 1) (pe_op op_mod (pe_callTy cr_int1 (by rfl) T.m_int (by decide +kernel) (pa_cons (pv 0) pa_nil)) pe_int) (fun _ _ => rfl))))), ?_⟩
  obtain ⟨i, rfl, q⟩ := h
  have hH := Has.start H
  refine g_start (σ' := [some (.int i), none]) rfl ?_
  walk_at "gg"
  refine g_klst (by walk_at "sz") hH (fun p1 H1 n1 h1 => ?_)
  walk_at "gg"
  refine g_rI (by show (0 : Int) < 8; decide) ?_
  have h0 : (0 : Int) ≤ i % 8 := Int.emod_nonneg _ (by decide)
  have h8 : i % 8 < 8 := Int.emod_lt_of_pos _ (by decide)
  refine g_ixZ (xs := wayM) (h1.get (List.Mem.head _)) h0 (by exact h8) (fun z hz => ?_)
  have e : z = way i := by
    unfold way
    rw [List.getD_eq_getElem?_getD, hz]
    rfl
  rw [e]
  exact q H1 h1.same
def sp_l_made (K : PySem.W.Frag) : Sp := fun vs H Q _ => ∃ (pl tl : Addr) (ps : List Str) (ws : List V) (os : List (Option Tx)), vs = [.ref pl, .ref tl] ∧ H pl = some (.lst (ps.map V.str)) ∧ H tl = some (.lst ws) ∧ DqAll H ws (os.map oxD) ∧ ps.length = os.length ∧ ps.length ≤ 100 ∧ ps.Nodup ∧
  ∀ d (B : Bt) H', Has H ((d, .dK (bK B)) :: bO B) H' → bA B = mkTr ps os → Q (.ref d) H'
theorem sp_l_made_len {vs H Q E} (h : sp_l_made K vs H Q E) : vs.length = 2 := by
  obtain ⟨_, _, _, _, _, rfl, _⟩ := h
  rfl
theorem ok_l_made (T : Txt K mg) : FnOk P w K mg base CX0 1 T.f_l_made T.fd_l_made ["paths", "texts"] (sp_l_made K) := by
  refine T.F_l_made.ok sc_l_made (fun vs H Q E h => sp_l_made_len h) (fun cdv A outer s H vs Q E hr h => ?_)
  refine ⟨_, (pss_cons (ps_set (i := 2) sc_l_made.nd rfl (.inl rfl) pe_dnewK)
      (pss_cons (ps_for PassesOwn.never rfl (pi_range1 rfl T.m_range (pa_cons (pe_callB (cr_lenK K) (by rfl) T.m_len (by decide +kernel) (pa_cons (pv 0) pa_nil)) pa_nil)) (pg_name (i := 3) sc_l_made.nd rfl (.inl rfl)) (pss_one (ps_if (pt_cmpR op_notNA (pe_ix (ix_K K (hu_of hr)) (pv 1) (pv 3) (fun _ _ => rfl)) pe_non (nomark _)) (pss_one (ps_asg (pe_callTy (cr_listK K) (by rfl) T.m_list (by decide +kernel) (pa_cons (pe_ix (ix_K K (hu_of hr)) (pv 1) (pv 3) (fun _ _ => rfl)) pa_nil)) (pg_sub (pv 2) (pe_ix (ix_K K (hu_of hr)) (pv 0) (pv 3) (fun _ _ => rfl)) (set_any (hu_of hr))))) pss_nil)))
      (pss_one (ps_ret (pv 2))))), ?_⟩
  obtain ⟨pl, tl, ps, ws, os, rfl, hp, ht, dq, le, few, nd, q⟩ := h
  have hH := Has.start H
  have lw : ws.length = ps.length := by rw [dq.len, List.length_map, le]
  refine g_start (σ' := [some (.ref pl), some (.ref tl), none, none]) rfl ?_
  walk_at "gg"
  refine g_dnewK hH (fun d H1 n1 h1 => ?_)
  walk_at "gg"
  rw [List.length_map]
  refine k_forR1 (fun t σ H' => ∃ (B : Bt) (y3 : Option V), σ = [some (.ref pl), some (.ref tl), some (.ref d), y3] ∧ Has H ((d, .dK (bK B)) :: (bO B ++ [])) H' ∧ bA B = mkTr (ps.take t) (os.take t)) (by omega) (by omega) ⟨[], _, rfl, Has.b0 h1, rfl⟩ ?_ ?_
  · rintro t σ H2 ht' ⟨B, y3, rfl, h2, eB⟩
    have lt : t < ps.length := by omega
    have ez : ps[t]? = some ps[t] := List.getElem?_eq_getElem lt
    generalize ps[t] = z at ez
    have eo : os[t]? = some (os[t]'(by omega)) := List.getElem?_eq_getElem (by omega)
    generalize os[t]'(by omega) = o at eo
    have eu : ws[t]? = some (ws[t]'(by omega)) := List.getElem?_eq_getElem (by omega)
    generalize ws[t]'(by omega) = u at eu
    obtain ⟨dd, ed, dqu⟩ := dq.get eu
    rw [List.getElem?_map, eo] at ed
    injection ed with ed
    subst ed
    have step := mkTr_step ez eo
    have lB : B.length ≤ t := by
      have h1 := congrArg List.length eB
      have h2 := (mkTr_keys (ps := ps.take t) (os := os.take t)).length_le
      rw [List.length_map, List.length_take] at h2
      unfold bA at h1
      rw [List.length_map] at h1
      omega
    walk_at "gg"
    refine g_ixL (v := u) (h2.same _ _ ht) (atI_nat eu) ?_
    walk_at "gg"
    cases o with
    | none =>
      have e := dqu.non_inv
      subst e
      refine i_n (fun c => (c rfl).elim) (fun _ => ?_)
      walk_at "gg"
      refine ⟨B, _, rfl, h2, ?_⟩
      rw [step, eB]
      exact (List.append_nil _).symm
    | some x =>
      obtain ⟨l, rfl, hx⟩ := Dq.of_strs (xs := x) dqu
      refine i_n (fun _ => ?_) (fun c => by cases c)
      walk_at "gg"
      refine g_ixL (v := .ref l) (h2.same _ _ ht) (atI_nat eu) ?_
      walk_at "gg"
      refine g_listL (h2.same _ _ hx) h2 (fun p H3 n3 h3 => ?_)
      walk_at "gg"
      refine g_ixL (v := .str z) (h3.same _ _ hp) (atI_nat (by rw [List.getElem?_map, ez]; rfl)) ?_
      have nz : z ∉ B.map (·.1) := fun m => by
        rw [← bA_keys, eB] at m
        have m2 := mkTr_keys.subset m
        exact nd_new nd ez m2
      walk_at "gg"
      refine g_stD (k := .inr z) rfl h3 (.tl .hd) (szl (by unfold bK; rw [List.length_map]; omega)) (fun H4 h4 => ?_)
      rw [putK_new _ (bK_none nz)] at h4
      walk_at "gg"
      refine ⟨B ++ [(z, p, x)], _, rfl, Has.bput h4, ?_⟩
      rw [bA_snoc, eB, step]
      rfl
  · rintro σ H2 ⟨B, y3, rfl, h2, eB⟩
    have e5 : (ps.length : Int).toNat = ps.length := by omega
    rw [e5, List.take_length, le, List.take_length] at eB
    rw [List.append_nil] at h2
    walk_at "gg"
    exact q d B H2 h2 eB
def sp_l_copy (K : PySem.W.Frag) : Sp := fun vs H Q _ => ∃ (a : Addr) (A : Tr), vs = [.ref a] ∧ TrAt H a A ∧ A.length ≤ 1000 ∧ ∀ d (B : Bt) H', Has H ((d, .dK (bK B)) :: bO B) H' → bA B = A → Q (.ref d) H'
theorem sp_l_copy_len {vs H Q E} (h : sp_l_copy K vs H Q E) : vs.length = 1 := by
  obtain ⟨_, _, rfl, _⟩ := h
  rfl
theorem take_new' {A : Tr} (n : (A.map (·.1)).Nodup) {t : Nat} {p : Str × Tx} (e : A[t]? = some p) : p.1 ∉ (A.take t).map (·.1) := by
  rw [List.map_take]
  exact nd_new n (by rw [List.getElem?_map, e]; rfl)
theorem ok_l_copy (T : Txt K mg) : FnOk P w K mg base CX0 1 T.f_l_copy T.fd_l_copy ["tree"] (sp_l_copy K) := by
  refine T.F_l_copy.ok sc_l_copy (fun vs H Q E h => sp_l_copy_len h) (fun cdv A outer s H vs Q E hr h => ?_)
  refine ⟨_, (pss_cons (ps_set (i := 1) sc_l_copy.nd rfl (.inl rfl) pe_dnewK)
      (pss_cons (ps_lock (ps_for PassesOwn.never rfl (pi_keys (pv 0)) (pg_name (i := 2) sc_l_copy.nd rfl (.inl rfl)) (pss_one (ps_asg (pe_callTy (cr_listK K) (by rfl) T.m_list (by decide +kernel) (pa_cons (pe_ix (ix_K K (hu_of hr)) (pv 0) (pv 2) (fun _ _ => rfl)) pa_nil)) (pg_sub (pv 1) (pv 2) (set_any (hu_of hr)))))))
      (pss_one (ps_ret (pv 1))))), ?_⟩
  obtain ⟨a, A, rfl, ⟨kvs, ha, ek, nd, dq⟩, lA, q⟩ := h
  have hH := Has.start H
  have lk := tr_len ek
  refine g_start (σ' := [some (.ref a), none, none]) rfl ?_
  walk_at "gg"
  refine g_dnewK hH (fun d H1 n1 h1 => ?_)
  walk_at "gg"
  refine k_forDK rfl ha (Has.b0 h1) (fun t σ O' => ∃ (B : Bt) (y2 : Option V), σ = [some (.ref a), some (.ref d), y2] ∧ O' = (d, .dK (bK B)) :: (bO B ++ []) ∧ bA B = A.take t) ⟨[], _, rfl, rfl, rfl⟩ ?_ ?_
  · rintro t k v σ O' H2 od ekv ⟨B, y2, rfl, rfl, eB⟩ h2
    obtain ⟨p, ep, rfl⟩ := tr_key ek ekv
    obtain ⟨kv2, rd, ek2, _, dq2⟩ := (RT.lock (od := od) ha ⟨kvs, .inl ha, ek, nd, dq⟩).up h2.same
    obtain ⟨l, vl, hl⟩ := tr_at ek2 dq2 (getT_of nd (List.mem_of_getElem? ep))
    have lB : B.length ≤ t := by
      have := congrArg List.length eB
      unfold bA at this
      rw [List.length_map, List.length_take] at this
      omega
    have lt : t < A.length := (List.getElem?_eq_some_iff.mp ep).1
    walk_at "gg"
    refine g_ixDR rd vl ?_
    walk_at "gg"
    refine g_listL hl h2 (fun p1 H3 n3 h3 => ?_)
    have nz : p.1 ∉ B.map (·.1) := by
      rw [← bA_keys, eB]
      exact take_new' nd ep
    walk_at "gg"
    refine g_stD (k := .inr p.1) rfl h3 (.tl .hd) (szl (by unfold bK; rw [List.length_map]; omega)) (fun H4 h4 => ?_)
    rw [putK_new _ (bK_none nz)] at h4
    walk_at "gg"
    refine ⟨_, ⟨B ++ [(p.1, p1, p.2)], _, rfl, rfl, ?_⟩, Has.bput h4⟩
    rw [bA_snoc, eB, List.take_add_one, ep]
    rfl
  · rintro σ O' H2 ⟨B, y2, rfl, rfl, eB⟩ h2
    rw [lk, List.take_length] at eB
    rw [List.append_nil] at h2
    walk_at "gg"
    exact q d B H2 h2 eB
def sp_l_rising (K : PySem.W.Frag) : Sp := fun vs H Q _ => ∃ (a : Addr) (A : Tr), vs = [.ref a] ∧ TrAt H a A ∧ A.length ≤ 60 ∧ ∀ d (B : Bt) H', Has H ((d, .dK (bK B)) :: bO B) H' → AscT (bA B) → (∀ p, p ∈ bA B ↔ p ∈ A) → Q (.ref d) H'
theorem sp_l_rising_len {vs H Q E} (h : sp_l_rising K vs H Q E) : vs.length = 1 := by
  obtain ⟨_, _, rfl, _⟩ := h
  rfl
theorem ok_l_rising (T : Txt K mg) : FnOk P w K mg base CX0 1 T.f_l_rising T.fd_l_rising ["tree"] (sp_l_rising K) := by
  refine T.F_l_rising.ok sc_l_rising (fun vs H Q E h => sp_l_rising_len h) (fun cdv A outer s H vs Q E hr h => ?_)
  refine ⟨_, (pss_cons (ps_set (i := 1) sc_l_rising.nd rfl (.inl rfl) pe_dnewK)
      (pss_cons (ps_for PassesOwn.never rfl (k_il K (pi_list (pe_callB (cr_sortN K P w rfl (cr_sortA K rfl)) (by rfl) T.m_sorted (by decide +kernel) (pa_cons (pe_callTy (cr_listD rfl) (by rfl) T.m_list (by decide +kernel) (pa_cons (pv 0) pa_nil)) pa_nil)))) (pg_name (i := 2) sc_l_rising.nd rfl (.inl rfl)) (pss_one (ps_asg (pe_callTy (cr_listK K) (by rfl) T.m_list (by decide +kernel) (pa_cons (pe_ix (ix_K K (hu_of hr)) (pv 0) (pv 2) (fun _ _ => rfl)) pa_nil)) (pg_sub (pv 1) (pv 2) (set_any (hu_of hr))))))
      (pss_one (ps_ret (pv 1))))), ?_⟩
  obtain ⟨a, A, rfl, ⟨kvs, ha, ek, nd, dq⟩, lA, q⟩ := h
  have hH := Has.start H
  refine g_start (σ' := [some (.ref a), none, none]) rfl ?_
  walk_at "gg"
  refine g_dnewK hH (fun d H1 n1 h1 => ?_)
  walk_at "gg"
  refine g_listD (h1.same _ _ ha) h1 (fun p1 H2 n2 h2 => ?_)
  rw [tr_keys ek] at h2
  walk_at "gg"
  refine g_sortNA (g_sortS (h2.get (List.Mem.head _)) (by rw [List.length_map]; omega) h2 (fun us p2 H3 pm srt n3 h3 => ?_))
  have asc := asc_of srt (pm.nodup_iff.mpr nd)
  have h3 : Has H ((d, .dK (bK [])) :: (bO [] ++ [(p2, .lst (us.map V.str)), (p1, .lst ((A.map (·.1)).map V.str))])) H3 := h3.perm (by exact (List.perm_middle (l₁ := [_, _]) (l₂ := [])).symm)
  walk_at "gg"
  refine k_forL (h3.get (List.Mem.tail _ (List.Mem.head _))) (fun t σ H' => ∃ (B : Bt) (y2 : Option V), σ = [some (.ref a), some (.ref d), y2] ∧ Has H ((d, .dK (bK B)) :: (bO B ++ [(p2, .lst (us.map V.str)), (p1, .lst ((A.map (·.1)).map V.str))])) H' ∧ (bA B).map (·.1) = us.take t ∧ ∀ p ∈ bA B, p ∈ A) ⟨[], _, rfl, h3, rfl, fun p h => by cases h⟩ ?_ ?_ ?_
  · rintro t σ H' _ ⟨B, y2, rfl, h, _⟩
    exact h.get (List.mem_cons_of_mem _ (List.mem_append_right _ (List.Mem.head _)))
  · rintro t x σ H4 hx ⟨B, y2, rfl, h4, eB, sB⟩
    rw [List.getElem?_map] at hx
    obtain ⟨z, hz, rfl⟩ := Option.map_eq_some_iff.mp hx
    have zm : z ∈ A.map (·.1) := pm.mem_iff.mp (List.mem_of_getElem? hz)
    obtain ⟨p, hp, rfl⟩ := List.mem_map.mp zm
    obtain ⟨l, vl, hl⟩ := tr_at ek (dq.up h4.same _ _) (getT_of nd hp)
    have lt := (List.getElem?_eq_some_iff.mp hz).1
    have lu := pm.length_eq
    rw [List.length_map] at lu
    have lB : B.length ≤ t := by
      have := congrArg List.length eB
      unfold bA at this
      rw [List.length_map, List.length_map, List.length_take] at this
      omega
    have nz : p.1 ∉ B.map (·.1) := by
      rw [← bA_keys, eB]
      intro m
      exact nd_new asc.nodup hz m
    walk_at "gg"
    refine g_ixDS (h4.same _ _ ha) vl ?_
    walk_at "gg"
    refine g_listL hl h4 (fun p3 H5 n5 h5 => ?_)
    walk_at "gg"
    refine g_stD (k := .inr p.1) rfl h5 (.tl .hd) (szl (by unfold bK; rw [List.length_map]; omega)) (fun H6 h6 => ?_)
    rw [putK_new _ (bK_none nz)] at h6
    walk_at "gg"
    refine ⟨B ++ [(p.1, p3, p.2)], _, rfl, Has.bput h6, ?_, fun r hr => ?_⟩
    · rw [bA_snoc, List.map_append, eB, List.take_add_one, hz]
      rfl
    · rw [bA_snoc] at hr
      rcases List.mem_append.mp hr with hr | hr
      · exact sB r hr
      · rw [List.mem_singleton.mp hr]
        exact hp
  · rintro σ H4 ⟨B, y2, rfl, h4, eB, sB⟩
    rw [List.length_map, List.take_length] at eB
    walk_at "gg"
    refine q d B H4 (h4.sub (List.Sublist.cons_cons _ (List.sublist_append_left _ _))) (by unfold AscT; rw [eB]; exact asc) fun p => ⟨sB p, fun hp => ?_⟩
    have m : p.1 ∈ (bA B).map (·.1) := by
      rw [eB]
      exact pm.mem_iff.mpr (List.mem_map.mpr ⟨p, hp, rfl⟩)
    obtain ⟨r, hr, er⟩ := List.mem_map.mp m
    have e1 := getT_of nd hp
    have e2 := getT_of nd (sB r hr)
    rw [er, e1] at e2
    injection e2 with e2
    rw [show p = r from Prod.ext er.symm e2]
    exact hr
def sp_l_kept (K : PySem.W.Frag) : Sp := fun vs H Q _ => ∃ (a b : Addr) (A : Tr), vs = [.ref a, .ref b] ∧ TrAt H a A ∧ TrAt H b A ∧ okTr A ∧ ∀ H', Same H H' → Q (.bl true) H'
theorem sp_l_kept_len {vs H Q E} (h : sp_l_kept K vs H Q E) : vs.length = 2 := by
  obtain ⟨_, _, _, rfl, _⟩ := h
  rfl
theorem ok_l_kept (T : Txt K mg) : FnOk P w K mg base CX0 1 T.f_l_kept T.fd_l_kept ["passed", "tree"] (sp_l_kept K) := by
  refine T.F_l_kept.ok sc_l_kept (fun vs H Q E h => sp_l_kept_len h) (fun cdv A outer s H vs Q E hr h => ?_)
  refine ⟨_, (pss_one (ps_ret (pe_cmpR (op_eqK K hr.units) (LiI.pe_listItems rfl (pv 0) (by rfl) T.m_list (by decide +kernel)) (LiI.pe_listItems rfl (pv 1) (by rfl) T.m_list (by decide +kernel)) (nomark _)))), ?_⟩
  obtain ⟨a, b, A, rfl, ⟨ka, ha, eka, _, dqa⟩, ⟨kb, hb, ekb, _, dqb⟩, ok, q⟩ := h
  refine g_start (σ' := [some (.ref a), some (.ref b)]) rfl ?_
  walk_at "gg"
  refine g_listItems ?_
  walk_at "gg"
  refine g_items ha (fun p1 H1 ts1 s1 n1 e1 pd1 => ?_)
  walk_at "gg"
  refine g_listItems ?_
  walk_at "gg"
  refine g_items (s1 _ _ hb) (fun p2 H2 ts2 s2 n2 e2 pd2 => ?_)
  refine g_eqD (d := itD A) (e := itD A) (.lst (s2 _ _ e1) ((dq_items pd1 eka (dqa.up s1 _ _)).up s2 _ _)) (.lst e2 (dq_items pd2 ekb (dqb.up (s1.trans s2) _ _))) (sh_itD ok) (sh_itD ok) ?_
  rw [eqv_itD]
  exact q H2 (s1.trans s2)
def sp_l_spoil (K : PySem.W.Frag) : Sp := fun vs H Q _ => ∃ (d : Addr) (B : Bt) (F : Hp) (m : Nat), vs = [.ref d] ∧ Has F ((d, .dK (bK B)) :: bO B) H ∧ (B.map (·.1)).Nodup ∧ B.length ≤ 1000 ∧ m ≤ 1000 ∧ (∀ b ∈ B, b.2.2.length ≤ m) ∧ ∀ H' (C : Bt), Has F ((d, .dK (bK C)) :: bO C) H' → (C.map (·.1)).Nodup → C.length ≤ B.length + 1 → (∀ b ∈ C, b.2.2.length ≤ m + 1 + B.length) → Q .non H'
theorem sp_l_spoil_len {vs H Q E} (h : sp_l_spoil K vs H Q E) : vs.length = 1 := by
  obtain ⟨_, _, _, _, rfl, _⟩ := h
  rfl
theorem ok_l_spoil (T : Txt K mg) : FnOk P w K mg base CX0 1 T.f_l_spoil T.fd_l_spoil ["tree"] (sp_l_spoil K) := by
  refine T.F_l_spoil.ok sc_l_spoil (fun vs H Q E h => sp_l_spoil_len h) (fun cdv A outer s H vs Q E hr h => ?_)
  refine ⟨_, (pss_cons (ps_for PassesOwn.never rfl (k_il K (pi_list (pe_callTy (cr_listD rfl) (by rfl) T.m_list (by decide +kernel) (pa_cons (pv 0) pa_nil)))) (pg_name (i := 1) sc_l_spoil.nd rfl (.inl rfl)) (pss_one (ps_expr (k_bm K (pe_bm PySem.F.plainAttrs_list PySem.F.slot_list_append PySem.F.type_list_append mt_append (pe_ix (ix_K K (hu_of hr)) (pv 0) (pv 1) (fun _ _ => rfl)) (pa_cons pe_str pa_nil))))))
      (pss_one (ps_asg (pe_lst (pa_cons pe_str pa_nil)) (pg_sub (pv 0) pe_str (set_any (hu_of hr)))))), ?_⟩
  obtain ⟨d, B, F, m, rfl, h, nd, lB, lm, lt, q⟩ := h
  refine g_start (σ' := [some (.ref d), none]) rfl ?_
  walk_at "gg"
  refine g_listD (h.get (List.Mem.head _)) h (fun l H1 n1 h1 => ?_)
  have ek : (bK B).map (fun kv => kV kv.1) = (B.map (·.1)).map V.str := by
    unfold bK
    rw [List.map_map, List.map_map]
    rfl
  rw [ek] at h1
  refine k_forL (h1.get (List.Mem.head _)) (fun t σ H' => ∃ (C : Bt) (y1 : Option V), σ = [some (.ref d), y1] ∧ bK C = bK B ∧ Has F ((l, .lst ((B.map (·.1)).map V.str)) :: (d, .dK (bK C)) :: (bO C ++ [])) H' ∧ ∀ b ∈ C, b.2.2.length ≤ m + t) ⟨B, _, rfl, rfl, by rw [List.append_nil]; exact h1, fun b hb => lt b hb⟩ ?_ ?_ ?_
  · rintro t σ H' _ ⟨C, y1, rfl, eC, h, _⟩
    exact h.get (List.Mem.head _)
  · rintro t x σ H2 hx ⟨C, y1, rfl, eC, h2, lC⟩
    rw [List.getElem?_map] at hx
    obtain ⟨z, hz, rfl⟩ := Option.map_eq_some_iff.mp hx
    have kC : C.map (·.1) = B.map (·.1) := by
      have := congrArg (List.map (·.1)) eC
      rw [bK_keys, bK_keys] at this
      have e : ∀ D : Bt, (bA D).map (fun p => kS p.1) = (D.map (·.1)).map kS := fun D => by
        unfold bA
        rw [List.map_map, List.map_map]
        rfl
      rw [e, e] at this
      exact (List.map_inj_right (fun a b h => Sum.inr.inj h)).mp this
    rw [← kC, List.getElem?_map] at hz
    obtain ⟨b, eb, rfl⟩ := Option.map_eq_some_iff.mp hz
    have tl : t < B.length := by
      have := (List.getElem?_eq_some_iff.mp eb).1
      have := congrArg List.length kC
      rw [List.length_map, List.length_map] at this
      omega
    have lb := lC b (List.mem_of_getElem? eb)
    walk_at "gg"
    refine g_ixDS (h2.get (List.Mem.tail _ (List.Mem.head _))) (bK_at (by rw [kC]; exact nd) eb) ?_
    have hb : H2 b.2.1 = some (.lst (b.2.2.map V.str)) := h2.get (List.mem_cons_of_mem _ (List.mem_cons_of_mem _ (List.mem_append_left _ (List.mem_map.mpr ⟨b, List.mem_of_getElem? eb, rfl⟩))))
    have c : Chg ((l, HO.lst ((B.map (·.1)).map V.str)) :: (d, .dK (bK C)) :: (bO C ++ [])) b.2.1 (.lst (b.2.2.map V.str)) (.lst (b.2.2.map V.str ++ [V.str "c"])) ((l, HO.lst ((B.map (·.1)).map V.str)) :: (d, .dK (bK C)) :: (bO (C.set t (b.1, b.2.1, b.2.2 ++ (["c"] : Tx))) ++ [])) := by
      have := Chg.bt (t := b.2.2 ++ (["c"] : Tx)) (O := []) eb
      rw [List.map_append] at this
      exact .tl (.tl this)
    walk_at "gg"
    refine g_append h2 c (szl (by rw [List.length_map]; omega)) (fun H3 h3 => ?_)
    walk_at "gg"
    have e3 := bK_set (t := b.2.2 ++ (["c"] : Tx)) eb
    refine ⟨C.set t (b.1, b.2.1, b.2.2 ++ (["c"] : Tx)), _, rfl, e3.trans eC, by rw [e3]; exact h3, fun r hr => ?_⟩
    rcases List.mem_or_eq_of_mem_set hr with hr | rfl
    · have := lC r hr
      omega
    · show (b.2.2 ++ (["c"] : Tx)).length ≤ _
      rw [List.length_append]
      show _ + 1 ≤ _
      omega
  · rintro σ H2 ⟨C, y1, rfl, eC, h2, lC⟩
    have l2 : (bK C).length ≤ 1000 := by
      rw [eC]
      unfold bK
      rw [List.length_map]
      exact lB
    simp only [List.length_map] at lC
    have kC : C.map (·.1) = B.map (·.1) := by
      have := congrArg (List.map (·.1)) eC
      rw [bK_keys, bK_keys] at this
      have e : ∀ D : Bt, (bA D).map (fun p => kS p.1) = (D.map (·.1)).map kS := fun D => by
        unfold bA
        rw [List.map_map, List.map_map]
        rfl
      rw [e, e] at this
      exact (List.map_inj_right (fun a b h => Sum.inr.inj h)).mp this
    have nC : (C.map (·.1)).Nodup := by rw [kC]; exact nd
    have lCB : C.length = B.length := by
      have := congrArg List.length kC
      rw [List.length_map, List.length_map] at this
      exact this
    walk_at "gg"
    refine g_klst (by walk_at "sz") h2 (fun p3 H3 n3 h3 => ?_)
    walk_at "gg"
    refine g_stD (k := .inr "zz") rfl h3 (.tl (.tl .hd)) (szl (by omega)) (fun H4 h4 => ?_)
    have h4 := h4.sub (O' := (p3, .lst [V.str "c"]) :: (d, .dK (putK (bK C) (.inr "zz") (V.ref p3))) :: (bO C ++ [])) (List.Sublist.cons_cons _ (List.Sublist.cons _ (List.Sublist.refl _)))
    walk_at "gg"
    by_cases old : ("zz" : Str) ∈ C.map (·.1)
    · obtain ⟨b', hb', eb'⟩ := List.mem_map.mp old
      obtain ⟨j, hj⟩ := List.mem_iff_getElem?.mp hb'
      have er : putK (bK C) (.inr "zz") (V.ref p3) = bK (C.set j (b'.1, p3, (["c"] : Tx))) := by
        rw [← eb']
        exact putK_rep nC hj
      rw [er] at h4
      have h5 := Has.brep (x := (["c"] : Tx)) hj h4
      rw [List.append_nil] at h5
      have ek : (C.set j (b'.1, p3, (["c"] : Tx))).map (·.1) = C.map (·.1) := by
        rw [List.map_set]
        refine List.ext_getElem? fun i => ?_
        rw [List.getElem?_set]
        split
        · rename_i e
          subst e
          split
          · rw [List.getElem?_map, hj]
            rfl
          · rename_i e
            rw [List.length_map] at e
            exact (e (List.getElem?_eq_some_iff.mp hj).1).elim
        · rfl
      refine q H4 _ h5 (by rw [ek]; exact nC) (by rw [List.length_set]; omega) fun r hr => ?_
      rcases List.mem_or_eq_of_mem_set hr with hr | rfl
      · have := lC r hr
        omega
      · show 1 ≤ _
        omega
    · rw [putK_new _ (bK_none old)] at h4
      have h5 := Has.bput (t := (["c"] : Tx)) h4
      rw [List.append_nil] at h5
      refine q H4 _ h5 ?_ (by rw [List.length_append]; show _ + 1 ≤ _; omega) fun r hr => ?_
      · rw [List.map_append, List.nodup_append]
        refine ⟨nC, by simp, fun a ha b hb e => old ?_⟩
        have eb : b = "zz" := by simpa using hb
        rw [← eb, ← e]
        exact ha
      · rcases List.mem_append.mp hr with hr | hr
        · have := lC r hr
          omega
        · rw [List.mem_singleton.mp hr]
          show 1 ≤ _
          omega
end

end K09

namespace K09
open PySem PySem.Spec PyProof.Rows L2 Qk
local macro_rules | `(tactic| walk_at "m") => `(tactic| ((repeat (first | exact List.Mem.head _ | apply List.Mem.tail)); done))
local macro_rules | `(tactic| walk_at "h") => `(tactic| first | assumption | exact Has.gF (by assumption) (by assumption) | exact Has.get (by assumption) (by walk_at "m"))
local macro_rules | `(tactic| walk_at "c") => `(tactic| ((repeat (first | exact Chg.hd | apply Chg.tl)); done))
local macro_rules | `(tactic| walk_at "is") => `(tactic| first
  | ((with_reducible refine' is2_non ?gh ?_); (case gh => walk_at "h"))
  | (with_reducible refine is_int_list ?_)
  | (with_reducible refine is_int_tuple ?_)
  | (with_reducible refine is_int_dict ?_)
  | (with_reducible refine is_int_int ?_)
  | (with_reducible refine is_int_bool ?_)
  | (with_reducible refine is_int_str ?_)
  | ((with_reducible refine' is2_int ?gh ?_); (case gh => walk_at "h"))
  | (with_reducible refine is_str_list ?_)
  | (with_reducible refine is_str_tuple ?_)
  | (with_reducible refine is_str_dict ?_)
  | (with_reducible refine is_str_int ?_)
  | (with_reducible refine is_str_bool ?_)
  | (with_reducible refine is_str_str ?_)
  | ((with_reducible refine' is2_str ?gh ?_); (case gh => walk_at "h"))
  | (with_reducible refine is_bool_list ?_)
  | (with_reducible refine is_bool_tuple ?_)
  | (with_reducible refine is_bool_dict ?_)
  | (with_reducible refine is_bool_int ?_)
  | (with_reducible refine is_bool_bool ?_)
  | (with_reducible refine is_bool_str ?_)
  | ((with_reducible refine' is2_bool ?gh ?_); (case gh => walk_at "h"))
  | ((with_reducible refine' is_list_list ?gh ?_); (case gh => walk_at "h"))
  | ((with_reducible refine' is_list_tuple ?gh ?_); (case gh => walk_at "h"))
  | ((with_reducible refine' is_list_dict ?gh ?_); (case gh => walk_at "h"))
  | ((with_reducible refine' is_list_int ?gh ?_); (case gh => walk_at "h"))
  | ((with_reducible refine' is_list_bool ?gh ?_); (case gh => walk_at "h"))
  | ((with_reducible refine' is_list_str ?gh ?_); (case gh => walk_at "h"))
  | ((with_reducible refine' is2_list ?ga ?gb ?_); (case ga => walk_at "h"); (case gb => walk_at "h"))
  | ((with_reducible refine' is_tuple_list ?gh ?_); (case gh => walk_at "h"))
  | ((with_reducible refine' is_tuple_tuple ?gh ?_); (case gh => walk_at "h"))
  | ((with_reducible refine' is_tuple_dict ?gh ?_); (case gh => walk_at "h"))
  | ((with_reducible refine' is_tuple_int ?gh ?_); (case gh => walk_at "h"))
  | ((with_reducible refine' is_tuple_bool ?gh ?_); (case gh => walk_at "h"))
  | ((with_reducible refine' is_tuple_str ?gh ?_); (case gh => walk_at "h"))
  | ((with_reducible refine' is2_tuple ?ga ?gb ?_); (case ga => walk_at "h"); (case gb => walk_at "h"))
  | ((with_reducible refine' is_dict_list ?gh ?_); (case gh => walk_at "h"))
  | ((with_reducible refine' is_dict_tuple ?gh ?_); (case gh => walk_at "h"))
  | ((with_reducible refine' is_dict_dict ?gh ?_); (case gh => walk_at "h"))
  | ((with_reducible refine' is_dict_int ?gh ?_); (case gh => walk_at "h"))
  | ((with_reducible refine' is_dict_bool ?gh ?_); (case gh => walk_at "h"))
  | ((with_reducible refine' is_dict_str ?gh ?_); (case gh => walk_at "h"))
  | ((with_reducible refine' is2_dict ?ga ?gb ?_); (case ga => walk_at "h"); (case gb => walk_at "h")))
local macro_rules | `(tactic| walk_at "g") => `(tactic| first
  | (with_reducible refine g_seq ?_)
  | (with_reducible refine g_asg ?_)
  | ((with_reducible refine g_name ?_); dsimp only [List.set, wipe, List.map])
  | ((with_reducible refine' g_var ?gv ?_); (case gv => exact rfl))
  | (with_reducible refine g_c ?_)
  | (with_reducible refine g_op ?_)
  | (with_reducible refine g_cons ?_)
  | (with_reducible refine g_nil ?_)
  | (with_reducible refine g_cb ?_)
  | (with_reducible refine g_call ?_)
  | (with_reducible refine g_tup ?_)
  | (with_reducible refine g_lst ?_)
  | (with_reducible refine g_bm ?_)
  | (with_reducible refine g_bm0 ?_)
  | ((with_reducible refine' g_kbm ?gh ?_); (case gh => walk_at "h"))
  | (with_reducible refine g_drop ?_)
  | (with_reducible refine g_ret ?_)
  | (with_reducible refine g_retN ?_)
  | (with_reducible refine g_next ?_)
  | (with_reducible refine g_brk ?_)
  | (with_reducible refine g_cont ?_)
  | (with_reducible refine g_if ?_)
  | ((with_reducible refine' g_aug ?gv ?_); (case gv => exact rfl))
  | (with_reducible refine g_ipI ?_)
  | (with_reducible refine g_test ?_)
  | (with_reducible refine g_tB ?_)
  | (with_reducible refine g_kB ?_)
  | (with_reducible refine g_not ?_)
  | (with_reducible refine g_and ?_)
  | (with_reducible refine g_or ?_)
  | (with_reducible refine g_andV ?_)
  | (with_reducible refine g_orV ?_)
  | (with_reducible refine g_notV ?_)
  | (with_reducible refine g_ifE ?_)
  | (with_reducible refine g_addI ?_)
  | (with_reducible refine g_rI0 ?_)
  | (with_reducible refine g_eqI ?_)
  | (with_reducible refine g_eqS ?_)
  | (with_reducible refine g_neI ?_)
  | (with_reducible refine g_neS ?_)
  | (with_reducible refine g_isN ?_)
  | (with_reducible refine g_notN ?_)
  | (with_reducible refine g_int ?_)
  | (with_reducible refine g_max2 ?_)
  | (with_reducible refine g_min2 ?_)
  | ((with_reducible refine' g_lenL ?gh ?_); (case gh => walk_at "h"))
  | (with_reducible refine g_sub ?_)
  | (with_reducible refine g_gcons ?_)
  | (with_reducible refine g_gnil ?_)
  | (with_reducible refine g_un ?_)
  | (with_reducible refine g_rU ?_)
  | (with_reducible refine g_forL ?_)
  | (with_reducible refine g_forS ?_)
  | (with_reducible refine g_forR1 ?_)
  | (with_reducible refine g_forR2 ?_)
  | (with_reducible refine g_forR3 ?_)
  | (with_reducible refine g_lcL ?_)
  | (with_reducible refine g_lcR1 ?_)
  | (with_reducible refine g_lcR2 ?_)
  | (with_reducible refine g_slice ?_)
  | (with_reducible refine g_part ?_)
  | (with_reducible refine g_kOI ?_)
  | (with_reducible refine g_nopart ?_)
  | (with_reducible refine g_yes ?_)
  | ((with_reducible refine' g_wipe ?gv ?_); (case gv => exact rfl))
  | (with_reducible refine iteT ?_)
  | (with_reducible refine iteF ?_)
  | (with_reducible refine i_nf ?_)
  | (with_reducible refine i_nt ?_)
  | ((with_reducible refine' g_gtup ?gh ?gl ?_); (case gh => walk_at "h"); (case gl => exact rfl))
  | ((with_reducible refine' g_notinI ?gh ?_); (case gh => walk_at "h"))
  | ((with_reducible refine' g_inI ?gh ?_); (case gh => walk_at "h"))
  | ((with_reducible refine' g_kget2 ?gh ?_); (case gh => walk_at "h"))
  | ((with_reducible refine' g_kgotI ?gh ?_); (case gh => walk_at "h"))
  | (with_reducible refine g_tRev ?_)
  | (with_reducible refine g_neB ?_)
  | (with_reducible refine g_eqB ?_)
  | ((with_reducible refine' g_lenT ?gh ?_); (case gh => walk_at "h"))
  | (with_reducible refine g_star ?_)
  | ((with_reducible refine' g_kstarL ?gh ?_); (case gh => walk_at "h"))
  | ((with_reducible refine' g_kstarT ?gh ?_); (case gh => walk_at "h"))
  | (with_reducible refine g_tru ?_)
  | ((with_reducible refine' g_truL ?gh ?_); (case gh => walk_at "h"))
  | (with_reducible refine g_get2 ?_)
  | (with_reducible refine g_try ?_)
  | (with_reducible refine g_fld ?_)
  | (with_reducible refine g_sfld ?_)
  | (with_reducible refine g_meth ?_)
  | (with_reducible refine g_make ?_)
  | (with_reducible refine g_del ?_)
  | (with_reducible refine g_callS ?_)
  | (with_reducible refine g_raise ?_)
  | (with_reducible refine g_xf ?_)
  | (with_reducible refine g_m0 ?_)
  | (with_reducible refine g_km0 ?_)
  | walk_at "is")
local macro_rules | `(tactic| walk_at "gg") => `(tactic| repeat walk_at "g")
local macro_rules | `(tactic| walk_at "sz") => `(tactic| (refine sz ?_; simp only [List.length_cons, List.length_nil, List.length_map, List.length_append, List.length_replicate]; omega))
local macro_rules | `(tactic| walk_at "sub") => `(tactic| ((repeat (first | exact List.Sublist.slnil | with_reducible apply List.Sublist.cons_cons | with_reducible apply List.Sublist.cons)); done))

/-! ### _law_ends, _law_common -/
def rowD (r : List Nat) : PyData := .list (r.map fun k => PyData.int (k : Nat))
theorem row_inv {F : Hp} {v : V} {r : List Nat} (h : Dq F v (rowD r)) : ∃ a, v = .ref a ∧ F a = some (.lst ((r.map fun k => ((k : Nat) : Int)).map V.int)) := by
  cases h with
  | @lst a xs _ hT hs =>
    refine ⟨a, rfl, ?_⟩
    have e : (r.map fun k => PyData.int (k : Nat)) = (r.map fun k => ((k : Nat) : Int)).map PyData.int := by rw [List.map_map]; rfl
    rw [e] at hs
    have : ∀ {vs : List V} {ns : List Int}, DqAll F vs (ns.map PyData.int) → vs = ns.map V.int := by
      intro vs ns
      induction ns generalizing vs with
      | nil => intro h; cases h; rfl
      | cons n ns ih =>
        intro h
        cases h with
        | cons h1 h2 =>
          cases h1
          rw [ih h2]
          rfl
    rw [this hs] at hT
    exact hT
/-- the rows for the last 0, 1, .. n lines -/
def endsD (xs ys : List Str) (n : Nat) : List PyData := (List.range (n + 1)).map fun s => rowD (eR (xs.drop (xs.length - s)) ys)
section
variable {P : Program} {w : World} {K : PySem.W.Frag} {mg : Str → Option Value} {base : Heap}
def sp_l_ends (K : PySem.W.Frag) : Sp := fun vs H Q _ => ∃ (a b : Addr) (xs ys : List Str), vs = [.ref a, .ref b] ∧ H a = some (.lst (xs.map V.str)) ∧ H b = some (.lst (ys.map V.str)) ∧ xs.length ≤ 1000 ∧ ys.length ≤ 1000 ∧
  ∀ p H' (vs : List V), Same H H' → H p = none → H' p = some (.lst vs) → DqAll H' vs (endsD xs ys xs.length) → Q (.ref p) H'
theorem sp_l_ends_len {vs H Q E} (h : sp_l_ends K vs H Q E) : vs.length = 2 := by
  obtain ⟨_, _, _, _, rfl, _⟩ := h
  rfl
theorem ok_l_ends (T : Txt K mg) : FnOk P w K mg base CX0 1 T.f_l_ends T.fd_l_ends ["old", "new"] (sp_l_ends K) := by
  refine T.F_l_ends.ok sc_l_ends (fun vs H Q E h => sp_l_ends_len h) (fun cdv A outer s H vs Q E hr h => ?_)
  refine ⟨_, (pss_cons (ps_set (i := 2) sc_l_ends.nd rfl (.inl rfl) (pe_lst (pa_cons (pe_lst (pa_cons (pe_callB (cr_lenK K) (by rfl) T.m_len (by decide +kernel) (pa_cons (pv 1) pa_nil)) pa_nil)) pa_nil)))
      (pss_cons (ps_for PassesOwn.never rfl (k_il K (pi_list (k_rev K (pe_revL (pv 0))))) (pg_name (i := 3) sc_l_ends.nd rfl (.inr rfl)) (pss_cons (ps_set (i := 4) sc_l_ends.nd rfl (.inl rfl) (pe_ix (ix_K K (hu_of hr)) (pv 2) (pe_un un_neg pe_int) (fun _ _ => rfl)))
      (pss_cons (ps_set (i := 5) sc_l_ends.nd rfl (.inl rfl) (pe_lst (pa_cons (pe_callB (cr_lenK K) (by rfl) T.m_len (by decide +kernel) (pa_cons (pv 1) pa_nil)) pa_nil)))
      (pss_cons (ps_for PassesOwn.never rfl (pi_range1 rfl T.m_range (pa_cons (pe_callB (cr_lenK K) (by rfl) T.m_len (by decide +kernel) (pa_cons (pv 4) pa_nil)) pa_nil)) (pg_name (i := 6) sc_l_ends.nd rfl (.inl rfl)) (pss_cons (ps_setLc (i := 7) (own := [("j", 8)]) (g := gName 8) rfl sc_l_ends.nd rfl rfl (sw_true rfl rfl rfl (by decide +kernel)) (pi_range1 rfl T.m_range (pa_cons (pe_ix (ix_K K (hu_of hr)) (pv 4) (pv 6) (fun _ _ => rfl)) pa_nil)) (blkOk_by (N := n_l_ends) (sc := defScope s_l_ends) (by decide +kernel)) (fun _ _ _ _ _ => (pg_name (i := 8) sc_l_ends.nd rfl (.inl rfl))) (fun _ _ _ _ _ => (pts_one (pt_cmpR (op_eqK K hr.units) (pe_ix (ix_K K (hu_of hr)) (pv 1) (pv 8) (fun _ _ => rfl)) (pv 3) (nomark _)))) (fun _ _ _ _ _ => (pv 8)))
      (pss_cons (ps_if (pt_cmpR op_lt (pe_op (op_addK K) (pv 6) pe_int) (pe_callB (cr_lenK K) (by rfl) T.m_len (by decide +kernel) (pa_cons (pv 4) pa_nil)) (nomark _)) (pss_one (ps_set (i := 7) sc_l_ends.nd rfl (.inl rfl) (pe_op (op_addK K) (pv 7) (pe_lst (pa_cons (pe_ix (ix_K K (hu_of hr)) (pv 4) (pe_op (op_addK K) (pv 6) pe_int) (fun _ _ => rfl)) pa_nil))))) pss_nil)
      (pss_one (ps_if (pt_cmpR (op_neK K hr.units) (pv 7) (pe_lst pa_nil) (nomark _)) (pss_one (ps_expr (k_bm K (pe_bm PySem.F.plainAttrs_list PySem.F.slot_list_append PySem.F.type_list_append mt_append (pv 5) (pa_cons (pe_callB (cr_maxK K rfl) (by rfl) T.m_max (by decide +kernel) (pa_cons (pv 7) pa_nil)) pa_nil))))) pss_nil)))))
      (pss_one (ps_expr (k_bm K (pe_bm PySem.F.plainAttrs_list PySem.F.slot_list_append PySem.F.type_list_append mt_append (pv 2) (pa_cons (pv 5) pa_nil)))))))))
      (pss_one (ps_ret (pv 2))))), ?_⟩
  obtain ⟨a, b, xs, ys, rfl, ha, hb, hx, hy, q⟩ := h
  have hH := Has.start H
  refine g_start (σ' := [some (.ref a), some (.ref b), none, none, none, none, none, none, none]) rfl ?_
  walk_at "gg"
  refine g_klst (by walk_at "sz") hH (fun r0 H1 n1 h1 => ?_)
  rw [List.length_map] at h1
  have h2 := h1.frz
  have s2 := h1.grow
  have d0 : Dq (upd H r0 (.lst [.int (ys.length : Int)])) (.ref r0) (rowD (eR (xs.drop (xs.length - 0)) ys)) := by
    have e : eR (xs.drop (xs.length - 0)) ys = [ys.length] := by
      rw [Nat.sub_zero, List.drop_length]
      unfold eR
      rw [lc]
      show [mx [] ys 0] = _
      rw [mx_zero]
    rw [e]
    exact .lst upd_same (.cons (.int _) .nil)
  generalize upd H r0 (.lst [.int (ys.length : Int)]) = F0 at h2 s2 d0
  walk_at "gg"
  refine g_klst (by walk_at "sz") h2 (fun e H2 n2 h3 => ?_)
  walk_at "gg"
  have ha3 : H2 a = some (.lst (xs.map V.str)) := h3.same _ _ (s2 _ _ ha)
  refine g_rRev ha3 h3 (fun rv H3 n3 h4 => ?_)
  walk_at "gg"
  have hbF := s2 _ _ hb
  have ernil : (xs.map V.str).reverse = xs.reverse.map V.str := by rw [List.map_reverse]
  rw [ernil] at h4
  refine k_forL (xs := xs.reverse.map V.str) (by walk_at "h") (fun t σ H' => ∃ (F : Hp) (vs : List V) (y3 y4 y5 y6 y7 : Option V), σ = [some (.ref a), some (.ref b), some (.ref e), y3, y4, y5, y6, y7, none] ∧ Same F0 F ∧
    Has F [(rv, .lst (xs.reverse.map V.str)), (e, .lst vs)] H' ∧ DqAll F vs (endsD xs ys t)) ⟨F0, [.ref r0], none, none, none, none, none, rfl, Same.refl _, h4, .cons d0 .nil⟩ ?_ ?_ ?_
  · rintro i σ H' hi ⟨F, vs, y3, y4, y5, y6, y7, rfl, sF, hA, dq⟩
    walk_at "h"
  · rintro t v σ H4 hv ⟨F, vs, y3, y4, y5, y6, y7, rfl, sF, hA, dq⟩
    rw [List.getElem?_map] at hv
    obtain ⟨x, hx2, rfl⟩ := Option.map_eq_some_iff.mp hv
    have htl : t < xs.length := by have := (List.getElem?_eq_some_iff.mp hx2).1; rw [List.length_reverse] at this; exact this
    have hx3 : xs[xs.length - 1 - t]? = some x := by rw [List.getElem?_reverse htl] at hx2; exact hx2
    have hbF2 := sF _ _ hbF
    generalize hxs' : xs.drop (xs.length - t) = xs' at *
    have hdrop : xs.drop (xs.length - (t + 1)) = x :: xs' := by
      have e1 : xs.length - (t + 1) < xs.length := by omega
      rw [List.drop_eq_getElem_cons e1, show xs.length - (t + 1) + 1 = xs.length - t by omega, hxs']
      congr 1
      rw [show xs.length - 1 - t = xs.length - (t + 1) by omega, List.getElem?_eq_getElem e1] at hx3
      exact Option.some.inj hx3
    have hlast : ∃ la, vs.getLast? = some (.ref la) ∧ F la = some (.lst (((eR xs' ys).map fun k => ((k : Nat) : Int)).map V.int)) := by
      have hvl : vs.length = t + 1 := by rw [dq.len]; unfold endsD; rw [List.length_map, List.length_range]
      have hlt : t < vs.length := by omega
      obtain ⟨d, hd, dv⟩ := dq.get (List.getElem?_eq_getElem hlt)
      unfold endsD at hd
      rw [List.getElem?_map, List.getElem?_range (by omega)] at hd
      have hd' := (Option.some.inj hd).symm
      subst hd'
      have dv : Dq F vs[t] (rowD (eR (xs.drop (xs.length - t)) ys)) := dv
      rw [hxs'] at dv
      obtain ⟨la, e1, e2⟩ := row_inv dv
      refine ⟨la, ?_, e2⟩
      rw [List.getLast?_eq_getElem?, hvl, Nat.add_sub_cancel, List.getElem?_eq_getElem hlt, e1]
    obtain ⟨la, hla, hlaF⟩ := hlast
    have hL : (eR xs' ys).length = lc xs' ys + 1 := by unfold eR; rw [List.length_map, List.length_range]
    have hLy := lc_leny xs' ys
    walk_at "gg"
    refine g_ixLast (hA.get (by walk_at "m")) hla ?_
    walk_at "gg"
    refine g_klst (by walk_at "sz") hA (fun rw_ H5 n5 h5 => ?_)
    rw [List.length_map] at h5
    walk_at "gg"
    have hbd := lc_x xs' ys x
    refine k_forR1 (fun k σ H' => ∃ (y6 y7 : Option V), σ = [some (.ref a), some (.ref b), some (.ref e), some (.str x), some (.ref la), some (.ref rw_), y6, y7, none] ∧
      Has F [(rw_, .lst (((List.range (min k (lc (x :: xs') ys) + 1)).map fun k => ((mx (x :: xs') ys k : Nat) : Int)).map V.int)), (rv, .lst (xs.reverse.map V.str)), (e, .lst vs)] H') (by rw [List.length_map, List.length_map, hL]; omega) (by rw [List.length_map, List.length_map, hL]; omega)
      ⟨_, _, rfl, by
        rw [Nat.zero_min]
        show Has F [(rw_, .lst [.int ((mx (x :: xs') ys 0 : Nat) : Int)]), _, _] H5
        rw [mx_zero]
        exact h5⟩ ?_ ?_
    · rintro k σ H6 hk ⟨y6, y7, rfl, h6⟩
      rw [List.length_map, List.length_map, hL] at hk
      have hkL : k ≤ lc xs' ys := by omega
      have hmk : min k (lc (x :: xs') ys) = k := by omega
      rw [hmk] at h6
      have hek : ∀ j, j ≤ lc xs' ys → (((eR xs' ys).map fun k => ((k : Nat) : Int)))[j]? = some ((mx xs' ys j : Nat) : Int) := fun j hj => by
        unfold eR
        rw [List.getElem?_map, List.getElem?_map, List.getElem?_range (by omega)]
        rfl
      walk_at "gg"
      refine g_ixI (xs := (eR xs' ys).map fun k => ((k : Nat) : Int)) (by walk_at "h") (by omega) (by rw [List.length_map, hL]; omega) (fun z hz => ?_)
      have hz2 : z = ((mx xs' ys k : Nat) : Int) := Option.some.inj (hz.symm.trans (hek k hkL))
      subst hz2
      have hmxle := mx_le xs' ys k
      walk_at "gg"
      generalize hbase : [(rw_, HO.lst (((List.range (k + 1)).map fun k => ((mx (x :: xs') ys k : Nat) : Int)).map V.int)), (rv, HO.lst (xs.reverse.map V.str)), (e, HO.lst vs)] = obs at *
      refine k_lcR1 (by omega) (by omega) h6 (fun i acc F' O' => acc = ((((List.range i).filter fun j => decide (ys[j]? = some x)).map fun j => ((j : Nat) : Int)).map V.int) ∧ F = F' ∧ obs = O') ⟨rfl, rfl, rfl⟩ ?_ ?_
      · rintro i acc F' O' D H7 hi ⟨rfl, rfl, rfl⟩ hh
        have hi' : i < mx xs' ys k := by omega
        walk_at "gg"
        refine g_ixZ (xs := ys) (by walk_at "h") (by omega) (by omega) (fun y hy => ?_)
        have hy' : ys[i]? = some y := hy
        walk_at "gg"
        have hlen : (((((List.range i).filter fun j => decide (ys[j]? = some x)).map fun j => ((j : Nat) : Int)).map V.int)).length ≤ 100000 := by
          rw [List.length_map, List.length_map]
          have := List.length_filter_le (fun j => decide (ys[j]? = some x)) (List.range i)
          rw [List.length_range] at this
          omega
        refine i_d (fun ey => ?_) (fun ey => ?_)
        · walk_at "gg"
          refine k_turn hh hlen ⟨?_, rfl, rfl⟩
          rw [List.range_succ, List.filter_append, List.map_append, List.map_append]
          congr 1
          rw [List.filter_cons, if_pos (decide_eq_true (by rw [hy', ey]))]
          rfl
        · refine k_skip hh ⟨?_, rfl, rfl⟩
          rw [List.range_succ, List.filter_append, List.map_append, List.map_append, List.filter_cons, if_neg (by rw [decide_eq_true_eq, hy']; exact fun z => ey (Option.some.inj z)), List.filter_nil, List.map_nil, List.map_nil, List.append_nil]
      · rintro acc F' O' f H7 ⟨rfl, rfl, rfl⟩ hh
        walk_at "g"
        walk_at "g"
        have hmem0 : ∀ M : Nat, M ∈ ((List.range ((mx xs' ys k : Nat) : Int).toNat).filter fun j => decide (ys[j]? = some x)) ↔ (M < mx xs' ys k ∧ ys[M]? = some x) := fun M => by
          rw [List.mem_filter, List.mem_range, decide_eq_true_eq]
          exact Iff.rfl
        generalize hns0 : ((List.range ((mx xs' ys k : Nat) : Int).toNat).filter fun j => decide (ys[j]? = some x)) = ns0 at *
        refine g_join (fun σ' H' => ∃ (ns : List Nat) (f : Addr), σ' = [some (.ref a), some (.ref b), some (.ref e), some (.str x), some (.ref la), some (.ref rw_), some (.int k), some (.ref f), none] ∧
          Has F ((f, .lst ((ns.map fun j => ((j : Nat) : Int)).map V.int)) :: obs) H' ∧ (∀ M ∈ ns, (M < mx xs' ys k ∧ ys[M]? = some x) ∨ (k + 1 ≤ lc xs' ys ∧ M = mx xs' ys (k + 1))) ∧ (∀ j, j < mx xs' ys k → ys[j]? = some x → j ∈ ns) ∧ (k + 1 ≤ lc xs' ys → mx xs' ys (k + 1) ∈ ns)) ?_ (fun key => ?_)
        · rintro σ' H8 ⟨ns, f, rfl, h8, p1, p2, p3⟩
          walk_at "gg"
          refine g_klst (by walk_at "sz") h8 (fun nl H9 n9 h9 => ?_)
          refine g_neD (.lst (h9.get (by walk_at "m")) (DqAll.ints _)) (.lst (h9.get (List.Mem.head _)) (DqAll.ints [])) ((Sh.ints (n := 0)).ok (by decide)) ((Sh.ints (n := 0) (xs := [])).ok (by decide)) ?_
          rw [eqv_ints]
          walk_at "gg"
          have h9' := h9.drop
          subst hbase
          refine i_n (fun ne => ?_) (fun e0 => ?_)
          · walk_at "gg"
            have nel : 0 < (ns.map fun j => ((j : Nat) : Int)).length := List.length_pos_iff.mpr ne
            refine g_max (h9'.get (List.Mem.head _)) nel (fun m hm hmx => ?_)
            obtain ⟨M, hM, rfl⟩ := List.mem_map.mp hm
            have hge : ∀ j ∈ ns, j ≤ M := fun j hj => Int.ofNat_le.mp (hmx _ (List.mem_map.mpr ⟨j, hj, rfl⟩))
            obtain ⟨g1, g2⟩ := mx_step hkL (p1 M hM) (fun j h1 h2 => hge j (p2 j h1 h2)) (fun h => hge _ (p3 h))
            walk_at "gg"
            refine g_append h9' (by walk_at "c") (szl (by rw [List.length_map, List.length_map, List.length_range]; omega)) (fun H10 h10 => ?_)
            refine ⟨_, _, rfl, ?_⟩
            subst g2
            rw [show min (k + 1) (lc (x :: xs') ys) = k + 1 by omega, List.range_succ, List.map_append, List.map_append]
            exact h10.drop
          · walk_at "gg"
            have ns0' : ns = [] := List.map_eq_nil_iff.mp e0
            subst ns0'
            have g1 := mx_stop (x := x) hkL (fun j h1 h2 => List.not_mem_nil (p2 j h1 h2)) (fun h => List.not_mem_nil (p3 h))
            refine ⟨_, _, rfl, ?_⟩
            rw [show min (k + 1) (lc (x :: xs') ys) = k by omega]
            exact h9'.drop
        · walk_at "gg"
          rw [List.length_map, List.length_map, hL]
          refine i_d (fun hk1 => ?_) (fun hk1 => ?_)
          · have hk2 : k + 1 ≤ lc xs' ys := by omega
            walk_at "gg"
            refine g_ixI (xs := (eR xs' ys).map fun k => ((k : Nat) : Int)) (by walk_at "h") (by omega) (by rw [List.length_map, hL]; omega) (fun z hz => ?_)
            have hz2 : z = ((mx xs' ys (k + 1) : Nat) : Int) := by
              rw [show ((k : Int) + 1).toNat = k + 1 by omega, hek (k + 1) hk2] at hz
              exact (Option.some.inj hz).symm
            subst hz2
            walk_at "gg"
            refine g_klst (by walk_at "sz") hh (fun t1 H8 n8 h8 => ?_)
            have lns : ns0.length ≤ 1000 := by
              rw [← hns0]
              refine Nat.le_trans (List.length_filter_le _ _) ?_
              rw [List.length_range]
              omega
            refine g_addL (h8.get (by walk_at "m")) (h8.get (List.Mem.head _)) (by walk_at "sz") h8 (fun f2 H9 n9 h9 => ?_)
            refine key _ _ ⟨ns0 ++ [mx xs' ys (k + 1)], f2, rfl, ?_, ?_, ?_, ?_⟩
            · rw [List.map_append, List.map_append]
              exact h9.sub (.cons_cons _ (.cons _ (.cons _ (List.Sublist.refl _))))
            · intro M hM
              rcases List.mem_append.mp hM with hM | hM
              · exact .inl ((hmem0 M).mp hM)
              · exact .inr ⟨hk2, List.mem_singleton.mp hM⟩
            · exact fun j h1 h2 => List.mem_append_left _ ((hmem0 j).mpr ⟨h1, h2⟩)
            · exact fun _ => List.mem_append_right _ (List.mem_singleton.mpr rfl)
          · walk_at "g"
            exact key _ _ ⟨ns0, f, rfl, hh, fun M hM => .inl ((hmem0 M).mp hM), fun j h1 h2 => (hmem0 j).mpr ⟨h1, h2⟩, fun h => absurd h (by omega)⟩
    · rintro σ H6 ⟨y6, y7, rfl, h6⟩
      rw [List.length_map, List.length_map, hL, show min ((lc xs' ys + 1 : Nat) : Int).toNat (lc (x :: xs') ys) = lc (x :: xs') ys by omega] at h6
      have h7 := h6.frz
      have s7 := h6.grow
      walk_at "gg"
      refine g_append h7 (by walk_at "c") (szl (by rw [dq.len]; unfold endsD; rw [List.length_map, List.length_range]; omega)) (fun H8 h8 => ?_)
      refine ⟨_, _, _, _, _, _, _, rfl, sF.trans s7, h8, ?_⟩
      have e2 : endsD xs ys (t + 1) = endsD xs ys t ++ [rowD (eR (x :: xs') ys)] := by
        unfold endsD
        rw [List.range_succ (n := t + 1), List.map_append, List.map_cons, List.map_nil, hdrop]
      rw [e2]
      refine (dq.up s7 _ _).snoc ?_
      refine .lst upd_same ?_
      have e3 : ((eR (x :: xs') ys).map fun k => PyData.int (k : Nat)) = ((List.range (lc (x :: xs') ys + 1)).map fun k => ((mx (x :: xs') ys k : Nat) : Int)).map PyData.int := by
        unfold eR
        rw [List.map_map, List.map_map]
        rfl
      rw [e3]
      exact DqAll.ints _
  · rintro σ H4 ⟨F, vs, y3, y4, y5, y6, y7, rfl, sF, hA, dq⟩
    rw [List.length_map, List.length_reverse] at dq
    walk_at "gg"
    exact q e H4 vs (s2.trans (sF.trans hA.same)) (s2.free (sF.free (hA.drop.free))) (hA.get (by walk_at "m")) (dq.up hA.same _ _)
end

end K09

namespace K09
open PySem PySem.Spec PyProof.Rows L2 Qk
local macro_rules | `(tactic| walk_at "m") => `(tactic| ((repeat (first | exact List.Mem.head _ | apply List.Mem.tail)); done))
local macro_rules | `(tactic| walk_at "h") => `(tactic| first | assumption | exact Has.gF (by assumption) (by assumption) | exact Has.get (by assumption) (by walk_at "m"))
local macro_rules | `(tactic| walk_at "c") => `(tactic| ((repeat (first | exact Chg.hd | apply Chg.tl)); done))
local macro_rules | `(tactic| walk_at "is") => `(tactic| first
  | ((with_reducible refine' is2_non ?gh ?_); (case gh => walk_at "h"))
  | (with_reducible refine is_int_list ?_)
  | (with_reducible refine is_int_tuple ?_)
  | (with_reducible refine is_int_dict ?_)
  | (with_reducible refine is_int_int ?_)
  | (with_reducible refine is_int_bool ?_)
  | (with_reducible refine is_int_str ?_)
  | ((with_reducible refine' is2_int ?gh ?_); (case gh => walk_at "h"))
  | (with_reducible refine is_str_list ?_)
  | (with_reducible refine is_str_tuple ?_)
  | (with_reducible refine is_str_dict ?_)
  | (with_reducible refine is_str_int ?_)
  | (with_reducible refine is_str_bool ?_)
  | (with_reducible refine is_str_str ?_)
  | ((with_reducible refine' is2_str ?gh ?_); (case gh => walk_at "h"))
  | (with_reducible refine is_bool_list ?_)
  | (with_reducible refine is_bool_tuple ?_)
  | (with_reducible refine is_bool_dict ?_)
  | (with_reducible refine is_bool_int ?_)
  | (with_reducible refine is_bool_bool ?_)
  | (with_reducible refine is_bool_str ?_)
  | ((with_reducible refine' is2_bool ?gh ?_); (case gh => walk_at "h"))
  | ((with_reducible refine' is_list_list ?gh ?_); (case gh => walk_at "h"))
  | ((with_reducible refine' is_list_tuple ?gh ?_); (case gh => walk_at "h"))
  | ((with_reducible refine' is_list_dict ?gh ?_); (case gh => walk_at "h"))
  | ((with_reducible refine' is_list_int ?gh ?_); (case gh => walk_at "h"))
  | ((with_reducible refine' is_list_bool ?gh ?_); (case gh => walk_at "h"))
  | ((with_reducible refine' is_list_str ?gh ?_); (case gh => walk_at "h"))
  | ((with_reducible refine' is2_list ?ga ?gb ?_); (case ga => walk_at "h"); (case gb => walk_at "h"))
  | ((with_reducible refine' is_tuple_list ?gh ?_); (case gh => walk_at "h"))
  | ((with_reducible refine' is_tuple_tuple ?gh ?_); (case gh => walk_at "h"))
  | ((with_reducible refine' is_tuple_dict ?gh ?_); (case gh => walk_at "h"))
  | ((with_reducible refine' is_tuple_int ?gh ?_); (case gh => walk_at "h"))
  | ((with_reducible refine' is_tuple_bool ?gh ?_); (case gh => walk_at "h"))
  | ((with_reducible refine' is_tuple_str ?gh ?_); (case gh => walk_at "h"))
  | ((with_reducible refine' is2_tuple ?ga ?gb ?_); (case ga => walk_at "h"); (case gb => walk_at "h"))
  | ((with_reducible refine' is_dict_list ?gh ?_); (case gh => walk_at "h"))
  | ((with_reducible refine' is_dict_tuple ?gh ?_); (case gh => walk_at "h"))
  | ((with_reducible refine' is_dict_dict ?gh ?_); (case gh => walk_at "h"))
  | ((with_reducible refine' is_dict_int ?gh ?_); (case gh => walk_at "h"))
  | ((with_reducible refine' is_dict_bool ?gh ?_); (case gh => walk_at "h"))
  | ((with_reducible refine' is_dict_str ?gh ?_); (case gh => walk_at "h"))
  | ((with_reducible refine' is2_dict ?ga ?gb ?_); (case ga => walk_at "h"); (case gb => walk_at "h")))
local macro_rules | `(tactic| walk_at "g") => `(tactic| first
  | (with_reducible refine g_seq ?_)
  | (with_reducible refine g_asg ?_)
  | ((with_reducible refine g_name ?_); dsimp only [List.set, wipe, List.map])
  | ((with_reducible refine' g_var ?gv ?_); (case gv => exact rfl))
  | (with_reducible refine g_c ?_)
  | (with_reducible refine g_op ?_)
  | (with_reducible refine g_cons ?_)
  | (with_reducible refine g_nil ?_)
  | (with_reducible refine g_cb ?_)
  | (with_reducible refine g_call ?_)
  | (with_reducible refine g_tup ?_)
  | (with_reducible refine g_lst ?_)
  | (with_reducible refine g_bm ?_)
  | (with_reducible refine g_bm0 ?_)
  | ((with_reducible refine' g_kbm ?gh ?_); (case gh => walk_at "h"))
  | (with_reducible refine g_drop ?_)
  | (with_reducible refine g_ret ?_)
  | (with_reducible refine g_retN ?_)
  | (with_reducible refine g_next ?_)
  | (with_reducible refine g_brk ?_)
  | (with_reducible refine g_cont ?_)
  | (with_reducible refine g_if ?_)
  | ((with_reducible refine' g_aug ?gv ?_); (case gv => exact rfl))
  | (with_reducible refine g_ipI ?_)
  | (with_reducible refine g_test ?_)
  | (with_reducible refine g_tB ?_)
  | (with_reducible refine g_kB ?_)
  | (with_reducible refine g_not ?_)
  | (with_reducible refine g_and ?_)
  | (with_reducible refine g_or ?_)
  | (with_reducible refine g_andV ?_)
  | (with_reducible refine g_orV ?_)
  | (with_reducible refine g_notV ?_)
  | (with_reducible refine g_ifE ?_)
  | (with_reducible refine g_addI ?_)
  | (with_reducible refine g_rI0 ?_)
  | (with_reducible refine g_eqI ?_)
  | (with_reducible refine g_eqS ?_)
  | (with_reducible refine g_neI ?_)
  | (with_reducible refine g_neS ?_)
  | (with_reducible refine g_isN ?_)
  | (with_reducible refine g_notN ?_)
  | (with_reducible refine g_int ?_)
  | (with_reducible refine g_max2 ?_)
  | (with_reducible refine g_min2 ?_)
  | ((with_reducible refine' g_lenL ?gh ?_); (case gh => walk_at "h"))
  | (with_reducible refine g_sub ?_)
  | (with_reducible refine g_gcons ?_)
  | (with_reducible refine g_gnil ?_)
  | (with_reducible refine g_un ?_)
  | (with_reducible refine g_rU ?_)
  | (with_reducible refine g_forL ?_)
  | (with_reducible refine g_forS ?_)
  | (with_reducible refine g_forR1 ?_)
  | (with_reducible refine g_forR2 ?_)
  | (with_reducible refine g_forR3 ?_)
  | (with_reducible refine g_lcL ?_)
  | (with_reducible refine g_lcR1 ?_)
  | (with_reducible refine g_lcR2 ?_)
  | (with_reducible refine g_slice ?_)
  | (with_reducible refine g_part ?_)
  | (with_reducible refine g_kOI ?_)
  | (with_reducible refine g_nopart ?_)
  | (with_reducible refine g_yes ?_)
  | ((with_reducible refine' g_wipe ?gv ?_); (case gv => exact rfl))
  | (with_reducible refine iteT ?_)
  | (with_reducible refine iteF ?_)
  | (with_reducible refine i_nf ?_)
  | (with_reducible refine i_nt ?_)
  | ((with_reducible refine' g_gtup ?gh ?gl ?_); (case gh => walk_at "h"); (case gl => exact rfl))
  | ((with_reducible refine' g_notinI ?gh ?_); (case gh => walk_at "h"))
  | ((with_reducible refine' g_inI ?gh ?_); (case gh => walk_at "h"))
  | ((with_reducible refine' g_kget2 ?gh ?_); (case gh => walk_at "h"))
  | ((with_reducible refine' g_kgotI ?gh ?_); (case gh => walk_at "h"))
  | (with_reducible refine g_tRev ?_)
  | (with_reducible refine g_neB ?_)
  | (with_reducible refine g_eqB ?_)
  | ((with_reducible refine' g_lenT ?gh ?_); (case gh => walk_at "h"))
  | (with_reducible refine g_star ?_)
  | ((with_reducible refine' g_kstarL ?gh ?_); (case gh => walk_at "h"))
  | ((with_reducible refine' g_kstarT ?gh ?_); (case gh => walk_at "h"))
  | (with_reducible refine g_tru ?_)
  | ((with_reducible refine' g_truL ?gh ?_); (case gh => walk_at "h"))
  | (with_reducible refine g_get2 ?_)
  | (with_reducible refine g_try ?_)
  | (with_reducible refine g_fld ?_)
  | (with_reducible refine g_sfld ?_)
  | (with_reducible refine g_meth ?_)
  | (with_reducible refine g_make ?_)
  | (with_reducible refine g_del ?_)
  | (with_reducible refine g_callS ?_)
  | (with_reducible refine g_raise ?_)
  | (with_reducible refine g_xf ?_)
  | (with_reducible refine g_m0 ?_)
  | (with_reducible refine g_km0 ?_)
  | walk_at "is")
local macro_rules | `(tactic| walk_at "gg") => `(tactic| repeat walk_at "g")
local macro_rules | `(tactic| walk_at "sz") => `(tactic| (refine sz ?_; simp only [List.length_cons, List.length_nil, List.length_map, List.length_append, List.length_replicate]; omega))
local macro_rules | `(tactic| walk_at "sub") => `(tactic| ((repeat (first | exact List.Sublist.slnil | with_reducible apply List.Sublist.cons_cons | with_reducible apply List.Sublist.cons)); done))

/-! ### _law_common, _law_walk -/
section
variable {P : Program} {w : World} {K : PySem.W.Frag} {mg : Str → Option Value} {base : Heap}
def sp_l_common (K : PySem.W.Frag) : Sp := fun vs H Q _ => ∃ (e : Addr) (i j : Int) (xs ys : List Str) (us : List V), vs = [.ref e, .int i, .int j] ∧ H e = some (.lst us) ∧ DqAll H us (endsD xs ys xs.length) ∧ 0 ≤ i ∧ i ≤ xs.length ∧ 0 ≤ j ∧ j ≤ ys.length ∧ xs.length ≤ 1000 ∧ ys.length ≤ 1000 ∧
  ∀ H', Same H H' → Q (.int (lc (xs.drop i.toNat) (ys.drop j.toNat) : Nat)) H'
theorem sp_l_common_len {vs H Q E} (h : sp_l_common K vs H Q E) : vs.length = 3 := by
  obtain ⟨_, _, _, _, _, _, rfl, _⟩ := h
  rfl
theorem ok_l_common (T : Txt K mg) : FnOk P w K mg base CX0 1 T.f_l_common T.fd_l_common ["ends", "i", "j"] (sp_l_common K) := by
  refine T.F_l_common.ok sc_l_common (fun vs H Q E h => sp_l_common_len h) (fun cdv A outer s H vs Q E hr h => ?_)
  refine ⟨_, (pss_cons (ps_set (i := 3) sc_l_common.nd rfl (.inl rfl) (pe_ix (ix_K K (hu_of hr)) (pv 0) (pe_op op_sub (pe_op op_sub (pe_callB (cr_lenK K) (by rfl) T.m_len (by decide +kernel) (pa_cons (pv 0) pa_nil)) pe_int) (pv 1)) (fun _ _ => rfl)))
      (pss_one (ps_ret (pe_callB (cr_lenK K) (by rfl) T.m_len (by decide +kernel) (pa_cons (pe_lc (own := [("end", 4)]) (g := gName 4) rfl sc_l_common.nd (k_il K (pi_list (pe_slice (sl_K K) (pv 3) (po_some pe_int) po_none))) (blkOk_by (N := n_l_common) (sc := defScope s_l_common) (by decide +kernel)) (fun _ _ _ _ _ => (pg_name (i := 4) sc_l_common.nd rfl (.inl rfl))) (fun _ _ _ _ _ => (pts_one (pt_cmpR op_ge (pv 4) (pv 2) (nomark _)))) (fun _ _ _ _ _ => (pv 4))) pa_nil))))), ?_⟩
  obtain ⟨e, i, j, xs, ys, us, rfl, he, dq, i0, i1, j0, j1, lx, ly, q⟩ := h
  have hH := Has.start H
  refine g_start (σ' := [some (.ref e), some (.int i), some (.int j), none, none]) rfl ?_
  have hul : us.length = xs.length + 1 := by rw [dq.len]; unfold endsD; rw [List.length_map, List.length_range]
  have hd : ∃ ra, us[((us.length : Int) - 1 - i).toNat]? = some (.ref ra) ∧ H ra = some (.lst (((eR (xs.drop i.toNat) ys).map fun k => ((k : Nat) : Int)).map V.int)) := by
    have e0 : ((us.length : Int) - 1 - i).toNat = xs.length - i.toNat := by omega
    rw [e0]
    have hlt : xs.length - i.toNat < us.length := by omega
    obtain ⟨d, hd, dv⟩ := dq.get (List.getElem?_eq_getElem hlt)
    unfold endsD at hd
    rw [List.getElem?_map, List.getElem?_range (by omega)] at hd
    have hd' := (Option.some.inj hd).symm
    subst hd'
    have dv : Dq H us[xs.length - i.toNat] (rowD (eR (xs.drop (xs.length - (xs.length - i.toNat))) ys)) := dv
    rw [show xs.length - (xs.length - i.toNat) = i.toNat by omega] at dv
    obtain ⟨la, e1, e2⟩ := row_inv dv
    exact ⟨la, by rw [List.getElem?_eq_getElem hlt, e1], e2⟩
  obtain ⟨ra, hra, hrH⟩ := hd
  walk_at "gg"
  refine g_ixL he (at_n (by omega) hra) ?_
  walk_at "gg"
  refine g_slL hrH hH (fun p H1 n1 h1 => ?_)
  rw [show (some (1 : Int)) = some ((1 : Nat) : Int) from rfl, cutV_from] at h1
  have hL := lc_leny (xs.drop i.toNat) ys
  have hcount := eR_count (xs := xs.drop i.toNat) (ys := ys) (j := j.toNat) (by omega)
  rw [← List.map_drop, ← List.map_drop] at h1
  have htail : ((eR (xs.drop i.toNat) ys).drop 1).length ≤ 1000 := by
    unfold eR
    rw [List.length_drop, List.length_map, List.length_range]
    omega
  generalize hns : (eR (xs.drop i.toNat) ys).drop 1 = ns at *
  refine k_lcL (xs := (ns.map fun k => ((k : Nat) : Int)).map V.int) (h1.get (List.Mem.head _)) h1 (fun t acc F' O' => acc = (((ns.take t).filter fun e => decide (j.toNat ≤ e)).map fun e => V.int ((e : Nat) : Int)) ∧ H = F' ∧ [(p, HO.lst ((ns.map fun k => ((k : Nat) : Int)).map V.int))] = O') ⟨rfl, rfl, rfl⟩ ?_ ?_ ?_
  · rintro t acc F' O' H3 ⟨rfl, rfl, rfl⟩ hh
    exact hh.get (List.Mem.head _)
  · rintro t x acc F' O' D H3 hx ⟨rfl, rfl, rfl⟩ hh
    rw [List.getElem?_map, List.getElem?_map] at hx
    obtain ⟨z, hz, rfl⟩ := Option.map_eq_some_iff.mp hx
    obtain ⟨m, hm, rfl⟩ := Option.map_eq_some_iff.mp hz
    have hlen : ((((ns.take t).filter fun e => decide (j.toNat ≤ e)).map fun e => V.int ((e : Nat) : Int))).length ≤ 100000 := by
      rw [List.length_map]
      have := List.length_filter_le (fun e => decide (j.toNat ≤ e)) (ns.take t)
      rw [List.length_take] at this
      omega
    walk_at "gg"
    refine i_d (fun g => ?_) (fun g => ?_)
    · walk_at "gg"
      refine k_turn hh hlen ⟨?_, rfl, rfl⟩
      rw [List.take_add_one, hm, List.filter_append, List.map_append]
      congr 1
      show _ = (List.filter _ [m]).map _
      rw [List.filter_cons, if_pos (decide_eq_true (by omega))]
      rfl
    · refine k_skip hh ⟨?_, rfl, rfl⟩
      rw [List.take_add_one, hm, List.filter_append, List.map_append]
      show _ = _ ++ (List.filter _ [m]).map _
      rw [List.filter_cons, if_neg (by rw [decide_eq_true_eq]; omega), List.filter_nil, List.map_nil, List.append_nil]
  · rintro acc F' O' D H3 ⟨rfl, rfl, rfl⟩ hh
    rw [List.length_map, List.length_map, List.take_length] at hh
    walk_at "gg"
    rw [List.length_map, hcount]
    exact q H3 hh.same
def sp_l_walk (K : PySem.W.Frag) : Sp := sp_matched K
theorem sp_l_walk_len {vs H Q E} (h : sp_l_walk K vs H Q E) : vs.length = 2 := sp_matched_len h
theorem ok_l_walk (T : Txt K mg) : FnOk P w K mg base CX0 2 T.f_l_walk T.fd_l_walk ["old", "new"] (sp_l_walk K) := by
  refine T.F_l_walk.ok sc_l_walk (fun vs H Q E h => sp_l_walk_len h) (fun cdv A outer s H vs Q E hr h => ?_)
  refine ⟨_, (pss_cons (ps_set (i := 2) sc_l_walk.nd rfl (.inl rfl) (pe_call (ok_l_ends T) (hr.mono (by decide)) (by rfl) T.g_l_ends T.F_l_ends.kp T.b_l_ends .nil pass0 (pa_cons (pv 0) (pa_cons (pv 1) pa_nil))))
      (pss_cons (ps_set (i := 3) sc_l_walk.nd rfl (.inl rfl) (pe_lst pa_nil))
      (pss_cons (ps_set (i := 4) sc_l_walk.nd rfl (.inl rfl) pe_int)
      (pss_cons (ps_set (i := 5) sc_l_walk.nd rfl (.inl rfl) pe_int)
      (pss_cons (ps_while PassesOwn.never (PW.pt (pw_and (pt_cmpR op_lt (pv 4) (pe_callB (cr_lenK K) (by rfl) T.m_len (by decide +kernel) (pa_cons (pv 0) pa_nil)) (nomark _)) (pw_and1 (pt_cmpR op_lt (pv 5) (pe_callB (cr_lenK K) (by rfl) T.m_len (by decide +kernel) (pa_cons (pv 1) pa_nil)) (nomark _))))) (pss_one (ps_if (pt_cmpR (op_eqK K hr.units) (pe_ix (ix_K K (hu_of hr)) (pv 0) (pv 4) (fun _ _ => rfl)) (pe_ix (ix_K K (hu_of hr)) (pv 1) (pv 5) (fun _ _ => rfl)) (nomark _)) (pss_cons (ps_expr (k_bm K (pe_bm PySem.F.plainAttrs_list PySem.F.slot_list_append PySem.F.type_list_append mt_append (pv 3) (pa_cons (pe_tup (pa_cons (pv 4) (pa_cons (pv 5) pa_nil))) pa_nil))))
      (pss_cons (ps_set (i := 4) sc_l_walk.nd rfl (.inl rfl) (pe_op (op_addK K) (pv 4) pe_int))
      (pss_one (ps_set (i := 5) sc_l_walk.nd rfl (.inl rfl) (pe_op (op_addK K) (pv 5) pe_int))))) (pss_one (ps_if (pt_cmpR op_ge (pe_call (ok_l_common T) (hr.mono (by decide)) (by rfl) T.g_l_common T.F_l_common.kp T.b_l_common .nil pass0 (pa_cons (pv 2) (pa_cons (pe_op (op_addK K) (pv 4) pe_int) (pa_cons (pv 5) pa_nil)))) (pe_call (ok_l_common T) (hr.mono (by decide)) (by rfl) T.g_l_common T.F_l_common.kp T.b_l_common .nil pass0 (pa_cons (pv 2) (pa_cons (pv 4) (pa_cons (pe_op (op_addK K) (pv 5) pe_int) pa_nil)))) (nomark _)) (pss_one (ps_set (i := 4) sc_l_walk.nd rfl (.inl rfl) (pe_op (op_addK K) (pv 4) pe_int))) (pss_one (ps_set (i := 5) sc_l_walk.nd rfl (.inl rfl) (pe_op (op_addK K) (pv 5) pe_int))))))))
      (pss_one (ps_ret (pv 3)))))))), ?_⟩
  obtain ⟨a, b, xs, ys, rfl, ha, hb, hx, hy, q⟩ := h
  refine g_start (σ' := [some (.ref a), some (.ref b), none, none, none, none]) rfl ?_
  walk_at "gg"
  refine ⟨a, b, xs, ys, rfl, ha, hb, hx, hy, fun t H1 us s0 n1 ht tab => ?_⟩
  have ha1 := s0 _ _ ha
  have hb1 := s0 _ _ hb
  have hH := Has.start H1
  walk_at "gg"
  refine g_klst (by walk_at "sz") hH (fun p H2 n2 h2 => ?_)
  walk_at "gg"
  refine g_while (fun k σ H' => ∃ (i j : Nat) (acc : List (Nat × Nat)) (vs : List V) (F : Hp), σ = [some (.ref a), some (.ref b), some (.ref t), some (.ref p), some (.int i), some (.int j)] ∧ Same H1 F ∧ Has F [(p, .lst vs)] H' ∧ DqAll F vs (acc.map prd) ∧ acc ++ mt (xs.drop i) (ys.drop j) i j = mt xs ys 0 0 ∧ i ≤ xs.length ∧ j ≤ ys.length ∧ acc.length ≤ i ∧ k = (xs.length - i) + (ys.length - j)) _ ⟨0, 0, [], [], H1, rfl, Same.refl _, h2, .nil, by simp, by omega, by omega, by simp, rfl⟩ ?_
  · rintro k σ H3 ⟨i, j, acc, vs, F, rfl, sF, h3, dq, ea, hi, hj, hac, rfl⟩
    have ha3 : F a = some (.lst (xs.map V.str)) := sF _ _ ha1
    have hb3 : F b = some (.lst (ys.map V.str)) := sF _ _ hb1
    have ht3 : H3 t = some (.lst us) := h3.same _ _ (sF _ _ ht)
    have tab3 : DqAll H3 us (endsD xs ys xs.length) := tab.up (sF.trans h3.same) _ _
    refine g_fact (fun c => c = true ↔ (i < xs.length ∧ j < ys.length)) (fun R r => ?_) (fun c hc => ?_)
    · walk_at "gg"
      rw [List.length_map]
      refine i_d (fun l1 => ?_) (fun l1 => r _ ⟨fun z => (Bool.false_ne_true z).elim, fun z => by omega⟩)
      walk_at "gg"
      rw [List.length_map]
      exact r _ ⟨fun z => by have := of_decide_eq_true z; omega, fun z => decide_eq_true (by omega)⟩
    cases c with
    | true =>
      have hij := hc.mp rfl
      have hxi : xs[i]? = some xs[i] := List.getElem?_eq_getElem hij.1
      have hyj : ys[j]? = some ys[j] := List.getElem?_eq_getElem hij.2
      have ma := mt_at hxi hyj
      refine kwh_t ?_
      walk_at "gg"
      refine g_ixZ (by walk_at "h") (by omega) (by omega) (fun x hx' => ?_)
      walk_at "gg"
      refine g_ixZ (by walk_at "h") (by omega) (by omega) (fun y hy' => ?_)
      have ex : x = xs[i] := Option.some.inj (hx'.symm.trans hxi)
      have ey : y = ys[j] := Option.some.inj (hy'.symm.trans hyj)
      subst ex ey
      walk_at "gg"
      refine i_d (fun e => ?_) (fun e => ?_)
      · rw [if_pos e] at ma
        walk_at "gg"
        refine g_ktupF (by walk_at "sz") h3 (fun T H4 F' n4 s4 hT h4 => ?_)
        walk_at "gg"
        have hvl : vs.length = acc.length := by rw [dq.len, List.length_map]
        refine g_append h4 (by walk_at "c") (szl (by omega)) (fun H5 h5 => ?_)
        walk_at "gg"
        refine ⟨(xs.length - (i + 1)) + (ys.length - (j + 1)), by omega, i + 1, j + 1, acc ++ [(i, j)], _, F', rfl, sF.trans s4, h5, ?_, ?_, by omega, by omega, by rw [List.length_append]; show acc.length + 1 ≤ _; omega, rfl⟩
        · rw [List.map_append]
          exact (dq.up s4 _ _).snoc (.tup hT (.cons (.int _) (.cons (.int _) .nil)))
        · rw [← ea, ma, List.append_assoc]
          rfl
      · rw [if_neg e] at ma
        walk_at "gg"
        refine ⟨t, _, _, xs, ys, us, rfl, ht3, tab3, by omega, by omega, by omega, by omega, hx, hy, fun H4 s4 => ?_⟩
        have h4 := h3.on s4
        walk_at "gg"
        refine ⟨t, _, _, xs, ys, us, rfl, s4 _ _ ht3, tab3.up s4 _ _, by omega, by omega, by omega, by omega, hx, hy, fun H5 s5 => ?_⟩
        have h5 := h4.on s5
        walk_at "gg"
        have e1 : ((i : Int) + 1).toNat = i + 1 := by omega
        have e2 : ((j : Int) + 1).toNat = j + 1 := by omega
        rw [e1, e2]
        refine i_d (fun g => ?_) (fun g => ?_)
        · have g' : lc (xs.drop (i + 1)) (ys.drop j) ≥ lc (xs.drop i) (ys.drop (j + 1)) := Int.ofNat_le.mp g
          rw [if_pos g'] at ma
          walk_at "gg"
          exact ⟨(xs.length - (i + 1)) + (ys.length - j), by omega, i + 1, j, acc, vs, F, rfl, sF, h5, dq, by rw [← ea, ma], by omega, hj, by omega, rfl⟩
        · have g' : ¬ lc (xs.drop (i + 1)) (ys.drop j) ≥ lc (xs.drop i) (ys.drop (j + 1)) := fun z => g (Int.ofNat_le.mpr z)
          rw [if_neg g'] at ma
          walk_at "gg"
          exact ⟨(xs.length - i) + (ys.length - (j + 1)), by omega, i, j + 1, acc, vs, F, rfl, sF, h5, dq, by rw [← ea, ma], hi, by omega, by omega, rfl⟩
    | false =>
      have hij : xs.length ≤ i ∨ ys.length ≤ j := by
        have : ¬ (i < xs.length ∧ j < ys.length) := fun z => Bool.false_ne_true (hc.mpr z)
        omega
      refine kwh_f ?_
      rw [mt_end hij, List.append_nil] at ea
      subst ea
      walk_at "gg"
      exact q p H3 vs (s0.trans (sF.trans h3.same)) (s0.free n2) (by walk_at "h") (dq.up h3.same _ _)
end

end K09

namespace K09
open PySem PySem.Spec PyProof.Rows L2 Qk
local macro_rules | `(tactic| walk_at "m") => `(tactic| ((repeat (first | exact List.Mem.head _ | apply List.Mem.tail)); done))
local macro_rules | `(tactic| walk_at "h") => `(tactic| first | assumption | exact Has.gF (by assumption) (by assumption) | exact Has.get (by assumption) (by walk_at "m"))
local macro_rules | `(tactic| walk_at "c") => `(tactic| ((repeat (first | exact Chg.hd | apply Chg.tl)); done))
local macro_rules | `(tactic| walk_at "is") => `(tactic| first
  | ((with_reducible refine' is2_non ?gh ?_); (case gh => walk_at "h"))
  | (with_reducible refine is_int_list ?_)
  | (with_reducible refine is_int_tuple ?_)
  | (with_reducible refine is_int_dict ?_)
  | (with_reducible refine is_int_int ?_)
  | (with_reducible refine is_int_bool ?_)
  | (with_reducible refine is_int_str ?_)
  | ((with_reducible refine' is2_int ?gh ?_); (case gh => walk_at "h"))
  | (with_reducible refine is_str_list ?_)
  | (with_reducible refine is_str_tuple ?_)
  | (with_reducible refine is_str_dict ?_)
  | (with_reducible refine is_str_int ?_)
  | (with_reducible refine is_str_bool ?_)
  | (with_reducible refine is_str_str ?_)
  | ((with_reducible refine' is2_str ?gh ?_); (case gh => walk_at "h"))
  | (with_reducible refine is_bool_list ?_)
  | (with_reducible refine is_bool_tuple ?_)
  | (with_reducible refine is_bool_dict ?_)
  | (with_reducible refine is_bool_int ?_)
  | (with_reducible refine is_bool_bool ?_)
  | (with_reducible refine is_bool_str ?_)
  | ((with_reducible refine' is2_bool ?gh ?_); (case gh => walk_at "h"))
  | ((with_reducible refine' is_list_list ?gh ?_); (case gh => walk_at "h"))
  | ((with_reducible refine' is_list_tuple ?gh ?_); (case gh => walk_at "h"))
  | ((with_reducible refine' is_list_dict ?gh ?_); (case gh => walk_at "h"))
  | ((with_reducible refine' is_list_int ?gh ?_); (case gh => walk_at "h"))
  | ((with_reducible refine' is_list_bool ?gh ?_); (case gh => walk_at "h"))
  | ((with_reducible refine' is_list_str ?gh ?_); (case gh => walk_at "h"))
  | ((with_reducible refine' is2_list ?ga ?gb ?_); (case ga => walk_at "h"); (case gb => walk_at "h"))
  | ((with_reducible refine' is_tuple_list ?gh ?_); (case gh => walk_at "h"))
  | ((with_reducible refine' is_tuple_tuple ?gh ?_); (case gh => walk_at "h"))
  | ((with_reducible refine' is_tuple_dict ?gh ?_); (case gh => walk_at "h"))
  | ((with_reducible refine' is_tuple_int ?gh ?_); (case gh => walk_at "h"))
  | ((with_reducible refine' is_tuple_bool ?gh ?_); (case gh => walk_at "h"))
  | ((with_reducible refine' is_tuple_str ?gh ?_); (case gh => walk_at "h"))
  | ((with_reducible refine' is2_tuple ?ga ?gb ?_); (case ga => walk_at "h"); (case gb => walk_at "h"))
  | ((with_reducible refine' is_dict_list ?gh ?_); (case gh => walk_at "h"))
  | ((with_reducible refine' is_dict_tuple ?gh ?_); (case gh => walk_at "h"))
  | ((with_reducible refine' is_dict_dict ?gh ?_); (case gh => walk_at "h"))
  | ((with_reducible refine' is_dict_int ?gh ?_); (case gh => walk_at "h"))
  | ((with_reducible refine' is_dict_bool ?gh ?_); (case gh => walk_at "h"))
  | ((with_reducible refine' is_dict_str ?gh ?_); (case gh => walk_at "h"))
  | ((with_reducible refine' is2_dict ?ga ?gb ?_); (case ga => walk_at "h"); (case gb => walk_at "h")))
local macro_rules | `(tactic| walk_at "g") => `(tactic| first
  | (with_reducible refine g_seq ?_)
  | (with_reducible refine g_asg ?_)
  | ((with_reducible refine g_name ?_); dsimp only [List.set, wipe, List.map])
  | ((with_reducible refine' g_var ?gv ?_); (case gv => exact rfl))
  | (with_reducible refine g_c ?_)
  | (with_reducible refine g_op ?_)
  | (with_reducible refine g_cons ?_)
  | (with_reducible refine g_nil ?_)
  | (with_reducible refine g_cb ?_)
  | (with_reducible refine g_call ?_)
  | (with_reducible refine g_tup ?_)
  | (with_reducible refine g_lst ?_)
  | (with_reducible refine g_bm ?_)
  | (with_reducible refine g_bm0 ?_)
  | ((with_reducible refine' g_kbm ?gh ?_); (case gh => walk_at "h"))
  | (with_reducible refine g_drop ?_)
  | (with_reducible refine g_ret ?_)
  | (with_reducible refine g_retN ?_)
  | (with_reducible refine g_next ?_)
  | (with_reducible refine g_brk ?_)
  | (with_reducible refine g_cont ?_)
  | (with_reducible refine g_if ?_)
  | ((with_reducible refine' g_aug ?gv ?_); (case gv => exact rfl))
  | (with_reducible refine g_ipI ?_)
  | (with_reducible refine g_test ?_)
  | (with_reducible refine g_tB ?_)
  | (with_reducible refine g_kB ?_)
  | (with_reducible refine g_not ?_)
  | (with_reducible refine g_and ?_)
  | (with_reducible refine g_or ?_)
  | (with_reducible refine g_andV ?_)
  | (with_reducible refine g_orV ?_)
  | (with_reducible refine g_notV ?_)
  | (with_reducible refine g_ifE ?_)
  | (with_reducible refine g_addI ?_)
  | (with_reducible refine g_rI0 ?_)
  | (with_reducible refine g_eqI ?_)
  | (with_reducible refine g_eqS ?_)
  | (with_reducible refine g_neI ?_)
  | (with_reducible refine g_neS ?_)
  | (with_reducible refine g_isN ?_)
  | (with_reducible refine g_notN ?_)
  | (with_reducible refine g_int ?_)
  | (with_reducible refine g_max2 ?_)
  | (with_reducible refine g_min2 ?_)
  | ((with_reducible refine' g_lenL ?gh ?_); (case gh => walk_at "h"))
  | (with_reducible refine g_sub ?_)
  | (with_reducible refine g_gcons ?_)
  | (with_reducible refine g_gnil ?_)
  | (with_reducible refine g_un ?_)
  | (with_reducible refine g_rU ?_)
  | (with_reducible refine g_forL ?_)
  | (with_reducible refine g_forS ?_)
  | (with_reducible refine g_forR1 ?_)
  | (with_reducible refine g_forR2 ?_)
  | (with_reducible refine g_forR3 ?_)
  | (with_reducible refine g_lcL ?_)
  | (with_reducible refine g_lcR1 ?_)
  | (with_reducible refine g_lcR2 ?_)
  | (with_reducible refine g_slice ?_)
  | (with_reducible refine g_part ?_)
  | (with_reducible refine g_kOI ?_)
  | (with_reducible refine g_nopart ?_)
  | (with_reducible refine g_yes ?_)
  | ((with_reducible refine' g_wipe ?gv ?_); (case gv => exact rfl))
  | (with_reducible refine iteT ?_)
  | (with_reducible refine iteF ?_)
  | (with_reducible refine i_nf ?_)
  | (with_reducible refine i_nt ?_)
  | ((with_reducible refine' g_gtup ?gh ?gl ?_); (case gh => walk_at "h"); (case gl => exact rfl))
  | ((with_reducible refine' g_notinI ?gh ?_); (case gh => walk_at "h"))
  | ((with_reducible refine' g_inI ?gh ?_); (case gh => walk_at "h"))
  | ((with_reducible refine' g_kget2 ?gh ?_); (case gh => walk_at "h"))
  | ((with_reducible refine' g_kgotI ?gh ?_); (case gh => walk_at "h"))
  | (with_reducible refine g_tRev ?_)
  | (with_reducible refine g_neB ?_)
  | (with_reducible refine g_eqB ?_)
  | ((with_reducible refine' g_lenT ?gh ?_); (case gh => walk_at "h"))
  | (with_reducible refine g_star ?_)
  | ((with_reducible refine' g_kstarL ?gh ?_); (case gh => walk_at "h"))
  | ((with_reducible refine' g_kstarT ?gh ?_); (case gh => walk_at "h"))
  | (with_reducible refine g_tru ?_)
  | ((with_reducible refine' g_truL ?gh ?_); (case gh => walk_at "h"))
  | (with_reducible refine g_get2 ?_)
  | (with_reducible refine g_try ?_)
  | (with_reducible refine g_fld ?_)
  | (with_reducible refine g_sfld ?_)
  | (with_reducible refine g_meth ?_)
  | (with_reducible refine g_make ?_)
  | (with_reducible refine g_del ?_)
  | (with_reducible refine g_callS ?_)
  | (with_reducible refine g_raise ?_)
  | (with_reducible refine g_xf ?_)
  | (with_reducible refine g_m0 ?_)
  | (with_reducible refine g_km0 ?_)
  | walk_at "is")
local macro_rules | `(tactic| walk_at "gg") => `(tactic| repeat walk_at "g")
local macro_rules | `(tactic| walk_at "sz") => `(tactic| (refine sz ?_; simp only [List.length_cons, List.length_nil, List.length_map, List.length_append, List.length_replicate]; omega))
local macro_rules | `(tactic| walk_at "sub") => `(tactic| ((repeat (first | exact List.Sublist.slnil | with_reducible apply List.Sublist.cons_cons | with_reducible apply List.Sublist.cons)); done))

/-! ### stable lines, runs, chunks -/
def look (ps : List (Nat × Nat)) (i : Nat) : Option Nat := (ps.find? fun p => decide (p.1 = i)).map (·.2)
theorem look_nil (i : Nat) : look [] i = none := rfl
theorem look_cons (p : Nat × Nat) (ps : List (Nat × Nat)) (i : Nat) : look (p :: ps) i = if p.1 = i then some p.2 else look ps i := by
  unfold look
  by_cases h : p.1 = i <;> simp [List.find?_cons, h]
theorem fm_congr {α β : Type} {f g : α → Option β} : ∀ {l : List α}, (∀ x ∈ l, f x = g x) → l.filterMap f = l.filterMap g
  | [], _ => rfl
  | x :: l, h => by
    rw [List.filterMap_cons, List.filterMap_cons, h x List.mem_cons_self, fm_congr fun y hy => h y (List.mem_cons_of_mem _ hy)]
def Inc : Nat → Nat → List (Nat × Nat) → Prop
  | _, _, [] => True
  | i, j, p :: ps => i ≤ p.1 ∧ j ≤ p.2 ∧ Inc (p.1 + 1) (p.2 + 1) ps
theorem Inc.mono {i j i' j' : Nat} : ∀ {ps : List (Nat × Nat)}, i' ≤ i → j' ≤ j → Inc i j ps → Inc i' j' ps
  | [], _, _, _ => trivial
  | _ :: _, h1, h2, h => ⟨Nat.le_trans h1 h.1, Nat.le_trans h2 h.2.1, h.2.2⟩
theorem mt_inc : ∀ (xs ys : List Str) (i j : Nat), Inc i j (mt xs ys i j)
  | [], _, _, _ => by rw [mt]; trivial
  | _ :: _, [], _, _ => by rw [mt]; trivial
  | x :: xs, y :: ys, i, j => by
    rw [mt]
    split
    · exact ⟨Nat.le_refl _, Nat.le_refl _, mt_inc xs ys (i + 1) (j + 1)⟩
    · split
      · exact (mt_inc xs (y :: ys) (i + 1) j).mono (Nat.le_succ _) (Nat.le_refl _)
      · exact (mt_inc (x :: xs) ys i (j + 1)).mono (Nat.le_refl _) (Nat.le_succ _)
termination_by xs ys => xs.length + ys.length
theorem mt_eq : ∀ (xs ys : List Str) (i j : Nat) (p : Nat × Nat), p ∈ mt xs ys i j → ∃ z, xs[p.1 - i]? = some z ∧ ys[p.2 - j]? = some z
  | [], _, _, _, _, h => by rw [mt] at h; cases h
  | _ :: _, [], _, _, _, h => by rw [mt] at h; cases h
  | x :: xs, y :: ys, i, j, p, h => by
    rw [mt] at h
    split at h
    · rename_i e
      rcases List.mem_cons.mp h with rfl | h
      · exact ⟨x, by simp, by simp [e]⟩
      · have hl := mt_lt _ _ _ _ _ h
        obtain ⟨z, h1, h2⟩ := mt_eq xs ys (i + 1) (j + 1) p h
        refine ⟨z, ?_, ?_⟩
        · rw [show p.1 - i = (p.1 - (i + 1)) + 1 by omega]; exact h1
        · rw [show p.2 - j = (p.2 - (j + 1)) + 1 by omega]; exact h2
    · split at h
      · have hl := mt_lt _ _ _ _ _ h
        obtain ⟨z, h1, h2⟩ := mt_eq xs (y :: ys) (i + 1) j p h
        refine ⟨z, ?_, h2⟩
        rw [show p.1 - i = (p.1 - (i + 1)) + 1 by omega]; exact h1
      · have hl := mt_lt _ _ _ _ _ h
        obtain ⟨z, h1, h2⟩ := mt_eq (x :: xs) ys i (j + 1) p h
        refine ⟨z, h1, ?_⟩
        rw [show p.2 - j = (p.2 - (j + 1)) + 1 by omega]; exact h2
termination_by xs ys => xs.length + ys.length
theorem look_ge {i k : Nat} : ∀ {a b : Nat} {qs : List (Nat × Nat)}, Inc a b qs → look qs i = some k → a ≤ i ∧ b ≤ k
  | _, _, [], _, h => by cases h
  | a, b, q :: qs, hi, h => by
    rw [look_cons] at h
    split at h
    · rename_i e
      have := Option.some.inj h
      exact ⟨e ▸ hi.1, this ▸ hi.2.1⟩
    · have := look_ge hi.2.2 h
      exact ⟨by have := hi.1; omega, by have := hi.2.1; omega⟩
theorem look_inc {i1 i2 k1 k2 : Nat} : ∀ {a b : Nat} {qs : List (Nat × Nat)}, Inc a b qs → look qs i1 = some k1 → look qs i2 = some k2 → i1 < i2 → k1 < k2
  | _, _, [], _, h, _, _ => by cases h
  | a, b, q :: qs, hi, h1, h2, hlt => by
    rw [look_cons] at h1 h2
    split at h1
    · rename_i e1
      split at h2
      · omega
      · have := look_ge hi.2.2 h2
        have := Option.some.inj h1
        omega
    · split at h2
      · rename_i e2
        have := look_ge hi.2.2 h1
        omega
      · exact look_inc hi.2.2 h1 h2 hlt
theorem look_mem {i k : Nat} {qs : List (Nat × Nat)} (h : look qs i = some k) : (i, k) ∈ qs := by
  induction qs with
  | nil => cases h
  | cons q qs ih =>
    rw [look_cons] at h
    split at h
    · rename_i e
      have := Option.some.inj h
      obtain ⟨q1, q2⟩ := q
      simp only at e this
      rw [e, this]
      exact List.mem_cons_self
    · exact List.mem_cons_of_mem _ (ih h)
abbrev Tr := Nat × Nat × Nat
def stab (ps qs : List (Nat × Nat)) : List Tr := ps.filterMap fun p => (look qs p.1).map fun k => (p.1, p.2, k)
def Wf : Nat → Nat → Nat → List Tr → Prop
  | _, _, _, [] => True
  | i, j, k, m :: ms => i ≤ m.1 ∧ j ≤ m.2.1 ∧ k ≤ m.2.2 ∧ Wf (m.1 + 1) (m.2.1 + 1) (m.2.2 + 1) ms
theorem stab_wf {qs : List (Nat × Nat)} {a b : Nat} (hq : Inc a b qs) : ∀ {i j k : Nat} {ps : List (Nat × Nat)}, Inc i j ps → (∀ i' k', i ≤ i' → look qs i' = some k' → k ≤ k') → Wf i j k (stab ps qs)
  | _, _, _, [], _, _ => trivial
  | i, j, k, p :: ps, hp, hk => by
    unfold stab
    rw [List.filterMap_cons]
    cases h : look qs p.1 with
    | none =>
      simp only [Option.map_none]
      exact stab_wf hq (hp.2.2.mono (by have := hp.1; omega) (by have := hp.2.1; omega)) hk
    | some k' =>
      simp only [Option.map_some]
      refine ⟨hp.1, hp.2.1, hk _ _ hp.1 h, stab_wf hq hp.2.2 fun i' k2 hi h2 => ?_⟩
      exact look_inc hq h h2 hi
theorem stab_mem {ps qs : List (Nat × Nat)} {m : Tr} (h : m ∈ stab ps qs) : (m.1, m.2.1) ∈ ps ∧ (m.1, m.2.2) ∈ qs := by
  unfold stab at h
  obtain ⟨p, hp, e⟩ := List.mem_filterMap.mp h
  obtain ⟨k, hk, e2⟩ := Option.map_eq_some_iff.mp e
  subst e2
  exact ⟨hp, look_mem hk⟩
theorem fm_none {α β : Type} {f : α → Option β} : ∀ {l : List α}, (∀ x ∈ l, f x = none) → l.filterMap f = []
  | [], _ => rfl
  | x :: l, h => by
    rw [List.filterMap_cons, h x List.mem_cons_self]
    exact fm_none fun y hy => h y (List.mem_cons_of_mem _ hy)
theorem look_none {a b i : Nat} {ps : List (Nat × Nat)} (h : Inc a b ps) (hi : i < a) : look ps i = none := by
  cases e : look ps i with
  | none => rfl
  | some k =>
    have := look_ge h e
    omega
theorem fm_range {β : Type} (g : Nat → Nat → Option β) : ∀ (n a b : Nat) (ps : List (Nat × Nat)), Inc a b ps → (∀ p ∈ ps, p.1 < a + n) → ps.filterMap (fun p => g p.1 p.2) = (List.range' a n).filterMap fun i => (look ps i).bind fun j => g i j
  | 0, a, b, ps, hp, hn => by
    cases ps with
    | nil => rfl
    | cons p ps =>
      have := hp.1
      have := hn p List.mem_cons_self
      omega
  | n + 1, a, b, [], hp, hn => (fm_none fun x _ => rfl).symm
  | n + 1, a, b, p :: ps, hp, hn => by
    rw [List.range'_succ, List.filterMap_cons (a := a), look_cons]
    by_cases e : p.1 = a
    · rw [if_pos e, List.filterMap_cons, e]
      have ih := fm_range g n (a + 1) (p.2 + 1) ps (by have := hp.2.2; rw [e] at this; exact this) (fun q hq => by have := hn q (List.mem_cons_of_mem _ hq); omega)
      have hc : (List.range' (a + 1) n).filterMap (fun i => (look (p :: ps) i).bind fun j => g i j) = (List.range' (a + 1) n).filterMap fun i => (look ps i).bind fun j => g i j := by
        apply fm_congr
        intro i hi
        have := (List.mem_range'_1.mp hi).1
        rw [look_cons, if_neg (by omega)]
      rw [hc, ← ih]
      rfl
    · rw [if_neg e, look_none hp.2.2 (by have := hp.1; omega)]
      exact fm_range g n (a + 1) b (p :: ps) ⟨by have := hp.1; omega, hp.2.1, hp.2.2⟩ (fun q hq => by have := hn q hq; omega)
theorem stab_range {ps qs : List (Nat × Nat)} {n : Nat} (hp : Inc 0 0 ps) (hn : ∀ p ∈ ps, p.1 < n) :
    stab ps qs = ((List.range n).filter fun i => (look ps i).isSome && (look qs i).isSome).map fun i => (i, (look ps i).getD 0, (look qs i).getD 0) := by
  have h := fm_range (fun i j => (look qs i).map fun k => ((i, j, k) : Tr)) n 0 0 ps hp (by intro p h; have := hn p h; omega)
  unfold stab
  rw [h, List.range_eq_range', ← List.filterMap_eq_map, List.filterMap_filter]
  apply fm_congr
  intro i _
  rcases h1 : look ps i with _ | j <;> rcases h2 : look qs i with _ | k <;> simp [h1, h2]
inductive Ch where
  | same (ls : List Str)
  | part (b x y : List Str)
abbrev R4 := Nat × Nat × Nat × Nat
def grpF : R4 → List Tr → List R4
  | r, [] => [r]
  | (a, b, c, l), m :: ms => if (a + l, b + l, c + l) = m then grpF (a, b, c, l + 1) ms else (a, b, c, l) :: grpF (m.1, m.2.1, m.2.2, 1) ms
def grp : List Tr → List R4
  | [] => []
  | m :: ms => grpF (m.1, m.2.1, m.2.2, 1) ms
def cut (L : List Str) (i a : Nat) : List Str := (L.drop i).take (a - i)
def pOpt (B X Y : List Str) (s m : Tr) : List Ch := if (cut B s.1 m.1).length + (cut X s.2.1 m.2.1).length + (cut Y s.2.2 m.2.2).length > 0 then [.part (cut B s.1 m.1) (cut X s.2.1 m.2.1) (cut Y s.2.2 m.2.2)] else []
def sOpt (B : List Str) (a l : Nat) : List Ch := if l > 0 then [.same (cut B a (a + l))] else []
def pc (B X Y : List Str) : Tr → List R4 → List Ch
  | _, [] => []
  | s, (a, b, c, l) :: rs => pOpt B X Y s (a, b, c) ++ sOpt B a l ++ pc B X Y (a + l, b + l, c + l) rs
def fl (run : List Str) : List Ch := if run ≠ [] then [.same run] else []
def pN (B X Y : List Str) (s m : Tr) : List Ch := if m ≠ s then [.part (cut B s.1 m.1) (cut X s.2.1 m.2.1) (cut Y s.2.2 m.2.2)] else []
def nx3 (m : Tr) : Tr := (m.1 + 1, m.2.1 + 1, m.2.2 + 1)
def chL (B X Y : List Str) : Tr → List Str → List Tr → List Ch
  | _, _, [] => []
  | s, run, m :: ms => if m ≠ s ∨ ms = [] then fl run ++ pN B X Y s m ++ chL B X Y (nx3 m) ((B.drop m.1).take 1) ms else chL B X Y (nx3 m) (run ++ (B.drop m.1).take 1) ms
theorem cut_len (L : List Str) {i a : Nat} (h : a ≤ L.length) : (cut L i a).length = a - i := by
  unfold cut
  rw [List.length_take, List.length_drop]
  omega
theorem cut_succ (L : List Str) {a n : Nat} (h : a ≤ n) : cut L a (n + 1) = cut L a n ++ (L.drop n).take 1 := by
  unfold cut
  rw [show n + 1 - a = (n - a) + 1 by omega, List.take_add_one, List.getElem?_drop, show a + (n - a) = n by omega]
  congr 1
  by_cases hn : n < L.length
  · rw [List.getElem?_eq_getElem hn, List.drop_eq_getElem_cons hn]
    rfl
  · rw [List.getElem?_eq_none (by omega), List.drop_eq_nil_of_le (by omega)]
    rfl
theorem pOpt_pN {B X Y : List Str} {s m : Tr} (h1 : s.1 ≤ m.1) (h2 : s.2.1 ≤ m.2.1) (h3 : s.2.2 ≤ m.2.2) (l1 : m.1 ≤ B.length) (l2 : m.2.1 ≤ X.length) (l3 : m.2.2 ≤ Y.length) : pOpt B X Y s m = pN B X Y s m := by
  unfold pOpt pN
  rw [cut_len B l1, cut_len X l2, cut_len Y l3]
  by_cases e : m = s
  · subst e
    rw [if_neg (by omega), if_neg (fun z => z rfl)]
  · rw [if_pos e, if_pos]
    rcases Nat.lt_or_ge 0 (m.1 - s.1 + (m.2.1 - s.2.1) + (m.2.2 - s.2.2)) with h | h
    · exact h
    · exfalso
      apply e
      obtain ⟨m1, m2, m3⟩ := m
      obtain ⟨s1, s2, s3⟩ := s
      simp only at *
      rw [show m1 = s1 by omega, show m2 = s2 by omega, show m3 = s3 by omega]
/-- within a text's bounds -/
def Bd (B X Y : List Str) (m : Tr) : Prop := m.1 < B.length ∧ m.2.1 < X.length ∧ m.2.2 < Y.length
theorem pc_chL (B X Y : List Str) : ∀ (S : List Tr) (a b c l : Nat) (pos : Tr), 0 < l → a + l ≤ B.length → b + l ≤ X.length → c + l ≤ Y.length → Wf (a + l) (b + l) (c + l) S → (∀ m ∈ S, Bd B X Y m) →
    pc B X Y pos (grpF (a, b, c, l) S ++ [(B.length, X.length, Y.length, 0)]) = pOpt B X Y pos (a, b, c) ++ chL B X Y (a + l, b + l, c + l) (cut B a (a + l)) (S ++ [(B.length, X.length, Y.length)])
  | [], a, b, c, l, pos, hl, h1, h2, h3, hw, hb => by
    have hrun : cut B a (a + l) ≠ [] := fun z => by
      have := cut_len B (i := a) h1
      rw [z] at this
      simp only [List.length_nil] at this
      omega
    show pOpt B X Y pos (a, b, c) ++ sOpt B a l ++ (pOpt B X Y (a + l, b + l, c + l) (B.length, X.length, Y.length) ++ sOpt B B.length 0 ++ []) = _
    rw [pOpt_pN (s := (a + l, b + l, c + l)) h1 h2 h3 (Nat.le_refl _) (Nat.le_refl _) (Nat.le_refl _), List.nil_append, chL, if_pos (.inr rfl), chL]
    unfold sOpt fl
    rw [if_pos hl, if_neg (by omega), if_pos hrun]
    simp only [List.append_nil, List.append_assoc]
  | m :: ms, a, b, c, l, pos, hl, h1, h2, h3, hw, hb => by
    have hm := hb m List.mem_cons_self
    have hne : ms ++ [(B.length, X.length, Y.length)] ≠ [] := by simp
    obtain ⟨m1, m2, m3⟩ := m
    obtain ⟨w1, w2, w3, w4⟩ := hw
    obtain ⟨b1, b2, b3⟩ := hm
    simp only at w1 w2 w3 w4 b1 b2 b3
    rw [grpF, List.cons_append, chL]
    by_cases e : ((a + l, b + l, c + l) : Tr) = (m1, m2, m3)
    · rw [if_pos e, if_neg (by rintro (z | z); exact z e.symm; exact hne z)]
      obtain ⟨e1, e2, e3⟩ : a + l = m1 ∧ b + l = m2 ∧ c + l = m3 := by
        simp only [Prod.mk.injEq] at e
        exact e
      subst e1 e2 e3
      have ih := pc_chL B X Y ms a b c (l + 1) pos (by omega) (by omega) (by omega) (by omega) w4 (fun q hq => hb q (List.mem_cons_of_mem _ hq))
      rw [ih, show a + (l + 1) = (a + l) + 1 by omega, cut_succ B (by omega)]
      rfl
    · rw [if_neg e, if_pos (.inl fun z => e z.symm)]
      have ih := pc_chL B X Y ms m1 m2 m3 1 (a + l, b + l, c + l) (by omega) (by omega) (by omega) (by omega) w4 (fun q hq => hb q (List.mem_cons_of_mem _ hq))
      have hrun : cut B a (a + l) ≠ [] := fun z => by
        have := cut_len B (i := a) h1
        rw [z] at this
        simp only [List.length_nil] at this
        omega
      show pOpt B X Y pos (a, b, c) ++ sOpt B a l ++ pc B X Y (a + l, b + l, c + l) (grpF (m1, m2, m3, 1) ms ++ [(B.length, X.length, Y.length, 0)]) = _
      rw [ih, pOpt_pN (s := (a + l, b + l, c + l)) (m := (m1, m2, m3)) w1 w2 w3 (Nat.le_of_lt b1) (Nat.le_of_lt b2) (Nat.le_of_lt b3)]
      unfold sOpt fl
      rw [if_pos hl, if_pos hrun]
      have ec : cut B m1 (m1 + 1) = (B.drop m1).take 1 := by
        unfold cut
        rw [show m1 + 1 - m1 = 1 by omega]
      rw [ec]
      simp only [List.append_assoc]
      rfl
/-- the chunks of three texts -/
def tch (B X Y : List Str) : List Ch := pc B X Y (0, 0, 0) (grp (stab (mt B X 0 0) (mt B Y 0 0)) ++ [(B.length, X.length, Y.length, 0)])
theorem stab_bd (B X Y : List Str) : ∀ m ∈ stab (mt B X 0 0) (mt B Y 0 0), Bd B X Y m := fun m hm => by
  obtain ⟨h1, h2⟩ := stab_mem hm
  have l1 := mt_lt _ _ _ _ _ h1
  have l2 := mt_lt _ _ _ _ _ h2
  exact ⟨by omega, by omega, by omega⟩
theorem stab_wf0 (B X Y : List Str) : Wf 0 0 0 (stab (mt B X 0 0) (mt B Y 0 0)) := stab_wf (mt_inc B Y 0 0) (mt_inc B X 0 0) fun _ _ _ _ => Nat.zero_le _
theorem tch_eq (B X Y : List Str) : tch B X Y = chL B X Y (0, 0, 0) [] (stab (mt B X 0 0) (mt B Y 0 0) ++ [(B.length, X.length, Y.length)]) := by
  unfold tch
  have hw := stab_wf0 B X Y
  have hb := stab_bd B X Y
  generalize stab (mt B X 0 0) (mt B Y 0 0) = S at *
  cases S with
  | nil =>
    show pOpt B X Y (0, 0, 0) (B.length, X.length, Y.length) ++ sOpt B B.length 0 ++ [] = _
    rw [pOpt_pN (Nat.zero_le _) (Nat.zero_le _) (Nat.zero_le _) (Nat.le_refl _) (Nat.le_refl _) (Nat.le_refl _), List.nil_append, chL, if_pos (.inr rfl), chL]
    unfold sOpt fl
    rw [if_neg (by omega), if_neg (fun z => z rfl)]
    simp only [List.append_nil, List.nil_append]
  | cons m ms =>
    obtain ⟨m1, m2, m3⟩ := m
    obtain ⟨w1, w2, w3, w4⟩ := hw
    obtain ⟨b1, b2, b3⟩ := hb (m1, m2, m3) List.mem_cons_self
    simp only at w1 w2 w3 w4 b1 b2 b3
    have h := pc_chL B X Y ms m1 m2 m3 1 (0, 0, 0) (by omega) (by omega) (by omega) (by omega) w4 (fun q hq => hb q (List.mem_cons_of_mem _ hq))
    have hne : ms ++ [(B.length, X.length, Y.length)] ≠ [] := by simp
    have ec : cut B m1 (m1 + 1) = (B.drop m1).take 1 := by
      unfold cut
      rw [show m1 + 1 - m1 = 1 by omega]
    show pc B X Y (0, 0, 0) (grpF (m1, m2, m3, 1) ms ++ _) = _
    rw [h, pOpt_pN (m := (m1, m2, m3)) (Nat.zero_le _) (Nat.zero_le _) (Nat.zero_le _) (Nat.le_of_lt b1) (Nat.le_of_lt b2) (Nat.le_of_lt b3), List.cons_append, chL, ec]
    by_cases e : ((m1, m2, m3) : Tr) = (0, 0, 0)
    · rw [if_neg (by rintro (z | z); exact z e; exact hne z)]
      unfold pN
      rw [if_neg (fun z => z e), List.nil_append, List.nil_append]
      rfl
    · rw [if_pos (.inl e)]
      unfold fl
      rw [if_neg (fun z => z rfl), List.nil_append]
      rfl
/-! ### the stretches joined -/
def side (n : Nat) : Ch → List Str
  | .same ls => ls
  | .part b x y => if n = 1 then b else if n = 2 then x else y
def joined (n : Nat) (cs : List Ch) : List Str := cs.flatMap (side n)
def sel (n : Nat) (m : Tr) : Nat := if n = 1 then m.1 else if n = 2 then m.2.1 else m.2.2
def selT (n : Nat) (B X Y : List Str) : List Str := if n = 1 then B else if n = 2 then X else Y
theorem cut_drop (L : List Str) {i a : Nat} (h : i ≤ a) : cut L i a ++ L.drop a = L.drop i := by
  unfold cut
  have := List.take_append_drop (a - i) (L.drop i)
  rw [List.drop_drop, show i + (a - i) = a by omega] at this
  exact this
theorem take1_drop (L : List Str) (a : Nat) : (L.drop a).take 1 ++ L.drop (a + 1) = L.drop a := by
  have := List.take_append_drop 1 (L.drop a)
  rw [List.drop_drop] at this
  exact this
theorem joined_chL (n : Nat) (B X Y : List Str) : ∀ (S : List Tr) (s : Tr) (run : List Str), Wf s.1 s.2.1 s.2.2 S → s.1 ≤ B.length → s.2.1 ≤ X.length → s.2.2 ≤ Y.length →
    (∀ m ∈ S, Bd B X Y m ∧ (B.drop m.1).take 1 = ((selT n B X Y).drop (sel n m)).take 1) →
    joined n (chL B X Y s run (S ++ [(B.length, X.length, Y.length)])) = run ++ (selT n B X Y).drop (sel n s)
  | [], s, run, hw, h1, h2, h3, hb => by
    rw [List.nil_append, chL, if_pos (.inr rfl), chL, List.append_nil]
    unfold joined
    rw [List.flatMap_append]
    have e1 : (fl run).flatMap (side n) = run := by
      unfold fl
      split
      · simp [side]
      · rename_i z
        have : run = [] := Classical.not_not.mp z
        rw [this]; rfl
    rw [e1]
    congr 1
    have key : ∀ (L : List Str) (i : Nat), cut L i L.length = L.drop i := fun L i => by
      unfold cut
      rw [List.take_of_length_le (by rw [List.length_drop]; exact Nat.le_refl _)]
    unfold pN
    by_cases e : ((B.length, X.length, Y.length) : Tr) = s
    · rw [if_neg (fun z => z e), ← e]
      unfold sel selT
      split
      · rw [List.drop_length]; rfl
      · split <;> (rw [List.drop_length]; rfl)
    · rw [if_pos e]
      simp only [List.flatMap_cons, List.flatMap_nil, List.append_nil, side, key]
      unfold sel selT
      split
      · rfl
      · split <;> rfl
  | m :: ms, s, run, hw, h1, h2, h3, hb => by
    obtain ⟨w1, w2, w3, w4⟩ := hw
    obtain ⟨⟨b1, b2, b3⟩, hlines⟩ := hb m List.mem_cons_self
    have ih := fun r => joined_chL n B X Y ms (nx3 m) r w4 b1 b2 b3 (fun q hq => hb q (List.mem_cons_of_mem _ hq))
    have hsel : sel n (nx3 m) = sel n m + 1 := by
      unfold sel nx3
      split
      · rfl
      · split <;> rfl
    have hle : sel n s ≤ sel n m := by
      unfold sel
      split
      · exact w1
      · split
        · exact w2
        · exact w3
    rw [List.cons_append, chL]
    split
    · unfold joined at ih ⊢
      rw [List.flatMap_append, List.flatMap_append, ih, hsel, hlines, take1_drop]
      have e1 : (fl run).flatMap (side n) = run := by
        unfold fl
        split
        · simp [side]
        · rename_i z
          have : run = [] := Classical.not_not.mp z
          rw [this]; rfl
      rw [e1, List.append_assoc]
      congr 1
      unfold pN
      by_cases e : m = s
      · rw [if_neg (fun z => z e), e]; rfl
      · rw [if_pos e]
        simp only [List.flatMap_cons, List.flatMap_nil, List.append_nil, side]
        rw [← cut_drop (selT n B X Y) hle]
        congr 1
        unfold sel selT
        split
        · rfl
        · split <;> rfl
    · rename_i z
      have e : m = s := Classical.not_not.mp fun y => z (.inl y)
      rw [ih, hsel, hlines, List.append_assoc, take1_drop, e]
theorem take1_eq {L M : List Str} {i j : Nat} {z : Str} (h1 : L[i]? = some z) (h2 : M[j]? = some z) : (L.drop i).take 1 = (M.drop j).take 1 := by
  obtain ⟨l1, e1⟩ := List.getElem?_eq_some_iff.mp h1
  obtain ⟨l2, e2⟩ := List.getElem?_eq_some_iff.mp h2
  rw [List.drop_eq_getElem_cons l1, List.drop_eq_getElem_cons l2, e1, e2]
  rfl
theorem tch_joined (n : Nat) (B X Y : List Str) : joined n (tch B X Y) = selT n B X Y := by
  rw [tch_eq, joined_chL n B X Y _ (0, 0, 0) [] (stab_wf0 B X Y) (Nat.zero_le _) (Nat.zero_le _) (Nat.zero_le _)]
  · have : sel n ((0, 0, 0) : Tr) = 0 := by
      unfold sel
      split
      · rfl
      · split <;> rfl
    rw [this, List.drop_zero, List.nil_append]
  · intro m hm
    refine ⟨stab_bd B X Y m hm, ?_⟩
    obtain ⟨h1, h2⟩ := stab_mem hm
    obtain ⟨z1, e1, e2⟩ := mt_eq _ _ _ _ _ h1
    obtain ⟨z2, e3, e4⟩ := mt_eq _ _ _ _ _ h2
    rw [Nat.sub_zero] at e1 e2 e3 e4
    unfold sel selT
    split
    · rfl
    · split
      · exact take1_eq e1 e2
      · exact take1_eq e3 e4
theorem stab_self (B : List Str) : stab (mt B B 0 0) (mt B B 0 0) = (List.range B.length).map fun k => (k, k, k) := by
  have hl : ∀ i, look (mt B B 0 0) i = if i < B.length then some i else none := fun i => by
    cases h : look (mt B B 0 0) i with
    | none =>
      rw [if_neg]
      intro hi
      have hm : (i, i) ∈ mt B B 0 0 := by
        rw [mt_self]
        exact List.mem_map.mpr ⟨i, List.mem_range.mpr hi, by rw [Nat.zero_add]⟩
      have : ∀ (ps : List (Nat × Nat)), (i, i) ∈ ps → look ps i ≠ none := by
        intro ps
        induction ps with
        | nil => intro h; cases h
        | cons p ps ih =>
          intro h
          rw [look_cons]
          split
          · exact fun z => by cases z
          · rename_i ne
            rcases List.mem_cons.mp h with h | h
            · exact (ne (by rw [← h])).elim
            · exact ih h
      exact this _ hm h
    | some k =>
      have hm := look_mem h
      rw [mt_self] at hm
      obtain ⟨k', hk, e⟩ := List.mem_map.mp hm
      rw [Nat.zero_add, Prod.mk.injEq] at e
      have := List.mem_range.mp hk
      rw [if_pos (by omega)]
      congr 1
      omega
  rw [stab_range (n := B.length) (mt_inc B B 0 0) (fun p hp => by have := mt_lt _ _ _ _ _ hp; omega)]
  have e1 : ((List.range B.length).filter fun i => (look (mt B B 0 0) i).isSome && (look (mt B B 0 0) i).isSome) = List.range B.length := by
    apply List.filter_eq_self.mpr
    intro i hi
    rw [hl i, if_pos (List.mem_range.mp hi)]
    rfl
  rw [e1]
  apply List.map_congr_left
  intro i hi
  rw [hl i, if_pos (List.mem_range.mp hi)]
  rfl
theorem chL_diag (B : List Str) : ∀ (d t : Nat), t + d = B.length → chL B B B (t, t, t) (B.take t) (((List.range' t d).map fun k => ((k, k, k) : Tr)) ++ [(B.length, B.length, B.length)]) = if B = [] then [] else [.same B]
  | 0, t, h => by
    have e : t = B.length := by omega
    subst e
    rw [List.take_length]
    show chL B B B _ B [(B.length, B.length, B.length)] = _
    rw [chL, if_pos (.inr rfl), chL]
    unfold fl pN
    rw [if_neg (fun z : ((B.length, B.length, B.length) : Tr) ≠ (B.length, B.length, B.length) => z rfl)]
    by_cases hB : B = []
    · rw [if_neg (fun z => z hB), if_pos hB]; rfl
    · rw [if_pos hB, if_neg hB]; rfl
  | d + 1, t, h => by
    rw [List.range'_succ, List.map_cons, List.cons_append, chL, if_neg (by rintro (z | z); exact z rfl; simp at z)]
    have e : B.take t ++ (B.drop t).take 1 = B.take (t + 1) := by
      have := cut_succ B (a := 0) (n := t) (Nat.zero_le _)
      unfold cut at this
      rw [List.drop_zero, Nat.sub_zero, Nat.sub_zero] at this
      exact this.symm
    rw [e]
    exact chL_diag B d (t + 1) (by omega)
theorem tch_self (B : List Str) : tch B B B = if B = [] then [] else [.same B] := by
  rw [tch_eq, stab_self, List.range_eq_range']
  exact chL_diag B B.length 0 (by omega)

/-! ### _stable_lines, _runs, text_chunks -/
def kvq (q : Nat × Nat) : Key × V := (.inl (q.1 : Int), .int (q.2 : Int))
theorem merge_look (i : Nat) : ∀ (qs : List (Nat × Nat)) (acc : List (Key × V)) {a b : Nat}, Inc a b qs → valV (mergeK acc (qs.map kvq)) (.inl (i : Int)) = match look qs i with
    | some k => some (.int (k : Int))
    | none => valV acc (.inl (i : Int))
  | [], acc, _, _, _ => rfl
  | q :: qs, acc, a, b, h => by
    show valV (mergeK (putK acc (kvq q).1 (kvq q).2) (qs.map kvq)) (.inl (i : Int)) = _
    rw [merge_look i qs _ h.2.2, look_cons, valV_put]
    by_cases e : q.1 = i
    · rw [if_pos e, look_none h.2.2 (by omega)]
      show (if _ then _ else _) = _
      rw [if_pos (by rw [← e]; rfl)]
      rfl
    · rw [if_neg e]
      cases look qs i with
      | some k => rfl
      | none =>
        show (if _ then _ else _) = _
        rw [if_neg]
        intro z
        apply e
        have : (i : Int) = (q.1 : Int) := by injection z
        omega
theorem merge_look0 {qs : List (Nat × Nat)} {a b : Nat} (h : Inc a b qs) (i : Nat) : valV (mergeK [] (qs.map kvq)) (.inl (i : Int)) = (look qs i).map fun (k : Nat) => V.int (k : Int) := by
  rw [merge_look i qs [] h]
  cases look qs i <;> rfl
theorem prd_pair {K : PySem.W.Frag} {H : Hp} : ∀ {vs : List V} {qs : List (Nat × Nat)}, DqAll H vs (qs.map prd) → ∃ ps : List Addr, vs = ps.map V.ref ∧ Paired (fun p kv => SqT K H p [kV kv.1, kv.2]) ps (qs.map kvq)
  | _, [], .nil => ⟨[], rfl, .nil⟩
  | _, q :: qs, .cons d t => by
    obtain ⟨T, rfl, hT⟩ := prd_inv d
    obtain ⟨ps, rfl, hp⟩ := prd_pair (K := K) t
    exact ⟨T :: ps, rfl, .cons (SqT.of hT) hp⟩
def trd (m : Tr) : PyData := .tuple [.int (m.1 : Int), .int (m.2.1 : Int), .int (m.2.2 : Int)]
def r4d (r : R4) : PyData := .tuple [.int (r.1 : Int), .int (r.2.1 : Int), .int (r.2.2.1 : Int), .int (r.2.2.2 : Int)]
theorem trd_inv {F : Hp} {v : V} {m : Tr} (h : Dq F v (trd m)) : ∃ T, v = .ref T ∧ F T = some (.tup [.int m.1, .int m.2.1, .int m.2.2]) := by
  cases h with
  | tup hT hs =>
    cases hs with
    | cons h1 hs =>
      cases hs with
      | cons h2 hs =>
        cases hs with
        | cons h3 hs =>
          cases hs
          cases h1
          cases h2
          cases h3
          exact ⟨_, rfl, hT⟩
theorem r4d_inv {F : Hp} {v : V} {r : R4} (h : Dq F v (r4d r)) : ∃ T, v = .ref T ∧ F T = some (.tup [.int r.1, .int r.2.1, .int r.2.2.1, .int r.2.2.2]) := by
  cases h with
  | tup hT hs =>
    cases hs with
    | cons h1 hs =>
      cases hs with
      | cons h2 hs =>
        cases hs with
        | cons h3 hs =>
          cases hs with
          | cons h4 hs =>
            cases hs
            cases h1
            cases h2
            cases h3
            cases h4
            exact ⟨_, rfl, hT⟩
theorem stab_len (ps qs : List (Nat × Nat)) : (stab ps qs).length ≤ ps.length := List.length_filterMap_le _ _
theorem grpF_len : ∀ (S : List Tr) (r : R4), (grpF r S).length ≤ S.length + 1
  | [], r => Nat.le_refl _
  | m :: S, (a, b, c, l) => by
    rw [grpF]
    split
    · have := grpF_len S (a, b, c, l + 1)
      rw [List.length_cons]
      omega
    · have := grpF_len S (m.1, m.2.1, m.2.2, 1)
      rw [List.length_cons, List.length_cons]
      omega
theorem grp_len (S : List Tr) : (grp S).length ≤ S.length := by
  cases S with
  | nil => exact Nat.le_refl _
  | cons m S => exact grpF_len S _
def tS (ls : List Str) : PyData := .tuple (ls.map PyData.str)
def chD : Ch → PyData
  | .same ls => .tuple [.str "same", tS ls, tS ls, tS ls]
  | .part b x y => .tuple [.str "part", tS b, tS x, tS y]
theorem dq_tS {H : Hp} {a : Addr} {xs : List Str} (h : H a = some (.tup (xs.map V.str))) : Dq H (.ref a) (tS xs) := .tup h (DqAll.strs xs)
theorem tS_inv {H : Hp} {v : V} {xs : List Str} (h : Dq H v (tS xs)) : ∃ a, v = .ref a ∧ H a = some (.tup (xs.map V.str)) := by
  cases h with
  | tup hT hs => exact ⟨_, rfl, by rw [hT, hs.of_strs]⟩
section
variable {P : Program} {w : World} {K : PySem.W.Frag} {mg : Str → Option Value} {base : Heap}
def sp_stable_lines (K : PySem.W.Frag) : Sp := fun vs H Q _ => ∃ (a b c : Addr) (B X Y : List Str), vs = [.ref a, .ref b, .ref c] ∧ H a = some (.lst (B.map V.str)) ∧ H b = some (.lst (X.map V.str)) ∧ H c = some (.lst (Y.map V.str)) ∧ B.length ≤ 1000 ∧ X.length ≤ 1000 ∧ Y.length ≤ 1000 ∧
  ∀ p H' (vs : List V), Same H H' → H p = none → H' p = some (.lst vs) → DqAll H' vs ((stab (mt B X 0 0) (mt B Y 0 0)).map trd) → Q (.ref p) H'
theorem sp_stable_lines_len {vs H Q E} (h : sp_stable_lines K vs H Q E) : vs.length = 3 := by
  obtain ⟨_, _, _, _, _, _, rfl, _⟩ := h
  rfl
theorem ok_stable_lines (T : Txt K mg) : FnOk P w K mg base CX0 3 T.f_stable_lines T.fd_stable_lines ["base", "ours", "theirs"] (sp_stable_lines K) := by
  refine T.F_stable_lines.ok sc_stable_lines (fun vs H Q E h => sp_stable_lines_len h) (fun cdv A outer s H vs Q E hr h => ?_)
  refine ⟨_, (pss_cons (ps_set (i := 3) sc_stable_lines.nd rfl (.inr rfl) (pe_callTy (cr_dictP K rfl) (by rfl) T.m_dict (by decide +kernel) (pa_cons (pe_call (ok_matched T) (hr.mono (by decide)) (by rfl) T.g_matched T.F_matched.kp T.b_matched .nil pass0 (pa_cons (pv 0) (pa_cons (pv 2) pa_nil))) pa_nil)))
      (pss_one (ps_ret (pe_lc (own := [("i", 4), ("j", 5)]) (g := gTup K 2 (gCons (gName 4) (gCons (gName 5) gNil))) rfl sc_stable_lines.nd (k_il K (pi_list (pe_call (ok_matched T) (hr.mono (by decide)) (by rfl) T.g_matched T.F_matched.kp T.b_matched .nil pass0 (pa_cons (pv 0) (pa_cons (pv 1) pa_nil))))) (blkOk_by (N := n_stable_lines) (sc := defScope s_stable_lines) (by decide +kernel)) (fun _ _ _ _ _ => (k_gt K (pg_tup (by rfl) (pgs_cons (pg_name (i := 4) sc_stable_lines.nd rfl (.inl rfl)) (pgs_cons (pg_name (i := 5) sc_stable_lines.nd rfl (.inl rfl)) pgs_nil))))) (fun _ _ _ _ _ => (pts_one (pt_cmpR (op_inK K hr.units (u65 hr)) (pv 4) (pv 3) (by rfl)))) (fun _ _ _ _ _ => (pe_tup (pa_cons (pv 4) (pa_cons (pv 5) (pa_cons (pe_ix (ix_K K (hu_of hr)) (pv 3) (pv 4) (fun _ _ => rfl)) pa_nil))))))))), ?_⟩
  obtain ⟨a, b, c, B, X, Y, rfl, ha, hb, hc, lB, lX, lY, q⟩ := h
  refine g_start (σ' := [some (.ref a), some (.ref b), some (.ref c), none, none, none]) rfl ?_
  walk_at "gg"
  refine ⟨a, c, B, Y, rfl, ha, hc, lB, lY, fun p1 H1 v1 s1 n1 hp1 dq1 => ?_⟩
  have hH := Has.start H1
  obtain ⟨ps, rfl, pp⟩ := prd_pair (K := K) dq1
  walk_at "gg"
  refine g_dictP (by walk_at "h") pp hH (fun pd H2 n2 h2 => ?_)
  have hlook := merge_look0 (mt_inc B Y 0 0)
  generalize hkv : mergeK [] ((mt B Y 0 0).map kvq) = kvs at h2 hlook
  have ha2 := h2.same _ _ (s1 _ _ ha)
  have hb2 := h2.same _ _ (s1 _ _ hb)
  walk_at "gg"
  refine ⟨a, b, B, X, rfl, ha2, hb2, lB, lX, fun p3 H3 v3 s3 n3 hp3 dq3 => ?_⟩
  have hd3 : H3 pd = some (.dK kvs) := (h2.on s3).get (List.Mem.head _)
  have h3 := Has.start H3
  have hml : (mt B X 0 0).length ≤ 1000 := by rw [mt_length]; have := lc_len B X; omega
  have hvl : v3.length = (mt B X 0 0).length := by rw [dq3.len, List.length_map]
  refine k_lcL (by walk_at "h") h3 (fun t acc F' O' => Same H3 F' ∧ O' = [] ∧ DqAll F' acc ((stab ((mt B X 0 0).take t) (mt B Y 0 0)).map trd)) ⟨Same.refl _, rfl, .nil⟩ ?_ ?_ ?_
  · rintro t acc F' O' H4 ⟨sF, rfl, _⟩ hh
    exact hh.same _ _ (sF _ _ hp3)
  · rintro t x acc F' O' D H4 hx ⟨sF, rfl, dqa⟩ hh
    obtain ⟨d, hd, dx⟩ := dq3.get hx
    rw [List.getElem?_map] at hd
    obtain ⟨m, hm, rfl⟩ := Option.map_eq_some_iff.mp hd
    obtain ⟨i, j⟩ := m
    obtain ⟨T, rfl, hT⟩ := prd_inv (dx.up sF _ _)
    have hal : acc.length ≤ 1000 := by
      rw [dqa.len, List.length_map]
      have h1 := stab_len ((mt B X 0 0).take t) (mt B Y 0 0)
      rw [List.length_take] at h1
      omega
    have hdF := sF _ _ hd3
    have estab : stab ((mt B X 0 0).take (t + 1)) (mt B Y 0 0) = stab ((mt B X 0 0).take t) (mt B Y 0 0) ++ stab [(i, j)] (mt B Y 0 0) := by
      rw [List.take_add_one, hm]
      unfold stab
      rw [List.filterMap_append]
      rfl
    have ev := hlook i
    walk_at "gg"
    rw [ev]
    cases hl : look (mt B Y 0 0) i with
    | none =>
      rw [hl] at ev
      rw [Option.map_none, Option.isSome_none]
      walk_at "gg"
      refine k_skip hh ⟨sF, rfl, ?_⟩
      rw [estab]
      have : stab [(i, j)] (mt B Y 0 0) = [] := by
        unfold stab
        rw [List.filterMap_cons, hl]
        rfl
      rw [this, List.append_nil]
      exact dqa
    | some k =>
      rw [hl] at ev
      rw [Option.map_some, Option.isSome_some]
      walk_at "gg"
      refine g_ixDI (by walk_at "h") ev ?_
      walk_at "gg"
      refine g_ktupF (by walk_at "sz") hh (fun T2 H5 F5 n5 s5 f5 h5 => ?_)
      refine k_turn h5 (by omega) ⟨sF.trans s5, rfl, ?_⟩
      rw [estab]
      have : stab [(i, j)] (mt B Y 0 0) = [(i, j, k)] := by
        unfold stab
        rw [List.filterMap_cons, hl]
        rfl
      rw [this, List.map_append]
      exact (dqa.up s5 _ _).snoc (.tup f5 (.cons (.int _) (.cons (.int _) (.cons (.int _) .nil))))
  · rintro acc F' O' D H4 ⟨sF, rfl, dqa⟩ hh
    rw [List.take_of_length_le (by omega)] at dqa
    walk_at "gg"
    exact q D H4 acc (s1.trans (h2.same.trans (s3.trans (sF.trans hh.same)))) ((s1.trans (h2.same.trans (s3.trans sF))).free hh.free) (hh.get (List.Mem.head _)) (dqa.up hh.same _ _)
def sp_runs (K : PySem.W.Frag) : Sp := fun vs H Q _ => ∃ (a b c : Addr) (B X Y : List Str), vs = [.ref a, .ref b, .ref c] ∧ H a = some (.lst (B.map V.str)) ∧ H b = some (.lst (X.map V.str)) ∧ H c = some (.lst (Y.map V.str)) ∧ B.length ≤ 1000 ∧ X.length ≤ 1000 ∧ Y.length ≤ 1000 ∧
  ∀ p H' (vs : List V), Same H H' → H p = none → H' p = some (.lst vs) → DqAll H' vs ((grp (stab (mt B X 0 0) (mt B Y 0 0))).map r4d) → Q (.ref p) H'
theorem sp_runs_len {vs H Q E} (h : sp_runs K vs H Q E) : vs.length = 3 := by
  obtain ⟨_, _, _, _, _, _, rfl, _⟩ := h
  rfl
/-- what the runs are after t stable lines -/
def RnAt (S : List Tr) (t : Nat) (F : Hp) (rs : List V) : Prop := (t = 0 ∧ rs = []) ∨ ∃ (us : List V) (T : Addr) (init : List R4) (a b c l : Nat), rs = us ++ [.ref T] ∧ DqAll F us (init.map r4d) ∧ F T = some (.tup [.int (a : Int), .int (b : Int), .int (c : Int), .int (l : Int)]) ∧
  init ++ grpF (a, b, c, l) (S.drop t) = grp S ∧ init.length + 1 ≤ t
theorem ok_runs (T : Txt K mg) : FnOk P w K mg base CX0 4 T.f_runs T.fd_runs ["base", "ours", "theirs"] (sp_runs K) := by
  refine T.F_runs.ok sc_runs (fun vs H Q E h => sp_runs_len h) (fun cdv A outer s H vs Q E hr h => ?_)
  refine ⟨_, (pss_cons (ps_set (i := 3) sc_runs.nd rfl (.inl rfl) (pe_lst pa_nil))
      (pss_cons (ps_for PassesOwn.never rfl (k_il K (pi_list (pe_call (ok_stable_lines T) (hr.mono (by decide)) (by rfl) T.g_stable_lines T.F_stable_lines.kp T.b_stable_lines .nil pass0 (pa_cons (pv 0) (pa_cons (pv 1) (pa_cons (pv 2) pa_nil)))))) (k_gt K (pg_tup (by rfl) (pgs_cons (pg_name (i := 4) sc_runs.nd rfl (.inl rfl)) (pgs_cons (pg_name (i := 5) sc_runs.nd rfl (.inl rfl)) (pgs_cons (pg_name (i := 6) sc_runs.nd rfl (.inl rfl)) pgs_nil))))) (pss_cons (ps_if (pt_tru K (pv 3)) (pss_cons (ps_asg (pe_ix (ix_K K (hu_of hr)) (pv 3) (pe_un un_neg pe_int) (fun _ _ => rfl)) (k_gt K (pg_tup (by rfl) (pgs_cons (pg_name (i := 7) sc_runs.nd rfl (.inl rfl)) (pgs_cons (pg_name (i := 8) sc_runs.nd rfl (.inl rfl)) (pgs_cons (pg_name (i := 9) sc_runs.nd rfl (.inl rfl)) (pgs_cons (pg_name (i := 10) sc_runs.nd rfl (.inl rfl)) pgs_nil)))))))
      (pss_one (ps_if (pt_cmpR (op_eqK K hr.units) (pe_tup (pa_cons (pe_op (op_addK K) (pv 7) (pv 10)) (pa_cons (pe_op (op_addK K) (pv 8) (pv 10)) (pa_cons (pe_op (op_addK K) (pv 9) (pv 10)) pa_nil)))) (pe_tup (pa_cons (pv 4) (pa_cons (pv 5) (pa_cons (pv 6) pa_nil)))) (nomark _)) (pss_cons (ps_asg (pe_tup (pa_cons (pv 7) (pa_cons (pv 8) (pa_cons (pv 9) (pa_cons (pe_op (op_addK K) (pv 10) pe_int) pa_nil))))) (pg_sub (pv 3) (pe_un un_neg pe_int) (set_any (hu_of hr))))
      (pss_one ps_continue)) pss_nil))) pss_nil)
      (pss_one (ps_expr (k_bm K (pe_bm PySem.F.plainAttrs_list PySem.F.slot_list_append PySem.F.type_list_append mt_append (pv 3) (pa_cons (pe_tup (pa_cons (pv 4) (pa_cons (pv 5) (pa_cons (pv 6) (pa_cons pe_int pa_nil))))) pa_nil)))))))
      (pss_one (ps_ret (pv 3))))), ?_⟩
  obtain ⟨a, b, c, B, X, Y, rfl, ha, hb, hc, lB, lX, lY, q⟩ := h
  have hH := Has.start H
  refine g_start (σ' := [some (.ref a), some (.ref b), some (.ref c), none, none, none, none, none, none, none, none]) rfl ?_
  walk_at "gg"
  refine g_klst (by walk_at "sz") hH (fun pr H1 n1 h1 => ?_)
  walk_at "gg"
  refine ⟨a, b, c, B, X, Y, rfl, by walk_at "h", by walk_at "h", by walk_at "h", lB, lX, lY, fun p2 H2 v2 s2 n2 hp2 dq2 => ?_⟩
  have hml : (mt B X 0 0).length ≤ 1000 := by rw [mt_length]; have := lc_len B X; omega
  have hsl := stab_len (mt B X 0 0) (mt B Y 0 0)
  generalize stab (mt B X 0 0) (mt B Y 0 0) = S at dq2 q hsl
  have hvl : v2.length = S.length := by rw [dq2.len, List.length_map]
  have hpp : pr ≠ p2 := fun z => by
    subst z
    rw [h1.get (List.Mem.head _)] at n2
    cases n2
  have h2 := h1.on s2
  have dq2 : DqAll (rmO [(pr, HO.lst [])] H2) v2 (S.map trd) := by
    refine h2.keep (fun p hp xs z => ?_) (fun d hd => ?_) dq2
    · rw [List.mem_singleton.mp hp] at z; cases z
    · obtain ⟨m, _, rfl⟩ := List.mem_map.mp hd
      rfl
  have hp2 : rmO [(pr, HO.lst [])] H2 p2 = some (.lst v2) := by
    unfold rmO
    rw [if_neg (by simpa using fun z => hpp z.symm)]
    exact hp2
  have sF0 := h2.reF
  have h2 := h2.re
  generalize rmO [(pr, HO.lst [])] H2 = F0 at h2 dq2 hp2 sF0
  refine k_forL (by walk_at "h") (fun t σ H' => ∃ (rs : List V) (F : Hp) (y1 y2 y3 y4 y5 y6 y7 : Option V), σ = [some (.ref a), some (.ref b), some (.ref c), some (.ref pr), y1, y2, y3, y4, y5, y6, y7] ∧ Same F0 F ∧ Has F [(pr, .lst rs)] H' ∧ RnAt S t F rs) ⟨[], F0, _, _, _, _, _, _, _, rfl, Same.refl _, h2, .inl ⟨rfl, rfl⟩⟩ ?_ ?_ ?_
  · rintro t σ H3 _ ⟨rs, F, _, _, _, _, _, _, _, _, sF, h3, _⟩
    exact h3.same _ _ (sF _ _ hp2)
  · rintro t x σ H3 hx ⟨rs, F, y1, y2, y3, y4, y5, y6, y7, rfl, sF, h3, inv⟩
    obtain ⟨d, hd, dx⟩ := dq2.get hx
    rw [List.getElem?_map] at hd
    obtain ⟨m, hm, rfl⟩ := Option.map_eq_some_iff.mp hd
    obtain ⟨m1, m2, m3⟩ := m
    obtain ⟨T, rfl, hT⟩ := trd_inv (dx.up sF _ _)
    have ht : t < S.length := (List.getElem?_eq_some_iff.mp hm).1
    have edr : S.drop t = (m1, m2, m3) :: S.drop (t + 1) := by
      rw [List.drop_eq_getElem_cons ht, (List.getElem?_eq_some_iff.mp hm).2]
    rcases inv with ⟨rfl, rfl⟩ | ⟨us, T1, init, e1, e2, e3, l, rfl, du, hT1, eg, il⟩
    · walk_at "gg"
      refine i_b (fun z => by cases z) (fun _ => ?_)
      walk_at "gg"
      refine g_ktupF (by walk_at "sz") h3 (fun T2 H4 F4 n4 s4 f4 h4 => ?_)
      walk_at "gg"
      refine g_append h4 (by walk_at "c") (szl (by decide)) (fun H5 h5 => ?_)
      walk_at "gg"
      refine ⟨_, F4, _, _, _, _, _, _, _, rfl, sF.trans s4, h5, .inr ⟨[], T2, [], m1, m2, m3, 1, rfl, .nil, f4, ?_, Nat.le_refl _⟩⟩
      rw [List.drop_zero] at edr
      rw [List.nil_append, edr]
      rfl
    · have hul : us.length = init.length := by rw [du.len, List.length_map]
      walk_at "gg"
      refine i_b (fun _ => ?_) (fun z => by cases us <;> cases z)
      walk_at "gg"
      refine g_ixLast (v := .ref T1) (by walk_at "h") (by simp) ?_
      walk_at "gg"
      refine g_ktupF (by walk_at "sz") h3 (fun T2 H4 F4 n4 s4 f4 h4 => ?_)
      have hTb := s4 _ _ hT
      have hT1b := s4 _ _ hT1
      walk_at "gg"
      refine g_ktupF (by walk_at "sz") h4 (fun T3 H5 F5 n5 s5 f5 h5 => ?_)
      have f4' := s5 _ _ f4
      walk_at "gg"
      refine g_eqD (.tup (h5.same _ _ f4') (DqAll.ints [_, _, _])) (.tup (h5.same _ _ f5) (DqAll.ints [_, _, _])) rfl rfl ?_
      rw [eqv_tints]
      walk_at "gg"
      refine i_d (fun e => ?_) (fun e => ?_)
      · walk_at "gg"
        refine g_ktupF (by walk_at "sz") h5 (fun T4 H6 F6 n6 s6 f6 h6 => ?_)
        walk_at "gg"
        refine g_stL (j := us.length) h6 (by walk_at "c") (by rw [List.length_append]; exact ixN_last _) (fun H7 h7 => ?_)
        walk_at "gg"
        have es : (us ++ [V.ref T1]).set us.length (V.ref T4) = us ++ [V.ref T4] := by
          rw [List.set_append_right _ _ (Nat.le_refl _), Nat.sub_self]
          rfl
        rw [es] at h7
        refine ⟨_, F6, _, _, _, _, _, _, _, rfl, sF.trans (s4.trans (s5.trans s6)), h7, .inr ⟨us, T4, init, e1, e2, e3, l + 1, rfl, du.up (s4.trans (s5.trans s6)) _ _, f6, ?_, by omega⟩⟩
        rw [← eg, edr, grpF, if_pos]
        simp only [List.cons.injEq, and_true] at e
        obtain ⟨z1, z2, z3⟩ := e
        simp only [Prod.mk.injEq]
        omega
      · walk_at "gg"
        refine g_ktupF (by walk_at "sz") h5 (fun T4 H6 F6 n6 s6 f6 h6 => ?_)
        walk_at "gg"
        refine g_append h6 (by walk_at "c") (szl (by rw [List.length_append]; show us.length + 1 < _; omega)) (fun H7 h7 => ?_)
        walk_at "gg"
        have s46 := s4.trans (s5.trans s6)
        refine ⟨_, F6, _, _, _, _, _, _, _, rfl, sF.trans s46, h7, .inr ⟨us ++ [.ref T1], T4, init ++ [(e1, e2, e3, l)], m1, m2, m3, 1, rfl, ?_, f6, ?_, by rw [List.length_append]; show init.length + 1 + 1 ≤ _; omega⟩⟩
        · rw [List.map_append]
          exact (du.up s46 _ _).snoc (.tup (s46 _ _ hT1) (.cons (.int _) (.cons (.int _) (.cons (.int _) (.cons (.int _) .nil)))))
        · rw [← eg, edr, grpF, if_neg, List.append_assoc]
          · rfl
          · intro z
            apply e
            simp only [Prod.mk.injEq] at z
            obtain ⟨z1, z2, z3⟩ := z
            subst z1 z2 z3
            rfl
  · rintro σ H3 ⟨rs, F, y1, y2, y3, y4, y5, y6, y7, rfl, sF, h3, inv⟩
    walk_at "gg"
    refine q pr H3 rs (sF0.trans (sF.trans h3.same)) n1 (h3.get (List.Mem.head _)) ?_
    rw [hvl] at inv
    rcases inv with ⟨z, rfl⟩ | ⟨us, T1, init, e1, e2, e3, l, rfl, du, hT1, eg, il⟩
    · have : S = [] := List.length_eq_zero_iff.mp z
      subst this
      exact .nil
    · rw [List.drop_length] at eg
      rw [← eg, List.map_append]
      exact (du.up h3.same _ _).snoc (.tup (h3.same _ _ hT1) (.cons (.int _) (.cons (.int _) (.cons (.int _) (.cons (.int _) .nil)))))
def pc_of (B X Y : List Str) (R : List R4) : List Ch := pc B X Y (0, 0, 0) (R ++ [(B.length, X.length, Y.length, 0)])
def sp_text_chunks (K : PySem.W.Frag) : Sp := fun vs H Q _ => ∃ (a b c : Addr) (B X Y : List Str), vs = [.ref a, .ref b, .ref c] ∧ H a = some (.lst (B.map V.str)) ∧ H b = some (.lst (X.map V.str)) ∧ H c = some (.lst (Y.map V.str)) ∧ B.length ≤ 1000 ∧ X.length ≤ 1000 ∧ Y.length ≤ 1000 ∧
  ∀ p H' (vs : List V), Same H H' → H p = none → H' p = some (.lst vs) → DqAll H' vs ((tch B X Y).map chD) → Q (.ref p) H'
theorem sp_text_chunks_len {vs H Q E} (h : sp_text_chunks K vs H Q E) : vs.length = 3 := by
  obtain ⟨_, _, _, _, _, _, rfl, _⟩ := h
  rfl
theorem cutV_str (L : List Str) (i a : Nat) : cutV (L.map V.str) (some (i : Int)) (some (a : Int)) = (cut L i a).map V.str := by
  rw [cutV_nat, ← List.map_drop, ← List.map_take]
  rfl
theorem cut_le (L : List Str) (i a : Nat) : (cut L i a).length ≤ L.length := by
  unfold cut
  rw [List.length_take, List.length_drop]
  omega
theorem ok_text_chunks (T : Txt K mg) : FnOk P w K mg base CX0 5 T.f_text_chunks T.fd_text_chunks ["base", "ours", "theirs"] (sp_text_chunks K) := by
  refine T.F_text_chunks.ok sc_text_chunks (fun vs H Q E h => sp_text_chunks_len h) (fun cdv A outer s H vs Q E hr h => ?_)
  refine ⟨_, (pss_cons (ps_set (i := 3) sc_text_chunks.nd rfl (.inl rfl) (pe_lst pa_nil))
      (pss_cons (ps_set (i := 4) sc_text_chunks.nd rfl (.inl rfl) pe_int)
      (pss_cons (ps_set (i := 5) sc_text_chunks.nd rfl (.inl rfl) pe_int)
      (pss_cons (ps_set (i := 6) sc_text_chunks.nd rfl (.inl rfl) pe_int)
      (pss_cons (ps_set (i := 7) sc_text_chunks.nd rfl (.inl rfl) (pe_tup (pa_cons (pe_callB (cr_lenK K) (by rfl) T.m_len (by decide +kernel) (pa_cons (pv 0) pa_nil)) (pa_cons (pe_callB (cr_lenK K) (by rfl) T.m_len (by decide +kernel) (pa_cons (pv 1) pa_nil)) (pa_cons (pe_callB (cr_lenK K) (by rfl) T.m_len (by decide +kernel) (pa_cons (pv 2) pa_nil)) (pa_cons pe_int pa_nil))))))
      (pss_cons (ps_for PassesOwn.never rfl (k_il K (pi_list (pe_lst (k_star K (StX.pa_star (pe_call (ok_runs T) (hr.mono (by decide)) (by rfl) T.g_runs T.F_runs.kp T.b_runs .nil pass0 (pa_cons (pv 0) (pa_cons (pv 1) (pa_cons (pv 2) pa_nil)))) (pa_cons (pv 7) pa_nil)))))) (k_gt K (pg_tup (by rfl) (pgs_cons (pg_name (i := 8) sc_text_chunks.nd rfl (.inl rfl)) (pgs_cons (pg_name (i := 9) sc_text_chunks.nd rfl (.inl rfl)) (pgs_cons (pg_name (i := 10) sc_text_chunks.nd rfl (.inl rfl)) (pgs_cons (pg_name (i := 11) sc_text_chunks.nd rfl (.inl rfl)) pgs_nil)))))) (pss_cons (ps_set (i := 12) sc_text_chunks.nd rfl (.inl rfl) (pe_callTy (cr_tupleK K) (by rfl) T.m_tuple (by decide +kernel) (pa_cons (pe_slice (sl_K K) (pv 0) (po_some (pv 4)) (po_some (pv 8))) pa_nil)))
      (pss_cons (ps_set (i := 13) sc_text_chunks.nd rfl (.inl rfl) (pe_callTy (cr_tupleK K) (by rfl) T.m_tuple (by decide +kernel) (pa_cons (pe_slice (sl_K K) (pv 1) (po_some (pv 5)) (po_some (pv 9))) pa_nil)))
      (pss_cons (ps_set (i := 14) sc_text_chunks.nd rfl (.inl rfl) (pe_callTy (cr_tupleK K) (by rfl) T.m_tuple (by decide +kernel) (pa_cons (pe_slice (sl_K K) (pv 2) (po_some (pv 6)) (po_some (pv 10))) pa_nil)))
      (pss_cons (ps_if (pt_cmpR op_gt (pe_op (op_addK K) (pe_op (op_addK K) (pe_callB (cr_lenK K) (by rfl) T.m_len (by decide +kernel) (pa_cons (pv 12) pa_nil)) (pe_callB (cr_lenK K) (by rfl) T.m_len (by decide +kernel) (pa_cons (pv 13) pa_nil))) (pe_callB (cr_lenK K) (by rfl) T.m_len (by decide +kernel) (pa_cons (pv 14) pa_nil))) pe_int (nomark _)) (pss_one (ps_expr (k_bm K (pe_bm PySem.F.plainAttrs_list PySem.F.slot_list_append PySem.F.type_list_append mt_append (pv 3) (pa_cons (pe_tup (pa_cons pe_str (pa_cons (pv 12) (pa_cons (pv 13) (pa_cons (pv 14) pa_nil))))) pa_nil))))) pss_nil)
      (pss_cons (ps_set (i := 4) sc_text_chunks.nd rfl (.inl rfl) (pe_op (op_addK K) (pv 8) (pv 11)))
      (pss_cons (ps_set (i := 5) sc_text_chunks.nd rfl (.inl rfl) (pe_op (op_addK K) (pv 9) (pv 11)))
      (pss_cons (ps_set (i := 6) sc_text_chunks.nd rfl (.inl rfl) (pe_op (op_addK K) (pv 10) (pv 11)))
      (pss_one (ps_if (pt_cmpR op_gt (pv 11) pe_int (nomark _)) (pss_cons (ps_set (i := 15) sc_text_chunks.nd rfl (.inl rfl) (pe_callTy (cr_tupleK K) (by rfl) T.m_tuple (by decide +kernel) (pa_cons (pe_slice (sl_K K) (pv 0) (po_some (pv 8)) (po_some (pv 4))) pa_nil)))
      (pss_one (ps_expr (k_bm K (pe_bm PySem.F.plainAttrs_list PySem.F.slot_list_append PySem.F.type_list_append mt_append (pv 3) (pa_cons (pe_tup (pa_cons pe_str (pa_cons (pv 15) (pa_cons (pv 15) (pa_cons (pv 15) pa_nil))))) pa_nil)))))) pss_nil))))))))))
      (pss_one (ps_ret (pv 3))))))))), ?_⟩
  obtain ⟨a, b, c, B, X, Y, rfl, ha, hb, hc, lB, lX, lY, q⟩ := h
  have hH := Has.start H
  refine g_start (σ' := [some (.ref a), some (.ref b), some (.ref c), none, none, none, none, none, none, none, none, none, none, none, none, none]) rfl ?_
  walk_at "gg"
  refine g_klst (by walk_at "sz") hH (fun pl H1 n1 h1 => ?_)
  walk_at "gg"
  refine g_ktupF (by walk_at "sz") h1 (fun pe H2 F2 n2 sE f2 h2 => ?_)
  rw [List.length_map, List.length_map, List.length_map] at f2
  have ha2 := sE _ _ ha
  have hb2 := sE _ _ hb
  have hc2 := sE _ _ hc
  walk_at "gg"
  refine ⟨a, b, c, B, X, Y, rfl, by walk_at "h", by walk_at "h", by walk_at "h", lB, lX, lY, fun p3 H3 v3 s3 n3 hp3 dq3 => ?_⟩
  have hml : (mt B X 0 0).length ≤ 1000 := by rw [mt_length]; have := lc_len B X; omega
  have hsl := stab_len (mt B X 0 0) (mt B Y 0 0)
  have hgl := grp_len (stab (mt B X 0 0) (mt B Y 0 0))
  have hdef : pc_of B X Y (grp (stab (mt B X 0 0) (mt B Y 0 0))) = tch B X Y := rfl
  generalize grp (stab (mt B X 0 0) (mt B Y 0 0)) = R at dq3 hgl hdef
  have hRl : R.length ≤ 1000 := by omega
  have hvl : v3.length = R.length := by rw [dq3.len, List.length_map]
  have h3 := h2.on s3
  have f3 := h3.gF f2
  have dR : DqAll H3 (v3 ++ [.ref pe]) ((R ++ [(B.length, X.length, Y.length, 0)]).map r4d) := by
    rw [List.map_append]
    exact dq3.snoc (.tup f3 (.cons (.int _) (.cons (.int _) (.cons (.int _) (.cons (.int _) .nil)))))
  have dR5 : DqAll (rmO [(pl, HO.lst [])] H3) (v3 ++ [.ref pe]) ((R ++ [(B.length, X.length, Y.length, 0)]).map r4d) := by
    refine h3.keep (fun p hp xs z => ?_) (fun d hd => ?_) dR
    · rw [List.mem_singleton.mp hp] at z; cases z
    · obtain ⟨m, _, rfl⟩ := List.mem_map.mp hd
      rfl
  have sF0 := h3.reF
  have h3 := h3.re
  generalize rmO [(pl, HO.lst [])] H3 = F0 at h3 dR5 sF0
  walk_at "gg"
  refine g_klst (sz (by rw [List.length_append]; show v3.length + 1 ≤ _; omega)) h3 (fun p4 H4 n4 h5 => ?_)
  unfold pc_of at hdef
  generalize hR2 : R ++ [(B.length, X.length, Y.length, 0)] = R2 at dR5 hdef
  have hR2l : R2.length ≤ 1001 := by rw [← hR2, List.length_append]; show R.length + 1 ≤ _; omega
  generalize v3 ++ [V.ref pe] = v4 at dR5 h5
  have hv4 : v4.length = R2.length := by rw [dR5.len, List.length_map]
  have ha5 := sF0 _ _ ha2
  have hb5 := sF0 _ _ hb2
  have hc5 := sF0 _ _ hc2
  refine k_forL (by walk_at "h") (fun t σ H' => ∃ (s1 s2 s3 : Nat) (acc : List V) (cs : List Ch) (F : Hp) (y1 y2 y3 y4 y5 y6 y7 y8 : Option V), σ = [some (.ref a), some (.ref b), some (.ref c), some (.ref pl), some (.int (s1 : Int)), some (.int (s2 : Int)), some (.int (s3 : Int)), some (.ref pe), y1, y2, y3, y4, y5, y6, y7, y8] ∧ Same F0 F ∧ Has F [(p4, .lst v4), (pl, .lst acc)] H' ∧ DqAll F acc (cs.map chD) ∧ cs ++ pc B X Y (s1, s2, s3) (R2.drop t) = tch B X Y ∧ cs.length ≤ 2 * t) ⟨0, 0, 0, [], [], F0, _, _, _, _, _, _, _, _, rfl, Same.refl _, h5, .nil, by rw [List.drop_zero, List.nil_append]; exact hdef, Nat.le_refl _⟩ ?_ ?_ ?_
  · rintro t σ H6 _ ⟨s1, s2, s3, acc, cs, F, _, _, _, _, _, _, _, _, _, sF, h6, _⟩
    exact h6.get (List.Mem.head _)
  · rintro t x σ H6 hx ⟨s1, s2, s3, acc, cs, F, y1, y2, y3, y4, y5, y6, y7, y8, rfl, sF, h6, dq, ecs, lcs⟩
    obtain ⟨d, hd, dx⟩ := dR5.get hx
    rw [List.getElem?_map] at hd
    obtain ⟨m, hm, rfl⟩ := Option.map_eq_some_iff.mp hd
    obtain ⟨m1, m2, m3, l⟩ := m
    obtain ⟨T, rfl, hT⟩ := r4d_inv (dx.up sF _ _)
    have ht : t < R2.length := (List.getElem?_eq_some_iff.mp hm).1
    have edr : R2.drop t = (m1, m2, m3, l) :: R2.drop (t + 1) := by
      rw [List.drop_eq_getElem_cons ht, (List.getElem?_eq_some_iff.mp hm).2]
    have ha6 := sF _ _ ha5
    have hb6 := sF _ _ hb5
    have hc6 := sF _ _ hc5
    have hal : acc.length = cs.length := by rw [dq.len, List.length_map]
    rw [edr] at ecs
    have ecs : cs ++ (pOpt B X Y (s1, s2, s3) (m1, m2, m3) ++ sOpt B m1 l ++ pc B X Y (m1 + l, m2 + l, m3 + l) (R2.drop (t + 1))) = tch B X Y := ecs
    walk_at "gg"
    refine g_slL (by walk_at "h") h6 (fun q1 H7 n7 h7 => ?_)
    rw [cutV_str] at h7
    walk_at "gg"
    refine g_tupleL (by walk_at "h") h7.frz (fun tb H8 F8 n8 s8 f8 h8 => ?_)
    have h8 : Has F8 [(p4, .lst v4), (pl, .lst acc)] H8 := h8
    have s8 := h7.grow.trans s8
    have ha8 := s8 _ _ ha6
    have hb8 := s8 _ _ hb6
    have hc8 := s8 _ _ hc6
    have hT8 := s8 _ _ hT
    walk_at "gg"
    refine g_slL (by walk_at "h") h8 (fun q2 H9 n9 h9 => ?_)
    rw [cutV_str] at h9
    walk_at "gg"
    refine g_tupleL (by walk_at "h") h9.frz (fun tx H10 F10 n10 s10 f10 h10 => ?_)
    have s10 := h9.grow.trans s10
    have ha10 := s10 _ _ ha8
    have hc10 := s10 _ _ hc8
    have f8 := s10 _ _ f8
    walk_at "gg"
    refine g_slL (by walk_at "h") h10 (fun q3 H11 n11 h11 => ?_)
    rw [cutV_str] at h11
    walk_at "gg"
    refine g_tupleL (by walk_at "h") h11.frz (fun ty H12 F12 n12 s12 f12 h12 => ?_)
    have s12 := h11.grow.trans s12
    have ha12 := s12 _ _ ha10
    have f8 := s12 _ _ f8
    have f10 := s12 _ _ f10
    have s612 := s8.trans (s10.trans s12)
    have dq := dq.up s612 _ _
    walk_at "g"
    walk_at "g"
    refine g_join (fun σ' H' => ∃ (acc : List V) (cs : List Ch) (F : Hp), σ' = [some (.ref a), some (.ref b), some (.ref c), some (.ref pl), some (.int (s1 : Int)), some (.int (s2 : Int)), some (.int (s3 : Int)), some (.ref pe), some (.int (m1 : Int)), some (.int (m2 : Int)), some (.int (m3 : Int)), some (.int (l : Int)), some (.ref tb), some (.ref tx), some (.ref ty), y8] ∧ Same F12 F ∧ Has F [(p4, .lst v4), (pl, .lst acc)] H' ∧ DqAll F acc (cs.map chD) ∧ cs ++ (sOpt B m1 l ++ pc B X Y (m1 + l, m2 + l, m3 + l) (R2.drop (t + 1))) = tch B X Y ∧ cs.length ≤ 2 * t + 1) ?_ (fun key => ?_)
    · rintro σ' H13 ⟨acc, cs, F, rfl, sF2, h13, dq, ecs, lcs⟩
      have ha13 := sF2 _ _ ha12
      have hal : acc.length = cs.length := by rw [dq.len, List.length_map]
      have sFF := sF.trans (s612.trans sF2)
      walk_at "gg"
      refine i_d (fun e => ?_) (fun e => ?_)
      · have e' : l > 0 := by omega
        walk_at "gg"
        refine g_slL (by walk_at "h") h13 (fun q4 H14 n14 h14 => ?_)
        rw [show ((m1 : Int) + (l : Int)) = ((m1 + l : Nat) : Int) from rfl, cutV_str] at h14
        walk_at "gg"
        refine g_tupleL (by walk_at "h") h14.frz (fun tl H15 F15 n15 s15 f15 h15 => ?_)
        have s15 := h14.grow.trans s15
        walk_at "gg"
        refine g_ktupF (by walk_at "sz") h15 (fun tt H16 F16 n16 s16 f16 h16 => ?_)
        have f15 := s16 _ _ f15
        walk_at "gg"
        refine g_append h16 (by walk_at "c") (szl (by omega)) (fun H17 h17 => ?_)
        walk_at "gg"
        refine ⟨m1 + l, m2 + l, m3 + l, _, cs ++ [.same (cut B m1 (m1 + l))], F16, _, _, _, _, _, _, _, _, rfl, sFF.trans (s15.trans s16), h17, ?_, ?_, by rw [List.length_append]; show cs.length + 1 ≤ _; omega⟩
        · rw [List.map_append]
          exact (dq.up (s15.trans s16) _ _).snoc (.tup f16 (.cons (.str _) (.cons (dq_tS f15) (.cons (dq_tS f15) (.cons (dq_tS f15) .nil)))))
        · rw [← ecs, List.append_assoc]
          unfold sOpt
          rw [if_pos e']
      · have e' : ¬ l > 0 := by omega
        walk_at "gg"
        refine ⟨m1 + l, m2 + l, m3 + l, _, cs, F, _, _, _, _, _, _, _, _, rfl, sFF, h13, dq, ?_, by omega⟩
        rw [← ecs]
        unfold sOpt
        rw [if_neg e', List.nil_append]
    · walk_at "gg"
      rw [List.length_map, List.length_map, List.length_map]
      refine i_d (fun e => ?_) (fun e => ?_)
      · walk_at "gg"
        refine g_ktupF (by walk_at "sz") h12 (fun tt H16 F16 n16 s16 f16 h16 => ?_)
        walk_at "gg"
        refine g_append h16 (by walk_at "c") (szl (by omega)) (fun H17 h17 => ?_)
        refine key _ _ ⟨_, cs ++ [.part (cut B s1 m1) (cut X s2 m2) (cut Y s3 m3)], F16, rfl, s16, h17, ?_, ?_, by rw [List.length_append]; show cs.length + 1 ≤ _; omega⟩
        · rw [List.map_append]
          exact (dq.up s16 _ _).snoc (.tup f16 (.cons (.str _) (.cons (dq_tS (s16 _ _ f8)) (.cons (dq_tS (s16 _ _ f10)) (.cons (dq_tS (s16 _ _ f12)) .nil)))))
        · rw [← ecs]
          unfold pOpt
          rw [if_pos (Int.ofNat_lt.mp e)]
          simp only [List.append_assoc]
      · walk_at "g"
        refine key _ _ ⟨_, cs, F12, rfl, Same.refl _, h12, dq, ?_, by omega⟩
        rw [← ecs]
        unfold pOpt
        rw [if_neg (fun z => e (Int.ofNat_lt.mpr z)), List.nil_append]
  · rintro σ H6 ⟨s1, s2, s3, acc, cs, F, y1, y2, y3, y4, y5, y6, y7, y8, rfl, sF, h6, dq, ecs, lcs⟩
    walk_at "gg"
    rw [hv4, List.drop_length] at ecs
    have ecs : cs ++ [] = tch B X Y := ecs
    rw [List.append_nil] at ecs
    subst ecs
    refine q pl H6 acc (sE.trans (sF0.trans (sF.trans h6.same))) n1 (h6.get (by walk_at "m")) (dq.up h6.same _ _)
end

end K09

namespace K09
open PySem PySem.Spec PyProof.Rows L2 Qk
local macro_rules | `(tactic| walk_at "m") => `(tactic| ((repeat (first | exact List.Mem.head _ | apply List.Mem.tail)); done))
local macro_rules | `(tactic| walk_at "h") => `(tactic| first | assumption | exact Has.gF (by assumption) (by assumption) | exact Has.get (by assumption) (by walk_at "m"))
local macro_rules | `(tactic| walk_at "c") => `(tactic| ((repeat (first | exact Chg.hd | apply Chg.tl)); done))
local macro_rules | `(tactic| walk_at "is") => `(tactic| first
  | ((with_reducible refine' is2_non ?gh ?_); (case gh => walk_at "h"))
  | (with_reducible refine is_int_list ?_)
  | (with_reducible refine is_int_tuple ?_)
  | (with_reducible refine is_int_dict ?_)
  | (with_reducible refine is_int_int ?_)
  | (with_reducible refine is_int_bool ?_)
  | (with_reducible refine is_int_str ?_)
  | ((with_reducible refine' is2_int ?gh ?_); (case gh => walk_at "h"))
  | (with_reducible refine is_str_list ?_)
  | (with_reducible refine is_str_tuple ?_)
  | (with_reducible refine is_str_dict ?_)
  | (with_reducible refine is_str_int ?_)
  | (with_reducible refine is_str_bool ?_)
  | (with_reducible refine is_str_str ?_)
  | ((with_reducible refine' is2_str ?gh ?_); (case gh => walk_at "h"))
  | (with_reducible refine is_bool_list ?_)
  | (with_reducible refine is_bool_tuple ?_)
  | (with_reducible refine is_bool_dict ?_)
  | (with_reducible refine is_bool_int ?_)
  | (with_reducible refine is_bool_bool ?_)
  | (with_reducible refine is_bool_str ?_)
  | ((with_reducible refine' is2_bool ?gh ?_); (case gh => walk_at "h"))
  | ((with_reducible refine' is_list_list ?gh ?_); (case gh => walk_at "h"))
  | ((with_reducible refine' is_list_tuple ?gh ?_); (case gh => walk_at "h"))
  | ((with_reducible refine' is_list_dict ?gh ?_); (case gh => walk_at "h"))
  | ((with_reducible refine' is_list_int ?gh ?_); (case gh => walk_at "h"))
  | ((with_reducible refine' is_list_bool ?gh ?_); (case gh => walk_at "h"))
  | ((with_reducible refine' is_list_str ?gh ?_); (case gh => walk_at "h"))
  | ((with_reducible refine' is2_list ?ga ?gb ?_); (case ga => walk_at "h"); (case gb => walk_at "h"))
  | ((with_reducible refine' is_tuple_list ?gh ?_); (case gh => walk_at "h"))
  | ((with_reducible refine' is_tuple_tuple ?gh ?_); (case gh => walk_at "h"))
  | ((with_reducible refine' is_tuple_dict ?gh ?_); (case gh => walk_at "h"))
  | ((with_reducible refine' is_tuple_int ?gh ?_); (case gh => walk_at "h"))
  | ((with_reducible refine' is_tuple_bool ?gh ?_); (case gh => walk_at "h"))
  | ((with_reducible refine' is_tuple_str ?gh ?_); (case gh => walk_at "h"))
  | ((with_reducible refine' is2_tuple ?ga ?gb ?_); (case ga => walk_at "h"); (case gb => walk_at "h"))
  | ((with_reducible refine' is_dict_list ?gh ?_); (case gh => walk_at "h"))
  | ((with_reducible refine' is_dict_tuple ?gh ?_); (case gh => walk_at "h"))
  | ((with_reducible refine' is_dict_dict ?gh ?_); (case gh => walk_at "h"))
  | ((with_reducible refine' is_dict_int ?gh ?_); (case gh => walk_at "h"))
  | ((with_reducible refine' is_dict_bool ?gh ?_); (case gh => walk_at "h"))
  | ((with_reducible refine' is_dict_str ?gh ?_); (case gh => walk_at "h"))
  | ((with_reducible refine' is2_dict ?ga ?gb ?_); (case ga => walk_at "h"); (case gb => walk_at "h")))
local macro_rules | `(tactic| walk_at "g") => `(tactic| first
  | (with_reducible refine g_seq ?_)
  | (with_reducible refine g_asg ?_)
  | ((with_reducible refine g_name ?_); dsimp only [List.set, wipe, List.map])
  | ((with_reducible refine' g_var ?gv ?_); (case gv => exact rfl))
  | (with_reducible refine g_c ?_)
  | (with_reducible refine g_op ?_)
  | (with_reducible refine g_cons ?_)
  | (with_reducible refine g_nil ?_)
  | (with_reducible refine g_cb ?_)
  | (with_reducible refine g_call ?_)
  | (with_reducible refine g_tup ?_)
  | (with_reducible refine g_lst ?_)
  | (with_reducible refine g_bm ?_)
  | (with_reducible refine g_bm0 ?_)
  | ((with_reducible refine' g_kbm ?gh ?_); (case gh => walk_at "h"))
  | (with_reducible refine g_drop ?_)
  | (with_reducible refine g_ret ?_)
  | (with_reducible refine g_retN ?_)
  | (with_reducible refine g_next ?_)
  | (with_reducible refine g_brk ?_)
  | (with_reducible refine g_cont ?_)
  | (with_reducible refine g_if ?_)
  | ((with_reducible refine' g_aug ?gv ?_); (case gv => exact rfl))
  | (with_reducible refine g_ipI ?_)
  | (with_reducible refine g_test ?_)
  | (with_reducible refine g_tB ?_)
  | (with_reducible refine g_kB ?_)
  | (with_reducible refine g_not ?_)
  | (with_reducible refine g_and ?_)
  | (with_reducible refine g_or ?_)
  | (with_reducible refine g_andV ?_)
  | (with_reducible refine g_orV ?_)
  | (with_reducible refine g_notV ?_)
  | (with_reducible refine g_ifE ?_)
  | (with_reducible refine g_addI ?_)
  | (with_reducible refine g_rI0 ?_)
  | (with_reducible refine g_eqI ?_)
  | (with_reducible refine g_eqS ?_)
  | (with_reducible refine g_neI ?_)
  | (with_reducible refine g_neS ?_)
  | (with_reducible refine g_isN ?_)
  | (with_reducible refine g_notN ?_)
  | (with_reducible refine g_int ?_)
  | (with_reducible refine g_max2 ?_)
  | (with_reducible refine g_min2 ?_)
  | ((with_reducible refine' g_lenL ?gh ?_); (case gh => walk_at "h"))
  | (with_reducible refine g_sub ?_)
  | (with_reducible refine g_gcons ?_)
  | (with_reducible refine g_gnil ?_)
  | (with_reducible refine g_un ?_)
  | (with_reducible refine g_rU ?_)
  | (with_reducible refine g_forL ?_)
  | (with_reducible refine g_forS ?_)
  | (with_reducible refine g_forR1 ?_)
  | (with_reducible refine g_forR2 ?_)
  | (with_reducible refine g_forR3 ?_)
  | (with_reducible refine g_lcL ?_)
  | (with_reducible refine g_lcR1 ?_)
  | (with_reducible refine g_lcR2 ?_)
  | (with_reducible refine g_slice ?_)
  | (with_reducible refine g_part ?_)
  | (with_reducible refine g_kOI ?_)
  | (with_reducible refine g_nopart ?_)
  | (with_reducible refine g_yes ?_)
  | ((with_reducible refine' g_wipe ?gv ?_); (case gv => exact rfl))
  | (with_reducible refine iteT ?_)
  | (with_reducible refine iteF ?_)
  | (with_reducible refine i_nf ?_)
  | (with_reducible refine i_nt ?_)
  | ((with_reducible refine' g_gtup ?gh ?gl ?_); (case gh => walk_at "h"); (case gl => exact rfl))
  | ((with_reducible refine' g_notinI ?gh ?_); (case gh => walk_at "h"))
  | ((with_reducible refine' g_inI ?gh ?_); (case gh => walk_at "h"))
  | ((with_reducible refine' g_kget2 ?gh ?_); (case gh => walk_at "h"))
  | ((with_reducible refine' g_kgotI ?gh ?_); (case gh => walk_at "h"))
  | (with_reducible refine g_tRev ?_)
  | (with_reducible refine g_neB ?_)
  | (with_reducible refine g_eqB ?_)
  | ((with_reducible refine' g_lenT ?gh ?_); (case gh => walk_at "h"))
  | (with_reducible refine g_star ?_)
  | ((with_reducible refine' g_kstarL ?gh ?_); (case gh => walk_at "h"))
  | ((with_reducible refine' g_kstarT ?gh ?_); (case gh => walk_at "h"))
  | (with_reducible refine g_tru ?_)
  | ((with_reducible refine' g_truL ?gh ?_); (case gh => walk_at "h"))
  | (with_reducible refine g_get2 ?_)
  | (with_reducible refine g_try ?_)
  | (with_reducible refine g_fld ?_)
  | (with_reducible refine g_sfld ?_)
  | (with_reducible refine g_meth ?_)
  | (with_reducible refine g_make ?_)
  | (with_reducible refine g_del ?_)
  | (with_reducible refine g_callS ?_)
  | (with_reducible refine g_raise ?_)
  | (with_reducible refine g_xf ?_)
  | (with_reducible refine g_m0 ?_)
  | (with_reducible refine g_km0 ?_)
  | walk_at "is")
local macro_rules | `(tactic| walk_at "gg") => `(tactic| repeat walk_at "g")
local macro_rules | `(tactic| walk_at "sz") => `(tactic| (refine sz ?_; simp only [List.length_cons, List.length_nil, List.length_map, List.length_append, List.length_replicate]; omega))
local macro_rules | `(tactic| walk_at "sub") => `(tactic| ((repeat (first | exact List.Sublist.slnil | with_reducible apply List.Sublist.cons_cons | with_reducible apply List.Sublist.cons)); done))

/-! ### _law_mates, _law_chunks -/
def mate (qs : List (Nat × Nat)) (i : Nat) : Int := match look qs i with
  | some k => (k : Int)
  | none => -1
def mates (n : Nat) (qs : List (Nat × Nat)) : List Int := (List.range n).map (mate qs)
def setM (ms : List Int) (q : Nat × Nat) : List Int := ms.set q.1 (q.2 : Int)
theorem setM_len : ∀ (qs : List (Nat × Nat)) (ms : List Int), (qs.foldl setM ms).length = ms.length
  | [], _ => rfl
  | q :: qs, ms => by
    rw [List.foldl_cons, setM_len qs]
    exact List.length_set
theorem setM_get : ∀ (qs : List (Nat × Nat)) (ms : List Int) (i : Nat) {a b : Nat}, Inc a b qs → i < ms.length → (qs.foldl setM ms)[i]? = match look qs i with
    | some k => some (k : Int)
    | none => ms[i]?
  | [], ms, i, _, _, _, _ => rfl
  | q :: qs, ms, i, a, b, h, hi => by
    rw [List.foldl_cons, setM_get qs _ i h.2.2 (by unfold setM; rw [List.length_set]; exact hi), look_cons]
    by_cases e : q.1 = i
    · rw [if_pos e, look_none h.2.2 (by omega)]
      show (setM ms q)[i]? = some (q.2 : Int)
      unfold setM
      rw [e, List.getElem?_set_self hi]
    · rw [if_neg e]
      cases look qs i with
      | some k => rfl
      | none =>
        show (setM ms q)[i]? = ms[i]?
        unfold setM
        rw [List.getElem?_set_ne e]
theorem setM_mates {qs : List (Nat × Nat)} {a b : Nat} (h : Inc a b qs) (n : Nat) : qs.foldl setM (List.replicate n (-1)) = mates n qs := by
  apply List.ext_getElem?
  intro i
  by_cases hi : i < n
  · rw [setM_get qs _ i h (by rw [List.length_replicate]; exact hi)]
    unfold mates mate
    rw [List.getElem?_map, List.getElem?_range hi, List.getElem?_replicate, if_pos hi, Option.map_some]
    cases look qs i <;> rfl
  · rw [List.getElem?_eq_none (by rw [setM_len, List.length_replicate]; omega), List.getElem?_eq_none (by unfold mates; rw [List.length_map, List.length_range]; omega)]
theorem mate_ge (qs : List (Nat × Nat)) (i : Nat) : 0 ≤ mate qs i ↔ (look qs i).isSome = true := by
  unfold mate
  cases look qs i with
  | some k => simp
  | none => simp
theorem mate_eq {qs : List (Nat × Nat)} {i : Nat} (h : (look qs i).isSome = true) : mate qs i = (((look qs i).getD 0 : Nat) : Int) := by
  unfold mate
  cases e : look qs i with
  | some k => rfl
  | none => rw [e] at h; cases h
def tri (m : Tr) : List Int := [(m.1 : Int), (m.2.1 : Int), (m.2.2 : Int)]
theorem tri_inj {m n : Tr} : tri m = tri n ↔ m = n := by
  obtain ⟨a, b, c⟩ := m
  obtain ⟨d, e, f⟩ := n
  unfold tri
  simp only [List.cons.injEq, and_true, Prod.mk.injEq]
  omega
def trl (m : Tr) : PyData := .list ((tri m).map PyData.int)
theorem trl_inv {F : Hp} {v : V} {m : Tr} (h : Dq F v (trl m)) : ∃ T, v = .ref T ∧ F T = some (.lst ((tri m).map V.int)) := by
  cases h with
  | lst hT hs =>
    cases hs with
    | cons h1 hs =>
      cases hs with
      | cons h2 hs =>
        cases hs with
        | cons h3 hs =>
          cases hs
          cases h1
          cases h2
          cases h3
          exact ⟨_, rfl, hT⟩
section
variable {P : Program} {w : World} {K : PySem.W.Frag} {mg : Str → Option Value} {base : Heap}
def sp_l_mates (K : PySem.W.Frag) : Sp := fun vs H Q _ => ∃ (a b : Addr) (B X : List Str), vs = [.ref a, .ref b] ∧ H a = some (.lst (B.map V.str)) ∧ H b = some (.lst (X.map V.str)) ∧ B.length ≤ 1000 ∧ X.length ≤ 1000 ∧
  ∀ p H', Same H H' → H p = none → H' p = some (.lst ((mates B.length (mt B X 0 0)).map V.int)) → Q (.ref p) H'
theorem sp_l_mates_len {vs H Q E} (h : sp_l_mates K vs H Q E) : vs.length = 2 := by
  obtain ⟨_, _, _, _, rfl, _⟩ := h
  rfl
theorem ok_l_mates (T : Txt K mg) : FnOk P w K mg base CX0 3 T.f_l_mates T.fd_l_mates ["base", "side"] (sp_l_mates K) := by
  refine T.F_l_mates.ok sc_l_mates (fun vs H Q E h => sp_l_mates_len h) (fun cdv A outer s H vs Q E hr h => ?_)
  refine ⟨_, (pss_cons (ps_setLc (i := 2) (own := [("line", 4)]) (g := gName 4) (tt := tYes) rfl sc_l_mates.nd rfl rfl (sw_true rfl rfl rfl (by decide +kernel)) (k_il K (pi_list (pv 0))) (blkOk_by (N := n_l_mates) (sc := defScope s_l_mates) (by decide +kernel)) (fun _ _ _ _ _ => (pg_name (i := 4) sc_l_mates.nd rfl (.inl rfl))) (fun _ _ _ _ _ => pts_nil) (fun _ _ _ _ _ => (pe_un un_neg pe_int)))
      (pss_cons (ps_for PassesOwn.never rfl (k_il K (pi_list (pe_call (ok_l_walk T) (hr.mono (by decide)) (by rfl) T.g_l_walk T.F_l_walk.kp T.b_l_walk .nil pass0 (pa_cons (pv 0) (pa_cons (pv 1) pa_nil))))) (pg_name (i := 3) sc_l_mates.nd rfl (.inl rfl)) (pss_one (ps_asg (pe_ix (ix_K K (hu_of hr)) (pv 3) pe_int (fun _ _ => rfl)) (pg_sub (pv 2) (pe_ix (ix_K K (hu_of hr)) (pv 3) pe_int (fun _ _ => rfl)) (set_any (hu_of hr))))))
      (pss_one (ps_ret (pv 2))))), ?_⟩
  obtain ⟨a, b, B, X, rfl, ha, hb, lB, lX, q⟩ := h
  have hH := Has.start H
  refine g_start (σ' := [some (.ref a), some (.ref b), none, none, none]) rfl ?_
  walk_at "gg"
  refine k_lcL (by walk_at "h") hH (fun t acc F' O' => acc = (List.replicate t (-1)).map V.int ∧ H = F' ∧ O' = []) ⟨rfl, rfl, rfl⟩ ?_ ?_ ?_
  · rintro t acc F' O' H1 ⟨rfl, rfl, rfl⟩ hh
    exact hh.same _ _ ha
  · rintro t x acc F' O' D H1 hx ⟨rfl, rfl, rfl⟩ hh
    have ht : t < (B.map V.str).length := (List.getElem?_eq_some_iff.mp hx).1
    rw [List.length_map] at ht
    walk_at "gg"
    refine k_turn hh (by rw [List.length_map, List.length_replicate]; omega) ⟨?_, rfl, rfl⟩
    rw [List.replicate_succ', List.map_append]
    rfl
  rintro acc F' O' p H1 ⟨rfl, rfl, rfl⟩ hh
  rw [List.length_map] at hh
  walk_at "gg"
  refine ⟨a, b, B, X, rfl, by walk_at "h", by walk_at "h", lB, lX, fun p2 H2 v2 s2 n2 hp2 dq2 => ?_⟩
  have h2 := hh.on s2
  have hml : (mt B X 0 0).length ≤ 1000 := by rw [mt_length]; have := lc_len B X; omega
  have hvl : v2.length = (mt B X 0 0).length := by rw [dq2.len, List.length_map]
  have hpp : p ≠ p2 := fun z => by
    subst z
    rw [hh.get (List.Mem.head _)] at n2
    cases n2
  have dq2 : DqAll (rmO [(p, HO.lst ((List.replicate B.length (-1)).map V.int))] H2) v2 ((mt B X 0 0).map prd) := by
    refine h2.keep (fun p hp xs z => ?_) (fun d hd => ?_) dq2
    · rw [List.mem_singleton.mp hp] at z; cases z
    · obtain ⟨m, _, rfl⟩ := List.mem_map.mp hd
      rfl
  have hp2 : rmO [(p, HO.lst ((List.replicate B.length (-1)).map V.int))] H2 p2 = some (.lst v2) := by
    unfold rmO
    rw [if_neg (by simpa using fun z => hpp z.symm)]
    exact hp2
  have sF0 := h2.reF
  have np := hh.free
  have h2 := h2.re
  generalize rmO [(p, HO.lst ((List.replicate B.length (-1)).map V.int))] H2 = F0 at h2 dq2 hp2 sF0
  refine k_forL (by walk_at "h") (fun t σ H' => ∃ (y3 : Option V), σ = [some (.ref a), some (.ref b), some (.ref p), y3, none] ∧ Has F0 [(p, .lst ((((mt B X 0 0).take t).foldl setM (List.replicate B.length (-1))).map V.int))] H') ⟨_, rfl, h2⟩ ?_ ?_ ?_
  · rintro t σ H3 _ ⟨_, _, h3⟩
    exact h3.same _ _ hp2
  · rintro t x σ H3 hx ⟨y3, rfl, h3⟩
    obtain ⟨d, hd, dx⟩ := dq2.get hx
    rw [List.getElem?_map] at hd
    obtain ⟨m, hm, rfl⟩ := Option.map_eq_some_iff.mp hd
    obtain ⟨i, j⟩ := m
    obtain ⟨T, rfl, hT⟩ := prd_inv dx
    have hlt := mt_lt _ _ _ _ _ (List.mem_of_getElem? hm)
    have htk := take_foldl (f := setM) (z := List.replicate B.length (-1)) hm
    have hln : (((mt B X 0 0).take t).foldl setM (List.replicate B.length (-1))).length = B.length := by rw [setM_len, List.length_replicate]
    walk_at "gg"
    refine g_ixT (v := .int j) (by walk_at "h") (atI_nat (j := 1) rfl) ?_
    walk_at "gg"
    refine g_ixT (v := .int i) (by walk_at "h") (atI_nat (j := 0) rfl) ?_
    walk_at "gg"
    refine g_stI h3 (by walk_at "c") (by omega) (by rw [hln]; omega) (fun H4 h4 => ?_)
    refine ⟨_, rfl, ?_⟩
    rw [htk]
    exact h4
  · rintro σ H3 ⟨y3, rfl, h3⟩
    walk_at "gg"
    rw [List.take_of_length_le (by omega), setM_mates (mt_inc B X 0 0)] at h3
    exact q p H3 (sF0.trans h3.same) np (h3.get (List.Mem.head _))
theorem mates_len (n : Nat) (qs : List (Nat × Nat)) : (mates n qs).length = n := by
  unfold mates
  rw [List.length_map, List.length_range]
theorem mates_get {n i : Nat} {qs : List (Nat × Nat)} {z : Int} (h : (mates n qs)[i]? = some z) (hi : i < n) : z = mate qs i := by
  unfold mates at h
  rw [List.getElem?_map, List.getElem?_range hi] at h
  exact (Option.some.inj h).symm
theorem cut1 (B : List Str) (m : Nat) : cut B m (m + 1) = (B.drop m).take 1 := by
  unfold cut
  rw [show m + 1 - m = 1 by omega]
theorem mem_take1 {B : List Str} {m : Nat} {x : Str} (h : x ∈ (B.drop m).take 1) : x ∈ B := List.mem_of_mem_drop (List.mem_of_mem_take h)
theorem take1_len (B : List Str) (m : Nat) : ((B.drop m).take 1).length ≤ 1 := by
  rw [List.length_take]
  omega
def mkT (ps qs : List (Nat × Nat)) (i : Nat) : Tr := (i, (look ps i).getD 0, (look qs i).getD 0)
def sp_l_chunks (K : PySem.W.Frag) : Sp := fun vs H Q _ => ∃ (a b c : Addr) (B X Y : List Str), vs = [.ref a, .ref b, .ref c] ∧ H a = some (.lst (B.map V.str)) ∧ H b = some (.lst (X.map V.str)) ∧ H c = some (.lst (Y.map V.str)) ∧ B.length ≤ 1000 ∧ X.length ≤ 1000 ∧ Y.length ≤ 1000 ∧ (∀ x ∈ B, PyData.strOk x = true) ∧
  ∀ p H' (vs : List V), Same H H' → H p = none → H' p = some (.lst vs) → DqAll H' vs ((tch B X Y).map chD) → Q (.ref p) H'
theorem sp_l_chunks_len {vs H Q E} (h : sp_l_chunks K vs H Q E) : vs.length = 3 := by
  obtain ⟨_, _, _, _, _, _, rfl, _⟩ := h
  rfl
theorem ok_l_chunks (T : Txt K mg) : FnOk P w K mg base CX0 4 T.f_l_chunks T.fd_l_chunks ["base", "ours", "theirs"] (sp_l_chunks K) := by
  refine T.F_l_chunks.ok sc_l_chunks (fun vs H Q E h => sp_l_chunks_len h) (fun cdv A outer s H vs Q E hr h => ?_)
  refine ⟨_, (pss_cons (ps_set (i := 3) sc_l_chunks.nd rfl (.inr rfl) (pe_call (ok_l_mates T) (hr.mono (by decide)) (by rfl) T.g_l_mates T.F_l_mates.kp T.b_l_mates .nil pass0 (pa_cons (pv 0) (pa_cons (pv 1) pa_nil))))
      (pss_cons (ps_set (i := 4) sc_l_chunks.nd rfl (.inr rfl) (pe_call (ok_l_mates T) (hr.mono (by decide)) (by rfl) T.g_l_mates T.F_l_mates.kp T.b_l_mates .nil pass0 (pa_cons (pv 0) (pa_cons (pv 2) pa_nil))))
      (pss_cons (ps_setLc (i := 5) (own := [("i", 14)]) (g := gName 14) rfl sc_l_chunks.nd rfl rfl (sw_true rfl rfl rfl (by decide +kernel)) (pi_range1 rfl T.m_range (pa_cons (pe_callB (cr_lenK K) (by rfl) T.m_len (by decide +kernel) (pa_cons (pv 0) pa_nil)) pa_nil)) (blkOk_by (N := n_l_chunks) (sc := defScope s_l_chunks) (by decide +kernel)) (fun _ _ _ _ _ => (pg_name (i := 14) sc_l_chunks.nd rfl (.inl rfl))) (fun _ _ _ _ _ => (pts_one (PW.pt (pw_and (pt_cmpR op_ge (pe_ix (ix_K K (hu_of hr)) (pv 3) (pv 14) (fun _ _ => rfl)) pe_int (nomark _)) (pw_and1 (pt_cmpR op_ge (pe_ix (ix_K K (hu_of hr)) (pv 4) (pv 14) (fun _ _ => rfl)) pe_int (nomark _))))))) (fun _ _ _ _ _ => (pv 14)))
      (pss_cons (ps_setLc (i := 6) (own := [("i", 14)]) (g := gName 14) (tt := tYes) rfl sc_l_chunks.nd rfl rfl (sw_true rfl rfl rfl (by decide +kernel)) (k_il K (pi_list (pv 5))) (blkOk_by (N := n_l_chunks) (sc := defScope s_l_chunks) (by decide +kernel)) (fun _ _ _ _ _ => (pg_name (i := 14) sc_l_chunks.nd rfl (.inl rfl))) (fun _ _ _ _ _ => pts_nil) (fun _ _ _ _ _ => (pe_lst (pa_cons (pv 14) (pa_cons (pe_ix (ix_K K (hu_of hr)) (pv 3) (pv 14) (fun _ _ => rfl)) (pa_cons (pe_ix (ix_K K (hu_of hr)) (pv 4) (pv 14) (fun _ _ => rfl)) pa_nil))))))
      (pss_cons (ps_set (i := 6) sc_l_chunks.nd rfl (.inl rfl) (pe_op (op_addK K) (pv 6) (pe_lst (pa_cons (pe_lst (pa_cons (pe_callB (cr_lenK K) (by rfl) T.m_len (by decide +kernel) (pa_cons (pv 0) pa_nil)) (pa_cons (pe_callB (cr_lenK K) (by rfl) T.m_len (by decide +kernel) (pa_cons (pv 1) pa_nil)) (pa_cons (pe_callB (cr_lenK K) (by rfl) T.m_len (by decide +kernel) (pa_cons (pv 2) pa_nil)) pa_nil)))) pa_nil))))
      (pss_cons (ps_set (i := 7) sc_l_chunks.nd rfl (.inl rfl) (pe_lst pa_nil))
      (pss_cons (ps_set (i := 8) sc_l_chunks.nd rfl (.inl rfl) (pe_lst (pa_cons pe_int (pa_cons pe_int (pa_cons pe_int pa_nil)))))
      (pss_cons (ps_set (i := 9) sc_l_chunks.nd rfl (.inl rfl) (pe_lst pa_nil))
      (pss_cons (ps_for PassesOwn.never rfl (k_il K (pi_list (pv 6))) (pg_name (i := 10) sc_l_chunks.nd rfl (.inl rfl)) (pss_cons (ps_if (PW.pt (pw_or (pt_cmpR (op_neK K hr.units) (pv 10) (pv 8) (nomark _)) (pw_or1 (pt_cmpR (op_eqK K hr.units) (pv 10) (pe_ix (ix_K K (hu_of hr)) (pv 6) (pe_un un_neg pe_int) (fun _ _ => rfl)) (nomark _))))) (pss_cons (ps_if (pt_cmpR (op_neK K hr.units) (pv 9) (pe_lst pa_nil) (nomark _)) (pss_one (ps_expr (k_bm K (pe_bm PySem.F.plainAttrs_list PySem.F.slot_list_append PySem.F.type_list_append mt_append (pv 7) (pa_cons (pe_tup (pa_cons pe_str (pa_cons (pe_callTy (cr_tupleK K) (by rfl) T.m_tuple (by decide +kernel) (pa_cons (pv 9) pa_nil)) (pa_cons (pe_callTy (cr_tupleK K) (by rfl) T.m_tuple (by decide +kernel) (pa_cons (pv 9) pa_nil)) (pa_cons (pe_callTy (cr_tupleK K) (by rfl) T.m_tuple (by decide +kernel) (pa_cons (pv 9) pa_nil)) pa_nil))))) pa_nil))))) pss_nil)
      (pss_cons (ps_if (pt_cmpR (op_neK K hr.units) (pv 10) (pv 8) (nomark _)) (pss_cons (ps_set (i := 11) sc_l_chunks.nd rfl (.inl rfl) (pe_callTy (cr_tupleK K) (by rfl) T.m_tuple (by decide +kernel) (pa_cons (pe_slice (sl_K K) (pv 0) (po_some (pe_ix (ix_K K (hu_of hr)) (pv 8) pe_int (fun _ _ => rfl))) (po_some (pe_ix (ix_K K (hu_of hr)) (pv 10) pe_int (fun _ _ => rfl)))) pa_nil)))
      (pss_cons (ps_set (i := 12) sc_l_chunks.nd rfl (.inl rfl) (pe_callTy (cr_tupleK K) (by rfl) T.m_tuple (by decide +kernel) (pa_cons (pe_slice (sl_K K) (pv 1) (po_some (pe_ix (ix_K K (hu_of hr)) (pv 8) pe_int (fun _ _ => rfl))) (po_some (pe_ix (ix_K K (hu_of hr)) (pv 10) pe_int (fun _ _ => rfl)))) pa_nil)))
      (pss_cons (ps_set (i := 13) sc_l_chunks.nd rfl (.inl rfl) (pe_callTy (cr_tupleK K) (by rfl) T.m_tuple (by decide +kernel) (pa_cons (pe_slice (sl_K K) (pv 2) (po_some (pe_ix (ix_K K (hu_of hr)) (pv 8) pe_int (fun _ _ => rfl))) (po_some (pe_ix (ix_K K (hu_of hr)) (pv 10) pe_int (fun _ _ => rfl)))) pa_nil)))
      (pss_one (ps_expr (k_bm K (pe_bm PySem.F.plainAttrs_list PySem.F.slot_list_append PySem.F.type_list_append mt_append (pv 7) (pa_cons (pe_tup (pa_cons pe_str (pa_cons (pv 11) (pa_cons (pv 12) (pa_cons (pv 13) pa_nil))))) pa_nil)))))))) pss_nil)
      (pss_one (ps_set (i := 9) sc_l_chunks.nd rfl (.inl rfl) (pe_lst pa_nil))))) pss_nil)
      (pss_cons (ps_set (i := 9) sc_l_chunks.nd rfl (.inl rfl) (pe_op (op_addK K) (pv 9) (pe_slice (sl_K K) (pv 0) (po_some (pe_ix (ix_K K (hu_of hr)) (pv 10) pe_int (fun _ _ => rfl))) (po_some (pe_op (op_addK K) (pe_ix (ix_K K (hu_of hr)) (pv 10) pe_int (fun _ _ => rfl)) pe_int)))))
      (pss_one (ps_set (i := 8) sc_l_chunks.nd rfl (.inl rfl) (pe_lst (pa_cons (pe_op (op_addK K) (pe_ix (ix_K K (hu_of hr)) (pv 10) pe_int (fun _ _ => rfl)) pe_int) (pa_cons (pe_op (op_addK K) (pe_ix (ix_K K (hu_of hr)) (pv 10) pe_int (fun _ _ => rfl)) pe_int) (pa_cons (pe_op (op_addK K) (pe_ix (ix_K K (hu_of hr)) (pv 10) pe_int (fun _ _ => rfl)) pe_int) pa_nil)))))))))
      (pss_one (ps_ret (pv 7)))))))))))), ?_⟩
  obtain ⟨a, b, c, B, X, Y, rfl, ha, hb, hc, lB, lX, lY, okB, q⟩ := h
  refine g_start (σ' := [some (.ref a), some (.ref b), some (.ref c), none, none, none, none, none, none, none, none, none, none, none, none]) rfl ?_
  walk_at "gg"
  refine ⟨a, b, B, X, rfl, ha, hb, lB, lX, fun p1 H1 s1 n1 hp1 => ?_⟩
  walk_at "gg"
  refine ⟨a, c, B, Y, rfl, s1 _ _ ha, s1 _ _ hc, lB, lY, fun p2 H2 s2 n2 hp2 => ?_⟩
  have s02 := s1.trans s2
  have ha2 := s02 _ _ ha
  have hb2 := s02 _ _ hb
  have hc2 := s02 _ _ hc
  have hp1 := s2 _ _ hp1
  have hstab := stab_range (ps := mt B X 0 0) (qs := mt B Y 0 0) (n := B.length) (mt_inc B X 0 0) (fun p hp => by have := mt_lt _ _ _ _ _ hp; omega)
  have hbd := stab_bd B X Y
  have htch := tch_eq B X Y
  generalize mt B X 0 0 = ps at *
  generalize mt B Y 0 0 = qs at *
  have hH := Has.start H2
  walk_at "gg"
  rw [List.length_map]
  refine k_lcR1 (by omega) (by omega) hH (fun t acc F' O' => acc = (((List.range t).filter fun i => (look ps i).isSome && (look qs i).isSome).map fun (i : Nat) => V.int (i : Int)) ∧ H2 = F' ∧ O' = []) ⟨rfl, rfl, rfl⟩ ?_ ?_
  · rintro t acc F' O' D H3 ht ⟨rfl, rfl, rfl⟩ hh
    have ht' : t < B.length := ht
    have hlen : (((List.range t).filter fun i => (look ps i).isSome && (look qs i).isSome).map fun (i : Nat) => V.int (i : Int)).length ≤ 100000 := by
      rw [List.length_map]
      have := List.length_filter_le (fun i => (look ps i).isSome && (look qs i).isSome) (List.range t)
      rw [List.length_range] at this
      omega
    walk_at "gg"
    refine g_ixI (xs := mates B.length ps) (by walk_at "h") (by omega) (by rw [mates_len]; omega) (fun z hz => ?_)
    have ez := mates_get (i := t) hz ht'
    subst ez
    walk_at "gg"
    refine i_d (fun g1 => ?_) (fun g1 => ?_)
    · have g1 := (mate_ge ps t).mp g1
      walk_at "gg"
      refine g_ixI (xs := mates B.length qs) (by walk_at "h") (by omega) (by rw [mates_len]; omega) (fun z hz => ?_)
      have ez := mates_get (i := t) hz ht'
      subst ez
      walk_at "gg"
      refine i_d (fun g2 => ?_) (fun g2 => ?_)
      · have g2 := (mate_ge qs t).mp g2
        walk_at "gg"
        refine k_turn hh hlen ⟨?_, rfl, rfl⟩
        rw [List.range_succ, List.filter_append, List.map_append, List.filter_cons, if_pos (by rw [g1, g2]; rfl)]
        rfl
      · have g2 : (look qs t).isSome = false := by
          cases h : (look qs t).isSome with
          | false => rfl
          | true => exact (g2 ((mate_ge qs t).mpr h)).elim
        walk_at "gg"
        refine k_skip hh ⟨?_, rfl, rfl⟩
        rw [List.range_succ, List.filter_append, List.map_append, List.filter_cons, if_neg (by rw [g2, Bool.and_false]; exact Bool.false_ne_true), List.filter_nil, List.map_nil, List.append_nil]
    · have g1 : (look ps t).isSome = false := by
        cases h : (look ps t).isSome with
        | false => rfl
        | true => exact (g1 ((mate_ge ps t).mpr h)).elim
      walk_at "gg"
      refine k_skip hh ⟨?_, rfl, rfl⟩
      rw [List.range_succ, List.filter_append, List.map_append, List.filter_cons, if_neg (by rw [g1, Bool.false_and]; exact Bool.false_ne_true), List.filter_nil, List.map_nil, List.append_nil]
  rintro acc F' O' p3 H3 ⟨rfl, rfl, rfl⟩ hh
  have esl : ∀ i ∈ (List.range B.length).filter fun i => (look ps i).isSome && (look qs i).isSome, i < B.length ∧ (look ps i).isSome = true ∧ (look qs i).isSome = true := fun i hi => by
    obtain ⟨h1, h2⟩ := List.mem_filter.mp hi
    rw [Bool.and_eq_true] at h2
    exact ⟨List.mem_range.mp h1, h2.1, h2.2⟩
  have lsl : ((List.range B.length).filter fun i => (look ps i).isSome && (look qs i).isSome).length ≤ 1000 := by
    have := List.length_filter_le (fun i => (look ps i).isSome && (look qs i).isSome) (List.range B.length)
    rw [List.length_range] at this
    omega
  have hh : Has H2 [(p3, .lst (((List.range B.length).filter fun i => (look ps i).isSome && (look qs i).isSome).map fun (i : Nat) => V.int (i : Int)))] H3 := hh
  have hstab : stab ps qs = ((List.range B.length).filter fun i => (look ps i).isSome && (look qs i).isSome).map (mkT ps qs) := hstab
  generalize ((List.range B.length).filter fun i => (look ps i).isSome && (look qs i).isSome) = sl at *
  have g3 := hh.grow
  have f3 : upd H2 p3 (.lst (sl.map fun (i : Nat) => V.int (i : Int))) p3 = some (.lst (sl.map fun (i : Nat) => V.int (i : Int))) := upd_same
  have hh := hh.frz
  generalize upd H2 p3 (.lst (sl.map fun (i : Nat) => V.int (i : Int))) = F3 at g3 f3 hh
  walk_at "gg"
  refine k_lcL (by walk_at "h") hh (fun t acc F' O' => Same F3 F' ∧ O' = [] ∧ DqAll F' acc (((sl.take t).map (mkT ps qs)).map trl)) ⟨Same.refl _, rfl, .nil⟩ ?_ ?_ ?_
  · rintro t acc F' O' H4 ⟨sF, rfl, _⟩ hh
    exact hh.same _ _ (sF _ _ f3)
  · rintro t x acc F' O' D H4 hx ⟨sF, rfl, dq⟩ hh
    rw [List.getElem?_map] at hx
    obtain ⟨i, hi, rfl⟩ := Option.map_eq_some_iff.mp hx
    obtain ⟨e1, e2, e3⟩ := esl i (List.mem_of_getElem? hi)
    have h1 := sF _ _ (g3 _ _ hp1)
    have h2 := sF _ _ (g3 _ _ hp2)
    have hal : acc.length ≤ 1000 := by
      rw [dq.len, List.length_map, List.length_map, List.length_take]
      omega
    walk_at "gg"
    refine g_ixI (xs := mates B.length ps) (by walk_at "h") (by omega) (by rw [mates_len]; omega) (fun z hz => ?_)
    have ez := mates_get (i := i) hz e1
    subst ez
    walk_at "gg"
    refine g_ixI (xs := mates B.length qs) (by walk_at "h") (by omega) (by rw [mates_len]; omega) (fun z hz => ?_)
    have ez := mates_get (i := i) hz e1
    subst ez
    rw [mate_eq e2, mate_eq e3]
    walk_at "gg"
    refine g_klstF (by walk_at "sz") hh (fun T H5 F5 n5 s5 f5 h5 => ?_)
    refine k_turn h5 (by omega) ⟨sF.trans s5, rfl, ?_⟩
    rw [List.take_add_one, hi, List.map_append, List.map_append]
    exact (dq.up s5 _ _).snoc (.lst f5 (DqAll.ints [_, _, _]))
  rintro acc F4 O' p4 H4 ⟨sF, rfl, dq⟩ hh
  rw [List.length_map, List.take_length] at dq
  rw [← hstab] at dq
  have lst_ : (stab ps qs).length ≤ 1000 := by rw [hstab, List.length_map]; omega
  have hal : acc.length = (stab ps qs).length := by rw [dq.len, List.length_map]
  have sF := g3.trans sF
  have ha4 := sF _ _ ha2
  have hb4 := sF _ _ hb2
  have hc4 := sF _ _ hc2
  walk_at "gg"
  refine g_klstF (by walk_at "sz") hh (fun TL H5 F5 n5 s5 f5 h5 => ?_)
  have sF := sF.trans s5
  have dq := dq.up s5 _ _
  rw [List.length_map, List.length_map, List.length_map] at f5
  walk_at "gg"
  refine g_klst (by walk_at "sz") h5 (fun po H6 n6 h6 => ?_)
  refine g_addL (h6.get (by walk_at "m")) (h6.get (List.Mem.head _)) (sz (by show acc.length + 1 ≤ _; omega)) h6 (fun p5 H7 n7 h7 => ?_)
  have sF := sF.trans h7.grow
  have dM : DqAll (upd F5 p5 (.lst (acc ++ [.ref TL]))) (acc ++ [.ref TL]) ((stab ps qs ++ [(B.length, X.length, Y.length)]).map trl) := by
    rw [List.map_append]
    exact (dq.up h7.grow _ _).snoc (.lst (h7.grow _ _ f5) (DqAll.ints [_, _, _]))
  have fL := h7.grow _ _ f5
  have f7 : upd F5 p5 (.lst (acc ++ [.ref TL])) p5 = some (.lst (acc ++ [.ref TL])) := upd_same
  have hlast : (acc ++ [V.ref TL]).getLast? = some (.ref TL) := by simp
  have h7 := h7.frz.drop.drop
  generalize upd F5 p5 (.lst (acc ++ [.ref TL])) = F6 at sF dM fL f7 h7
  generalize hMe : stab ps qs ++ [(B.length, X.length, Y.length)] = M at dM htch
  have hMl : M.length ≤ 1001 := by rw [← hMe, List.length_append]; show (stab ps qs).length + 1 ≤ _; omega
  generalize acc ++ [V.ref TL] = v6 at dM f7 hlast h7
  have hvl : v6.length = M.length := by rw [dM.len, List.length_map]
  walk_at "gg"
  refine g_klst (by walk_at "sz") h7 (fun pl H8 n8 h8 => ?_)
  walk_at "gg"
  refine g_klstF (by walk_at "sz") h8 (fun sp0 H9 F9 n9 s9 f9 h9 => ?_)
  walk_at "gg"
  refine g_klstF (by walk_at "sz") h9 (fun rn0 H10 F10 n10 s10 f10 h10 => ?_)
  have f9 := s10 _ _ f9
  have s610 := s9.trans s10
  have dM := dM.up s610 _ _
  have fL := s610 _ _ fL
  have f7 := s610 _ _ f7
  have sF := sF.trans s610
  have ha2 := sF _ _ ha2
  have hb2 := sF _ _ hb2
  have hc2 := sF _ _ hc2
  clear s610 s9 s10
  have npl : H2 pl = none := sF.free h10.free
  walk_at "gg"
  refine k_forL (by walk_at "h") (fun t σ H' => ∃ (s : Tr) (run : List Str) (acc : List V) (cs : List Ch) (F : Hp) (sp rn : Addr) (y1 y2 y3 y4 : Option V), σ = [some (.ref a), some (.ref b), some (.ref c), some (.ref p1), some (.ref p2), some (.ref p3), some (.ref p5), some (.ref pl), some (.ref sp), some (.ref rn), y1, y2, y3, y4, none] ∧ Same F10 F ∧ Has F [(pl, .lst acc)] H' ∧
    F sp = some (.lst ((tri s).map V.int)) ∧ F rn = some (.lst (run.map V.str)) ∧ DqAll F acc (cs.map chD) ∧ cs ++ chL B X Y s run (M.drop t) = tch B X Y ∧ cs.length ≤ 2 * t ∧ run.length ≤ t ∧ (∀ x ∈ run, PyData.strOk x = true)) ⟨(0, 0, 0), [], [], [], F10, sp0, rn0, _, _, _, _, rfl, Same.refl _, h10, f9, f10, .nil, by rw [List.drop_zero, List.nil_append]; exact htch.symm, Nat.le_refl _, Nat.le_refl _, fun x hx => by cases hx⟩ ?_ ?_ ?_
  · rintro t σ H11 _ ⟨s, run, acc, cs, F, sp, rn, _, _, _, _, _, sF2, h11, _⟩
    exact h11.same _ _ (sF2 _ _ f7)
  · rintro t x σ H11 hx ⟨s, run, acc, cs, F, sp, rn, y1, y2, y3, y4, rfl, sF2, h11, hsp, hrn, dq, ecs, lcs, lrun, okr⟩
    obtain ⟨d, hd, dx⟩ := dM.get hx
    rw [List.getElem?_map] at hd
    obtain ⟨m, hm, rfl⟩ := Option.map_eq_some_iff.mp hd
    obtain ⟨T, rfl, hT⟩ := trl_inv (dx.up sF2 _ _)
    have ht : t < M.length := (List.getElem?_eq_some_iff.mp hm).1
    have edr : M.drop t = m :: M.drop (t + 1) := by
      rw [List.drop_eq_getElem_cons ht, (List.getElem?_eq_some_iff.mp hm).2]
    have elast : M.drop (t + 1) = [] ↔ tri m = tri (B.length, X.length, Y.length) := by
      rw [tri_inj]
      have hMl : M.length = (stab ps qs).length + 1 := by rw [← hMe, List.length_append]; rfl
      constructor
      · intro z
        have z := List.drop_eq_nil_iff.mp z
        have : t = (stab ps qs).length := by omega
        rw [← hMe, this, List.getElem?_append_right (Nat.le_refl _), Nat.sub_self] at hm
        exact (Option.some.inj hm).symm
      · intro z
        apply List.drop_eq_nil_of_le
        rcases Nat.lt_or_ge t (stab ps qs).length with g | g
        · rw [← hMe, List.getElem?_append_left g] at hm
          have := (hbd m (List.mem_of_getElem? hm)).1
          rw [z] at this
          exact absurd this (Nat.lt_irrefl _)
        · omega
    have ha11 := sF2 _ _ ha2
    have hb11 := sF2 _ _ hb2
    have hc11 := sF2 _ _ hc2
    have fL11 := sF2 _ _ fL
    have f711 := sF2 _ _ f7
    rw [edr, chL] at ecs
    generalize hms : M.drop (t + 1) = ms at *
    have hal : acc.length = cs.length := by rw [dq.len, List.length_map]
    walk_at "g"
    walk_at "g"
    refine g_join (fun σ' H' => ∃ (run' : List Str) (acc : List V) (cs : List Ch) (F' : Hp) (rn' : Addr) (y2 y3 y4 : Option V), σ' = [some (.ref a), some (.ref b), some (.ref c), some (.ref p1), some (.ref p2), some (.ref p3), some (.ref p5), some (.ref pl), some (.ref sp), some (.ref rn'), some (.ref T), y2, y3, y4, none] ∧ Same F F' ∧ Has F' [(pl, .lst acc)] H' ∧
      F' rn' = some (.lst (run'.map V.str)) ∧ DqAll F' acc (cs.map chD) ∧ cs ++ chL B X Y (nx3 m) (run' ++ (B.drop m.1).take 1) ms = tch B X Y ∧ cs.length ≤ 2 * t + 2 ∧ run'.length ≤ t ∧ (∀ x ∈ run', PyData.strOk x = true)) ?_ (fun key => ?_)
    · rintro σ' H12 ⟨run', acc, cs, F', rn', y2, y3, y4, rfl, sF3, h12, hrn', dq, ecs, lcs, lrun, okr⟩
      have ha12 := sF3 _ _ ha11
      have hT12 := sF3 _ _ hT
      have t1 := take1_len B m.1
      walk_at "gg"
      refine g_ixL (v := .int m.1) (by walk_at "h") (atI_nat (j := 0) rfl) ?_
      walk_at "gg"
      refine g_ixL (v := .int m.1) (by walk_at "h") (atI_nat (j := 0) rfl) ?_
      walk_at "gg"
      refine g_slL (by walk_at "h") h12 (fun q1 H13 n13 h13 => ?_)
      rw [show ((m.1 : Int) + 1) = ((m.1 + 1 : Nat) : Int) from rfl, cutV_str, cut1] at h13
      refine g_addL (h13.same _ _ hrn') (h13.get (List.Mem.head _)) (sz (by rw [List.length_map, List.length_map]; omega)) h13 (fun q2 H14 n14 h14 => ?_)
      rw [← List.map_append] at h14
      have s14 := h14.grow
      have f14 : upd F' q2 (.lst ((run' ++ (B.drop m.1).take 1).map V.str)) q2 = some (.lst ((run' ++ (B.drop m.1).take 1).map V.str)) := upd_same
      have h14 := h14.frz.drop
      generalize upd F' q2 (.lst ((run' ++ (B.drop m.1).take 1).map V.str)) = F14 at s14 f14 h14
      have hT14 := s14 _ _ hT12
      walk_at "gg"
      refine g_ixL (v := .int m.1) (by walk_at "h") (atI_nat (j := 0) rfl) ?_
      walk_at "gg"
      refine g_ixL (v := .int m.2.1) (by walk_at "h") (atI_nat (j := 1) rfl) ?_
      walk_at "gg"
      refine g_ixL (v := .int m.2.2) (by walk_at "h") (atI_nat (j := 2) rfl) ?_
      walk_at "gg"
      refine g_klstF (by walk_at "sz") h14 (fun sp' H15 F15 n15 s15 f15 h15 => ?_)
      walk_at "gg"
      refine ⟨nx3 m, run' ++ (B.drop m.1).take 1, acc, cs, F15, sp', q2, _, _, _, _, rfl, sF2.trans (sF3.trans (s14.trans s15)), h15, f15, s15 _ _ f14, dq.up (s14.trans s15) _ _, ecs, by omega, by rw [List.length_append]; omega, fun x hx => ?_⟩
      rcases List.mem_append.mp hx with hx | hx
      · exact okr x hx
      · exact okB x (mem_take1 hx)
    · walk_at "g"
      refine g_fact (fun k => k = true ↔ (m ≠ s ∨ ms = [])) (fun R r => ?_) (fun k hk => ?_)
      · walk_at "gg"
        refine g_neD (.lst (h11.same _ _ hT) (DqAll.ints _)) (.lst (h11.same _ _ hsp) (DqAll.ints _)) ((Sh.ints (n := 0)).ok (by decide)) ((Sh.ints (n := 0)).ok (by decide)) ?_
        rw [eqv_ints]
        walk_at "gg"
        refine i_n (fun ne => r _ ⟨fun _ => .inl fun z => ne (tri_inj.mpr z), fun _ => rfl⟩) (fun eq => ?_)
        walk_at "gg"
        refine g_ixLast (v := .ref TL) (by walk_at "h") hlast ?_
        walk_at "gg"
        refine g_eqD (.lst (h11.same _ _ hT) (DqAll.ints _)) (.lst (ds := (tri (B.length, X.length, Y.length)).map PyData.int) (h11.same _ _ fL11) (DqAll.ints [_, _, _])) ((Sh.ints (n := 0)).ok (by decide)) ((Sh.ints (n := 0)).ok (by decide)) ?_
        rw [eqv_ints]
        walk_at "gg"
        refine r _ ⟨fun z => .inr (elast.mpr (of_decide_eq_true z)), fun z => decide_eq_true (elast.mp ?_)⟩
        rcases z with z | z
        · exact (z (tri_inj.mp eq)).elim
        · exact z
      cases k with
      | false =>
        have nk : ¬ (m ≠ s ∨ ms = []) := fun z => Bool.false_ne_true (hk.mpr z)
        rw [if_neg nk] at ecs
        walk_at "g"
        walk_at "g"
        exact key _ _ ⟨run, acc, cs, F, rn, _, _, _, rfl, Same.refl _, h11, hrn, dq, ecs, by omega, lrun, okr⟩
      | true =>
        rw [if_pos (hk.mp rfl)] at ecs
        have ecs : cs ++ (fl run ++ pN B X Y s m ++ chL B X Y (nx3 m) ((B.drop m.1).take 1) ms) = tch B X Y := ecs
        walk_at "g"
        walk_at "g"
        refine g_join (fun σ' H' => ∃ (acc : List V) (cs : List Ch) (F' : Hp), σ' = [some (.ref a), some (.ref b), some (.ref c), some (.ref p1), some (.ref p2), some (.ref p3), some (.ref p5), some (.ref pl), some (.ref sp), some (.ref rn), some (.ref T), y2, y3, y4, none] ∧ Same F F' ∧ Has F' [(pl, .lst acc)] H' ∧
          DqAll F' acc (cs.map chD) ∧ cs ++ (pN B X Y s m ++ chL B X Y (nx3 m) ((B.drop m.1).take 1) ms) = tch B X Y ∧ cs.length ≤ 2 * t + 1) ?_ (fun key1 => ?_)
        · rintro σ' H12 ⟨acc, cs, F', rfl, sF3, h12, dq, ecs, lcs⟩
          have hal : acc.length = cs.length := by rw [dq.len, List.length_map]
          have ha12 := sF3 _ _ ha11
          have hb12 := sF3 _ _ hb11
          have hc12 := sF3 _ _ hc11
          have hT12 := sF3 _ _ hT
          have hsp12 := sF3 _ _ hsp
          walk_at "g"
          refine g_join (fun σ' H' => ∃ (acc : List V) (cs : List Ch) (F2 : Hp) (y2 y3 y4 : Option V), σ' = [some (.ref a), some (.ref b), some (.ref c), some (.ref p1), some (.ref p2), some (.ref p3), some (.ref p5), some (.ref pl), some (.ref sp), some (.ref rn), some (.ref T), y2, y3, y4, none] ∧ Same F' F2 ∧ Has F2 [(pl, .lst acc)] H' ∧
            DqAll F2 acc (cs.map chD) ∧ cs ++ chL B X Y (nx3 m) ((B.drop m.1).take 1) ms = tch B X Y ∧ cs.length ≤ 2 * t + 2) ?_ (fun key2 => ?_)
          · rintro σ' H13 ⟨acc, cs, F2, y2, y3, y4, rfl, sF4, h13, dq, ecs, lcs⟩
            walk_at "gg"
            refine g_klstF (by walk_at "sz") h13 (fun rn' H14 F14 n14 s14 f14 h14 => ?_)
            walk_at "g"
            exact key _ _ ⟨[], acc, cs, F14, rn', _, _, _, rfl, sF3.trans (sF4.trans s14), h14, f14, dq.up s14 _ _, ecs, lcs, Nat.zero_le _, fun x hx => by cases hx⟩
          · walk_at "gg"
            refine g_neD (.lst (h12.same _ _ hT12) (DqAll.ints _)) (.lst (h12.same _ _ hsp12) (DqAll.ints _)) ((Sh.ints (n := 0)).ok (by decide)) ((Sh.ints (n := 0)).ok (by decide)) ?_
            rw [eqv_ints]
            walk_at "gg"
            refine i_n (fun ne => ?_) (fun eq => ?_)
            · walk_at "gg"
              refine g_ixL (v := .int s.1) (by walk_at "h") (atI_nat (j := 0) rfl) ?_
              walk_at "gg"
              refine g_ixL (v := .int m.1) (by walk_at "h") (atI_nat (j := 0) rfl) ?_
              walk_at "gg"
              refine g_slL (by walk_at "h") h12 (fun q1 H13 n13 h13 => ?_)
              rw [cutV_str] at h13
              walk_at "gg"
              refine g_tupleL (by walk_at "h") h13.frz (fun tb H14 F14 n14 s14 f14 h14 => ?_)
              have s14 := h13.grow.trans s14
              have hT14 := s14 _ _ hT12
              have hsp14 := s14 _ _ hsp12
              have hb14 := s14 _ _ hb12
              have hc14 := s14 _ _ hc12
              walk_at "gg"
              refine g_ixL (v := .int s.2.1) (by walk_at "h") (atI_nat (j := 1) rfl) ?_
              walk_at "gg"
              refine g_ixL (v := .int m.2.1) (by walk_at "h") (atI_nat (j := 1) rfl) ?_
              walk_at "gg"
              refine g_slL (by walk_at "h") h14 (fun q2 H15 n15 h15 => ?_)
              rw [cutV_str] at h15
              walk_at "gg"
              refine g_tupleL (by walk_at "h") h15.frz (fun tx H16 F16 n16 s16 f16 h16 => ?_)
              have s16 := h15.grow.trans s16
              have hT16 := s16 _ _ hT14
              have hsp16 := s16 _ _ hsp14
              have hc16 := s16 _ _ hc14
              have f14 := s16 _ _ f14
              walk_at "gg"
              refine g_ixL (v := .int s.2.2) (by walk_at "h") (atI_nat (j := 2) rfl) ?_
              walk_at "gg"
              refine g_ixL (v := .int m.2.2) (by walk_at "h") (atI_nat (j := 2) rfl) ?_
              walk_at "gg"
              refine g_slL (by walk_at "h") h16 (fun q3 H17 n17 h17 => ?_)
              rw [cutV_str] at h17
              walk_at "gg"
              refine g_tupleL (by walk_at "h") h17.frz (fun ty H18 F18 n18 s18 f18 h18 => ?_)
              have s18 := h17.grow.trans s18
              have f14 := s18 _ _ f14
              have f16 := s18 _ _ f16
              have s1418 := s14.trans (s16.trans s18)
              walk_at "gg"
              refine g_ktupF (by walk_at "sz") h18 (fun tt H19 F19 n19 s19 f19 h19 => ?_)
              walk_at "gg"
              refine g_append h19 (by walk_at "c") (szl (by omega)) (fun H20 h20 => ?_)
              refine key2 _ _ ⟨_, cs ++ [.part (cut B s.1 m.1) (cut X s.2.1 m.2.1) (cut Y s.2.2 m.2.2)], F19, _, _, _, rfl, s1418.trans s19, h20, ?_, ?_, by rw [List.length_append]; show cs.length + 1 ≤ _; omega⟩
              · rw [List.map_append]
                exact (dq.up (s1418.trans s19) _ _).snoc (.tup f19 (.cons (.str _) (.cons (dq_tS (s19 _ _ f14)) (.cons (dq_tS (s19 _ _ f16)) (.cons (dq_tS (s19 _ _ f18)) .nil)))))
              · rw [← ecs]
                unfold pN
                rw [if_pos (fun z => ne (tri_inj.mpr z)), List.append_assoc]
            · walk_at "g"
              refine key2 _ _ ⟨acc, cs, F', _, _, _, rfl, Same.refl _, h12, dq, ?_, by omega⟩
              rw [← ecs]
              unfold pN
              rw [if_neg (fun z => z (tri_inj.mp eq)), List.nil_append]
        · walk_at "gg"
          refine g_klstF (by walk_at "sz") h11 (fun pe H12 F12 n12 s12 f12 h12 => ?_)
          refine g_neD (.lst (h12.same _ _ (s12 _ _ hrn)) (DqAll.strs _)) (.lst (h12.same _ _ f12) (DqAll.strs [])) ((Sh.strs (n := 0) okr).ok (by decide)) ((Sh.strs (n := 0) (xs := []) (fun x hx => by cases hx)).ok (by decide)) ?_
          rw [eqv_strs]
          have hrn12 := s12 _ _ hrn
          walk_at "gg"
          refine i_n (fun ne => ?_) (fun eq => ?_)
          · walk_at "gg"
            refine g_tupleL (by walk_at "h") h12 (fun ta H13 F13 n13 s13 f13 h13 => ?_)
            have hrn13 := s13 _ _ hrn12
            walk_at "gg"
            refine g_tupleL (by walk_at "h") h13 (fun tb H14 F14 n14 s14 f14 h14 => ?_)
            have hrn14 := s14 _ _ hrn13
            have f13 := s14 _ _ f13
            walk_at "gg"
            refine g_tupleL (by walk_at "h") h14 (fun tc H15 F15 n15 s15 f15 h15 => ?_)
            have f13 := s15 _ _ f13
            have f14 := s15 _ _ f14
            walk_at "gg"
            refine g_ktupF (by walk_at "sz") h15 (fun tt H16 F16 n16 s16 f16 h16 => ?_)
            have sA := s12.trans (s13.trans (s14.trans (s15.trans s16)))
            walk_at "gg"
            refine g_append h16 (by walk_at "c") (szl (by omega)) (fun H17 h17 => ?_)
            refine key1 _ _ ⟨_, cs ++ [.same run], F16, rfl, sA, h17, ?_, ?_, by rw [List.length_append]; show cs.length + 1 ≤ _; omega⟩
            · rw [List.map_append]
              exact (dq.up sA _ _).snoc (.tup f16 (.cons (.str _) (.cons (dq_tS (s16 _ _ f13)) (.cons (dq_tS (s16 _ _ f14)) (.cons (dq_tS (s16 _ _ f15)) .nil)))))
            · rw [← ecs]
              unfold fl
              rw [if_pos ne]
              simp only [List.append_assoc]
          · walk_at "g"
            refine key1 _ _ ⟨acc, cs, F12, rfl, s12, h12, dq.up s12 _ _, ?_, by omega⟩
            rw [← ecs]
            unfold fl
            rw [if_neg (fun z => z eq), List.nil_append]
  · rintro σ H11 ⟨s, run, acc, cs, F, sp, rn, y1, y2, y3, y4, rfl, sF2, h11, hsp, hrn, dq, ecs, lcs, lrun, okr⟩
    walk_at "gg"
    rw [hvl, List.drop_length, chL, List.append_nil] at ecs
    subst ecs
    exact q pl H11 acc (s02.trans (sF.trans (sF2.trans h11.same))) (s02.free npl) (h11.get (List.Mem.head _)) (dq.up h11.same _ _)
end

end K09

namespace K09
open PySem PySem.Spec PyProof.Rows L2 Qk
local macro_rules | `(tactic| walk_at "m") => `(tactic| ((repeat (first | exact List.Mem.head _ | apply List.Mem.tail)); done))
local macro_rules | `(tactic| walk_at "h") => `(tactic| first | assumption | exact Has.gF (by assumption) (by assumption) | exact Has.get (by assumption) (by walk_at "m"))
local macro_rules | `(tactic| walk_at "c") => `(tactic| ((repeat (first | exact Chg.hd | apply Chg.tl)); done))
local macro_rules | `(tactic| walk_at "is") => `(tactic| first
  | ((with_reducible refine' is2_non ?gh ?_); (case gh => walk_at "h"))
  | (with_reducible refine is_int_list ?_)
  | (with_reducible refine is_int_tuple ?_)
  | (with_reducible refine is_int_dict ?_)
  | (with_reducible refine is_int_int ?_)
  | (with_reducible refine is_int_bool ?_)
  | (with_reducible refine is_int_str ?_)
  | ((with_reducible refine' is2_int ?gh ?_); (case gh => walk_at "h"))
  | (with_reducible refine is_str_list ?_)
  | (with_reducible refine is_str_tuple ?_)
  | (with_reducible refine is_str_dict ?_)
  | (with_reducible refine is_str_int ?_)
  | (with_reducible refine is_str_bool ?_)
  | (with_reducible refine is_str_str ?_)
  | ((with_reducible refine' is2_str ?gh ?_); (case gh => walk_at "h"))
  | (with_reducible refine is_bool_list ?_)
  | (with_reducible refine is_bool_tuple ?_)
  | (with_reducible refine is_bool_dict ?_)
  | (with_reducible refine is_bool_int ?_)
  | (with_reducible refine is_bool_bool ?_)
  | (with_reducible refine is_bool_str ?_)
  | ((with_reducible refine' is2_bool ?gh ?_); (case gh => walk_at "h"))
  | ((with_reducible refine' is_list_list ?gh ?_); (case gh => walk_at "h"))
  | ((with_reducible refine' is_list_tuple ?gh ?_); (case gh => walk_at "h"))
  | ((with_reducible refine' is_list_dict ?gh ?_); (case gh => walk_at "h"))
  | ((with_reducible refine' is_list_int ?gh ?_); (case gh => walk_at "h"))
  | ((with_reducible refine' is_list_bool ?gh ?_); (case gh => walk_at "h"))
  | ((with_reducible refine' is_list_str ?gh ?_); (case gh => walk_at "h"))
  | ((with_reducible refine' is2_list ?ga ?gb ?_); (case ga => walk_at "h"); (case gb => walk_at "h"))
  | ((with_reducible refine' is_tuple_list ?gh ?_); (case gh => walk_at "h"))
  | ((with_reducible refine' is_tuple_tuple ?gh ?_); (case gh => walk_at "h"))
  | ((with_reducible refine' is_tuple_dict ?gh ?_); (case gh => walk_at "h"))
  | ((with_reducible refine' is_tuple_int ?gh ?_); (case gh => walk_at "h"))
  | ((with_reducible refine' is_tuple_bool ?gh ?_); (case gh => walk_at "h"))
  | ((with_reducible refine' is_tuple_str ?gh ?_); (case gh => walk_at "h"))
  | ((with_reducible refine' is2_tuple ?ga ?gb ?_); (case ga => walk_at "h"); (case gb => walk_at "h"))
  | ((with_reducible refine' is_dict_list ?gh ?_); (case gh => walk_at "h"))
  | ((with_reducible refine' is_dict_tuple ?gh ?_); (case gh => walk_at "h"))
  | ((with_reducible refine' is_dict_dict ?gh ?_); (case gh => walk_at "h"))
  | ((with_reducible refine' is_dict_int ?gh ?_); (case gh => walk_at "h"))
  | ((with_reducible refine' is_dict_bool ?gh ?_); (case gh => walk_at "h"))
  | ((with_reducible refine' is_dict_str ?gh ?_); (case gh => walk_at "h"))
  | ((with_reducible refine' is2_dict ?ga ?gb ?_); (case ga => walk_at "h"); (case gb => walk_at "h")))
local macro_rules | `(tactic| walk_at "g") => `(tactic| first
  | (with_reducible refine g_seq ?_)
  | (with_reducible refine g_asg ?_)
  | ((with_reducible refine g_name ?_); dsimp only [List.set, wipe, List.map])
  | ((with_reducible refine' g_var ?gv ?_); (case gv => exact rfl))
  | (with_reducible refine g_c ?_)
  | (with_reducible refine g_op ?_)
  | (with_reducible refine g_cons ?_)
  | (with_reducible refine g_nil ?_)
  | (with_reducible refine g_cb ?_)
  | (with_reducible refine g_call ?_)
  | (with_reducible refine g_tup ?_)
  | (with_reducible refine g_lst ?_)
  | (with_reducible refine g_bm ?_)
  | (with_reducible refine g_bm0 ?_)
  | ((with_reducible refine' g_kbm ?gh ?_); (case gh => walk_at "h"))
  | (with_reducible refine g_drop ?_)
  | (with_reducible refine g_ret ?_)
  | (with_reducible refine g_retN ?_)
  | (with_reducible refine g_next ?_)
  | (with_reducible refine g_brk ?_)
  | (with_reducible refine g_cont ?_)
  | (with_reducible refine g_if ?_)
  | ((with_reducible refine' g_aug ?gv ?_); (case gv => exact rfl))
  | (with_reducible refine g_ipI ?_)
  | (with_reducible refine g_test ?_)
  | (with_reducible refine g_tB ?_)
  | (with_reducible refine g_kB ?_)
  | (with_reducible refine g_not ?_)
  | (with_reducible refine g_and ?_)
  | (with_reducible refine g_or ?_)
  | (with_reducible refine g_andV ?_)
  | (with_reducible refine g_orV ?_)
  | (with_reducible refine g_notV ?_)
  | (with_reducible refine g_ifE ?_)
  | (with_reducible refine g_addI ?_)
  | (with_reducible refine g_rI0 ?_)
  | (with_reducible refine g_eqI ?_)
  | (with_reducible refine g_eqS ?_)
  | (with_reducible refine g_neI ?_)
  | (with_reducible refine g_neS ?_)
  | (with_reducible refine g_isN ?_)
  | (with_reducible refine g_notN ?_)
  | (with_reducible refine g_int ?_)
  | (with_reducible refine g_max2 ?_)
  | (with_reducible refine g_min2 ?_)
  | ((with_reducible refine' g_lenL ?gh ?_); (case gh => walk_at "h"))
  | (with_reducible refine g_sub ?_)
  | (with_reducible refine g_gcons ?_)
  | (with_reducible refine g_gnil ?_)
  | (with_reducible refine g_un ?_)
  | (with_reducible refine g_rU ?_)
  | (with_reducible refine g_forL ?_)
  | (with_reducible refine g_forS ?_)
  | (with_reducible refine g_forR1 ?_)
  | (with_reducible refine g_forR2 ?_)
  | (with_reducible refine g_forR3 ?_)
  | (with_reducible refine g_lcL ?_)
  | (with_reducible refine g_lcR1 ?_)
  | (with_reducible refine g_lcR2 ?_)
  | (with_reducible refine g_slice ?_)
  | (with_reducible refine g_part ?_)
  | (with_reducible refine g_kOI ?_)
  | (with_reducible refine g_nopart ?_)
  | (with_reducible refine g_yes ?_)
  | ((with_reducible refine' g_wipe ?gv ?_); (case gv => exact rfl))
  | (with_reducible refine iteT ?_)
  | (with_reducible refine iteF ?_)
  | (with_reducible refine i_nf ?_)
  | (with_reducible refine i_nt ?_)
  | ((with_reducible refine' g_gtup ?gh ?gl ?_); (case gh => walk_at "h"); (case gl => exact rfl))
  | ((with_reducible refine' g_notinI ?gh ?_); (case gh => walk_at "h"))
  | ((with_reducible refine' g_inI ?gh ?_); (case gh => walk_at "h"))
  | ((with_reducible refine' g_kget2 ?gh ?_); (case gh => walk_at "h"))
  | ((with_reducible refine' g_kgotI ?gh ?_); (case gh => walk_at "h"))
  | (with_reducible refine g_tRev ?_)
  | (with_reducible refine g_neB ?_)
  | (with_reducible refine g_eqB ?_)
  | ((with_reducible refine' g_lenT ?gh ?_); (case gh => walk_at "h"))
  | (with_reducible refine g_star ?_)
  | ((with_reducible refine' g_kstarL ?gh ?_); (case gh => walk_at "h"))
  | ((with_reducible refine' g_kstarT ?gh ?_); (case gh => walk_at "h"))
  | (with_reducible refine g_tru ?_)
  | ((with_reducible refine' g_truL ?gh ?_); (case gh => walk_at "h"))
  | (with_reducible refine g_get2 ?_)
  | (with_reducible refine g_try ?_)
  | (with_reducible refine g_fld ?_)
  | (with_reducible refine g_sfld ?_)
  | (with_reducible refine g_meth ?_)
  | (with_reducible refine g_make ?_)
  | (with_reducible refine g_del ?_)
  | (with_reducible refine g_callS ?_)
  | (with_reducible refine g_raise ?_)
  | (with_reducible refine g_xf ?_)
  | (with_reducible refine g_m0 ?_)
  | (with_reducible refine g_km0 ?_)
  | walk_at "is")
local macro_rules | `(tactic| walk_at "gg") => `(tactic| repeat walk_at "g")
local macro_rules | `(tactic| walk_at "sz") => `(tactic| (refine sz ?_; simp only [List.length_cons, List.length_nil, List.length_map, List.length_append, List.length_replicate]; omega))
local macro_rules | `(tactic| walk_at "sub") => `(tactic| ((repeat (first | exact List.Sublist.slnil | with_reducible apply List.Sublist.cons_cons | with_reducible apply List.Sublist.cons)); done))

/-- a chunk's lines are not many -/
def chLe (k : Nat) : Ch → Prop
  | .same ls => ls.length ≤ k
  | .part b x y => b.length ≤ k ∧ x.length ≤ k ∧ y.length ≤ k
theorem pc_le (B X Y : List Str) {k : Nat} (h1 : B.length ≤ k) (h2 : X.length ≤ k) (h3 : Y.length ≤ k) : ∀ (R : List R4) (s : Tr), (∀ c ∈ pc B X Y s R, chLe k c) ∧ (pc B X Y s R).length ≤ 2 * R.length
  | [], s => ⟨fun c hc => (by cases hc), Nat.le_refl _⟩
  | (a, b, c, l) :: R, s => by
    have ih := pc_le B X Y h1 h2 h3 R (a + l, b + l, c + l)
    have c1 := fun i m => cut_le B i m
    have c2 := fun i m => cut_le X i m
    have c3 := fun i m => cut_le Y i m
    have p1 : (∀ c' ∈ pOpt B X Y s (a, b, c), chLe k c') ∧ (pOpt B X Y s (a, b, c)).length ≤ 1 := by
      unfold pOpt
      split
      · refine ⟨fun c' hc => ?_, Nat.le_refl _⟩
        rw [List.mem_singleton.mp hc]
        exact ⟨Nat.le_trans (c1 _ _) h1, Nat.le_trans (c2 _ _) h2, Nat.le_trans (c3 _ _) h3⟩
      · exact ⟨fun c' hc => (by cases hc), Nat.zero_le _⟩
    have p2 : (∀ c' ∈ sOpt B a l, chLe k c') ∧ (sOpt B a l).length ≤ 1 := by
      unfold sOpt
      split
      · refine ⟨fun c' hc => ?_, Nat.le_refl _⟩
        rw [List.mem_singleton.mp hc]
        exact Nat.le_trans (c1 _ _) h1
      · exact ⟨fun c' hc => (by cases hc), Nat.zero_le _⟩
    show (∀ c' ∈ pOpt B X Y s (a, b, c) ++ sOpt B a l ++ pc B X Y (a + l, b + l, c + l) R, chLe k c') ∧ (pOpt B X Y s (a, b, c) ++ sOpt B a l ++ pc B X Y (a + l, b + l, c + l) R).length ≤ 2 * (R.length + 1)
    refine ⟨fun c' hc => ?_, ?_⟩
    · rcases List.mem_append.mp hc with hc | hc
      · rcases List.mem_append.mp hc with hc | hc
        · exact p1.1 _ hc
        · exact p2.1 _ hc
      · exact ih.1 _ hc
    · rw [List.length_append, List.length_append]
      have := p1.2
      have := p2.2
      have := ih.2
      omega
theorem tch_le (B X Y : List Str) {k : Nat} (h1 : B.length ≤ k) (h2 : X.length ≤ k) (h3 : Y.length ≤ k) : (∀ c ∈ tch B X Y, chLe k c) ∧ (tch B X Y).length ≤ 2 * k + 2 := by
  have h := pc_le B X Y h1 h2 h3 (grp (stab (mt B X 0 0) (mt B Y 0 0)) ++ [(B.length, X.length, Y.length, 0)]) (0, 0, 0)
  refine ⟨h.1, Nat.le_trans h.2 ?_⟩
  have hml : (mt B X 0 0).length ≤ B.length := by rw [mt_length]; have := lc_len B X; omega
  have hsl := stab_len (mt B X 0 0) (mt B Y 0 0)
  have hgl := grp_len (stab (mt B X 0 0) (mt B Y 0 0))
  rw [List.length_append]
  show 2 * (_ + 1) ≤ _
  omega
theorem chD_noL (c : Ch) : noL (chD c) = true := by
  have h : ∀ xs : List Str, noL (tS xs) = true := fun xs => by
    unfold tS
    rw [noL]
    refine noLs_mem fun d hd => ?_
    obtain ⟨x, _, rfl⟩ := List.mem_map.mp hd
    rfl
  cases c with
  | same ls =>
    unfold chD
    rw [noL, noLs, noLs, noLs, noLs, noLs, h]
    rfl
  | part b x y =>
    unfold chD
    rw [noL, noLs, noLs, noLs, noLs, noLs, h, h, h]
    rfl
theorem chs_noL {cs : List Ch} : ∀ d ∈ cs.map chD, noL d = true := fun d hd => by
  obtain ⟨c, _, rfl⟩ := List.mem_map.mp hd
  exact chD_noL c

/-! ### merges of chunks -/
def chB : Ch → List Str
  | .same ls => ls
  | .part b _ _ => b
def chX : Ch → List Str
  | .same ls => ls
  | .part _ x _ => x
def chY : Ch → List Str
  | .same ls => ls
  | .part _ _ y => y
def tag : Ch → Str
  | .same _ => "same"
  | .part _ _ _ => "part"
theorem chD_eq (c : Ch) : chD c = .tuple [.str (tag c), tS (chB c), tS (chX c), tS (chY c)] := by cases c <;> rfl
def clash (b x y : List Str) : List Str := ("<<<<<<<" : Str) :: (x ++ (("|||||||" : Str) :: (b ++ (("=======" : Str) :: (y ++ [(">>>>>>>" : Str)])))))
def dec (b x y : List Str) : List Str × Nat := if x = y then (x, 0) else if y = b then (x, 0) else if x = b then (y, 0) else (clash b x y, 1)
def decC (c : Ch) : List Str × Nat := dec (chB c) (chX c) (chY c)
def mrgL (cs : List Ch) : List Str := cs.flatMap fun c => (decC c).1
def mrgN (cs : List Ch) : Nat := (cs.map fun c => (decC c).2).sum
theorem mrgL_take {t : Nat} {cs : List Ch} {c : Ch} (h : cs[t]? = some c) : mrgL (cs.take (t + 1)) = mrgL (cs.take t) ++ (decC c).1 := by
  unfold mrgL
  rw [List.take_add_one, h, List.flatMap_append]
  simp
theorem mrgN_take {t : Nat} {cs : List Ch} {c : Ch} (h : cs[t]? = some c) : mrgN (cs.take (t + 1)) = mrgN (cs.take t) + (decC c).2 := by
  unfold mrgN
  rw [List.take_add_one, h, List.map_append, List.sum_append]
  simp
theorem dec_len {b x y : List Str} {k : Nat} (h1 : b.length ≤ k) (h2 : x.length ≤ k) (h3 : y.length ≤ k) : (dec b x y).1.length ≤ 3 * k + 4 := by
  unfold dec
  split
  · show x.length ≤ _; omega
  · split
    · show x.length ≤ _; omega
    · split
      · show y.length ≤ _; omega
      · show (clash b x y).length ≤ _
        unfold clash
        simp only [List.length_cons, List.length_append, List.length_nil]
        omega
theorem decC_len {c : Ch} {k : Nat} (h : chLe k c) : (decC c).1.length ≤ 3 * k + 4 := by
  cases c with
  | same ls => exact dec_len h h h
  | part b x y => exact dec_len h.1 h.2.1 h.2.2
theorem mrgL_len {k : Nat} : ∀ {cs : List Ch}, (∀ c ∈ cs, chLe k c) → (mrgL cs).length ≤ cs.length * (3 * k + 4)
  | [], _ => Nat.zero_le _
  | c :: cs, h => by
    have ih := mrgL_len (cs := cs) fun x hx => h x (List.mem_cons_of_mem _ hx)
    have h1 := decC_len (h c List.mem_cons_self)
    unfold mrgL at ih ⊢
    rw [List.flatMap_cons, List.length_append, List.length_cons, Nat.succ_mul]
    omega
theorem pc_all (P : List Str → Prop) (B X Y : List Str) (h1 : ∀ i a, P (cut B i a)) (h2 : ∀ i a, P (cut X i a)) (h3 : ∀ i a, P (cut Y i a)) : ∀ (R : List R4) (s : Tr), ∀ c ∈ pc B X Y s R, P (chB c) ∧ P (chX c) ∧ P (chY c)
  | [], s, c, hc => (by cases hc)
  | (a, b, c, l) :: R, s, c', hc => by
    rcases List.mem_append.mp (show c' ∈ pOpt B X Y s (a, b, c) ++ sOpt B a l ++ pc B X Y (a + l, b + l, c + l) R from hc) with hc | hc
    · rcases List.mem_append.mp hc with hc | hc
      · unfold pOpt at hc
        split at hc
        · rw [List.mem_singleton.mp hc]
          exact ⟨h1 _ _, h2 _ _, h3 _ _⟩
        · cases hc
      · unfold sOpt at hc
        split at hc
        · rw [List.mem_singleton.mp hc]
          exact ⟨h1 _ _, h1 _ _, h1 _ _⟩
        · cases hc
    · exact pc_all P B X Y h1 h2 h3 R _ c' hc
theorem cut_mem {B : List Str} {i a : Nat} {x : Str} (h : x ∈ cut B i a) : x ∈ B := List.mem_of_mem_drop (List.mem_of_mem_take h)
def okL (xs : List Str) : Prop := ∀ x ∈ xs, PyData.strOk x = true
theorem okL_cut {B : List Str} (h : okL B) (i a : Nat) : okL (cut B i a) := fun x hx => h x (cut_mem hx)
theorem tch_ok {B X Y : List Str} (h1 : okL B) (h2 : okL X) (h3 : okL Y) : ∀ c ∈ tch B X Y, okL (chB c) ∧ okL (chX c) ∧ okL (chY c) :=
  pc_all okL B X Y (okL_cut h1) (okL_cut h2) (okL_cut h3) _ _
/-! the sides exchanged -/
def swT (m : Tr) : Tr := (m.1, m.2.2, m.2.1)
def swR (r : R4) : R4 := (r.1, r.2.2.1, r.2.1, r.2.2.2)
def swC : Ch → Ch
  | .same ls => .same ls
  | .part b x y => .part b y x
theorem grpF_sw : ∀ (S : List Tr) (r : R4), grpF (swR r) (S.map swT) = (grpF r S).map swR
  | [], r => rfl
  | m :: S, (a, b, c, l) => by
    show grpF (a, c, b, l) (swT m :: S.map swT) = _
    rw [grpF, grpF]
    by_cases e : ((a + l, b + l, c + l) : Tr) = m
    · rw [if_pos e, if_pos (by rw [← e]; rfl)]
      exact grpF_sw S (a, b, c, l + 1)
    · rw [if_neg e, if_neg, List.map_cons]
      · congr 1
        exact grpF_sw S (m.1, m.2.1, m.2.2, 1)
      · intro z
        apply e
        obtain ⟨m1, m2, m3⟩ := m
        unfold swT at z
        simp only [Prod.mk.injEq] at z ⊢
        omega
theorem grp_sw (S : List Tr) : grp (S.map swT) = (grp S).map swR := by
  cases S with
  | nil => rfl
  | cons m S => exact grpF_sw S (m.1, m.2.1, m.2.2, 1)
theorem pc_sw (B X Y : List Str) : ∀ (R : List R4) (s : Tr), pc B Y X (swT s) (R.map swR) = (pc B X Y s R).map swC
  | [], s => rfl
  | (a, b, c, l) :: R, s => by
    show pOpt B Y X (swT s) (a, c, b) ++ sOpt B a l ++ pc B Y X (swT (a + l, b + l, c + l)) (R.map swR) = (pOpt B X Y s (a, b, c) ++ sOpt B a l ++ pc B X Y (a + l, b + l, c + l) R).map swC
    rw [pc_sw B X Y R, List.map_append, List.map_append]
    congr 1
    congr 1
    · unfold pOpt swT
      simp only
      by_cases e : (cut B s.1 a).length + (cut X s.2.1 b).length + (cut Y s.2.2 c).length > 0
      · rw [if_pos e, if_pos (by omega)]
        rfl
      · rw [if_neg e, if_neg (by omega)]
        rfl
    · unfold sOpt
      split <;> rfl
theorem tch_sw (B X Y : List Str) : tch B Y X = (tch B X Y).map swC := by
  have h1 := stab_range (ps := mt B X 0 0) (qs := mt B Y 0 0) (n := B.length) (mt_inc B X 0 0) (fun p hp => by have := mt_lt _ _ _ _ _ hp; omega)
  have h2 := stab_range (ps := mt B Y 0 0) (qs := mt B X 0 0) (n := B.length) (mt_inc B Y 0 0) (fun p hp => by have := mt_lt _ _ _ _ _ hp; omega)
  have h3 : stab (mt B Y 0 0) (mt B X 0 0) = (stab (mt B X 0 0) (mt B Y 0 0)).map swT := by
    rw [h1, h2, List.map_map]
    have : ∀ i, ((look (mt B Y 0 0) i).isSome && (look (mt B X 0 0) i).isSome) = ((look (mt B X 0 0) i).isSome && (look (mt B Y 0 0) i).isSome) := fun i => Bool.and_comm _ _
    simp only [this]
    rfl
  unfold tch
  rw [h3, grp_sw, ← pc_sw, List.map_append]
  rfl
theorem map_self {α : Type} {f : α → α} : ∀ {l : List α}, l = l.map f → ∀ x ∈ l, f x = x
  | [], _, x, hx => (by cases hx)
  | y :: l, h, x, hx => by
    rw [List.map_cons, List.cons.injEq] at h
    rcases List.mem_cons.mp hx with rfl | hx
    · exact h.1.symm
    · exact map_self h.2 x hx
theorem tch_xx (B X : List Str) : ∀ c ∈ tch B X X, chX c = chY c := fun c hc => by
  have h := map_self (tch_sw B X X) c hc
  cases c with
  | same ls => rfl
  | part b x y =>
    have h : Ch.part b y x = Ch.part b x y := h
    injection h with _ _ e
theorem grpF_diag : ∀ (S : List Tr) (r : R4), r.1 = r.2.2.1 → (∀ m ∈ S, m.1 = m.2.2) → ∀ q ∈ grpF r S, q.1 = q.2.2.1
  | [], r, hr, _, q, hq => by rw [List.mem_singleton.mp hq]; exact hr
  | m :: S, (a, b, c, l), hr, hS, q, hq => by
    rw [grpF] at hq
    split at hq
    · exact grpF_diag S (a, b, c, l + 1) hr (fun z hz => hS z (List.mem_cons_of_mem _ hz)) q hq
    · rcases List.mem_cons.mp hq with rfl | hq
      · exact hr
      · exact grpF_diag S (m.1, m.2.1, m.2.2, 1) (hS m List.mem_cons_self) (fun z hz => hS z (List.mem_cons_of_mem _ hz)) q hq
theorem pc_diag (B X : List Str) : ∀ (R : List R4) (s : Tr), s.1 = s.2.2 → (∀ r ∈ R, r.1 = r.2.2.1) → ∀ c ∈ pc B X B s R, chB c = chY c
  | [], s, _, _, c, hc => (by cases hc)
  | (a, b, c, l) :: R, s, hs, hR, c', hc => by
    have hac : a = c := hR (a, b, c, l) List.mem_cons_self
    subst hac
    rcases List.mem_append.mp (show c' ∈ pOpt B X B s (a, b, a) ++ sOpt B a l ++ pc B X B (a + l, b + l, a + l) R from hc) with hc | hc
    · rcases List.mem_append.mp hc with hc | hc
      · unfold pOpt at hc
        split at hc
        · rw [List.mem_singleton.mp hc]
          show cut B s.1 a = cut B s.2.2 a
          rw [hs]
        · cases hc
      · unfold sOpt at hc
        split at hc
        · rw [List.mem_singleton.mp hc]; rfl
        · cases hc
    · exact pc_diag B X R _ rfl (fun r hr => hR r (List.mem_cons_of_mem _ hr)) c' hc
theorem tch_xb (B X : List Str) : ∀ c ∈ tch B X B, chB c = chY c := by
  unfold tch
  refine pc_diag B X _ _ rfl ?_
  have hS : ∀ m ∈ stab (mt B X 0 0) (mt B B 0 0), m.1 = m.2.2 := fun m hm => by
    obtain ⟨_, h2⟩ := stab_mem hm
    rw [mt_self] at h2
    obtain ⟨k, _, e⟩ := List.mem_map.mp h2
    rw [Prod.mk.injEq] at e
    omega
  intro r hr
  rcases List.mem_append.mp hr with hr | hr
  · generalize stab (mt B X 0 0) (mt B B 0 0) = S at hS hr
    cases S with
    | nil => cases hr
    | cons m S => exact grpF_diag S _ (hS m List.mem_cons_self) (fun z hz => hS z (List.mem_cons_of_mem _ hz)) r hr
  · rw [List.mem_singleton.mp hr]
theorem tch_bx (B X : List Str) : ∀ c ∈ tch B B X, chB c = chX c := fun c hc => by
  rw [tch_sw B X B] at hc
  obtain ⟨d, hd, rfl⟩ := List.mem_map.mp hc
  have := tch_xb B X d hd
  cases d <;> exact this
theorem mrg_of (n : Nat) : ∀ (cs : List Ch), (∀ c ∈ cs, decC c = (side n c, 0)) → mrgL cs = joined n cs ∧ mrgN cs = 0
  | [], _ => ⟨rfl, rfl⟩
  | c :: cs, h => by
    have ih := mrg_of n cs fun x hx => h x (List.mem_cons_of_mem _ hx)
    have h1 := h c List.mem_cons_self
    unfold mrgL mrgN joined at *
    rw [List.flatMap_cons, List.flatMap_cons, List.map_cons, List.sum_cons, ih.1, ih.2, h1]
    exact ⟨rfl, rfl⟩
theorem dec_xx (b x : List Str) : dec b x x = (x, 0) := by
  unfold dec
  rw [if_pos rfl]
theorem dec_xb (b x : List Str) : dec b x b = (x, 0) := by
  unfold dec
  split
  · rfl
  · rw [if_pos rfl]
theorem dec_bx (b x : List Str) : dec b b x = (x, 0) := by
  unfold dec
  split
  · rename_i e; rw [e]
  · split
    · rename_i e; rw [e]
    · rw [if_pos rfl]
theorem mrg_xx (B X : List Str) : mrgL (tch B X X) = X ∧ mrgN (tch B X X) = 0 := by
  have h := mrg_of 2 (tch B X X) fun c hc => by
    unfold decC
    rw [← tch_xx B X c hc, dec_xx]
    cases c <;> rfl
  rw [tch_joined] at h
  exact h
theorem mrg_xb (B X : List Str) : mrgL (tch B X B) = X ∧ mrgN (tch B X B) = 0 := by
  have h := mrg_of 2 (tch B X B) fun c hc => by
    unfold decC
    rw [← tch_xb B X c hc, dec_xb]
    cases c <;> rfl
  rw [tch_joined] at h
  exact h
theorem mrg_bx (B X : List Str) : mrgL (tch B B X) = X ∧ mrgN (tch B B X) = 0 := by
  have h := mrg_of 3 (tch B B X) fun c hc => by
    unfold decC
    rw [← tch_bx B X c hc, dec_bx]
    cases c <;> rfl
  rw [tch_joined] at h
  exact h
theorem sh_tS {n : Nat} {xs : List Str} (h : okL xs) : Sh (n + 1) (tS xs) := Sh.tuple fun d hd => by
  obtain ⟨x, hx, rfl⟩ := List.mem_map.mp hd
  exact Sh.str (h x hx)
theorem eqv_tS (xs ys : List Str) : PyData.eqv (tS xs) (tS ys) = decide (xs = ys) := eqv_tstrs xs ys
theorem chD_at {F : Hp} {v : V} {c : Ch} (h : Dq F v (chD c)) : ∃ T tb tx ty, v = .ref T ∧ F T = some (.tup [.str (tag c), .ref tb, .ref tx, .ref ty]) ∧ F tb = some (.tup ((chB c).map V.str)) ∧ F tx = some (.tup ((chX c).map V.str)) ∧ F ty = some (.tup ((chY c).map V.str)) := by
  rw [chD_eq] at h
  cases h with
  | tup hT hs =>
    cases hs with
    | cons h1 hs =>
      cases hs with
      | cons h2 hs =>
        cases hs with
        | cons h3 hs =>
          cases hs with
          | cons h4 hs =>
            cases hs
            cases h1
            obtain ⟨t2, rfl, e2⟩ := tS_inv h2
            obtain ⟨t3, rfl, e3⟩ := tS_inv h3
            obtain ⟨t4, rfl, e4⟩ := tS_inv h4
            exact ⟨_, _, _, _, rfl, hT, e2, e3, e4⟩
def mD (r : List Str × Nat) : PyData := .tuple [.list (r.1.map PyData.str), .int (r.2 : Int)]

end K09

namespace K09
open PySem PySem.Spec PyProof.Rows L2 Qk
local macro_rules | `(tactic| walk_at "m") => `(tactic| ((repeat (first | exact List.Mem.head _ | apply List.Mem.tail)); done))
local macro_rules | `(tactic| walk_at "h") => `(tactic| first | assumption | exact Has.gF (by assumption) (by assumption) | exact Has.get (by assumption) (by walk_at "m"))
local macro_rules | `(tactic| walk_at "c") => `(tactic| ((repeat (first | exact Chg.hd | apply Chg.tl)); done))
local macro_rules | `(tactic| walk_at "is") => `(tactic| first
  | ((with_reducible refine' is2_non ?gh ?_); (case gh => walk_at "h"))
  | (with_reducible refine is_int_list ?_)
  | (with_reducible refine is_int_tuple ?_)
  | (with_reducible refine is_int_dict ?_)
  | (with_reducible refine is_int_int ?_)
  | (with_reducible refine is_int_bool ?_)
  | (with_reducible refine is_int_str ?_)
  | ((with_reducible refine' is2_int ?gh ?_); (case gh => walk_at "h"))
  | (with_reducible refine is_str_list ?_)
  | (with_reducible refine is_str_tuple ?_)
  | (with_reducible refine is_str_dict ?_)
  | (with_reducible refine is_str_int ?_)
  | (with_reducible refine is_str_bool ?_)
  | (with_reducible refine is_str_str ?_)
  | ((with_reducible refine' is2_str ?gh ?_); (case gh => walk_at "h"))
  | (with_reducible refine is_bool_list ?_)
  | (with_reducible refine is_bool_tuple ?_)
  | (with_reducible refine is_bool_dict ?_)
  | (with_reducible refine is_bool_int ?_)
  | (with_reducible refine is_bool_bool ?_)
  | (with_reducible refine is_bool_str ?_)
  | ((with_reducible refine' is2_bool ?gh ?_); (case gh => walk_at "h"))
  | ((with_reducible refine' is_list_list ?gh ?_); (case gh => walk_at "h"))
  | ((with_reducible refine' is_list_tuple ?gh ?_); (case gh => walk_at "h"))
  | ((with_reducible refine' is_list_dict ?gh ?_); (case gh => walk_at "h"))
  | ((with_reducible refine' is_list_int ?gh ?_); (case gh => walk_at "h"))
  | ((with_reducible refine' is_list_bool ?gh ?_); (case gh => walk_at "h"))
  | ((with_reducible refine' is_list_str ?gh ?_); (case gh => walk_at "h"))
  | ((with_reducible refine' is2_list ?ga ?gb ?_); (case ga => walk_at "h"); (case gb => walk_at "h"))
  | ((with_reducible refine' is_tuple_list ?gh ?_); (case gh => walk_at "h"))
  | ((with_reducible refine' is_tuple_tuple ?gh ?_); (case gh => walk_at "h"))
  | ((with_reducible refine' is_tuple_dict ?gh ?_); (case gh => walk_at "h"))
  | ((with_reducible refine' is_tuple_int ?gh ?_); (case gh => walk_at "h"))
  | ((with_reducible refine' is_tuple_bool ?gh ?_); (case gh => walk_at "h"))
  | ((with_reducible refine' is_tuple_str ?gh ?_); (case gh => walk_at "h"))
  | ((with_reducible refine' is2_tuple ?ga ?gb ?_); (case ga => walk_at "h"); (case gb => walk_at "h"))
  | ((with_reducible refine' is_dict_list ?gh ?_); (case gh => walk_at "h"))
  | ((with_reducible refine' is_dict_tuple ?gh ?_); (case gh => walk_at "h"))
  | ((with_reducible refine' is_dict_dict ?gh ?_); (case gh => walk_at "h"))
  | ((with_reducible refine' is_dict_int ?gh ?_); (case gh => walk_at "h"))
  | ((with_reducible refine' is_dict_bool ?gh ?_); (case gh => walk_at "h"))
  | ((with_reducible refine' is_dict_str ?gh ?_); (case gh => walk_at "h"))
  | ((with_reducible refine' is2_dict ?ga ?gb ?_); (case ga => walk_at "h"); (case gb => walk_at "h")))
local macro_rules | `(tactic| walk_at "g") => `(tactic| first
  | (with_reducible refine g_seq ?_)
  | (with_reducible refine g_asg ?_)
  | ((with_reducible refine g_name ?_); dsimp only [List.set, wipe, List.map])
  | ((with_reducible refine' g_var ?gv ?_); (case gv => exact rfl))
  | (with_reducible refine g_c ?_)
  | (with_reducible refine g_op ?_)
  | (with_reducible refine g_cons ?_)
  | (with_reducible refine g_nil ?_)
  | (with_reducible refine g_cb ?_)
  | (with_reducible refine g_call ?_)
  | (with_reducible refine g_tup ?_)
  | (with_reducible refine g_lst ?_)
  | (with_reducible refine g_bm ?_)
  | (with_reducible refine g_bm0 ?_)
  | ((with_reducible refine' g_kbm ?gh ?_); (case gh => walk_at "h"))
  | (with_reducible refine g_drop ?_)
  | (with_reducible refine g_ret ?_)
  | (with_reducible refine g_retN ?_)
  | (with_reducible refine g_next ?_)
  | (with_reducible refine g_brk ?_)
  | (with_reducible refine g_cont ?_)
  | (with_reducible refine g_if ?_)
  | ((with_reducible refine' g_aug ?gv ?_); (case gv => exact rfl))
  | (with_reducible refine g_ipI ?_)
  | (with_reducible refine g_test ?_)
  | (with_reducible refine g_tB ?_)
  | (with_reducible refine g_kB ?_)
  | (with_reducible refine g_not ?_)
  | (with_reducible refine g_and ?_)
  | (with_reducible refine g_or ?_)
  | (with_reducible refine g_andV ?_)
  | (with_reducible refine g_orV ?_)
  | (with_reducible refine g_notV ?_)
  | (with_reducible refine g_ifE ?_)
  | (with_reducible refine g_addI ?_)
  | (with_reducible refine g_rI0 ?_)
  | (with_reducible refine g_eqI ?_)
  | (with_reducible refine g_eqS ?_)
  | (with_reducible refine g_neI ?_)
  | (with_reducible refine g_neS ?_)
  | (with_reducible refine g_isN ?_)
  | (with_reducible refine g_notN ?_)
  | (with_reducible refine g_int ?_)
  | (with_reducible refine g_max2 ?_)
  | (with_reducible refine g_min2 ?_)
  | ((with_reducible refine' g_lenL ?gh ?_); (case gh => walk_at "h"))
  | (with_reducible refine g_sub ?_)
  | (with_reducible refine g_gcons ?_)
  | (with_reducible refine g_gnil ?_)
  | (with_reducible refine g_un ?_)
  | (with_reducible refine g_rU ?_)
  | (with_reducible refine g_forL ?_)
  | (with_reducible refine g_forS ?_)
  | (with_reducible refine g_forR1 ?_)
  | (with_reducible refine g_forR2 ?_)
  | (with_reducible refine g_forR3 ?_)
  | (with_reducible refine g_lcL ?_)
  | (with_reducible refine g_lcR1 ?_)
  | (with_reducible refine g_lcR2 ?_)
  | (with_reducible refine g_slice ?_)
  | (with_reducible refine g_part ?_)
  | (with_reducible refine g_kOI ?_)
  | (with_reducible refine g_nopart ?_)
  | (with_reducible refine g_yes ?_)
  | ((with_reducible refine' g_wipe ?gv ?_); (case gv => exact rfl))
  | (with_reducible refine iteT ?_)
  | (with_reducible refine iteF ?_)
  | (with_reducible refine i_nf ?_)
  | (with_reducible refine i_nt ?_)
  | ((with_reducible refine' g_gtup ?gh ?gl ?_); (case gh => walk_at "h"); (case gl => exact rfl))
  | ((with_reducible refine' g_notinI ?gh ?_); (case gh => walk_at "h"))
  | ((with_reducible refine' g_inI ?gh ?_); (case gh => walk_at "h"))
  | ((with_reducible refine' g_kget2 ?gh ?_); (case gh => walk_at "h"))
  | ((with_reducible refine' g_kgotI ?gh ?_); (case gh => walk_at "h"))
  | (with_reducible refine g_tRev ?_)
  | (with_reducible refine g_neB ?_)
  | (with_reducible refine g_eqB ?_)
  | ((with_reducible refine' g_lenT ?gh ?_); (case gh => walk_at "h"))
  | (with_reducible refine g_star ?_)
  | ((with_reducible refine' g_kstarL ?gh ?_); (case gh => walk_at "h"))
  | ((with_reducible refine' g_kstarT ?gh ?_); (case gh => walk_at "h"))
  | (with_reducible refine g_tru ?_)
  | ((with_reducible refine' g_truL ?gh ?_); (case gh => walk_at "h"))
  | (with_reducible refine g_get2 ?_)
  | (with_reducible refine g_try ?_)
  | (with_reducible refine g_fld ?_)
  | (with_reducible refine g_sfld ?_)
  | (with_reducible refine g_meth ?_)
  | (with_reducible refine g_make ?_)
  | (with_reducible refine g_del ?_)
  | (with_reducible refine g_callS ?_)
  | (with_reducible refine g_raise ?_)
  | (with_reducible refine g_xf ?_)
  | (with_reducible refine g_m0 ?_)
  | (with_reducible refine g_km0 ?_)
  | walk_at "is")
local macro_rules | `(tactic| walk_at "gg") => `(tactic| repeat walk_at "g")
local macro_rules | `(tactic| walk_at "sz") => `(tactic| (refine sz ?_; simp only [List.length_cons, List.length_nil, List.length_map, List.length_append, List.length_replicate]; omega))
local macro_rules | `(tactic| walk_at "sub") => `(tactic| ((repeat (first | exact List.Sublist.slnil | with_reducible apply List.Sublist.cons_cons | with_reducible apply List.Sublist.cons)); done))

/-! ### _clash_lines, merge_texts -/
section
variable {P : Program} {w : World} {K : PySem.W.Frag} {mg : Str → Option Value} {base : Heap}
def sp_clash_lines (K : PySem.W.Frag) : Sp := fun vs H Q _ => ∃ (tb tx ty : Addr) (b x y : List Str), vs = [.ref tb, .ref tx, .ref ty] ∧ H tb = some (.tup (b.map V.str)) ∧ H tx = some (.tup (x.map V.str)) ∧ H ty = some (.tup (y.map V.str)) ∧ b.length ≤ 1000 ∧ x.length ≤ 1000 ∧ y.length ≤ 1000 ∧
  ∀ p H', Same H H' → H p = none → H' p = some (.lst ((clash b x y).map V.str)) → Q (.ref p) H'
theorem sp_clash_lines_len {vs H Q E} (h : sp_clash_lines K vs H Q E) : vs.length = 3 := by
  obtain ⟨_, _, _, _, _, _, rfl, _⟩ := h
  rfl
theorem ok_clash_lines (T : Txt K mg) : FnOk P w K mg base CX0 1 T.f_clash_lines T.fd_clash_lines ["b", "x", "y"] (sp_clash_lines K) := by
  refine T.F_clash_lines.ok sc_clash_lines (fun vs H Q E h => sp_clash_lines_len h) (fun cdv A outer s H vs Q E hr h => ?_)
  refine ⟨_, (pss_one (ps_ret (pe_lst (pa_cons (pe_gc (v := .str "<<<<<<<") (by rfl) T.k_CLASH_START) (k_star K (StX.pa_star (pv 1) (pa_cons (pe_gc (v := .str "|||||||") (by rfl) T.k_CLASH_BASE) (k_star K (StX.pa_star (pv 0) (pa_cons (pe_gc (v := .str "=======") (by rfl) T.k_CLASH_OTHER) (k_star K (StX.pa_star (pv 2) (pa_cons (pe_gc (v := .str ">>>>>>>") (by rfl) T.k_CLASH_END) pa_nil))))))))))))), ?_⟩
  obtain ⟨tb, tx, ty, b, x, y, rfl, hb, hx, hy, lb, lx, ly, q⟩ := h
  have hH := Has.start H
  refine g_start (σ' := [some (.ref tb), some (.ref tx), some (.ref ty)]) rfl ?_
  walk_at "gg"
  have e : (V.str "<<<<<<<" :: (x.map V.str ++ (V.str "|||||||" :: (b.map V.str ++ (V.str "=======" :: (y.map V.str ++ [V.str ">>>>>>>"])))))) = (clash b x y).map V.str := by
    unfold clash
    simp only [List.map_cons, List.map_append, List.map_nil]
  refine g_klst (by walk_at "sz") hH (fun p H1 n1 h1 => ?_)
  exact q p H1 h1.same n1 (by rw [← e]; exact h1.get (List.Mem.head _))
def sp_merge_texts (K : PySem.W.Frag) : Sp := fun vs H Q _ => ∃ (a b c : Addr) (B X Y : List Str), vs = [.ref a, .ref b, .ref c] ∧ H a = some (.lst (B.map V.str)) ∧ H b = some (.lst (X.map V.str)) ∧ H c = some (.lst (Y.map V.str)) ∧ B.length ≤ 40 ∧ X.length ≤ 40 ∧ Y.length ≤ 40 ∧ okL B ∧ okL X ∧ okL Y ∧
  ∀ p l H', Same H H' → H p = none → H l = none → p ≠ l → H' p = some (.tup [.ref l, .int (mrgN (tch B X Y) : Nat)]) → H' l = some (.lst ((mrgL (tch B X Y)).map V.str)) → Q (.ref p) H'
theorem sp_merge_texts_len {vs H Q E} (h : sp_merge_texts K vs H Q E) : vs.length = 3 := by
  obtain ⟨_, _, _, _, _, _, rfl, _⟩ := h
  rfl
theorem ok_merge_texts (T : Txt K mg) : FnOk P w K mg base CX0 6 T.f_merge_texts T.fd_merge_texts ["base", "ours", "theirs"] (sp_merge_texts K) := by
  refine T.F_merge_texts.ok sc_merge_texts (fun vs H Q E h => sp_merge_texts_len h) (fun cdv A outer s H vs Q E hr h => ?_)
  refine ⟨_, (pss_cons (ps_set (i := 3) sc_merge_texts.nd rfl (.inl rfl) (pe_lst pa_nil))
      (pss_cons (ps_set (i := 4) sc_merge_texts.nd rfl (.inl rfl) pe_int)
      (pss_cons (ps_for PassesOwn.never rfl (k_il K (pi_list (pe_call (ok_text_chunks T) (hr.mono (by decide)) (by rfl) T.g_text_chunks T.F_text_chunks.kp T.b_text_chunks .nil pass0 (pa_cons (pv 0) (pa_cons (pv 1) (pa_cons (pv 2) pa_nil)))))) (k_gt K (pg_tup (by rfl) (pgs_cons (pg_name (i := 5) sc_merge_texts.nd rfl (.inl rfl)) (pgs_cons (pg_name (i := 6) sc_merge_texts.nd rfl (.inl rfl)) (pgs_cons (pg_name (i := 7) sc_merge_texts.nd rfl (.inl rfl)) (pgs_cons (pg_name (i := 8) sc_merge_texts.nd rfl (.inl rfl)) pgs_nil)))))) (pss_one (ps_if (pt_cmpR (op_eqK K hr.units) (pv 7) (pv 8) (nomark _)) (pss_one (ps_expr (k_bm K (pe_bm PySem.F.plainAttrs_list PySem.F.slot_list_extend PySem.F.type_list_extend (mt_extendA K) (pv 3) (pa_cons (pv 7) pa_nil))))) (pss_one (ps_if (pt_cmpR (op_eqK K hr.units) (pv 8) (pv 6) (nomark _)) (pss_one (ps_expr (k_bm K (pe_bm PySem.F.plainAttrs_list PySem.F.slot_list_extend PySem.F.type_list_extend (mt_extendA K) (pv 3) (pa_cons (pv 7) pa_nil))))) (pss_one (ps_if (pt_cmpR (op_eqK K hr.units) (pv 7) (pv 6) (nomark _)) (pss_one (ps_expr (k_bm K (pe_bm PySem.F.plainAttrs_list PySem.F.slot_list_extend PySem.F.type_list_extend (mt_extendA K) (pv 3) (pa_cons (pv 8) pa_nil))))) (pss_cons (ps_expr (k_bm K (pe_bm PySem.F.plainAttrs_list PySem.F.slot_list_extend PySem.F.type_list_extend (mt_extendA K) (pv 3) (pa_cons (pe_call (ok_clash_lines T) (hr.mono (by decide)) (by rfl) T.g_clash_lines T.F_clash_lines.kp T.b_clash_lines .nil pass0 (pa_cons (pv 6) (pa_cons (pv 7) (pa_cons (pv 8) pa_nil)))) pa_nil))))
      (pss_one (ps_aug (i := 4) sc_merge_texts.nd rfl (.inl rfl) pe_int ip_add))))))))))
      (pss_one (ps_ret (pe_tup (pa_cons (pv 3) (pa_cons (pv 4) pa_nil)))))))), ?_⟩
  obtain ⟨a, b, c, B, X, Y, rfl, ha, hb, hc, lB, lX, lY, okB, okX, okY, q⟩ := h
  have hH := Has.start H
  refine g_start (σ' := [some (.ref a), some (.ref b), some (.ref c), none, none, none, none, none, none]) rfl ?_
  walk_at "gg"
  refine g_klst (by walk_at "sz") hH (fun ln H1 n1 h1 => ?_)
  walk_at "gg"
  refine ⟨a, b, c, B, X, Y, rfl, by walk_at "h", by walk_at "h", by walk_at "h", by omega, by omega, by omega, fun p2 H2 v2 s2 n2 hp2 dq2 => ?_⟩
  have hle := tch_le (k := 40) B X Y lB lX lY
  have hok := tch_ok okB okX okY
  generalize tch B X Y = cs at *
  have hvl : v2.length = cs.length := by rw [dq2.len, List.length_map]
  have h2 := h1.on s2
  have hpp : ln ≠ p2 := fun z => by
    subst z
    rw [h1.get (List.Mem.head _)] at n2
    cases n2
  have dq2 : DqAll (rmO [(ln, HO.lst [])] H2) v2 (cs.map chD) := by
    refine h2.keep (fun p hp xs z => ?_) chs_noL dq2
    rw [List.mem_singleton.mp hp] at z; cases z
  have hp2 : rmO [(ln, HO.lst [])] H2 p2 = some (.lst v2) := by
    unfold rmO
    rw [if_neg (by simpa using fun z => hpp z.symm)]
    exact hp2
  have sF0 := h2.reF
  have h2 := h2.re
  generalize rmO [(ln, HO.lst [])] H2 = F0 at h2 dq2 hp2 sF0
  have hlen : ∀ t, (mrgL (cs.take t)).length ≤ 82 * 124 := fun t => by
    refine Nat.le_trans (mrgL_len (k := 40) fun c hc => hle.1 c (List.mem_of_mem_take hc)) ?_
    refine Nat.mul_le_mul_right _ ?_
    rw [List.length_take]
    omega
  refine k_forL (by walk_at "h") (fun t σ H' => ∃ (F : Hp) (y1 y2 y3 y4 : Option V), σ = [some (.ref a), some (.ref b), some (.ref c), some (.ref ln), some (.int (mrgN (cs.take t) : Nat)), y1, y2, y3, y4] ∧ Same F0 F ∧ Has F [(ln, .lst ((mrgL (cs.take t)).map V.str))] H') ⟨F0, _, _, _, _, rfl, Same.refl _, h2⟩ ?_ ?_ ?_
  · rintro t σ H3 _ ⟨F, _, _, _, _, _, sF, h3⟩
    exact h3.same _ _ (sF _ _ hp2)
  · rintro t x σ H3 hx ⟨F, y1, y2, y3, y4, rfl, sF, h3⟩
    obtain ⟨d, hd, dx⟩ := dq2.get hx
    rw [List.getElem?_map] at hd
    obtain ⟨m, hm, rfl⟩ := Option.map_eq_some_iff.mp hd
    obtain ⟨T, tb, tx, ty, rfl, hT, eb, ex, ey⟩ := chD_at (dx.up sF _ _)
    obtain ⟨ob, ox, oy⟩ := hok m (List.mem_of_getElem? hm)
    have hml := hle.1 m (List.mem_of_getElem? hm)
    have lmb : (chB m).length ≤ 40 ∧ (chX m).length ≤ 40 ∧ (chY m).length ≤ 40 := by
      cases m with
      | same ls => exact ⟨hml, hml, hml⟩
      | part b x y => exact hml
    have eL := mrgL_take hm
    have eN := mrgN_take hm
    have hln := hlen t
    unfold decC dec at eL eN
    walk_at "gg"
    refine g_eqD (dq_tS (h3.same _ _ ex)) (dq_tS (h3.same _ _ ey)) ((sh_tS (n := 0) ox).ok (by decide)) ((sh_tS (n := 0) oy).ok (by decide)) ?_
    rw [eqv_tS]
    walk_at "gg"
    refine i_d (fun e1 => ?_) (fun e1 => ?_)
    · rw [if_pos e1] at eL eN
      walk_at "gg"
      refine g_extT h3 (by walk_at "h") (by walk_at "c") (sz (by rw [List.length_map, List.length_map]; omega)) (fun H4 h4 => ?_)
      refine ⟨F, _, _, _, _, by rw [eN]; rfl, sF, ?_⟩
      rw [eL, List.map_append]
      exact h4
    rw [if_neg e1] at eL eN
    walk_at "gg"
    refine g_eqD (dq_tS (h3.same _ _ ey)) (dq_tS (h3.same _ _ eb)) ((sh_tS (n := 0) oy).ok (by decide)) ((sh_tS (n := 0) ob).ok (by decide)) ?_
    rw [eqv_tS]
    walk_at "gg"
    refine i_d (fun e2 => ?_) (fun e2 => ?_)
    · rw [if_pos e2] at eL eN
      walk_at "gg"
      refine g_extT h3 (by walk_at "h") (by walk_at "c") (sz (by rw [List.length_map, List.length_map]; omega)) (fun H4 h4 => ?_)
      refine ⟨F, _, _, _, _, by rw [eN]; rfl, sF, ?_⟩
      rw [eL, List.map_append]
      exact h4
    rw [if_neg e2] at eL eN
    walk_at "gg"
    refine g_eqD (dq_tS (h3.same _ _ ex)) (dq_tS (h3.same _ _ eb)) ((sh_tS (n := 0) ox).ok (by decide)) ((sh_tS (n := 0) ob).ok (by decide)) ?_
    rw [eqv_tS]
    walk_at "gg"
    refine i_d (fun e3 => ?_) (fun e3 => ?_)
    · rw [if_pos e3] at eL eN
      walk_at "gg"
      refine g_extT h3 (by walk_at "h") (by walk_at "c") (sz (by rw [List.length_map, List.length_map]; omega)) (fun H4 h4 => ?_)
      refine ⟨F, _, _, _, _, by rw [eN]; rfl, sF, ?_⟩
      rw [eL, List.map_append]
      exact h4
    rw [if_neg e3] at eL eN
    walk_at "gg"
    refine ⟨tb, tx, ty, chB m, chX m, chY m, rfl, h3.same _ _ eb, h3.same _ _ ex, h3.same _ _ ey, by omega, by omega, by omega, fun p4 H4 s4 n4 hp4 => ?_⟩
    have h4 := h3.on s4
    have hcl : (clash (chB m) (chX m) (chY m)).length ≤ 124 := by
      unfold clash
      simp only [List.length_cons, List.length_append, List.length_nil]
      omega
    walk_at "gg"
    refine g_extL h4 hp4 (by walk_at "c") (sz (by rw [List.length_map, List.length_map]; omega)) (fun H5 h5 => ?_)
    walk_at "gg"
    refine ⟨F, _, _, _, _, by rw [eN]; rfl, sF, ?_⟩
    rw [eL, List.map_append]
    exact h5
  · rintro σ H3 ⟨F, y1, y2, y3, y4, rfl, sF, h3⟩
    rw [hvl, List.take_length] at h3
    rw [hvl, List.take_length]
    walk_at "gg"
    refine g_ktup (by walk_at "sz") h3 (fun p5 H5 n5 h5 => ?_)
    have sA := sF0.trans (sF.trans h5.same)
    refine q p5 ln H5 sA ((sF0.trans (sF.trans h3.same)).free n5) n1 (fun z => ?_) (h5.get (List.Mem.head _)) (h5.get (by walk_at "m"))
    rw [z, h3.get (List.Mem.head _)] at n5
    cases n5
end

end K09

namespace K09
open PySem PySem.Spec PyProof.Rows L2 Qk
local macro_rules | `(tactic| walk_at "m") => `(tactic| ((repeat (first | exact List.Mem.head _ | apply List.Mem.tail)); done))
local macro_rules | `(tactic| walk_at "h") => `(tactic| first | assumption | exact Has.gF (by assumption) (by assumption) | exact Has.get (by assumption) (by walk_at "m"))
local macro_rules | `(tactic| walk_at "c") => `(tactic| ((repeat (first | exact Chg.hd | apply Chg.tl)); done))
local macro_rules | `(tactic| walk_at "is") => `(tactic| first
  | ((with_reducible refine' is2_non ?gh ?_); (case gh => walk_at "h"))
  | (with_reducible refine is_int_list ?_)
  | (with_reducible refine is_int_tuple ?_)
  | (with_reducible refine is_int_dict ?_)
  | (with_reducible refine is_int_int ?_)
  | (with_reducible refine is_int_bool ?_)
  | (with_reducible refine is_int_str ?_)
  | ((with_reducible refine' is2_int ?gh ?_); (case gh => walk_at "h"))
  | (with_reducible refine is_str_list ?_)
  | (with_reducible refine is_str_tuple ?_)
  | (with_reducible refine is_str_dict ?_)
  | (with_reducible refine is_str_int ?_)
  | (with_reducible refine is_str_bool ?_)
  | (with_reducible refine is_str_str ?_)
  | ((with_reducible refine' is2_str ?gh ?_); (case gh => walk_at "h"))
  | (with_reducible refine is_bool_list ?_)
  | (with_reducible refine is_bool_tuple ?_)
  | (with_reducible refine is_bool_dict ?_)
  | (with_reducible refine is_bool_int ?_)
  | (with_reducible refine is_bool_bool ?_)
  | (with_reducible refine is_bool_str ?_)
  | ((with_reducible refine' is2_bool ?gh ?_); (case gh => walk_at "h"))
  | ((with_reducible refine' is_list_list ?gh ?_); (case gh => walk_at "h"))
  | ((with_reducible refine' is_list_tuple ?gh ?_); (case gh => walk_at "h"))
  | ((with_reducible refine' is_list_dict ?gh ?_); (case gh => walk_at "h"))
  | ((with_reducible refine' is_list_int ?gh ?_); (case gh => walk_at "h"))
  | ((with_reducible refine' is_list_bool ?gh ?_); (case gh => walk_at "h"))
  | ((with_reducible refine' is_list_str ?gh ?_); (case gh => walk_at "h"))
  | ((with_reducible refine' is2_list ?ga ?gb ?_); (case ga => walk_at "h"); (case gb => walk_at "h"))
  | ((with_reducible refine' is_tuple_list ?gh ?_); (case gh => walk_at "h"))
  | ((with_reducible refine' is_tuple_tuple ?gh ?_); (case gh => walk_at "h"))
  | ((with_reducible refine' is_tuple_dict ?gh ?_); (case gh => walk_at "h"))
  | ((with_reducible refine' is_tuple_int ?gh ?_); (case gh => walk_at "h"))
  | ((with_reducible refine' is_tuple_bool ?gh ?_); (case gh => walk_at "h"))
  | ((with_reducible refine' is_tuple_str ?gh ?_); (case gh => walk_at "h"))
  | ((with_reducible refine' is2_tuple ?ga ?gb ?_); (case ga => walk_at "h"); (case gb => walk_at "h"))
  | ((with_reducible refine' is_dict_list ?gh ?_); (case gh => walk_at "h"))
  | ((with_reducible refine' is_dict_tuple ?gh ?_); (case gh => walk_at "h"))
  | ((with_reducible refine' is_dict_dict ?gh ?_); (case gh => walk_at "h"))
  | ((with_reducible refine' is_dict_int ?gh ?_); (case gh => walk_at "h"))
  | ((with_reducible refine' is_dict_bool ?gh ?_); (case gh => walk_at "h"))
  | ((with_reducible refine' is_dict_str ?gh ?_); (case gh => walk_at "h"))
  | ((with_reducible refine' is2_dict ?ga ?gb ?_); (case ga => walk_at "h"); (case gb => walk_at "h")))
local macro_rules | `(tactic| walk_at "g") => `(tactic| first
  | (with_reducible refine g_seq ?_)
  | (with_reducible refine g_asg ?_)
  | ((with_reducible refine g_name ?_); dsimp only [List.set, wipe, List.map])
  | ((with_reducible refine' g_var ?gv ?_); (case gv => exact rfl))
  | (with_reducible refine g_c ?_)
  | (with_reducible refine g_op ?_)
  | (with_reducible refine g_cons ?_)
  | (with_reducible refine g_nil ?_)
  | (with_reducible refine g_cb ?_)
  | (with_reducible refine g_call ?_)
  | (with_reducible refine g_tup ?_)
  | (with_reducible refine g_lst ?_)
  | (with_reducible refine g_bm ?_)
  | (with_reducible refine g_bm0 ?_)
  | ((with_reducible refine' g_kbm ?gh ?_); (case gh => walk_at "h"))
  | (with_reducible refine g_drop ?_)
  | (with_reducible refine g_ret ?_)
  | (with_reducible refine g_retN ?_)
  | (with_reducible refine g_next ?_)
  | (with_reducible refine g_brk ?_)
  | (with_reducible refine g_cont ?_)
  | (with_reducible refine g_if ?_)
  | ((with_reducible refine' g_aug ?gv ?_); (case gv => exact rfl))
  | (with_reducible refine g_ipI ?_)
  | (with_reducible refine g_test ?_)
  | (with_reducible refine g_tB ?_)
  | (with_reducible refine g_kB ?_)
  | (with_reducible refine g_not ?_)
  | (with_reducible refine g_and ?_)
  | (with_reducible refine g_or ?_)
  | (with_reducible refine g_andV ?_)
  | (with_reducible refine g_orV ?_)
  | (with_reducible refine g_notV ?_)
  | (with_reducible refine g_ifE ?_)
  | (with_reducible refine g_addI ?_)
  | (with_reducible refine g_rI0 ?_)
  | (with_reducible refine g_eqI ?_)
  | (with_reducible refine g_eqS ?_)
  | (with_reducible refine g_neI ?_)
  | (with_reducible refine g_neS ?_)
  | (with_reducible refine g_isN ?_)
  | (with_reducible refine g_notN ?_)
  | (with_reducible refine g_int ?_)
  | (with_reducible refine g_max2 ?_)
  | (with_reducible refine g_min2 ?_)
  | ((with_reducible refine' g_lenL ?gh ?_); (case gh => walk_at "h"))
  | (with_reducible refine g_sub ?_)
  | (with_reducible refine g_gcons ?_)
  | (with_reducible refine g_gnil ?_)
  | (with_reducible refine g_un ?_)
  | (with_reducible refine g_rU ?_)
  | (with_reducible refine g_forL ?_)
  | (with_reducible refine g_forS ?_)
  | (with_reducible refine g_forR1 ?_)
  | (with_reducible refine g_forR2 ?_)
  | (with_reducible refine g_forR3 ?_)
  | (with_reducible refine g_lcL ?_)
  | (with_reducible refine g_lcR1 ?_)
  | (with_reducible refine g_lcR2 ?_)
  | (with_reducible refine g_slice ?_)
  | (with_reducible refine g_part ?_)
  | (with_reducible refine g_kOI ?_)
  | (with_reducible refine g_nopart ?_)
  | (with_reducible refine g_yes ?_)
  | ((with_reducible refine' g_wipe ?gv ?_); (case gv => exact rfl))
  | (with_reducible refine iteT ?_)
  | (with_reducible refine iteF ?_)
  | (with_reducible refine i_nf ?_)
  | (with_reducible refine i_nt ?_)
  | ((with_reducible refine' g_gtup ?gh ?gl ?_); (case gh => walk_at "h"); (case gl => exact rfl))
  | ((with_reducible refine' g_notinI ?gh ?_); (case gh => walk_at "h"))
  | ((with_reducible refine' g_inI ?gh ?_); (case gh => walk_at "h"))
  | ((with_reducible refine' g_kget2 ?gh ?_); (case gh => walk_at "h"))
  | ((with_reducible refine' g_kgotI ?gh ?_); (case gh => walk_at "h"))
  | (with_reducible refine g_tRev ?_)
  | (with_reducible refine g_neB ?_)
  | (with_reducible refine g_eqB ?_)
  | ((with_reducible refine' g_lenT ?gh ?_); (case gh => walk_at "h"))
  | (with_reducible refine g_star ?_)
  | ((with_reducible refine' g_kstarL ?gh ?_); (case gh => walk_at "h"))
  | ((with_reducible refine' g_kstarT ?gh ?_); (case gh => walk_at "h"))
  | (with_reducible refine g_tru ?_)
  | ((with_reducible refine' g_truL ?gh ?_); (case gh => walk_at "h"))
  | (with_reducible refine g_get2 ?_)
  | (with_reducible refine g_try ?_)
  | (with_reducible refine g_fld ?_)
  | (with_reducible refine g_sfld ?_)
  | (with_reducible refine g_meth ?_)
  | (with_reducible refine g_make ?_)
  | (with_reducible refine g_del ?_)
  | (with_reducible refine g_callS ?_)
  | (with_reducible refine g_raise ?_)
  | (with_reducible refine g_xf ?_)
  | (with_reducible refine g_m0 ?_)
  | (with_reducible refine g_km0 ?_)
  | walk_at "is")
local macro_rules | `(tactic| walk_at "gg") => `(tactic| repeat walk_at "g")
local macro_rules | `(tactic| walk_at "sz") => `(tactic| (refine sz ?_; simp only [List.length_cons, List.length_nil, List.length_map, List.length_append, List.length_replicate]; omega))
local macro_rules | `(tactic| walk_at "sub") => `(tactic| ((repeat (first | exact List.Sublist.slnil | with_reducible apply List.Sublist.cons_cons | with_reducible apply List.Sublist.cons)); done))

/-! ### _law_decided, _law_merged -/
section
variable {P : Program} {w : World} {K : PySem.W.Frag} {mg : Str → Option Value} {base : Heap}
def sp_l_decided (K : PySem.W.Frag) : Sp := fun vs H Q _ => ∃ (a b c : Addr) (B X Y : List Str), vs = [.ref a, .ref b, .ref c] ∧ H a = some (.lst (B.map V.str)) ∧ H b = some (.lst (X.map V.str)) ∧ H c = some (.lst (Y.map V.str)) ∧ B.length ≤ 1000 ∧ X.length ≤ 1000 ∧ Y.length ≤ 1000 ∧ okL B ∧ okL X ∧ okL Y ∧
  ∀ p l H', Same H H' → H' p = some (.tup [.ref l, .int ((dec B X Y).2 : Nat)]) → H' l = some (.lst ((dec B X Y).1.map V.str)) → Q (.ref p) H'
theorem sp_l_decided_len {vs H Q E} (h : sp_l_decided K vs H Q E) : vs.length = 3 := by
  obtain ⟨_, _, _, _, _, _, rfl, _⟩ := h
  rfl
theorem ok_l_decided (T : Txt K mg) : FnOk P w K mg base CX0 1 T.f_l_decided T.fd_l_decided ["base", "ours", "theirs"] (sp_l_decided K) := by
  refine T.F_l_decided.ok sc_l_decided (fun vs H Q E h => sp_l_decided_len h) (fun cdv A outer s H vs Q E hr h => ?_)
  refine ⟨_, (pss_cons (ps_if (PW.pt (pw_or (pt_cmpR (op_eqK K hr.units) (pv 1) (pv 2) (nomark _)) (pw_or1 (pt_cmpR (op_eqK K hr.units) (pv 2) (pv 0) (nomark _))))) (pss_one (ps_ret (pe_tup (pa_cons (pv 1) (pa_cons pe_int pa_nil))))) pss_nil)
      (pss_cons (ps_if (pt_cmpR (op_eqK K hr.units) (pv 1) (pv 0) (nomark _)) (pss_one (ps_ret (pe_tup (pa_cons (pv 2) (pa_cons pe_int pa_nil))))) pss_nil)
      (pss_cons (ps_set (i := 3) sc_l_decided.nd rfl (.inl rfl) (pe_op (op_addK K) (pe_op (op_addK K) (pe_op (op_addK K) (pe_op (op_addK K) (pe_op (op_addK K) (pe_op (op_addK K) (pe_lst (pa_cons pe_str pa_nil)) (pv 1)) (pe_lst (pa_cons pe_str pa_nil))) (pv 0)) (pe_lst (pa_cons pe_str pa_nil))) (pv 2)) (pe_lst (pa_cons pe_str pa_nil))))
      (pss_one (ps_ret (pe_tup (pa_cons (pv 3) (pa_cons pe_int pa_nil)))))))), ?_⟩
  obtain ⟨a, b, c, B, X, Y, rfl, ha, hb, hc, lB, lX, lY, okB, okX, okY, q⟩ := h
  have hH := Has.start H
  refine g_start (σ' := [some (.ref a), some (.ref b), some (.ref c), none]) rfl ?_
  unfold dec at q
  walk_at "gg"
  refine g_eqD (Dq.strs hb) (Dq.strs hc) ((Sh.strs (n := 0) okX).ok (by decide)) ((Sh.strs (n := 0) okY).ok (by decide)) ?_
  rw [eqv_strs]
  walk_at "gg"
  refine i_d (fun e1 => ?_) (fun e1 => ?_)
  · rw [if_pos e1] at q
    walk_at "gg"
    refine g_ktup (by walk_at "sz") hH (fun p H1 n1 h1 => ?_)
    exact q p b H1 h1.same (h1.get (List.Mem.head _)) (h1.same _ _ hb)
  rw [if_neg e1] at q
  walk_at "gg"
  refine g_eqD (Dq.strs hc) (Dq.strs ha) ((Sh.strs (n := 0) okY).ok (by decide)) ((Sh.strs (n := 0) okB).ok (by decide)) ?_
  rw [eqv_strs]
  walk_at "gg"
  refine i_d (fun e2 => ?_) (fun e2 => ?_)
  · rw [if_pos e2] at q
    walk_at "gg"
    refine g_ktup (by walk_at "sz") hH (fun p H1 n1 h1 => ?_)
    exact q p b H1 h1.same (h1.get (List.Mem.head _)) (h1.same _ _ hb)
  rw [if_neg e2] at q
  walk_at "gg"
  refine g_eqD (Dq.strs hb) (Dq.strs ha) ((Sh.strs (n := 0) okX).ok (by decide)) ((Sh.strs (n := 0) okB).ok (by decide)) ?_
  rw [eqv_strs]
  walk_at "gg"
  refine i_d (fun e3 => ?_) (fun e3 => ?_)
  · rw [if_pos e3] at q
    walk_at "gg"
    refine g_ktup (by walk_at "sz") hH (fun p H1 n1 h1 => ?_)
    exact q p c H1 h1.same (h1.get (List.Mem.head _)) (h1.same _ _ hc)
  rw [if_neg e3] at q
  walk_at "gg"
  refine g_klst (by walk_at "sz") hH (fun k1 H1 n1 h1 => ?_)
  walk_at "gg"
  refine g_addL (h1.get (List.Mem.head _)) (h1.same _ _ hb) (by walk_at "sz") h1 (fun s1 H2 n2 h2 => ?_)
  walk_at "gg"
  refine g_klst (by walk_at "sz") h2 (fun k2 H3 n3 h3 => ?_)
  refine g_addL (h3.get (by walk_at "m")) (h3.get (List.Mem.head _)) (by walk_at "sz") h3 (fun s2 H4 n4 h4 => ?_)
  walk_at "gg"
  refine g_addL (h4.get (List.Mem.head _)) (h4.same _ _ ha) (by walk_at "sz") h4 (fun s3 H5 n5 h5 => ?_)
  walk_at "gg"
  refine g_klst (by walk_at "sz") h5 (fun k3 H6 n6 h6 => ?_)
  refine g_addL (h6.get (by walk_at "m")) (h6.get (List.Mem.head _)) (by walk_at "sz") h6 (fun s4 H7 n7 h7 => ?_)
  walk_at "gg"
  refine g_addL (h7.get (List.Mem.head _)) (h7.same _ _ hc) (by walk_at "sz") h7 (fun s5 H8 n8 h8 => ?_)
  walk_at "gg"
  refine g_klst (by walk_at "sz") h8 (fun k4 H9 n9 h9 => ?_)
  refine g_addL (h9.get (by walk_at "m")) (h9.get (List.Mem.head _)) (by walk_at "sz") h9 (fun s6 H10 n10 h10 => ?_)
  walk_at "gg"
  refine g_ktup (by walk_at "sz") h10 (fun p H11 n11 h11 => ?_)
  refine q p s6 H11 h11.same (h11.get (List.Mem.head _)) ?_
  rw [h11.get (.tail _ (List.Mem.head _))]
  congr 2
  unfold clash
  simp only [List.map_cons, List.map_append, List.map_nil, List.append_assoc, List.cons_append, List.nil_append]
end

end K09

namespace K09
open PySem PySem.Spec PyProof.Rows L2 Qk
local macro_rules | `(tactic| walk_at "m") => `(tactic| ((repeat (first | exact List.Mem.head _ | apply List.Mem.tail)); done))
local macro_rules | `(tactic| walk_at "h") => `(tactic| first | assumption | exact Has.gF (by assumption) (by assumption) | exact Has.get (by assumption) (by walk_at "m"))
local macro_rules | `(tactic| walk_at "c") => `(tactic| ((repeat (first | exact Chg.hd | apply Chg.tl)); done))
local macro_rules | `(tactic| walk_at "is") => `(tactic| first
  | ((with_reducible refine' is2_non ?gh ?_); (case gh => walk_at "h"))
  | (with_reducible refine is_int_list ?_)
  | (with_reducible refine is_int_tuple ?_)
  | (with_reducible refine is_int_dict ?_)
  | (with_reducible refine is_int_int ?_)
  | (with_reducible refine is_int_bool ?_)
  | (with_reducible refine is_int_str ?_)
  | ((with_reducible refine' is2_int ?gh ?_); (case gh => walk_at "h"))
  | (with_reducible refine is_str_list ?_)
  | (with_reducible refine is_str_tuple ?_)
  | (with_reducible refine is_str_dict ?_)
  | (with_reducible refine is_str_int ?_)
  | (with_reducible refine is_str_bool ?_)
  | (with_reducible refine is_str_str ?_)
  | ((with_reducible refine' is2_str ?gh ?_); (case gh => walk_at "h"))
  | (with_reducible refine is_bool_list ?_)
  | (with_reducible refine is_bool_tuple ?_)
  | (with_reducible refine is_bool_dict ?_)
  | (with_reducible refine is_bool_int ?_)
  | (with_reducible refine is_bool_bool ?_)
  | (with_reducible refine is_bool_str ?_)
  | ((with_reducible refine' is2_bool ?gh ?_); (case gh => walk_at "h"))
  | ((with_reducible refine' is_list_list ?gh ?_); (case gh => walk_at "h"))
  | ((with_reducible refine' is_list_tuple ?gh ?_); (case gh => walk_at "h"))
  | ((with_reducible refine' is_list_dict ?gh ?_); (case gh => walk_at "h"))
  | ((with_reducible refine' is_list_int ?gh ?_); (case gh => walk_at "h"))
  | ((with_reducible refine' is_list_bool ?gh ?_); (case gh => walk_at "h"))
  | ((with_reducible refine' is_list_str ?gh ?_); (case gh => walk_at "h"))
  | ((with_reducible refine' is2_list ?ga ?gb ?_); (case ga => walk_at "h"); (case gb => walk_at "h"))
  | ((with_reducible refine' is_tuple_list ?gh ?_); (case gh => walk_at "h"))
  | ((with_reducible refine' is_tuple_tuple ?gh ?_); (case gh => walk_at "h"))
  | ((with_reducible refine' is_tuple_dict ?gh ?_); (case gh => walk_at "h"))
  | ((with_reducible refine' is_tuple_int ?gh ?_); (case gh => walk_at "h"))
  | ((with_reducible refine' is_tuple_bool ?gh ?_); (case gh => walk_at "h"))
  | ((with_reducible refine' is_tuple_str ?gh ?_); (case gh => walk_at "h"))
  | ((with_reducible refine' is2_tuple ?ga ?gb ?_); (case ga => walk_at "h"); (case gb => walk_at "h"))
  | ((with_reducible refine' is_dict_list ?gh ?_); (case gh => walk_at "h"))
  | ((with_reducible refine' is_dict_tuple ?gh ?_); (case gh => walk_at "h"))
  | ((with_reducible refine' is_dict_dict ?gh ?_); (case gh => walk_at "h"))
  | ((with_reducible refine' is_dict_int ?gh ?_); (case gh => walk_at "h"))
  | ((with_reducible refine' is_dict_bool ?gh ?_); (case gh => walk_at "h"))
  | ((with_reducible refine' is_dict_str ?gh ?_); (case gh => walk_at "h"))
  | ((with_reducible refine' is2_dict ?ga ?gb ?_); (case ga => walk_at "h"); (case gb => walk_at "h")))
local macro_rules | `(tactic| walk_at "g") => `(tactic| first
  | (with_reducible refine g_seq ?_)
  | (with_reducible refine g_asg ?_)
  | ((with_reducible refine g_name ?_); dsimp only [List.set, wipe, List.map])
  | ((with_reducible refine' g_var ?gv ?_); (case gv => exact rfl))
  | (with_reducible refine g_c ?_)
  | (with_reducible refine g_op ?_)
  | (with_reducible refine g_cons ?_)
  | (with_reducible refine g_nil ?_)
  | (with_reducible refine g_cb ?_)
  | (with_reducible refine g_call ?_)
  | (with_reducible refine g_tup ?_)
  | (with_reducible refine g_lst ?_)
  | (with_reducible refine g_bm ?_)
  | (with_reducible refine g_bm0 ?_)
  | ((with_reducible refine' g_kbm ?gh ?_); (case gh => walk_at "h"))
  | (with_reducible refine g_drop ?_)
  | (with_reducible refine g_ret ?_)
  | (with_reducible refine g_retN ?_)
  | (with_reducible refine g_next ?_)
  | (with_reducible refine g_brk ?_)
  | (with_reducible refine g_cont ?_)
  | (with_reducible refine g_if ?_)
  | ((with_reducible refine' g_aug ?gv ?_); (case gv => exact rfl))
  | (with_reducible refine g_ipI ?_)
  | (with_reducible refine g_test ?_)
  | (with_reducible refine g_tB ?_)
  | (with_reducible refine g_kB ?_)
  | (with_reducible refine g_not ?_)
  | (with_reducible refine g_and ?_)
  | (with_reducible refine g_or ?_)
  | (with_reducible refine g_andV ?_)
  | (with_reducible refine g_orV ?_)
  | (with_reducible refine g_notV ?_)
  | (with_reducible refine g_ifE ?_)
  | (with_reducible refine g_addI ?_)
  | (with_reducible refine g_rI0 ?_)
  | (with_reducible refine g_eqI ?_)
  | (with_reducible refine g_eqS ?_)
  | (with_reducible refine g_neI ?_)
  | (with_reducible refine g_neS ?_)
  | (with_reducible refine g_isN ?_)
  | (with_reducible refine g_notN ?_)
  | (with_reducible refine g_int ?_)
  | (with_reducible refine g_max2 ?_)
  | (with_reducible refine g_min2 ?_)
  | ((with_reducible refine' g_lenL ?gh ?_); (case gh => walk_at "h"))
  | (with_reducible refine g_sub ?_)
  | (with_reducible refine g_gcons ?_)
  | (with_reducible refine g_gnil ?_)
  | (with_reducible refine g_un ?_)
  | (with_reducible refine g_rU ?_)
  | (with_reducible refine g_forL ?_)
  | (with_reducible refine g_forS ?_)
  | (with_reducible refine g_forR1 ?_)
  | (with_reducible refine g_forR2 ?_)
  | (with_reducible refine g_forR3 ?_)
  | (with_reducible refine g_lcL ?_)
  | (with_reducible refine g_lcR1 ?_)
  | (with_reducible refine g_lcR2 ?_)
  | (with_reducible refine g_slice ?_)
  | (with_reducible refine g_part ?_)
  | (with_reducible refine g_kOI ?_)
  | (with_reducible refine g_nopart ?_)
  | (with_reducible refine g_yes ?_)
  | ((with_reducible refine' g_wipe ?gv ?_); (case gv => exact rfl))
  | (with_reducible refine iteT ?_)
  | (with_reducible refine iteF ?_)
  | (with_reducible refine i_nf ?_)
  | (with_reducible refine i_nt ?_)
  | ((with_reducible refine' g_gtup ?gh ?gl ?_); (case gh => walk_at "h"); (case gl => exact rfl))
  | ((with_reducible refine' g_notinI ?gh ?_); (case gh => walk_at "h"))
  | ((with_reducible refine' g_inI ?gh ?_); (case gh => walk_at "h"))
  | ((with_reducible refine' g_kget2 ?gh ?_); (case gh => walk_at "h"))
  | ((with_reducible refine' g_kgotI ?gh ?_); (case gh => walk_at "h"))
  | (with_reducible refine g_tRev ?_)
  | (with_reducible refine g_neB ?_)
  | (with_reducible refine g_eqB ?_)
  | ((with_reducible refine' g_lenT ?gh ?_); (case gh => walk_at "h"))
  | (with_reducible refine g_star ?_)
  | ((with_reducible refine' g_kstarL ?gh ?_); (case gh => walk_at "h"))
  | ((with_reducible refine' g_kstarT ?gh ?_); (case gh => walk_at "h"))
  | (with_reducible refine g_tru ?_)
  | ((with_reducible refine' g_truL ?gh ?_); (case gh => walk_at "h"))
  | (with_reducible refine g_get2 ?_)
  | (with_reducible refine g_try ?_)
  | (with_reducible refine g_fld ?_)
  | (with_reducible refine g_sfld ?_)
  | (with_reducible refine g_meth ?_)
  | (with_reducible refine g_make ?_)
  | (with_reducible refine g_del ?_)
  | (with_reducible refine g_callS ?_)
  | (with_reducible refine g_raise ?_)
  | (with_reducible refine g_xf ?_)
  | (with_reducible refine g_m0 ?_)
  | (with_reducible refine g_km0 ?_)
  | walk_at "is")
local macro_rules | `(tactic| walk_at "gg") => `(tactic| repeat walk_at "g")
local macro_rules | `(tactic| walk_at "sz") => `(tactic| (refine sz ?_; simp only [List.length_cons, List.length_nil, List.length_map, List.length_append, List.length_replicate]; omega))
local macro_rules | `(tactic| walk_at "sub") => `(tactic| ((repeat (first | exact List.Sublist.slnil | with_reducible apply List.Sublist.cons_cons | with_reducible apply List.Sublist.cons)); done))

/-! ### texts and trees merged: what is due -/
theorem dec_few (b x y : List Str) : (dec b x y).1.length ≤ 3 * (b.length + x.length + y.length) := by
  unfold dec
  by_cases e1 : x = y
  · rw [if_pos e1]
    show x.length ≤ _
    omega
  rw [if_neg e1]
  by_cases e2 : y = b
  · rw [if_pos e2]
    show x.length ≤ _
    omega
  rw [if_neg e2]
  by_cases e3 : x = b
  · rw [if_pos e3]
    show y.length ≤ _
    omega
  rw [if_neg e3]
  have two : 2 ≤ b.length + x.length + y.length := by
    refine Decidable.byContradiction fun c => ?_
    have z : ∀ l : List Str, l.length = 0 → l = [] := fun l h => List.length_eq_zero_iff.mp h
    by_cases h1 : x.length = 0
    · by_cases h2 : y.length = 0
      · exact e1 (by rw [z x h1, z y h2])
      · exact e3 (by rw [z x h1, z b (by omega)])
    · exact e2 (by rw [z y (by omega), z b (by omega)])
  show (clash b x y).length ≤ _
  unfold clash
  simp only [List.length_cons, List.length_append, List.length_nil]
  omega
theorem side_ch (c : Ch) : side 1 c = chB c ∧ side 2 c = chX c ∧ side 3 c = chY c := by cases c <;> exact ⟨rfl, rfl, rfl⟩
theorem mrgL_few : ∀ cs : List Ch, (mrgL cs).length ≤ 3 * ((joined 1 cs).length + (joined 2 cs).length + (joined 3 cs).length)
  | [] => Nat.zero_le _
  | c :: cs => by
    have ih := mrgL_few cs
    have h := dec_few (chB c) (chX c) (chY c)
    obtain ⟨e1, e2, e3⟩ := side_ch c
    unfold mrgL joined at *
    rw [List.flatMap_cons, List.flatMap_cons, List.flatMap_cons, List.flatMap_cons, List.length_append, List.length_append, List.length_append, List.length_append, e1, e2, e3]
    have h : (decC c).1.length ≤ 3 * ((chB c).length + (chX c).length + (chY c).length) := h
    omega
theorem mrg_few (B X Y : List Str) : (mrgL (tch B X Y)).length ≤ 3 * (B.length + X.length + Y.length) := by
  have := mrgL_few (tch B X Y)
  rw [tch_joined, tch_joined, tch_joined] at this
  exact this
/-- the text merged at one path, and its number of clashes -/
def mp (b x y : Option Tx) : Option Tx × Option Nat := if x = y then (x, none) else if y = b then (x, none) else if x = b then (y, none) else match x, y with
  | none, _ => (y, some 0)
  | some _, none => (x, some 0)
  | some X, some Y => (some (mrgL (tch (b.getD []) X Y)), if mrgN (tch (b.getD []) X Y) = 0 then none else some (mrgN (tch (b.getD []) X Y)))
def nV : Option Nat → V
  | none => .non
  | some n => .int (n : Int)
def clD (c : Str × Nat) : PyData := .tuple [.str c.1, .int (c.2 : Int)]
def MT (A X Y : Tre) (z : Str) : Option Tx × Option Nat := mp (getT A z) (getT X z) (getT Y z)
theorem MT_none {A X Y : Tre} {z : Str} (h : ∀ C ∈ [A, X, Y], z ∉ C.map (·.1)) : MT A X Y z = (none, none) := by
  unfold MT
  rw [getT_none.mpr (h A (by simp)), getT_none.mpr (h X (by simp)), getT_none.mpr (h Y (by simp))]
  unfold mp
  rw [if_pos rfl]
theorem nd_le : ∀ {xs ys : List Str}, xs.Nodup → (∀ z ∈ xs, z ∈ ys) → xs.length ≤ ys.length
  | [], _, _, _ => Nat.zero_le _
  | x :: xs, ys, n, h => by
    have n' := List.nodup_cons.mp n
    have hx := h x List.mem_cons_self
    have := nd_le (xs := xs) (ys := ys.erase x) n'.2 fun z hz => (List.mem_erase_of_ne (fun e => n'.1 (by rw [← e]; exact hz))).mpr (h z (List.mem_cons_of_mem _ hz))
    rw [List.length_erase_of_mem hx] at this
    have := List.length_pos_of_mem hx
    rw [List.length_cons]
    omega
/-- lists of pairs with ascending first parts -/
theorem asc_ext {α : Type} {A B : List (Str × α)} (ha : Asc (A.map (·.1))) (hb : Asc (B.map (·.1))) (h : ∀ z t, (z, t) ∈ A ↔ (z, t) ∈ B) : A = B := by
  have hk : ∀ z, z ∈ A.map (·.1) ↔ z ∈ B.map (·.1) := fun z => by
    rw [List.mem_map, List.mem_map]
    constructor
    · rintro ⟨p, hp, rfl⟩
      exact ⟨p, (h p.1 p.2).mp hp, rfl⟩
    · rintro ⟨p, hp, rfl⟩
      exact ⟨p, (h p.1 p.2).mpr hp, rfl⟩
  have ek := Asc.ext ha hb hk
  refine List.ext_getElem? fun i => ?_
  cases ea : A[i]? with
  | none =>
    have l : A.length = B.length := by
      have := congrArg List.length ek
      rw [List.length_map, List.length_map] at this
      exact this
    rw [List.getElem?_eq_none_iff] at ea
    rw [List.getElem?_eq_none (by omega)]
  | some p =>
    have ek' : (A.map (·.1))[i]? = (B.map (·.1))[i]? := by rw [ek]
    rw [List.getElem?_map, List.getElem?_map, ea] at ek'
    obtain ⟨r, er, e2⟩ := Option.map_eq_some_iff.mp ek'.symm
    have m2 := (h p.1 p.2).mp (List.mem_of_getElem? ea)
    obtain ⟨j, hj⟩ := List.mem_iff_getElem?.mp m2
    have ij : j = i := nd_inj hb.nodup (z := p.1) (by rw [List.getElem?_map, hj]; rfl) (by rw [List.getElem?_map, er]; exact congrArg some e2)
    rw [ij, er] at hj
    rw [er]
    exact hj.symm
/-- what merged trees are -/
structure Mgd (A X Y C : Tre) (cl : List (Str × Nat)) : Prop where
  asc : AscT C
  tx : ∀ z t, (z, t) ∈ C ↔ (MT A X Y z).1 = some t
  casc : Asc (cl.map (·.1))
  cn : ∀ z n, (z, n) ∈ cl ↔ (MT A X Y z).2 = some n
theorem Mgd.uniq {A X Y C C' : Tre} {cl cl' : List (Str × Nat)} (h : Mgd A X Y C cl) (k : Mgd A X Y C' cl') : C = C' ∧ cl = cl' :=
  ⟨asc_ext h.asc k.asc fun z t => (h.tx z t).trans (k.tx z t).symm, asc_ext h.casc k.casc fun z n => (h.cn z n).trans (k.cn z n).symm⟩
/-- a merge due, as it stands -/
def DueAt (H : Hp) (u : Addr) (C : Tre) (cl : List (Str × Nat)) : Prop := ∃ (d l : Addr) (cv : List V), H u = some (.tup [.ref d, .ref l]) ∧ TrAt H d C ∧ H l = some (.lst cv) ∧ DqAll H cv (cl.map clD)
theorem DueAt.up {H H' : Hp} {u : Addr} {C : Tre} {cl : List (Str × Nat)} (h : DueAt H u C cl) (s : Same H H') : DueAt H' u C cl := by
  obtain ⟨d, l, cv, e, t, f, q⟩ := h
  exact ⟨d, l, cv, s _ _ e, t.up s, s _ _ f, q.up s _ _⟩
theorem cl_at {H : Hp} {v : V} {c : Str × Nat} (h : Dq H v (clD c)) : ∃ p, v = .ref p ∧ H p = some (.tup [.str c.1, .int (c.2 : Int)]) := by
  unfold clD at h
  cases h with
  | tup s d =>
    cases d with
    | cons d1 d =>
      cases d with
      | cons d2 d =>
        cases d
        cases d1
        cases d2
        exact ⟨_, rfl, s⟩
theorem DueAt.sm {H : Hp} {u v : Addr} {C : Tre} {cl : List (Str × Nat)} (h : DueAt H u C cl) (k : DueAt H v C cl) (lC : C.length ≤ 1000) (lt : ∀ p ∈ C, p.2.length ≤ 1000) (lc : cl.length ≤ 1000) : Sm H 6 (.ref u) (.ref v) := by
  obtain ⟨d, l, cv, e, t, f, q⟩ := h
  obtain ⟨d', l', cv', e', t', f', q'⟩ := k
  refine .inr (.inr (.inr (.inl ⟨u, v, _, _, rfl, rfl, .inr ⟨e, e'⟩, rfl, by show 2 ≤ _; decide, fun i x y hx hy => ?_⟩)))
  match i, hx, hy with
  | 0, hx, hy =>
    have hx := Option.some.inj hx
    have hy := Option.some.inj hy
    subst hx
    subst hy
    exact Sm.tree (n := 2) t t' lC lt
  | 1, hx, hy =>
    have hx := Option.some.inj hx
    have hy := Option.some.inj hy
    subst hx
    subst hy
    have l1 := q.len
    have l2 := q'.len
    refine .inr (.inr (.inr (.inl ⟨l, l', cv, cv', rfl, rfl, .inl ⟨f, f'⟩, by rw [l1, l2], by rw [l1, List.length_map]; omega, fun j x y hx hy => ?_⟩)))
    obtain ⟨c1, ec1, d1⟩ := q.get hx
    obtain ⟨c2, ec2, d2⟩ := q'.get hy
    have ec : c1 = c2 := Option.some.inj (ec1.symm.trans ec2)
    subst ec
    rw [List.getElem?_map] at ec1
    obtain ⟨c, _, rfl⟩ := Option.map_eq_some_iff.mp ec1
    obtain ⟨p1, rfl, e1⟩ := cl_at d1
    obtain ⟨p2, rfl, e2⟩ := cl_at d2
    refine .inr (.inr (.inr (.inl ⟨p1, p2, _, _, rfl, rfl, .inr ⟨e1, e2⟩, rfl, by show 2 ≤ _; decide, fun i x y hx hy => ?_⟩)))
    match i, hx, hy with
    | 0, hx, hy =>
      have hx := Option.some.inj hx
      have hy := Option.some.inj hy
      subst hx
      subst hy
      exact .inr (.inr (.inl ⟨_, rfl, rfl⟩))
    | 1, hx, hy =>
      have hx := Option.some.inj hx
      have hy := Option.some.inj hy
      subst hx
      subst hy
      exact .inr (.inl ⟨_, rfl, rfl⟩)
    | i + 2, hx, _ => simp at hx
  | i + 2, hx, _ => simp at hx
theorem Fr.up {H H1 H2 : Hp} {v : V} {o : Option Tx} (f : Fr H H1 v o) (s : Same H1 H2) : Fr H H2 v o := by
  rcases f with h | ⟨p, t, e1, e2, n, e3⟩
  · exact .inl h
  · exact .inr ⟨p, t, e1, e2, n, s _ _ e3⟩
theorem Fr.dn {H0 H H1 : Hp} {v : V} {o : Option Tx} (f : Fr H H1 v o) (s : Same H0 H) : Fr H0 H1 v o := by
  rcases f with h | ⟨p, t, e1, e2, n, e3⟩
  · exact .inl h
  · exact .inr ⟨p, t, e1, e2, s.free n, e3⟩

end K09

namespace K09
open PySem PySem.Spec PyProof.Rows L2 Qk
local macro_rules | `(tactic| walk_at "m") => `(tactic| ((repeat (first | exact List.Mem.head _ | apply List.Mem.tail)); done))
local macro_rules | `(tactic| walk_at "h") => `(tactic| first | assumption | exact Has.gF (by assumption) (by assumption) | exact Has.get (by assumption) (by walk_at "m"))
local macro_rules | `(tactic| walk_at "c") => `(tactic| ((repeat (first | exact Chg.hd | apply Chg.tl)); done))
local macro_rules | `(tactic| walk_at "is") => `(tactic| first
  | ((with_reducible refine' is2_non ?gh ?_); (case gh => walk_at "h"))
  | (with_reducible refine is_int_list ?_)
  | (with_reducible refine is_int_tuple ?_)
  | (with_reducible refine is_int_dict ?_)
  | (with_reducible refine is_int_int ?_)
  | (with_reducible refine is_int_bool ?_)
  | (with_reducible refine is_int_str ?_)
  | ((with_reducible refine' is2_int ?gh ?_); (case gh => walk_at "h"))
  | (with_reducible refine is_str_list ?_)
  | (with_reducible refine is_str_tuple ?_)
  | (with_reducible refine is_str_dict ?_)
  | (with_reducible refine is_str_int ?_)
  | (with_reducible refine is_str_bool ?_)
  | (with_reducible refine is_str_str ?_)
  | ((with_reducible refine' is2_str ?gh ?_); (case gh => walk_at "h"))
  | (with_reducible refine is_bool_list ?_)
  | (with_reducible refine is_bool_tuple ?_)
  | (with_reducible refine is_bool_dict ?_)
  | (with_reducible refine is_bool_int ?_)
  | (with_reducible refine is_bool_bool ?_)
  | (with_reducible refine is_bool_str ?_)
  | ((with_reducible refine' is2_bool ?gh ?_); (case gh => walk_at "h"))
  | ((with_reducible refine' is_list_list ?gh ?_); (case gh => walk_at "h"))
  | ((with_reducible refine' is_list_tuple ?gh ?_); (case gh => walk_at "h"))
  | ((with_reducible refine' is_list_dict ?gh ?_); (case gh => walk_at "h"))
  | ((with_reducible refine' is_list_int ?gh ?_); (case gh => walk_at "h"))
  | ((with_reducible refine' is_list_bool ?gh ?_); (case gh => walk_at "h"))
  | ((with_reducible refine' is_list_str ?gh ?_); (case gh => walk_at "h"))
  | ((with_reducible refine' is2_list ?ga ?gb ?_); (case ga => walk_at "h"); (case gb => walk_at "h"))
  | ((with_reducible refine' is_tuple_list ?gh ?_); (case gh => walk_at "h"))
  | ((with_reducible refine' is_tuple_tuple ?gh ?_); (case gh => walk_at "h"))
  | ((with_reducible refine' is_tuple_dict ?gh ?_); (case gh => walk_at "h"))
  | ((with_reducible refine' is_tuple_int ?gh ?_); (case gh => walk_at "h"))
  | ((with_reducible refine' is_tuple_bool ?gh ?_); (case gh => walk_at "h"))
  | ((with_reducible refine' is_tuple_str ?gh ?_); (case gh => walk_at "h"))
  | ((with_reducible refine' is2_tuple ?ga ?gb ?_); (case ga => walk_at "h"); (case gb => walk_at "h"))
  | ((with_reducible refine' is_dict_list ?gh ?_); (case gh => walk_at "h"))
  | ((with_reducible refine' is_dict_tuple ?gh ?_); (case gh => walk_at "h"))
  | ((with_reducible refine' is_dict_dict ?gh ?_); (case gh => walk_at "h"))
  | ((with_reducible refine' is_dict_int ?gh ?_); (case gh => walk_at "h"))
  | ((with_reducible refine' is_dict_bool ?gh ?_); (case gh => walk_at "h"))
  | ((with_reducible refine' is_dict_str ?gh ?_); (case gh => walk_at "h"))
  | ((with_reducible refine' is2_dict ?ga ?gb ?_); (case ga => walk_at "h"); (case gb => walk_at "h")))
local macro_rules | `(tactic| walk_at "g") => `(tactic| first
  | (with_reducible refine g_seq ?_)
  | (with_reducible refine g_asg ?_)
  | ((with_reducible refine g_name ?_); dsimp only [List.set, wipe, List.map])
  | ((with_reducible refine' g_var ?gv ?_); (case gv => exact rfl))
  | (with_reducible refine g_c ?_)
  | (with_reducible refine g_op ?_)
  | (with_reducible refine g_cons ?_)
  | (with_reducible refine g_nil ?_)
  | (with_reducible refine g_cb ?_)
  | (with_reducible refine g_call ?_)
  | (with_reducible refine g_tup ?_)
  | (with_reducible refine g_lst ?_)
  | (with_reducible refine g_bm ?_)
  | (with_reducible refine g_bm0 ?_)
  | ((with_reducible refine' g_kbm ?gh ?_); (case gh => walk_at "h"))
  | (with_reducible refine g_drop ?_)
  | (with_reducible refine g_ret ?_)
  | (with_reducible refine g_retN ?_)
  | (with_reducible refine g_next ?_)
  | (with_reducible refine g_brk ?_)
  | (with_reducible refine g_cont ?_)
  | (with_reducible refine g_if ?_)
  | ((with_reducible refine' g_aug ?gv ?_); (case gv => exact rfl))
  | (with_reducible refine g_ipI ?_)
  | (with_reducible refine g_test ?_)
  | (with_reducible refine g_tB ?_)
  | (with_reducible refine g_kB ?_)
  | (with_reducible refine g_not ?_)
  | (with_reducible refine g_and ?_)
  | (with_reducible refine g_or ?_)
  | (with_reducible refine g_andV ?_)
  | (with_reducible refine g_orV ?_)
  | (with_reducible refine g_notV ?_)
  | (with_reducible refine g_ifE ?_)
  | (with_reducible refine g_addI ?_)
  | (with_reducible refine g_rI0 ?_)
  | (with_reducible refine g_eqI ?_)
  | (with_reducible refine g_eqS ?_)
  | (with_reducible refine g_neI ?_)
  | (with_reducible refine g_neS ?_)
  | (with_reducible refine g_isN ?_)
  | (with_reducible refine g_notN ?_)
  | (with_reducible refine g_int ?_)
  | (with_reducible refine g_max2 ?_)
  | (with_reducible refine g_min2 ?_)
  | ((with_reducible refine' g_lenL ?gh ?_); (case gh => walk_at "h"))
  | (with_reducible refine g_sub ?_)
  | (with_reducible refine g_gcons ?_)
  | (with_reducible refine g_gnil ?_)
  | (with_reducible refine g_un ?_)
  | (with_reducible refine g_rU ?_)
  | (with_reducible refine g_forL ?_)
  | (with_reducible refine g_forS ?_)
  | (with_reducible refine g_forR1 ?_)
  | (with_reducible refine g_forR2 ?_)
  | (with_reducible refine g_forR3 ?_)
  | (with_reducible refine g_lcL ?_)
  | (with_reducible refine g_lcR1 ?_)
  | (with_reducible refine g_lcR2 ?_)
  | (with_reducible refine g_slice ?_)
  | (with_reducible refine g_part ?_)
  | (with_reducible refine g_kOI ?_)
  | (with_reducible refine g_nopart ?_)
  | (with_reducible refine g_yes ?_)
  | ((with_reducible refine' g_wipe ?gv ?_); (case gv => exact rfl))
  | (with_reducible refine iteT ?_)
  | (with_reducible refine iteF ?_)
  | (with_reducible refine i_nf ?_)
  | (with_reducible refine i_nt ?_)
  | ((with_reducible refine' g_gtup ?gh ?gl ?_); (case gh => walk_at "h"); (case gl => exact rfl))
  | ((with_reducible refine' g_notinI ?gh ?_); (case gh => walk_at "h"))
  | ((with_reducible refine' g_inI ?gh ?_); (case gh => walk_at "h"))
  | ((with_reducible refine' g_kget2 ?gh ?_); (case gh => walk_at "h"))
  | ((with_reducible refine' g_kgotI ?gh ?_); (case gh => walk_at "h"))
  | (with_reducible refine g_tRev ?_)
  | (with_reducible refine g_neB ?_)
  | (with_reducible refine g_eqB ?_)
  | ((with_reducible refine' g_lenT ?gh ?_); (case gh => walk_at "h"))
  | (with_reducible refine g_star ?_)
  | ((with_reducible refine' g_kstarL ?gh ?_); (case gh => walk_at "h"))
  | ((with_reducible refine' g_kstarT ?gh ?_); (case gh => walk_at "h"))
  | (with_reducible refine g_tru ?_)
  | ((with_reducible refine' g_truL ?gh ?_); (case gh => walk_at "h"))
  | (with_reducible refine g_get2 ?_)
  | (with_reducible refine g_try ?_)
  | (with_reducible refine g_fld ?_)
  | (with_reducible refine g_sfld ?_)
  | (with_reducible refine g_meth ?_)
  | (with_reducible refine g_make ?_)
  | (with_reducible refine g_del ?_)
  | (with_reducible refine g_callS ?_)
  | (with_reducible refine g_raise ?_)
  | (with_reducible refine g_xf ?_)
  | (with_reducible refine g_m0 ?_)
  | (with_reducible refine g_km0 ?_)
  | walk_at "is")
local macro_rules | `(tactic| walk_at "gg") => `(tactic| repeat walk_at "g")
local macro_rules | `(tactic| walk_at "sz") => `(tactic| (refine sz ?_; simp only [List.length_cons, List.length_nil, List.length_map, List.length_append, List.length_replicate]; omega))
local macro_rules | `(tactic| walk_at "sub") => `(tactic| ((repeat (first | exact List.Sublist.slnil | with_reducible apply List.Sublist.cons_cons | with_reducible apply List.Sublist.cons)); done))

local macro_rules | `(tactic| walk_at "g") => `(tactic| first
  | ((with_reducible refine' g_lenNL ?gh ?_); (case gh => walk_at "h"))
  | ((with_reducible refine' g_lenND ?gh ?_); (case gh => walk_at "h"))
  | ((with_reducible refine' g_lenNT ?gh ?_); (case gh => walk_at "h"))
  | (with_reducible refine g_ltI ?_)
  | (with_reducible refine g_ltS ?_)
  | (with_reducible refine g_lstRg ?_)
  | (with_reducible refine g_forK ?_))

/-! ### trees merged by the program -/
section
variable {P : Program} {w : World} {K : PySem.W.Frag} {mg : Str → Option Value} {base : Heap}
theorem g_eqX {K : PySem.W.Frag} {H : Hp} {Q : VK} {x y : V} {a b : Option Tx} (hx : Dq H x (oxD a)) (hy : Dq H y (oxD b)) (oa : okO a) (ob : okO b) (q : Q (.bl (decide (a = b))) H) : rEqA K x y H Q := by
  refine g_eqD hx hy ((sh_oxD oa).ok (by decide)) ((sh_oxD ob).ok (by decide)) ?_
  rw [eqv_oxD]
  exact q
def sp_copied (K : PySem.W.Frag) : Sp := fun vs H Q _ => ∃ (v : V) (o : Option Tx), vs = [v] ∧ Dq H v (oxD o) ∧ ∀ v' H', Same H H' → Fr H H' v' o → Q v' H'
theorem sp_copied_len {vs H Q E} (h : sp_copied K vs H Q E) : vs.length = 1 := by
  obtain ⟨_, _, rfl, _⟩ := h
  rfl
theorem ok_copied (T : Txt K mg) : FnOk P w K mg base CX0 1 T.f_copied T.fd_copied ["text"] (sp_copied K) := by
  refine T.F_copied.ok sc_copied (fun vs H Q E h => sp_copied_len h) (fun cdv A outer s H vs Q E hr h => ?_)
  refine ⟨_, (pss_cons (ps_if (pt_cmpR op_isNA (pv 0) pe_non (nomark _)) (pss_one (ps_ret pe_non)) pss_nil)
      (pss_one (ps_ret (pe_callTy (cr_listK K) (by rfl) T.m_list (by decide +kernel) (pa_cons (pv 0) pa_nil))))), ?_⟩
  obtain ⟨v, o, rfl, dv, q⟩ := h
  have hH := Has.start H
  refine g_start (σ' := [some (v)]) rfl ?_
  walk_at "gg"
  cases o with
  | none =>
    have e := dv.non_inv
    subst e
    refine i_d (fun _ => ?_) (fun c => (c rfl).elim)
    walk_at "gg"
    exact q .non H (Same.refl _) (.inl ⟨rfl, rfl⟩)
  | some t =>
    obtain ⟨a, rfl, ha⟩ := Dq.of_strs (xs := t) dv
    refine i_d (fun c => by cases c) (fun _ => ?_)
    walk_at "gg"
    refine g_listL ha hH (fun p H1 n1 h1 => ?_)
    exact q (.ref p) H1 h1.same (.inr ⟨p, t, rfl, rfl, n1, h1.get (List.Mem.head _)⟩)
def sp_base_lines (K : PySem.W.Frag) : Sp := fun vs H Q _ => ∃ (v : V) (o : Option Tx), vs = [v] ∧ Dq H v (oxD o) ∧ ∀ l H', Same H H' → H' l = some (.lst ((o.getD []).map V.str)) → Q (.ref l) H'
theorem sp_base_lines_len {vs H Q E} (h : sp_base_lines K vs H Q E) : vs.length = 1 := by
  obtain ⟨_, _, rfl, _⟩ := h
  rfl
theorem ok_base_lines (T : Txt K mg) : FnOk P w K mg base CX0 1 T.f_base_lines T.fd_base_lines ["base"] (sp_base_lines K) := by
  refine T.F_base_lines.ok sc_base_lines (fun vs H Q E h => sp_base_lines_len h) (fun cdv A outer s H vs Q E hr h => ?_)
  refine ⟨_, (pss_cons (ps_if (pt_cmpR op_isNA (pv 0) pe_non (nomark _)) (pss_one (ps_ret (pe_lst pa_nil))) pss_nil)
      (pss_one (ps_ret (pv 0)))), ?_⟩
  obtain ⟨v, o, rfl, dv, q⟩ := h
  have hH := Has.start H
  refine g_start (σ' := [some (v)]) rfl ?_
  walk_at "gg"
  cases o with
  | none =>
    have e := dv.non_inv
    subst e
    refine i_d (fun _ => ?_) (fun c => (c rfl).elim)
    walk_at "gg"
    refine g_klst (by walk_at "sz") hH (fun p H1 n1 h1 => ?_)
    exact q p H1 h1.same (h1.get (List.Mem.head _))
  | some t =>
    obtain ⟨a, rfl, ha⟩ := Dq.of_strs (xs := t) dv
    refine i_d (fun c => by cases c) (fun _ => ?_)
    walk_at "gg"
    exact q a H (Same.refl _) ha
def sp_merged_path (K : PySem.W.Frag) : Sp := fun vs H Q _ => ∃ (bv xv yv : V) (b x y : Option Tx), vs = [bv, xv, yv] ∧ Dq H bv (oxD b) ∧ Dq H xv (oxD x) ∧ Dq H yv (oxD y) ∧ okO b ∧ okO x ∧ okO y ∧ (∀ t, b = some t ∨ x = some t ∨ y = some t → t.length ≤ 40) ∧
  ∀ p v H', Same H H' → H p = none → H' p = some (.tup [v, nV (mp b x y).2]) → Fr H H' v (mp b x y).1 → Q (.ref p) H'
theorem sp_merged_path_len {vs H Q E} (h : sp_merged_path K vs H Q E) : vs.length = 3 := by
  obtain ⟨_, _, _, _, _, _, rfl, _⟩ := h
  rfl
set_option maxHeartbeats 1000000 in
theorem ok_merged_path (T : Txt K mg) : FnOk P w K mg base CX0 7 T.f_merged_path T.fd_merged_path ["base", "ours", "theirs"] (sp_merged_path K) := by
  refine T.F_merged_path.ok sc_merged_path (fun vs H Q E h => sp_merged_path_len h) (fun cdv A outer s H vs Q E hr h => ?_)
  refine ⟨_, (pss_cons (ps_if (pt_cmpR (op_eqK K hr.units) (pv 1) (pv 2) (nomark _)) (pss_one (ps_ret (pe_tup (pa_cons (pe_call (ok_copied T) (hr.mono (by decide)) (by rfl) T.g_copied T.F_copied.kp T.b_copied .nil pass0 (pa_cons (pv 1) pa_nil)) (pa_cons pe_non pa_nil))))) pss_nil)
      (pss_cons (ps_if (pt_cmpR (op_eqK K hr.units) (pv 2) (pv 0) (nomark _)) (pss_one (ps_ret (pe_tup (pa_cons (pe_call (ok_copied T) (hr.mono (by decide)) (by rfl) T.g_copied T.F_copied.kp T.b_copied .nil pass0 (pa_cons (pv 1) pa_nil)) (pa_cons pe_non pa_nil))))) pss_nil)
      (pss_cons (ps_if (pt_cmpR (op_eqK K hr.units) (pv 1) (pv 0) (nomark _)) (pss_one (ps_ret (pe_tup (pa_cons (pe_call (ok_copied T) (hr.mono (by decide)) (by rfl) T.g_copied T.F_copied.kp T.b_copied .nil pass0 (pa_cons (pv 2) pa_nil)) (pa_cons pe_non pa_nil))))) pss_nil)
      (pss_cons (ps_if (pt_cmpR op_isNA (pv 1) pe_non (nomark _)) (pss_one (ps_ret (pe_tup (pa_cons (pe_call (ok_copied T) (hr.mono (by decide)) (by rfl) T.g_copied T.F_copied.kp T.b_copied .nil pass0 (pa_cons (pv 2) pa_nil)) (pa_cons pe_int pa_nil))))) pss_nil)
      (pss_cons (ps_if (pt_cmpR op_isNA (pv 2) pe_non (nomark _)) (pss_one (ps_ret (pe_tup (pa_cons (pe_call (ok_copied T) (hr.mono (by decide)) (by rfl) T.g_copied T.F_copied.kp T.b_copied .nil pass0 (pa_cons (pv 1) pa_nil)) (pa_cons pe_int pa_nil))))) pss_nil)
      (pss_cons (ps_asg (pe_call (ok_merge_texts T) (hr.mono (by decide)) (by rfl) T.g_merge_texts T.F_merge_texts.kp T.b_merge_texts .nil pass0 (pa_cons (pe_call (ok_base_lines T) (hr.mono (by decide)) (by rfl) T.g_base_lines T.F_base_lines.kp T.b_base_lines .nil pass0 (pa_cons (pv 0) pa_nil)) (pa_cons (pv 1) (pa_cons (pv 2) pa_nil)))) (k_gt K (pg_tup (by rfl) (pgs_cons (pg_name (i := 3) sc_merged_path.nd rfl (.inl rfl)) (pgs_cons (pg_name (i := 4) sc_merged_path.nd rfl (.inl rfl)) pgs_nil)))))
      (pss_cons (ps_if (pt_cmpR (op_eqK K hr.units) (pv 4) pe_int (nomark _)) (pss_one (ps_ret (pe_tup (pa_cons (pv 3) (pa_cons pe_non pa_nil))))) pss_nil)
      (pss_one (ps_ret (pe_tup (pa_cons (pv 3) (pa_cons (pv 4) pa_nil)))))))))))), ?_⟩
  obtain ⟨bv, xv, yv, b, x, y, rfl, db, dx, dy, ob, ox, oy, few, q⟩ := h
  have hH := Has.start H
  refine g_start (σ' := [some (bv), some (xv), some (yv), none, none]) rfl ?_
  unfold mp at q
  have fin : ∀ (v : V) (n : Option Nat) (o : Option Tx) (H1 : Hp), Same H H1 → Fr H H1 v o → (∀ p v H', Same H H' → H p = none → H' p = some (.tup [v, nV n]) → Fr H H' v o → Q (.ref p) H') → kTup [v, nV n] H1 Q := fun v n o H1 s1 f1 q => by
    refine g_ktup (by walk_at "sz") (Has.start H1) (fun p H2 n2 h2 => ?_)
    exact q p v H2 (s1.trans h2.same) (s1.free n2) (h2.get (List.Mem.head _)) (Fr.up f1 h2.same)
  walk_at "gg"
  refine g_eqX dx dy ox oy ?_
  walk_at "gg"
  refine i_d (fun e1 => ?_) (fun e1 => ?_)
  · rw [if_pos e1] at q
    walk_at "gg"
    refine ⟨xv, x, rfl, dx, fun v H1 s1 f1 => ?_⟩
    walk_at "gg"
    exact fin v none x H1 s1 f1 q
  rw [if_neg e1] at q
  walk_at "gg"
  refine g_eqX dy db oy ob ?_
  walk_at "gg"
  refine i_d (fun e2 => ?_) (fun e2 => ?_)
  · rw [if_pos e2] at q
    walk_at "gg"
    refine ⟨xv, x, rfl, dx, fun v H1 s1 f1 => ?_⟩
    walk_at "gg"
    exact fin v none x H1 s1 f1 q
  rw [if_neg e2] at q
  walk_at "gg"
  refine g_eqX dx db ox ob ?_
  walk_at "gg"
  refine i_d (fun e3 => ?_) (fun e3 => ?_)
  · rw [if_pos e3] at q
    walk_at "gg"
    refine ⟨yv, y, rfl, dy, fun v H1 s1 f1 => ?_⟩
    walk_at "gg"
    exact fin v none y H1 s1 f1 q
  rw [if_neg e3] at q
  walk_at "gg"
  cases x with
  | none =>
    have e := dx.non_inv
    subst e
    refine i_d (fun _ => ?_) (fun c => (c rfl).elim)
    walk_at "gg"
    refine ⟨yv, y, rfl, dy, fun v H1 s1 f1 => ?_⟩
    walk_at "gg"
    exact fin v (some 0) y H1 s1 f1 q
  | some X =>
    obtain ⟨ax, rfl, hx⟩ := Dq.of_strs (xs := X) dx
    refine i_d (fun c => by cases c) (fun _ => ?_)
    walk_at "gg"
    cases y with
    | none =>
      have e := dy.non_inv
      subst e
      refine i_d (fun _ => ?_) (fun c => (c rfl).elim)
      walk_at "gg"
      refine ⟨.ref ax, some X, rfl, dx, fun v H1 s1 f1 => ?_⟩
      walk_at "gg"
      exact fin v (some 0) (some X) H1 s1 f1 q
    | some Y =>
      obtain ⟨ay, rfl, hy⟩ := Dq.of_strs (xs := Y) dy
      refine i_d (fun c => by cases c) (fun _ => ?_)
      walk_at "gg"
      refine ⟨bv, b, rfl, db, fun l H1 s1 hl => ?_⟩
      have lb : (b.getD []).length ≤ 40 := by
        cases b with
        | none => exact Nat.zero_le _
        | some t => exact few t (.inl rfl)
      have okb : ∀ z ∈ b.getD [], PyData.strOk z = true := by
        cases b with
        | none => intro z hz; cases hz
        | some t => exact ob t rfl
      walk_at "gg"
      refine ⟨l, ax, ay, b.getD [], X, Y, rfl, hl, s1 _ _ hx, s1 _ _ hy, lb, few X (.inr (.inl rfl)), few Y (.inr (.inr rfl)), okb, ox X rfl, oy Y rfl, fun p l2 H2 s2 np nl ne hp hl2 => ?_⟩
      have q : ∀ p v H', Same H H' → H p = none → H' p = some (.tup [v, nV (if mrgN (tch (b.getD []) X Y) = 0 then none else some (mrgN (tch (b.getD []) X Y)))]) → Fr H H' v (some (mrgL (tch (b.getD []) X Y))) → Q (.ref p) H' := q
      generalize mrgN (tch (b.getD []) X Y) = n at q hp
      have f2 : Fr H H2 (.ref l2) (some (mrgL (tch (b.getD []) X Y))) := .inr ⟨l2, _, rfl, rfl, s1.free nl, hl2⟩
      walk_at "gg"
      refine i_d (fun e => ?_) (fun e => ?_)
      · have e : n = 0 := by omega
        rw [if_pos e] at q
        walk_at "gg"
        exact fin (.ref l2) none _ H2 (s1.trans s2) f2 q
      · have e : n ≠ 0 := fun z => e (by rw [z]; rfl)
        rw [if_neg e] at q
        walk_at "gg"
        exact fin (.ref l2) (some n) _ H2 (s1.trans s2) f2 q
/-- trees that a merge may be asked of -/
structure MOk (A X Y : Tre) (ps : List Str) : Prop where
  few : ps.length ≤ 8
  sub : ∀ C ∈ [A, X, Y], ∀ p ∈ C, p.1 ∈ ps
  ln : ∀ C ∈ [A, X, Y], C.length ≤ 8
  ok : ∀ C ∈ [A, X, Y], okTr C
  lt : ∀ C ∈ [A, X, Y], ∀ p ∈ C, p.2.length ≤ 40
  fit : ∀ z t, (MT A X Y z).1 = some t → t.length ≤ 40
def sp_merge_trees (K : PySem.W.Frag) : Sp := fun vs H Q _ => ∃ (b x y : Addr) (A X Y : Tre) (ps : List Str), vs = [.ref b, .ref x, .ref y] ∧ TrAt H b A ∧ TrAt H x X ∧ TrAt H y Y ∧ MOk A X Y ps ∧
  ∀ p d l (B : Bt) (cv : List V) (cl : List (Str × Nat)) F' H', Same H F' → H p = none → F' p = some (.tup [.ref d, .ref l]) → Has F' ((l, .lst cv) :: treeO d B) H' → DqAll F' cv (cl.map clD) → Mgd A X Y (bA B) cl → Q (.ref p) H'
theorem sp_merge_trees_len {vs H Q E} (h : sp_merge_trees K vs H Q E) : vs.length = 3 := by
  obtain ⟨_, _, _, _, _, _, _, rfl, _⟩ := h
  rfl
set_option maxHeartbeats 2000000 in
theorem ok_merge_trees (T : Txt K mg) : FnOk P w K mg base CX0 8 T.f_merge_trees T.fd_merge_trees ["base", "ours", "theirs"] (sp_merge_trees K) := by
  refine T.F_merge_trees.ok sc_merge_trees (fun vs H Q E h => sp_merge_trees_len h) (fun cdv A outer s H vs Q E hr h => ?_)
  refine ⟨_, (pss_cons (k_sc2S P w (ps_setSc2 (i := 3) (own := [("tree", 9), ("path", 6)]) (vs1 := [6]) (g := gName 9) (gb := gName 6) (tt := tYes) (ttb := tYes) rfl sc_merge_trees.nd rfl rfl (sw_trueS rfl rfl rfl (by decide +kernel)) (k_il K (pi_list (pe_lst (pa_cons (pv 0) (pa_cons (pv 1) (pa_cons (pv 2) pa_nil)))))) (blkOk_by (N := n_merge_trees) (sc := defScope s_merge_trees) (by decide +kernel)) (by decide) (fun _ _ _ _ _ => (pg_name (i := 9) sc_merge_trees.nd rfl (.inl rfl))) (fun _ _ _ _ _ => pts_nil) (fun _ _ _ _ _ => (pi_keys (pv 9))) (fun _ _ _ _ _ => (pg_name (i := 6) sc_merge_trees.nd rfl (.inl rfl))) (fun _ _ _ _ _ => pts_nil) (fun _ _ _ _ _ => (pv 6))))
      (pss_cons (ps_set (i := 4) sc_merge_trees.nd rfl (.inl rfl) pe_dnewK)
      (pss_cons (ps_set (i := 5) sc_merge_trees.nd rfl (.inl rfl) (pe_lst pa_nil))
      (pss_cons (ps_for PassesOwn.never rfl (k_il K (pi_list (pe_callB (cr_sortN K P w rfl (cr_sortA K rfl)) (by rfl) T.m_sorted (by decide +kernel) (pa_cons (pv 3) pa_nil)))) (pg_name (i := 6) sc_merge_trees.nd rfl (.inl rfl)) (pss_cons (ps_asg (pe_call (ok_merged_path T) (hr.mono (by decide)) (by rfl) T.g_merged_path T.F_merged_path.kp T.b_merged_path .nil pass0 (pa_cons (pe_dget1 (hu_of hr) (pv 0) (pv 6) ⟨rfl, rfl, rfl, rfl⟩) (pa_cons (pe_dget1 (hu_of hr) (pv 1) (pv 6) ⟨rfl, rfl, rfl, rfl⟩) (pa_cons (pe_dget1 (hu_of hr) (pv 2) (pv 6) ⟨rfl, rfl, rfl, rfl⟩) pa_nil)))) (k_gt K (pg_tup (by rfl) (pgs_cons (pg_name (i := 7) sc_merge_trees.nd rfl (.inl rfl)) (pgs_cons (pg_name (i := 8) sc_merge_trees.nd rfl (.inl rfl)) pgs_nil)))))
      (pss_cons (ps_if (pt_cmpR op_notNA (pv 7) pe_non (nomark _)) (pss_cons (ps_if (pt_cmpR op_gt (pe_callB (cr_lenN K) (by rfl) T.m_len (by decide +kernel) (pa_cons (pv 7) pa_nil)) (pe_gc (v := .int 40) (by rfl) T.k_MERGED_LINES) (nomark _)) (pss_one ps_never) pss_nil)
      (pss_cons (ps_if (pt_cmpR op_ge (pe_callB (cr_lenN K) (by rfl) T.m_len (by decide +kernel) (pa_cons (pv 4) pa_nil)) (pe_gc (v := .int 8) (by rfl) T.k_MERGED_PATHS) (nomark _)) (pss_one ps_never) pss_nil)
      (pss_one (ps_asg (pv 7) (pg_sub (pv 4) (pv 6) (set_any (hu_of hr))))))) pss_nil)
      (pss_one (ps_if (pt_cmpR op_notNA (pv 8) pe_non (nomark _)) (pss_one (ps_expr (k_bm K (pe_bm PySem.F.plainAttrs_list PySem.F.slot_list_append PySem.F.type_list_append mt_append (pv 5) (pa_cons (pe_tup (pa_cons (pv 6) (pa_cons (pv 8) pa_nil))) pa_nil))))) pss_nil)))))
      (pss_one (ps_ret (pe_tup (pa_cons (pv 4) (pa_cons (pv 5) pa_nil))))))))), ?_⟩
  obtain ⟨b, x, y, A, X, Y, ps, rfl, tb, tx, ty, M, q⟩ := h
  have hH := Has.start H
  obtain ⟨kb, hb, ekb, _, dqb⟩ := id tb
  obtain ⟨kx, hx, ekx, _, dqx⟩ := id tx
  obtain ⟨ky, hy, eky, _, dqy⟩ := id ty
  refine g_start (σ' := [some (.ref b), some (.ref x), some (.ref y), none, none, none, none, none, none, none]) rfl ?_
  walk_at "gg"
  refine g_sc2 ?_
  walk_at "gg"
  refine g_klst (by walk_at "sz") hH (fun l0 H1 n1 h1 => ?_)
  have tall : Trs H [b, x, y] [A, X, Y] := .cons tb (.cons tx (.cons ty .nil))
  have e0 : [V.ref b, V.ref x, V.ref y] = [b, x, y].map V.ref := rfl
  rw [e0] at h1
  have sums := tall.sum (m := 8) M.ln
  have sums : sumL (kvOf H) [b, x, y] ≤ 24 := sums
  refine k_keysOf h1 (.inr (List.Mem.head _)) (kvOf H) tall.at_ (by omega) (by exact (by decide : 9 < 10)) (by exact (by decide : 6 < 10)) (by decide) (fun S H2 T n nS hT hn h2 => ?_)
  have h2 := h2.sub (O' := [(S, SetQ P w S T n)]) (List.Sublist.cons_cons _ (List.Sublist.cons _ (List.Sublist.refl _)))
  walk_at "gg"
  refine g_dnewK h2 (fun d H3 n3 h3 => ?_)
  walk_at "gg"
  refine g_klst (by walk_at "sz") h3 (fun lc H3' n3' h3' => ?_)
  walk_at "gg"
  refine g_sortNQ (h3'.get (by walk_at "m")) (by omega) (fun k hk => ?_) h3' (fun us p4 H4 srt nd mu lu n4 h4 => ?_)
  · obtain ⟨z, e, _⟩ := tall.keys.mp ((hT k).mp hk)
    exact ⟨z, e⟩
  have asc := asc_of srt nd
  have mz : ∀ z, z ∈ us ↔ ∃ B ∈ [A, X, Y], z ∈ B.map (·.1) := fun z => by
    rw [mu, hT, tall.keys]
    constructor
    · rintro ⟨z', e, r⟩
      rw [Sum.inr.inj e]
      exact r
    · intro r
      exact ⟨z, rfl, r⟩
  have ups : ∀ z ∈ us, z ∈ ps := fun z hz => by
    obtain ⟨C, hC, m⟩ := (mz z).mp hz
    obtain ⟨p, hp, rfl⟩ := List.mem_map.mp m
    exact M.sub C hC p hp
  have h4 : Has H ((d, .dK (bK [])) :: (bO [] ++ [(lc, .lst []), (p4, .lst (us.map V.str))])) H4 := (h4.sub (O' := [(p4, .lst (us.map V.str)), (lc, .lst []), (d, .dK [])]) (by walk_at "sub")).perm (by
    exact (List.perm_middle (l₁ := [(lc, HO.lst [])]) (a := (p4, HO.lst (us.map V.str))) (l₂ := [])).cons _ |>.trans (List.perm_middle (l₁ := [_, _]) (l₂ := [])).symm)
  walk_at "gg"
  refine k_forL (h4.get (by walk_at "m")) (fun t σ H' => ∃ (F' : Hp) (B : Bt) (cv : List V) (cl : List (Str × Nat)) (y6 y7 y8 : Option V), σ = [some (.ref b), some (.ref x), some (.ref y), some (.ref S), some (.ref d), some (.ref lc), y6, y7, y8, none] ∧ Same H F' ∧ Has F' ((d, .dK (bK B)) :: (bO B ++ [(lc, .lst cv), (p4, .lst (us.map V.str))])) H' ∧ DqAll F' cv (cl.map clD) ∧
    ((bA B).map (·.1)).Sublist (us.take t) ∧ (∀ z s, (z, s) ∈ bA B ↔ z ∈ us.take t ∧ (MT A X Y z).1 = some s) ∧ (cl.map (·.1)).Sublist (us.take t) ∧ (∀ z n, (z, n) ∈ cl ↔ z ∈ us.take t ∧ (MT A X Y z).2 = some n)) ⟨H, [], [], [], _, _, _, rfl, Same.refl _, h4, .nil, List.Sublist.refl _, fun z s => by simp [bA], List.Sublist.refl _, fun z n => by simp⟩ ?_ ?_ ?_
  · rintro t σ H' _ ⟨F', B, cv, cl, y6, y7, y8, rfl, sF, h, _⟩
    exact h.get (List.mem_cons_of_mem _ (List.mem_append_right _ (by walk_at "m")))
  · rintro t xx σ H5 hxx ⟨F', B, cv, cl, y6, y7, y8, rfl, sF, h5, dqc, sB, mB, sC, mC⟩
    rw [List.getElem?_map] at hxx
    obtain ⟨z, hz, rfl⟩ := Option.map_eq_some_iff.mp hxx
    have tl := (List.getElem?_eq_some_iff.mp hz).1
    have tk : us.take (t + 1) = us.take t ++ [z] := by rw [List.take_add_one, hz]; rfl
    have nz : z ∉ us.take t := nd_new nd hz
    have lcl : cl.length ≤ t := by
      have := sC.length_le
      rw [List.length_map, List.length_take] at this
      omega
    have lcv := dqc.len
    rw [List.length_map] at lcv
    have luse := nd_le nd ups
    have lps := M.few
    have lB : B.length ≤ t := by
      have := sB.length_le
      unfold bA at this
      rw [List.length_map, List.length_map, List.length_take] at this
      omega
    have hbF := sF _ _ hb
    have hxF := sF _ _ hx
    have hyF := sF _ _ hy
    walk_at "gg"
    refine g_get1 ?_
    walk_at "gg"
    refine g_kget1 (h5.same _ _ hbF) ?_
    walk_at "gg"
    refine g_kgotS (h5.same _ _ hbF) ?_
    have dbz := (tr_get z ekb dqb).1
    generalize (valV kb (.inr z)).getD .non = bv at dbz
    walk_at "gg"
    refine g_get1 ?_
    walk_at "gg"
    refine g_kget1 (h5.same _ _ hxF) ?_
    walk_at "gg"
    refine g_kgotS (h5.same _ _ hxF) ?_
    have dxz := (tr_get z ekx dqx).1
    generalize (valV kx (.inr z)).getD .non = xv at dxz
    walk_at "gg"
    refine g_get1 ?_
    walk_at "gg"
    refine g_kget1 (h5.same _ _ hyF) ?_
    walk_at "gg"
    refine g_kgotS (h5.same _ _ hyF) ?_
    have dyz := (tr_get z eky dqy).1
    generalize (valV ky (.inr z)).getD .non = yv at dyz
    walk_at "gg"
    have okg : ∀ C ∈ [A, X, Y], okO (getT C z) ∧ ∀ t, getT C z = some t → t.length ≤ 40 := fun C hC =>
      ⟨getT_in okO_none fun p hp => okO_some (M.ok C hC p hp).2, fun t e => M.lt C hC _ (getT_mem e)⟩
    have s5 := sF.trans h5.same
    refine ⟨bv, xv, yv, getT A z, getT X z, getT Y z, rfl, dbz.up s5 _ _, dxz.up s5 _ _, dyz.up s5 _ _, (okg A (by simp)).1, (okg X (by simp)).1, (okg Y (by simp)).1, fun t e => ?_, fun p v H6 s6 np hp f6 => ?_⟩
    · rcases e with e | e | e
      · exact (okg A (by simp)).2 t e
      · exact (okg X (by simp)).2 t e
      · exact (okg Y (by simp)).2 t e
    have eM : mp (getT A z) (getT X z) (getT Y z) = MT A X Y z := rfl
    rw [eM] at hp f6
    walk_at "gg"
    have tail : ∀ (D : Ends) (H7 : Hp) (B2 : Bt), (∀ σ H', (∃ (F' : Hp) (B : Bt) (cv : List V) (cl : List (Str × Nat)) (y6 y7 y8 : Option V), σ = [some (.ref b), some (.ref x), some (.ref y), some (.ref S), some (.ref d), some (.ref lc), y6, y7, y8, none] ∧ Same H F' ∧ Has F' ((d, .dK (bK B)) :: (bO B ++ [(lc, .lst cv), (p4, .lst (us.map V.str))])) H' ∧ DqAll F' cv (cl.map clD) ∧
        ((bA B).map (·.1)).Sublist (us.take (t + 1)) ∧ (∀ z s, (z, s) ∈ bA B ↔ z ∈ us.take (t + 1) ∧ (MT A X Y z).1 = some s) ∧ (cl.map (·.1)).Sublist (us.take (t + 1)) ∧ (∀ z n, (z, n) ∈ cl ↔ z ∈ us.take (t + 1) ∧ (MT A X Y z).2 = some n)) → D.nx σ H') →
        Has F' ((d, .dK (bK B2)) :: (bO B2 ++ [(lc, .lst cv), (p4, .lst (us.map V.str))])) H7 → ((bA B2).map (·.1)).Sublist (us.take (t + 1)) → (∀ z s, (z, s) ∈ bA B2 ↔ z ∈ us.take (t + 1) ∧ (MT A X Y z).1 = some s) →
        tIfS (tTest (tOp rNotN (tVar 8) (tC .non))) (tDrop (tBM K "list" rAppend (tVar 5) (tCons (tTup (tCons (tVar 6) (tCons (tVar 8) tNil))) tNil))) tNext D
          [some (.ref b), some (.ref x), some (.ref y), some (.ref S), some (.ref d), some (.ref lc), some (.str z), some v, some (nV (MT A X Y z).2), none] H7 := fun D H7 B2 key h7 sB2 mB2 => by
      walk_at "gg"
      cases en : (MT A X Y z).2 with
      | none =>
        refine i_n (fun c => (c rfl).elim) (fun _ => ?_)
        walk_at "gg"
        refine key _ _ ⟨F', B2, cv, cl, _, _, _, rfl, sF, h7, dqc, sB2, mB2, sC.trans (by rw [tk]; exact List.sublist_append_left _ _), fun z' n' => ?_⟩
        rw [mC, tk, List.mem_append, List.mem_singleton]
        constructor
        · exact fun h => ⟨.inl h.1, h.2⟩
        · rintro ⟨h | h, h2⟩
          · exact ⟨h, h2⟩
          · subst h
            rw [en] at h2
            cases h2
      | some m =>
        refine i_n (fun _ => ?_) (fun c => by cases c)
        walk_at "gg"
        refine g_kbm (h7.get (List.mem_cons_of_mem _ (List.mem_append_right _ (List.Mem.head _)))) ?_
        walk_at "gg"
        refine g_ktupF (by walk_at "sz") h7 (fun pt H8 F8 n8 s8 f8 h8 => ?_)
        walk_at "gg"
        have c : Chg ((d, HO.dK (bK B2)) :: (bO B2 ++ [(lc, .lst cv), (p4, .lst (us.map V.str))])) lc (.lst cv) (.lst (cv ++ [V.ref pt])) ((d, HO.dK (bK B2)) :: (bO B2 ++ [(lc, .lst (cv ++ [V.ref pt])), (p4, .lst (us.map V.str))])) := .tl (Chg.right .hd)
        refine g_append h8 c (szl (by omega)) (fun H9 h9 => ?_)
        walk_at "gg"
        refine key _ _ ⟨F8, B2, cv ++ [V.ref pt], cl ++ [(z, m)], _, _, _, rfl, sF.trans s8, h9, ?_, sB2, mB2, ?_, fun z' n' => ?_⟩
        · rw [List.map_append]
          exact (dqc.up s8 _ _).snoc (.tup f8 (.cons (.str z) (.cons (.int _) .nil)))
        · rw [List.map_append, tk]
          exact sC.append (List.Sublist.refl _)
        · rw [List.mem_append, mC, tk, List.mem_append, List.mem_singleton, List.mem_singleton]
          constructor
          · rintro (h | h)
            · exact ⟨.inl h.1, h.2⟩
            · injection h with h1 h2
              subst h1
              subst h2
              exact ⟨.inr rfl, en⟩
          · rintro ⟨h | h, h2⟩
            · exact .inl ⟨h, h2⟩
            · subst h
              rw [en] at h2
              injection h2 with h2
              rw [h2]
              exact .inr rfl
    rcases f6 with ⟨rfl, e⟩ | ⟨a, s, rfl, e, na, ha⟩
    · refine i_n (fun c => (c rfl).elim) (fun _ => ?_)
      walk_at "g"
      refine tail _ H6 B (fun _ _ h => h) (h5.on s6) (sB.trans (by rw [tk]; exact List.sublist_append_left _ _)) fun z' s' => ?_
      rw [mB, tk, List.mem_append, List.mem_singleton]
      constructor
      · exact fun h => ⟨.inl h.1, h.2⟩
      · rintro ⟨h | h, h2⟩
        · exact ⟨h, h2⟩
        · subst h
          rw [e] at h2
          cases h2
    · refine i_n (fun _ => ?_) (fun c => by cases c)
      have h6 := h5.made na s6 ha
      have ls := M.fit z s e
      walk_at "gg"
      refine i_d (fun c => ?_) (fun _ => ?_)
      · rw [List.length_map] at c
        omega
      have hd6 := h6.get (List.Mem.tail _ (List.Mem.head _))
      walk_at "gg"
      have nzB : z ∉ B.map (·.1) := fun m => by
        rw [← bA_keys] at m
        exact nz (sB.subset m)
      have lB8 : B.length < ps.length := by
        have ndB : (B.map (·.1) ++ [z]).Nodup := by
          rw [List.nodup_append]
          refine ⟨by rw [← bA_keys]; exact sB.nodup ((List.take_sublist _ _).nodup nd), by simp, fun a ha b hb e => nzB ?_⟩
          rw [← List.mem_singleton.mp hb, ← e]
          exact ha
        have := nd_le ndB (ys := ps) fun z' hz' => by
          rcases List.mem_append.mp hz' with h | h
          · rw [← bA_keys] at h
            exact ups z' (List.mem_of_mem_take (sB.subset h))
          · rw [List.mem_singleton.mp h]
            exact ups z (List.mem_of_getElem? hz)
        rw [List.length_append, List.length_map] at this
        exact this
      refine i_d (fun c => ?_) (fun _ => ?_)
      · have : (bK B).length = B.length := by unfold bK; rw [List.length_map]
        rw [this] at c
        omega
      walk_at "gg"
      refine g_stD (k := .inr z) rfl h6 (.tl .hd) (szl (by unfold bK; rw [List.length_map]; omega)) (fun H8 h8 => ?_)
      rw [putK_new _ (bK_none nzB)] at h8
      walk_at "g"
      refine tail _ H8 (B ++ [(z, a, s)]) (fun _ _ h => h) (Has.bput h8) ?_ fun z' s' => ?_
      · rw [bA_snoc, List.map_append, tk]
        exact sB.append (List.Sublist.refl _)
      · rw [bA_snoc, List.mem_append, mB, tk, List.mem_append, List.mem_singleton, List.mem_singleton]
        constructor
        · rintro (h | h)
          · exact ⟨.inl h.1, h.2⟩
          · injection h with h1 h2
            subst h1
            subst h2
            exact ⟨.inr rfl, e⟩
        · rintro ⟨h | h, h2⟩
          · exact .inl ⟨h, h2⟩
          · subst h
            rw [e] at h2
            injection h2 with h2
            rw [h2]
            exact .inr rfl
  · rintro σ H5 ⟨F', B, cv, cl, y6, y7, y8, rfl, sF, h5, dqc, sB, mB, sC, mC⟩
    rw [List.length_map, List.take_length] at sB mB sC mC
    have out : ∀ z, z ∉ us → MT A X Y z = (none, none) := fun z n => MT_none fun C hC m => n ((mz z).mpr ⟨C, hC, m⟩)
    walk_at "gg"
    refine g_ktupF (by walk_at "sz") h5 (fun p H6 F6 n6 s6 f6 h6 => ?_)
    have h7 : Has F6 ((lc, .lst cv) :: treeO d B) H6 := (h6.sub (O' := (d, .dK (bK B)) :: (bO B ++ [(lc, .lst cv)])) (List.Sublist.cons_cons _ (List.Sublist.append (List.Sublist.refl _) (by walk_at "sub")))).perm (by
      have := List.perm_middle (a := (lc, HO.lst cv)) (l₁ := (d, HO.dK (bK B)) :: bO B) (l₂ := [])
      rw [List.append_nil] at this
      exact this.symm)
    refine q p d lc B cv cl F6 H6 (sF.trans s6) ((sF.trans h5.same).free n6) f6 h7 (dqc.up s6 _ _) ⟨asc.sublist sB, fun z s => ?_, asc.sublist sC, fun z n => ?_⟩
    · rw [mB]
      refine ⟨fun h => h.2, fun h => ⟨?_, h⟩⟩
      refine Classical.byContradiction fun c => ?_
      rw [out z c] at h
      cases h
    · rw [mC]
      refine ⟨fun h => h.2, fun h => ⟨?_, h⟩⟩
      refine Classical.byContradiction fun c => ?_
      rw [out z c] at h
      cases h
end

end K09

namespace K09
open PySem PySem.Spec PyProof.Rows L2 Qk
local macro_rules | `(tactic| walk_at "m") => `(tactic| ((repeat (first | exact List.Mem.head _ | apply List.Mem.tail)); done))
local macro_rules | `(tactic| walk_at "h") => `(tactic| first | assumption | exact Has.gF (by assumption) (by assumption) | exact Has.get (by assumption) (by walk_at "m"))
local macro_rules | `(tactic| walk_at "c") => `(tactic| ((repeat (first | exact Chg.hd | apply Chg.tl)); done))
local macro_rules | `(tactic| walk_at "is") => `(tactic| first
  | ((with_reducible refine' is2_non ?gh ?_); (case gh => walk_at "h"))
  | (with_reducible refine is_int_list ?_)
  | (with_reducible refine is_int_tuple ?_)
  | (with_reducible refine is_int_dict ?_)
  | (with_reducible refine is_int_int ?_)
  | (with_reducible refine is_int_bool ?_)
  | (with_reducible refine is_int_str ?_)
  | ((with_reducible refine' is2_int ?gh ?_); (case gh => walk_at "h"))
  | (with_reducible refine is_str_list ?_)
  | (with_reducible refine is_str_tuple ?_)
  | (with_reducible refine is_str_dict ?_)
  | (with_reducible refine is_str_int ?_)
  | (with_reducible refine is_str_bool ?_)
  | (with_reducible refine is_str_str ?_)
  | ((with_reducible refine' is2_str ?gh ?_); (case gh => walk_at "h"))
  | (with_reducible refine is_bool_list ?_)
  | (with_reducible refine is_bool_tuple ?_)
  | (with_reducible refine is_bool_dict ?_)
  | (with_reducible refine is_bool_int ?_)
  | (with_reducible refine is_bool_bool ?_)
  | (with_reducible refine is_bool_str ?_)
  | ((with_reducible refine' is2_bool ?gh ?_); (case gh => walk_at "h"))
  | ((with_reducible refine' is_list_list ?gh ?_); (case gh => walk_at "h"))
  | ((with_reducible refine' is_list_tuple ?gh ?_); (case gh => walk_at "h"))
  | ((with_reducible refine' is_list_dict ?gh ?_); (case gh => walk_at "h"))
  | ((with_reducible refine' is_list_int ?gh ?_); (case gh => walk_at "h"))
  | ((with_reducible refine' is_list_bool ?gh ?_); (case gh => walk_at "h"))
  | ((with_reducible refine' is_list_str ?gh ?_); (case gh => walk_at "h"))
  | ((with_reducible refine' is2_list ?ga ?gb ?_); (case ga => walk_at "h"); (case gb => walk_at "h"))
  | ((with_reducible refine' is_tuple_list ?gh ?_); (case gh => walk_at "h"))
  | ((with_reducible refine' is_tuple_tuple ?gh ?_); (case gh => walk_at "h"))
  | ((with_reducible refine' is_tuple_dict ?gh ?_); (case gh => walk_at "h"))
  | ((with_reducible refine' is_tuple_int ?gh ?_); (case gh => walk_at "h"))
  | ((with_reducible refine' is_tuple_bool ?gh ?_); (case gh => walk_at "h"))
  | ((with_reducible refine' is_tuple_str ?gh ?_); (case gh => walk_at "h"))
  | ((with_reducible refine' is2_tuple ?ga ?gb ?_); (case ga => walk_at "h"); (case gb => walk_at "h"))
  | ((with_reducible refine' is_dict_list ?gh ?_); (case gh => walk_at "h"))
  | ((with_reducible refine' is_dict_tuple ?gh ?_); (case gh => walk_at "h"))
  | ((with_reducible refine' is_dict_dict ?gh ?_); (case gh => walk_at "h"))
  | ((with_reducible refine' is_dict_int ?gh ?_); (case gh => walk_at "h"))
  | ((with_reducible refine' is_dict_bool ?gh ?_); (case gh => walk_at "h"))
  | ((with_reducible refine' is_dict_str ?gh ?_); (case gh => walk_at "h"))
  | ((with_reducible refine' is2_dict ?ga ?gb ?_); (case ga => walk_at "h"); (case gb => walk_at "h")))
local macro_rules | `(tactic| walk_at "g") => `(tactic| first
  | (with_reducible refine g_seq ?_)
  | (with_reducible refine g_asg ?_)
  | ((with_reducible refine g_name ?_); dsimp only [List.set, wipe, List.map])
  | ((with_reducible refine' g_var ?gv ?_); (case gv => exact rfl))
  | (with_reducible refine g_c ?_)
  | (with_reducible refine g_op ?_)
  | (with_reducible refine g_cons ?_)
  | (with_reducible refine g_nil ?_)
  | (with_reducible refine g_cb ?_)
  | (with_reducible refine g_call ?_)
  | (with_reducible refine g_tup ?_)
  | (with_reducible refine g_lst ?_)
  | (with_reducible refine g_bm ?_)
  | (with_reducible refine g_bm0 ?_)
  | ((with_reducible refine' g_kbm ?gh ?_); (case gh => walk_at "h"))
  | (with_reducible refine g_drop ?_)
  | (with_reducible refine g_ret ?_)
  | (with_reducible refine g_retN ?_)
  | (with_reducible refine g_next ?_)
  | (with_reducible refine g_brk ?_)
  | (with_reducible refine g_cont ?_)
  | (with_reducible refine g_if ?_)
  | ((with_reducible refine' g_aug ?gv ?_); (case gv => exact rfl))
  | (with_reducible refine g_ipI ?_)
  | (with_reducible refine g_test ?_)
  | (with_reducible refine g_tB ?_)
  | (with_reducible refine g_kB ?_)
  | (with_reducible refine g_not ?_)
  | (with_reducible refine g_and ?_)
  | (with_reducible refine g_or ?_)
  | (with_reducible refine g_andV ?_)
  | (with_reducible refine g_orV ?_)
  | (with_reducible refine g_notV ?_)
  | (with_reducible refine g_ifE ?_)
  | (with_reducible refine g_addI ?_)
  | (with_reducible refine g_rI0 ?_)
  | (with_reducible refine g_eqI ?_)
  | (with_reducible refine g_eqS ?_)
  | (with_reducible refine g_neI ?_)
  | (with_reducible refine g_neS ?_)
  | (with_reducible refine g_isN ?_)
  | (with_reducible refine g_notN ?_)
  | (with_reducible refine g_int ?_)
  | (with_reducible refine g_max2 ?_)
  | (with_reducible refine g_min2 ?_)
  | ((with_reducible refine' g_lenL ?gh ?_); (case gh => walk_at "h"))
  | (with_reducible refine g_sub ?_)
  | (with_reducible refine g_gcons ?_)
  | (with_reducible refine g_gnil ?_)
  | (with_reducible refine g_un ?_)
  | (with_reducible refine g_rU ?_)
  | (with_reducible refine g_forL ?_)
  | (with_reducible refine g_forS ?_)
  | (with_reducible refine g_forR1 ?_)
  | (with_reducible refine g_forR2 ?_)
  | (with_reducible refine g_forR3 ?_)
  | (with_reducible refine g_lcL ?_)
  | (with_reducible refine g_lcR1 ?_)
  | (with_reducible refine g_lcR2 ?_)
  | (with_reducible refine g_slice ?_)
  | (with_reducible refine g_part ?_)
  | (with_reducible refine g_kOI ?_)
  | (with_reducible refine g_nopart ?_)
  | (with_reducible refine g_yes ?_)
  | ((with_reducible refine' g_wipe ?gv ?_); (case gv => exact rfl))
  | (with_reducible refine iteT ?_)
  | (with_reducible refine iteF ?_)
  | (with_reducible refine i_nf ?_)
  | (with_reducible refine i_nt ?_)
  | ((with_reducible refine' g_gtup ?gh ?gl ?_); (case gh => walk_at "h"); (case gl => exact rfl))
  | ((with_reducible refine' g_notinI ?gh ?_); (case gh => walk_at "h"))
  | ((with_reducible refine' g_inI ?gh ?_); (case gh => walk_at "h"))
  | ((with_reducible refine' g_kget2 ?gh ?_); (case gh => walk_at "h"))
  | ((with_reducible refine' g_kgotI ?gh ?_); (case gh => walk_at "h"))
  | (with_reducible refine g_tRev ?_)
  | (with_reducible refine g_neB ?_)
  | (with_reducible refine g_eqB ?_)
  | ((with_reducible refine' g_lenT ?gh ?_); (case gh => walk_at "h"))
  | (with_reducible refine g_star ?_)
  | ((with_reducible refine' g_kstarL ?gh ?_); (case gh => walk_at "h"))
  | ((with_reducible refine' g_kstarT ?gh ?_); (case gh => walk_at "h"))
  | (with_reducible refine g_tru ?_)
  | ((with_reducible refine' g_truL ?gh ?_); (case gh => walk_at "h"))
  | (with_reducible refine g_get2 ?_)
  | (with_reducible refine g_try ?_)
  | (with_reducible refine g_fld ?_)
  | (with_reducible refine g_sfld ?_)
  | (with_reducible refine g_meth ?_)
  | (with_reducible refine g_make ?_)
  | (with_reducible refine g_del ?_)
  | (with_reducible refine g_callS ?_)
  | (with_reducible refine g_raise ?_)
  | (with_reducible refine g_xf ?_)
  | (with_reducible refine g_m0 ?_)
  | (with_reducible refine g_km0 ?_)
  | walk_at "is")
local macro_rules | `(tactic| walk_at "gg") => `(tactic| repeat walk_at "g")
local macro_rules | `(tactic| walk_at "sz") => `(tactic| (refine sz ?_; simp only [List.length_cons, List.length_nil, List.length_map, List.length_append, List.length_replicate]; omega))
local macro_rules | `(tactic| walk_at "sub") => `(tactic| ((repeat (first | exact List.Sublist.slnil | with_reducible apply List.Sublist.cons_cons | with_reducible apply List.Sublist.cons)); done))

/-! ### the menu of texts -/
section
variable {P : Program} {w : World} {K : PySem.W.Frag} {mg : Str → Option Value} {base : Heap}
def textM : List (Option Tx) := [none, some [], some ["a", "b", "c"], some ["x", "a", "b", "c"], some ["a", "b", "c", "y"], some ["a", "x", "c"], some ["a", "c"], some ["b"], some ["a", "y", "c"], some ["a", "b", "", "c"]]
def text (i : Int) : Option Tx := (textM.getD (i % 10).toNat none)
theorem text_ok (i : Int) : okO (text i) ∧ ∀ t, text i = some t → t.length ≤ 4 := by
  have h : ∀ k, k < 10 → ((textM.getD k none).toList.all fun x => x.all fun z => PyData.strOk z) = true ∧ ((textM.getD k none).toList.all fun x => decide (x.length ≤ 4)) = true := by decide +kernel
  have h := h (i % 10).toNat (by omega)
  unfold text
  generalize textM.getD (i % 10).toNat none = o at h
  cases o with
  | none => exact ⟨okO_none, fun t e => by cases e⟩
  | some x =>
    have h1 := List.all_eq_true.mp h.1 x (List.Mem.head _)
    have h2 := List.all_eq_true.mp h.2 x (List.Mem.head _)
    refine ⟨okO_some fun z hz => List.all_eq_true.mp h1 z hz, fun t e => ?_⟩
    injection e with e
    subst e
    exact of_decide_eq_true h2
def sp_l_text (K : PySem.W.Frag) : Sp := fun vs H Q _ => ∃ i : Int, vs = [.int i] ∧ ∀ v H', Same H H' → Fr H H' v (text i) → Q v H'
theorem sp_l_text_len {vs H Q E} (h : sp_l_text K vs H Q E) : vs.length = 1 := by
  obtain ⟨_, rfl, _⟩ := h
  rfl
theorem ok_l_text (T : Txt K mg) : FnOk P w K mg base CX0 1 T.f_l_text T.fd_l_text ["place"] (sp_l_text K) := by
  refine T.F_l_text.ok sc_l_text (fun vs H Q E h => sp_l_text_len h) (fun cdv A outer s H vs Q E hr h => ?_)
  refine ⟨_, (pss_cons (ps_set (i := 1) sc_l_text.nd rfl (.inl rfl) (pe_lst (pa_cons pe_non (pa_cons (pe_lst pa_nil) (pa_cons (pe_lst (pa_cons pe_str (pa_cons pe_str (pa_cons pe_str pa_nil)))) (pa_cons (pe_lst (pa_cons pe_str (pa_cons pe_str (pa_cons pe_str (pa_cons pe_str pa_nil))))) (pa_cons (pe_lst (pa_cons pe_str (pa_cons pe_str (pa_cons pe_str (pa_cons pe_str pa_nil))))) (pa_cons (pe_lst (pa_cons pe_str (pa_cons pe_str (pa_cons pe_str pa_nil)))) pa_nil))))))))
      (pss_cons (ps_set (i := 1) sc_l_text.nd rfl (.inl rfl) (pe_op (op_addK K) (pv 1) (pe_lst (pa_cons (pe_lst (pa_cons pe_str (pa_cons pe_str pa_nil))) (pa_cons (pe_lst (pa_cons pe_str pa_nil)) (pa_cons (pe_lst (pa_cons pe_str (pa_cons pe_str (pa_cons pe_str pa_nil)))) (pa_cons (pe_lst (pa_cons pe_str (pa_cons pe_str (pa_cons pe_str (pa_cons pe_str pa_nil))))) pa_nil)))))))
      (pss_one (ps_ret (pe_ix (ix_K K (hu_of hr)) (pv 1) (pe_op op_mod (pe_callTy cr_int1 (by rfl) T.m_int (by decide +kernel) (pa_cons (pv 0) pa_nil)) pe_int) (fun _ _ => rfl)))))), ?_⟩
  obtain ⟨i, rfl, q⟩ := h
  have h0 := Has.start H
  refine g_start (σ' := [some (.int i), none]) rfl ?_
  walk_at "gg"
  refine g_klst (by walk_at "sz") h0 (fun p1 H1 n1 h1 => ?_)
  walk_at "gg"
  have s1 := h1.same
  refine g_klst (by walk_at "sz") h1 (fun p2 H2 n2 h2 => ?_)
  walk_at "gg"
  have s2 := h2.same
  refine g_klst (by walk_at "sz") h2 (fun p3 H3 n3 h3 => ?_)
  walk_at "gg"
  have s3 := h3.same
  refine g_klst (by walk_at "sz") h3 (fun p4 H4 n4 h4 => ?_)
  walk_at "gg"
  have s4 := h4.same
  refine g_klst (by walk_at "sz") h4 (fun p5 H5 n5 h5 => ?_)
  walk_at "gg"
  have s5 := h5.same
  refine g_klst (by walk_at "sz") h5 (fun t0 H6 n6 h6 => ?_)
  walk_at "gg"
  have s6 := h6.same
  refine g_klst (by walk_at "sz") h6 (fun p6 H7 n7 h7 => ?_)
  walk_at "gg"
  have s7 := h7.same
  refine g_klst (by walk_at "sz") h7 (fun p7 H8 n8 h8 => ?_)
  walk_at "gg"
  have s8 := h8.same
  refine g_klst (by walk_at "sz") h8 (fun p8 H9 n9 h9 => ?_)
  walk_at "gg"
  have s9 := h9.same
  refine g_klst (by walk_at "sz") h9 (fun p9 H10 n10 h10 => ?_)
  walk_at "gg"
  have s10 := h10.same
  refine g_klst (by walk_at "sz") h10 (fun t1 H11 n11 h11 => ?_)
  walk_at "gg"
  have s11 := h11.same
  refine g_addL (h11.get (by walk_at "m")) (h11.get (List.Mem.head _)) (by walk_at "sz") h11 (fun u1 H12 n12 h12 => ?_)
  walk_at "gg"
  refine g_rI (by show (0 : Int) < 10; decide) ?_
  have i0 : (0 : Int) ≤ i % 10 := Int.emod_nonneg _ (by decide)
  have i1 : i % 10 < 10 := Int.emod_lt_of_pos _ (by decide)
  have et : ∀ k : Nat, i % 10 = k → text i = textM.getD k none := fun k e => by
    unfold text
    rw [e]
    rfl
  by_cases e : i % 10 = (0 : Nat)
  · rw [e]
    refine g_ixL (v := .non) (h12.get (List.Mem.head _)) (atI_nat (j := 0) rfl) ?_
    exact q .non H12 h12.same (.inl ⟨rfl, et 0 e⟩)
  by_cases e : i % 10 = (1 : Nat)
  · rw [e]
    refine g_ixL (v := .ref p1) (h12.get (List.Mem.head _)) (atI_nat (j := 1) rfl) ?_
    exact q (.ref p1) H12 h12.same (.inr ⟨p1, _, rfl, et 1 e, n1, h12.get (by walk_at "m")⟩)
  by_cases e : i % 10 = (2 : Nat)
  · rw [e]
    refine g_ixL (v := .ref p2) (h12.get (List.Mem.head _)) (atI_nat (j := 2) rfl) ?_
    exact q (.ref p2) H12 h12.same (.inr ⟨p2, _, rfl, et 2 e, (s1.free n2), h12.get (by walk_at "m")⟩)
  by_cases e : i % 10 = (3 : Nat)
  · rw [e]
    refine g_ixL (v := .ref p3) (h12.get (List.Mem.head _)) (atI_nat (j := 3) rfl) ?_
    exact q (.ref p3) H12 h12.same (.inr ⟨p3, _, rfl, et 3 e, (s2.free n3), h12.get (by walk_at "m")⟩)
  by_cases e : i % 10 = (4 : Nat)
  · rw [e]
    refine g_ixL (v := .ref p4) (h12.get (List.Mem.head _)) (atI_nat (j := 4) rfl) ?_
    exact q (.ref p4) H12 h12.same (.inr ⟨p4, _, rfl, et 4 e, (s3.free n4), h12.get (by walk_at "m")⟩)
  by_cases e : i % 10 = (5 : Nat)
  · rw [e]
    refine g_ixL (v := .ref p5) (h12.get (List.Mem.head _)) (atI_nat (j := 5) rfl) ?_
    exact q (.ref p5) H12 h12.same (.inr ⟨p5, _, rfl, et 5 e, (s4.free n5), h12.get (by walk_at "m")⟩)
  by_cases e : i % 10 = (6 : Nat)
  · rw [e]
    refine g_ixL (v := .ref p6) (h12.get (List.Mem.head _)) (atI_nat (j := 6) rfl) ?_
    exact q (.ref p6) H12 h12.same (.inr ⟨p6, _, rfl, et 6 e, (s6.free n7), h12.get (by walk_at "m")⟩)
  by_cases e : i % 10 = (7 : Nat)
  · rw [e]
    refine g_ixL (v := .ref p7) (h12.get (List.Mem.head _)) (atI_nat (j := 7) rfl) ?_
    exact q (.ref p7) H12 h12.same (.inr ⟨p7, _, rfl, et 7 e, (s7.free n8), h12.get (by walk_at "m")⟩)
  by_cases e : i % 10 = (8 : Nat)
  · rw [e]
    refine g_ixL (v := .ref p8) (h12.get (List.Mem.head _)) (atI_nat (j := 8) rfl) ?_
    exact q (.ref p8) H12 h12.same (.inr ⟨p8, _, rfl, et 8 e, (s8.free n9), h12.get (by walk_at "m")⟩)
  have e : i % 10 = (9 : Nat) := by omega
  rw [e]
  refine g_ixL (v := .ref p9) (h12.get (List.Mem.head _)) (atI_nat (j := 9) rfl) ?_
  exact q (.ref p9) H12 h12.same (.inr ⟨p9, _, rfl, et 9 e, (s9.free n10), h12.get (by walk_at "m")⟩)
end

end K09

namespace K09
open PySem PySem.Spec PyProof.Rows L2 Qk
local macro_rules | `(tactic| walk_at "m") => `(tactic| ((repeat (first | exact List.Mem.head _ | apply List.Mem.tail)); done))
local macro_rules | `(tactic| walk_at "h") => `(tactic| first | assumption | exact Has.gF (by assumption) (by assumption) | exact Has.get (by assumption) (by walk_at "m"))
local macro_rules | `(tactic| walk_at "c") => `(tactic| ((repeat (first | exact Chg.hd | apply Chg.tl)); done))
local macro_rules | `(tactic| walk_at "is") => `(tactic| first
  | ((with_reducible refine' is2_non ?gh ?_); (case gh => walk_at "h"))
  | (with_reducible refine is_int_list ?_)
  | (with_reducible refine is_int_tuple ?_)
  | (with_reducible refine is_int_dict ?_)
  | (with_reducible refine is_int_int ?_)
  | (with_reducible refine is_int_bool ?_)
  | (with_reducible refine is_int_str ?_)
  | ((with_reducible refine' is2_int ?gh ?_); (case gh => walk_at "h"))
  | (with_reducible refine is_str_list ?_)
  | (with_reducible refine is_str_tuple ?_)
  | (with_reducible refine is_str_dict ?_)
  | (with_reducible refine is_str_int ?_)
  | (with_reducible refine is_str_bool ?_)
  | (with_reducible refine is_str_str ?_)
  | ((with_reducible refine' is2_str ?gh ?_); (case gh => walk_at "h"))
  | (with_reducible refine is_bool_list ?_)
  | (with_reducible refine is_bool_tuple ?_)
  | (with_reducible refine is_bool_dict ?_)
  | (with_reducible refine is_bool_int ?_)
  | (with_reducible refine is_bool_bool ?_)
  | (with_reducible refine is_bool_str ?_)
  | ((with_reducible refine' is2_bool ?gh ?_); (case gh => walk_at "h"))
  | ((with_reducible refine' is_list_list ?gh ?_); (case gh => walk_at "h"))
  | ((with_reducible refine' is_list_tuple ?gh ?_); (case gh => walk_at "h"))
  | ((with_reducible refine' is_list_dict ?gh ?_); (case gh => walk_at "h"))
  | ((with_reducible refine' is_list_int ?gh ?_); (case gh => walk_at "h"))
  | ((with_reducible refine' is_list_bool ?gh ?_); (case gh => walk_at "h"))
  | ((with_reducible refine' is_list_str ?gh ?_); (case gh => walk_at "h"))
  | ((with_reducible refine' is2_list ?ga ?gb ?_); (case ga => walk_at "h"); (case gb => walk_at "h"))
  | ((with_reducible refine' is_tuple_list ?gh ?_); (case gh => walk_at "h"))
  | ((with_reducible refine' is_tuple_tuple ?gh ?_); (case gh => walk_at "h"))
  | ((with_reducible refine' is_tuple_dict ?gh ?_); (case gh => walk_at "h"))
  | ((with_reducible refine' is_tuple_int ?gh ?_); (case gh => walk_at "h"))
  | ((with_reducible refine' is_tuple_bool ?gh ?_); (case gh => walk_at "h"))
  | ((with_reducible refine' is_tuple_str ?gh ?_); (case gh => walk_at "h"))
  | ((with_reducible refine' is2_tuple ?ga ?gb ?_); (case ga => walk_at "h"); (case gb => walk_at "h"))
  | ((with_reducible refine' is_dict_list ?gh ?_); (case gh => walk_at "h"))
  | ((with_reducible refine' is_dict_tuple ?gh ?_); (case gh => walk_at "h"))
  | ((with_reducible refine' is_dict_dict ?gh ?_); (case gh => walk_at "h"))
  | ((with_reducible refine' is_dict_int ?gh ?_); (case gh => walk_at "h"))
  | ((with_reducible refine' is_dict_bool ?gh ?_); (case gh => walk_at "h"))
  | ((with_reducible refine' is_dict_str ?gh ?_); (case gh => walk_at "h"))
  | ((with_reducible refine' is2_dict ?ga ?gb ?_); (case ga => walk_at "h"); (case gb => walk_at "h")))
local macro_rules | `(tactic| walk_at "g") => `(tactic| first
  | (with_reducible refine g_seq ?_)
  | (with_reducible refine g_asg ?_)
  | ((with_reducible refine g_name ?_); dsimp only [List.set, wipe, List.map])
  | ((with_reducible refine' g_var ?gv ?_); (case gv => exact rfl))
  | (with_reducible refine g_c ?_)
  | (with_reducible refine g_op ?_)
  | (with_reducible refine g_cons ?_)
  | (with_reducible refine g_nil ?_)
  | (with_reducible refine g_cb ?_)
  | (with_reducible refine g_call ?_)
  | (with_reducible refine g_tup ?_)
  | (with_reducible refine g_lst ?_)
  | (with_reducible refine g_bm ?_)
  | (with_reducible refine g_bm0 ?_)
  | ((with_reducible refine' g_kbm ?gh ?_); (case gh => walk_at "h"))
  | (with_reducible refine g_drop ?_)
  | (with_reducible refine g_ret ?_)
  | (with_reducible refine g_retN ?_)
  | (with_reducible refine g_next ?_)
  | (with_reducible refine g_brk ?_)
  | (with_reducible refine g_cont ?_)
  | (with_reducible refine g_if ?_)
  | ((with_reducible refine' g_aug ?gv ?_); (case gv => exact rfl))
  | (with_reducible refine g_ipI ?_)
  | (with_reducible refine g_test ?_)
  | (with_reducible refine g_tB ?_)
  | (with_reducible refine g_kB ?_)
  | (with_reducible refine g_not ?_)
  | (with_reducible refine g_and ?_)
  | (with_reducible refine g_or ?_)
  | (with_reducible refine g_andV ?_)
  | (with_reducible refine g_orV ?_)
  | (with_reducible refine g_notV ?_)
  | (with_reducible refine g_ifE ?_)
  | (with_reducible refine g_addI ?_)
  | (with_reducible refine g_rI0 ?_)
  | (with_reducible refine g_eqI ?_)
  | (with_reducible refine g_eqS ?_)
  | (with_reducible refine g_neI ?_)
  | (with_reducible refine g_neS ?_)
  | (with_reducible refine g_isN ?_)
  | (with_reducible refine g_notN ?_)
  | (with_reducible refine g_int ?_)
  | (with_reducible refine g_max2 ?_)
  | (with_reducible refine g_min2 ?_)
  | ((with_reducible refine' g_lenL ?gh ?_); (case gh => walk_at "h"))
  | (with_reducible refine g_sub ?_)
  | (with_reducible refine g_gcons ?_)
  | (with_reducible refine g_gnil ?_)
  | (with_reducible refine g_un ?_)
  | (with_reducible refine g_rU ?_)
  | (with_reducible refine g_forL ?_)
  | (with_reducible refine g_forS ?_)
  | (with_reducible refine g_forR1 ?_)
  | (with_reducible refine g_forR2 ?_)
  | (with_reducible refine g_forR3 ?_)
  | (with_reducible refine g_lcL ?_)
  | (with_reducible refine g_lcR1 ?_)
  | (with_reducible refine g_lcR2 ?_)
  | (with_reducible refine g_slice ?_)
  | (with_reducible refine g_part ?_)
  | (with_reducible refine g_kOI ?_)
  | (with_reducible refine g_nopart ?_)
  | (with_reducible refine g_yes ?_)
  | ((with_reducible refine' g_wipe ?gv ?_); (case gv => exact rfl))
  | (with_reducible refine iteT ?_)
  | (with_reducible refine iteF ?_)
  | (with_reducible refine i_nf ?_)
  | (with_reducible refine i_nt ?_)
  | ((with_reducible refine' g_gtup ?gh ?gl ?_); (case gh => walk_at "h"); (case gl => exact rfl))
  | ((with_reducible refine' g_notinI ?gh ?_); (case gh => walk_at "h"))
  | ((with_reducible refine' g_inI ?gh ?_); (case gh => walk_at "h"))
  | ((with_reducible refine' g_kget2 ?gh ?_); (case gh => walk_at "h"))
  | ((with_reducible refine' g_kgotI ?gh ?_); (case gh => walk_at "h"))
  | (with_reducible refine g_tRev ?_)
  | (with_reducible refine g_neB ?_)
  | (with_reducible refine g_eqB ?_)
  | ((with_reducible refine' g_lenT ?gh ?_); (case gh => walk_at "h"))
  | (with_reducible refine g_star ?_)
  | ((with_reducible refine' g_kstarL ?gh ?_); (case gh => walk_at "h"))
  | ((with_reducible refine' g_kstarT ?gh ?_); (case gh => walk_at "h"))
  | (with_reducible refine g_tru ?_)
  | ((with_reducible refine' g_truL ?gh ?_); (case gh => walk_at "h"))
  | (with_reducible refine g_get2 ?_)
  | (with_reducible refine g_try ?_)
  | (with_reducible refine g_fld ?_)
  | (with_reducible refine g_sfld ?_)
  | (with_reducible refine g_meth ?_)
  | (with_reducible refine g_make ?_)
  | (with_reducible refine g_del ?_)
  | (with_reducible refine g_callS ?_)
  | (with_reducible refine g_raise ?_)
  | (with_reducible refine g_xf ?_)
  | (with_reducible refine g_m0 ?_)
  | (with_reducible refine g_km0 ?_)
  | walk_at "is")
local macro_rules | `(tactic| walk_at "gg") => `(tactic| repeat walk_at "g")
local macro_rules | `(tactic| walk_at "sz") => `(tactic| (refine sz ?_; simp only [List.length_cons, List.length_nil, List.length_map, List.length_append, List.length_replicate]; omega))
local macro_rules | `(tactic| walk_at "sub") => `(tactic| ((repeat (first | exact List.Sublist.slnil | with_reducible apply List.Sublist.cons_cons | with_reducible apply List.Sublist.cons)); done))

/-! ### _law_text_merge -/
section
variable {P : Program} {w : World} {K : PySem.W.Frag} {mg : Str → Option Value} {base : Heap}
def sp_l_text_merge (K : PySem.W.Frag) : Sp := fun vs H Q _ => ∃ (a b c : Addr) (B X Y : List Str), vs = [.ref a, .ref b, .ref c] ∧ H a = some (.lst (B.map V.str)) ∧ H b = some (.lst (X.map V.str)) ∧ H c = some (.lst (Y.map V.str)) ∧ B.length ≤ 40 ∧ X.length ≤ 40 ∧ Y.length ≤ 40 ∧ okL B ∧ okL X ∧ okL Y ∧
  ∀ p l H', Same H H' → H p = none → H l = none → H' p = some (.tup [.ref l, .int (mrgN (tch B X Y) : Nat)]) → H' l = some (.lst ((mrgL (tch B X Y)).map V.str)) → Q (.ref p) H'
theorem sp_l_text_merge_len {vs H Q E} (h : sp_l_text_merge K vs H Q E) : vs.length = 3 := by
  obtain ⟨_, _, _, _, _, _, rfl, _⟩ := h
  rfl
theorem tag_same (ls : List Str) : ¬ tag (.same ls) = ("part" : Str) := by
  show ¬ (("same" : Str) = ("part" : Str))
  decide +kernel
theorem ok_l_text_merge (T : Txt K mg) : FnOk P w K mg base CX0 5 T.f_l_text_merge T.fd_l_text_merge ["base", "ours", "theirs"] (sp_l_text_merge K) := by
  refine T.F_l_text_merge.ok sc_l_text_merge (fun vs H Q E h => sp_l_text_merge_len h) (fun cdv A outer s H vs Q E hr h => ?_)
  refine ⟨_, (pss_cons (ps_set (i := 3) sc_l_text_merge.nd rfl (.inl rfl) (pe_lst pa_nil))
      (pss_cons (ps_set (i := 4) sc_l_text_merge.nd rfl (.inl rfl) pe_int)
      (pss_cons (ps_for PassesOwn.never rfl (k_il K (pi_list (pe_call (ok_l_chunks T) (hr.mono (by decide)) (by rfl) T.g_l_chunks T.F_l_chunks.kp T.b_l_chunks .nil pass0 (pa_cons (pv 0) (pa_cons (pv 1) (pa_cons (pv 2) pa_nil)))))) (pg_name (i := 5) sc_l_text_merge.nd rfl (.inl rfl)) (pss_cons (ps_set (i := 6) sc_l_text_merge.nd rfl (.inl rfl) (pe_tup (pa_cons (pe_callTy (cr_listK K) (by rfl) T.m_list (by decide +kernel) (pa_cons (pe_ix (ix_K K (hu_of hr)) (pv 5) pe_int (fun _ _ => rfl)) pa_nil)) (pa_cons pe_int pa_nil))))
      (pss_cons (ps_if (pt_cmpR (op_eqK K hr.units) (pe_ix (ix_K K (hu_of hr)) (pv 5) pe_int (fun _ _ => rfl)) pe_str (nomark _)) (pss_one (ps_set (i := 6) sc_l_text_merge.nd rfl (.inl rfl) (pe_call (ok_l_decided T) (hr.mono (by decide)) (by rfl) T.g_l_decided T.F_l_decided.kp T.b_l_decided .nil pass0 (pa_cons (pe_callTy (cr_listK K) (by rfl) T.m_list (by decide +kernel) (pa_cons (pe_ix (ix_K K (hu_of hr)) (pv 5) pe_int (fun _ _ => rfl)) pa_nil)) (pa_cons (pe_callTy (cr_listK K) (by rfl) T.m_list (by decide +kernel) (pa_cons (pe_ix (ix_K K (hu_of hr)) (pv 5) pe_int (fun _ _ => rfl)) pa_nil)) (pa_cons (pe_callTy (cr_listK K) (by rfl) T.m_list (by decide +kernel) (pa_cons (pe_ix (ix_K K (hu_of hr)) (pv 5) pe_int (fun _ _ => rfl)) pa_nil)) pa_nil)))))) pss_nil)
      (pss_cons (ps_set (i := 3) sc_l_text_merge.nd rfl (.inl rfl) (pe_op (op_addK K) (pv 3) (pe_ix (ix_K K (hu_of hr)) (pv 6) pe_int (fun _ _ => rfl))))
      (pss_one (ps_set (i := 4) sc_l_text_merge.nd rfl (.inl rfl) (pe_op (op_addK K) (pv 4) (pe_ix (ix_K K (hu_of hr)) (pv 6) pe_int (fun _ _ => rfl)))))))))
      (pss_one (ps_ret (pe_tup (pa_cons (pv 3) (pa_cons (pv 4) pa_nil)))))))), ?_⟩
  obtain ⟨a0, b0, c0, B, X, Y, rfl, ha0, hb0, hc0, lB, lX, lY, okB, okX, okY, q⟩ := h
  have hH := Has.start H
  refine g_start (σ' := [some (.ref a0), some (.ref b0), some (.ref c0), none, none, none, none]) rfl ?_
  obtain ⟨hle, hcl⟩ := tch_le B X Y lB lX lY
  have hok := tch_ok okB okX okY
  walk_at "gg"
  refine g_klstF (by walk_at "sz") hH (fun l0 H1 F1 n1 s1 f1 h1 => ?_)
  walk_at "gg"
  refine ⟨a0, b0, c0, B, X, Y, rfl, h1.same _ _ (s1 _ _ ha0), h1.same _ _ (s1 _ _ hb0), h1.same _ _ (s1 _ _ hc0), by omega, by omega, by omega, okB, fun a H2 us s2 na ha1 du => ?_⟩
  have f1 := s2 _ _ (h1.same _ _ f1)
  have s1 := (s1.trans h1.same).trans s2
  have h1 := Has.start H2
  generalize tch B X Y = cs at *
  have hul : us.length = cs.length := by rw [du.len, List.length_map]
  have hlen : ∀ t, (mrgL (cs.take t)).length ≤ 82 * 124 := fun t => by
    refine Nat.le_trans (mrgL_len (k := 40) fun c hc => hle c (List.mem_of_mem_take hc)) ?_
    refine Nat.mul_le_mul_right _ ?_
    rw [List.length_take]
    omega
  refine k_forL (by walk_at "h") (fun t σ H' => ∃ (l : Addr) (F : Hp) (y3 y4 : Option V), σ = [some (.ref a0), some (.ref b0), some (.ref c0), some (.ref l), some (.int (mrgN (cs.take t) : Nat)), y3, y4] ∧ Same H2 F ∧ Has F [] H' ∧ F l = some (.lst ((mrgL (cs.take t)).map V.str)) ∧ H l = none) ⟨l0, H2, _, _, rfl, Same.refl _, h1, f1, n1⟩ ?_ ?_ ?_
  · rintro t σ Hx _ ⟨l, F, _, _, _, sF, h2, _, _⟩
    exact h2.same _ _ (sF _ _ ha1)
  · rintro t x σ Hx hx ⟨l, F, y3, y4, rfl, sF, h2, fl_, nl⟩
    obtain ⟨d, hd, dx⟩ := du.get hx
    rw [List.getElem?_map] at hd
    obtain ⟨m, hm, rfl⟩ := Option.map_eq_some_iff.mp hd
    obtain ⟨T, tb, tx, ty, rfl, hT, eb, ex, ey⟩ := chD_at (dx.up sF _ _)
    obtain ⟨ob, ox, oy⟩ := hok m (List.mem_of_getElem? hm)
    have hml := hle m (List.mem_of_getElem? hm)
    have hdl := decC_len hml
    have lmb : (chB m).length ≤ 40 ∧ (chX m).length ≤ 40 ∧ (chY m).length ≤ 40 := by
      cases m with
      | same ls => exact ⟨hml, hml, hml⟩
      | part b x y => exact hml
    have eL := mrgL_take hm
    have eN := mrgN_take hm
    have hln := hlen t
    walk_at "gg"
    refine g_ixT (v := .ref tb) (by walk_at "h") (atI_nat (j := 1) rfl) ?_
    walk_at "gg"
    refine g_listT (by walk_at "h") h2 (fun lb H3 n3 h3 => ?_)
    have s3 := h3.grow
    have f3 : upd F lb (.lst ((chB m).map V.str)) lb = some (.lst ((chB m).map V.str)) := upd_same
    have h3 := h3.frz
    generalize upd F lb (.lst ((chB m).map V.str)) = F3 at s3 f3 h3
    walk_at "gg"
    refine g_ktupF (by walk_at "sz") h3 (fun td H4 F4 n4 s4 f4 h4 => ?_)
    have s34 := s3.trans s4
    have f3 := s4 _ _ f3
    have hT4 := s34 _ _ hT
    have eb4 := s34 _ _ eb
    have ex4 := s34 _ _ ex
    have ey4 := s34 _ _ ey
    walk_at "g"
    walk_at "g"
    refine g_join (fun σ' H' => ∃ (F' : Hp) (td ld : Addr), σ' = [some (.ref a0), some (.ref b0), some (.ref c0), some (.ref l), some (.int (mrgN (cs.take t) : Nat)), some (.ref T), some (.ref td)] ∧ Same F F' ∧ Has F' [] H' ∧ F' td = some (.tup [.ref ld, .int ((decC m).2 : Nat)]) ∧ F' ld = some (.lst ((decC m).1.map V.str))) ?_ (fun key => ?_)
    · rintro σ' H5 ⟨F', td, ld, rfl, sF', h5, ftd, fld⟩
      have fl' := sF' _ _ fl_
      walk_at "gg"
      refine g_ixT (v := .ref ld) (by walk_at "h") (atI_nat (j := 0) rfl) ?_
      walk_at "gg"
      refine g_addL (h5.same _ _ fl') (h5.same _ _ fld) (sz (by rw [List.length_map, List.length_map]; omega)) h5 (fun l2 H6 n6 h6 => ?_)
      rw [← List.map_append, ← eL] at h6
      walk_at "gg"
      refine g_ixT (v := .int ((decC m).2 : Nat)) (by walk_at "h") (atI_nat (j := 1) rfl) ?_
      walk_at "gg"
      exact ⟨l2, _, _, _, by rw [eN]; rfl, sF.trans (sF'.trans h6.grow), h6.frz, upd_same, ((s1.trans sF).trans (sF'.trans h5.same)).free n6⟩
    · walk_at "gg"
      refine g_ixT (v := .str (tag m)) (by walk_at "h") (atI_nat (j := 0) rfl) ?_
      walk_at "gg"
      refine i_d (fun e => ?_) (fun e => ?_)
      · walk_at "gg"
        refine g_ixT (v := .ref tb) (by walk_at "h") (atI_nat (j := 1) rfl) ?_
        walk_at "gg"
        refine g_listT (by walk_at "h") h4 (fun lb H5 n5 h5 => ?_)
        walk_at "gg"
        refine g_ixT (v := .ref tx) (by walk_at "h") (atI_nat (j := 2) rfl) ?_
        walk_at "gg"
        refine g_listT (by walk_at "h") h5 (fun lx H6 n6 h6 => ?_)
        walk_at "gg"
        refine g_ixT (v := .ref ty) (by walk_at "h") (atI_nat (j := 3) rfl) ?_
        walk_at "gg"
        refine g_listT (by walk_at "h") h6 (fun ly H7 n7 h7 => ?_)
        walk_at "gg"
        refine ⟨lb, lx, ly, chB m, chX m, chY m, rfl, by walk_at "h", by walk_at "h", by walk_at "h", by omega, by omega, by omega, ob, ox, oy, fun p l2 H8 s8 hp hl2 => ?_⟩
        walk_at "g"
        exact key _ _ ⟨H8, p, l2, rfl, (s34.trans h7.same).trans s8, Has.start H8, hp, hl2⟩
      · walk_at "g"
        cases m with
        | part b x y => exact (e rfl).elim
        | same ls =>
          have e0 : decC (.same ls) = (ls, 0) := dec_xx ls ls
          exact key _ _ ⟨F4, td, lb, rfl, s34, h4, by rw [e0]; exact f4, by rw [e0]; exact f3⟩
  · rintro σ Hx ⟨l, F, y3, y4, rfl, sF, h2, fl_, nl⟩
    rw [hul, List.take_length] at fl_
    rw [hul, List.take_length]
    walk_at "gg"
    refine g_ktup (by walk_at "sz") h2 (fun p H3 n3 h3 => ?_)
    exact q p l H3 (s1.trans (sF.trans h3.same)) ((s1.trans (sF.trans h2.same)).free n3) nl (h3.get (List.Mem.head _)) (h3.same _ _ fl_)
end

end K09

namespace K09
open PySem PySem.Spec PyProof.Rows L2 Qk
local macro_rules | `(tactic| walk_at "m") => `(tactic| ((repeat (first | exact List.Mem.head _ | apply List.Mem.tail)); done))
local macro_rules | `(tactic| walk_at "h") => `(tactic| first | assumption | exact Has.gF (by assumption) (by assumption) | exact Has.get (by assumption) (by walk_at "m"))
local macro_rules | `(tactic| walk_at "c") => `(tactic| ((repeat (first | exact Chg.hd | apply Chg.tl)); done))
local macro_rules | `(tactic| walk_at "is") => `(tactic| first
  | ((with_reducible refine' is2_non ?gh ?_); (case gh => walk_at "h"))
  | (with_reducible refine is_int_list ?_)
  | (with_reducible refine is_int_tuple ?_)
  | (with_reducible refine is_int_dict ?_)
  | (with_reducible refine is_int_int ?_)
  | (with_reducible refine is_int_bool ?_)
  | (with_reducible refine is_int_str ?_)
  | ((with_reducible refine' is2_int ?gh ?_); (case gh => walk_at "h"))
  | (with_reducible refine is_str_list ?_)
  | (with_reducible refine is_str_tuple ?_)
  | (with_reducible refine is_str_dict ?_)
  | (with_reducible refine is_str_int ?_)
  | (with_reducible refine is_str_bool ?_)
  | (with_reducible refine is_str_str ?_)
  | ((with_reducible refine' is2_str ?gh ?_); (case gh => walk_at "h"))
  | (with_reducible refine is_bool_list ?_)
  | (with_reducible refine is_bool_tuple ?_)
  | (with_reducible refine is_bool_dict ?_)
  | (with_reducible refine is_bool_int ?_)
  | (with_reducible refine is_bool_bool ?_)
  | (with_reducible refine is_bool_str ?_)
  | ((with_reducible refine' is2_bool ?gh ?_); (case gh => walk_at "h"))
  | ((with_reducible refine' is_list_list ?gh ?_); (case gh => walk_at "h"))
  | ((with_reducible refine' is_list_tuple ?gh ?_); (case gh => walk_at "h"))
  | ((with_reducible refine' is_list_dict ?gh ?_); (case gh => walk_at "h"))
  | ((with_reducible refine' is_list_int ?gh ?_); (case gh => walk_at "h"))
  | ((with_reducible refine' is_list_bool ?gh ?_); (case gh => walk_at "h"))
  | ((with_reducible refine' is_list_str ?gh ?_); (case gh => walk_at "h"))
  | ((with_reducible refine' is2_list ?ga ?gb ?_); (case ga => walk_at "h"); (case gb => walk_at "h"))
  | ((with_reducible refine' is_tuple_list ?gh ?_); (case gh => walk_at "h"))
  | ((with_reducible refine' is_tuple_tuple ?gh ?_); (case gh => walk_at "h"))
  | ((with_reducible refine' is_tuple_dict ?gh ?_); (case gh => walk_at "h"))
  | ((with_reducible refine' is_tuple_int ?gh ?_); (case gh => walk_at "h"))
  | ((with_reducible refine' is_tuple_bool ?gh ?_); (case gh => walk_at "h"))
  | ((with_reducible refine' is_tuple_str ?gh ?_); (case gh => walk_at "h"))
  | ((with_reducible refine' is2_tuple ?ga ?gb ?_); (case ga => walk_at "h"); (case gb => walk_at "h"))
  | ((with_reducible refine' is_dict_list ?gh ?_); (case gh => walk_at "h"))
  | ((with_reducible refine' is_dict_tuple ?gh ?_); (case gh => walk_at "h"))
  | ((with_reducible refine' is_dict_dict ?gh ?_); (case gh => walk_at "h"))
  | ((with_reducible refine' is_dict_int ?gh ?_); (case gh => walk_at "h"))
  | ((with_reducible refine' is_dict_bool ?gh ?_); (case gh => walk_at "h"))
  | ((with_reducible refine' is_dict_str ?gh ?_); (case gh => walk_at "h"))
  | ((with_reducible refine' is2_dict ?ga ?gb ?_); (case ga => walk_at "h"); (case gb => walk_at "h")))
local macro_rules | `(tactic| walk_at "g") => `(tactic| first
  | (with_reducible refine g_seq ?_)
  | (with_reducible refine g_asg ?_)
  | ((with_reducible refine g_name ?_); dsimp only [List.set, wipe, List.map])
  | ((with_reducible refine' g_var ?gv ?_); (case gv => exact rfl))
  | (with_reducible refine g_c ?_)
  | (with_reducible refine g_op ?_)
  | (with_reducible refine g_cons ?_)
  | (with_reducible refine g_nil ?_)
  | (with_reducible refine g_cb ?_)
  | (with_reducible refine g_call ?_)
  | (with_reducible refine g_tup ?_)
  | (with_reducible refine g_lst ?_)
  | (with_reducible refine g_bm ?_)
  | (with_reducible refine g_bm0 ?_)
  | ((with_reducible refine' g_kbm ?gh ?_); (case gh => walk_at "h"))
  | (with_reducible refine g_drop ?_)
  | (with_reducible refine g_ret ?_)
  | (with_reducible refine g_retN ?_)
  | (with_reducible refine g_next ?_)
  | (with_reducible refine g_brk ?_)
  | (with_reducible refine g_cont ?_)
  | (with_reducible refine g_if ?_)
  | ((with_reducible refine' g_aug ?gv ?_); (case gv => exact rfl))
  | (with_reducible refine g_ipI ?_)
  | (with_reducible refine g_test ?_)
  | (with_reducible refine g_tB ?_)
  | (with_reducible refine g_kB ?_)
  | (with_reducible refine g_not ?_)
  | (with_reducible refine g_and ?_)
  | (with_reducible refine g_or ?_)
  | (with_reducible refine g_andV ?_)
  | (with_reducible refine g_orV ?_)
  | (with_reducible refine g_notV ?_)
  | (with_reducible refine g_ifE ?_)
  | (with_reducible refine g_addI ?_)
  | (with_reducible refine g_rI0 ?_)
  | (with_reducible refine g_eqI ?_)
  | (with_reducible refine g_eqS ?_)
  | (with_reducible refine g_neI ?_)
  | (with_reducible refine g_neS ?_)
  | (with_reducible refine g_isN ?_)
  | (with_reducible refine g_notN ?_)
  | (with_reducible refine g_int ?_)
  | (with_reducible refine g_max2 ?_)
  | (with_reducible refine g_min2 ?_)
  | ((with_reducible refine' g_lenL ?gh ?_); (case gh => walk_at "h"))
  | (with_reducible refine g_sub ?_)
  | (with_reducible refine g_gcons ?_)
  | (with_reducible refine g_gnil ?_)
  | (with_reducible refine g_un ?_)
  | (with_reducible refine g_rU ?_)
  | (with_reducible refine g_forL ?_)
  | (with_reducible refine g_forS ?_)
  | (with_reducible refine g_forR1 ?_)
  | (with_reducible refine g_forR2 ?_)
  | (with_reducible refine g_forR3 ?_)
  | (with_reducible refine g_lcL ?_)
  | (with_reducible refine g_lcR1 ?_)
  | (with_reducible refine g_lcR2 ?_)
  | (with_reducible refine g_slice ?_)
  | (with_reducible refine g_part ?_)
  | (with_reducible refine g_kOI ?_)
  | (with_reducible refine g_nopart ?_)
  | (with_reducible refine g_yes ?_)
  | ((with_reducible refine' g_wipe ?gv ?_); (case gv => exact rfl))
  | (with_reducible refine iteT ?_)
  | (with_reducible refine iteF ?_)
  | (with_reducible refine i_nf ?_)
  | (with_reducible refine i_nt ?_)
  | ((with_reducible refine' g_gtup ?gh ?gl ?_); (case gh => walk_at "h"); (case gl => exact rfl))
  | ((with_reducible refine' g_notinI ?gh ?_); (case gh => walk_at "h"))
  | ((with_reducible refine' g_inI ?gh ?_); (case gh => walk_at "h"))
  | ((with_reducible refine' g_kget2 ?gh ?_); (case gh => walk_at "h"))
  | ((with_reducible refine' g_kgotI ?gh ?_); (case gh => walk_at "h"))
  | (with_reducible refine g_tRev ?_)
  | (with_reducible refine g_neB ?_)
  | (with_reducible refine g_eqB ?_)
  | ((with_reducible refine' g_lenT ?gh ?_); (case gh => walk_at "h"))
  | (with_reducible refine g_star ?_)
  | ((with_reducible refine' g_kstarL ?gh ?_); (case gh => walk_at "h"))
  | ((with_reducible refine' g_kstarT ?gh ?_); (case gh => walk_at "h"))
  | (with_reducible refine g_tru ?_)
  | ((with_reducible refine' g_truL ?gh ?_); (case gh => walk_at "h"))
  | (with_reducible refine g_get2 ?_)
  | (with_reducible refine g_try ?_)
  | (with_reducible refine g_fld ?_)
  | (with_reducible refine g_sfld ?_)
  | (with_reducible refine g_meth ?_)
  | (with_reducible refine g_make ?_)
  | (with_reducible refine g_del ?_)
  | (with_reducible refine g_callS ?_)
  | (with_reducible refine g_raise ?_)
  | (with_reducible refine g_xf ?_)
  | (with_reducible refine g_m0 ?_)
  | (with_reducible refine g_km0 ?_)
  | walk_at "is")
local macro_rules | `(tactic| walk_at "gg") => `(tactic| repeat walk_at "g")
local macro_rules | `(tactic| walk_at "sz") => `(tactic| (refine sz ?_; simp only [List.length_cons, List.length_nil, List.length_map, List.length_append, List.length_replicate]; omega))
local macro_rules | `(tactic| walk_at "sub") => `(tactic| ((repeat (first | exact List.Sublist.slnil | with_reducible apply List.Sublist.cons_cons | with_reducible apply List.Sublist.cons)); done))

/-! ### _law_merged, trees -/
/-- what a function tells of some paths -/
def UpTo {α : Type} (f : Str → Option α) (zs : List Str) (xs : List (Str × α)) : Prop := (xs.map (·.1)).Sublist zs ∧ ∀ z n, (z, n) ∈ xs ↔ z ∈ zs ∧ f z = some n
theorem UpTo.nil {α : Type} {f : Str → Option α} : UpTo f [] [] := ⟨List.Sublist.refl _, fun z n => by simp⟩
theorem UpTo.skip {α : Type} {f : Str → Option α} {zs : List Str} {xs : List (Str × α)} {z : Str} (h : UpTo f zs xs) (e : f z = none) : UpTo f (zs ++ [z]) xs := by
  refine ⟨h.1.trans (List.sublist_append_left _ _), fun z' n => ?_⟩
  rw [h.2, List.mem_append, List.mem_singleton]
  constructor
  · exact fun h => ⟨.inl h.1, h.2⟩
  · rintro ⟨h | h, h2⟩
    · exact ⟨h, h2⟩
    · subst h
      rw [e] at h2
      cases h2
theorem UpTo.put {α : Type} {f : Str → Option α} {zs : List Str} {xs : List (Str × α)} {z : Str} {n : α} (h : UpTo f zs xs) (e : f z = some n) : UpTo f (zs ++ [z]) (xs ++ [(z, n)]) := by
  refine ⟨by rw [List.map_append]; exact h.1.append (List.Sublist.refl _), fun z' m => ?_⟩
  rw [List.mem_append, h.2, List.mem_append, List.mem_singleton, List.mem_singleton]
  constructor
  · rintro (h | h)
    · exact ⟨.inl h.1, h.2⟩
    · injection h with h1 h2
      subst h1
      subst h2
      exact ⟨.inr rfl, e⟩
  · rintro ⟨h | h, h2⟩
    · exact .inl ⟨h, h2⟩
    · subst h
      rw [e] at h2
      injection h2 with h2
      rw [h2]
      exact .inr rfl
theorem UpTo.len {α : Type} {f : Str → Option α} {zs : List Str} {xs : List (Str × α)} (h : UpTo f zs xs) : xs.length ≤ zs.length := by
  have := h.1.length_le
  rw [List.length_map] at this
  exact this
theorem UpTo.all {α : Type} {f : Str → Option α} {zs : List Str} {xs : List (Str × α)} (h : UpTo f zs xs) (out : ∀ z, z ∉ zs → f z = none) (z : Str) (n : α) : (z, n) ∈ xs ↔ f z = some n := by
  rw [h.2]
  refine ⟨fun h => h.2, fun h => ⟨?_, h⟩⟩
  refine Classical.byContradiction fun c => ?_
  rw [out z c] at h
  cases h
theorem has_two {H H' : Hp} {p l : Addr} {u v : HO} (s : Same H H') (np : H p = none) (nl : H l = none) (hp : H' p = some u) (hl : H' l = some v) (ne : u ≠ v) : Has H [(p, u), (l, v)] H' := by
  refine ⟨s, fun q hq => ?_, ?_⟩
  · simp only [List.mem_cons, List.not_mem_nil, or_false] at hq
    rcases hq with rfl | rfl
    · exact ⟨np, hp⟩
    · exact ⟨nl, hl⟩
  · have : p ≠ l := fun e => by
      rw [e, hl] at hp
      exact ne (Option.some.inj hp).symm
    simp [this]
section
variable {P : Program} {w : World} {K : PySem.W.Frag} {mg : Str → Option Value} {base : Heap}
def sp_l_merged (K : PySem.W.Frag) : Sp := fun vs H Q _ => ∃ (pl b x y : Addr) (ps : List Str) (A X Y : Tre), vs = [.ref pl, .ref b, .ref x, .ref y] ∧ H pl = some (.lst (ps.map V.str)) ∧ ps.Nodup ∧ TrAt H b A ∧ TrAt H x X ∧ TrAt H y Y ∧ MOk A X Y ps ∧
  ∀ u C cl H', Same H H' → DueAt H' u C cl → Mgd A X Y C cl → Q (.ref u) H'
theorem sp_l_merged_len {vs H Q E} (h : sp_l_merged K vs H Q E) : vs.length = 4 := by
  obtain ⟨_, _, _, _, _, _, _, _, rfl, _⟩ := h
  rfl
set_option maxHeartbeats 2000000 in
theorem ok_l_merged (T : Txt K mg) : FnOk P w K mg base CX0 6 T.f_l_merged T.fd_l_merged ["paths", "base", "ours", "theirs"] (sp_l_merged K) := by
  refine T.F_l_merged.ok sc_l_merged (fun vs H Q E h => sp_l_merged_len h) (fun cdv A outer s H vs Q E hr h => ?_)
  refine ⟨_, (pss_cons (ps_set (i := 4) sc_l_merged.nd rfl (.inl rfl) pe_dnewK)
      (pss_cons (ps_set (i := 5) sc_l_merged.nd rfl (.inl rfl) (pe_lst pa_nil))
      (pss_cons (ps_for PassesOwn.never rfl (k_il K (pi_list (pe_callB (cr_sortA K rfl) (by rfl) T.m_sorted (by decide +kernel) (pa_cons (pv 0) pa_nil)))) (pg_name (i := 6) sc_l_merged.nd rfl (.inl rfl)) (pss_cons (ps_set (i := 7) sc_l_merged.nd rfl (.inl rfl) (pe_dget1 (hu_of hr) (pv 1) (pv 6) ⟨rfl, rfl, rfl, rfl⟩))
      (pss_cons (ps_set (i := 8) sc_l_merged.nd rfl (.inl rfl) (pe_dget1 (hu_of hr) (pv 2) (pv 6) ⟨rfl, rfl, rfl, rfl⟩))
      (pss_cons (ps_set (i := 9) sc_l_merged.nd rfl (.inl rfl) (pe_dget1 (hu_of hr) (pv 3) (pv 6) ⟨rfl, rfl, rfl, rfl⟩))
      (pss_cons (ps_if (PW.pt (pw_or (pt_cmpR (op_eqK K hr.units) (pv 8) (pv 9) (nomark _)) (pw_or1 (pt_cmpR (op_eqK K hr.units) (pv 9) (pv 7) (nomark _))))) (pss_one (ps_set (i := 10) sc_l_merged.nd rfl (.inl rfl) (pv 8))) (pss_one (ps_if (pt_cmpR (op_eqK K hr.units) (pv 8) (pv 7) (nomark _)) (pss_one (ps_set (i := 10) sc_l_merged.nd rfl (.inl rfl) (pv 9))) (pss_one (ps_if (PW.pt (pw_or (pt_cmpR op_isNA (pv 8) pe_non (nomark _)) (pw_or1 (pt_cmpR op_isNA (pv 9) pe_non (nomark _))))) (pss_cons (ps_set (i := 10) sc_l_merged.nd rfl (.inl rfl) (pe_ifExp (pt_cmpR op_isNA (pv 8) pe_non (nomark _)) (pv 9) (pv 8)))
      (pss_one (ps_expr (k_bm K (pe_bm PySem.F.plainAttrs_list PySem.F.slot_list_append PySem.F.type_list_append mt_append (pv 5) (pa_cons (pe_tup (pa_cons (pv 6) (pa_cons pe_int pa_nil))) pa_nil)))))) (pss_cons (ps_set (i := 11) sc_l_merged.nd rfl (.inl rfl) (pe_call (ok_l_text_merge T) (hr.mono (by decide)) (by rfl) T.g_l_text_merge T.F_l_text_merge.kp T.b_l_text_merge .nil pass0 (pa_cons (pe_ifExp (pt_cmpR op_isNA (pv 7) pe_non (nomark _)) (pe_lst pa_nil) (pv 7)) (pa_cons (pv 8) (pa_cons (pv 9) pa_nil)))))
      (pss_cons (ps_set (i := 10) sc_l_merged.nd rfl (.inl rfl) (pe_ix (ix_K K (hu_of hr)) (pv 11) pe_int (fun _ _ => rfl)))
      (pss_one (ps_if (pt_cmpR op_gt (pe_ix (ix_K K (hu_of hr)) (pv 11) pe_int (fun _ _ => rfl)) pe_int (nomark _)) (pss_one (ps_expr (k_bm K (pe_bm PySem.F.plainAttrs_list PySem.F.slot_list_append PySem.F.type_list_append mt_append (pv 5) (pa_cons (pe_tup (pa_cons (pv 6) (pa_cons (pe_ix (ix_K K (hu_of hr)) (pv 11) pe_int (fun _ _ => rfl)) pa_nil))) pa_nil))))) pss_nil)))))))))
      (pss_one (ps_if (pt_cmpR op_notNA (pv 10) pe_non (nomark _)) (pss_one (ps_asg (pe_callTy (cr_listK K) (by rfl) T.m_list (by decide +kernel) (pa_cons (pv 10) pa_nil)) (pg_sub (pv 4) (pv 6) (set_any (hu_of hr))))) pss_nil)))))))
      (pss_one (ps_ret (pe_tup (pa_cons (pv 4) (pa_cons (pv 5) pa_nil)))))))), ?_⟩
  obtain ⟨pl, b, x, y, ps, A, X, Y, rfl, hpl, ndp, tb, tx, ty, M, q⟩ := h
  have hH := Has.start H
  obtain ⟨kb, hb, ekb, _, dqb⟩ := id tb
  obtain ⟨kx, hx, ekx, _, dqx⟩ := id tx
  obtain ⟨ky, hy, eky, _, dqy⟩ := id ty
  have lps := M.few
  refine g_start (σ' := [some (.ref pl), some (.ref b), some (.ref x), some (.ref y), none, none, none, none, none, none, none, none]) rfl ?_
  walk_at "gg"
  refine g_dnewK hH (fun d H1 n1 h1 => ?_)
  walk_at "gg"
  refine g_klst (by walk_at "sz") h1 (fun lc H2 n2 h2 => ?_)
  walk_at "gg"
  refine g_sortS (h2.same _ _ hpl) (by omega) h2 (fun us p4 H3 pm srt n3 h3 => ?_)
  have asc := asc_of srt (pm.nodup_iff.mpr ndp)
  have lus := pm.length_eq
  have h3 : Has H ((d, .dK (bK [])) :: (bO [] ++ [(lc, .lst []), (p4, .lst (us.map V.str))])) H3 := h3.perm (by
    exact (List.perm_middle (l₁ := [(lc, HO.lst [])]) (a := (p4, HO.lst (us.map V.str))) (l₂ := [])).cons _ |>.trans (List.perm_middle (l₁ := [_, _]) (l₂ := [])).symm)
  walk_at "gg"
  refine k_forL (h3.get (by walk_at "m")) (fun t σ H' => ∃ (F' : Hp) (B : Bt) (cv : List V) (cl : List (Str × Nat)) (y6 y7 y8 y9 y10 y11 : Option V), σ = [some (.ref pl), some (.ref b), some (.ref x), some (.ref y), some (.ref d), some (.ref lc), y6, y7, y8, y9, y10, y11] ∧ Same H F' ∧ Has F' ((d, .dK (bK B)) :: (bO B ++ [(lc, .lst cv), (p4, .lst (us.map V.str))])) H' ∧ DqAll F' cv (cl.map clD) ∧
    UpTo (fun z => (MT A X Y z).1) (us.take t) (bA B) ∧ UpTo (fun z => (MT A X Y z).2) (us.take t) cl) ⟨H, [], [], [], _, _, _, _, _, _, rfl, Same.refl _, h3, .nil, UpTo.nil, UpTo.nil⟩ ?_ ?_ ?_
  · rintro t σ H' _ ⟨F', B, cv, cl, y6, y7, y8, y9, y10, y11, rfl, sF, h, _⟩
    exact h.get (List.mem_cons_of_mem _ (List.mem_append_right _ (by walk_at "m")))
  · rintro t xx σ H5 hxx ⟨F', B, cv, cl, y6, y7, y8, y9, y10, y11, rfl, sF, h5, dqc, uB, uC⟩
    rw [List.getElem?_map] at hxx
    obtain ⟨z, hz, rfl⟩ := Option.map_eq_some_iff.mp hxx
    have tl := (List.getElem?_eq_some_iff.mp hz).1
    have tk : us.take (t + 1) = us.take t ++ [z] := by rw [List.take_add_one, hz]; rfl
    have nz : z ∉ us.take t := nd_new asc.nodup hz
    have lcl := uC.len
    rw [List.length_take] at lcl
    have lB := uB.len
    unfold bA at lB
    rw [List.length_map, List.length_take] at lB
    have lcv := dqc.len
    rw [List.length_map] at lcv
    have hbF := sF _ _ hb
    have hxF := sF _ _ hx
    have hyF := sF _ _ hy
    have s5 := sF.trans h5.same
    walk_at "gg"
    refine g_get1 ?_
    walk_at "gg"
    refine g_kget1 (h5.same _ _ hbF) ?_
    walk_at "gg"
    refine g_kgotS (h5.same _ _ hbF) ?_
    have dbz := ((tr_get z ekb dqb).1).up sF _ _
    generalize (valV kb (.inr z)).getD .non = bv at dbz
    walk_at "gg"
    refine g_get1 ?_
    walk_at "gg"
    refine g_kget1 (h5.same _ _ hxF) ?_
    walk_at "gg"
    refine g_kgotS (h5.same _ _ hxF) ?_
    have dxz := ((tr_get z ekx dqx).1).up sF _ _
    generalize (valV kx (.inr z)).getD .non = xv at dxz
    walk_at "gg"
    refine g_get1 ?_
    walk_at "gg"
    refine g_kget1 (h5.same _ _ hyF) ?_
    walk_at "gg"
    refine g_kgotS (h5.same _ _ hyF) ?_
    have dyz := ((tr_get z eky dqy).1).up sF _ _
    generalize (valV ky (.inr z)).getD .non = yv at dyz
    have okg : ∀ C ∈ [A, X, Y], okO (getT C z) ∧ ∀ t, getT C z = some t → t.length ≤ 40 := fun C hC =>
      ⟨getT_in okO_none fun p hp => okO_some (M.ok C hC p hp).2, fun t e => M.lt C hC _ (getT_mem e)⟩
    obtain ⟨oA, qA⟩ := okg A (by simp)
    obtain ⟨oX, qX⟩ := okg X (by simp)
    obtain ⟨oY, qY⟩ := okg Y (by simp)
    have eM : MT A X Y z = mp (getT A z) (getT X z) (getT Y z) := rfl
    generalize getT A z = bo at *
    generalize getT X z = xo at *
    generalize getT Y z = yo at *
    walk_at "g"
    walk_at "g"
    refine g_joinD (fun σ' H' => ∃ (F2 : Hp) (v : V) (cv2 : List V) (cl2 : List (Str × Nat)) (y11 : Option V), σ' = [some (.ref pl), some (.ref b), some (.ref x), some (.ref y), some (.ref d), some (.ref lc), some (.str z), some bv, some xv, some yv, some v, y11] ∧ Same F' F2 ∧ Has F2 ((d, .dK (bK B)) :: (bO B ++ [(lc, .lst cv2), (p4, .lst (us.map V.str))])) H' ∧ DqAll F2 cv2 (cl2.map clD) ∧ UpTo (fun z => (MT A X Y z).2) (us.take (t + 1)) cl2 ∧ Dq F2 v (oxD (MT A X Y z).1)) ?_ (fun nx key => ?_)
    · rintro σ' H6 ⟨F2, v, cv2, cl2, y11, rfl, s2, h6, dqc2, uC2, dv⟩
      walk_at "gg"
      cases eo : (MT A X Y z).1 with
      | none =>
        rw [eo] at dv
        have e := dv.non_inv
        subst e
        refine i_n (fun c => (c rfl).elim) (fun _ => ?_)
        walk_at "gg"
        exact ⟨F2, B, cv2, cl2, _, _, _, _, _, _, rfl, sF.trans s2, h6, dqc2, by rw [tk]; exact uB.skip eo, uC2⟩
      | some s =>
        rw [eo] at dv
        obtain ⟨a, rfl, ha⟩ := Dq.of_strs (xs := s) dv
        refine i_n (fun _ => ?_) (fun c => by cases c)
        walk_at "gg"
        refine g_listL (h6.same _ _ ha) h6 (fun p1 H7 n7 h7 => ?_)
        have nzB : z ∉ B.map (·.1) := fun m => by
          rw [← bA_keys] at m
          exact nz (uB.1.subset m)
        walk_at "gg"
        refine g_stD (k := .inr z) rfl h7 (.tl .hd) (szl (by unfold bK; rw [List.length_map]; omega)) (fun H8 h8 => ?_)
        rw [putK_new _ (bK_none nzB)] at h8
        walk_at "gg"
        refine ⟨F2, B ++ [(z, p1, s)], cv2, cl2, _, _, _, _, _, _, rfl, sF.trans s2, Has.bput h8, dqc2, ?_, uC2⟩
        rw [bA_snoc, tk]
        exact uB.put eo
    · have skip : (MT A X Y z).2 = none → UpTo (fun z => (MT A X Y z).2) (us.take (t + 1)) cl := fun e => by
        rw [tk]
        exact uC.skip e
      have put : ∀ m : Nat, (MT A X Y z).2 = some m → UpTo (fun z => (MT A X Y z).2) (us.take (t + 1)) (cl ++ [(z, m)]) := fun m e => by
        rw [tk]
        exact uC.put e
      have c2 : ∀ u : V, Chg ((d, HO.dK (bK B)) :: (bO B ++ [(lc, .lst cv), (p4, .lst (us.map V.str))])) lc (.lst cv) (.lst (cv ++ [u])) ((d, HO.dK (bK B)) :: (bO B ++ [(lc, .lst (cv ++ [u])), (p4, .lst (us.map V.str))])) := fun u => .tl (Chg.right .hd)
      have snoc : ∀ (F2 : Hp) (m : Nat) (pt : Addr), Same F' F2 → F2 pt = some (.tup [.str z, .int (m : Int)]) → DqAll F2 (cv ++ [V.ref pt]) ((cl ++ [(z, m)]).map clD) := fun F2 m pt s8 f8 => by
        rw [List.map_append]
        exact (dqc.up s8 _ _).snoc (.tup f8 (.cons (.str z) (.cons (.int _) .nil)))
      unfold mp at eM
      walk_at "gg"
      refine g_eqX (dxz.up h5.same _ _) (dyz.up h5.same _ _) oX oY ?_
      walk_at "gg"
      refine i_d (fun e1 => ?_) (fun e1 => ?_)
      · rw [if_pos e1] at eM
        walk_at "gg"
        exact key _ _ ⟨F', xv, cv, cl, _, rfl, Same.refl _, h5, dqc, skip (by rw [eM]), by rw [eM]; exact dxz⟩
      rw [if_neg e1] at eM
      walk_at "gg"
      refine g_eqX (dyz.up h5.same _ _) (dbz.up h5.same _ _) oY oA ?_
      walk_at "gg"
      refine i_d (fun e2 => ?_) (fun e2 => ?_)
      · rw [if_pos e2] at eM
        walk_at "gg"
        exact key _ _ ⟨F', xv, cv, cl, _, rfl, Same.refl _, h5, dqc, skip (by rw [eM]), by rw [eM]; exact dxz⟩
      rw [if_neg e2] at eM
      walk_at "gg"
      refine g_eqX (dxz.up h5.same _ _) (dbz.up h5.same _ _) oX oA ?_
      walk_at "gg"
      refine i_d (fun e3 => ?_) (fun e3 => ?_)
      · rw [if_pos e3] at eM
        walk_at "gg"
        exact key _ _ ⟨F', yv, cv, cl, _, rfl, Same.refl _, h5, dqc, skip (by rw [eM]), by rw [eM]; exact dyz⟩
      rw [if_neg e3] at eM
      walk_at "gg"
      cases xo with
      | none =>
        have e := dxz.non_inv
        subst e
        refine i_d (fun _ => ?_) (fun c => (c rfl).elim)
        walk_at "gg"
        refine i_d (fun _ => ?_) (fun c => (c rfl).elim)
        walk_at "gg"
        refine g_kbm (h5.get (List.mem_cons_of_mem _ (List.mem_append_right _ (List.Mem.head _)))) ?_
        walk_at "gg"
        refine g_ktupF (by walk_at "sz") h5 (fun pt H8 F8 n8 s8 f8 h8 => ?_)
        walk_at "gg"
        refine g_append h8 (c2 _) (szl (by omega)) (fun H9 h9 => ?_)
        exact key _ _ ⟨F8, yv, cv ++ [V.ref pt], cl ++ [(z, 0)], _, rfl, s8, h9, snoc F8 0 pt s8 f8, put 0 (by rw [eM]), by rw [eM]; exact dyz.up s8 _ _⟩
      | some X0 =>
        obtain ⟨ax, rfl, hax⟩ := Dq.of_strs (xs := X0) dxz
        refine i_d (fun c => by cases c) (fun _ => ?_)
        walk_at "gg"
        cases yo with
        | none =>
          have e := dyz.non_inv
          subst e
          refine i_d (fun _ => ?_) (fun c => (c rfl).elim)
          walk_at "gg"
          refine i_d (fun c => by cases c) (fun _ => ?_)
          walk_at "gg"
          refine g_kbm (h5.get (List.mem_cons_of_mem _ (List.mem_append_right _ (List.Mem.head _)))) ?_
          walk_at "gg"
          refine g_ktupF (by walk_at "sz") h5 (fun pt H8 F8 n8 s8 f8 h8 => ?_)
          walk_at "gg"
          refine g_append h8 (c2 _) (szl (by omega)) (fun H9 h9 => ?_)
          exact key _ _ ⟨F8, .ref ax, cv ++ [V.ref pt], cl ++ [(z, 0)], _, rfl, s8, h9, snoc F8 0 pt s8 f8, put 0 (by rw [eM]), by rw [eM]; exact dxz.up s8 _ _⟩
        | some Y0 =>
          obtain ⟨ay, rfl, hay⟩ := Dq.of_strs (xs := Y0) dyz
          refine i_d (fun c => by cases c) (fun _ => ?_)
          walk_at "gg"
          have okb : okL (bo.getD []) := by
            cases bo with
            | none => intro z hz; cases hz
            | some t => exact oA t rfl
          have lb : (bo.getD []).length ≤ 40 := by
            cases bo with
            | none => exact Nat.zero_le _
            | some t => exact qA t rfl
          have eM : MT A X Y z = (some (mrgL (tch (bo.getD []) X0 Y0)), if mrgN (tch (bo.getD []) X0 Y0) = 0 then none else some (mrgN (tch (bo.getD []) X0 Y0))) := eM
          have after : ∀ (D : Ends) (F6 : Hp) (H6 : Hp) (p l : Addr), (∀ σ' H', (∃ (F2 : Hp) (v : V) (cv2 : List V) (cl2 : List (Str × Nat)) (y11 : Option V), σ' = [some (.ref pl), some (.ref b), some (.ref x), some (.ref y), some (.ref d), some (.ref lc), some (.str z), some bv, some (.ref ax), some (.ref ay), some v, y11] ∧ Same F' F2 ∧ Has F2 ((d, .dK (bK B)) :: (bO B ++ [(lc, .lst cv2), (p4, .lst (us.map V.str))])) H' ∧ DqAll F2 cv2 (cl2.map clD) ∧ UpTo (fun z => (MT A X Y z).2) (us.take (t + 1)) cl2 ∧ Dq F2 v (oxD (MT A X Y z).1)) → D.nx σ' H') →
              Same F' F6 → Has F6 ((d, .dK (bK B)) :: (bO B ++ [(lc, .lst cv), (p4, .lst (us.map V.str))])) H6 → F6 p = some (.tup [.ref l, .int (mrgN (tch (bo.getD []) X0 Y0) : Nat)]) → F6 l = some (.lst ((mrgL (tch (bo.getD []) X0 Y0)).map V.str)) →
              tSeq (tAsg (tOp (rIxA K) (tVar 11) (tC (V.int 0))) (gName 10)) (tIfS (tTest (tOp (rI0 fun i j => V.bl (decide (j < i))) (tOp (rIxA K) (tVar 11) (tC (V.int 1))) (tC (V.int 0)))) (tDrop (tBM K "list" rAppend (tVar 5) (tCons (tTup (tCons (tVar 6) (tCons (tOp (rIxA K) (tVar 11) (tC (V.int 1))) tNil))) tNil))) tNext) D
                [some (.ref pl), some (.ref b), some (.ref x), some (.ref y), some (.ref d), some (.ref lc), some (.str z), some bv, some (.ref ax), some (.ref ay), y10, some (.ref p)] H6 := fun D F6 H6 p l key s6 h6 fp fl => by
            generalize mrgN (tch (bo.getD []) X0 Y0) = n at *
            walk_at "gg"
            refine g_ixT (v := .ref l) (h6.same _ _ fp) (atI_nat (j := 0) rfl) ?_
            walk_at "gg"
            refine g_ixT (v := .int (n : Int)) (h6.same _ _ fp) (atI_nat (j := 1) rfl) ?_
            walk_at "gg"
            refine i_d (fun e => ?_) (fun e => ?_)
            · have e : n ≠ 0 := fun z => by rw [z] at e; exact absurd e (by decide)
              walk_at "gg"
              refine g_kbm (h6.get (List.mem_cons_of_mem _ (List.mem_append_right _ (List.Mem.head _)))) ?_
              walk_at "gg"
              refine g_ixT (v := .int (n : Int)) (h6.same _ _ fp) (atI_nat (j := 1) rfl) ?_
              walk_at "gg"
              refine g_ktupF (by walk_at "sz") h6 (fun pt H8 F8 n8 s8 f8 h8 => ?_)
              walk_at "gg"
              refine g_append h8 (c2 _) (szl (by omega)) (fun H9 h9 => ?_)
              exact key _ _ ⟨F8, .ref l, cv ++ [V.ref pt], cl ++ [(z, n)], _, rfl, s6.trans s8, h9, snoc F8 n pt (s6.trans s8) f8, put n (by rw [eM, if_neg e]), by rw [eM]; exact Dq.strs (s8 _ _ fl)⟩
            · have e : n = 0 := by omega
              walk_at "gg"
              exact key _ _ ⟨F6, .ref l, cv, cl, _, rfl, s6, h6, dqc.up s6 _ _, skip (by rw [eM, if_pos e]), by rw [eM]; exact Dq.strs fl⟩
          cases bo with
          | none =>
            have e := dbz.non_inv
            subst e
            refine i_d (fun _ => ?_) (fun c => (c rfl).elim)
            walk_at "gg"
            refine g_klstF (by walk_at "sz") h5 (fun l0 H6 F6 n6 s6 f6 h6 => ?_)
            walk_at "gg"
            refine ⟨l0, ax, ay, [], X0, Y0, rfl, h6.same _ _ f6, h6.same _ _ (s6 _ _ hax), h6.same _ _ (s6 _ _ hay), lb, qX X0 rfl, qY Y0 rfl, okb, oX X0 rfl, oY Y0 rfl, fun p l H7 s7 np nl hp hl => ?_⟩
            obtain ⟨F7, s67, h7, nw⟩ := h6.join (has_two s7 np nl hp hl (by simp))
            have fp := nw _ (List.Mem.head _)
            have fl := nw _ (List.Mem.tail _ (List.Mem.head _))
            walk_at "g"
            refine after _ F7 H7 p l ?_ (s6.trans s67) h7 fp fl
            exact key
          | some B0 =>
            obtain ⟨ab, rfl, hab⟩ := Dq.of_strs (xs := B0) dbz
            refine i_d (fun c => by cases c) (fun _ => ?_)
            walk_at "gg"
            refine ⟨ab, ax, ay, B0, X0, Y0, rfl, h5.same _ _ hab, h5.same _ _ hax, h5.same _ _ hay, lb, qX X0 rfl, qY Y0 rfl, okb, oX X0 rfl, oY Y0 rfl, fun p l H7 s7 np nl hp hl => ?_⟩
            obtain ⟨F7, s67, h7, nw⟩ := h5.join (has_two s7 np nl hp hl (by simp))
            have fp := nw _ (List.Mem.head _)
            have fl := nw _ (List.Mem.tail _ (List.Mem.head _))
            walk_at "g"
            refine after _ F7 H7 p l ?_ s67 h7 fp fl
            exact key
  · rintro σ H5 ⟨F', B, cv, cl, y6, y7, y8, y9, y10, y11, rfl, sF, h5, dqc, uB, uC⟩
    rw [List.length_map, List.take_length] at uB uC
    have out : ∀ z, z ∉ us → MT A X Y z = (none, none) := fun z n => MT_none fun C hC m => n (pm.mem_iff.mpr (by
      obtain ⟨p, hp, rfl⟩ := List.mem_map.mp m
      exact M.sub C hC p hp))
    walk_at "gg"
    refine g_ktupF (by walk_at "sz") h5 (fun p H6 F6 n6 s6 f6 h6 => ?_)
    have uB2 := uB.all fun z n => by
      show (MT A X Y z).1 = none
      rw [out z n]
    have uC2 := uC.all fun z n => by
      show (MT A X Y z).2 = none
      rw [out z n]
    have aB : AscT (bA B) := asc.sublist uB.1
    refine q p (bA B) cl H6 (sF.trans (s6.trans h6.same)) ⟨d, lc, cv, h6.same _ _ f6, h6.built (by rw [← bA_keys]; exact aB.nd), h6.get (List.mem_cons_of_mem _ (List.mem_append_right _ (List.Mem.head _))), dqc.up (s6.trans h6.same) _ _⟩ ⟨aB, uB2, asc.sublist uC.1, uC2⟩
end

end K09

namespace K09
open PySem PySem.Spec PyProof.Rows L2 Qk
local macro_rules | `(tactic| walk_at "m") => `(tactic| ((repeat (first | exact List.Mem.head _ | apply List.Mem.tail)); done))
local macro_rules | `(tactic| walk_at "h") => `(tactic| first | assumption | exact Has.gF (by assumption) (by assumption) | exact Has.get (by assumption) (by walk_at "m"))
local macro_rules | `(tactic| walk_at "c") => `(tactic| ((repeat (first | exact Chg.hd | apply Chg.tl)); done))
local macro_rules | `(tactic| walk_at "is") => `(tactic| first
  | ((with_reducible refine' is2_non ?gh ?_); (case gh => walk_at "h"))
  | (with_reducible refine is_int_list ?_)
  | (with_reducible refine is_int_tuple ?_)
  | (with_reducible refine is_int_dict ?_)
  | (with_reducible refine is_int_int ?_)
  | (with_reducible refine is_int_bool ?_)
  | (with_reducible refine is_int_str ?_)
  | ((with_reducible refine' is2_int ?gh ?_); (case gh => walk_at "h"))
  | (with_reducible refine is_str_list ?_)
  | (with_reducible refine is_str_tuple ?_)
  | (with_reducible refine is_str_dict ?_)
  | (with_reducible refine is_str_int ?_)
  | (with_reducible refine is_str_bool ?_)
  | (with_reducible refine is_str_str ?_)
  | ((with_reducible refine' is2_str ?gh ?_); (case gh => walk_at "h"))
  | (with_reducible refine is_bool_list ?_)
  | (with_reducible refine is_bool_tuple ?_)
  | (with_reducible refine is_bool_dict ?_)
  | (with_reducible refine is_bool_int ?_)
  | (with_reducible refine is_bool_bool ?_)
  | (with_reducible refine is_bool_str ?_)
  | ((with_reducible refine' is2_bool ?gh ?_); (case gh => walk_at "h"))
  | ((with_reducible refine' is_list_list ?gh ?_); (case gh => walk_at "h"))
  | ((with_reducible refine' is_list_tuple ?gh ?_); (case gh => walk_at "h"))
  | ((with_reducible refine' is_list_dict ?gh ?_); (case gh => walk_at "h"))
  | ((with_reducible refine' is_list_int ?gh ?_); (case gh => walk_at "h"))
  | ((with_reducible refine' is_list_bool ?gh ?_); (case gh => walk_at "h"))
  | ((with_reducible refine' is_list_str ?gh ?_); (case gh => walk_at "h"))
  | ((with_reducible refine' is2_list ?ga ?gb ?_); (case ga => walk_at "h"); (case gb => walk_at "h"))
  | ((with_reducible refine' is_tuple_list ?gh ?_); (case gh => walk_at "h"))
  | ((with_reducible refine' is_tuple_tuple ?gh ?_); (case gh => walk_at "h"))
  | ((with_reducible refine' is_tuple_dict ?gh ?_); (case gh => walk_at "h"))
  | ((with_reducible refine' is_tuple_int ?gh ?_); (case gh => walk_at "h"))
  | ((with_reducible refine' is_tuple_bool ?gh ?_); (case gh => walk_at "h"))
  | ((with_reducible refine' is_tuple_str ?gh ?_); (case gh => walk_at "h"))
  | ((with_reducible refine' is2_tuple ?ga ?gb ?_); (case ga => walk_at "h"); (case gb => walk_at "h"))
  | ((with_reducible refine' is_dict_list ?gh ?_); (case gh => walk_at "h"))
  | ((with_reducible refine' is_dict_tuple ?gh ?_); (case gh => walk_at "h"))
  | ((with_reducible refine' is_dict_dict ?gh ?_); (case gh => walk_at "h"))
  | ((with_reducible refine' is_dict_int ?gh ?_); (case gh => walk_at "h"))
  | ((with_reducible refine' is_dict_bool ?gh ?_); (case gh => walk_at "h"))
  | ((with_reducible refine' is_dict_str ?gh ?_); (case gh => walk_at "h"))
  | ((with_reducible refine' is2_dict ?ga ?gb ?_); (case ga => walk_at "h"); (case gb => walk_at "h")))
local macro_rules | `(tactic| walk_at "g") => `(tactic| first
  | (with_reducible refine g_seq ?_)
  | (with_reducible refine g_asg ?_)
  | ((with_reducible refine g_name ?_); dsimp only [List.set, wipe, List.map])
  | ((with_reducible refine' g_var ?gv ?_); (case gv => exact rfl))
  | (with_reducible refine g_c ?_)
  | (with_reducible refine g_op ?_)
  | (with_reducible refine g_cons ?_)
  | (with_reducible refine g_nil ?_)
  | (with_reducible refine g_cb ?_)
  | (with_reducible refine g_call ?_)
  | (with_reducible refine g_tup ?_)
  | (with_reducible refine g_lst ?_)
  | (with_reducible refine g_bm ?_)
  | (with_reducible refine g_bm0 ?_)
  | ((with_reducible refine' g_kbm ?gh ?_); (case gh => walk_at "h"))
  | (with_reducible refine g_drop ?_)
  | (with_reducible refine g_ret ?_)
  | (with_reducible refine g_retN ?_)
  | (with_reducible refine g_next ?_)
  | (with_reducible refine g_brk ?_)
  | (with_reducible refine g_cont ?_)
  | (with_reducible refine g_if ?_)
  | ((with_reducible refine' g_aug ?gv ?_); (case gv => exact rfl))
  | (with_reducible refine g_ipI ?_)
  | (with_reducible refine g_test ?_)
  | (with_reducible refine g_tB ?_)
  | (with_reducible refine g_kB ?_)
  | (with_reducible refine g_not ?_)
  | (with_reducible refine g_and ?_)
  | (with_reducible refine g_or ?_)
  | (with_reducible refine g_andV ?_)
  | (with_reducible refine g_orV ?_)
  | (with_reducible refine g_notV ?_)
  | (with_reducible refine g_ifE ?_)
  | (with_reducible refine g_addI ?_)
  | (with_reducible refine g_rI0 ?_)
  | (with_reducible refine g_eqI ?_)
  | (with_reducible refine g_eqS ?_)
  | (with_reducible refine g_neI ?_)
  | (with_reducible refine g_neS ?_)
  | (with_reducible refine g_isN ?_)
  | (with_reducible refine g_notN ?_)
  | (with_reducible refine g_int ?_)
  | (with_reducible refine g_max2 ?_)
  | (with_reducible refine g_min2 ?_)
  | ((with_reducible refine' g_lenL ?gh ?_); (case gh => walk_at "h"))
  | (with_reducible refine g_sub ?_)
  | (with_reducible refine g_gcons ?_)
  | (with_reducible refine g_gnil ?_)
  | (with_reducible refine g_un ?_)
  | (with_reducible refine g_rU ?_)
  | (with_reducible refine g_forL ?_)
  | (with_reducible refine g_forS ?_)
  | (with_reducible refine g_forR1 ?_)
  | (with_reducible refine g_forR2 ?_)
  | (with_reducible refine g_forR3 ?_)
  | (with_reducible refine g_lcL ?_)
  | (with_reducible refine g_lcR1 ?_)
  | (with_reducible refine g_lcR2 ?_)
  | (with_reducible refine g_slice ?_)
  | (with_reducible refine g_part ?_)
  | (with_reducible refine g_kOI ?_)
  | (with_reducible refine g_nopart ?_)
  | (with_reducible refine g_yes ?_)
  | ((with_reducible refine' g_wipe ?gv ?_); (case gv => exact rfl))
  | (with_reducible refine iteT ?_)
  | (with_reducible refine iteF ?_)
  | (with_reducible refine i_nf ?_)
  | (with_reducible refine i_nt ?_)
  | ((with_reducible refine' g_gtup ?gh ?gl ?_); (case gh => walk_at "h"); (case gl => exact rfl))
  | ((with_reducible refine' g_notinI ?gh ?_); (case gh => walk_at "h"))
  | ((with_reducible refine' g_inI ?gh ?_); (case gh => walk_at "h"))
  | ((with_reducible refine' g_kget2 ?gh ?_); (case gh => walk_at "h"))
  | ((with_reducible refine' g_kgotI ?gh ?_); (case gh => walk_at "h"))
  | (with_reducible refine g_tRev ?_)
  | (with_reducible refine g_neB ?_)
  | (with_reducible refine g_eqB ?_)
  | ((with_reducible refine' g_lenT ?gh ?_); (case gh => walk_at "h"))
  | (with_reducible refine g_star ?_)
  | ((with_reducible refine' g_kstarL ?gh ?_); (case gh => walk_at "h"))
  | ((with_reducible refine' g_kstarT ?gh ?_); (case gh => walk_at "h"))
  | (with_reducible refine g_tru ?_)
  | ((with_reducible refine' g_truL ?gh ?_); (case gh => walk_at "h"))
  | (with_reducible refine g_get2 ?_)
  | (with_reducible refine g_try ?_)
  | (with_reducible refine g_fld ?_)
  | (with_reducible refine g_sfld ?_)
  | (with_reducible refine g_meth ?_)
  | (with_reducible refine g_make ?_)
  | (with_reducible refine g_del ?_)
  | (with_reducible refine g_callS ?_)
  | (with_reducible refine g_raise ?_)
  | (with_reducible refine g_xf ?_)
  | (with_reducible refine g_m0 ?_)
  | (with_reducible refine g_km0 ?_)
  | walk_at "is")
local macro_rules | `(tactic| walk_at "gg") => `(tactic| repeat walk_at "g")
local macro_rules | `(tactic| walk_at "sz") => `(tactic| (refine sz ?_; simp only [List.length_cons, List.length_nil, List.length_map, List.length_append, List.length_replicate]; omega))
local macro_rules | `(tactic| walk_at "sub") => `(tactic| ((repeat (first | exact List.Sublist.slnil | with_reducible apply List.Sublist.cons_cons | with_reducible apply List.Sublist.cons)); done))

/-! ### _law_holds -/
theorem k_forR2 {g : TG} {ts : TS} {D : Ends} {σ : L2.St} {H : Hp} {i j : Int} (Pv : Nat → L2.St → Hp → Prop) (h1 : -(2 ^ 62) ≤ i) (h2 : i < 2 ^ 62) (h3 : -(2 ^ 62) ≤ j) (h4 : j < 2 ^ 62) (h0 : Pv 0 σ H)
    (hs : ∀ t σ H, t < (j - i).toNat → Pv t σ H → g (.int (i + (t : Nat))) σ H fun σ2 H2 => ts { D with nx := Pv (t + 1), ct := Pv (t + 1), bk := D.nx } σ2 H2) (hd : ∀ σ H, Pv (j - i).toNat σ H → D.nx σ H) : kForR2 g ts D σ [.int i, .int j] H :=
  ⟨i, j, rfl, ⟨h1, h2, h3, h4⟩, for_range Pv h0 (fun t σ H hi p => hs t σ H hi p) hd⟩
theorem eqv_itD2 : ∀ (A B : Tre), PyData.eqv (itD A) (itD B) = decide (A = B) := by
  have key : ∀ A B : Tre, PyData.eqvAll (A.map fun p => .tuple [.str p.1, txD p.2]) (B.map fun p => .tuple [.str p.1, txD p.2]) = decide (A = B) := by
    intro A
    induction A with
    | nil =>
      intro B
      cases B with
      | nil => rw [List.map_nil, PyData.eqvAll]; rfl
      | cons q B => rw [List.map_nil, List.map_cons, PyData.eqvAll]; rfl
    | cons p A ih =>
      intro B
      cases B with
      | nil => rw [List.map_nil, List.map_cons, PyData.eqvAll]; rfl
      | cons q B =>
        rw [List.map_cons, List.map_cons, PyData.eqvAll, ih, PyData.eqv, PyData.eqvAll, PyData.eqvAll, PyData.eqvAll, PyData.eqv, txD, txD, eqv_strs]
        obtain ⟨k, t⟩ := p
        obtain ⟨k', t'⟩ := q
        show (k == k' && (decide (t = t') && true) && decide (A = B)) = decide ((k, t) :: A = (k', t') :: B)
        have ek : (k == k') = decide (k = k') := by rw [Bool.eq_iff_iff]; simp
        rw [Bool.and_true, ek]
        by_cases h1 : k = k'
        · by_cases h2 : t = t'
          · by_cases h3 : A = B
            · simp [h1, h2, h3]
            · simp [h1, h2, h3]
          · simp [h1, h2]
        · simp [h1]
  intro A B
  rw [itD, itD, PyData.eqv, key]
theorem perm3 {α : Type} (a b c : List α) : (a ++ (b ++ c)).Perm (b ++ (a ++ c)) := by
  rw [← List.append_assoc, ← List.append_assoc]
  exact List.perm_append_comm.append_right _
theorem tO_split {Bs : List (Addr × Bt)} {i : Nat} {q : Addr × Bt} (R : Own) (h : Bs[i]? = some q) : (tO Bs ++ R).Perm (treeO q.1 q.2 ++ (tO (Bs.eraseIdx i) ++ R)) := by
  induction Bs generalizing i with
  | nil => simp at h
  | cons x Bs ih =>
    cases i with
    | zero =>
      have e : x = q := Option.some.inj h
      subst e
      rw [List.eraseIdx_zero, List.tail_cons]
      unfold tO
      rw [List.flatMap_cons, List.append_assoc]
    | succ i =>
      have h : Bs[i]? = some q := h
      have := ih h
      rw [List.eraseIdx_cons_succ]
      unfold tO at *
      rw [List.flatMap_cons, List.flatMap_cons, List.append_assoc, List.append_assoc]
      exact (this.append_left _).trans (perm3 _ _ _)
theorem tO_set {Bs : List (Addr × Bt)} {i : Nat} {q q' : Addr × Bt} (R : Own) (h : Bs[i]? = some q) : (tO (Bs.set i q') ++ R).Perm (treeO q'.1 q'.2 ++ (tO (Bs.eraseIdx i) ++ R)) := by
  have := tO_split (Bs := Bs.set i q') (i := i) (q := q') R (by rw [List.getElem?_set_self (List.getElem?_eq_some_iff.mp h).1])
  rw [List.eraseIdx_set_eq] at this
  exact this
/-- a tree among those owned is spoiled -/
theorem Has.turn {F H H' : Hp} {N R : Own} {Bs : List (Addr × Bt)} {i : Nat} {q : Addr × Bt} {C : Bt} (h : Has F (N ++ (tO Bs ++ R)) H) (e : Bs[i]? = some q) (h' : Has (rmO (treeO q.1 q.2) H) (treeO q.1 C) H') : Has F (N ++ (tO (Bs.set i (q.1, C)) ++ R)) H' := by
  have p1 : (treeO q.1 q.2 ++ (N ++ (tO (Bs.eraseIdx i) ++ R))).Perm (N ++ (tO Bs ++ R)) := by
    exact List.Perm.trans (perm3 _ _ _) ((tO_split R e).symm.append_left N)
  have p2 : (N ++ (tO (Bs.set i (q.1, C)) ++ R)).Perm (treeO q.1 C ++ (N ++ (tO (Bs.eraseIdx i) ++ R))) := by
    exact ((tO_set R e).append_left N).trans (perm3 _ _ _)
  exact ((h.perm p1).swap h').perm p2
theorem Has.one {F H : Hp} {N R : Own} {Bs : List (Addr × Bt)} {i : Nat} {q : Addr × Bt} (h : Has F (N ++ (tO Bs ++ R)) H) (e : Bs[i]? = some q) : Has (rmO (treeO q.1 q.2) H) (treeO q.1 q.2) H := by
  have p1 : (treeO q.1 q.2 ++ (N ++ (tO (Bs.eraseIdx i) ++ R))).Perm (N ++ (tO Bs ++ R)) := by
    exact List.Perm.trans (perm3 _ _ _) ((tO_split R e).symm.append_left N)
  exact ((h.perm p1).sub (List.sublist_append_left _ _)).re
theorem dq_rm {F : Hp} {O : Own} (hO : ∀ p ∈ O, ∀ ws, F p.1 ≠ some (.tup ws)) : ∀ {cv : List V} {cl : List (Str × Nat)}, DqAll F cv (cl.map clD) → DqAll (rmO O F) cv (cl.map clD)
  | [], [], _ => .nil
  | v :: cv, [], h => by cases h
  | [], c :: cl, h => by cases h
  | v :: cv, c :: cl, h => by
    rw [List.map_cons] at h
    cases h with
    | cons d1 d2 =>
      obtain ⟨p, rfl, e⟩ := cl_at d1
      rw [List.map_cons]
      have e' : rmO O F p = some (.tup [.str c.1, .int (c.2 : Int)]) := by
        unfold rmO
        rw [if_neg]
        · exact e
        · intro m
          obtain ⟨q, hq, eq⟩ := List.mem_map.mp m
          exact hO q hq _ (by rw [eq]; exact e)
      exact .cons (.tup e' (.cons (.str _) (.cons (.int _) .nil))) (dq_rm hO d2)
theorem treeO_tup {d : Addr} {B : Bt} : ∀ p ∈ treeO d B, ∀ ws, p.2 ≠ .tup ws := fun p hp ws e => by
  rcases List.mem_cons.mp hp with rfl | hp
  · cases e
  · obtain ⟨b, _, rfl⟩ := List.mem_map.mp hp
    cases e
theorem tO_tup {Bs : List (Addr × Bt)} : ∀ p ∈ tO Bs, ∀ ws, p.2 ≠ .tup ws := fun p hp ws e => by
  obtain ⟨q, _, hp⟩ := List.mem_flatMap.mp hp
  exact treeO_tup p hp ws e
section
variable {P : Program} {w : World} {K : PySem.W.Frag} {mg : Str → Option Value} {base : Heap}
def sp_l_holds (K : PySem.W.Frag) : Sp := fun vs H Q _ => ∃ (tl u : Addr) (ds : List Addr) (A X Y C : Tre) (cl : List (Str × Nat)) (ps : List Str), vs = [.ref tl, .ref u] ∧ H tl = some (.lst (ds.map V.ref)) ∧ Trs H ds [A, X, Y] ∧ DueAt H u C cl ∧ Mgd A X Y C cl ∧ MOk A X Y ps ∧
  ∀ H', Same H H' → Q (.bl true) H'
theorem sp_l_holds_len {vs H Q E} (h : sp_l_holds K vs H Q E) : vs.length = 2 := by
  obtain ⟨_, _, _, _, _, _, _, _, _, rfl, _⟩ := h
  rfl
set_option maxHeartbeats 4000000 in
theorem ok_l_holds (T : Txt K mg) : FnOk P w K mg base CX0 9 T.f_l_holds T.fd_l_holds ["trees", "due"] (sp_l_holds K) := by
  refine T.F_l_holds.ok sc_l_holds (fun vs H Q E h => sp_l_holds_len h) (fun cdv A outer s H vs Q E hr h => ?_)
  refine ⟨_, (pss_cons (ps_setLc (i := 2) (own := [("tree", 7)]) (g := gName 7) (tt := tYes) rfl sc_l_holds.nd rfl rfl (sw_true rfl rfl rfl (by decide +kernel)) (k_il K (pi_list (pv 0))) (blkOk_by (N := n_l_holds) (sc := defScope s_l_holds) (by decide +kernel)) (fun _ _ _ _ _ => (pg_name (i := 7) sc_l_holds.nd rfl (.inl rfl))) (fun _ _ _ _ _ => pts_nil) (fun _ _ _ _ _ => (pe_call (ok_l_copy T) (hr.mono (by decide)) (by rfl) T.g_l_copy T.F_l_copy.kp T.b_l_copy .nil pass0 (pa_cons (pv 7) pa_nil))))
      (pss_cons (ps_set (i := 3) sc_l_holds.nd rfl (.inl rfl) (pe_call (ok_merge_trees T) (hr.mono (by decide)) (by rfl) T.g_merge_trees T.F_merge_trees.kp T.b_merge_trees .nil pass0 (pa_cons (pe_ix (ix_K K (hu_of hr)) (pv 2) pe_int (fun _ _ => rfl)) (pa_cons (pe_ix (ix_K K (hu_of hr)) (pv 2) pe_int (fun _ _ => rfl)) (pa_cons (pe_ix (ix_K K (hu_of hr)) (pv 2) pe_int (fun _ _ => rfl)) pa_nil)))))
      (pss_cons (ps_if (pt_not (pt_val (pe_call (ok_l_same T) (hr.mono (by decide)) (by rfl) T.g_l_same T.F_l_same.kp T.b_l_same .nil pass0 (pa_cons (pv 3) (pa_cons (pv 1) pa_nil))))) (pss_one (ps_ret pe_bl)) pss_nil)
      (pss_cons (ps_expr (pe_call (ok_l_spoil T) (hr.mono (by decide)) (by rfl) T.g_l_spoil T.F_l_spoil.kp T.b_l_spoil .nil pass0 (pa_cons (pe_ix (ix_K K (hu_of hr)) (pv 3) pe_int (fun _ _ => rfl)) pa_nil)))
      (pss_cons (ps_expr (k_bm K (pe_bm PySem.F.plainAttrs_list PySem.F.slot_list_append PySem.F.type_list_append mt_append (pe_ix (ix_K K (hu_of hr)) (pv 3) pe_int (fun _ _ => rfl)) (pa_cons (pe_tup (pa_cons pe_str (pa_cons pe_int pa_nil))) pa_nil))))
      (pss_cons (ps_for PassesOwn.never rfl (pi_range1 rfl T.m_range (pa_cons pe_int pa_nil)) (pg_name (i := 4) sc_l_holds.nd rfl (.inl rfl)) (pss_one (ps_if (pt_not (pt_val (pe_call (ok_l_kept T) (hr.mono (by decide)) (by rfl) T.g_l_kept T.F_l_kept.kp T.b_l_kept .nil pass0 (pa_cons (pe_ix (ix_K K (hu_of hr)) (pv 2) (pv 4) (fun _ _ => rfl)) (pa_cons (pe_ix (ix_K K (hu_of hr)) (pv 0) (pv 4) (fun _ _ => rfl)) pa_nil))))) (pss_one (ps_ret pe_bl)) pss_nil)))
      (pss_cons (ps_setLc (i := 5) (own := [("tree", 7)]) (g := gName 7) (tt := tYes) rfl sc_l_holds.nd rfl rfl (sw_true rfl rfl rfl (by decide +kernel)) (k_il K (pi_list (pv 0))) (blkOk_by (N := n_l_holds) (sc := defScope s_l_holds) (by decide +kernel)) (fun _ _ _ _ _ => (pg_name (i := 7) sc_l_holds.nd rfl (.inl rfl))) (fun _ _ _ _ _ => pts_nil) (fun _ _ _ _ _ => (pe_call (ok_l_copy T) (hr.mono (by decide)) (by rfl) T.g_l_copy T.F_l_copy.kp T.b_l_copy .nil pass0 (pa_cons (pv 7) pa_nil))))
      (pss_cons (ps_for PassesOwn.never rfl (pi_range2 rfl T.m_range (pa_cons pe_int (pa_cons pe_int pa_nil))) (pg_name (i := 4) sc_l_holds.nd rfl (.inl rfl)) (pss_one (ps_for PassesOwn.never rfl (pi_range1 rfl T.m_range (pa_cons (pv 4) pa_nil)) (pg_name (i := 6) sc_l_holds.nd rfl (.inl rfl)) (pss_one (ps_if (pt_cmpR (op_eqK K hr.units) (LiI.pe_listItems rfl (pe_ix (ix_K K (hu_of hr)) (pv 0) (pv 6) (fun _ _ => rfl)) (by rfl) T.m_list (by decide +kernel)) (LiI.pe_listItems rfl (pe_ix (ix_K K (hu_of hr)) (pv 0) (pv 4) (fun _ _ => rfl)) (by rfl) T.m_list (by decide +kernel)) (nomark _)) (pss_one (ps_asg (pe_ix (ix_K K (hu_of hr)) (pv 5) (pv 6) (fun _ _ => rfl)) (pg_sub (pv 5) (pv 4) (set_any (hu_of hr))))) pss_nil)))))
      (pss_cons (ps_set (i := 3) sc_l_holds.nd rfl (.inl rfl) (pe_call (ok_merge_trees T) (hr.mono (by decide)) (by rfl) T.g_merge_trees T.F_merge_trees.kp T.b_merge_trees .nil pass0 (pa_cons (pe_ix (ix_K K (hu_of hr)) (pv 5) pe_int (fun _ _ => rfl)) (pa_cons (pe_ix (ix_K K (hu_of hr)) (pv 5) pe_int (fun _ _ => rfl)) (pa_cons (pe_ix (ix_K K (hu_of hr)) (pv 5) pe_int (fun _ _ => rfl)) pa_nil)))))
      (pss_cons (ps_if (pt_not (pt_val (pe_call (ok_l_same T) (hr.mono (by decide)) (by rfl) T.g_l_same T.F_l_same.kp T.b_l_same .nil pass0 (pa_cons (pv 3) (pa_cons (pv 1) pa_nil))))) (pss_one (ps_ret pe_bl)) pss_nil)
      (pss_cons (ps_for PassesOwn.never rfl (pi_range1 rfl T.m_range (pa_cons pe_int pa_nil)) (pg_name (i := 4) sc_l_holds.nd rfl (.inl rfl)) (pss_one (ps_if (pt_not (pt_val (pe_call (ok_l_kept T) (hr.mono (by decide)) (by rfl) T.g_l_kept T.F_l_kept.kp T.b_l_kept .nil pass0 (pa_cons (pe_ix (ix_K K (hu_of hr)) (pv 5) (pv 4) (fun _ _ => rfl)) (pa_cons (pe_ix (ix_K K (hu_of hr)) (pv 0) (pv 4) (fun _ _ => rfl)) pa_nil))))) (pss_one (ps_ret pe_bl)) pss_nil)))
      (pss_cons (ps_for PassesOwn.never rfl (k_il K (pi_list (pv 5))) (pg_name (i := 7) sc_l_holds.nd rfl (.inl rfl)) (pss_one (ps_expr (pe_call (ok_l_spoil T) (hr.mono (by decide)) (by rfl) T.g_l_spoil T.F_l_spoil.kp T.b_l_spoil .nil pass0 (pa_cons (pv 7) pa_nil)))))
      (pss_one (ps_ret (pe_call (ok_l_same T) (hr.mono (by decide)) (by rfl) T.g_l_same T.F_l_same.kp T.b_l_same .nil pass0 (pa_cons (pv 3) (pa_cons (pv 1) pa_nil))))))))))))))))), ?_⟩
  obtain ⟨tl, u, ds, A, X, Y, C, cl, ps, rfl, htl, ts, du, mg0, M, q⟩ := h
  have hH := Has.start H
  have lds := ts.len
  have ell : (ds.map V.ref).length = [A, X, Y].length := by rw [List.length_map, lds]
  refine g_start (σ' := [some (.ref tl), some (.ref u), none, none, none, none, none, none]) rfl ?_
  walk_at "gg"
  refine k_lcL htl hH (fun i acc F' O' => ∃ es, acc = es.map V.ref ∧ Trs F' es ([A, X, Y].take i) ∧ Same H F' ∧ O' = []) ⟨[], rfl, .nil, Same.refl _, rfl⟩ ?_ ?_ ?_
  · rintro i acc F' O' H' ⟨_, _, _, sF, rfl⟩ hh
    exact hh.same _ _ (sF _ _ htl)
  · rintro i v acc F' O' D H2 hv ⟨es, rfl, te, sF, rfl⟩ hh
    rw [List.getElem?_map] at hv
    obtain ⟨di, edi, rfl⟩ := Option.map_eq_some_iff.mp hv
    obtain ⟨C', eC', tc⟩ := ts.get edi
    have le := te.len
    rw [List.length_take] at le
    have le2 : es.length ≤ 3 := by rw [le]; exact Nat.min_le_right _ _
    obtain ⟨_, _, _, ndC, _⟩ := id tc
    walk_at "gg"
    refine ⟨di, C', rfl, (tc.up sF).up hh.same, by have := M.ln C' (List.mem_of_getElem? eC'); omega, fun pc B2 H3 h3 eB2 => ?_⟩
    obtain ⟨F3, sF3, h3, nw⟩ := hh.join h3
    have nB : (B2.map (·.1)).Nodup := by rw [← bA_keys, eB2]; exact ndC
    have tn : TrAt F3 pc C' := by rw [← eB2]; exact tr_own nw nB
    refine k_turn h3 (by rw [List.length_map]; omega) ⟨es ++ [pc], by rw [List.map_append]; rfl, ?_, sF.trans sF3, rfl⟩
    rw [List.take_add_one, eC']
    exact (te.up sF3).snoc tn
  rintro acc F2 O2 g H2 ⟨es, rfl, te, sF, rfl⟩ h2
  rw [ell, List.take_length] at te
  have le := te.len
  have hg := h2.get (List.Mem.head _)
  obtain ⟨e0, e1, e2_, rfl⟩ : ∃ e0 e1 e2_, es = [e0, e1, e2_] := by
    match es, le with
    | [a, b, c], _ => exact ⟨a, b, c, rfl⟩
  have t0 : TrAt F2 e0 A := by cases te; assumption
  have t1 : TrAt F2 e1 X := by cases te with | cons _ te => cases te; assumption
  have t2 : TrAt F2 e2_ Y := by cases te with | cons _ te => cases te with | cons _ te => cases te; assumption
  have lC : C.length ≤ 8 := by
    have nd := mg0.asc.nd
    have := nd_le nd (ys := ps) fun z hz => by
      obtain ⟨p, hp, rfl⟩ := List.mem_map.mp hz
      have := (mg0.tx p.1 p.2).mp hp
      refine Classical.byContradiction fun c => ?_
      rw [MT_none fun D hD m => c (by
        obtain ⟨r, hr, e⟩ := List.mem_map.mp m
        rw [← e]
        exact M.sub D hD r hr)] at this
      cases this
    rw [List.length_map] at this
    exact Nat.le_trans this M.few
  have lct : ∀ p ∈ C, p.2.length ≤ 40 := fun p hp => M.fit p.1 p.2 ((mg0.tx p.1 p.2).mp hp)
  have lcl : cl.length ≤ 8 := by
    have nd := mg0.casc.nodup
    have := nd_le nd (ys := ps) fun z hz => by
      obtain ⟨p, hp, rfl⟩ := List.mem_map.mp hz
      have := (mg0.cn p.1 p.2).mp hp
      refine Classical.byContradiction fun c => ?_
      rw [MT_none fun D hD m => c (by
        obtain ⟨r, hr, e⟩ := List.mem_map.mp m
        rw [← e]
        exact M.sub D hD r hr)] at this
      cases this
    rw [List.length_map] at this
    exact Nat.le_trans this M.few
  have okA : ∀ D ∈ [A, X, Y], okTr D := M.ok
  walk_at "gg"
  refine g_ixL (v := .ref e0) hg (atI_nat (j := 0) rfl) ?_
  walk_at "gg"
  refine g_ixL (v := .ref e1) hg (atI_nat (j := 1) rfl) ?_
  walk_at "gg"
  refine g_ixL (v := .ref e2_) hg (atI_nat (j := 2) rfl) ?_
  walk_at "gg"
  refine ⟨e0, e1, e2_, A, X, Y, ps, rfl, t0.up h2.same, t1.up h2.same, t2.up h2.same, M, fun p d l B cv cl' F3 H3 s3 np fp h3 dqc mg => ?_⟩
  obtain ⟨eB, ec⟩ := mg.uniq mg0
  subst ec
  have nB : (B.map (·.1)).Nodup := by rw [← bA_keys, eB]; exact mg0.asc.nd
  have lB : B.length ≤ 8 := by
    have := congrArg List.length eB
    unfold bA at this
    rw [List.length_map] at this
    omega
  have ltB : ∀ b ∈ B, b.2.2.length ≤ 40 := fun b hb => lct (b.1, b.2.2) (by
    rw [← eB]
    exact List.mem_map.mpr ⟨b, hb, rfl⟩)
  have td : TrAt H3 d C := by
    rw [← eB]
    exact tr_in h3 (fun p hp => List.mem_cons_of_mem _ hp) nB
  have due3 : DueAt H3 p C cl' := ⟨d, l, cv, h3.same _ _ fp, td, h3.get (List.Mem.head _), dqc.up h3.same _ _⟩
  have s23 := s3.trans h3.same
  have sH3 := (sF.trans h2.same).trans s23
  walk_at "gg"
  refine ⟨.ref p, .ref u, rfl, due3.sm (du.up sH3) (by omega) (fun p hp => by have := lct p hp; omega) (by omega), fun H4 s4 => ?_⟩
  have h4 := h3.on s4
  walk_at "gg"
  refine g_ixT (v := .ref d) (h4.same _ _ fp) (atI_nat (j := 0) rfl) ?_
  walk_at "gg"
  have h4' : Has F3 (treeO d B ++ [(l, .lst cv)]) H4 := h4.perm (List.perm_append_singleton (l, HO.lst cv) (treeO d B))
  refine ⟨d, B, rmO (treeO d B) H4, 40, rfl, (h4'.sub (List.sublist_append_left _ _)).re, nB, by omega, by decide, ltB, fun H5 B5 h5 _ _ _ => ?_⟩
  have h5 := h4'.swap h5
  walk_at "gg"
  refine g_ixT (v := .ref l) (h5.same _ _ fp) (atI_nat (j := 1) rfl) ?_
  walk_at "gg"
  refine g_kbm (h5.get (List.mem_append_right _ (List.Mem.head _))) ?_
  walk_at "gg"
  refine g_ktupF (by walk_at "sz") h5 (fun pt H6 F6 n6 s6 f6 h6 => ?_)
  walk_at "gg"
  have lcv := dqc.len
  rw [List.length_map] at lcv
  refine g_append h6 (O' := treeO d B5 ++ [(l, .lst (cv ++ [V.ref pt]))]) (Chg.right .hd) (szl (by omega)) (fun H7 h7 => ?_)
  have h7 : Has F6 [] H7 := h7.sub (List.nil_sublist _)
  have sH2 : Same H2 F6 := s3.trans s6
  have sH : Same H F6 := (sF.trans h2.same).trans sH2
  have htl6 := sH _ _ htl
  have hg6 := sH2 _ _ hg
  have ts6 := ts.up sH
  have te6 := te.up (h2.same.trans sH2)
  have du6 := du.up sH
  have nds : ∀ D ∈ [A, X, Y], (D.map (·.1)).Nodup := fun D hD => by
    obtain ⟨i, hi⟩ := List.mem_iff_getElem?.mp hD
    have li := (List.getElem?_eq_some_iff.mp hi).1
    have e1 : ds[i]? = some (ds[i]'(by omega)) := List.getElem?_eq_getElem (by omega)
    obtain ⟨D', e2, _, _, _, n, _⟩ := ts.get e1
    rw [hi] at e2
    injection e2 with e2
    rw [e2]
    exact n
  clear h6 f6 h5 h4' h4 due3 td fp h3 np te t0 t1 t2 h2 hg s3 s4 n6 s6 sF s23 sH3 sH2 ltB lB eB nB dqc lcv mg
  walk_at "gg"
  refine k_forR1 (fun t σ H' => ∃ y4 : Option V, σ = [some (.ref tl), some (.ref u), some (.ref g), some (.ref p), y4, none, none, none] ∧ Has F6 [] H') (by decide) (by decide) ⟨_, rfl, h7⟩ ?_ ?_
  · rintro t σ H8 ht ⟨y4, rfl, h8⟩
    have lt : t < 3 := ht
    have l3 : ds.length = 3 := lds
    have e2 : ds[t]? = some (ds[t]'(by omega)) := List.getElem?_eq_getElem (by omega)
    generalize ds[t]'(by omega) = d_ at e2
    have E1 : [e0, e1, e2_][t]? = some ([e0, e1, e2_][t]'(by exact lt)) := List.getElem?_eq_getElem (by exact lt)
    generalize [e0, e1, e2_][t]'(by exact lt) = e_ at E1
    obtain ⟨C1, eC1, tt1⟩ := te6.get E1
    obtain ⟨C2, eC2, tt2⟩ := ts6.get e2
    have e3 : C1 = C2 := Option.some.inj (eC1.symm.trans eC2)
    subst e3
    walk_at "gg"
    refine g_ixL (v := .ref e_) (h8.same _ _ hg6) (atI_nat (by rw [List.getElem?_map, E1]; rfl)) ?_
    walk_at "gg"
    refine g_ixL (v := .ref d_) (h8.same _ _ htl6) (atI_nat (by rw [List.getElem?_map, e2]; rfl)) ?_
    walk_at "gg"
    refine ⟨e_, d_, C1, rfl, tt1.up h8.same, tt2.up h8.same, okA C1 (List.mem_of_getElem? eC1), fun H9 s9 => ?_⟩
    walk_at "gg"
    exact ⟨_, rfl, h8.on s9⟩
  clear h7
  rintro σ H8 ⟨y4, rfl, h8⟩
  walk_at "gg"
  refine k_lcL (h8.same _ _ htl6) h8 (fun i acc F' O' => ∃ Bs : List (Addr × Bt), acc = (Bs.map (·.1)).map V.ref ∧ Bs.map (fun q => bA q.2) = [A, X, Y].take i ∧ F6 = F' ∧ O' = tO Bs) ⟨[], rfl, rfl, rfl, rfl⟩ ?_ ?_ ?_
  · rintro i acc F' O' H' ⟨Bs, _, _, rfl, rfl⟩ hh
    exact hh.same _ _ htl6
  · rintro i v acc F' O' D H9 hv ⟨Bs, rfl, eBs, rfl, rfl⟩ hh
    rw [List.getElem?_map] at hv
    obtain ⟨di, edi, rfl⟩ := Option.map_eq_some_iff.mp hv
    obtain ⟨C', eC', tc⟩ := ts6.get edi
    have le := congrArg List.length eBs
    rw [List.length_map, List.length_take] at le
    have le2 : Bs.length ≤ 3 := by rw [le]; exact Nat.min_le_right _ _
    walk_at "gg"
    refine ⟨di, C', rfl, tc.up hh.same, by have := M.ln C' (List.mem_of_getElem? eC'); omega, fun pc B2 H10 h10 eB2 => ?_⟩
    have h11 := hh.plus h10
    have h11 : Has F6 ((D, .lst ((Bs.map (·.1)).map V.ref)) :: tO (Bs ++ [(pc, B2)])) H10 := h11.perm (by
      rw [tO_snoc]
      refine List.Perm.trans ?_ (List.perm_middle (l₁ := treeO pc B2)).symm
      exact List.perm_append_comm.cons _)
    refine k_turn h11 (by rw [List.length_map, List.length_map]; omega) ⟨Bs ++ [(pc, B2)], by rw [List.map_append, List.map_append]; rfl, ?_, rfl, rfl⟩
    rw [List.map_append, eBs, List.take_add_one, eC', ← eB2]
    rfl
  rintro acc F' O' ag H9 ⟨Bs, rfl, eBs, rfl, rfl⟩ h9
  rw [ell, List.take_length] at eBs
  have lBs : Bs.length = 3 := by
    have := congrArg List.length eBs
    rw [List.length_map] at this
    exact this
  have gB : ∀ q ∈ Bs, bA q.2 ∈ [A, X, Y] := fun q hq => by
    rw [← eBs]
    exact List.mem_map.mpr ⟨q, hq, rfl⟩
  have nB : ∀ q ∈ Bs, (q.2.map (·.1)).Nodup := fun q hq => by
    rw [← bA_keys]
    exact nds _ (gB q hq)
  have h9 : Has F6 (tO Bs ++ [(ag, .lst ((Bs.map (·.1)).map V.ref))]) H9 := h9.perm (List.perm_append_singleton _ _)
  have al0 : ∀ i x, (Bs.map (·.1))[i]? = some x → ∃ q ∈ Bs, q.1 = x ∧ [A, X, Y][i]? = some (bA q.2) := fun i x e => by
    rw [List.getElem?_map] at e
    obtain ⟨q, hq, rfl⟩ := Option.map_eq_some_iff.mp e
    exact ⟨q, List.mem_of_getElem? hq, rfl, by rw [← eBs, List.getElem?_map, hq]; rfl⟩
  have lx0 : (Bs.map (·.1)).length = 3 := by rw [List.length_map, lBs]
  generalize Bs.map (·.1) = xs at h9 al0 lx0
  walk_at "gg"
  refine k_forR2 (fun t σ H' => ∃ (y4 y6 : Option V) (xs : List Addr), σ = [some (.ref tl), some (.ref u), some (.ref g), some (.ref p), y4, some (.ref ag), y6, none] ∧ Has F6 (tO Bs ++ [(ag, .lst (xs.map V.ref))]) H' ∧ xs.length = 3 ∧ ∀ i x, xs[i]? = some x → ∃ q ∈ Bs, q.1 = x ∧ [A, X, Y][i]? = some (bA q.2)) (by decide) (by decide) (by decide) (by decide) ⟨_, _, xs, rfl, h9, lx0, al0⟩ ?_ ?_
  · rintro k σ H10 hk ⟨y4, y6, xs, rfl, h10, lx, al⟩
    have lk : 1 + k < 3 := by
      have : k < 2 := hk
      omega
    rw [show (1 + ((k : Nat) : Int)) = ((1 + k : Nat) : Int) by omega]
    generalize 1 + k = k at lk
    walk_at "gg"
    refine k_forR1 (fun t σ H' => ∃ (y6 : Option V) (xs : List Addr), σ = [some (.ref tl), some (.ref u), some (.ref g), some (.ref p), some (.int (k : Nat)), some (.ref ag), y6, none] ∧ Has F6 (tO Bs ++ [(ag, .lst (xs.map V.ref))]) H' ∧ xs.length = 3 ∧ ∀ i x, xs[i]? = some x → ∃ q ∈ Bs, q.1 = x ∧ [A, X, Y][i]? = some (bA q.2)) (by omega) (by omega) ⟨_, xs, rfl, h10, lx, al⟩ ?_ ?_
    · rintro j σ H11 hj ⟨y6, xs, rfl, h11, lx, al⟩
      have lj : j < k := by omega
      have l3 : ds.length = 3 := lds
      have e1 : ds[j]? = some (ds[j]'(by omega)) := List.getElem?_eq_getElem (by omega)
      generalize ds[j]'(by omega) = dj at e1
      have e2 : ds[k]? = some (ds[k]'(by omega)) := List.getElem?_eq_getElem (by omega)
      generalize ds[k]'(by omega) = dk at e2
      obtain ⟨C1, eC1, kj, hj, ekj, _, dqj⟩ := ts6.get e1
      obtain ⟨C2, eC2, kk, hk, ekk, _, dqk⟩ := ts6.get e2
      walk_at "gg"
      refine g_listItems ?_
      walk_at "gg"
      refine g_ixL (v := .ref dj) (h11.same _ _ htl6) (atI_nat (by rw [List.getElem?_map, e1]; rfl)) ?_
      refine g_items (h11.same _ _ hj) (fun p1 H12 ts1 s1 n1 f1 pd1 => ?_)
      walk_at "gg"
      refine g_listItems ?_
      walk_at "gg"
      refine g_ixL (v := .ref dk) ((h11.on s1).same _ _ htl6) (atI_nat (by rw [List.getElem?_map, e2]; rfl)) ?_
      refine g_items ((h11.on s1).same _ _ hk) (fun p2 H13 ts2 s2 n2 f2 pd2 => ?_)
      have okC : ∀ D, D ∈ [A, X, Y] → okTr D := M.ok
      have h13 := (h11.on s1).on s2
      refine g_eqD (d := itD C1) (e := itD C2) (.lst (s2 _ _ f1) ((dq_items pd1 ekj (dqj.up (h11.on s1).same _ _)).up s2 _ _)) (.lst f2 (dq_items pd2 ekk (dqk.up h13.same _ _))) (sh_itD (okC _ (List.mem_of_getElem? eC1))) (sh_itD (okC _ (List.mem_of_getElem? eC2))) ?_
      rw [eqv_itD2]
      walk_at "gg"
      refine i_d (fun ee => ?_) (fun _ => ?_)
      · subst ee
        have e3 : xs[j]? = some (xs[j]'(by omega)) := List.getElem?_eq_getElem (by omega)
        generalize xs[j]'(by omega) = xj at e3
        obtain ⟨q, hq, eq, eA⟩ := al j xj e3
        rw [eC1] at eA
        injection eA with eA
        walk_at "gg"
        refine g_ixL (v := .ref xj) (h13.get (List.mem_append_right _ (List.Mem.head _))) (atI_nat (by rw [List.getElem?_map, e3]; rfl)) ?_
        walk_at "gg"
        have lk' : k < (xs.map V.ref).length := by rw [List.length_map]; omega
        refine g_stL (v := .ref xj) (j := k) h13 (Chg.right .hd) (ixN_nat (by omega) (by omega)) (fun H14 h14 => ?_)
        rw [← List.map_set] at h14
        walk_at "gg"
        refine ⟨_, xs.set k xj, rfl, h14, by rw [List.length_set]; exact lx, fun i x e => ?_⟩
        rw [List.getElem?_set] at e
        split at e
        · rename_i ek
          subst ek
          split at e
          · injection e with e
            subst e
            exact ⟨q, hq, eq, by rw [eC2, eA]⟩
          · cases e
        · exact al i x e
      · walk_at "gg"
        exact ⟨_, xs, rfl, h13, lx, al⟩
    · rintro σ H11 ⟨y6, xs, rfl, h11, lx, al⟩
      walk_at "gg"
      exact ⟨_, _, xs, rfl, h11, lx, al⟩
  clear al0 lx0 h9
  clear xs
  rintro σ H10 ⟨y4', y6, xs, rfl, h10, lx, al⟩
  have mT : ∀ q ∈ Bs, ∀ p ∈ treeO q.1 q.2, p ∈ tO Bs ++ [(ag, HO.lst (xs.map V.ref))] := fun q hq p hp => List.mem_append_left _ (tO_at hq p hp)
  have atx : ∀ {H' : Hp} {F' : Hp} {O' : Own} {i : Nat} {x : Addr} {D : Tre}, Has F' O' H' → (∀ p ∈ tO Bs, p ∈ O') → xs[i]? = some x → [A, X, Y][i]? = some D → TrAt H' x D := fun hh sub e1 e2 => by
    obtain ⟨q, hq, eq, eA⟩ := al _ _ e1
    rw [e2] at eA
    injection eA with eA
    rw [eA, ← eq]
    exact tr_in hh (fun p hp => sub p (tO_at hq p hp)) (nB q hq)
  obtain ⟨x0, x1, x2, rfl⟩ : ∃ x0 x1 x2, xs = [x0, x1, x2] := by
    match xs, lx with
    | [a, b, c], _ => exact ⟨a, b, c, rfl⟩
  have hag : ∀ {H' : Hp} {F' : Hp} {N : Own} {Cs : List (Addr × Bt)}, Has F' (N ++ (tO Cs ++ [(ag, HO.lst ([x0, x1, x2].map V.ref))])) H' → H' ag = some (.lst ([x0, x1, x2].map V.ref)) := fun hh => hh.get (List.mem_append_right _ (List.mem_append_right _ (List.Mem.head _)))
  have h10' : Has F6 ([] ++ (tO Bs ++ [(ag, HO.lst ([x0, x1, x2].map V.ref))])) H10 := h10
  walk_at "gg"
  refine g_ixL (v := .ref x0) (hag h10') (atI_nat (j := 0) rfl) ?_
  walk_at "gg"
  refine g_ixL (v := .ref x1) (hag h10') (atI_nat (j := 1) rfl) ?_
  walk_at "gg"
  refine g_ixL (v := .ref x2) (hag h10') (atI_nat (j := 2) rfl) ?_
  walk_at "gg"
  refine ⟨x0, x1, x2, A, X, Y, ps, rfl, atx h10 (fun p hp => List.mem_append_left _ hp) (i := 0) rfl rfl, atx h10 (fun p hp => List.mem_append_left _ hp) (i := 1) rfl rfl, atx h10 (fun p hp => List.mem_append_left _ hp) (i := 2) rfl rfl, M, fun p2 d2 l2 B2 cv2 cl2 F11 H11 s11 np2 fp2 h11 dqc2 mg2 => ?_⟩
  obtain ⟨eB2, ec2⟩ := mg2.uniq mg0
  subst ec2
  have nB2 : (B2.map (·.1)).Nodup := by rw [← bA_keys, eB2]; exact mg0.asc.nd
  obtain ⟨h12, s12⟩ := h10.glue s11 h11
  have at10 : ∀ q ∈ tO Bs ++ [(ag, HO.lst ([x0, x1, x2].map V.ref))], H10 q.1 = some q.2 := fun q hq => h10.get hq
  have gp2 : rmO (tO Bs ++ [(ag, HO.lst ([x0, x1, x2].map V.ref))]) F11 p2 = some (.tup [.ref d2, .ref l2]) := by
    unfold rmO
    rw [if_neg]
    · exact fp2
    · intro m
      obtain ⟨q, hq, e⟩ := List.mem_map.mp m
      have := at10 q hq
      rw [e, np2] at this
      cases this
  have gdq : DqAll (rmO (tO Bs ++ [(ag, HO.lst ([x0, x1, x2].map V.ref))]) F11) cv2 (cl2.map clD) := dq_rm (fun q hq ws e => by
    rw [s11 _ _ (at10 q hq)] at e
    injection e with e
    rcases List.mem_append.mp hq with hq | hq
    · exact tO_tup q hq ws e
    · rw [List.mem_singleton.mp hq] at e
      cases e) dqc2
  generalize rmO (tO Bs ++ [(ag, HO.lst ([x0, x1, x2].map V.ref))]) F11 = G at h12 s12 gp2 gdq
  have dueAt : ∀ {H' : Hp} {Cs : List (Addr × Bt)}, Has G (((l2, .lst cv2) :: treeO d2 B2) ++ (tO Cs ++ [(ag, HO.lst ([x0, x1, x2].map V.ref))])) H' → DueAt H' p2 C cl2 := fun hh =>
    ⟨d2, l2, cv2, hh.same _ _ gp2, by rw [← eB2]; exact tr_in hh (fun q hq => List.mem_append_left _ (List.mem_cons_of_mem _ hq)) nB2, hh.get (List.Mem.head _), gdq.up hh.same _ _⟩
  have htlG := s12 _ _ htl6
  have tsG := ts6.up s12
  have duG := du6.up s12
  clear h11 fp2 dqc2 s11 np2 at10 h10 h10'
  walk_at "gg"
  refine ⟨.ref p2, .ref u, rfl, (dueAt h12).sm (duG.up h12.same) (by omega) (fun p hp => by have := lct p hp; omega) (by omega), fun H13 s13 => ?_⟩
  have h13 := h12.on s13
  walk_at "gg"
  refine k_forR1 (fun t σ H' => ∃ y4 : Option V, σ = [some (.ref tl), some (.ref u), some (.ref g), some (.ref p2), y4, some (.ref ag), y6, none] ∧ Has G (((l2, .lst cv2) :: treeO d2 B2) ++ (tO Bs ++ [(ag, HO.lst ([x0, x1, x2].map V.ref))])) H') (by decide) (by decide) ⟨_, rfl, h13⟩ ?_ ?_
  · rintro t σ H14 ht ⟨y4, rfl, h14⟩
    have lt : t < 3 := ht
    have l3 : ds.length = 3 := lds
    have e2 : ds[t]? = some (ds[t]'(by omega)) := List.getElem?_eq_getElem (by omega)
    generalize ds[t]'(by omega) = d_ at e2
    have E1 : [x0, x1, x2][t]? = some ([x0, x1, x2][t]'(by exact lt)) := List.getElem?_eq_getElem (by exact lt)
    generalize [x0, x1, x2][t]'(by exact lt) = e_ at E1
    obtain ⟨C2, eC2, tt2⟩ := tsG.get e2
    have tt1 := atx h14 (fun p hp => List.mem_append_right _ (List.mem_append_left _ hp)) E1 eC2
    walk_at "gg"
    refine g_ixL (v := .ref e_) (hag h14) (atI_nat (by rw [List.getElem?_map, E1]; rfl)) ?_
    walk_at "gg"
    refine g_ixL (v := .ref d_) (h14.same _ _ htlG) (atI_nat (by rw [List.getElem?_map, e2]; rfl)) ?_
    walk_at "gg"
    refine ⟨e_, d_, C2, rfl, tt1, tt2.up h14.same, okA C2 (List.mem_of_getElem? eC2), fun H15 s15 => ?_⟩
    walk_at "gg"
    exact ⟨_, rfl, h14.on s15⟩
  clear h13 s13 h12
  rintro σ H14 ⟨y4, rfl, h14⟩
  have gd0 : ∀ q ∈ Bs, (q.2.map (·.1)).Nodup ∧ q.2.length ≤ 8 + 0 ∧ ∀ b ∈ q.2, b.2.2.length ≤ 40 + 20 * 0 := fun q hq => by
    refine ⟨nB q hq, ?_, fun b hb => M.lt _ (gB q hq) (b.1, b.2.2) (List.mem_map.mpr ⟨b, hb, rfl⟩)⟩
    have := M.ln _ (gB q hq)
    unfold bA at this
    rw [List.length_map] at this
    exact this
  walk_at "gg"
  refine k_forL (hag h14) (fun t σ H' => ∃ (y7 : Option V) (Cs : List (Addr × Bt)), σ = [some (.ref tl), some (.ref u), some (.ref g), some (.ref p2), y4, some (.ref ag), y6, y7] ∧ Has G (((l2, .lst cv2) :: treeO d2 B2) ++ (tO Cs ++ [(ag, HO.lst ([x0, x1, x2].map V.ref))])) H' ∧ Cs.map (·.1) = Bs.map (·.1) ∧ ∀ q ∈ Cs, (q.2.map (·.1)).Nodup ∧ q.2.length ≤ 8 + t ∧ ∀ b ∈ q.2, b.2.2.length ≤ 40 + 20 * t) ⟨_, Bs, rfl, h14, rfl, gd0⟩ ?_ ?_ ?_
  · rintro t σ H' _ ⟨y7, Cs, rfl, hh, _⟩
    exact hag hh
  · rintro t x σ H15 hx ⟨y7, Cs, rfl, h15, eCs, gC⟩
    have lt : t < 3 := (List.getElem?_eq_some_iff.mp hx).1
    rw [List.getElem?_map] at hx
    obtain ⟨x, ex, rfl⟩ := Option.map_eq_some_iff.mp hx
    obtain ⟨q0, hq0, eq0, _⟩ := al _ _ ex
    have m : x ∈ Cs.map (·.1) := by
      rw [eCs, ← eq0]
      exact List.mem_map.mpr ⟨q0, hq0, rfl⟩
    obtain ⟨q, hq, eq⟩ := List.mem_map.mp m
    obtain ⟨j, ej⟩ := List.mem_iff_getElem?.mp hq
    obtain ⟨g1, g2, g3⟩ := gC q hq
    subst eq
    walk_at "gg"
    refine ⟨q.1, q.2, rmO (treeO q.1 q.2) H15, 40 + 20 * t, rfl, Has.one h15 ej, g1, by omega, by omega, g3, fun H16 C5 h16 k1 k2 k3 => ?_⟩
    have h16 := Has.turn h15 ej h16
    walk_at "gg"
    refine ⟨_, Cs.set j (q.1, C5), rfl, h16, ?_, fun r hr => ?_⟩
    · rw [← eCs, List.map_set]
      refine List.ext_getElem? fun i => ?_
      rw [List.getElem?_set]
      split
      · rename_i e
        subst e
        split
        · rw [List.getElem?_map, ej]
          rfl
        · rename_i e
          rw [List.length_map] at e
          exact (e (List.getElem?_eq_some_iff.mp ej).1).elim
      · rfl
    · rcases List.mem_or_eq_of_mem_set hr with hr | rfl
      · obtain ⟨k1, k2, k3⟩ := gC r hr
        exact ⟨k1, by omega, fun b hb => by have := k3 b hb; omega⟩
      · exact ⟨k1, by show C5.length ≤ _; omega, fun b hb => by have := k3 b hb; omega⟩
  · rintro σ H15 ⟨y7, Cs, rfl, h15, _⟩
    walk_at "gg"
    exact ⟨.ref p2, .ref u, rfl, (dueAt h15).sm (duG.up h15.same) (by omega) (fun p hp => by have := lct p hp; omega) (by omega), fun H16 s16 => q H16 ((sH.trans s12).trans (h15.same.trans s16))⟩
end

end K09

namespace K09
open PySem PySem.Spec PyProof.Rows L2 Qk
local macro_rules | `(tactic| walk_at "m") => `(tactic| ((repeat (first | exact List.Mem.head _ | apply List.Mem.tail)); done))
local macro_rules | `(tactic| walk_at "h") => `(tactic| first | assumption | exact Has.gF (by assumption) (by assumption) | exact Has.get (by assumption) (by walk_at "m"))
local macro_rules | `(tactic| walk_at "c") => `(tactic| ((repeat (first | exact Chg.hd | apply Chg.tl)); done))
local macro_rules | `(tactic| walk_at "is") => `(tactic| first
  | ((with_reducible refine' is2_non ?gh ?_); (case gh => walk_at "h"))
  | (with_reducible refine is_int_list ?_)
  | (with_reducible refine is_int_tuple ?_)
  | (with_reducible refine is_int_dict ?_)
  | (with_reducible refine is_int_int ?_)
  | (with_reducible refine is_int_bool ?_)
  | (with_reducible refine is_int_str ?_)
  | ((with_reducible refine' is2_int ?gh ?_); (case gh => walk_at "h"))
  | (with_reducible refine is_str_list ?_)
  | (with_reducible refine is_str_tuple ?_)
  | (with_reducible refine is_str_dict ?_)
  | (with_reducible refine is_str_int ?_)
  | (with_reducible refine is_str_bool ?_)
  | (with_reducible refine is_str_str ?_)
  | ((with_reducible refine' is2_str ?gh ?_); (case gh => walk_at "h"))
  | (with_reducible refine is_bool_list ?_)
  | (with_reducible refine is_bool_tuple ?_)
  | (with_reducible refine is_bool_dict ?_)
  | (with_reducible refine is_bool_int ?_)
  | (with_reducible refine is_bool_bool ?_)
  | (with_reducible refine is_bool_str ?_)
  | ((with_reducible refine' is2_bool ?gh ?_); (case gh => walk_at "h"))
  | ((with_reducible refine' is_list_list ?gh ?_); (case gh => walk_at "h"))
  | ((with_reducible refine' is_list_tuple ?gh ?_); (case gh => walk_at "h"))
  | ((with_reducible refine' is_list_dict ?gh ?_); (case gh => walk_at "h"))
  | ((with_reducible refine' is_list_int ?gh ?_); (case gh => walk_at "h"))
  | ((with_reducible refine' is_list_bool ?gh ?_); (case gh => walk_at "h"))
  | ((with_reducible refine' is_list_str ?gh ?_); (case gh => walk_at "h"))
  | ((with_reducible refine' is2_list ?ga ?gb ?_); (case ga => walk_at "h"); (case gb => walk_at "h"))
  | ((with_reducible refine' is_tuple_list ?gh ?_); (case gh => walk_at "h"))
  | ((with_reducible refine' is_tuple_tuple ?gh ?_); (case gh => walk_at "h"))
  | ((with_reducible refine' is_tuple_dict ?gh ?_); (case gh => walk_at "h"))
  | ((with_reducible refine' is_tuple_int ?gh ?_); (case gh => walk_at "h"))
  | ((with_reducible refine' is_tuple_bool ?gh ?_); (case gh => walk_at "h"))
  | ((with_reducible refine' is_tuple_str ?gh ?_); (case gh => walk_at "h"))
  | ((with_reducible refine' is2_tuple ?ga ?gb ?_); (case ga => walk_at "h"); (case gb => walk_at "h"))
  | ((with_reducible refine' is_dict_list ?gh ?_); (case gh => walk_at "h"))
  | ((with_reducible refine' is_dict_tuple ?gh ?_); (case gh => walk_at "h"))
  | ((with_reducible refine' is_dict_dict ?gh ?_); (case gh => walk_at "h"))
  | ((with_reducible refine' is_dict_int ?gh ?_); (case gh => walk_at "h"))
  | ((with_reducible refine' is_dict_bool ?gh ?_); (case gh => walk_at "h"))
  | ((with_reducible refine' is_dict_str ?gh ?_); (case gh => walk_at "h"))
  | ((with_reducible refine' is2_dict ?ga ?gb ?_); (case ga => walk_at "h"); (case gb => walk_at "h")))
local macro_rules | `(tactic| walk_at "g") => `(tactic| first
  | (with_reducible refine g_seq ?_)
  | (with_reducible refine g_asg ?_)
  | ((with_reducible refine g_name ?_); dsimp only [List.set, wipe, List.map])
  | ((with_reducible refine' g_var ?gv ?_); (case gv => exact rfl))
  | (with_reducible refine g_c ?_)
  | (with_reducible refine g_op ?_)
  | (with_reducible refine g_cons ?_)
  | (with_reducible refine g_nil ?_)
  | (with_reducible refine g_cb ?_)
  | (with_reducible refine g_call ?_)
  | (with_reducible refine g_tup ?_)
  | (with_reducible refine g_lst ?_)
  | (with_reducible refine g_bm ?_)
  | (with_reducible refine g_bm0 ?_)
  | ((with_reducible refine' g_kbm ?gh ?_); (case gh => walk_at "h"))
  | (with_reducible refine g_drop ?_)
  | (with_reducible refine g_ret ?_)
  | (with_reducible refine g_retN ?_)
  | (with_reducible refine g_next ?_)
  | (with_reducible refine g_brk ?_)
  | (with_reducible refine g_cont ?_)
  | (with_reducible refine g_if ?_)
  | ((with_reducible refine' g_aug ?gv ?_); (case gv => exact rfl))
  | (with_reducible refine g_ipI ?_)
  | (with_reducible refine g_test ?_)
  | (with_reducible refine g_tB ?_)
  | (with_reducible refine g_kB ?_)
  | (with_reducible refine g_not ?_)
  | (with_reducible refine g_and ?_)
  | (with_reducible refine g_or ?_)
  | (with_reducible refine g_andV ?_)
  | (with_reducible refine g_orV ?_)
  | (with_reducible refine g_notV ?_)
  | (with_reducible refine g_ifE ?_)
  | (with_reducible refine g_addI ?_)
  | (with_reducible refine g_rI0 ?_)
  | (with_reducible refine g_eqI ?_)
  | (with_reducible refine g_eqS ?_)
  | (with_reducible refine g_neI ?_)
  | (with_reducible refine g_neS ?_)
  | (with_reducible refine g_isN ?_)
  | (with_reducible refine g_notN ?_)
  | (with_reducible refine g_int ?_)
  | (with_reducible refine g_max2 ?_)
  | (with_reducible refine g_min2 ?_)
  | ((with_reducible refine' g_lenL ?gh ?_); (case gh => walk_at "h"))
  | (with_reducible refine g_sub ?_)
  | (with_reducible refine g_gcons ?_)
  | (with_reducible refine g_gnil ?_)
  | (with_reducible refine g_un ?_)
  | (with_reducible refine g_rU ?_)
  | (with_reducible refine g_forL ?_)
  | (with_reducible refine g_forS ?_)
  | (with_reducible refine g_forR1 ?_)
  | (with_reducible refine g_forR2 ?_)
  | (with_reducible refine g_forR3 ?_)
  | (with_reducible refine g_lcL ?_)
  | (with_reducible refine g_lcR1 ?_)
  | (with_reducible refine g_lcR2 ?_)
  | (with_reducible refine g_slice ?_)
  | (with_reducible refine g_part ?_)
  | (with_reducible refine g_kOI ?_)
  | (with_reducible refine g_nopart ?_)
  | (with_reducible refine g_yes ?_)
  | ((with_reducible refine' g_wipe ?gv ?_); (case gv => exact rfl))
  | (with_reducible refine iteT ?_)
  | (with_reducible refine iteF ?_)
  | (with_reducible refine i_nf ?_)
  | (with_reducible refine i_nt ?_)
  | ((with_reducible refine' g_gtup ?gh ?gl ?_); (case gh => walk_at "h"); (case gl => exact rfl))
  | ((with_reducible refine' g_notinI ?gh ?_); (case gh => walk_at "h"))
  | ((with_reducible refine' g_inI ?gh ?_); (case gh => walk_at "h"))
  | ((with_reducible refine' g_kget2 ?gh ?_); (case gh => walk_at "h"))
  | ((with_reducible refine' g_kgotI ?gh ?_); (case gh => walk_at "h"))
  | (with_reducible refine g_tRev ?_)
  | (with_reducible refine g_neB ?_)
  | (with_reducible refine g_eqB ?_)
  | ((with_reducible refine' g_lenT ?gh ?_); (case gh => walk_at "h"))
  | (with_reducible refine g_star ?_)
  | ((with_reducible refine' g_kstarL ?gh ?_); (case gh => walk_at "h"))
  | ((with_reducible refine' g_kstarT ?gh ?_); (case gh => walk_at "h"))
  | (with_reducible refine g_tru ?_)
  | ((with_reducible refine' g_truL ?gh ?_); (case gh => walk_at "h"))
  | (with_reducible refine g_get2 ?_)
  | (with_reducible refine g_try ?_)
  | (with_reducible refine g_fld ?_)
  | (with_reducible refine g_sfld ?_)
  | (with_reducible refine g_meth ?_)
  | (with_reducible refine g_make ?_)
  | (with_reducible refine g_del ?_)
  | (with_reducible refine g_callS ?_)
  | (with_reducible refine g_raise ?_)
  | (with_reducible refine g_xf ?_)
  | (with_reducible refine g_m0 ?_)
  | (with_reducible refine g_km0 ?_)
  | walk_at "is")
local macro_rules | `(tactic| walk_at "gg") => `(tactic| repeat walk_at "g")
local macro_rules | `(tactic| walk_at "sz") => `(tactic| (refine sz ?_; simp only [List.length_cons, List.length_nil, List.length_map, List.length_append, List.length_replicate]; omega))
local macro_rules | `(tactic| walk_at "sub") => `(tactic| ((repeat (first | exact List.Sublist.slnil | with_reducible apply List.Sublist.cons_cons | with_reducible apply List.Sublist.cons)); done))

/-! ### the law -/
def gdO (o : Option Tx) : Prop := okO o ∧ ∀ t, o = some t → t.length ≤ 4
theorem way_nodup (s e : Int) (h : e % 2 = 1) : ((List.range 4).map fun k => way (s + e * (k : Nat))).Nodup := by
  have key : ∀ a < 8, ∀ b < 8, b % 2 = 1 → ((List.range 4).map fun k => wayM.getD ((a + b * k) % 8) "").Nodup := by decide +kernel
  have := key (s % 8).toNat (by omega) (e % 8).toNat (by omega) (by omega)
  have e2 : ((List.range 4).map fun k => way (s + e * (k : Nat))) = ((List.range 4).map fun k => wayM.getD (((s % 8).toNat + (e % 8).toNat * k) % 8) "") := by
    apply List.map_congr_left
    intro k hk
    have hk := List.mem_range.mp hk
    have h3 : k = 0 ∨ k = 1 ∨ k = 2 ∨ k = 3 := by omega
    unfold way
    congr 1
    rcases h3 with rfl | rfl | rfl | rfl
    · push_cast
      omega
    · push_cast
      omega
    · push_cast
      omega
    · push_cast
      omega
  rw [e2]
  exact this
/-- a tree of the law's own -/
structure Gd4 (ps : List Str) (A : Tre) : Prop where
  ks : ∀ p ∈ A, p.1 ∈ ps
  ln : A.length ≤ 4
  ok : okTr A
  lt : ∀ p ∈ A, p.2.length ≤ 4
theorem gd4 {ps : List Str} {os : List (Option Tx)} (l : ps.length ≤ 4) (hp : ∀ z ∈ ps, PyData.strOk z = true) (ho : ∀ o ∈ os, gdO o) : Gd4 ps (mkTr ps os) := by
  have mem : ∀ p ∈ mkTr ps os, p.1 ∈ ps ∧ (some p.2) ∈ os := fun p hp => by
    unfold mkTr at hp
    obtain ⟨q, hq, e⟩ := List.mem_filterMap.mp hp
    obtain ⟨t, et, e2⟩ := Option.map_eq_some_iff.mp e
    have := List.of_mem_zip hq
    subst e2
    exact ⟨this.1, et ▸ this.2⟩
  refine ⟨fun p h => (mem p h).1, ?_, fun p h => ⟨hp _ (mem p h).1, (ho _ (mem p h).2).1 _ rfl⟩, fun p h => (ho _ (mem p h).2).2 _ rfl⟩
  have := (mkTr_keys (ps := ps) (os := os)).length_le
  rw [List.length_map] at this
  omega
theorem mok {A X Y : Tre} {ps : List Str} (lp : ps.length ≤ 8) (h : ∀ C ∈ [A, X, Y], Gd4 ps C) : MOk A X Y ps where
  few := lp
  sub := fun C hC => (h C hC).ks
  ln := fun C hC => by have := (h C hC).ln; omega
  ok := fun C hC => (h C hC).ok
  lt := fun C hC p hp => by have := (h C hC).lt p hp; omega
  fit := fun z t e => by
    have lt : ∀ C ∈ [A, X, Y], ∀ t, getT C z = some t → t.length ≤ 4 := fun C hC t e => (h C hC).lt _ (getT_mem e)
    have l1 := lt A (by simp)
    have l2 := lt X (by simp)
    have l3 := lt Y (by simp)
    unfold MT mp at e
    generalize getT A z = b at *
    generalize getT X z = x at *
    generalize getT Y z = y at *
    by_cases e1 : x = y
    · rw [if_pos e1] at e
      have := l2 t e
      omega
    rw [if_neg e1] at e
    by_cases e2 : y = b
    · rw [if_pos e2] at e
      have := l2 t e
      omega
    rw [if_neg e2] at e
    by_cases e3 : x = b
    · rw [if_pos e3] at e
      have := l3 t e
      omega
    rw [if_neg e3] at e
    cases x with
    | none =>
      have := l3 t e
      omega
    | some X0 =>
      cases y with
      | none =>
        have := l2 t e
        omega
      | some Y0 =>
        have e := Option.some.inj e
        subst e
        have k1 := mrg_few (b.getD []) X0 Y0
        have k2 := l2 X0 rfl
        have k3 := l3 Y0 rfl
        have k4 : (b.getD []).length ≤ 4 := by
          cases b with
          | none => exact Nat.zero_le _
          | some t => exact l1 t rfl
        omega
theorem mgd_side {A X Y S B : Tre} (hM : ∀ z, MT A X Y z = (getT S z, none)) (nd : (S.map (·.1)).Nodup) (aB : AscT B) (mB : ∀ p, p ∈ B ↔ p ∈ S) : Mgd A X Y B [] where
  asc := aB
  tx := fun z t => by
    rw [hM, mB]
    exact ⟨fun h => getT_of nd h, fun h => getT_mem h⟩
  casc := by
    show Asc []
    exact List.Pairwise.nil
  cn := fun z n => by
    rw [hM]
    constructor
    · intro h
      cases h
    · intro h
      cases h
theorem mt_xx (A S : Tre) (z : Str) : MT A S S z = (getT S z, none) := by
  unfold MT mp
  rw [if_pos rfl]
theorem mt_xb (A S : Tre) (z : Str) : MT A S A z = (getT S z, none) := by
  unfold MT mp
  by_cases e : getT S z = getT A z
  · rw [if_pos e]
  · rw [if_neg e, if_pos rfl]
theorem mt_bx (A S : Tre) (z : Str) : MT A A S z = (getT S z, none) := by
  unfold MT mp
  by_cases e : getT A z = getT S z
  · rw [if_pos e, e]
  · rw [if_neg e, if_neg (fun h => e h.symm), if_pos rfl]
section
variable {P : Program} {w : World} {K : PySem.W.Frag} {mg : Str → Option Value} {base : Heap}
def sp_law (K : PySem.W.Frag) : Sp := fun vs H Q _ => ∃ (a : Addr) (ns : List Int), vs = [.ref a] ∧ SqL K H a (ns.map V.int) ∧ ns.length ≤ 63 ∧ ∀ H', Q (.bl true) H'
theorem sp_law_len {vs H Q E} (h : sp_law K vs H Q E) : vs.length = 1 := by
  obtain ⟨_, _, rfl, _⟩ := h
  rfl
theorem sp_law_start {H : Hp} {a : Addr} {ns : List Int} (hl : ns.length ≤ 63) (hS : SqL K H a (ns.map V.int)) : sp_law K [.ref a] H (fun v _ => v = .bl true) (fun _ _ _ => False) := ⟨a, ns, rfl, hS, hl, fun _ => rfl⟩
set_option maxHeartbeats 8000000 in
theorem ok_law (T : Txt K mg) : FnOk P w K mg base CX0 10 T.f_law T.fd_law ["script"] (sp_law K) := by
  refine T.F_law.ok sc_law (fun vs H Q E h => sp_law_len h) (fun cdv A outer s H vs Q E hr h => ?_)
  refine ⟨_, (pss_cons (ps_set (i := 1) sc_law.nd rfl (.inr rfl) (pe_call (ok_l_feed T) (hr.mono (by decide)) (by rfl) T.g_l_feed T.F_l_feed.kp T.b_l_feed .nil pass0 (pa_cons (pv 0) pa_nil)))
      (pss_cons (ps_set (i := 2) sc_law.nd rfl (.inr rfl) (pe_call (ok_l_next T) (hr.mono (by decide)) (by rfl) T.g_l_next T.F_l_next.kp T.b_l_next .nil pass0 (pa_cons (pv 1) (pa_cons pe_int pa_nil))))
      (pss_cons (ps_set (i := 3) sc_law.nd rfl (.inr rfl) (pe_ix (ix_K K (hu_of hr)) (pe_lst (pa_cons pe_int (pa_cons pe_int (pa_cons pe_int (pa_cons pe_int pa_nil))))) (pe_call (ok_l_next T) (hr.mono (by decide)) (by rfl) T.g_l_next T.F_l_next.kp T.b_l_next .nil pass0 (pa_cons (pv 1) (pa_cons pe_int pa_nil))) (fun _ _ => rfl)))
      (pss_cons (ps_setLc (i := 4) (own := [("k", 14)]) (g := gName 14) (tt := tYes) rfl sc_law.nd rfl rfl (sw_true rfl rfl rfl (by decide +kernel)) (pi_range1 rfl T.m_range (pa_cons pe_int pa_nil)) (blkOk_by (N := n_law) (sc := defScope s_law) (by decide +kernel)) (fun _ _ _ _ _ => (pg_name (i := 14) sc_law.nd rfl (.inl rfl))) (fun _ _ _ _ _ => pts_nil) (fun _ _ _ _ _ => (pe_call (ok_l_way T) (hr.mono (by decide)) (by rfl) T.g_l_way T.F_l_way.kp T.b_l_way .nil pass0 (pa_cons (pe_op (op_addK K) (pv 2) (pe_op op_mulA (pv 3) (pv 14))) pa_nil))))
      (pss_cons (ps_set (i := 5) sc_law.nd rfl (.inl rfl) (pe_lst (pa_cons (pe_lst (pa_cons pe_int (pa_cons pe_int (pa_cons pe_int (pa_cons pe_int pa_nil))))) (pa_cons (pe_lst (pa_cons pe_int (pa_cons pe_int (pa_cons pe_int (pa_cons pe_int pa_nil))))) (pa_cons (pe_lst (pa_cons pe_int (pa_cons pe_int (pa_cons pe_int (pa_cons pe_int pa_nil))))) pa_nil)))))
      (pss_cons (ps_set (i := 6) sc_law.nd rfl (.inl rfl) (pe_lst pa_nil))
      (pss_cons (ps_for PassesOwn.never rfl (k_il K (pi_list (pv 5))) (pg_name (i := 7) sc_law.nd rfl (.inl rfl)) (pss_cons (ps_setLc (i := 8) (own := [("place", 15)]) (g := gName 15) (tt := tYes) rfl sc_law.nd rfl rfl (sw_true rfl rfl rfl (by decide +kernel)) (k_il K (pi_list (pv 7))) (blkOk_by (N := n_law) (sc := defScope s_law) (by decide +kernel)) (fun _ _ _ _ _ => (pg_name (i := 15) sc_law.nd rfl (.inl rfl))) (fun _ _ _ _ _ => pts_nil) (fun _ _ _ _ _ => (pe_call (ok_l_text T) (hr.mono (by decide)) (by rfl) T.g_l_text T.F_l_text.kp T.b_l_text .nil pass0 (pa_cons (pe_op (op_addK K) (pe_call (ok_l_next T) (hr.mono (by decide)) (by rfl) T.g_l_next T.F_l_next.kp T.b_l_next .nil pass0 (pa_cons (pv 1) (pa_cons pe_int pa_nil))) (pv 15)) pa_nil))))
      (pss_one (ps_expr (k_bm K (pe_bm PySem.F.plainAttrs_list PySem.F.slot_list_append PySem.F.type_list_append mt_append (pv 6) (pa_cons (pe_call (ok_l_made T) (hr.mono (by decide)) (by rfl) T.g_l_made T.F_l_made.kp T.b_l_made .nil pass0 (pa_cons (pv 4) (pa_cons (pv 8) pa_nil))) pa_nil)))))))
      (pss_cons (ps_set (i := 9) sc_law.nd rfl (.inl rfl) (pe_ix (ix_K K (hu_of hr)) (pv 6) pe_int (fun _ _ => rfl)))
      (pss_cons (ps_set (i := 10) sc_law.nd rfl (.inl rfl) (pe_ix (ix_K K (hu_of hr)) (pv 6) pe_int (fun _ _ => rfl)))
      (pss_cons (ps_set (i := 11) sc_law.nd rfl (.inl rfl) (pe_ix (ix_K K (hu_of hr)) (pv 6) pe_int (fun _ _ => rfl)))
      (pss_cons (ps_set (i := 12) sc_law.nd rfl (.inl rfl) (pe_call (ok_l_merged T) (hr.mono (by decide)) (by rfl) T.g_l_merged T.F_l_merged.kp T.b_l_merged .nil pass0 (pa_cons (pv 4) (pa_cons (pv 9) (pa_cons (pv 10) (pa_cons (pv 11) pa_nil))))))
      (pss_cons (ps_if (pt_not (pt_val (pe_call (ok_l_holds T) (hr.mono (by decide)) (by rfl) T.g_l_holds T.F_l_holds.kp T.b_l_holds .nil pass0 (pa_cons (pe_lst (pa_cons (pv 9) (pa_cons (pv 10) (pa_cons (pv 11) pa_nil)))) (pa_cons (pv 12) pa_nil))))) (pss_one (ps_ret pe_bl)) pss_nil)
      (pss_cons (ps_set (i := 12) sc_law.nd rfl (.inl rfl) (pe_call (ok_l_merged T) (hr.mono (by decide)) (by rfl) T.g_l_merged T.F_l_merged.kp T.b_l_merged .nil pass0 (pa_cons (pv 4) (pa_cons (pv 9) (pa_cons (pv 11) (pa_cons (pv 10) pa_nil))))))
      (pss_cons (ps_if (pt_not (pt_val (pe_call (ok_l_holds T) (hr.mono (by decide)) (by rfl) T.g_l_holds T.F_l_holds.kp T.b_l_holds .nil pass0 (pa_cons (pe_lst (pa_cons (pv 9) (pa_cons (pv 11) (pa_cons (pv 10) pa_nil)))) (pa_cons (pv 12) pa_nil))))) (pss_one (ps_ret pe_bl)) pss_nil)
      (pss_cons (ps_for PassesOwn.never rfl (k_il K (pi_list (pe_lst (pa_cons (pv 10) (pa_cons (pv 11) pa_nil))))) (pg_name (i := 13) sc_law.nd rfl (.inl rfl)) (pss_cons (ps_set (i := 12) sc_law.nd rfl (.inl rfl) (pe_tup (pa_cons (pe_call (ok_l_rising T) (hr.mono (by decide)) (by rfl) T.g_l_rising T.F_l_rising.kp T.b_l_rising .nil pass0 (pa_cons (pv 13) pa_nil)) (pa_cons (pe_lst pa_nil) pa_nil))))
      (pss_cons (ps_if (pt_not (pt_val (pe_call (ok_l_holds T) (hr.mono (by decide)) (by rfl) T.g_l_holds T.F_l_holds.kp T.b_l_holds .nil pass0 (pa_cons (pe_lst (pa_cons (pv 9) (pa_cons (pv 13) (pa_cons (pv 13) pa_nil)))) (pa_cons (pv 12) pa_nil))))) (pss_one (ps_ret pe_bl)) pss_nil)
      (pss_cons (ps_if (pt_not (pt_val (pe_call (ok_l_holds T) (hr.mono (by decide)) (by rfl) T.g_l_holds T.F_l_holds.kp T.b_l_holds .nil pass0 (pa_cons (pe_lst (pa_cons (pv 9) (pa_cons (pv 13) (pa_cons (pv 9) pa_nil)))) (pa_cons (pv 12) pa_nil))))) (pss_one (ps_ret pe_bl)) pss_nil)
      (pss_one (ps_if (pt_not (pt_val (pe_call (ok_l_holds T) (hr.mono (by decide)) (by rfl) T.g_l_holds T.F_l_holds.kp T.b_l_holds .nil pass0 (pa_cons (pe_lst (pa_cons (pv 9) (pa_cons (pv 9) (pa_cons (pv 13) pa_nil)))) (pa_cons (pv 12) pa_nil))))) (pss_one (ps_ret pe_bl)) pss_nil))))))
      (pss_one (ps_ret pe_bl))))))))))))))))), ?_⟩
  obtain ⟨sc, ns, rfl, hS, hl, q⟩ := h
  refine g_start (σ' := [some (.ref sc), none, none, none, none, none, none, none, none, none, none, none, none, none, none, none]) rfl ?_
  walk_at "gg"
  refine ⟨sc, ns, rfl, hS, hl, fun c H1 F wc rows n1 s1 h dqc lr => ?_⟩
  clear n1 s1 hS
  -- the paths
  walk_at "gg"
  refine ⟨c, 8, F, wc, rows, rfl, h, dqc, lr, by decide, by decide, fun H5 F wc rows st hb g hs dqc lr st0 st1 => ?_⟩
  have h := h.grown .hd hb g hs.same (hs.get (List.Mem.head _))
  clear hb g hs
  walk_at "gg"
  refine g_klst (by walk_at "sz") h (fun p6 H6 n6 h6 => ?_)
  walk_at "gg"
  refine ⟨c, 4, F, wc, rows, rfl, h6.drop, dqc, lr, by decide, by decide, fun H7 F wc rows ix hb g hs dqc lr i0 i1 => ?_⟩
  have h7 := h6.grown (by walk_at "c") hb g hs.same (hs.get (List.Mem.head _))
  refine g_ixI (xs := [3, 1, 5, 7]) (h7.get (List.Mem.head _)) i0 (by exact i1) (fun stp hst => ?_)
  have hodd : stp % 2 = 1 := by
    have := List.mem_of_getElem? hst
    simp only [List.mem_cons, List.not_mem_nil, or_false] at this
    omega
  have lst : 0 ≤ stp ∧ stp ≤ 7 := by
    have := List.mem_of_getElem? hst
    simp only [List.mem_cons, List.not_mem_nil, or_false] at this
    omega
  have h := h7.drop
  clear hb g hs h6 h7 n6 hst i0 i1
  walk_at "gg"
  refine k_lcR1 (by decide) (by decide) h (fun i acc F' O' => acc = (((List.range i).map fun k => way (st + stp * (k : Nat)))).map V.str ∧ F = F' ∧ O' = [(c, HO.lst wc)]) ⟨rfl, rfl, rfl⟩ ?_ ?_
  · rintro i acc F' O' D H2 hi ⟨rfl, rfl, rfl⟩ hh
    have hi' : i < 4 := hi
    walk_at "gg"
    refine g_mulI (.inl ⟨by omega, by omega⟩) ?_
    walk_at "gg"
    refine ⟨_, rfl, fun H3 s3 => ?_⟩
    refine k_turn (hh.on s3) (by rw [List.length_map, List.length_map, List.length_range]; omega) ⟨?_, rfl, rfl⟩
    rw [List.range_succ, List.map_append, List.map_append]
    rfl
  rintro acc F2 O2 pl H2 ⟨rfl, rfl, rfl⟩ h2
  have e3 : ((4 : Int)).toNat = 4 := rfl
  rw [e3] at h2
  have ndp := way_nodup st stp hodd
  have okp : ∀ z ∈ (List.range 4).map fun k => way (st + stp * (k : Nat)), PyData.strOk z = true := fun z hz => by
    obtain ⟨k, _, rfl⟩ := List.mem_map.mp hz
    exact way_ok _
  have lp : ((List.range 4).map fun k => way (st + stp * (k : Nat))).length = 4 := rfl
  generalize ((List.range 4).map fun k => way (st + stp * (k : Nat))) = ps at h2 ndp okp lp
  have sG := h2.grow
  have h := h2.frz
  have fpl : upd F pl (.lst (ps.map V.str)) pl = some (.lst (ps.map V.str)) := upd_same
  have dqc := dqc.up sG _ _
  clear h2 sG
  generalize upd F pl (.lst (ps.map V.str)) = F at h fpl dqc
  -- the rows
  walk_at "gg"
  refine g_klstF (by walk_at "sz") h (fun r1 H3 F1 n1 s1 f1 h => ?_)
  walk_at "gg"
  refine g_klstF (by walk_at "sz") h (fun r2 H4 F2 n2 s2 f2 h => ?_)
  walk_at "gg"
  refine g_klstF (by walk_at "sz") h (fun r3 H5 F3 n3 s3 f3 h => ?_)
  walk_at "gg"
  refine g_klstF (by walk_at "sz") h (fun rw_ H6 F4 n4 s4 f4 h => ?_)
  have sF : Same F F4 := s1.trans (s2.trans (s3.trans s4))
  have fpl := sF _ _ fpl
  have dqc := dqc.up sF _ _
  have f1 := s4 _ _ (s3 _ _ (s2 _ _ f1))
  have f2 := s4 _ _ (s3 _ _ f2)
  have f3 := s4 _ _ f3
  have rowAt : ∀ x, x ∈ [V.ref r1, V.ref r2, V.ref r3] → ∃ (a : Addr) (is : List Int), x = .ref a ∧ F4 a = some (.lst (is.map V.int)) ∧ is.length = 4 := fun x hx => by
    simp only [List.mem_cons, List.not_mem_nil, or_false] at hx
    rcases hx with rfl | rfl | rfl
    · exact ⟨r1, [2, 2, 0, 2], rfl, f1, rfl⟩
    · exact ⟨r2, [3, 5, 7, 0], rfl, f2, rfl⟩
    · exact ⟨r3, [4, 8, 1, 6], rfl, f3, rfl⟩
  clear f1 f2 f3 s1 s2 s3 s4 n1 n2 n3 n4 sF
  -- the trees
  walk_at "gg"
  refine g_klst (by walk_at "sz") h (fun tl H7 n7 h => ?_)
  walk_at "gg"
  refine k_forL (h.same _ _ f4) (fun t σ H' => ∃ (F' : Hp) (ds : List Addr) (As : List Tre) (wc : List V) (rows : List (Int × Int)) (y7 y8 : Option V), σ = [some (.ref sc), some (.ref c), some (.int st), some (.int stp), some (.ref pl), some (.ref rw_), some (.ref tl), y7, y8, none, none, none, none, none, none, none] ∧ Same F4 F' ∧ Has F' [(tl, .lst (ds.map V.ref)), (c, .lst wc)] H' ∧ Trs F' ds As ∧ As.length = t ∧ (∀ A ∈ As, Gd4 ps A) ∧ DqAll F' wc (rows.map cellD) ∧ rows.length ≤ 100)
    ⟨F4, [], [], wc, rows, _, _, rfl, Same.refl _, h, .nil, rfl, (fun A hA => by cases hA), dqc, lr⟩ ?_ ?_ ?_
  · rintro t σ H' _ ⟨F', ds, As, wc, rows, y7, y8, rfl, sF, hh, _⟩
    exact hh.same _ _ (sF _ _ f4)
  · rintro t x σ H8 hx ⟨F', ds, As, wc, rows, y7, y8, rfl, sF, h8, ts_, lAs, gA, dqc, lr⟩
    obtain ⟨ra, is, rfl, fra, lis⟩ := rowAt x (List.mem_of_getElem? hx)
    have lt : t < 3 := (List.getElem?_eq_some_iff.mp hx).1
    have fra := sF _ _ fra
    have fpl := sF _ _ fpl
    have lds := ts_.len
    walk_at "gg"
    refine k_lcL (h8.same _ _ fra) h8 (fun i acc F2 O' => ∃ (os : List (Option Tx)) (wc : List V) (rows : List (Int × Int)), DqAll F2 acc (os.map oxD) ∧ os.length = i ∧ (∀ o ∈ os, gdO o) ∧ Same F' F2 ∧ O' = [(tl, HO.lst (ds.map V.ref)), (c, HO.lst wc)] ∧ DqAll F2 wc (rows.map cellD) ∧ rows.length ≤ 100) ⟨[], wc, rows, .nil, rfl, by simp, Same.refl _, rfl, dqc, lr⟩ ?_ ?_ ?_
    · rintro i acc F2 O' H9 ⟨_, _, _, _, _, _, s, rfl, _, _⟩ hh
      exact hh.same _ _ (s _ _ fra)
    · rintro i v acc F2 O' D H9 hv ⟨os, wc, rows, da, rfl, gos, s2, rfl, dqc, lr⟩ hh
      rw [List.getElem?_map] at hv
      obtain ⟨pl_, hk, rfl⟩ := Option.map_eq_some_iff.mp hv
      have lk := (List.getElem?_eq_some_iff.mp hk).1
      have la := ox_len da
      walk_at "gg"
      refine ⟨c, 10, F2, wc, rows, rfl, hh.sub (by walk_at "sub"), dqc, lr, by decide, by decide, fun H10 F3 wc3 rows3 r hb g hs dq3 l3 r0 r1 => ?_⟩
      have h10 := hh.grown (by walk_at "c") hb g hs.same (hs.get (List.Mem.head _))
      walk_at "gg"
      refine ⟨_, rfl, fun v H11 s11 fv => ?_⟩
      obtain ⟨F5, sF5, h11, dv⟩ := h10.fr s11 fv
      refine k_turn h11 (by omega) ⟨os ++ [text (r + pl_)], wc3, rows3, ?_, by rw [List.length_append]; rfl, fun x hx => ?_, (s2.trans g.1).trans sF5, rfl, dq3.up sF5 _ _, l3⟩
      · rw [List.map_append]
        exact (da.up (g.1.trans sF5) _ _).snoc dv
      · rcases List.mem_append.mp hx with hx | hx
        · exact gos x hx
        · rw [List.mem_singleton.mp hx]
          exact text_ok _
    rintro acc F2 O2 q4 H9 ⟨os, wc3, rows3, da, los, gos, s2, rfl, dqc3, lr3⟩ h9
    rw [List.length_map, lis] at los
    walk_at "gg"
    refine ⟨pl, q4, ps, acc, os, rfl, h9.same _ _ (s2 _ _ fpl), h9.get (List.Mem.head _), da.up h9.same _ _, by omega, by omega, ndp, fun d B H10 h10 eB => ?_⟩
    obtain ⟨F5, sF5, h10, nw⟩ := h9.join h10
    have nB : (B.map (·.1)).Nodup := by rw [← bA_keys, eB]; exact mkTr_keys.nodup ndp
    have tn : TrAt F5 d (mkTr ps os) := by rw [← eB]; exact tr_own nw nB
    have h10 := h10.sub (O' := [(tl, HO.lst (ds.map V.ref)), (c, HO.lst wc3)]) (by walk_at "sub")
    walk_at "gg"
    refine g_append h10 .hd (szl (by rw [List.length_map]; omega)) (fun H11 h11 => ?_)
    walk_at "gg"
    refine ⟨F5, ds ++ [d], As ++ [mkTr ps os], wc3, rows3, _, _, rfl, (sF.trans s2).trans sF5, ?_, (ts_.up (s2.trans sF5)).snoc tn, by rw [List.length_append, lAs]; rfl, fun A hA => ?_, dqc3.up sF5 _ _, lr3⟩
    · rw [List.map_append]
      exact h11
    · rcases List.mem_append.mp hA with hA | hA
      · exact gA A hA
      · rw [List.mem_singleton.mp hA]
        exact gd4 (by omega) okp gos
  rintro σ H8 ⟨F5, ds, As, wc3, rows3, y7, y8, rfl, sF, h8, tt, lAs, gA, _, _⟩
  have lAs : As.length = 3 := lAs
  have lds := tt.len
  have fpl := sF _ _ fpl
  have ndA : ∀ d A, TrAt F5 d A → (A.map (·.1)).Nodup := fun d A t => by
    obtain ⟨_, _, _, n, _⟩ := t
    exact n
  obtain ⟨d0, d1, d2, rfl⟩ : ∃ d0 d1 d2, ds = [d0, d1, d2] := by
    match ds, lds.trans lAs with
    | [a, b, c], _ => exact ⟨a, b, c, rfl⟩
  obtain ⟨A, X, Y, rfl⟩ : ∃ A X Y, As = [A, X, Y] := by
    match As, lAs with
    | [a, b, c], _ => exact ⟨a, b, c, rfl⟩
  have t0 : TrAt F5 d0 A := by cases tt; assumption
  have t1 : TrAt F5 d1 X := by cases tt with | cons _ tt => cases tt; assumption
  have t2 : TrAt F5 d2 Y := by cases tt with | cons _ tt => cases tt with | cons _ tt => cases tt; assumption
  have gM : ∀ {A' X' Y' : Tre}, A' ∈ [A, X, Y] → X' ∈ [A, X, Y] → Y' ∈ [A, X, Y] → MOk A' X' Y' ps := fun ha hx hy => mok (by omega) fun C hC => by
    simp only [List.mem_cons, List.not_mem_nil, or_false] at hC
    rcases hC with rfl | rfl | rfl
    · exact gA _ ha
    · exact gA _ hx
    · exact gA _ hy
  clear sF rowAt f4 dqc lr h n7 tt lds lAs
  walk_at "gg"
  refine g_ixL (v := .ref d0) (h8.get (List.Mem.head _)) (atI_nat (j := 0) rfl) ?_
  walk_at "gg"
  refine g_ixL (v := .ref d1) (h8.get (List.Mem.head _)) (atI_nat (j := 1) rfl) ?_
  walk_at "gg"
  refine g_ixL (v := .ref d2) (h8.get (List.Mem.head _)) (atI_nat (j := 2) rfl) ?_
  have h8 : Has F5 [] H8 := h8.sub (List.nil_sublist _)
  walk_at "gg"
  refine ⟨pl, d0, d1, d2, ps, A, X, Y, rfl, h8.same _ _ fpl, ndp, t0.up h8.same, t1.up h8.same, t2.up h8.same, gM (by simp) (by simp) (by simp), fun u C cl H9 s9 du mg => ?_⟩
  have h9 := h8.on s9
  walk_at "gg"
  refine g_klst (by walk_at "sz") h9.all (fun k1 H10 n10 h10 => ?_)
  have h9 := h9.on h10.same
  walk_at "gg"
  refine ⟨k1, u, [d0, d1, d2], A, X, Y, C, cl, ps, rfl, h10.get (List.Mem.head _), .cons (t0.up h9.same) (.cons (t1.up h9.same) (.cons (t2.up h9.same) .nil)), du.up h10.same, mg, gM (by simp) (by simp) (by simp), fun H11 s11 => ?_⟩
  have h8 := h9.on s11
  clear h9 h10 du mg s9 s11 n10
  walk_at "gg"
  refine ⟨pl, d0, d2, d1, ps, A, Y, X, rfl, h8.same _ _ fpl, ndp, t0.up h8.same, t2.up h8.same, t1.up h8.same, gM (by simp) (by simp) (by simp), fun u C cl H9 s9 du mg => ?_⟩
  have h9 := h8.on s9
  walk_at "gg"
  refine g_klst (by walk_at "sz") h9.all (fun k1 H10 n10 h10 => ?_)
  have h9 := h9.on h10.same
  walk_at "gg"
  refine ⟨k1, u, [d0, d2, d1], A, Y, X, C, cl, ps, rfl, h10.get (List.Mem.head _), .cons (t0.up h9.same) (.cons (t2.up h9.same) (.cons (t1.up h9.same) .nil)), du.up h10.same, mg, gM (by simp) (by simp) (by simp), fun H12 s12 => ?_⟩
  have h8 := h9.on s12
  clear h9 h10 du mg s9 s12 n10
  walk_at "gg"
  refine g_klst (by walk_at "sz") h8 (fun al H13 n13 h13 => ?_)
  walk_at "gg"
  refine k_forL (h13.get (List.Mem.head _)) (fun t σ H' => ∃ (y12 y13 : Option V), σ = [some (.ref sc), some (.ref c), some (.int st), some (.int stp), some (.ref pl), some (.ref rw_), some (.ref tl), y7, y8, some (.ref d0), some (.ref d1), some (.ref d2), y12, y13, none, none] ∧ Has F5 [(al, .lst [V.ref d1, V.ref d2])] H') ⟨_, _, rfl, h13⟩ ?_ ?_ ?_
  · rintro t σ H' _ ⟨y12, y13, rfl, hh⟩
    exact hh.get (List.Mem.head _)
  · rintro t x σ H14 hx ⟨y12, y13, rfl, h14⟩
    obtain ⟨e, S, rfl, te, mS⟩ : ∃ (e : Addr) (S : Tre), x = .ref e ∧ TrAt F5 e S ∧ S ∈ [A, X, Y] := by
      have hx := List.mem_of_getElem? hx
      simp only [List.mem_cons, List.not_mem_nil, or_false] at hx
      rcases hx with rfl | rfl
      · exact ⟨d1, X, rfl, t1, by simp⟩
      · exact ⟨d2, Y, rfl, t2, by simp⟩
    have mA : A ∈ [A, X, Y] := by simp
    have nS := ndA e S te
    walk_at "gg"
    refine ⟨e, S, rfl, te.up h14.same, by have := (gA S mS).ln; omega, fun dd B H15 hB aB mB => ?_⟩
    obtain ⟨F6, s6, h15, nw⟩ := h14.join hB
    have tdd : TrAt F6 dd (bA B) := tr_own nw (by rw [← bA_keys]; exact aB.nd)
    walk_at "gg"
    refine g_klstF (by walk_at "sz") h15 (fun ne H16 F7 n16 s7 f7 h16 => ?_)
    walk_at "gg"
    refine g_ktupF (by walk_at "sz") h16 (fun u2 H17 F8 n17 s8 f8 h17 => ?_)
    have du : DueAt F8 u2 (bA B) [] := ⟨dd, ne, [], f8, tdd.up (s7.trans s8), s8 _ _ f7, .nil⟩
    have s58 := s6.trans (s7.trans s8)
    have t0 := t0.up s58
    have te := te.up s58
    clear f8 f7 tdd nw hB h14 h15 h16
    walk_at "gg"
    refine g_klst (by walk_at "sz") h17 (fun k1 H18 n18 h18 => ?_)
    walk_at "gg"
    refine ⟨k1, u2, [d0, e, e], A, S, S, bA B, [], ps, rfl, h18.get (List.Mem.head _), .cons (t0.up h18.same) (.cons (te.up h18.same) (.cons (te.up h18.same) .nil)), du.up h18.same, mgd_side (mt_xx A S) nS aB mB, gM mA mS mS, fun H19 s19 => ?_⟩
    have h19 := (h18.on s19).drop
    walk_at "gg"
    refine g_klst (by walk_at "sz") h19 (fun k2 H20 n20 h20 => ?_)
    walk_at "gg"
    refine ⟨k2, u2, [d0, e, d0], A, S, A, bA B, [], ps, rfl, h20.get (List.Mem.head _), .cons (t0.up h20.same) (.cons (te.up h20.same) (.cons (t0.up h20.same) .nil)), du.up h20.same, mgd_side (mt_xb A S) nS aB mB, gM mA mS mA, fun H21 s21 => ?_⟩
    have h21 := (h20.on s21).drop
    walk_at "gg"
    refine g_klst (by walk_at "sz") h21 (fun k3 H22 n22 h22 => ?_)
    walk_at "gg"
    refine ⟨k3, u2, [d0, d0, e], A, A, S, bA B, [], ps, rfl, h22.get (List.Mem.head _), .cons (t0.up h22.same) (.cons (t0.up h22.same) (.cons (te.up h22.same) .nil)), du.up h22.same, mgd_side (mt_bx A S) nS aB mB, gM mA mA mS, fun H23 s23 => ?_⟩
    have h23 := (h22.on s23).drop
    walk_at "gg"
    exact ⟨_, _, rfl, ⟨s58.trans h23.same, fun q hq => ⟨s58.free (h23.own q hq).1, (h23.own q hq).2⟩, h23.nd⟩⟩
  · rintro σ H14 ⟨y12, y13, rfl, h14⟩
    walk_at "gg"
    exact q H14
end

end K09

namespace K09
open PySem PySem.Spec PyProof.Rows L2 Qk
local macro_rules | `(tactic| walk_at "m") => `(tactic| ((repeat (first | exact List.Mem.head _ | apply List.Mem.tail)); done))
local macro_rules | `(tactic| walk_at "h") => `(tactic| first | assumption | exact Has.gF (by assumption) (by assumption) | exact Has.get (by assumption) (by walk_at "m"))
local macro_rules | `(tactic| walk_at "c") => `(tactic| ((repeat (first | exact Chg.hd | apply Chg.tl)); done))
local macro_rules | `(tactic| walk_at "is") => `(tactic| first
  | ((with_reducible refine' is2_non ?gh ?_); (case gh => walk_at "h"))
  | (with_reducible refine is_int_list ?_)
  | (with_reducible refine is_int_tuple ?_)
  | (with_reducible refine is_int_dict ?_)
  | (with_reducible refine is_int_int ?_)
  | (with_reducible refine is_int_bool ?_)
  | (with_reducible refine is_int_str ?_)
  | ((with_reducible refine' is2_int ?gh ?_); (case gh => walk_at "h"))
  | (with_reducible refine is_str_list ?_)
  | (with_reducible refine is_str_tuple ?_)
  | (with_reducible refine is_str_dict ?_)
  | (with_reducible refine is_str_int ?_)
  | (with_reducible refine is_str_bool ?_)
  | (with_reducible refine is_str_str ?_)
  | ((with_reducible refine' is2_str ?gh ?_); (case gh => walk_at "h"))
  | (with_reducible refine is_bool_list ?_)
  | (with_reducible refine is_bool_tuple ?_)
  | (with_reducible refine is_bool_dict ?_)
  | (with_reducible refine is_bool_int ?_)
  | (with_reducible refine is_bool_bool ?_)
  | (with_reducible refine is_bool_str ?_)
  | ((with_reducible refine' is2_bool ?gh ?_); (case gh => walk_at "h"))
  | ((with_reducible refine' is_list_list ?gh ?_); (case gh => walk_at "h"))
  | ((with_reducible refine' is_list_tuple ?gh ?_); (case gh => walk_at "h"))
  | ((with_reducible refine' is_list_dict ?gh ?_); (case gh => walk_at "h"))
  | ((with_reducible refine' is_list_int ?gh ?_); (case gh => walk_at "h"))
  | ((with_reducible refine' is_list_bool ?gh ?_); (case gh => walk_at "h"))
  | ((with_reducible refine' is_list_str ?gh ?_); (case gh => walk_at "h"))
  | ((with_reducible refine' is2_list ?ga ?gb ?_); (case ga => walk_at "h"); (case gb => walk_at "h"))
  | ((with_reducible refine' is_tuple_list ?gh ?_); (case gh => walk_at "h"))
  | ((with_reducible refine' is_tuple_tuple ?gh ?_); (case gh => walk_at "h"))
  | ((with_reducible refine' is_tuple_dict ?gh ?_); (case gh => walk_at "h"))
  | ((with_reducible refine' is_tuple_int ?gh ?_); (case gh => walk_at "h"))
  | ((with_reducible refine' is_tuple_bool ?gh ?_); (case gh => walk_at "h"))
  | ((with_reducible refine' is_tuple_str ?gh ?_); (case gh => walk_at "h"))
  | ((with_reducible refine' is2_tuple ?ga ?gb ?_); (case ga => walk_at "h"); (case gb => walk_at "h"))
  | ((with_reducible refine' is_dict_list ?gh ?_); (case gh => walk_at "h"))
  | ((with_reducible refine' is_dict_tuple ?gh ?_); (case gh => walk_at "h"))
  | ((with_reducible refine' is_dict_dict ?gh ?_); (case gh => walk_at "h"))
  | ((with_reducible refine' is_dict_int ?gh ?_); (case gh => walk_at "h"))
  | ((with_reducible refine' is_dict_bool ?gh ?_); (case gh => walk_at "h"))
  | ((with_reducible refine' is_dict_str ?gh ?_); (case gh => walk_at "h"))
  | ((with_reducible refine' is2_dict ?ga ?gb ?_); (case ga => walk_at "h"); (case gb => walk_at "h")))
local macro_rules | `(tactic| walk_at "g") => `(tactic| first
  | (with_reducible refine g_seq ?_)
  | (with_reducible refine g_asg ?_)
  | ((with_reducible refine g_name ?_); dsimp only [List.set, wipe, List.map])
  | ((with_reducible refine' g_var ?gv ?_); (case gv => exact rfl))
  | (with_reducible refine g_c ?_)
  | (with_reducible refine g_op ?_)
  | (with_reducible refine g_cons ?_)
  | (with_reducible refine g_nil ?_)
  | (with_reducible refine g_cb ?_)
  | (with_reducible refine g_call ?_)
  | (with_reducible refine g_tup ?_)
  | (with_reducible refine g_lst ?_)
  | (with_reducible refine g_bm ?_)
  | (with_reducible refine g_bm0 ?_)
  | ((with_reducible refine' g_kbm ?gh ?_); (case gh => walk_at "h"))
  | (with_reducible refine g_drop ?_)
  | (with_reducible refine g_ret ?_)
  | (with_reducible refine g_retN ?_)
  | (with_reducible refine g_next ?_)
  | (with_reducible refine g_brk ?_)
  | (with_reducible refine g_cont ?_)
  | (with_reducible refine g_if ?_)
  | ((with_reducible refine' g_aug ?gv ?_); (case gv => exact rfl))
  | (with_reducible refine g_ipI ?_)
  | (with_reducible refine g_test ?_)
  | (with_reducible refine g_tB ?_)
  | (with_reducible refine g_kB ?_)
  | (with_reducible refine g_not ?_)
  | (with_reducible refine g_and ?_)
  | (with_reducible refine g_or ?_)
  | (with_reducible refine g_andV ?_)
  | (with_reducible refine g_orV ?_)
  | (with_reducible refine g_notV ?_)
  | (with_reducible refine g_ifE ?_)
  | (with_reducible refine g_addI ?_)
  | (with_reducible refine g_rI0 ?_)
  | (with_reducible refine g_eqI ?_)
  | (with_reducible refine g_eqS ?_)
  | (with_reducible refine g_neI ?_)
  | (with_reducible refine g_neS ?_)
  | (with_reducible refine g_isN ?_)
  | (with_reducible refine g_notN ?_)
  | (with_reducible refine g_int ?_)
  | (with_reducible refine g_max2 ?_)
  | (with_reducible refine g_min2 ?_)
  | ((with_reducible refine' g_lenL ?gh ?_); (case gh => walk_at "h"))
  | (with_reducible refine g_sub ?_)
  | (with_reducible refine g_gcons ?_)
  | (with_reducible refine g_gnil ?_)
  | (with_reducible refine g_un ?_)
  | (with_reducible refine g_rU ?_)
  | (with_reducible refine g_forL ?_)
  | (with_reducible refine g_forS ?_)
  | (with_reducible refine g_forR1 ?_)
  | (with_reducible refine g_forR2 ?_)
  | (with_reducible refine g_forR3 ?_)
  | (with_reducible refine g_lcL ?_)
  | (with_reducible refine g_lcR1 ?_)
  | (with_reducible refine g_lcR2 ?_)
  | (with_reducible refine g_slice ?_)
  | (with_reducible refine g_part ?_)
  | (with_reducible refine g_kOI ?_)
  | (with_reducible refine g_nopart ?_)
  | (with_reducible refine g_yes ?_)
  | ((with_reducible refine' g_wipe ?gv ?_); (case gv => exact rfl))
  | (with_reducible refine iteT ?_)
  | (with_reducible refine iteF ?_)
  | (with_reducible refine i_nf ?_)
  | (with_reducible refine i_nt ?_)
  | ((with_reducible refine' g_gtup ?gh ?gl ?_); (case gh => walk_at "h"); (case gl => exact rfl))
  | ((with_reducible refine' g_notinI ?gh ?_); (case gh => walk_at "h"))
  | ((with_reducible refine' g_inI ?gh ?_); (case gh => walk_at "h"))
  | ((with_reducible refine' g_kget2 ?gh ?_); (case gh => walk_at "h"))
  | ((with_reducible refine' g_kgotI ?gh ?_); (case gh => walk_at "h"))
  | (with_reducible refine g_tRev ?_)
  | (with_reducible refine g_neB ?_)
  | (with_reducible refine g_eqB ?_)
  | ((with_reducible refine' g_lenT ?gh ?_); (case gh => walk_at "h"))
  | (with_reducible refine g_star ?_)
  | ((with_reducible refine' g_kstarL ?gh ?_); (case gh => walk_at "h"))
  | ((with_reducible refine' g_kstarT ?gh ?_); (case gh => walk_at "h"))
  | (with_reducible refine g_tru ?_)
  | ((with_reducible refine' g_truL ?gh ?_); (case gh => walk_at "h"))
  | (with_reducible refine g_get2 ?_)
  | (with_reducible refine g_try ?_)
  | (with_reducible refine g_fld ?_)
  | (with_reducible refine g_sfld ?_)
  | (with_reducible refine g_meth ?_)
  | (with_reducible refine g_make ?_)
  | (with_reducible refine g_del ?_)
  | (with_reducible refine g_callS ?_)
  | (with_reducible refine g_raise ?_)
  | (with_reducible refine g_xf ?_)
  | (with_reducible refine g_m0 ?_)
  | (with_reducible refine g_km0 ?_)
  | walk_at "is")
local macro_rules | `(tactic| walk_at "gg") => `(tactic| repeat walk_at "g")
local macro_rules | `(tactic| walk_at "sz") => `(tactic| (refine sz ?_; simp only [List.length_cons, List.length_nil, List.length_map, List.length_append, List.length_replicate]; omega))
local macro_rules | `(tactic| walk_at "sub") => `(tactic| ((repeat (first | exact List.Sublist.slnil | with_reducible apply List.Sublist.cons_cons | with_reducible apply List.Sublist.cons)); done))

set_option maxHeartbeats 4000000
theorem all_mk {l : PySem.W.OpenLaw} {w : World} {K : PySem.W.Frag} {h : Heap} {mg : Str → Option Value} {fa f1 f2 f3 f4 f5 f6 f7 f8 f9 f10 f11 f12 f13 f14 f15 f16 f17 f18 f19 f20 f21 f22 f23 f24 f25 f26 f27 f28 f29 f30 f31 : Addr} (X : K.In h) (G : h.Ns mainGlobals mg) (hfa : mg "law" = some (.ref fa))
    {od1 an1 od2 an2 od3 an3 od4 an4 od5 an5 od6 an6 od7 an7 od8 an8 od9 an9 od10 an10 od11 an11 od12 an12 od13 an13 od14 an14 od15 an15 od16 an16 od17 an17 od18 an18 od19 an19 od20 an20 od21 an21 od22 an22 od23 an23 od24 an24 od25 an25 od26 an26 od27 an27 od28 an28 od29 an29 od30 an30 od31 an31 : Option Addr} {sl1 sl2 sl3 sl4 sl5 sl6 sl7 sl8 sl9 sl10 sl11 sl12 sl13 sl14 sl15 sl16 sl17 sl18 sl19 sl20 sl21 sl22 sl23 sl24 sl25 sl26 sl27 sl28 sl29 sl30 sl31 : Array (Option Value)} {oc1 kV1 dc1 pm1 cd1 ct1 oc2 kV2 dc2 pm2 cd2 ct2 oc3 kV3 dc3 pm3 cd3 ct3 oc4 kV4 dc4 pm4 cd4 ct4 oc5 kV5 dc5 pm5 cd5 ct5 oc6 kV6 dc6 pm6 cd6 ct6 oc7 kV7 dc7 pm7 cd7 ct7 oc8 kV8 dc8 pm8 cd8 ct8 oc9 kV9 dc9 pm9 cd9 ct9 oc10 kV10 dc10 pm10 cd10 ct10 oc11 kV11 dc11 pm11 cd11 ct11 oc12 kV12 dc12 pm12 cd12 ct12 oc13 kV13 dc13 pm13 cd13 ct13 oc14 kV14 dc14 pm14 cd14 ct14 oc15 kV15 dc15 pm15 cd15 ct15 oc16 kV16 dc16 pm16 cd16 ct16 oc17 kV17 dc17 pm17 cd17 ct17 oc18 kV18 dc18 pm18 cd18 ct18 oc19 kV19 dc19 pm19 cd19 ct19 oc20 kV20 dc20 pm20 cd20 ct20 oc21 kV21 dc21 pm21 cd21 ct21 oc22 kV22 dc22 pm22 cd22 ct22 oc23 kV23 dc23 pm23 cd23 ct23 oc24 kV24 dc24 pm24 cd24 ct24 oc25 kV25 dc25 pm25 cd25 ct25 oc26 kV26 dc26 pm26 cd26 ct26 oc27 kV27 dc27 pm27 cd27 ct27 oc28 kV28 dc28 pm28 cd28 ct28 oc29 kV29 dc29 pm29 cd29 ct29 oc30 kV30 dc30 pm30 cd30 ct30 oc31 kV31 dc31 pm31 cd31 ct31 : Value}
    (a1 : PySem.W.nsIn K mainGlobals "_common_lengths" = some (some (.ref f1))) (l1 : K.lookup f1 = some ⟨oc1, od1, .func (PySem.W.fnOf "_common_lengths" "_common_lengths" (defArgs s_common_lengths) (defBody s_common_lengths) (defScope s_common_lengths) .none kV1 dc1 pm1 an1 cd1 ct1), sl1⟩) (c1 : PySem.W.codeIn K cd1 "_common_lengths" = true) (k1 : PySem.W.keepIn K (.ref f1) = true)
    (a2 : PySem.W.nsIn K mainGlobals "matched" = some (some (.ref f2))) (l2 : K.lookup f2 = some ⟨oc2, od2, .func (PySem.W.fnOf "matched" "matched" (defArgs s_matched) (defBody s_matched) (defScope s_matched) .none kV2 dc2 pm2 an2 cd2 ct2), sl2⟩) (c2 : PySem.W.codeIn K cd2 "matched" = true) (k2 : PySem.W.keepIn K (.ref f2) = true)
    (a3 : PySem.W.nsIn K mainGlobals "_stable_lines" = some (some (.ref f3))) (l3 : K.lookup f3 = some ⟨oc3, od3, .func (PySem.W.fnOf "_stable_lines" "_stable_lines" (defArgs s_stable_lines) (defBody s_stable_lines) (defScope s_stable_lines) .none kV3 dc3 pm3 an3 cd3 ct3), sl3⟩) (c3 : PySem.W.codeIn K cd3 "_stable_lines" = true) (k3 : PySem.W.keepIn K (.ref f3) = true)
    (a4 : PySem.W.nsIn K mainGlobals "_runs" = some (some (.ref f4))) (l4 : K.lookup f4 = some ⟨oc4, od4, .func (PySem.W.fnOf "_runs" "_runs" (defArgs s_runs) (defBody s_runs) (defScope s_runs) .none kV4 dc4 pm4 an4 cd4 ct4), sl4⟩) (c4 : PySem.W.codeIn K cd4 "_runs" = true) (k4 : PySem.W.keepIn K (.ref f4) = true)
    (a5 : PySem.W.nsIn K mainGlobals "text_chunks" = some (some (.ref f5))) (l5 : K.lookup f5 = some ⟨oc5, od5, .func (PySem.W.fnOf "text_chunks" "text_chunks" (defArgs s_text_chunks) (defBody s_text_chunks) (defScope s_text_chunks) .none kV5 dc5 pm5 an5 cd5 ct5), sl5⟩) (c5 : PySem.W.codeIn K cd5 "text_chunks" = true) (k5 : PySem.W.keepIn K (.ref f5) = true)
    (a6 : PySem.W.nsIn K mainGlobals "_clash_lines" = some (some (.ref f6))) (l6 : K.lookup f6 = some ⟨oc6, od6, .func (PySem.W.fnOf "_clash_lines" "_clash_lines" (defArgs s_clash_lines) (defBody s_clash_lines) (defScope s_clash_lines) .none kV6 dc6 pm6 an6 cd6 ct6), sl6⟩) (c6 : PySem.W.codeIn K cd6 "_clash_lines" = true) (k6 : PySem.W.keepIn K (.ref f6) = true)
    (a7 : PySem.W.nsIn K mainGlobals "merge_texts" = some (some (.ref f7))) (l7 : K.lookup f7 = some ⟨oc7, od7, .func (PySem.W.fnOf "merge_texts" "merge_texts" (defArgs s_merge_texts) (defBody s_merge_texts) (defScope s_merge_texts) .none kV7 dc7 pm7 an7 cd7 ct7), sl7⟩) (c7 : PySem.W.codeIn K cd7 "merge_texts" = true) (k7 : PySem.W.keepIn K (.ref f7) = true)
    (a8 : PySem.W.nsIn K mainGlobals "_merged_path" = some (some (.ref f8))) (l8 : K.lookup f8 = some ⟨oc8, od8, .func (PySem.W.fnOf "_merged_path" "_merged_path" (defArgs s_merged_path) (defBody s_merged_path) (defScope s_merged_path) .none kV8 dc8 pm8 an8 cd8 ct8), sl8⟩) (c8 : PySem.W.codeIn K cd8 "_merged_path" = true) (k8 : PySem.W.keepIn K (.ref f8) = true)
    (a9 : PySem.W.nsIn K mainGlobals "_copied" = some (some (.ref f9))) (l9 : K.lookup f9 = some ⟨oc9, od9, .func (PySem.W.fnOf "_copied" "_copied" (defArgs s_copied) (defBody s_copied) (defScope s_copied) .none kV9 dc9 pm9 an9 cd9 ct9), sl9⟩) (c9 : PySem.W.codeIn K cd9 "_copied" = true) (k9 : PySem.W.keepIn K (.ref f9) = true)
    (a10 : PySem.W.nsIn K mainGlobals "_base_lines" = some (some (.ref f10))) (l10 : K.lookup f10 = some ⟨oc10, od10, .func (PySem.W.fnOf "_base_lines" "_base_lines" (defArgs s_base_lines) (defBody s_base_lines) (defScope s_base_lines) .none kV10 dc10 pm10 an10 cd10 ct10), sl10⟩) (c10 : PySem.W.codeIn K cd10 "_base_lines" = true) (k10 : PySem.W.keepIn K (.ref f10) = true)
    (a11 : PySem.W.nsIn K mainGlobals "merge_trees" = some (some (.ref f11))) (l11 : K.lookup f11 = some ⟨oc11, od11, .func (PySem.W.fnOf "merge_trees" "merge_trees" (defArgs s_merge_trees) (defBody s_merge_trees) (defScope s_merge_trees) .none kV11 dc11 pm11 an11 cd11 ct11), sl11⟩) (c11 : PySem.W.codeIn K cd11 "merge_trees" = true) (k11 : PySem.W.keepIn K (.ref f11) = true)
    (a12 : PySem.W.nsIn K mainGlobals "_law_feed" = some (some (.ref f12))) (l12 : K.lookup f12 = some ⟨oc12, od12, .func (PySem.W.fnOf "_law_feed" "_law_feed" (defArgs s_l_feed) (defBody s_l_feed) (defScope s_l_feed) .none kV12 dc12 pm12 an12 cd12 ct12), sl12⟩) (c12 : PySem.W.codeIn K cd12 "_law_feed" = true) (k12 : PySem.W.keepIn K (.ref f12) = true)
    (a13 : PySem.W.nsIn K mainGlobals "_law_next" = some (some (.ref f13))) (l13 : K.lookup f13 = some ⟨oc13, od13, .func (PySem.W.fnOf "_law_next" "_law_next" (defArgs s_l_next) (defBody s_l_next) (defScope s_l_next) .none kV13 dc13 pm13 an13 cd13 ct13), sl13⟩) (c13 : PySem.W.codeIn K cd13 "_law_next" = true) (k13 : PySem.W.keepIn K (.ref f13) = true)
    (a14 : PySem.W.nsIn K mainGlobals "_law_same" = some (some (.ref f14))) (l14 : K.lookup f14 = some ⟨oc14, od14, .func (PySem.W.fnOf "_law_same" "_law_same" (defArgs s_l_same) (defBody s_l_same) (defScope s_l_same) .none kV14 dc14 pm14 an14 cd14 ct14), sl14⟩) (c14 : PySem.W.codeIn K cd14 "_law_same" = true) (k14 : PySem.W.keepIn K (.ref f14) = true)
    (a15 : PySem.W.nsIn K mainGlobals "_law_way" = some (some (.ref f15))) (l15 : K.lookup f15 = some ⟨oc15, od15, .func (PySem.W.fnOf "_law_way" "_law_way" (defArgs s_l_way) (defBody s_l_way) (defScope s_l_way) .none kV15 dc15 pm15 an15 cd15 ct15), sl15⟩) (c15 : PySem.W.codeIn K cd15 "_law_way" = true) (k15 : PySem.W.keepIn K (.ref f15) = true)
    (a16 : PySem.W.nsIn K mainGlobals "_law_text" = some (some (.ref f16))) (l16 : K.lookup f16 = some ⟨oc16, od16, .func (PySem.W.fnOf "_law_text" "_law_text" (defArgs s_l_text) (defBody s_l_text) (defScope s_l_text) .none kV16 dc16 pm16 an16 cd16 ct16), sl16⟩) (c16 : PySem.W.codeIn K cd16 "_law_text" = true) (k16 : PySem.W.keepIn K (.ref f16) = true)
    (a17 : PySem.W.nsIn K mainGlobals "_law_made" = some (some (.ref f17))) (l17 : K.lookup f17 = some ⟨oc17, od17, .func (PySem.W.fnOf "_law_made" "_law_made" (defArgs s_l_made) (defBody s_l_made) (defScope s_l_made) .none kV17 dc17 pm17 an17 cd17 ct17), sl17⟩) (c17 : PySem.W.codeIn K cd17 "_law_made" = true) (k17 : PySem.W.keepIn K (.ref f17) = true)
    (a18 : PySem.W.nsIn K mainGlobals "_law_copy" = some (some (.ref f18))) (l18 : K.lookup f18 = some ⟨oc18, od18, .func (PySem.W.fnOf "_law_copy" "_law_copy" (defArgs s_l_copy) (defBody s_l_copy) (defScope s_l_copy) .none kV18 dc18 pm18 an18 cd18 ct18), sl18⟩) (c18 : PySem.W.codeIn K cd18 "_law_copy" = true) (k18 : PySem.W.keepIn K (.ref f18) = true)
    (a19 : PySem.W.nsIn K mainGlobals "_law_rising" = some (some (.ref f19))) (l19 : K.lookup f19 = some ⟨oc19, od19, .func (PySem.W.fnOf "_law_rising" "_law_rising" (defArgs s_l_rising) (defBody s_l_rising) (defScope s_l_rising) .none kV19 dc19 pm19 an19 cd19 ct19), sl19⟩) (c19 : PySem.W.codeIn K cd19 "_law_rising" = true) (k19 : PySem.W.keepIn K (.ref f19) = true)
    (a20 : PySem.W.nsIn K mainGlobals "_law_kept" = some (some (.ref f20))) (l20 : K.lookup f20 = some ⟨oc20, od20, .func (PySem.W.fnOf "_law_kept" "_law_kept" (defArgs s_l_kept) (defBody s_l_kept) (defScope s_l_kept) .none kV20 dc20 pm20 an20 cd20 ct20), sl20⟩) (c20 : PySem.W.codeIn K cd20 "_law_kept" = true) (k20 : PySem.W.keepIn K (.ref f20) = true)
    (a21 : PySem.W.nsIn K mainGlobals "_law_spoil" = some (some (.ref f21))) (l21 : K.lookup f21 = some ⟨oc21, od21, .func (PySem.W.fnOf "_law_spoil" "_law_spoil" (defArgs s_l_spoil) (defBody s_l_spoil) (defScope s_l_spoil) .none kV21 dc21 pm21 an21 cd21 ct21), sl21⟩) (c21 : PySem.W.codeIn K cd21 "_law_spoil" = true) (k21 : PySem.W.keepIn K (.ref f21) = true)
    (a22 : PySem.W.nsIn K mainGlobals "_law_ends" = some (some (.ref f22))) (l22 : K.lookup f22 = some ⟨oc22, od22, .func (PySem.W.fnOf "_law_ends" "_law_ends" (defArgs s_l_ends) (defBody s_l_ends) (defScope s_l_ends) .none kV22 dc22 pm22 an22 cd22 ct22), sl22⟩) (c22 : PySem.W.codeIn K cd22 "_law_ends" = true) (k22 : PySem.W.keepIn K (.ref f22) = true)
    (a23 : PySem.W.nsIn K mainGlobals "_law_common" = some (some (.ref f23))) (l23 : K.lookup f23 = some ⟨oc23, od23, .func (PySem.W.fnOf "_law_common" "_law_common" (defArgs s_l_common) (defBody s_l_common) (defScope s_l_common) .none kV23 dc23 pm23 an23 cd23 ct23), sl23⟩) (c23 : PySem.W.codeIn K cd23 "_law_common" = true) (k23 : PySem.W.keepIn K (.ref f23) = true)
    (a24 : PySem.W.nsIn K mainGlobals "_law_walk" = some (some (.ref f24))) (l24 : K.lookup f24 = some ⟨oc24, od24, .func (PySem.W.fnOf "_law_walk" "_law_walk" (defArgs s_l_walk) (defBody s_l_walk) (defScope s_l_walk) .none kV24 dc24 pm24 an24 cd24 ct24), sl24⟩) (c24 : PySem.W.codeIn K cd24 "_law_walk" = true) (k24 : PySem.W.keepIn K (.ref f24) = true)
    (a25 : PySem.W.nsIn K mainGlobals "_law_mates" = some (some (.ref f25))) (l25 : K.lookup f25 = some ⟨oc25, od25, .func (PySem.W.fnOf "_law_mates" "_law_mates" (defArgs s_l_mates) (defBody s_l_mates) (defScope s_l_mates) .none kV25 dc25 pm25 an25 cd25 ct25), sl25⟩) (c25 : PySem.W.codeIn K cd25 "_law_mates" = true) (k25 : PySem.W.keepIn K (.ref f25) = true)
    (a26 : PySem.W.nsIn K mainGlobals "_law_chunks" = some (some (.ref f26))) (l26 : K.lookup f26 = some ⟨oc26, od26, .func (PySem.W.fnOf "_law_chunks" "_law_chunks" (defArgs s_l_chunks) (defBody s_l_chunks) (defScope s_l_chunks) .none kV26 dc26 pm26 an26 cd26 ct26), sl26⟩) (c26 : PySem.W.codeIn K cd26 "_law_chunks" = true) (k26 : PySem.W.keepIn K (.ref f26) = true)
    (a27 : PySem.W.nsIn K mainGlobals "_law_decided" = some (some (.ref f27))) (l27 : K.lookup f27 = some ⟨oc27, od27, .func (PySem.W.fnOf "_law_decided" "_law_decided" (defArgs s_l_decided) (defBody s_l_decided) (defScope s_l_decided) .none kV27 dc27 pm27 an27 cd27 ct27), sl27⟩) (c27 : PySem.W.codeIn K cd27 "_law_decided" = true) (k27 : PySem.W.keepIn K (.ref f27) = true)
    (a28 : PySem.W.nsIn K mainGlobals "_law_text_merge" = some (some (.ref f28))) (l28 : K.lookup f28 = some ⟨oc28, od28, .func (PySem.W.fnOf "_law_text_merge" "_law_text_merge" (defArgs s_l_text_merge) (defBody s_l_text_merge) (defScope s_l_text_merge) .none kV28 dc28 pm28 an28 cd28 ct28), sl28⟩) (c28 : PySem.W.codeIn K cd28 "_law_text_merge" = true) (k28 : PySem.W.keepIn K (.ref f28) = true)
    (a29 : PySem.W.nsIn K mainGlobals "_law_merged" = some (some (.ref f29))) (l29 : K.lookup f29 = some ⟨oc29, od29, .func (PySem.W.fnOf "_law_merged" "_law_merged" (defArgs s_l_merged) (defBody s_l_merged) (defScope s_l_merged) .none kV29 dc29 pm29 an29 cd29 ct29), sl29⟩) (c29 : PySem.W.codeIn K cd29 "_law_merged" = true) (k29 : PySem.W.keepIn K (.ref f29) = true)
    (a30 : PySem.W.nsIn K mainGlobals "_law_holds" = some (some (.ref f30))) (l30 : K.lookup f30 = some ⟨oc30, od30, .func (PySem.W.fnOf "_law_holds" "_law_holds" (defArgs s_l_holds) (defBody s_l_holds) (defScope s_l_holds) .none kV30 dc30 pm30 an30 cd30 ct30), sl30⟩) (c30 : PySem.W.codeIn K cd30 "_law_holds" = true) (k30 : PySem.W.keepIn K (.ref f30) = true)
    (a31 : PySem.W.nsIn K mainGlobals "law" = some (some (.ref f31))) (l31 : K.lookup f31 = some ⟨oc31, od31, .func (PySem.W.fnOf "law" "law" (defArgs s_law) (defBody s_law) (defScope s_law) .none kV31 dc31 pm31 an31 cd31 ct31), sl31⟩) (c31 : PySem.W.codeIn K cd31 "law" = true) (k31 : PySem.W.keepIn K (.ref f31) = true)
    (z_abs : PySem.W.nsIn K mainGlobals "abs" = some none)
    (z_bool : PySem.W.nsIn K mainGlobals "bool" = some none)
    (z_dict : PySem.W.nsIn K mainGlobals "dict" = some none)
    (z_int : PySem.W.nsIn K mainGlobals "int" = some none)
    (z_isinstance : PySem.W.nsIn K mainGlobals "isinstance" = some none)
    (z_len : PySem.W.nsIn K mainGlobals "len" = some none)
    (z_list : PySem.W.nsIn K mainGlobals "list" = some none)
    (z_max : PySem.W.nsIn K mainGlobals "max" = some none)
    (z_range : PySem.W.nsIn K mainGlobals "range" = some none)
    (z_sorted : PySem.W.nsIn K mainGlobals "sorted" = some none)
    (z_str : PySem.W.nsIn K mainGlobals "str" = some none)
    (z_tuple : PySem.W.nsIn K mainGlobals "tuple" = some none)
    {ut_CLASH_START : Tok} (y_CLASH_START : PySem.W.nsIn K mainGlobals "CLASH_START" = some (some (.str "<<<<<<<" ut_CLASH_START)))
    {ut_CLASH_BASE : Tok} (y_CLASH_BASE : PySem.W.nsIn K mainGlobals "CLASH_BASE" = some (some (.str "|||||||" ut_CLASH_BASE)))
    {ut_CLASH_OTHER : Tok} (y_CLASH_OTHER : PySem.W.nsIn K mainGlobals "CLASH_OTHER" = some (some (.str "=======" ut_CLASH_OTHER)))
    {ut_CLASH_END : Tok} (y_CLASH_END : PySem.W.nsIn K mainGlobals "CLASH_END" = some (some (.str ">>>>>>>" ut_CLASH_END)))
    {ut_MERGED_PATHS : Tok} (y_MERGED_PATHS : PySem.W.nsIn K mainGlobals "MERGED_PATHS" = some (some (.int 8 ut_MERGED_PATHS)))
    {ut_MERGED_LINES : Tok} (y_MERGED_LINES : PySem.W.nsIn K mainGlobals "MERGED_LINES" = some (some (.int 40 ut_MERGED_LINES))) :
    ∃ fd : FuncData, (∀ (s : Shared) (v : Value), BindsTo s fd ⟨[v], []⟩ [("script", v)]) ∧ ∀ base : Heap, K.In base → base.Ns mainGlobals mg → FnOk l.prog w K mg base CX0 10 fa fd ["script"] (sp_law K) := by
  have e := hfa.symm.trans (PySem.W.mg_of X G a31)
  cases e
  have F1 := fun_mk (st := s_common_lengths) l1 c1 k1
  have b1 := F1.binds (ps := ["old", "new"]) fun _ _ _ _ _ _ us hl => match us, hl with | [_, _], _ => rfl
  have F2 := fun_mk (st := s_matched) l2 c2 k2
  have b2 := F2.binds (ps := ["old", "new"]) fun _ _ _ _ _ _ us hl => match us, hl with | [_, _], _ => rfl
  have F3 := fun_mk (st := s_stable_lines) l3 c3 k3
  have b3 := F3.binds (ps := ["base", "ours", "theirs"]) fun _ _ _ _ _ _ us hl => match us, hl with | [_, _, _], _ => rfl
  have F4 := fun_mk (st := s_runs) l4 c4 k4
  have b4 := F4.binds (ps := ["base", "ours", "theirs"]) fun _ _ _ _ _ _ us hl => match us, hl with | [_, _, _], _ => rfl
  have F5 := fun_mk (st := s_text_chunks) l5 c5 k5
  have b5 := F5.binds (ps := ["base", "ours", "theirs"]) fun _ _ _ _ _ _ us hl => match us, hl with | [_, _, _], _ => rfl
  have F6 := fun_mk (st := s_clash_lines) l6 c6 k6
  have b6 := F6.binds (ps := ["b", "x", "y"]) fun _ _ _ _ _ _ us hl => match us, hl with | [_, _, _], _ => rfl
  have F7 := fun_mk (st := s_merge_texts) l7 c7 k7
  have b7 := F7.binds (ps := ["base", "ours", "theirs"]) fun _ _ _ _ _ _ us hl => match us, hl with | [_, _, _], _ => rfl
  have F8 := fun_mk (st := s_merged_path) l8 c8 k8
  have b8 := F8.binds (ps := ["base", "ours", "theirs"]) fun _ _ _ _ _ _ us hl => match us, hl with | [_, _, _], _ => rfl
  have F9 := fun_mk (st := s_copied) l9 c9 k9
  have b9 := F9.binds (ps := ["text"]) fun _ _ _ _ _ _ us hl => match us, hl with | [_], _ => rfl
  have F10 := fun_mk (st := s_base_lines) l10 c10 k10
  have b10 := F10.binds (ps := ["base"]) fun _ _ _ _ _ _ us hl => match us, hl with | [_], _ => rfl
  have F11 := fun_mk (st := s_merge_trees) l11 c11 k11
  have b11 := F11.binds (ps := ["base", "ours", "theirs"]) fun _ _ _ _ _ _ us hl => match us, hl with | [_, _, _], _ => rfl
  have F12 := fun_mk (st := s_l_feed) l12 c12 k12
  have b12 := F12.binds (ps := ["script"]) fun _ _ _ _ _ _ us hl => match us, hl with | [_], _ => rfl
  have F13 := fun_mk (st := s_l_next) l13 c13 k13
  have b13 := F13.binds (ps := ["cells", "many"]) fun _ _ _ _ _ _ us hl => match us, hl with | [_, _], _ => rfl
  have F14 := fun_mk (st := s_l_same) l14 c14 k14
  have b14 := F14.binds (ps := ["told", "due"]) fun _ _ _ _ _ _ us hl => match us, hl with | [_, _], _ => rfl
  have F15 := fun_mk (st := s_l_way) l15 c15 k15
  have b15 := F15.binds (ps := ["place"]) fun _ _ _ _ _ _ us hl => match us, hl with | [_], _ => rfl
  have F16 := fun_mk (st := s_l_text) l16 c16 k16
  have b16 := F16.binds (ps := ["place"]) fun _ _ _ _ _ _ us hl => match us, hl with | [_], _ => rfl
  have F17 := fun_mk (st := s_l_made) l17 c17 k17
  have b17 := F17.binds (ps := ["paths", "texts"]) fun _ _ _ _ _ _ us hl => match us, hl with | [_, _], _ => rfl
  have F18 := fun_mk (st := s_l_copy) l18 c18 k18
  have b18 := F18.binds (ps := ["tree"]) fun _ _ _ _ _ _ us hl => match us, hl with | [_], _ => rfl
  have F19 := fun_mk (st := s_l_rising) l19 c19 k19
  have b19 := F19.binds (ps := ["tree"]) fun _ _ _ _ _ _ us hl => match us, hl with | [_], _ => rfl
  have F20 := fun_mk (st := s_l_kept) l20 c20 k20
  have b20 := F20.binds (ps := ["passed", "tree"]) fun _ _ _ _ _ _ us hl => match us, hl with | [_, _], _ => rfl
  have F21 := fun_mk (st := s_l_spoil) l21 c21 k21
  have b21 := F21.binds (ps := ["tree"]) fun _ _ _ _ _ _ us hl => match us, hl with | [_], _ => rfl
  have F22 := fun_mk (st := s_l_ends) l22 c22 k22
  have b22 := F22.binds (ps := ["old", "new"]) fun _ _ _ _ _ _ us hl => match us, hl with | [_, _], _ => rfl
  have F23 := fun_mk (st := s_l_common) l23 c23 k23
  have b23 := F23.binds (ps := ["ends", "i", "j"]) fun _ _ _ _ _ _ us hl => match us, hl with | [_, _, _], _ => rfl
  have F24 := fun_mk (st := s_l_walk) l24 c24 k24
  have b24 := F24.binds (ps := ["old", "new"]) fun _ _ _ _ _ _ us hl => match us, hl with | [_, _], _ => rfl
  have F25 := fun_mk (st := s_l_mates) l25 c25 k25
  have b25 := F25.binds (ps := ["base", "side"]) fun _ _ _ _ _ _ us hl => match us, hl with | [_, _], _ => rfl
  have F26 := fun_mk (st := s_l_chunks) l26 c26 k26
  have b26 := F26.binds (ps := ["base", "ours", "theirs"]) fun _ _ _ _ _ _ us hl => match us, hl with | [_, _, _], _ => rfl
  have F27 := fun_mk (st := s_l_decided) l27 c27 k27
  have b27 := F27.binds (ps := ["base", "ours", "theirs"]) fun _ _ _ _ _ _ us hl => match us, hl with | [_, _, _], _ => rfl
  have F28 := fun_mk (st := s_l_text_merge) l28 c28 k28
  have b28 := F28.binds (ps := ["base", "ours", "theirs"]) fun _ _ _ _ _ _ us hl => match us, hl with | [_, _, _], _ => rfl
  have F29 := fun_mk (st := s_l_merged) l29 c29 k29
  have b29 := F29.binds (ps := ["paths", "base", "ours", "theirs"]) fun _ _ _ _ _ _ us hl => match us, hl with | [_, _, _, _], _ => rfl
  have F30 := fun_mk (st := s_l_holds) l30 c30 k30
  have b30 := F30.binds (ps := ["trees", "due"]) fun _ _ _ _ _ _ us hl => match us, hl with | [_, _], _ => rfl
  have F31 := fun_mk (st := s_law) l31 c31 k31
  have b31 := F31.binds (ps := ["script"]) fun _ _ _ _ _ _ us hl => match us, hl with | [_], _ => rfl
  exact ⟨_, fun s v => .of_eq rfl, fun base _ _ => ok_law ⟨_, _, F1, PySem.W.mg_of X G a1, b1, _, _, F2, PySem.W.mg_of X G a2, b2, _, _, F3, PySem.W.mg_of X G a3, b3, _, _, F4, PySem.W.mg_of X G a4, b4, _, _, F5, PySem.W.mg_of X G a5, b5, _, _, F6, PySem.W.mg_of X G a6, b6, _, _, F7, PySem.W.mg_of X G a7, b7, _, _, F8, PySem.W.mg_of X G a8, b8, _, _, F9, PySem.W.mg_of X G a9, b9, _, _, F10, PySem.W.mg_of X G a10, b10, _, _, F11, PySem.W.mg_of X G a11, b11, _, _, F12, PySem.W.mg_of X G a12, b12, _, _, F13, PySem.W.mg_of X G a13, b13, _, _, F14, PySem.W.mg_of X G a14, b14, _, _, F15, PySem.W.mg_of X G a15, b15, _, _, F16, PySem.W.mg_of X G a16, b16, _, _, F17, PySem.W.mg_of X G a17, b17, _, _, F18, PySem.W.mg_of X G a18, b18, _, _, F19, PySem.W.mg_of X G a19, b19, _, _, F20, PySem.W.mg_of X G a20, b20, _, _, F21, PySem.W.mg_of X G a21, b21, _, _, F22, PySem.W.mg_of X G a22, b22, _, _, F23, PySem.W.mg_of X G a23, b23, _, _, F24, PySem.W.mg_of X G a24, b24, _, _, F25, PySem.W.mg_of X G a25, b25, _, _, F26, PySem.W.mg_of X G a26, b26, _, _, F27, PySem.W.mg_of X G a27, b27, _, _, F28, PySem.W.mg_of X G a28, b28, _, _, F29, PySem.W.mg_of X G a29, b29, _, _, F30, PySem.W.mg_of X G a30, b30, _, _, F31, PySem.W.mg_of X G a31, b31, PySem.W.mg_none_of X G z_abs, PySem.W.mg_none_of X G z_bool, PySem.W.mg_none_of X G z_dict, PySem.W.mg_none_of X G z_int, PySem.W.mg_none_of X G z_isinstance, PySem.W.mg_none_of X G z_len, PySem.W.mg_none_of X G z_list, PySem.W.mg_none_of X G z_max, PySem.W.mg_none_of X G z_range, PySem.W.mg_none_of X G z_sorted, PySem.W.mg_none_of X G z_str, PySem.W.mg_none_of X G z_tuple, ⟨_, PySem.W.mg_of X G y_CLASH_START, _, rfl⟩, ⟨_, PySem.W.mg_of X G y_CLASH_BASE, _, rfl⟩, ⟨_, PySem.W.mg_of X G y_CLASH_OTHER, _, rfl⟩, ⟨_, PySem.W.mg_of X G y_CLASH_END, _, rfl⟩, ⟨_, PySem.W.mg_of X G y_MERGED_PATHS, _, rfl⟩, ⟨_, PySem.W.mg_of X G y_MERGED_LINES, _, rfl⟩⟩⟩
end K09
open PySem PySem.W PyProof.Rows
set_option maxHeartbeats 0 in
theorem PySem.Challenge.cw_partclones_k09_merge_trees_holds : PySem.Challenge.rw_partclones_k09_merge_trees.Holds := by
  w_on; o_law; k_head; (case hw => w_witness2)
  k_fill
  refine L2.walk_of (l := PySem.Challenge.rw_partclones_k09_merge_trees) (n := 63) (k := 10) (x := "script") (CX := fun _ => L2.CX0) (sp := fun w => K09.sp_law _) rfl (by decide) rfl ⟨rfl, by decide, by decide⟩ (fun w h Y => PySem.W.kIn_of Y) ?F (fun _ H a ns hl _ hS => K09.sp_law_start hl hS) (fun _ _ _ _ _ h => h)
  case F =>
    intro w mg fa h KX G hmg
    refine' K09.all_mk KX G hmg ?a1 ?l1 ?c1 ?k1 ?a2 ?l2 ?c2 ?k2 ?a3 ?l3 ?c3 ?k3 ?a4 ?l4 ?c4 ?k4 ?a5 ?l5 ?c5 ?k5 ?a6 ?l6 ?c6 ?k6 ?a7 ?l7 ?c7 ?k7 ?a8 ?l8 ?c8 ?k8 ?a9 ?l9 ?c9 ?k9 ?a10 ?l10 ?c10 ?k10 ?a11 ?l11 ?c11 ?k11 ?a12 ?l12 ?c12 ?k12 ?a13 ?l13 ?c13 ?k13 ?a14 ?l14 ?c14 ?k14 ?a15 ?l15 ?c15 ?k15 ?a16 ?l16 ?c16 ?k16 ?a17 ?l17 ?c17 ?k17 ?a18 ?l18 ?c18 ?k18 ?a19 ?l19 ?c19 ?k19 ?a20 ?l20 ?c20 ?k20 ?a21 ?l21 ?c21 ?k21 ?a22 ?l22 ?c22 ?k22 ?a23 ?l23 ?c23 ?k23 ?a24 ?l24 ?c24 ?k24 ?a25 ?l25 ?c25 ?k25 ?a26 ?l26 ?c26 ?k26 ?a27 ?l27 ?c27 ?k27 ?a28 ?l28 ?c28 ?k28 ?a29 ?l29 ?c29 ?k29 ?a30 ?l30 ?c30 ?k30 ?a31 ?l31 ?c31 ?k31 ?z_abs ?z_bool ?z_dict ?z_int ?z_isinstance ?z_len ?z_list ?z_max ?z_range ?z_sorted ?z_str ?z_tuple ?y_CLASH_START ?y_CLASH_BASE ?y_CLASH_OTHER ?y_CLASH_END ?y_MERGED_PATHS ?y_MERGED_LINES
    (case a1 => k_is)
    (case l1 => k_is)
    (case c1 => k_is)
    (case k1 => k_is)
    (case a2 => k_is)
    (case l2 => k_is)
    (case c2 => k_is)
    (case k2 => k_is)
    (case a3 => k_is)
    (case l3 => k_is)
    (case c3 => k_is)
    (case k3 => k_is)
    (case a4 => k_is)
    (case l4 => k_is)
    (case c4 => k_is)
    (case k4 => k_is)
    (case a5 => k_is)
    (case l5 => k_is)
    (case c5 => k_is)
    (case k5 => k_is)
    (case a6 => k_is)
    (case l6 => k_is)
    (case c6 => k_is)
    (case k6 => k_is)
    (case a7 => k_is)
    (case l7 => k_is)
    (case c7 => k_is)
    (case k7 => k_is)
    (case a8 => k_is)
    (case l8 => k_is)
    (case c8 => k_is)
    (case k8 => k_is)
    (case a9 => k_is)
    (case l9 => k_is)
    (case c9 => k_is)
    (case k9 => k_is)
    (case a10 => k_is)
    (case l10 => k_is)
    (case c10 => k_is)
    (case k10 => k_is)
    (case a11 => k_is)
    (case l11 => k_is)
    (case c11 => k_is)
    (case k11 => k_is)
    (case a12 => k_is)
    (case l12 => k_is)
    (case c12 => k_is)
    (case k12 => k_is)
    (case a13 => k_is)
    (case l13 => k_is)
    (case c13 => k_is)
    (case k13 => k_is)
    (case a14 => k_is)
    (case l14 => k_is)
    (case c14 => k_is)
    (case k14 => k_is)
    (case a15 => k_is)
    (case l15 => k_is)
    (case c15 => k_is)
    (case k15 => k_is)
    (case a16 => k_is)
    (case l16 => k_is)
    (case c16 => k_is)
    (case k16 => k_is)
    (case a17 => k_is)
    (case l17 => k_is)
    (case c17 => k_is)
    (case k17 => k_is)
    (case a18 => k_is)
    (case l18 => k_is)
    (case c18 => k_is)
    (case k18 => k_is)
    (case a19 => k_is)
    (case l19 => k_is)
    (case c19 => k_is)
    (case k19 => k_is)
    (case a20 => k_is)
    (case l20 => k_is)
    (case c20 => k_is)
    (case k20 => k_is)
    (case a21 => k_is)
    (case l21 => k_is)
    (case c21 => k_is)
    (case k21 => k_is)
    (case a22 => k_is)
    (case l22 => k_is)
    (case c22 => k_is)
    (case k22 => k_is)
    (case a23 => k_is)
    (case l23 => k_is)
    (case c23 => k_is)
    (case k23 => k_is)
    (case a24 => k_is)
    (case l24 => k_is)
    (case c24 => k_is)
    (case k24 => k_is)
    (case a25 => k_is)
    (case l25 => k_is)
    (case c25 => k_is)
    (case k25 => k_is)
    (case a26 => k_is)
    (case l26 => k_is)
    (case c26 => k_is)
    (case k26 => k_is)
    (case a27 => k_is)
    (case l27 => k_is)
    (case c27 => k_is)
    (case k27 => k_is)
    (case a28 => k_is)
    (case l28 => k_is)
    (case c28 => k_is)
    (case k28 => k_is)
    (case a29 => k_is)
    (case l29 => k_is)
    (case c29 => k_is)
    (case k29 => k_is)
    (case a30 => k_is)
    (case l30 => k_is)
    (case c30 => k_is)
    (case k30 => k_is)
    (case a31 => k_is)
    (case l31 => k_is)
    (case c31 => k_is)
    (case k31 => k_is)
    (case z_abs => k_is)
    (case z_bool => k_is)
    (case z_dict => k_is)
    (case z_int => k_is)
    (case z_isinstance => k_is)
    (case z_len => k_is)
    (case z_list => k_is)
    (case z_max => k_is)
    (case z_range => k_is)
    (case z_sorted => k_is)
    (case z_str => k_is)
    (case z_tuple => k_is)
    (case y_CLASH_START => k_is)
    (case y_CLASH_BASE => k_is)
    (case y_CLASH_OTHER => k_is)
    (case y_CLASH_END => k_is)
    (case y_MERGED_PATHS => k_is)
    (case y_MERGED_LINES => k_is)

