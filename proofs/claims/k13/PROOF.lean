import PyProof.Rows.All
import Wide.All
import OpenK.AllK
import Wide.FinOn
import HandS.ForMost
import HandS.Small
import HandS.Style
import HandS.Flow
import HandS.Deep
import HandS.IsInst
import HandS.More
import HandS.Star
import HandS.TupAny
import KE.KExcIs
import HandS.ExcCtx
import HandS.ExcInit
import HandS.ExcField
import HandS.HotCalls
import HandS.Wide
import HandS.Strs
import HandS.SetKeys
import HandS.Text
import HandS.Iter
import HandS.WideBits
import HandS.Dict
import HandS.WordsDict
import HandS.Conv
import HandS.List
import HandS.SetBool
import HandS.DictComp
import HandS.ListItems
import HandS.OwnIter
import HandS.IterNext
import HandS.GenOver
import HandS.Ends
import PySem.Challenge.RW_partclones_k13_order_under
set_option Elab.async false
set_option linter.all false
set_option maxRecDepth 100000
namespace Qk
open PySem PySem.Spec PyProof.Rows L2

/-! ### heaps -/
abbrev Own := List (Addr × HO)
structure Has (F : Hp) (O : Own) (H : Hp) : Prop where
  same : Same F H
  own : ∀ p ∈ O, F p.1 = none ∧ H p.1 = some p.2
  nd : (O.map (·.1)).Nodup

/-- O with the object at a changed from o to o' -/
inductive Chg : Own → Addr → HO → HO → Own → Prop
  | hd {a : Addr} {o o' : HO} {O : Own} : Chg ((a, o) :: O) a o o' ((a, o') :: O)
  | tl {a : Addr} {o o' : HO} {O O' : Own} {x : Addr × HO} : Chg O a o o' O' → Chg (x :: O) a o o' (x :: O')
theorem Chg.mem {O O' : Own} {a : Addr} {o o' : HO} (c : Chg O a o o' O') : (a, o) ∈ O := by
  induction c with
  | hd => exact List.Mem.head _
  | tl _ ih => exact List.Mem.tail _ ih
theorem Chg.fst {O O' : Own} {a : Addr} {o o' : HO} (c : Chg O a o o' O') : O'.map (·.1) = O.map (·.1) := by
  induction c with
  | hd => rfl
  | tl _ ih => rw [List.map_cons, List.map_cons, ih]
theorem Chg.own {O O' : Own} {a : Addr} {o o' : HO} (c : Chg O a o o' O') (nd : (O.map (·.1)).Nodup) : ∀ p ∈ O', p = (a, o') ∨ (p ∈ O ∧ p.1 ≠ a) := by
  induction c with
  | @hd a o o' O =>
    intro p hp
    rw [List.map_cons] at nd
    have nm := (List.nodup_cons.mp nd).1
    rcases List.mem_cons.mp hp with e | hp
    · exact .inl e
    · refine .inr ⟨List.mem_cons_of_mem _ hp, fun e => nm ?_⟩
      exact List.mem_map.mpr ⟨p, hp, e⟩
  | @tl a o o' O O' x c ih =>
    intro p hp
    rw [List.map_cons] at nd
    have nm := List.nodup_cons.mp nd
    rcases List.mem_cons.mp hp with e | hp
    · subst e
      refine .inr ⟨List.mem_cons_self, fun e => nm.1 ?_⟩
      rw [e]
      exact List.mem_map.mpr ⟨_, c.mem, rfl⟩
    · rcases ih nm.2 p hp with e | ⟨e, ne⟩
      · exact .inl e
      · exact .inr ⟨List.mem_cons_of_mem _ e, ne⟩

section
variable {F F' : Hp} {O O' : Own} {H H' : Hp} {a p : Addr} {o o' : HO} {K : PySem.W.Frag} {xs : List V}
theorem Has.start (H : Hp) : Has H [] H := ⟨Same.refl H, fun _ h => (List.not_mem_nil h).elim, List.nodup_nil⟩
theorem Has.get (h : Has F O H) (m : (a, o) ∈ O) : H a = some o := (h.own _ m).2
theorem Has.but (h : Has F O H) (c : Chg O a o o' O') (s : ∀ b u, b ≠ a → H b = some u → H' b = some u) (e : H' a = some o') : Has F O' H' := by
  have fa : F a = none := (h.own _ c.mem).1
  refine ⟨fun b u q => s b u (fun z => by rw [z, fa] at q; cases q) (h.same b u q), fun q hq => ?_, by rw [c.fst]; exact h.nd⟩
  rcases c.own h.nd q hq with rfl | ⟨m, ne⟩
  · exact ⟨fa, e⟩
  · exact ⟨(h.own _ m).1, s _ _ ne (h.own _ m).2⟩
theorem Has.put (h : Has F O H) (c : Chg O a o o' O') : Has F O' (upd H a o') := h.but c (fun b u ne q => by rw [upd_ne ne]; exact q) upd_same
theorem Has.on (h : Has F O H) (s : Same H H') : Has F O H' := ⟨h.same.trans s, fun q hq => ⟨(h.own q hq).1, s _ _ (h.own q hq).2⟩, h.nd⟩
theorem Has.made (h : Has F O H) (n : H p = none) (s : Same H H') (e : H' p = some o) : Has F ((p, o) :: O) H' := by
  refine ⟨h.same.trans s, fun q hq => ?_, ?_⟩
  · rcases List.mem_cons.mp hq with rfl | hq
    · exact ⟨h.same.free n, e⟩
    · exact ⟨(h.own q hq).1, s _ _ (h.own q hq).2⟩
  · rw [List.map_cons]
    refine List.nodup_cons.mpr ⟨fun m => ?_, h.nd⟩
    obtain ⟨q, hq, e'⟩ := List.mem_map.mp m
    have z := (h.own q hq).2
    rw [e', n] at z
    cases z
theorem same_upd (n : H p = none) : Same H (upd H p o) := fun b u q => by
  rw [upd_ne (ne_of_none q n)]
  exact q
theorem Has.new (h : Has F O H) (n : H p = none) : Has F ((p, o) :: O) (upd H p o) := h.made n (same_upd n) upd_same
theorem Has.drop {x : Addr × HO} (h : Has F (x :: O) H) : Has F O H := ⟨h.same, fun q hq => h.own q (List.mem_cons_of_mem _ hq), (List.nodup_cons.mp (by have := h.nd; rw [List.map_cons] at this; exact this)).2⟩
theorem Has.sub (h : Has F O H) (s : O'.Sublist O) : Has F O' H := ⟨h.same, fun q hq => h.own q (s.subset hq), (s.map _).nodup h.nd⟩
theorem Has.perm (h : Has F O H) (s : O'.Perm O) : Has F O' H := ⟨h.same, fun q hq => h.own q (s.subset hq), (s.map _).nodup_iff.mpr h.nd⟩
/-- the first owned object stands still from now on -/
theorem Has.frz (h : Has F ((p, o) :: O) H) : Has (upd F p o) O H := by
  have hp := h.own (p, o) List.mem_cons_self
  have nd : p ∉ O.map (·.1) ∧ (O.map (·.1)).Nodup := List.nodup_cons.mp (by have := h.nd; rw [List.map_cons] at this; exact this)
  refine ⟨fun b u q => ?_, fun q hq => ⟨?_, (h.own q (List.mem_cons_of_mem _ hq)).2⟩, nd.2⟩
  · by_cases e : b = p
    · subst e
      rw [upd_same] at q
      cases q
      exact hp.2
    · rw [upd_ne e] at q
      exact h.same b u q
  · rw [upd_ne (fun z => nd.1 (List.mem_map.mpr ⟨q, hq, z⟩))]
    exact (h.own q (List.mem_cons_of_mem _ hq)).1
theorem Has.free (h : Has F ((p, o) :: O) H) : F p = none := (h.own _ List.mem_cons_self).1
theorem Has.grow (h : Has F ((p, o) :: O) H) : Same F (upd F p o) := same_upd h.free
/-- all stands still from now on -/
theorem Has.all (h : Has F O H) : Has H [] H := Has.start H
/-- F grown by what O knows nothing of -/
theorem Has.up (h : Has F O H) (s2 : Same F' H') (s : Same H H') (d : ∀ p ∈ O, F' p.1 = none) : Has F' O H' :=
  ⟨s2, fun q hq => ⟨d q hq, s _ _ (h.own q hq).2⟩, h.nd⟩
theorem Has.sqO (h : Has F O H) (m : (a, .lst xs) ∈ O) : SqL K H a xs := SqL.of (h.get m)
theorem Has.sqF (h : Has F O H) (m : SqL K F a xs) : SqL K H a xs := h.same.seq m
theorem Same.tup {K : PySem.W.Frag} (e : Same H H') (h : SqT K H a xs) : SqT K H' a xs := by
  rcases h with (h | ⟨o, h⟩) | h
  · exact .inl (.inl (e _ _ h))
  · exact .inl (.inr ⟨o, e _ _ h⟩)
  · exact .inr h
theorem Has.stF (h : Has F O H) (m : SqT K F a xs) : SqT K H a xs := Same.tup h.same m
theorem Has.stO (h : Has F O H) (m : (a, .tup xs) ∈ O) : SqT K H a xs := SqT.of (h.get m)
end

/-! ### data -/
mutual
inductive Dq (H : Hp) : V → PyData → Prop
  | non : Dq H .non .none
  | bl (b : Bool) : Dq H (.bl b) (.bool b)
  | int (i : Int) : Dq H (.int i) (.int i)
  | str (x : Str) : Dq H (.str x) (.str x)
  | lst {a : Addr} {xs : List V} {ds : List PyData} : H a = some (.lst xs) → DqAll H xs ds → Dq H (.ref a) (.list ds)
  | tup {a : Addr} {xs : List V} {ds : List PyData} : H a = some (.tup xs) → DqAll H xs ds → Dq H (.ref a) (.tuple ds)
inductive DqAll (H : Hp) : List V → List PyData → Prop
  | nil : DqAll H [] []
  | cons {v : V} {vs : List V} {d : PyData} {ds : List PyData} : Dq H v d → DqAll H vs ds → DqAll H (v :: vs) (d :: ds)
end
mutual
theorem Dq.up {H H' : Hp} (e : Same H H') : ∀ (d : PyData) (v : V), Dq H v d → Dq H' v d
  | _, _, .non => .non
  | _, _, .bl b => .bl b
  | _, _, .int i => .int i
  | _, _, .str x => .str x
  | .list ds, _, .lst s a => .lst (e _ _ s) (DqAll.up e ds _ a)
  | .tuple ds, _, .tup s a => .tup (e _ _ s) (DqAll.up e ds _ a)
theorem DqAll.up {H H' : Hp} (e : Same H H') : ∀ (ds : List PyData) (vs : List V), DqAll H vs ds → DqAll H' vs ds
  | _, _, .nil => .nil
  | d :: ds, _, .cons h t => .cons (Dq.up e d _ h) (DqAll.up e ds _ t)
end
mutual
theorem Dq.dp (K : PySem.W.Frag) {H : Hp} : ∀ (d : PyData) (v : V), Dq H v d → Dp K H v d
  | _, _, .non => .non
  | _, _, .bl b => .bl b
  | _, _, .int i => .int i
  | _, _, .str x => .str x
  | .list ds, _, .lst s a => .lst (SqL.of s) (DqAll.dp K ds _ a)
  | .tuple ds, _, .tup s a => .tup (SqT.of s) (DqAll.dp K ds _ a)
theorem DqAll.dp (K : PySem.W.Frag) {H : Hp} : ∀ (ds : List PyData) (vs : List V), DqAll H vs ds → DpAll K H vs ds
  | _, _, .nil => .nil
  | d :: ds, _, .cons h t => .cons (Dq.dp K d _ h) (DqAll.dp K ds _ t)
end
theorem DqAll.len {H : Hp} : ∀ {vs : List V} {ds : List PyData}, DqAll H vs ds → vs.length = ds.length
  | _, _, .nil => rfl
  | _, _, .cons _ t => by rw [List.length_cons, List.length_cons, t.len]
theorem DqAll.get {H : Hp} : ∀ {vs : List V} {ds : List PyData} {i : Nat} {v : V}, DqAll H vs ds → vs[i]? = some v → ∃ d, ds[i]? = some d ∧ Dq H v d
  | _, _, _, _, .nil, e => by simp at e
  | _, _, 0, _, .cons h _, e => ⟨_, rfl, by have e' := Option.some.inj e; rw [← e']; exact h⟩
  | _, _, i + 1, _, .cons _ t, e => t.get (i := i) e
theorem DqAll.snoc {H : Hp} : ∀ {vs : List V} {ds : List PyData} {v : V} {d : PyData}, DqAll H vs ds → Dq H v d → DqAll H (vs ++ [v]) (ds ++ [d])
  | _, _, _, _, .nil, h => .cons h .nil
  | _, _, _, _, .cons h t, h' => .cons h (t.snoc h')
theorem DqAll.app {H : Hp} : ∀ {vs ws : List V} {ds es : List PyData}, DqAll H vs ds → DqAll H ws es → DqAll H (vs ++ ws) (ds ++ es)
  | _, _, _, _, .nil, h => h
  | _, _, _, _, .cons h t, h' => .cons h (t.app h')
theorem DqAll.rev {H : Hp} : ∀ {vs : List V} {ds : List PyData}, DqAll H vs ds → DqAll H vs.reverse ds.reverse
  | _, _, .nil => .nil
  | _, _, .cons h t => by
    rw [List.reverse_cons, List.reverse_cons]
    exact t.rev.snoc h
theorem DqAll.strs {H : Hp} : ∀ (xs : List Str), DqAll H (xs.map V.str) (xs.map PyData.str)
  | [] => .nil
  | x :: xs => .cons (.str x) (DqAll.strs xs)
theorem DqAll.ints {H : Hp} : ∀ (xs : List Int), DqAll H (xs.map V.int) (xs.map PyData.int)
  | [] => .nil
  | x :: xs => .cons (.int x) (DqAll.ints xs)
theorem DqAll.of_strs {H : Hp} : ∀ {vs : List V} {xs : List Str}, DqAll H vs (xs.map PyData.str) → vs = xs.map V.str
  | _, [], .nil => rfl
  | _, x :: xs, .cons h t => by
    cases h
    rw [List.map_cons, t.of_strs]
theorem Dq.of_strs {H : Hp} {v : V} {xs : List Str} (h : Dq H v (.list (xs.map PyData.str))) : ∃ a, v = .ref a ∧ H a = some (.lst (xs.map V.str)) := by
  cases h with
  | lst s a =>
    rw [a.of_strs] at s
    exact ⟨_, rfl, s⟩
theorem Dq.strs {H : Hp} {a : Addr} {xs : List Str} (h : H a = some (.lst (xs.map V.str))) : Dq H (.ref a) (.list (xs.map PyData.str)) := .lst h (DqAll.strs xs)
theorem Dq.ints {H : Hp} {a : Addr} {xs : List Int} (h : H a = some (.lst (xs.map V.int))) : Dq H (.ref a) (.list (xs.map PyData.int)) := .lst h (DqAll.ints xs)
theorem Has.gF {F : Hp} {O : Own} {H : Hp} {a : Addr} {o : HO} (h : Has F O H) (e : F a = some o) : H a = some o := h.same _ _ e
theorem Has.dq {F : Hp} {O : Own} {H : Hp} (h : Has F O H) {v : V} {d : PyData} (p : Dq F v d) : Dq H v d := p.up h.same d v

/-! ### == of data -/
theorem eqvAll_strs : ∀ xs ys : List Str, PyData.eqvAll (xs.map PyData.str) (ys.map PyData.str) = decide (xs = ys)
  | [], [] => by simp [PyData.eqvAll]
  | [], y :: ys => by simp [PyData.eqvAll]
  | x :: xs, [] => by simp [PyData.eqvAll]
  | x :: xs, y :: ys => by
    rw [List.map_cons, List.map_cons, PyData.eqvAll, eqvAll_strs xs ys, PyData.eqv]
    by_cases h : x = y
    · subst h; simp
    · simp [h]
theorem eqv_strs (xs ys : List Str) : PyData.eqv (.list (xs.map PyData.str)) (.list (ys.map PyData.str)) = decide (xs = ys) := by
  rw [PyData.eqv, eqvAll_strs]
theorem eqvAll_ints : ∀ xs ys : List Int, PyData.eqvAll (xs.map PyData.int) (ys.map PyData.int) = decide (xs = ys)
  | [], [] => by simp [PyData.eqvAll]
  | [], y :: ys => by simp [PyData.eqvAll]
  | x :: xs, [] => by simp [PyData.eqvAll]
  | x :: xs, y :: ys => by
    rw [List.map_cons, List.map_cons, PyData.eqvAll, eqvAll_ints xs ys, PyData.eqv]
    by_cases h : x = y
    · subst h; simp
    · simp [h]
theorem eqv_ints (xs ys : List Int) : PyData.eqv (.list (xs.map PyData.int)) (.list (ys.map PyData.int)) = decide (xs = ys) := by
  rw [PyData.eqv, eqvAll_ints]
theorem canLayAll_mem : ∀ {ds : List PyData}, (∀ d ∈ ds, d.canLay0 = true) → PyData.canLayAll0 ds = true
  | [], _ => rfl
  | d :: ds, h => by
    rw [PyData.canLayAll0, h d List.mem_cons_self, canLayAll_mem fun x hx => h x (List.mem_cons_of_mem _ hx)]
    rfl
theorem depthAll_le {n : Nat} : ∀ {ds : List PyData}, (∀ d ∈ ds, d.depth ≤ n) → PyData.depthAll ds ≤ n
  | [], _ => Nat.zero_le _
  | d :: ds, h => by
    rw [PyData.depthAll]
    exact Nat.max_le.mpr ⟨h d List.mem_cons_self, depthAll_le fun x hx => h x (List.mem_cons_of_mem _ hx)⟩
/-- data of depth n that can be compared -/
def Sh (n : Nat) (d : PyData) : Prop := d.canLay0 = true ∧ d.depth ≤ n
theorem Sh.list {n : Nat} {ds : List PyData} (h : ∀ d ∈ ds, Sh n d) : Sh (n + 1) (.list ds) := by
  refine ⟨?_, ?_⟩
  · rw [PyData.canLay0]
    exact canLayAll_mem fun d hd => (h d hd).1
  · rw [PyData.depth]
    have := depthAll_le (n := n) fun d hd => (h d hd).2
    omega
theorem Sh.tuple {n : Nat} {ds : List PyData} (h : ∀ d ∈ ds, Sh n d) : Sh (n + 1) (.tuple ds) := by
  refine ⟨?_, ?_⟩
  · rw [PyData.canLay0]
    exact canLayAll_mem fun d hd => (h d hd).1
  · rw [PyData.depth]
    have := depthAll_le (n := n) fun d hd => (h d hd).2
    omega
theorem Sh.ok {n : Nat} {d : PyData} (h : Sh n d) (hn : n ≤ 64) : SeqAt.shaped d = true := by
  unfold SeqAt.shaped
  rw [h.1, Bool.true_and]
  exact decide_eq_true (Nat.le_trans h.2 hn)
theorem Sh.int {n : Nat} (i : Int) : Sh n (.int i) := ⟨rfl, Nat.zero_le _⟩
theorem Sh.non {n : Nat} : Sh n .none := ⟨rfl, Nat.zero_le _⟩
theorem Sh.bl {n : Nat} (b : Bool) : Sh n (.bool b) := ⟨rfl, Nat.zero_le _⟩
theorem Sh.str {n : Nat} {x : Str} (h : PyData.strOk x = true) : Sh n (.str x) := ⟨h, Nat.zero_le _⟩
theorem Sh.strs {n : Nat} {xs : List Str} (h : ∀ x ∈ xs, PyData.strOk x = true) : Sh (n + 1) (.list (xs.map PyData.str)) := Sh.list fun d hd => by
  obtain ⟨x, hx, rfl⟩ := List.mem_map.mp hd
  exact Sh.str (h x hx)
theorem Sh.ints {n : Nat} {xs : List Int} : Sh (n + 1) (.list (xs.map PyData.int)) := Sh.list fun d hd => by
  obtain ⟨x, hx, rfl⟩ := List.mem_map.mp hd
  exact Sh.int x

/-! ### readings, in order -/
def kB (x : V) (H : Hp) (R : Bool → Hp → Prop) : Prop := ∃ k, x = .bl k ∧ R k H
def kTup (xs : List V) (H : Hp) (Q : VK) : Prop := xs.length ≤ sizeLine ∧ ∀ p, H p = none → Q (.ref p) (upd H p (.tup xs))
def kLst (xs : List V) (H : Hp) (Q : VK) : Prop := xs.length ≤ sizeLine ∧ ∀ p, H p = none → Q (.ref p) (upd H p (.lst xs))
def kBM (K : PySem.W.Frag) (T : String) (r : V → List V → Hp → VK → Prop) (t : TA) (σ : L2.St) (x : V) (H : Hp) (Q : VK) : Prop := tyV K T x H ∧ t σ H fun xs H2 => r x xs H2 Q
section
variable {K : PySem.W.Frag} {σ : L2.St} {F : Hp} {O O' : Own} {H : Hp} {Q : VK} {ta tb tc te : TE} {x y v : V} {D : Ends} {t1 t2 : TS}
theorem g_var {i : Nat} (h : σ[i]? = some (some v)) (q : Q v H) : tVar i σ H Q := ⟨v, h, q⟩
theorem g_c (q : Q v H) : tC v σ H Q := q
theorem g_op {r : R2} (q : ta σ H fun x H1 => tb σ H1 fun y H2 => r x y H2 Q) : tOp r ta tb σ H Q := q
theorem g_un {r : V → Hp → VK → Prop} (q : ta σ H fun x H1 => r x H1 Q) : tUn r ta σ H Q := q
theorem g_cons {tr : TA} {QA : List V → Hp → Prop} (q : ta σ H fun x H1 => tr σ H1 fun xs H2 => QA (x :: xs) H2) : tCons ta tr σ H QA := q
theorem g_nil {QA : List V → Hp → Prop} (q : QA [] H) : tNil σ H QA := q
theorem g_cb {r : List V → Hp → VK → Prop} {t : TA} (q : t σ H fun vs H1 => r vs H1 Q) : tCB r t σ H Q := q
theorem g_call {sp : Sp} {E : XK} {t : TA} (q : t σ H fun vs H1 => sp vs H1 Q E) : tCall sp [] E t σ H Q := by
  unfold tCall
  simp only [List.append_nil]
  exact q
theorem g_tup {t : TA} (q : t σ H fun xs H1 => kTup xs H1 Q) : tTup t σ H Q := q
theorem g_lst {t : TA} (q : t σ H fun xs H1 => kLst xs H1 Q) : tLst t σ H Q := q
theorem g_bm {T : String} {r : V → List V → Hp → VK → Prop} {t : TA} (q : ta σ H fun x H1 => kBM K T r t σ x H1 Q) : tBM K T r ta t σ H Q := q
theorem g_bm0 {T : String} {r : V → List V → Hp → VK → Prop} (q : ta σ H fun x H1 => kBM K T r tNil σ x H1 Q) : tBM0 K T r ta σ H Q := q
theorem g_kbm {r : V → List V → Hp → VK → Prop} {t : TA} {a : Addr} {xs : List V} (h : H a = some (.lst xs)) (q : t σ H fun vs H2 => r (.ref a) vs H2 Q) : kBM K "list" r t σ (.ref a) H Q := ⟨.inl ⟨rfl, _, SqL.of h⟩, q⟩
theorem g_ktup {xs : List V} (hl : xs.length ≤ sizeLine) (hH : Has F O H) (q : ∀ p H', H p = none → Has F ((p, .tup xs) :: O) H' → Q (.ref p) H') : kTup xs H Q := ⟨hl, fun p n => q p _ n (hH.new n)⟩
theorem g_klst {xs : List V} (hl : xs.length ≤ sizeLine) (hH : Has F O H) (q : ∀ p H', H p = none → Has F ((p, .lst xs) :: O) H' → Q (.ref p) H') : kLst xs H Q := ⟨hl, fun p n => q p _ n (hH.new n)⟩
/-- a tuple that stands still at once -/
theorem g_ktupF {xs : List V} (hl : xs.length ≤ sizeLine) (hH : Has F O H) (q : ∀ p H' F', H p = none → Same F F' → F' p = some (.tup xs) → Has F' O H' → Q (.ref p) H') : kTup xs H Q :=
  ⟨hl, fun p n => q p _ (upd F p (.tup xs)) n (same_upd (hH.same.free n)) upd_same (hH.new n).frz⟩
theorem g_klstF {xs : List V} (hl : xs.length ≤ sizeLine) (hH : Has F O H) (q : ∀ p H' F', H p = none → Same F F' → F' p = some (.lst xs) → Has F' O H' → Q (.ref p) H') : kLst xs H Q :=
  ⟨hl, fun p n => q p _ (upd F p (.lst xs)) n (same_upd (hH.same.free n)) upd_same (hH.new n).frz⟩
theorem g_seq (h : t1 { D with nx := t2 D } σ H) : tSeq t1 t2 D σ H := h
theorem g_asg {g : TG} (q : te σ H fun x H1 => g x σ H1 D.nx) : tAsg te g D σ H := q
theorem g_name {i : Nat} {R : L2.St → Hp → Prop} (q : R (σ.set i (some v)) H) : gName i v σ H R := q
theorem g_drop (q : te σ H fun _ H1 => D.nx σ H1) : tDrop te D σ H := q
theorem g_ret (q : te σ H fun x H1 => D.rt x H1) : tRet te D σ H := q
theorem g_retN (q : D.rt .non H) : tRetN D σ H := q
theorem g_next (q : D.nx σ H) : tNext D σ H := q
theorem g_brk (q : D.bk σ H) : tBreak D σ H := q
theorem g_cont (q : D.ct σ H) : tCont D σ H := q
theorem g_if {c : TT} (q : c σ H fun b H1 => if b = true then t1 D σ H1 else t2 D σ H1) : tIfS c t1 t2 D σ H := q
theorem g_aug {i : Nat} {ti : TIp} (h : σ[i]? = some (some x)) (q : te σ H fun y H1 => ti x y H1 fun z H2 => D.nx (σ.set i (some z)) H2) : tAug i te ti D σ H := ⟨x, h, q⟩
theorem g_ipI {f : Int → Int → Int} {i j : Int} (q : Q (.int (f i j)) H) : ipI f (.int i) (.int j) H Q := ⟨i, j, rfl, rfl, q⟩
theorem g_test {R : Bool → Hp → Prop} (q : te σ H fun x H1 => kB x H1 R) : tTest te σ H R := q
theorem g_tB {R : Bool → Hp → Prop} (q : te σ H fun x H1 => kB x H1 R) : tB te σ H R := q
theorem g_kB {b : Bool} {R : Bool → Hp → Prop} (q : R b H) : kB (.bl b) H R := ⟨b, rfl, q⟩
theorem g_not {t : TT} {R : Bool → Hp → Prop} (q : t σ H fun c H1 => R (!c) H1) : tNot t σ H R := q
theorem g_and {t u : TT} {R : Bool → Hp → Prop} (q : t σ H fun c H1 => if c = true then u σ H1 R else R false H1) : tAnd t u σ H R := q
theorem g_or {t u : TT} {R : Bool → Hp → Prop} (q : t σ H fun c H1 => if c = true then R true H1 else u σ H1 R) : tOr t u σ H R := q
theorem g_andV (q : ta σ H fun x H1 => kB x H1 fun c H2 => if c = true then tb σ H2 Q else Q (.bl false) H2) : tAndV ta tb σ H Q := q
theorem g_orV (q : ta σ H fun x H1 => kB x H1 fun c H2 => if c = true then Q (.bl true) H2 else tb σ H2 Q) : tOrV ta tb σ H Q := q
theorem g_notV (q : ta σ H fun x H1 => kB x H1 fun c H2 => Q (.bl (!c)) H2) : tNotV ta σ H Q := q
theorem g_ifE {t : TT} (q : t σ H fun c H1 => if c = true then ta σ H1 Q else tb σ H1 Q) : tIf t ta tb σ H Q := q
theorem i_d {c A B : Prop} [Decidable c] (h1 : c → A) (h2 : ¬ c → B) : if decide c = true then A else B := by
  by_cases h : c
  · rw [if_pos (decide_eq_true h)]
    exact h1 h
  · rw [if_neg (by rw [decide_eq_false h]; exact Bool.false_ne_true)]
    exact h2 h
theorem i_n {c A B : Prop} [Decidable c] (h1 : ¬ c → A) (h2 : c → B) : if (!decide c) = true then A else B := by
  by_cases h : c
  · rw [decide_eq_true h, if_neg (by decide)]
    exact h2 h
  · rw [decide_eq_false h, if_pos (by decide)]
    exact h1 h
theorem i_b {b : Bool} {A B : Prop} (h1 : b = true → A) (h2 : b = false → B) : if b = true then A else B := by
  cases b with
  | true => rw [if_pos rfl]; exact h1 rfl
  | false => rw [if_neg Bool.false_ne_true]; exact h2 rfl
theorem i_nb {b : Bool} {A B : Prop} (h1 : b = false → A) (h2 : b = true → B) : if (!b) = true then A else B := by
  cases b with
  | false =>
    show (if true = true then A else B)
    rw [if_pos rfl]
    exact h1 rfl
  | true =>
    show (if false = true then A else B)
    rw [if_neg Bool.false_ne_true]
    exact h2 rfl
/-- a test by its answer -/
theorem g_bool {t : TT} {R : Bool → Hp → Prop} (b : Bool) (h : ∀ R : Bool → Hp → Prop, R b H → t σ H R) (q : R b H) : t σ H R := h R q

/-! ### operators -/
def rAdd (K : PySem.W.Frag) : R2 := fun x y H Q => (rI0 (fun i j => .int (i + j)) x y H Q ∨ ∃ i j, x = .str i ∧ y = .str j ∧ i.length + j.length ≤ sizeLine ∧ Q (.str (i ++ j)) H) ∨ rCat x y H Q ∨ rCatA K x y H Q
theorem g_addI {i j : Int} (q : Q (.int (i + j)) H) : rAdd K (.int i) (.int j) H Q := .inl (.inl ⟨i, j, rfl, rfl, q⟩)
theorem g_addS {i j : Str} (hl : i.length + j.length ≤ sizeLine) (q : Q (.str (i ++ j)) H) : rAdd K (.str i) (.str j) H Q := .inl (.inr ⟨i, j, rfl, rfl, hl, q⟩)
theorem g_addL {a b : Addr} {xs ys : List V} (h1 : H a = some (.lst xs)) (h2 : H b = some (.lst ys)) (hl : xs.length + ys.length ≤ sizeLine) (hH : Has F O H) (q : ∀ p H', H p = none → Has F ((p, .lst (xs ++ ys)) :: O) H' → Q (.ref p) H') : rAdd K (.ref a) (.ref b) H Q :=
  .inr (.inl ⟨a, b, xs, ys, rfl, rfl, h1, h2, hl, fun p n => q p _ n (hH.new n)⟩)
theorem g_rI0 {g : Int → Int → V} {i j : Int} (q : Q (g i j) H) : rI0 g (.int i) (.int j) H Q := ⟨i, j, rfl, rfl, q⟩
theorem g_rI {C : Int → Int → Prop} {g : Int → Int → V} {i j : Int} (hc : C i j) (q : Q (g i j) H) : rI C g (.int i) (.int j) H Q := ⟨i, j, rfl, rfl, hc, q⟩
theorem g_rU {g : Int → V} {i : Int} (q : Q (g i) H) : rU g (.int i) H Q := ⟨i, rfl, q⟩
def rMul : R2 := fun x y H Q => rI CMul (fun i j => .int (i * j)) x y H Q ∨ rRep x y H Q
theorem g_mulI {i j : Int} (hc : CMul i j) (q : Q (.int (i * j)) H) : rMul (.int i) (.int j) H Q := .inl ⟨i, j, rfl, rfl, hc, q⟩
theorem g_mulL {a : Addr} {k : Int} {xs : List V} (h : H a = some (.lst xs)) (h1 : -(2 ^ 63) ≤ k) (h2 : k < 2 ^ 63) (hl : xs.length * k.toNat ≤ sizeLine) (hH : Has F O H)
    (q : ∀ p H', H p = none → Has F ((p, .lst (List.replicate k.toNat xs).flatten) :: O) H' → Q (.ref p) H') : rMul (.ref a) (.int k) H Q := .inr ⟨a, k, xs, rfl, rfl, h, h1, h2, hl, fun p n => q p _ n (hH.new n)⟩
def rEqA (K : PySem.W.Frag) : R2 := fun x y H Q => rEq x y H Q ∨ rEqD K x y H Q
def rNeA (K : PySem.W.Frag) : R2 := fun x y H Q => rNe x y H Q ∨ rNeD K x y H Q
theorem g_eqI {i j : Int} (q : Q (.bl (decide (i = j))) H) : rEqA K (.int i) (.int j) H Q := .inl ⟨rfl, by rw [dec_int, Bool.beq_eq_decide_eq]; exact q⟩
theorem g_eqS {i j : Str} (q : Q (.bl (decide (i = j))) H) : rEqA K (.str i) (.str j) H Q := .inl ⟨rfl, by rw [dec_str, Bool.beq_eq_decide_eq]; exact q⟩
theorem g_neI {i j : Int} (q : Q (.bl (!decide (i = j))) H) : rNeA K (.int i) (.int j) H Q := .inl ⟨rfl, by rw [dec_int, Bool.beq_eq_decide_eq]; exact q⟩
theorem g_neS {i j : Str} (q : Q (.bl (!decide (i = j))) H) : rNeA K (.str i) (.str j) H Q := .inl ⟨rfl, by rw [dec_str, Bool.beq_eq_decide_eq]; exact q⟩
theorem g_eqD {d e : PyData} (hx : Dq H x d) (hy : Dq H y e) (sd : SeqAt.shaped d = true) (se : SeqAt.shaped e = true) (q : Q (.bl (PyData.eqv d e)) H) : rEqA K x y H Q := .inr ⟨d, e, hx.dp K d x, hy.dp K e y, sd, se, q⟩
theorem g_neD {d e : PyData} (hx : Dq H x d) (hy : Dq H y e) (sd : SeqAt.shaped d = true) (se : SeqAt.shaped e = true) (q : Q (.bl (!PyData.eqv d e)) H) : rNeA K x y H Q := .inr ⟨d, e, hx.dp K d x, hy.dp K e y, sd, se, q⟩
def rIsN : R2 := fun x y H Q => y = .non ∧ Q (.bl (decide (x = .non))) H
def rNotN : R2 := fun x y H Q => y = .non ∧ Q (.bl (!decide (x = .non))) H
theorem g_isN (q : Q (.bl (decide (x = .non))) H) : rIsN x .non H Q := ⟨rfl, q⟩
theorem g_notN (q : Q (.bl (!decide (x = .non))) H) : rNotN x .non H Q := ⟨rfl, q⟩
def rIxD : R2 := fun x y H Q => ∃ a v, x = .ref a ∧ DGet H a y (some v) ∧ Q v H
def rIxA (K : PySem.W.Frag) : R2 := fun x y H Q => rIx K x y H Q ∨ rIxD x y H Q
theorem g_ixL {a : Addr} {xs : List V} {i : Int} (h : H a = some (.lst xs)) (ha : atI xs i = some v) (q : Q v H) : rIxA K (.ref a) (.int i) H Q := .inl <| .inl ⟨a, xs, i, v, rfl, rfl, SqL.of h, ha, q⟩
theorem g_ixT {a : Addr} {xs : List V} {i : Int} (h : H a = some (.tup xs)) (ha : atI xs i = some v) (q : Q v H) : rIxA K (.ref a) (.int i) H Q := .inl (.inr (.inl ⟨a, xs, i, v, rfl, rfl, SqT.of h, ha, q⟩))
theorem g_ixS {z : Str} {i : Int} {c : Nat} (hl : z.length ≤ sizeLine) (ha : atI z.cps.toList i = some c) (q : Q (.str ⟨#[c]⟩) H) : rIxA K (.str z) (.int i) H Q := .inl (.inr (.inr ⟨z, i, c, rfl, rfl, hl, ha, q⟩))
theorem at_n {xs : List V} {i : Int} (h0 : 0 ≤ i) (h : xs[i.toNat]? = some v) : atI xs i = some v := by
  have e : i = (i.toNat : Int) := by omega
  rw [e]
  exact atI_nat h

/-! ### calls of what is built in -/
def rLen (K : PySem.W.Frag) : List V → Hp → VK → Prop := fun xs H Q => (∃ p ys, xs = [.ref p] ∧ (SqL K H p ys ∨ SqT K H p ys) ∧ Q (.int ys.length) H) ∨ ∃ z, xs = [.str z] ∧ z.length ≤ sizeLine ∧ Q (.int z.length) H
theorem g_lenL {a : Addr} {xs : List V} (h : H a = some (.lst xs)) (q : Q (.int (xs.length : Int)) H) : rLen K [.ref a] H Q := .inl ⟨a, xs, rfl, .inl (SqL.of h), q⟩
theorem g_lenT {a : Addr} {xs : List V} (h : H a = some (.tup xs)) (q : Q (.int (xs.length : Int)) H) : rLen K [.ref a] H Q := .inl ⟨a, xs, rfl, .inr (SqT.of h), q⟩
theorem g_lenS {z : Str} (h : z.length ≤ sizeLine) (q : Q (.int (z.length : Int)) H) : rLen K [.str z] H Q := .inr ⟨z, rfl, h, q⟩
def rInt1 : List V → Hp → VK → Prop := fun xs H Q => (∃ i, xs = [.int i] ∧ Q (.int i) H) ∨ ∃ k, xs = [.bl k] ∧ Q (.int (if k then 1 else 0)) H
theorem g_int {i : Int} (q : Q (.int i) H) : rInt1 [.int i] H Q := .inl ⟨i, rfl, q⟩
theorem g_intB {k : Bool} (q : Q (.int (if k then 1 else 0)) H) : rInt1 [.bl k] H Q := .inr ⟨k, rfl, q⟩
def rAbs1 : List V → Hp → VK → Prop := fun xs H Q => ∃ i, xs = [.int i] ∧ Q (.int (if i < 0 then -i else i)) H
theorem g_abs {i : Int} (q : ∀ j : Int, 0 ≤ j → Q (.int j) H) : rAbs1 [.int i] H Q := ⟨i, rfl, q _ (by split <;> omega)⟩
def rMax2 : List V → Hp → VK → Prop := fun xs H Q => ∃ i j, xs = [.int i, .int j] ∧ Q (.int (if j > i then j else i)) H
theorem g_max2 {i j : Int} (q : Q (.int (max i j)) H) : rMax2 [.int i, .int j] H Q := ⟨i, j, rfl, by
  have e : (if j > i then j else i) = max i j := by split <;> omega
  rw [e]
  exact q⟩
def rListOf (K : PySem.W.Frag) : List V → Hp → VK → Prop := fun xs H Q => ∃ p ys, xs = [.ref p] ∧ (SqL K H p ys ∨ SqT K H p ys) ∧ ∀ l, H l = none → Q (.ref l) (upd H l (.lst ys))
theorem g_listL {a : Addr} {xs : List V} (h : H a = some (.lst xs)) (hH : Has F O H) (q : ∀ p H', H p = none → Has F ((p, .lst xs) :: O) H' → Q (.ref p) H') : rListOf K [.ref a] H Q := ⟨a, xs, rfl, .inl (SqL.of h), fun p n => q p _ n (hH.new n)⟩
theorem g_listT {a : Addr} {xs : List V} (h : H a = some (.tup xs)) (hH : Has F O H) (q : ∀ p H', H p = none → Has F ((p, .lst xs) :: O) H' → Q (.ref p) H') : rListOf K [.ref a] H Q := ⟨a, xs, rfl, .inr (SqT.of h), fun p n => q p _ n (hH.new n)⟩
def rTupleOf (K : PySem.W.Frag) : List V → Hp → VK → Prop := fun xs H Q => ∃ p ys, xs = [.ref p] ∧ ((SqL K H p ys ∧ ∀ l, H l = none → Q (.ref l) (upd H l (.tup ys))) ∨ (SqT K H p ys ∧ Q (.ref p) H))
theorem g_tupleL {a : Addr} {xs : List V} (h : H a = some (.lst xs)) (hH : Has F O H) (q : ∀ p H' F', H p = none → Same F F' → F' p = some (.tup xs) → Has F' O H' → Q (.ref p) H') : rTupleOf K [.ref a] H Q :=
  ⟨a, xs, rfl, .inl ⟨SqL.of h, fun p n => q p _ (upd F p (.tup xs)) n (same_upd (hH.same.free n)) upd_same (hH.new n).frz⟩⟩
theorem g_tupleT {a : Addr} {xs : List V} (h : H a = some (.tup xs)) (q : Q (.ref a) H) : rTupleOf K [.ref a] H Q := ⟨a, xs, rfl, .inr ⟨SqT.of h, q⟩⟩

/-! ### methods of lists, stores -/
theorem g_append {a : Addr} {xs : List V} (hH : Has F O H) (c : Chg O a (.lst xs) (.lst (xs ++ [y])) O') (hl : xs.length < sizeLine) (q : ∀ H', Has F O' H' → Q .non H') : rAppend (.ref a) [y] H Q :=
  ⟨a, xs, y, rfl, rfl, hH.get c.mem, hl, q _ (hH.put c)⟩
theorem g_popAt {a : Addr} {xs : List V} {i : Int} {k : Nat} (hH : Has F O H) (c : Chg O a (.lst xs) (.lst (xs.eraseIdx k)) O') (h1 : -(2 ^ 63) ≤ i) (h2 : i < 2 ^ 63) (hk : seqIndex? i xs.length = some k) (hy : xs[k]? = some y)
    (q : ∀ H', Has F O' H' → Q y H') : rPopAt (.ref a) [.int i] H Q := ⟨a, xs, i, k, y, rfl, rfl, hH.get c.mem, h1, h2, hk, hy, q _ (hH.put c)⟩
theorem g_clear {a : Addr} {xs : List V} (hH : Has F O H) (c : Chg O a (.lst xs) (.lst []) O') (q : ∀ H', Has F O' H' → Q .non H') : rClear (.ref a) [] H Q := ⟨a, xs, rfl, rfl, hH.get c.mem, q _ (hH.put c)⟩
/-- o[i] = v -/
def kSet (t : TSet) (R : L2.St → Hp → Prop) (σ : L2.St) (o i v : V) (H : Hp) : Prop := t o i v H fun H3 => R σ H3
theorem g_sub {to ti : TE} {t : TSet} {R : L2.St → Hp → Prop} (q : to σ H fun o H1 => ti σ H1 fun i H2 => kSet t R σ o i v H2) : gSub to ti t v σ H R := q
theorem g_setL {R : L2.St → Hp → Prop} {a : Addr} {xs : List V} {k : Int} {j : Nat} (hH : Has F O H) (c : Chg O a (.lst xs) (.lst (xs.set j v)) O') (hj : ixN xs.length k = some j) (q : ∀ H', Has F O' H' → R σ H') : kSet rSetL R σ (.ref a) (.int k) v H :=
  ⟨a, xs, k, j, rfl, rfl, hH.get c.mem, hj, q _ (hH.put c)⟩
theorem ixN_nat {n : Nat} {k : Int} (h0 : 0 ≤ k) (h : k < n) : ixN n k = some k.toNat := by
  unfold ixN
  rw [if_pos h0, if_pos h]
/-- a, b = a tuple -/
theorem g_gtup {n : Nat} {t : TGs} {a : Addr} {xs : List V} {R : L2.St → Hp → Prop} (h : H a = some (.tup xs)) (hl : xs.length = n) (q : t xs σ H R) : gTup K n t (.ref a) σ H R := ⟨a, xs, rfl, SqT.of h, hl, q⟩
theorem g_gcons {t : TG} {u : TGs} {r : List V} {R : L2.St → Hp → Prop} (q : t v σ H fun σ' H' => u r σ' H' R) : gCons t u (v :: r) σ H R := ⟨v, r, rfl, q⟩
theorem g_gnil {R : L2.St → Hp → Prop} (q : R σ H) : gNil [] σ H R := ⟨rfl, q⟩
/-- slices -/
def kSl (r : V → Option Int → Option Int → Hp → VK → Prop) (tl th : TO) (σ : L2.St) (x : V) (H : Hp) (Q : VK) : Prop := tl σ H fun l H2 => th σ H2 fun u H3 => r x l u H3 Q
theorem g_sl {r : V → Option Int → Option Int → Hp → VK → Prop} {tl th : TO} (q : te σ H fun x H1 => kSl r tl th σ x H1 Q) : tSl r te tl th σ H Q := q
theorem g_kslN {r : V → Option Int → Option Int → Hp → VK → Prop} (q : r x none none H Q) : kSl r tNoPart tNoPart σ x H Q := q
theorem g_kslL {r : V → Option Int → Option Int → Hp → VK → Prop} {tl : TE} {i : Int} (q : tl σ H fun z H1 => ∃ i, z = .int i ∧ r x (some i) none H1 Q) : kSl r (tPart tl) tNoPart σ x H Q := q
theorem g_kslH {r : V → Option Int → Option Int → Hp → VK → Prop} {tl : TE} {i : Int} (q : tl σ H fun z H1 => ∃ i, z = .int i ∧ r x none (some i) H1 Q) : kSl r tNoPart (tPart tl) σ x H Q := q
def rRevL (K : PySem.W.Frag) (x : V) (H : Hp) (Q : VK) : Prop := ∃ a xs, x = .ref a ∧ SqL K H a xs ∧ ∀ p, H p = none → Q (.ref p) (upd H p (.lst xs.reverse))
end

/-! ### loops -/
def kW (J : It) (g : TG) (tb : TS) (D : Ends) (σ : L2.St) (H : Hp) : Prop := ∃ W : Nat → Nat → L2.St → Hp → Prop, (∃ m, W 0 m σ H) ∧ ∀ i m σ H, W i m σ H →
  (J.stop i H ∧ D.nx σ H) ∨ (J.go i H ∧ ∃ N : L2.St → Hp → Prop, (∀ σ' H', N σ' H' → ∃ m', m' < m ∧ W (i + 1) m' σ' H') ∧ ∀ x H', J.yld i H x H' → g x σ H' fun σ2 H2 => tb { D with nx := N, ct := N, bk := D.nx } σ2 H2)
def kForL (K : PySem.W.Frag) (g : TG) (tb : TS) (D : Ends) (σ : L2.St) (x : V) (H : Hp) : Prop := ∃ a, x = .ref a ∧ (∃ xs, SqL K H a xs) ∧ kW (Itl K a) g tb D σ H
def kForR1 (g : TG) (tb : TS) (D : Ends) (σ : L2.St) (vs : List V) (H : Hp) : Prop := ∃ j : Int, vs = [.int j] ∧ -(2 ^ 62) ≤ j ∧ j < 2 ^ 62 ∧ kW (Itr 0 j.toNat) g tb D σ H
def kForR2 (g : TG) (tb : TS) (D : Ends) (σ : L2.St) (vs : List V) (H : Hp) : Prop := ∃ i j : Int, vs = [.int i, .int j] ∧ (-(2 ^ 62) ≤ i ∧ i < 2 ^ 62 ∧ -(2 ^ 62) ≤ j ∧ j < 2 ^ 62) ∧ kW (Itr i (j - i).toNat) g tb D σ H
def kForR3 (g : TG) (tb : TS) (D : Ends) (σ : L2.St) (vs : List V) (H : Hp) : Prop := ∃ (i j c : Int) (n : Nat), vs = [.int i, .int j, .int c] ∧ RgC i j c n ∧ kW (Itc i c n) g tb D σ H
section
variable {K : PySem.W.Frag} {σ : L2.St} {F : Hp} {O O' : Own} {H : Hp} {Q : VK} {ta tb tc te : TE} {x y v : V} {D : Ends} {t1 t2 ts : TS} {g : TG}
theorem g_forL (q : te σ H fun x H1 => kForL K g ts D σ x H1) : tFor (iList K te) g ts D σ H := q
theorem g_forR1 {ta : TA} (q : ta σ H fun vs H1 => kForR1 g ts D σ vs H1) : tFor (iRng1 ta) g ts D σ H := q
theorem g_forR2 {ta : TA} (q : ta σ H fun vs H1 => kForR2 g ts D σ vs H1) : tFor (iRng2 ta) g ts D σ H := q
theorem g_forR3 {ta : TA} (q : ta σ H fun vs H1 => kForR3 g ts D σ vs H1) : tFor (iRng3 ta) g ts D σ H := q
theorem k_forL {a : Addr} {xs : List V} (h : H a = some (.lst xs)) (Pv : Nat → L2.St → Hp → Prop) (h0 : Pv 0 σ H) (hl : ∀ i σ H, i ≤ xs.length → Pv i σ H → H a = some (.lst xs))
    (hs : ∀ i x σ H, xs[i]? = some x → Pv i σ H → g x σ H fun σ2 H2 => ts { D with nx := Pv (i + 1), ct := Pv (i + 1), bk := D.nx } σ2 H2) (hd : ∀ σ H, Pv xs.length σ H → D.nx σ H) : kForL K g ts D σ (.ref a) H :=
  ⟨a, rfl, ⟨xs, SqL.of h⟩, for_list Pv h0 (fun i σ H hi p => SqL.of (hl i σ H hi p)) hs hd⟩
theorem k_forR1 {j : Int} (Pv : Nat → L2.St → Hp → Prop) (h1 : -(2 ^ 62) ≤ j) (h2 : j < 2 ^ 62) (h0 : Pv 0 σ H)
    (hs : ∀ i σ H, i < j.toNat → Pv i σ H → g (.int (i : Int)) σ H fun σ2 H2 => ts { D with nx := Pv (i + 1), ct := Pv (i + 1), bk := D.nx } σ2 H2) (hd : ∀ σ H, Pv j.toNat σ H → D.nx σ H) : kForR1 g ts D σ [.int j] H :=
  ⟨j, rfl, h1, h2, for_range Pv h0 (fun i σ H hi p => by rw [Int.zero_add]; exact hs i σ H hi p) hd⟩
/-- n - 1 down to 0 -/
theorem k_forDown {n : Nat} {j : Int} (hj : j = (n : Int) - 1) (hn : n < 2 ^ 60) (Pv : Nat → L2.St → Hp → Prop) (h0 : Pv n σ H)
    (hs : ∀ i σ H, i < n → Pv (i + 1) σ H → g (.int (i : Int)) σ H fun σ2 H2 => ts { D with nx := Pv i, ct := Pv i, bk := D.nx } σ2 H2) (hd : ∀ σ H, Pv 0 σ H → D.nx σ H) : kForR3 g ts D σ [.int j, .int (-1), .int (-1)] H := by
  subst hj
  have e : (((n : Int) - 1) - (-1)).toNat = n := by omega
  have rg := RgC.neg (i := (n : Int) - 1) (j := -1) (by omega) (by omega) (by decide) (by decide)
  rw [e] at rg
  refine ⟨_, _, _, n, rfl, rg, for_rangeC (fun i => Pv (n - i)) h0 (fun i σ H hi p => ?_) (fun σ H p => ?_)⟩
  · have e1 : (n : Int) - 1 + (i : Nat) * (-1) = ((n - (i + 1) : Nat) : Int) := by omega
    have e2 : n - i = (n - (i + 1)) + 1 := by omega
    rw [e1]
    have p' : Pv ((n - (i + 1)) + 1) σ H := by rw [← e2]; exact p
    exact hs _ σ H (by omega) p'
  · have p' : Pv (n - n) σ H := p
    rw [Nat.sub_self] at p'
    exact hd σ H p'
/-- while -/
def kWh (Pv : Nat → L2.St → Hp → Prop) (m : Nat) (tb : TS) (D : Ends) (σ : L2.St) (b : Bool) (H : Hp) : Prop := if b = true then ∃ N : L2.St → Hp → Prop, (∀ σ' H', N σ' H' → ∃ m', m' < m ∧ Pv m' σ' H') ∧ tb { D with nx := N, ct := N, bk := D.nx } σ H else D.nx σ H
theorem g_while {c : TT} (Pv : Nat → L2.St → Hp → Prop) (m : Nat) (h0 : Pv m σ H) (hs : ∀ m σ H, Pv m σ H → c σ H fun b H1 => kWh Pv m ts D σ b H1) : tWhile c ts D σ H := ⟨Pv, ⟨m, h0⟩, hs⟩
theorem kwh_t {Pv : Nat → L2.St → Hp → Prop} {m : Nat} (q : ts { D with nx := fun σ' H' => ∃ m', m' < m ∧ Pv m' σ' H', ct := fun σ' H' => ∃ m', m' < m ∧ Pv m' σ' H', bk := D.nx } σ H) : kWh Pv m ts D σ true H := by
  unfold kWh
  rw [if_pos rfl]
  exact ⟨_, fun _ _ h => h, q⟩
theorem kwh_f {Pv : Nat → L2.St → Hp → Prop} {m : Nat} (q : D.nx σ H) : kWh Pv m ts D σ false H := by
  unfold kWh
  rw [if_neg Bool.false_ne_true]
  exact q

/-! ### list comprehensions -/
def kLc (J : It) (g : TG) (tt : TT) (te : TE) (vs : List Nat) (σ : L2.St) (H1 : Hp) (Q : VK) : Prop := ∀ D, H1 D = none → ∃ W : Nat → Nat → Hp → Prop, (∃ m, W 0 m (upd H1 D (.lst []))) ∧ ∀ i m H, W i m H →
  (J.stop i H ∧ Q (.ref D) H) ∨ (J.go i H ∧ ∃ Nx : Hp → Prop, (∀ H', Nx H' → ∃ m', m' < m ∧ W (i + 1) m' H') ∧ ∀ x H', J.yld i H x H' → g x (wipe σ vs) H' fun σ2 H2 => wipe σ2 vs = wipe σ vs ∧ tt σ2 H2 fun b H3 =>
    if b = true then te σ2 H3 fun y H4 => ∃ acc, H4 D = some (.lst acc) ∧ acc.length < sizeLine ∧ Nx (upd H4 D (.lst (acc ++ [y]))) else Nx H3)
def kLcL (K : PySem.W.Frag) (g : TG) (tt : TT) (te : TE) (vs : List Nat) (σ : L2.St) (x : V) (H : Hp) (Q : VK) : Prop := ∃ a, x = .ref a ∧ (∃ xs, SqL K H a xs) ∧ kLc (Itl K a) g tt te vs σ H Q
def kLcR1 (g : TG) (tt : TT) (te : TE) (ws : List Nat) (σ : L2.St) (vs : List V) (H : Hp) (Q : VK) : Prop := ∃ j : Int, vs = [.int j] ∧ -(2 ^ 62) ≤ j ∧ j < 2 ^ 62 ∧ kLc (Itr 0 j.toNat) g tt te ws σ H Q
theorem g_lcL {tt : TT} {vs : List Nat} (q : ta σ H fun x H1 => kLcL K g tt te vs σ x H1 Q) : tLc (iList K ta) g tt te vs σ H Q := q
theorem g_lcR1 {ta : TA} {tt : TT} {vs : List Nat} (q : ta σ H fun xs H1 => kLcR1 g tt te vs σ xs H1 Q) : tLc (iRng1 ta) g tt te vs σ H Q := q
/-- what a turn is to leave -/
def kNx (S : Nat → List V → Hp → Own → Prop) (i : Nat) (D : Addr) (H : Hp) : Prop := ∃ acc F' O', S (i + 1) acc F' O' ∧ Has F' ((D, .lst acc) :: O') H
def kTurn (D : Addr) (Nx : Hp → Prop) (y : V) (H : Hp) : Prop := ∃ acc, H D = some (.lst acc) ∧ acc.length < sizeLine ∧ Nx (upd H D (.lst (acc ++ [y])))
theorem k_turn {S : Nat → List V → Hp → Own → Prop} {i : Nat} {D : Addr} {acc : List V} {y : V} {H : Hp} {F : Hp} {O : Own} (h : Has F ((D, .lst acc) :: O) H) (hl : acc.length ≤ 100000) (s : S (i + 1) (acc ++ [y]) F O) : kTurn D (kNx S i D) y H :=
  ⟨acc, h.get (List.Mem.head _), by rw [sizeLine_eq]; omega, _, F, O, s, h.put .hd⟩
theorem k_skip {S : Nat → List V → Hp → Own → Prop} {i : Nat} {D : Addr} {acc : List V} {H : Hp} {F : Hp} {O : Own} (h : Has F ((D, .lst acc) :: O) H) (s : S (i + 1) acc F O) : kNx S i D H := ⟨acc, F, O, s, h⟩
theorem k_lc {J : It} {tt : TT} {vs : List Nat} (hH : Has F O H) (n : Nat) (S : Nat → List V → Hp → Own → Prop) (h0 : S 0 [] F O)
    (go : ∀ i acc F O D H, i < n → S i acc F O → Has F ((D, .lst acc) :: O) H → J.go i H) (stop : ∀ acc F O D H, S n acc F O → Has F ((D, .lst acc) :: O) H → J.stop n H)
    (hs : ∀ i x acc F O D H H', i < n → J.yld i H x H' → S i acc F O → Has F ((D, .lst acc) :: O) H → g x (wipe σ vs) H' fun σ2 H2 => wipe σ2 vs = wipe σ vs ∧ tt σ2 H2 fun b H3 => if b = true then te σ2 H3 fun y H4 => kTurn D (kNx S i D) y H4 else kNx S i D H3)
    (hd : ∀ acc F O D H, S n acc F O → Has F ((D, .lst acc) :: O) H → Q (.ref D) H) : kLc J g tt te vs σ H Q := by
  intro D hD
  refine ⟨fun i m H => m = n - i ∧ i ≤ n ∧ ∃ acc F O, S i acc F O ∧ Has F ((D, .lst acc) :: O) H, ⟨n, by simp, Nat.zero_le _, [], F, O, h0, hH.new hD⟩, ?_⟩
  rintro i m H1 ⟨rfl, hi, acc, F1, O1, s1, hH1⟩
  by_cases hlt : i < n
  · exact .inr ⟨go i acc F1 O1 D H1 hlt s1 hH1, kNx S i D, fun H' p => ⟨n - (i + 1), by omega, rfl, hlt, p⟩, fun x H' y => hs i x acc F1 O1 D H1 H' hlt y s1 hH1⟩
  · have e : i = n := by omega
    subst e
    exact .inl ⟨stop acc F1 O1 D H1 s1 hH1, hd acc F1 O1 D H1 s1 hH1⟩
/-- over a list that stands still -/
theorem k_lcL {a : Addr} {xs : List V} {tt : TT} {vs : List Nat} (h : H a = some (.lst xs)) (hH : Has F O H) (S : Nat → List V → Hp → Own → Prop) (h0 : S 0 [] F O) (hl : ∀ i acc F O H, S i acc F O → Has F O H → H a = some (.lst xs))
    (hs : ∀ i x acc F O D H, xs[i]? = some x → S i acc F O → Has F ((D, .lst acc) :: O) H → g x (wipe σ vs) H fun σ2 H2 => wipe σ2 vs = wipe σ vs ∧ tt σ2 H2 fun b H3 => if b = true then te σ2 H3 fun y H4 => kTurn D (kNx S i D) y H4 else kNx S i D H3)
    (hd : ∀ acc F O D H, S xs.length acc F O → Has F ((D, .lst acc) :: O) H → Q (.ref D) H) : kLcL K g tt te vs σ (.ref a) H Q := by
  refine ⟨a, rfl, ⟨xs, SqL.of h⟩, k_lc hH xs.length S h0 (fun i acc F O D H hi s hh => ?_) (fun acc F O D H s hh => ?_) (fun i x acc F O D H H' hi y s hh => ?_) hd⟩
  · exact ⟨xs, xs[i], SqL.of (hl i acc F O H s hh.drop), List.getElem?_eq_getElem hi⟩
  · exact ⟨xs, SqL.of (hl _ acc F O H s hh.drop), Nat.le_refl _⟩
  · obtain ⟨e, y⟩ := y
    subst e
    exact hs i x acc F O D _ (y xs (SqL.of (hl i acc F O _ s hh.drop))) s hh
theorem k_lcR1 {j : Int} {tt : TT} {vs : List Nat} (h1 : -(2 ^ 62) ≤ j) (h2 : j < 2 ^ 62) (hH : Has F O H) (S : Nat → List V → Hp → Own → Prop) (h0 : S 0 [] F O)
    (hs : ∀ i acc F O D H, i < j.toNat → S i acc F O → Has F ((D, .lst acc) :: O) H → g (.int (i : Int)) (wipe σ vs) H fun σ2 H2 => wipe σ2 vs = wipe σ vs ∧ tt σ2 H2 fun b H3 => if b = true then te σ2 H3 fun y H4 => kTurn D (kNx S i D) y H4 else kNx S i D H3)
    (hd : ∀ acc F O D H, S j.toNat acc F O → Has F ((D, .lst acc) :: O) H → Q (.ref D) H) : kLcR1 g tt te vs σ [.int j] H Q := by
  refine ⟨j, rfl, h1, h2, k_lc hH j.toNat S h0 (fun i acc F O D H hi s hh => hi) (fun acc F O D H s hh => Nat.le_refl _) (fun i x acc F O D H H' hi y s hh => ?_) hd⟩
  obtain ⟨e, y⟩ := y
  subst e y
  rw [Int.zero_add]
  exact hs i acc F O D _ hi s hh
end

/-! ### the rules' own soundness: one operator for several kinds -/
section
variable {X : Cx}
theorem op_addA : OpR X (binaryOp .Add) (rAdd X.K) := by
  intro pins s σ H x y v u Q I rx ry h
  rcases h with (h | h) | h | h
  · exact op_add pins s σ H x y v u Q I rx ry h
  · exact op_add_str pins s σ H x y v u Q I rx ry h
  · exact op_cat pins s σ H x y v u Q I rx ry h
  · exact op_catA pins s σ H x y v u Q I rx ry h
theorem op_mulA : OpR X (binaryOp .Mult) rMul := by
  intro pins s σ H x y v u Q I rx ry h
  rcases h with h | h
  · exact op_mul pins s σ H x y v u Q I rx ry h
  · exact op_rep pins s σ H x y v u Q I rx ry h
theorem op_eqA (hu : X.A.units + 64 < cLine) : OpR X (compareOp .Eq) (rEqA X.K) := by
  intro pins s σ H x y v u Q I rx ry h
  rcases h with h | h
  · exact op_eq pins s σ H x y v u Q I rx ry h
  · exact op_eqD hu pins s σ H x y v u Q I rx ry h
theorem op_neA (hu : X.A.units + 64 < cLine) : OpR X (compareOp .NotEq) (rNeA X.K) := by
  intro pins s σ H x y v u Q I rx ry h
  rcases h with h | h
  · exact op_ne pins s σ H x y v u Q I rx ry h
  · exact op_neD hu pins s σ H x y v u Q I rx ry h
theorem op_isNA : OpR X (compareOp .Is) rIsN := op_isN
theorem op_notNA : OpR X (compareOp .IsNot) rNotN := op_notN
theorem cr_len : CallR X (.builtin "len") (rLen X.K) := by
  intro pins s σ H xs us Q I r h
  rcases h with h | h
  · exact call_len_seq pins s σ H xs us Q I r h
  · exact call_len_str pins s σ H xs us Q I r h
theorem cr_int1 : CallR X (.type "int") rInt1 := call_int1
theorem cr_abs1 : CallR X (.builtin "abs") rAbs1 := call_abs
theorem cr_max2 (hc : X.calm = true) : CallR X (.builtin "max") rMax2 := call_max2 hc
theorem cr_listOf : CallR X (.type "list") (rListOf X.K) := call_list_of
theorem cr_tupleOf : CallR X (.type "tuple") (rTupleOf X.K) := call_tuple_of
end

/-! ### dicts -/
def rInDc : R2 := fun x y H Q => ∃ a o, y = .ref a ∧ DGet H a x o ∧ Q (.bl o.isSome) H
def rNotInDc : R2 := fun x y H Q => ∃ a o, y = .ref a ∧ DGet H a x o ∧ Q (.bl (!o.isSome)) H
section
variable {X : Cx}
theorem op_inDc (hu : X.A.units + 1 < cLine) : OpR X (compareOp .In) rInDc := by
  intro pins s σ H x y v u Q I rx ry h
  obtain ⟨a, o, rfl, g, q⟩ := h
  cases ry
  exact d_in hu I g rx fun s' I' => ⟨.bl _, H, I', rfl, q⟩
theorem op_notinDc (hu : X.A.units + 1 < cLine) : OpR X (compareOp .NotIn) rNotInDc := by
  intro pins s σ H x y v u Q I rx ry h
  obtain ⟨a, o, rfl, g, q⟩ := h
  cases ry
  exact d_notIn hu I g rx fun s' I' => ⟨.bl _, H, I', rfl, q⟩
end
def kGet2 (ty tx : TE) (σ : L2.St) (x : V) (H : Hp) (Q : VK) : Prop := ∃ a, x = .ref a ∧ IsD H a ∧ ty σ H fun y H2 => tx σ H2 fun z H3 => ∃ o, DGet H3 a y o ∧ Q (o.getD z) H3
def kGot (a : Addr) (y z : V) (H : Hp) (Q : VK) : Prop := ∃ o, DGet H a y o ∧ Q (o.getD z) H
section
variable {K : PySem.W.Frag} {σ : L2.St} {F : Hp} {O O' : Own} {H : Hp} {Q : VK} {ta tb tc te : TE} {x y v : V} {D : Ends} {t1 t2 ts : TS} {g : TG}
theorem g_dnew (hH : Has F O H) (q : ∀ p H', H p = none → Has F ((p, .dK []) :: O) H' → Q (.ref p) H') : tDNewK σ H Q := fun p n => q p _ n (hH.new n)
theorem g_inDI {a : Addr} {kvs : List (Key × V)} {i : Int} (h : H a = some (.dK kvs)) (q : Q (.bl (valV kvs (.inl i)).isSome) H) : rInDc (.int i) (.ref a) H Q := ⟨a, _, rfl, DGet.k (k := .inl i) h, q⟩
theorem g_notinDI {a : Addr} {kvs : List (Key × V)} {i : Int} (h : H a = some (.dK kvs)) (q : Q (.bl (!(valV kvs (.inl i)).isSome)) H) : rNotInDc (.int i) (.ref a) H Q := ⟨a, _, rfl, DGet.k (k := .inl i) h, q⟩
theorem g_setDI {R : L2.St → Hp → Prop} {a : Addr} {kvs : List (Key × V)} {i : Int} (hH : Has F O H) (c : Chg O a (.dK kvs) (.dK (putK kvs (.inl i) v)) O') (hl : kvs.length < sizeLine) (q : ∀ H', Has F O' H' → R σ H') : kSet rSetD R σ (.ref a) (.int i) v H :=
  ⟨a, _, rfl, DPut.k (k := .inl i) (hH.get c.mem) hl, q _ (hH.put c)⟩
theorem g_get2 (q : ta σ H fun x H1 => kGet2 tb tc σ x H1 Q) : tDGet2 ta tb tc σ H Q := q
theorem g_kget2 {a : Addr} {kvs : List (Key × V)} (h : H a = some (.dK kvs)) (q : tb σ H fun y H2 => tc σ H2 fun z H3 => kGot a y z H3 Q) : kGet2 tb tc σ (.ref a) H Q := ⟨a, rfl, .inl ⟨kvs, .inl h⟩, q⟩
theorem g_kgotI {a : Addr} {kvs : List (Key × V)} {i : Int} {z : V} (h : H a = some (.dK kvs)) (q : Q ((valV kvs (.inl i)).getD z) H) : kGot a (.int i) z H Q := ⟨_, DGet.k (k := .inl i) h, q⟩
theorem g_kgotS {a : Addr} {kvs : List (Key × V)} {i : Str} {z : V} (h : H a = some (.dK kvs)) (q : Q ((valV kvs (.inr i)).getD z) H) : kGot a (.str i) z H Q := ⟨_, DGet.k (k := .inr i) h, q⟩
end

/-! ### in, not in; o[i] = v: any of the kinds -/
def rInA (K : PySem.W.Frag) : R2 := fun x y H Q => (rIn K false x y H Q ∨ rInDc x y H Q) ∨ (∃ i j, x = .str i ∧ y = .str j ∧ Q (.bl (!(Builtin.Str.occurrences j i 0 j.length 1).isEmpty)) H) ∨ rInD K x y H Q
def rNotInA (K : PySem.W.Frag) : R2 := fun x y H Q => (rIn K true x y H Q ∨ rNotInDc x y H Q) ∨ (∃ i j, x = .str i ∧ y = .str j ∧ Q (.bl (!(!(Builtin.Str.occurrences j i 0 j.length 1).isEmpty))) H) ∨ rNotInD K x y H Q
def rSetA : TSet := fun o i v H Q => rSetL o i v H Q ∨ rSetD o i v H Q
section
variable {X : Cx}
theorem op_inA (hu : X.A.units + 64 < cLine) (hu' : X.A.units + 65 < cLine) : OpR X (compareOp .In) (rInA X.K) := by
  intro pins s σ H x y v u Q I rx ry h
  rcases h with (h | h) | h | h
  · exact op_in_seq pins s σ H x y v u Q I rx ry h
  · exact op_inDc (by omega) pins s σ H x y v u Q I rx ry h
  · exact op_in_str pins s σ H x y v u Q I rx ry h
  · exact op_inD hu' pins s σ H x y v u Q I rx ry h
theorem op_notinA (hu : X.A.units + 64 < cLine) (hu' : X.A.units + 65 < cLine) : OpR X (compareOp .NotIn) (rNotInA X.K) := by
  intro pins s σ H x y v u Q I rx ry h
  rcases h with (h | h) | h | h
  · exact op_notIn_seq pins s σ H x y v u Q I rx ry h
  · exact op_notinDc (by omega) pins s σ H x y v u Q I rx ry h
  · exact L2.op_notIn_str pins s σ H x y v u Q I rx ry h
  · exact op_notInD hu' pins s σ H x y v u Q I rx ry h
theorem set_any (hu : X.A.units + 1 < cLine) : PSet X rSetA := by
  intro pins s σ H o i v ov iv u Q I ro ri rv h
  rcases h with h | h
  · exact set_list pins s σ H o i v ov iv u Q I ro ri rv h
  · exact set_dict hu pins s σ H o i v ov iv u Q I ro ri rv h
theorem u65 {k : Nat} {A : Around} (r : Room k A) : A.units + 65 < cLine := by have := r.un; omega
end
section
variable {K : PySem.W.Frag} {σ : L2.St} {F : Hp} {O O' : Own} {H : Hp} {Q : VK} {x y v : V}
theorem g_inFL {a : Addr} {xs : List V} (h : H a = some (.lst xs)) (hx : flatV x = true) (hf : xs.all flatV = true) (q : Q (.bl (inV x xs)) H) : rInA K x (.ref a) H Q := .inl (.inl ⟨a, xs, rfl, .inl (SqL.of h), hx, hf, q⟩)
theorem g_notinFL {a : Addr} {xs : List V} (h : H a = some (.lst xs)) (hx : flatV x = true) (hf : xs.all flatV = true) (q : Q (.bl (!inV x xs)) H) : rNotInA K x (.ref a) H Q := .inl (.inl ⟨a, xs, rfl, .inl (SqL.of h), hx, hf, q⟩)
theorem g_inI {a : Addr} {kvs : List (Key × V)} {i : Int} (h : H a = some (.dK kvs)) (q : Q (.bl (valV kvs (.inl i)).isSome) H) : rInA K (.int i) (.ref a) H Q := .inl (.inr ⟨a, _, rfl, DGet.k (k := .inl i) h, q⟩)
theorem g_notinI {a : Addr} {kvs : List (Key × V)} {i : Int} (h : H a = some (.dK kvs)) (q : Q (.bl (!(valV kvs (.inl i)).isSome)) H) : rNotInA K (.int i) (.ref a) H Q := .inl (.inr ⟨a, _, rfl, DGet.k (k := .inl i) h, q⟩)
theorem g_inS {a : Addr} {kvs : List (Key × V)} {i : Str} (h : H a = some (.dK kvs)) (q : Q (.bl (valV kvs (.inr i)).isSome) H) : rInA K (.str i) (.ref a) H Q := .inl (.inr ⟨a, _, rfl, DGet.k (k := .inr i) h, q⟩)
theorem g_notinS {a : Addr} {kvs : List (Key × V)} {i : Str} (h : H a = some (.dK kvs)) (q : Q (.bl (!(valV kvs (.inr i)).isSome)) H) : rNotInA K (.str i) (.ref a) H Q := .inl (.inr ⟨a, _, rfl, DGet.k (k := .inr i) h, q⟩)
theorem g_stL {R : L2.St → Hp → Prop} {a : Addr} {xs : List V} {k : Int} {j : Nat} (hH : Has F O H) (c : Chg O a (.lst xs) (.lst (xs.set j v)) O') (hj : ixN xs.length k = some j) (q : ∀ H', Has F O' H' → R σ H') : kSet rSetA R σ (.ref a) (.int k) v H :=
  .inl ⟨a, xs, k, j, rfl, rfl, hH.get c.mem, hj, q _ (hH.put c)⟩
theorem g_stD {R : L2.St → Hp → Prop} {a : Addr} {kvs : List (Key × V)} {k : Key} {z : V} (ez : z = kV k) (hH : Has F O H) (c : Chg O a (.dK kvs) (.dK (putK kvs k v)) O') (hl : kvs.length < sizeLine) (q : ∀ H', Has F O' H' → R σ H') : kSet rSetA R σ (.ref a) z v H := by
  subst ez
  exact .inr ⟨a, _, rfl, DPut.k (hH.get c.mem) hl, q _ (hH.put c)⟩
end

/-! ### an argument that is changed -/
def rm (H : Hp) (a : Addr) : Hp := fun b => if b = a then none else H b
/-- all but a stands as it stood -/
def But (a : Addr) (H H' : Hp) : Prop := ∀ b u, b ≠ a → H b = some u → H' b = some u
theorem rm_at {H : Hp} {a : Addr} : rm H a a = none := if_pos rfl
theorem rm_ne {H : Hp} {a b : Addr} (h : b ≠ a) : rm H a b = H b := if_neg h
theorem Has.arg {H : Hp} {a : Addr} {o : HO} (h : H a = some o) : Has (rm H a) [(a, o)] H := by
  refine ⟨fun b u q => ?_, fun p hp => ?_, by simp⟩
  · by_cases e : b = a
    · subst e; rw [rm_at] at q; cases q
    · rw [rm_ne e] at q; exact q
  · have e : p = (a, o) := by simpa using hp
    subst e
    exact ⟨rm_at, h⟩
theorem But.of {H H' : Hp} {a : Addr} (h : Same (rm H a) H') : But a H H' := fun b u ne q => h b u (by rw [rm_ne ne]; exact q)
theorem But.trans {a : Addr} {H H1 H2 : Hp} (x : But a H H1) (y : But a H1 H2) : But a H H2 := fun b u ne q => y b u ne (x b u ne q)
theorem But.same {a : Addr} {H H1 H2 : Hp} (x : But a H H1) (y : Same H1 H2) : But a H H2 := fun b u ne q => y b u (x b u ne q)
section
variable {K : PySem.W.Frag} {σ : L2.St} {F : Hp} {O O' : Own} {H : Hp} {Q : VK} {x y v : V}
/-- a test by a fact about its answer -/
theorem g_fact {t : TT} {R : Bool → Hp → Prop} (C : Bool → Prop) (h : ∀ R : Bool → Hp → Prop, (∀ b, C b → R b H) → t σ H R) (q : ∀ b, C b → R b H) : t σ H R := h R q
theorem g_ixV {a : Addr} {xs : List V} {i : Int} (h : H a = some (.lst xs)) (h0 : 0 ≤ i) (hl : i < xs.length) (q : ∀ v, xs[i.toNat]? = some v → Q v H) : rIxA K (.ref a) (.int i) H Q := by
  have e : i.toNat < xs.length := by omega
  exact g_ixL h (at_n h0 (List.getElem?_eq_getElem e)) (q _ (List.getElem?_eq_getElem e))
theorem g_ixI {a : Addr} {xs : List Int} {i : Int} (h : H a = some (.lst (xs.map V.int))) (h0 : 0 ≤ i) (hl : i < xs.length) (q : ∀ z, xs[i.toNat]? = some z → Q (.int z) H) : rIxA K (.ref a) (.int i) H Q := by
  have e : i.toNat < xs.length := by omega
  refine g_ixL h (at_n h0 (v := .int xs[i.toNat]) ?_) (q _ (List.getElem?_eq_getElem e))
  rw [List.getElem?_map, List.getElem?_eq_getElem e]
  rfl
theorem g_ixZ {a : Addr} {xs : List Str} {i : Int} (h : H a = some (.lst (xs.map V.str))) (h0 : 0 ≤ i) (hl : i < xs.length) (q : ∀ z, xs[i.toNat]? = some z → Q (.str z) H) : rIxA K (.ref a) (.int i) H Q := by
  have e : i.toNat < xs.length := by omega
  refine g_ixL h (at_n h0 (v := .str xs[i.toNat]) ?_) (q _ (List.getElem?_eq_getElem e))
  rw [List.getElem?_map, List.getElem?_eq_getElem e]
  rfl
theorem g_stI {R : L2.St → Hp → Prop} {a : Addr} {xs : List Int} {k z : Int} (hH : Has F O H) (c : Chg O a (.lst (xs.map V.int)) (.lst ((xs.set k.toNat z).map V.int)) O') (h0 : 0 ≤ k) (hl : k < xs.length) (q : ∀ H', Has F O' H' → R σ H') : kSet rSetA R σ (.ref a) (.int k) (.int z) H := by
  refine g_stL (xs := xs.map V.int) (j := k.toNat) hH ?_ (ixN_nat h0 (by rw [List.length_map]; exact hl)) q
  rw [← List.map_set]
  exact c
theorem g_popAtI {a : Addr} {xs : List Int} {i : Int} (hH : Has F O H) (c : Chg O a (.lst (xs.map V.int)) (.lst ((xs.eraseIdx i.toNat).map V.int)) O') (h0 : 0 ≤ i) (hl : i < xs.length) (h2 : xs.length ≤ 1000) (q : ∀ H' z, Has F O' H' → Q (.int z) H') : rPopAt (.ref a) [.int i] H Q := by
  have e : i.toNat < xs.length := by omega
  refine g_popAt (xs := xs.map V.int) (k := i.toNat) (y := .int xs[i.toNat]) hH ?_ (by omega) (by omega) ?_ ?_ (fun H' h => q H' _ h)
  · have : (xs.map V.int).eraseIdx i.toNat = (xs.eraseIdx i.toNat).map V.int := by
      rw [List.eraseIdx_eq_take_drop_succ, List.eraseIdx_eq_take_drop_succ, List.map_append, List.map_take, List.map_drop]
    rw [this]
    exact c
  · have := (ixN_seq (n := (xs.map V.int).length) (i := i) (j := i.toNat) (ixN_nat h0 (by rw [List.length_map]; exact hl))).1
    exact this
  · rw [List.getElem?_map, List.getElem?_eq_getElem e]
    rfl
end
theorem sz {n : Nat} (h : n ≤ 100000) : n ≤ sizeLine := by rw [sizeLine_eq]; omega
theorem szl {n : Nat} (h : n < 100000) : n < sizeLine := by rw [sizeLine_eq]; omega

section
variable {K : PySem.W.Frag} {σ : L2.St} {F : Hp} {O O' : Own} {H : Hp} {Q : VK} {x y v : V} {te ta : TE}
theorem g_yes {R : Bool → Hp → Prop} (q : R true H) : tYes σ H R := q
theorem g_wipe {σ1 σ2 : L2.St} {B : Prop} (e : σ1 = σ2) (q : B) : σ1 = σ2 ∧ B := ⟨e, q⟩
def kOI (x : V) (H : Hp) (R : Option Int → Hp → Prop) : Prop := ∃ i, x = .int i ∧ R (some i) H
theorem g_part {R : Option Int → Hp → Prop} (q : te σ H fun x H1 => kOI x H1 R) : tPart te σ H R := q
theorem g_kOI {R : Option Int → Hp → Prop} {i : Int} (q : R (some i) H) : kOI (.int i) H R := ⟨i, rfl, q⟩
theorem g_nopart {R : Option Int → Hp → Prop} (q : R none H) : tNoPart σ H R := q
theorem g_slice {r : V → Option Int → Option Int → Hp → VK → Prop} {tl th : TO} (q : te σ H fun x H1 => tl σ H1 fun l H2 => th σ H2 fun u H3 => r x l u H3 Q) : tSl r te tl th σ H Q := q
def rSlB (K : PySem.W.Frag) : V → Option Int → Option Int → Hp → VK → Prop := fun x lo hi H Q => rSlL K x lo hi H Q ∨ rSlA K x lo hi H Q
theorem g_slS {a : Addr} {xs : List V} {lo hi : Option Int} (h : SqL K H a xs) (hH : Has F O H) (q : ∀ p H', H p = none → Has F ((p, .lst (cutV xs lo hi)) :: O) H' → Q (.ref p) H') : rSlB K (.ref a) lo hi H Q := .inl ⟨a, xs, rfl, h, fun p n => q p _ n (hH.new n)⟩
theorem g_slTF {a : Addr} {xs : List V} {lo hi : Option Int} (h : F a = some (.tup xs)) (hH : Has F O H) (q : ∀ p H' F', Same F F' → F' p = some (.tup (cutV xs lo hi)) → Has F' O H' → Q (.ref p) H') : rSlB K (.ref a) lo hi H Q :=
  .inr ⟨a, xs, rfl, SqT.of (hH.same _ _ h), fun w => q a H F (Same.refl _) (by
    have e : cutV xs lo hi = xs := by
      unfold cutV
      rw [w.1, w.2, List.drop_zero, Nat.sub_zero, List.take_length]
    rw [e]; exact h) hH, fun _ p n => q p _ (upd F p (.tup (cutV xs lo hi))) (same_upd (hH.same.free n)) upd_same (hH.new n).frz⟩
theorem g_addTF {a b : Addr} {xs ys : List V} (h1 : F a = some (.tup xs)) (h2 : F b = some (.tup ys)) (hl : xs.length + ys.length ≤ sizeLine) (hH : Has F O H) (q : ∀ p H' F', Same F F' → F' p = some (.tup (xs ++ ys)) → Has F' O H' → Q (.ref p) H') : rAdd K (.ref a) (.ref b) H Q :=
  .inr (.inr ⟨a, b, xs, ys, rfl, rfl, SqT.of (hH.same _ _ h1), SqT.of (hH.same _ _ h2), hl, fun e => q b H F (Same.refl _) (by rw [e]; exact h2) hH, fun _ e => q a H F (Same.refl _) (by rw [e, List.append_nil]; exact h1) hH,
    fun _ _ p n => q p _ (upd F p (.tup (xs ++ ys))) (same_upd (hH.same.free n)) upd_same (hH.new n).frz⟩)
theorem g_slL {a : Addr} {xs : List V} {lo hi : Option Int} (h : H a = some (.lst xs)) (hH : Has F O H) (q : ∀ p H', H p = none → Has F ((p, .lst (cutV xs lo hi)) :: O) H' → Q (.ref p) H') : rSlB K (.ref a) lo hi H Q := g_slS (SqL.of h) hH q
theorem cutV_ints (ns : List Int) (lo hi : Option Int) : ∃ ms : List Int, cutV (ns.map V.int) lo hi = ms.map V.int ∧ ms.length ≤ ns.length := by
  refine ⟨(ns.drop (HT.sIx ns.length 0 lo)).take (HT.sIx ns.length ns.length hi - HT.sIx ns.length 0 lo), ?_, ?_⟩
  · unfold cutV
    rw [List.length_map, List.map_take, List.map_drop]
  · rw [List.length_take, List.length_drop]
    omega
theorem g_revL {a : Addr} {xs : List V} (h : H a = some (.lst xs)) (hH : Has F O H) (q : ∀ p H', H p = none → Has F ((p, .lst xs.reverse) :: O) H' → Q (.ref p) H') : (∃ b ys, V.ref a = .ref b ∧ SqL K H b ys ∧ ∀ p, H p = none → Q (.ref p) (upd H p (.lst ys.reverse))) :=
  ⟨a, xs, rfl, SqL.of h, fun p n => q p _ n (hH.new n)⟩
theorem g_tRev (q : te σ H fun x H1 => rRevL K x H1 Q) : tRevL K te σ H Q := q
theorem g_rRev {a : Addr} {xs : List V} (h : H a = some (.lst xs)) (hH : Has F O H) (q : ∀ p H', H p = none → Has F ((p, .lst xs.reverse) :: O) H' → Q (.ref p) H') : rRevL K (.ref a) H Q := ⟨a, xs, rfl, SqL.of h, fun p n => q p _ n (hH.new n)⟩
/-- an item of a list of texts that are in order, of ints from 0 to n -/
def okS : V → Bool
  | .str z => PyData.strOk z
  | _ => false
def okI (n : Int) : V → Bool
  | .int z => decide (0 ≤ z ∧ z ≤ n)
  | _ => false
theorem g_ixM {a : Addr} {xs : List V} {i : Int} (h : H a = some (.lst xs)) (ok : xs.all okS = true) (h0 : 0 ≤ i) (hl : i < xs.length) (q : ∀ z, PyData.strOk z = true → Q (.str z) H) : rIxA K (.ref a) (.int i) H Q := by
  refine g_ixV h h0 hl fun v hv => ?_
  have m := List.all_eq_true.mp ok v (List.mem_of_getElem? hv)
  cases v with
  | str z => exact q z m
  | _ => cases m
theorem g_ixN {n : Int} {a : Addr} {xs : List V} {i : Int} (h : H a = some (.lst xs)) (ok : xs.all (okI n) = true) (h0 : 0 ≤ i) (hl : i < xs.length) (q : ∀ z, 0 ≤ z → z ≤ n → Q (.int z) H) : rIxA K (.ref a) (.int i) H Q := by
  refine g_ixV h h0 hl fun v hv => ?_
  have m := List.all_eq_true.mp ok v (List.mem_of_getElem? hv)
  cases v with
  | int z =>
    have := of_decide_eq_true (show decide (0 ≤ z ∧ z ≤ n) = true from m)
    exact q z this.1 this.2
  | _ => cases m
end

/-! ### tables of ints: a list of rows -/
def rowO (r : Addr × List Int) : Addr × HO := (r.1, .lst (r.2.map V.int))
def tabO (t : Addr) (rows : List (Addr × List Int)) : Own := (t, .lst (rows.map fun r => V.ref r.1)) :: rows.map rowO
theorem Chg.row {r : Addr × List Int} {zs : List Int} {O : Own} : ∀ {rows : List (Addr × List Int)} {k : Nat}, rows[k]? = some r → Chg (rows.map rowO ++ O) r.1 (.lst (r.2.map V.int)) (.lst (zs.map V.int)) ((rows.set k (r.1, zs)).map rowO ++ O)
  | [], k, h => by simp at h
  | x :: rows, 0, h => by
    have e : x = r := Option.some.inj h
    subst e
    exact .hd
  | x :: rows, k + 1, h => .tl (Chg.row (rows := rows) (k := k) h)
theorem rows_ref {r : Addr × List Int} {zs : List Int} : ∀ {rows : List (Addr × List Int)} {k : Nat}, rows[k]? = some r → (rows.set k (r.1, zs)).map (fun r => V.ref r.1) = rows.map fun r => V.ref r.1
  | [], k, h => by simp at h
  | x :: rows, 0, h => by
    have e : x = r := Option.some.inj h
    subst e
    rfl
  | x :: rows, k + 1, h => by
    have := rows_ref (rows := rows) (k := k) (zs := zs) h
    show V.ref x.1 :: (rows.set k (r.1, zs)).map (fun r => V.ref r.1) = _
    rw [this]
    rfl
section
variable {K : PySem.W.Frag} {σ : L2.St} {F : Hp} {O O' : Own} {H : Hp} {Q : VK} {t : Addr} {rows : List (Addr × List Int)}
theorem Has.row {r : Addr × List Int} {k : Nat} (hH : Has F (tabO t rows ++ O) H) (hr : rows[k]? = some r) : H r.1 = some (.lst (r.2.map V.int)) :=
  hH.get (List.mem_append_left _ (List.mem_cons_of_mem _ (List.mem_map.mpr ⟨r, List.mem_of_getElem? hr, rfl⟩)))
theorem Has.tab (hH : Has F (tabO t rows ++ O) H) : H t = some (.lst (rows.map fun r => V.ref r.1)) := hH.get (List.mem_append_left _ List.mem_cons_self)
theorem g_ixRow {i : Int} (hH : Has F (tabO t rows ++ O) H) (h0 : 0 ≤ i) (hl : i < rows.length) (q : ∀ r, rows[i.toNat]? = some r → H r.1 = some (.lst (r.2.map V.int)) → Q (.ref r.1) H) : rIxA K (.ref t) (.int i) H Q := by
  have e : i.toNat < rows.length := by omega
  have hr := List.getElem?_eq_getElem e
  refine g_ixL hH.tab (at_n h0 (v := .ref rows[i.toNat].1) ?_) (q _ hr (hH.row hr))
  rw [List.getElem?_map, hr]
  rfl
theorem g_setRow {R : L2.St → Hp → Prop} {r : Addr × List Int} {k : Nat} {j z : Int} (hH : Has F (tabO t rows ++ O) H) (hr : rows[k]? = some r) (h0 : 0 ≤ j) (hl : j < r.2.length) (q : ∀ H', Has F (tabO t (rows.set k (r.1, r.2.set j.toNat z)) ++ O) H' → R σ H') :
    kSet rSetA R σ (.ref r.1) (.int j) (.int z) H := by
  refine g_stI hH (xs := r.2) ?_ h0 hl q
  have c := Chg.row (O := O) (zs := r.2.set j.toNat z) hr
  unfold tabO
  rw [List.cons_append, List.cons_append, rows_ref hr]
  exact .tl c
end

/-! ### the rules with the written part by its name -/
section
variable {X : Cx}
theorem op_addK (K : PySem.W.Frag) (e : X.K = K := by rfl) : OpR X (binaryOp .Add) (rAdd K) := by subst e; exact op_addA
theorem op_eqK (K : PySem.W.Frag) (hu : X.A.units + 64 < cLine) (e : X.K = K := by rfl) : OpR X (compareOp .Eq) (rEqA K) := by subst e; exact op_eqA hu
theorem op_neK (K : PySem.W.Frag) (hu : X.A.units + 64 < cLine) (e : X.K = K := by rfl) : OpR X (compareOp .NotEq) (rNeA K) := by subst e; exact op_neA hu
theorem op_inK (K : PySem.W.Frag) (hu : X.A.units + 64 < cLine) (hu' : X.A.units + 65 < cLine) (e : X.K = K := by rfl) : OpR X (compareOp .In) (rInA K) := by subst e; exact op_inA hu hu'
theorem op_notinK (K : PySem.W.Frag) (hu : X.A.units + 64 < cLine) (hu' : X.A.units + 65 < cLine) (e : X.K = K := by rfl) : OpR X (compareOp .NotIn) (rNotInA K) := by subst e; exact op_notinA hu hu'
theorem ix_dict (hu : X.A.units + 1 < cLine) : IxR X rIxD := by
  intro value slice pins s σ H x y v u Q I rx ry h hs
  obtain ⟨a, z, rfl, g, q⟩ := h
  cases rx
  have hT := dict_typeIs I g
  have fin : wpAny (model X.prog X.w) X.A (subscripted slice false (.ref a) u) (fun r s₃ => wpAny (model X.prog X.w) X.A (letTemporaryGo value (.ref a) r >>= fun _ => pure r) (EP X pins σ Q) X.xe s₃) X.xe s := by
    rw [hs]
    exact wpAny_operating (wpAny_mono (d_getItem hu I g ry (Q := fun r s' => EP X pins σ Q r s') fun w' s3 I3 rw' => ⟨z, H, I3, rw', q⟩) (fun r s₃ h₃ => wpAny_bind (wpAny_letTemporaryGo (wpAny_pure h₃))) fun _ _ x => x)
  unfold subscriptTail
  refine wpAny_bind ?_
  rw [getitemInPython_of_ne hT.not_modules]
  refine wpAny_bind (wpAny_specialOf hT PySem.F.slot_dict_getitem.lookup ?_)
  first
    | exact wpAny_pure (wpAny_bind fin)
    | exact wpAny_bind (wpAny_pure (wpAny_bind fin))
    | exact wpAny_bind fin
theorem ix_K (K : PySem.W.Frag) (hu : X.A.units + 1 < cLine) (e : X.K = K := by rfl) : IxR X (rIxA K) := by subst e; exact ix_seq.or (ix_dict hu)
theorem cr_lenK (K : PySem.W.Frag) (e : X.K = K := by rfl) : CallR X (.builtin "len") (rLen K) := by subst e; exact cr_len
theorem cr_listK (K : PySem.W.Frag) (e : X.K = K := by rfl) : CallR X (.type "list") (rListOf K) := by subst e; exact cr_listOf
theorem cr_tupleK (K : PySem.W.Frag) (e : X.K = K := by rfl) : CallR X (.type "tuple") (rTupleOf K) := by subst e; exact cr_tupleOf
theorem sl_all : SlR X (rSlB X.K) := by
  intro pins s σ H x v vl vu lo hi sl Q I rx hs pl pu h
  rcases h with h | h
  · exact sl_list pins s σ H x v vl vu lo hi sl Q I rx hs pl pu h
  · exact sl_tupA pins s σ H x v vl vu lo hi sl Q I rx hs pl pu h
theorem sl_K (K : PySem.W.Frag) (e : X.K = K := by rfl) : SlR X (rSlB K) := by subst e; exact sl_all
theorem k_bm {ex : Expr} {T : String} {r : V → List V → Hp → VK → Prop} {to : TE} {t : TA} (K : PySem.W.Frag) (h : PE X ex (tBM X.K T r to t)) (e : X.K = K := by rfl) : PE X ex (tBM K T r to t) := by subst e; exact h
theorem k_bm0 {ex : Expr} {T : String} {r : V → List V → Hp → VK → Prop} {to : TE} (K : PySem.W.Frag) (h : PE X ex (tBM0 X.K T r to)) (e : X.K = K := by rfl) : PE X ex (tBM0 K T r to) := by subst e; exact h
theorem k_rev {ex : Expr} {to : TE} (K : PySem.W.Frag) (h : PE X ex (tRevL X.K to)) (e : X.K = K := by rfl) : PE X ex (tRevL K to) := by subst e; exact h
theorem k_il {tg l : Expr} {tl : TE} (K : PySem.W.Frag) (h : PI X tg l (iList X.K tl)) (e : X.K = K := by rfl) : PI X tg l (iList K tl) := by subst e; exact h
theorem k_gt {tg : Expr} {n : Nat} {t : TGs} (K : PySem.W.Frag) (h : PG X tg (gTup X.K n t)) (e : X.K = K := by rfl) : PG X tg (gTup K n t) := by subst e; exact h
end
theorem g_start {t : TS} {D : Ends} {σ σ' : L2.St} {H : Hp} (e : σ = σ') (h : t D σ' H) : t D σ H := by subst e; exact h

theorem Has.argFree {H H' : Hp} {a D : Addr} {o : HO} {O : Own} (h : Has (rm H a) ((D, o) :: O) H') (m : a ∈ O.map (·.1)) : H D = none := by
  have nd : D ∉ O.map (·.1) ∧ (O.map (·.1)).Nodup := List.nodup_cons.mp (by have := h.nd; rw [List.map_cons] at this; exact this)
  have e := h.free
  rw [rm_ne (fun z => nd.1 (by rw [z]; exact m))] at e
  exact e

theorem Has.but2 {F H H' : Hp} {O O' : Own} {a p : Addr} {o o' op : HO} (h : Has F O H) (c : Chg O a o o' O') (hb : But a H H') (e : H' a = some o') (n : H p = none) (ep : H' p = some op) : Has F ((p, op) :: O') H' := by
  have h' := h.but c hb e
  refine ⟨h'.same, fun q hq => ?_, ?_⟩
  · rcases List.mem_cons.mp hq with rfl | hq
    · exact ⟨h.same.free n, ep⟩
    · exact h'.own q hq
  · rw [List.map_cons]
    refine List.nodup_cons.mpr ⟨fun m => ?_, h'.nd⟩
    rw [c.fst] at m
    obtain ⟨q, hq, e'⟩ := List.mem_map.mp m
    have z := (h.own q hq).2
    rw [e', n] at z
    cases z

theorem Has.mono {F F' H : Hp} {O : Own} (h : Has F O H) (s : Same F' F) : Has F' O H := ⟨s.trans h.same, fun q hq => ⟨s.free (h.own q hq).1, (h.own q hq).2⟩, h.nd⟩
theorem same_rm {F H : Hp} {a : Addr} (s : Same F H) (n : F a = none) : Same F (rm H a) := fun b u q => by
  rw [rm_ne (ne_of_none q n)]
  exact s b u q
theorem take_foldl {α β : Type} {f : β → α → β} {z : β} {l : List α} {i : Nat} {x : α} (h : l[i]? = some x) : (l.take (i + 1)).foldl f z = f ((l.take i).foldl f z) x := by
  rw [List.take_add_one, h, List.foldl_append]
  rfl

/-! ### isinstance -/
def rIsA (K : PySem.W.Frag) : List V → Hp → VK → Prop := fun xs H Q => rIsi K xs H Q ∨ rIsiT K xs H Q
theorem cr_isK {X : Cx} (K : PySem.W.Frag) (e : X.K = K := by rfl) : CallR X (.builtin "isinstance") (rIsA K) := by
  subst e
  intro pins s σ H xs us Q I r h
  rcases h with h | h
  · exact call_isi pins s σ H xs us Q I r h
  · exact call_isiT pins s σ H xs us Q I r h
theorem g_is {K : PySem.W.Frag} {H : Hp} {Q : VK} {x : V} {t n : String} {b : Bool} (ty : TyX K H x (.type t)) (e : kitB t n = some b) (q : Q (.bl b) H) : rIsA K [x, .ty n] H Q := .inl ⟨x, .ty n, _, _, b, rfl, .ty n, ty, kit_ty e, q⟩
theorem g_is2 {K : PySem.W.Frag} {H : Hp} {Q : VK} {x : V} {t n m : String} {a b : Bool} {tp : Addr} (h : H tp = some (.tup [.ty n, .ty m])) (ty : TyX K H x (.type t)) (ea : kitB t n = some a) (eb : kitB t m = some b) (q : Q (.bl (a || b)) H) : rIsA K [x, .ref tp] H Q := by
  refine .inr ⟨x, tp, _, _, _, a || b, rfl, h, .cons (.ty n) (.cons (.ty m) .nil), ty, ?_, q⟩
  refine kitAny_cons (kit_ty ea) (fun z => ?_) (fun z => by rw [z]; rfl)
  refine kitAny_cons (kit_ty eb) (fun y => ?_) (fun y => by rw [z, y]; rfl)
  rw [z, y]
  exact kitAny_nil
theorem kit_list_list : kitB "list" "list" = some true := by decide +kernel
theorem kit_list_tuple : kitB "list" "tuple" = some false := by decide +kernel
theorem kit_list_dict : kitB "list" "dict" = some false := by decide +kernel
theorem kit_list_int : kitB "list" "int" = some false := by decide +kernel
theorem kit_list_bool : kitB "list" "bool" = some false := by decide +kernel
theorem kit_list_str : kitB "list" "str" = some false := by decide +kernel
theorem kit_tuple_list : kitB "tuple" "list" = some false := by decide +kernel
theorem kit_tuple_tuple : kitB "tuple" "tuple" = some true := by decide +kernel
theorem kit_tuple_dict : kitB "tuple" "dict" = some false := by decide +kernel
theorem kit_tuple_int : kitB "tuple" "int" = some false := by decide +kernel
theorem kit_tuple_bool : kitB "tuple" "bool" = some false := by decide +kernel
theorem kit_tuple_str : kitB "tuple" "str" = some false := by decide +kernel
theorem kit_dict_list : kitB "dict" "list" = some false := by decide +kernel
theorem kit_dict_tuple : kitB "dict" "tuple" = some false := by decide +kernel
theorem kit_dict_dict : kitB "dict" "dict" = some true := by decide +kernel
theorem kit_dict_int : kitB "dict" "int" = some false := by decide +kernel
theorem kit_dict_bool : kitB "dict" "bool" = some false := by decide +kernel
theorem kit_dict_str : kitB "dict" "str" = some false := by decide +kernel
theorem kit_int_list : kitB "int" "list" = some false := by decide +kernel
theorem kit_int_tuple : kitB "int" "tuple" = some false := by decide +kernel
theorem kit_int_dict : kitB "int" "dict" = some false := by decide +kernel
theorem kit_int_int : kitB "int" "int" = some true := by decide +kernel
theorem kit_int_bool : kitB "int" "bool" = some false := by decide +kernel
theorem kit_int_str : kitB "int" "str" = some false := by decide +kernel
theorem kit_bool_list : kitB "bool" "list" = some false := by decide +kernel
theorem kit_bool_tuple : kitB "bool" "tuple" = some false := by decide +kernel
theorem kit_bool_dict : kitB "bool" "dict" = some false := by decide +kernel
theorem kit_bool_int : kitB "bool" "int" = some true := by decide +kernel
theorem kit_bool_bool : kitB "bool" "bool" = some true := by decide +kernel
theorem kit_bool_str : kitB "bool" "str" = some false := by decide +kernel
theorem kit_str_list : kitB "str" "list" = some false := by decide +kernel
theorem kit_str_tuple : kitB "str" "tuple" = some false := by decide +kernel
theorem kit_str_dict : kitB "str" "dict" = some false := by decide +kernel
theorem kit_str_int : kitB "str" "int" = some false := by decide +kernel
theorem kit_str_bool : kitB "str" "bool" = some false := by decide +kernel
theorem kit_str_str : kitB "str" "str" = some true := by decide +kernel
section
variable {K : PySem.W.Frag} {H : Hp} {Q : VK}
theorem is_list_list {a : Addr} {xs : List V} (h : H a = some (.lst xs)) (q : Q (.bl true) H) : rIsA K [.ref a, .ty "list"] H Q := g_is (.base (.lst h)) kit_list_list q
theorem is_list_tuple {a : Addr} {xs : List V} (h : H a = some (.lst xs)) (q : Q (.bl false) H) : rIsA K [.ref a, .ty "tuple"] H Q := g_is (.base (.lst h)) kit_list_tuple q
theorem is_list_dict {a : Addr} {xs : List V} (h : H a = some (.lst xs)) (q : Q (.bl false) H) : rIsA K [.ref a, .ty "dict"] H Q := g_is (.base (.lst h)) kit_list_dict q
theorem is_list_int {a : Addr} {xs : List V} (h : H a = some (.lst xs)) (q : Q (.bl false) H) : rIsA K [.ref a, .ty "int"] H Q := g_is (.base (.lst h)) kit_list_int q
theorem is_list_bool {a : Addr} {xs : List V} (h : H a = some (.lst xs)) (q : Q (.bl false) H) : rIsA K [.ref a, .ty "bool"] H Q := g_is (.base (.lst h)) kit_list_bool q
theorem is_list_str {a : Addr} {xs : List V} (h : H a = some (.lst xs)) (q : Q (.bl false) H) : rIsA K [.ref a, .ty "str"] H Q := g_is (.base (.lst h)) kit_list_str q
theorem is2_list {a : Addr} {xs : List V} (h : H a = some (.lst xs)) {tp : Addr} (hp : H tp = some (.tup [.ty "list", .ty "tuple"])) (q : Q (.bl true) H) : rIsA K [.ref a, .ref tp] H Q := g_is2 hp (.base (.lst h)) kit_list_list kit_list_tuple q
theorem is_tuple_list {a : Addr} {xs : List V} (h : H a = some (.tup xs)) (q : Q (.bl false) H) : rIsA K [.ref a, .ty "list"] H Q := g_is (.base (.tup h)) kit_tuple_list q
theorem is_tuple_tuple {a : Addr} {xs : List V} (h : H a = some (.tup xs)) (q : Q (.bl true) H) : rIsA K [.ref a, .ty "tuple"] H Q := g_is (.base (.tup h)) kit_tuple_tuple q
theorem is_tuple_dict {a : Addr} {xs : List V} (h : H a = some (.tup xs)) (q : Q (.bl false) H) : rIsA K [.ref a, .ty "dict"] H Q := g_is (.base (.tup h)) kit_tuple_dict q
theorem is_tuple_int {a : Addr} {xs : List V} (h : H a = some (.tup xs)) (q : Q (.bl false) H) : rIsA K [.ref a, .ty "int"] H Q := g_is (.base (.tup h)) kit_tuple_int q
theorem is_tuple_bool {a : Addr} {xs : List V} (h : H a = some (.tup xs)) (q : Q (.bl false) H) : rIsA K [.ref a, .ty "bool"] H Q := g_is (.base (.tup h)) kit_tuple_bool q
theorem is_tuple_str {a : Addr} {xs : List V} (h : H a = some (.tup xs)) (q : Q (.bl false) H) : rIsA K [.ref a, .ty "str"] H Q := g_is (.base (.tup h)) kit_tuple_str q
theorem is2_tuple {a : Addr} {xs : List V} (h : H a = some (.tup xs)) {tp : Addr} (hp : H tp = some (.tup [.ty "list", .ty "tuple"])) (q : Q (.bl true) H) : rIsA K [.ref a, .ref tp] H Q := g_is2 hp (.base (.tup h)) kit_tuple_list kit_tuple_tuple q
theorem is_dict_list {a : Addr} {kvs : List (Key × V)} (h : H a = some (.dK kvs)) (q : Q (.bl false) H) : rIsA K [.ref a, .ty "list"] H Q := g_is (.base (.dK h)) kit_dict_list q
theorem is_dict_tuple {a : Addr} {kvs : List (Key × V)} (h : H a = some (.dK kvs)) (q : Q (.bl false) H) : rIsA K [.ref a, .ty "tuple"] H Q := g_is (.base (.dK h)) kit_dict_tuple q
theorem is_dict_dict {a : Addr} {kvs : List (Key × V)} (h : H a = some (.dK kvs)) (q : Q (.bl true) H) : rIsA K [.ref a, .ty "dict"] H Q := g_is (.base (.dK h)) kit_dict_dict q
theorem is_dict_int {a : Addr} {kvs : List (Key × V)} (h : H a = some (.dK kvs)) (q : Q (.bl false) H) : rIsA K [.ref a, .ty "int"] H Q := g_is (.base (.dK h)) kit_dict_int q
theorem is_dict_bool {a : Addr} {kvs : List (Key × V)} (h : H a = some (.dK kvs)) (q : Q (.bl false) H) : rIsA K [.ref a, .ty "bool"] H Q := g_is (.base (.dK h)) kit_dict_bool q
theorem is_dict_str {a : Addr} {kvs : List (Key × V)} (h : H a = some (.dK kvs)) (q : Q (.bl false) H) : rIsA K [.ref a, .ty "str"] H Q := g_is (.base (.dK h)) kit_dict_str q
theorem is2_dict {a : Addr} {kvs : List (Key × V)} (h : H a = some (.dK kvs)) {tp : Addr} (hp : H tp = some (.tup [.ty "list", .ty "tuple"])) (q : Q (.bl false) H) : rIsA K [.ref a, .ref tp] H Q := g_is2 hp (.base (.dK h)) kit_dict_list kit_dict_tuple q
theorem is_int_list {i : Int} (q : Q (.bl false) H) : rIsA K [.int i, .ty "list"] H Q := g_is (.base (.int i)) kit_int_list q
theorem is_int_tuple {i : Int} (q : Q (.bl false) H) : rIsA K [.int i, .ty "tuple"] H Q := g_is (.base (.int i)) kit_int_tuple q
theorem is_int_dict {i : Int} (q : Q (.bl false) H) : rIsA K [.int i, .ty "dict"] H Q := g_is (.base (.int i)) kit_int_dict q
theorem is_int_int {i : Int} (q : Q (.bl true) H) : rIsA K [.int i, .ty "int"] H Q := g_is (.base (.int i)) kit_int_int q
theorem is_int_bool {i : Int} (q : Q (.bl false) H) : rIsA K [.int i, .ty "bool"] H Q := g_is (.base (.int i)) kit_int_bool q
theorem is_int_str {i : Int} (q : Q (.bl false) H) : rIsA K [.int i, .ty "str"] H Q := g_is (.base (.int i)) kit_int_str q
theorem is2_int {i : Int} {tp : Addr} (hp : H tp = some (.tup [.ty "list", .ty "tuple"])) (q : Q (.bl false) H) : rIsA K [.int i, .ref tp] H Q := g_is2 hp (.base (.int i)) kit_int_list kit_int_tuple q
theorem is_bool_list {b : Bool} (q : Q (.bl false) H) : rIsA K [.bl b, .ty "list"] H Q := g_is (.base (.bl b)) kit_bool_list q
theorem is_bool_tuple {b : Bool} (q : Q (.bl false) H) : rIsA K [.bl b, .ty "tuple"] H Q := g_is (.base (.bl b)) kit_bool_tuple q
theorem is_bool_dict {b : Bool} (q : Q (.bl false) H) : rIsA K [.bl b, .ty "dict"] H Q := g_is (.base (.bl b)) kit_bool_dict q
theorem is_bool_int {b : Bool} (q : Q (.bl true) H) : rIsA K [.bl b, .ty "int"] H Q := g_is (.base (.bl b)) kit_bool_int q
theorem is_bool_bool {b : Bool} (q : Q (.bl true) H) : rIsA K [.bl b, .ty "bool"] H Q := g_is (.base (.bl b)) kit_bool_bool q
theorem is_bool_str {b : Bool} (q : Q (.bl false) H) : rIsA K [.bl b, .ty "str"] H Q := g_is (.base (.bl b)) kit_bool_str q
theorem is2_bool {b : Bool} {tp : Addr} (hp : H tp = some (.tup [.ty "list", .ty "tuple"])) (q : Q (.bl false) H) : rIsA K [.bl b, .ref tp] H Q := g_is2 hp (.base (.bl b)) kit_bool_list kit_bool_tuple q
theorem is_str_list {z : Str} (q : Q (.bl false) H) : rIsA K [.str z, .ty "list"] H Q := g_is (.base (.str z)) kit_str_list q
theorem is_str_tuple {z : Str} (q : Q (.bl false) H) : rIsA K [.str z, .ty "tuple"] H Q := g_is (.base (.str z)) kit_str_tuple q
theorem is_str_dict {z : Str} (q : Q (.bl false) H) : rIsA K [.str z, .ty "dict"] H Q := g_is (.base (.str z)) kit_str_dict q
theorem is_str_int {z : Str} (q : Q (.bl false) H) : rIsA K [.str z, .ty "int"] H Q := g_is (.base (.str z)) kit_str_int q
theorem is_str_bool {z : Str} (q : Q (.bl false) H) : rIsA K [.str z, .ty "bool"] H Q := g_is (.base (.str z)) kit_str_bool q
theorem is_str_str {z : Str} (q : Q (.bl true) H) : rIsA K [.str z, .ty "str"] H Q := g_is (.base (.str z)) kit_str_str q
theorem is2_str {z : Str} {tp : Addr} (hp : H tp = some (.tup [.ty "list", .ty "tuple"])) (q : Q (.bl false) H) : rIsA K [.str z, .ref tp] H Q := g_is2 hp (.base (.str z)) kit_str_list kit_str_tuple q
end
section
variable {K : PySem.W.Frag} {σ : L2.St} {F : Hp} {O O' : Own} {H : Hp} {Q : VK} {x y v : V}
theorem g_neB {i j : Bool} (q : Q (.bl (!decide (i = j))) H) : rNeA K (.bl i) (.bl j) H Q := .inl ⟨rfl, by rw [dec_bl, Bool.beq_eq_decide_eq]; exact q⟩
theorem g_eqB {i j : Bool} (q : Q (.bl (decide (i = j))) H) : rEqA K (.bl i) (.bl j) H Q := .inl ⟨rfl, by rw [dec_bl, Bool.beq_eq_decide_eq]; exact q⟩
/-! ### insert, max, the last item -/
def rInsert : V → List V → Hp → VK → Prop := fun x vs H Q => ∃ (l : Addr) (xs : List V) (i : Int) (y : V), x = .ref l ∧ vs = [.int i, y] ∧ H l = some (.lst xs) ∧ xs.length < sizeLine ∧ 0 ≤ i ∧ i < 2 ^ 63 ∧ Q .non (upd H l (.lst (xs.take i.toNat ++ [y] ++ xs.drop i.toNat)))
theorem mt_insertA {X : Cx} : MtR X "list.insert" rInsert := mt_insert
theorem g_insert {a : Addr} {xs : List V} {i : Int} (hH : Has F O H) (c : Chg O a (.lst xs) (.lst (xs.take i.toNat ++ [y] ++ xs.drop i.toNat)) O') (hl : xs.length < sizeLine) (h0 : 0 ≤ i) (h1 : i < 2 ^ 63) (q : ∀ H', Has F O' H' → Q .non H') : rInsert (.ref a) [.int i, y] H Q :=
  ⟨a, xs, i, y, rfl, rfl, hH.get c.mem, hl, h0, h1, q _ (hH.put c)⟩
theorem cr_maxK {X : Cx} (K : PySem.W.Frag) (hc : X.calm = true) (e : X.K = K := by rfl) : CallR X (.builtin "max") (rMax K) := by subst e; exact cr_max hc
theorem g_max {a : Addr} {ns : List Int} (h : H a = some (.lst (ns.map V.int))) (hl : 0 < ns.length) (q : ∀ m, m ∈ ns → (∀ y, y ∈ ns → y ≤ m) → Q (.int m) H) : rMax K [.ref a] H Q := ⟨a, ns, rfl, SqL.of h, hl, q⟩
theorem g_ixLast {a : Addr} {xs : List V} {v : V} (h : H a = some (.lst xs)) (hl : xs.getLast? = some v) (q : Q v H) : rIxA K (.ref a) (.int (-1)) H Q := by
  obtain ⟨ys, rfl⟩ := List.getLast?_eq_some_iff.mp hl
  exact g_ixL h (atI_last ys v) q
end
theorem cutV_nat (xs : List V) (a b : Nat) : cutV xs (some (a : Int)) (some (b : Int)) = (xs.drop a).take (b - a) := by
  unfold cutV
  rw [HT.sIx_nat, HT.sIx_nat]
  by_cases h : a ≤ xs.length
  · rw [Nat.min_eq_left h]
    rcases Nat.le_total b xs.length with hb | hb
    · rw [Nat.min_eq_left hb]
    · rw [Nat.min_eq_right hb, List.take_of_length_le (by rw [List.length_drop]; omega), List.take_of_length_le (by rw [List.length_drop]; omega)]
  · rw [Nat.min_eq_right (show xs.length ≤ a by omega), List.drop_of_length_le (Nat.le_refl _), List.drop_of_length_le (show xs.length ≤ a by omega), List.take_nil, List.take_nil]
theorem cutV_from (xs : List V) (a : Nat) : cutV xs (some (a : Int)) none = xs.drop a := by
  unfold cutV
  rw [HT.sIx_nat, HT.sIx_none]
  by_cases h : a ≤ xs.length
  · rw [Nat.min_eq_left h, List.take_of_length_le (by rw [List.length_drop]; omega)]
  · rw [Nat.min_eq_right (show xs.length ≤ a by omega), List.drop_of_length_le (Nat.le_refl _), List.drop_of_length_le (show xs.length ≤ a by omega), List.take_nil]
theorem cutV_to (xs : List V) (b : Nat) : cutV xs none (some (b : Int)) = xs.take b := by
  unfold cutV
  rw [HT.sIx_none, HT.sIx_nat, List.drop_zero, Nat.sub_zero]
  rcases Nat.le_total b xs.length with hb | hb
  · rw [Nat.min_eq_left hb]
  · rw [Nat.min_eq_right hb, List.take_length, List.take_of_length_le hb]
/-! ### a def that adds to what stands still -/
def Grow (F H F' : Hp) : Prop := Same F F' ∧ ∀ b, H b ≠ none → F' b = F b
theorem Has.grown {F F' H H' : Hp} {O O' : Own} {a : Addr} {o o' : HO} (h : Has F O H) (c : Chg O a o o' O') (hb : But a H H') (g : Grow F H F') (s : Same F' H') (e : H' a = some o') : Has F' O' H' := by
  have h' := h.but c hb e
  refine ⟨s, fun q hq => ⟨?_, (h'.own q hq).2⟩, h'.nd⟩
  rcases c.own h.nd q hq with rfl | ⟨m, _⟩
  · rw [g.2 a (by rw [h.get c.mem]; exact fun z => by cases z)]
    exact (h.own _ c.mem).1
  · rw [g.2 q.1 (by rw [(h.own q m).2]; exact fun z => by cases z)]
    exact (h.own q m).1

section
variable {K : PySem.W.Frag} {H : Hp} {Q : VK}
theorem g_ixVT {a : Addr} {xs : List V} {i : Int} (h : H a = some (.tup xs)) (h0 : 0 ≤ i) (hl : i < xs.length) (q : ∀ v, xs[i.toNat]? = some v → Q v H) : rIxA K (.ref a) (.int i) H Q := by
  have e : i.toNat < xs.length := by omega
  exact g_ixT h (at_n h0 (List.getElem?_eq_getElem e)) (q _ (List.getElem?_eq_getElem e))
theorem is2_non {tp : Addr} (hp : H tp = some (.tup [.ty "list", .ty "tuple"])) (q : Q (.bl false) H) : rIsA K [.non, .ref tp] H Q := g_is2 hp (.base .non) (by decide +kernel : kitB "NoneType" "list" = some false) (by decide +kernel : kitB "NoneType" "tuple" = some false) q
end

theorem i_nf {A B : Prop} (h : A) : if (!false) = true then A else B := by
  show (if true = true then A else B)
  rw [if_pos rfl]
  exact h
theorem i_nt {A B : Prop} (h : B) : if (!true) = true then A else B := by
  show (if false = true then A else B)
  rw [if_neg Bool.false_ne_true]
  exact h

/-- ways that meet: what holds where they meet -/
theorem g_join {t : TS} {D : Ends} {σ : L2.St} {H : Hp} (M : L2.St → Hp → Prop) (h : ∀ σ' H', M σ' H' → D.nx σ' H') (q : (∀ σ' H', M σ' H' → D.nx σ' H') → t D σ H) : t D σ H := q h

/-! ### all that is not owned stands still from now on -/
def rmO (O : Own) (H : Hp) : Hp := fun b => if b ∈ O.map (·.1) then none else H b
section
variable {F H : Hp} {O : Own}
theorem Has.re (h : Has F O H) : Has (rmO O H) O H := by
  refine ⟨fun b u e => ?_, fun p hp => ⟨if_pos (List.mem_map.mpr ⟨p, hp, rfl⟩), (h.own p hp).2⟩, h.nd⟩
  unfold rmO at e
  split at e
  · cases e
  · exact e
theorem Has.reF (h : Has F O H) : Same F (rmO O H) := fun b u e => by
  unfold rmO
  rw [if_neg]
  · exact h.same b u e
  · intro m
    obtain ⟨p, hp, rfl⟩ := List.mem_map.mp m
    rw [(h.own p hp).1] at e
    cases e
theorem Has.re_of (h : Has F O H) {b : Addr} {u : HO} (e : H b = some u) (ne : ∀ p ∈ O, p.2 ≠ u) : rmO O H b = some u := by
  unfold rmO
  rw [if_neg]
  · exact e
  · intro m
    obtain ⟨p, hp, rfl⟩ := List.mem_map.mp m
    rw [(h.own p hp).2] at e
    exact ne p hp (Option.some.inj e)
end

section
variable {K : PySem.W.Frag} {σ : L2.St} {F : Hp} {O O' : Own} {H : Hp} {Q : VK} {x y v : V} {ta te : TE}
theorem g_ixDI {a : Addr} {kvs : List (Key × V)} {i : Int} (h : H a = some (.dK kvs)) (hv : valV kvs (.inl i) = some v) (q : Q v H) : rIxA K (.ref a) (.int i) H Q := .inr ⟨a, v, rfl, hv ▸ DGet.k (k := .inl i) h, q⟩
theorem g_ixDS {a : Addr} {kvs : List (Key × V)} {i : Str} (h : H a = some (.dK kvs)) (hv : valV kvs (.inr i) = some v) (q : Q v H) : rIxA K (.ref a) (.str i) H Q := .inr ⟨a, v, rfl, hv ▸ DGet.k (k := .inr i) h, q⟩
/-! ### [*xs, y]; if xs:; dict(pairs) -/
def kStar (K : PySem.W.Frag) (t : TA) (σ : L2.St) (x : V) (H : Hp) (Q : List V → Hp → Prop) : Prop := ∃ p xs, x = V.ref p ∧ (SqT K H p xs ∨ SqL K H p xs) ∧ t σ H fun ys H2 => Q (xs ++ ys) H2
theorem g_star {t : TA} {QA : List V → Hp → Prop} (q : te σ H fun x H1 => kStar K t σ x H1 QA) : StX.tStar K te t σ H QA := q
theorem g_kstarL {t : TA} {QA : List V → Hp → Prop} {a : Addr} {xs : List V} (h : H a = some (.lst xs)) (q : t σ H fun ys H2 => QA (xs ++ ys) H2) : kStar K t σ (.ref a) H QA := ⟨a, xs, rfl, .inr (SqL.of h), q⟩
theorem g_kstarT {t : TA} {QA : List V → Hp → Prop} {a : Addr} {xs : List V} (h : H a = some (.tup xs)) (q : t σ H fun ys H2 => QA (xs ++ ys) H2) : kStar K t σ (.ref a) H QA := ⟨a, xs, rfl, .inl (SqT.of h), q⟩
theorem k_star {X : Cx} {es : List Expr} {t : TA} {ex : Expr} {p : Pos} (K : PySem.W.Frag) (h : PA X (.Starred ex p :: es) (StX.tStar X.K te t)) (e : X.K = K := by rfl) : PA X (.Starred ex p :: es) (StX.tStar K te t) := by subst e; exact h
def kTru (K : PySem.W.Frag) (x : V) (H : Hp) (R : Bool → Hp → Prop) : Prop := ∃ k, TruV K x H k ∧ R k H
def tTru (K : PySem.W.Frag) (te : TE) : TT := fun σ H R => te σ H fun x H1 => kTru K x H1 R
theorem pt_tru {X : Cx} {a : Expr} (K : PySem.W.Frag) (ha : PE X a ta) (he : ∀ whole, isTrue a X.env whole = (do let v ← whole; standAt a.pos; holding [v] (truthy v)) := by intro _; rfl) (e : X.K = K := by rfl) : PT X a (tTru K ta) := by subst e; exact pt_truth ha he
theorem g_tru {R : Bool → Hp → Prop} (q : te σ H fun x H1 => kTru K x H1 R) : tTru K te σ H R := q
theorem g_truL {R : Bool → Hp → Prop} {a : Addr} {xs : List V} (h : H a = some (.lst xs)) (q : R (!xs.isEmpty) H) : kTru K (.ref a) H R := ⟨_, .inl ⟨xs, SqL.of h, rfl⟩, q⟩
def rDictP (K : PySem.W.Frag) : List V → Hp → VK → Prop := fun xs H Q => ∃ (a : Addr) (ps : List Addr) (kvs : List (Key × V)), xs = [.ref a] ∧ SqL K H a (ps.map V.ref) ∧ Paired (fun p kv => SqT K H p [kV kv.1, kv.2]) ps kvs ∧ ∀ p, H p = none → Q (.ref p) (upd H p (.dK (mergeK [] kvs)))
theorem cr_dictP {X : Cx} (K : PySem.W.Frag) (hc : X.calm = true) (e : X.K = K := by rfl) : CallR X (.type "dict") (rDictP K) := by subst e; exact call_dictP hc
theorem g_dictP {a : Addr} {ps : List Addr} {kvs : List (Key × V)} (h : H a = some (.lst (ps.map V.ref))) (hp : Paired (fun p kv => SqT K H p [kV kv.1, kv.2]) ps kvs) (hH : Has F O H) (q : ∀ p H', H p = none → Has F ((p, .dK (mergeK [] kvs)) :: O) H' → Q (.ref p) H') : rDictP K [.ref a] H Q :=
  ⟨a, ps, kvs, rfl, SqL.of h, hp, fun p n => q p _ n (hH.new n)⟩
end
/-! ### data without lists; tuples of ints; pairs to a dict -/
mutual
def noL : PyData → Bool
  | .list _ => false
  | .dict _ => false
  | .tuple ds => noLs ds
  | _ => true
def noLs : List PyData → Bool
  | [] => true
  | d :: ds => noL d && noLs ds
end
theorem noLs_mem : ∀ {ds : List PyData}, (∀ d ∈ ds, noL d = true) → noLs ds = true
  | [], _ => by rw [noLs]
  | d :: ds, h => by
    rw [noLs, h d List.mem_cons_self, noLs_mem fun x hx => h x (List.mem_cons_of_mem _ hx)]
    rfl
mutual
theorem Dq.keep {H H' : Hp} (e : ∀ b xs, H b = some (.tup xs) → H' b = some (.tup xs)) : ∀ (d : PyData) (v : V), noL d = true → Dq H v d → Dq H' v d
  | _, _, _, .non => .non
  | _, _, _, .bl b => .bl b
  | _, _, _, .int i => .int i
  | _, _, _, .str x => .str x
  | .list ds, _, n, .lst s a => by rw [noL] at n; cases n
  | .tuple ds, _, n, .tup s a => .tup (e _ _ s) (DqAll.keep e ds _ (by rw [noL] at n; exact n) a)
theorem DqAll.keep {H H' : Hp} (e : ∀ b xs, H b = some (.tup xs) → H' b = some (.tup xs)) : ∀ (ds : List PyData) (vs : List V), noLs ds = true → DqAll H vs ds → DqAll H' vs ds
  | _, _, _, .nil => .nil
  | d :: ds, _, n, .cons h t => by
    rw [noLs, Bool.and_eq_true] at n
    exact .cons (Dq.keep e d _ n.1 h) (DqAll.keep e ds _ n.2 t)
end
theorem Has.keep {F H : Hp} {O : Own} (h : Has F O H) (ho : ∀ p ∈ O, ∀ xs, p.2 ≠ .tup xs) {ds : List PyData} {vs : List V} (n : ∀ d ∈ ds, noL d = true) (d : DqAll H vs ds) : DqAll (rmO O H) vs ds :=
  d.keep (fun _ _ e => h.re_of e fun p hp => ho p hp _) _ _ (noLs_mem n)
theorem eqv_tints (xs ys : List Int) : PyData.eqv (.tuple (xs.map PyData.int)) (.tuple (ys.map PyData.int)) = decide (xs = ys) := by
  rw [PyData.eqv, eqvAll_ints]
theorem eqv_tstrs (xs ys : List Str) : PyData.eqv (.tuple (xs.map PyData.str)) (.tuple (ys.map PyData.str)) = decide (xs = ys) := by
  rw [PyData.eqv, eqvAll_strs]
theorem ixN_last (n : Nat) : ixN (n + 1) (-1) = some n := by
  unfold ixN
  rw [if_neg (by decide), if_pos (by omega)]
  congr 1
  omega
theorem valV_merge (i : Key) : ∀ (kvs acc : List (Key × V)), valV (mergeK acc kvs) i = (valV kvs.reverse i).or (valV acc i)
  | [], acc => by simp [mergeK, valV]
  | p :: r, acc => by
    show valV (mergeK (putK acc p.1 p.2) r) i = _
    rw [valV_merge i r, valV_put, List.reverse_cons]
    unfold valV
    rw [List.find?_append]
    cases h : r.reverse.find? fun kv => decide (kv.1 = i) with
    | some x => simp
    | none =>
      by_cases e : p.1 = i
      · simp [List.find?_cons, e]
      · rw [if_neg (fun z => e z.symm)]; simp [List.find?_cons, e]
def kLcR2 (g : TG) (tt : TT) (te : TE) (ws : List Nat) (σ : L2.St) (vs : List V) (H : Hp) (Q : VK) : Prop := ∃ i j : Int, vs = [.int i, .int j] ∧ (-(2 ^ 62) ≤ i ∧ i < 2 ^ 62 ∧ -(2 ^ 62) ≤ j ∧ j < 2 ^ 62) ∧ kLc (Itr i (j - i).toNat) g tt te ws σ H Q
section
variable {K : PySem.W.Frag} {σ : L2.St} {F : Hp} {O O' : Own} {H : Hp} {Q : VK} {x y v : V} {ta te : TE} {g : TG}
theorem g_lcR2 {ta : TA} {tt : TT} {vs : List Nat} (q : ta σ H fun xs H1 => kLcR2 g tt te vs σ xs H1 Q) : tLc (iRng2 ta) g tt te vs σ H Q := q
theorem k_lcR2 {lo j : Int} {tt : TT} {vs : List Nat} (h0 : -(2 ^ 62) ≤ lo ∧ lo < 2 ^ 62 ∧ -(2 ^ 62) ≤ j ∧ j < 2 ^ 62) (hH : Has F O H) (S : Nat → List V → Hp → Own → Prop) (h0 : S 0 [] F O)
    (hs : ∀ i acc F O D H, i < (j - lo).toNat → S i acc F O → Has F ((D, .lst acc) :: O) H → g (.int (lo + (i : Nat))) (wipe σ vs) H fun σ2 H2 => wipe σ2 vs = wipe σ vs ∧ tt σ2 H2 fun b H3 => if b = true then te σ2 H3 fun y H4 => kTurn D (kNx S i D) y H4 else kNx S i D H3)
    (hd : ∀ acc F O D H, S (j - lo).toNat acc F O → Has F ((D, .lst acc) :: O) H → Q (.ref D) H) : kLcR2 g tt te vs σ [.int lo, .int j] H Q := by
  refine ⟨lo, j, rfl, by assumption, k_lc hH (j - lo).toNat S h0 (fun i acc F O D H hi s hh => hi) (fun acc F O D H s hh => Nat.le_refl _) (fun i x acc F O D H H' hi y s hh => ?_) hd⟩
  obtain ⟨e, y⟩ := y
  subst e y
  exact hs i acc F O D _ hi s hh
theorem g_truT {R : Bool → Hp → Prop} {a : Addr} {xs : List V} (h : H a = some (.tup xs)) (q : R (!xs.isEmpty) H) : kTru K (.ref a) H R := ⟨_, .inr (.inl ⟨xs, SqT.of h, rfl⟩), q⟩
end
/-! ### list.extend by a list, by a tuple -/
theorem ext_tup (l : Addr) (items : Array Value) (n : Nat) (b : Addr) (items2 : Array Value) (n2 : Nat) (d0 : Option Addr) (sl : Array (Option Value)) (hs0 : ¬(!items.isEmpty && Builtin.List.listTooLong (items.size + items2.size)) = true) (hs1 : items.size ≤ sizeLine) (hs2 : items.size + items2.size ≤ sizeLine + 1) :
    Meets (Builtin.«list.extend» ⟨[.ref l, .ref b], []⟩) (fun _ R s => s.heap.get? l = some { cls := .type "list", dict := none, data := .seq items n, slots := #[] } ∧ s.heap.get? b = some { cls := .type "tuple", dict := d0, data := .seq items2 n2, slots := sl } ∧ R (.ok (.ret Value.none)) { s with heap := s.heap.update l (Obj.mapSeq fun x => x ++ items2), toks := s.toks }) :=
  .of_wp fun prog w A R s h => by
    obtain ⟨hp, g, d, tk, os⟩ := s
    obtain ⟨hl, hb, h⟩ := h
    have f1 := PySem.AutoSeq1.sub_tuple_tuple
    have f2 := PySem.AutoSeq1.sub_list_list
    have f3 := PySem.AutoSeq1.sub_tuple_list
    have f4 := PySem.AutoSeq1.sub_list_tuple
    have hz' : (items ++ items2).size ≤ sizeLine + 1 := by rw [Array.size_append]; exact hs2
    wp_walk using (wpAny_updateSeq hl rfl (hz := hs1) (_hz' := hz')), PySem.AutoSeq1.wpAny_loadPart' hl, PySem.AutoSeq1.wpAny_loadPart' hb
    exact ⟨_, rfl, h⟩
section
variable {X : Cx}
def rExtendT (K : PySem.W.Frag) : V → List V → Hp → VK → Prop := fun x vs H Q => ∃ l b xs zs, x = .ref l ∧ vs = [.ref b] ∧ H l = some (.lst xs) ∧ SqT K H b zs ∧ xs.length + zs.length ≤ sizeLine ∧ Q .non (upd H l (.lst (xs ++ zs)))
theorem mt_extendT : MtM X "list.extend" (rExtendT X.K) := by
  intro pins s σ H x vs v us Q I rx rv h
  obtain ⟨l, b, xs, zs, rfl, rfl, hH, hB, hz, q⟩ := h
  cases rx
  obtain ⟨u, rfl, ru⟩ := rv.one
  cases ru
  obtain ⟨z, its, n, r, hl, e⟩ := I.lstM hH
  obtain ⟨its2, r2, ⟨⟨cl, dc, da, so⟩, e2, hc, n2, hd⟩, z2⟩ := I.tuple hB
  have hc : cl = .type "tuple" := hc
  have hd : da = .seq its2.toArray n2 := hd
  subst hc hd
  have hl2 := r2.length
  have hsz : its.toArray.size + its2.toArray.size ≤ sizeLine := by rw [List.size_toArray, List.size_toArray]; omega
  have hlong : ¬ (!its.toArray.isEmpty && Builtin.List.listTooLong (its.toArray.size + its2.toArray.size)) = true := by
    rw [notLongL hsz, Bool.and_false]
    exact Bool.false_ne_true
  refine call_meets F.slot_list_extend ⟨_, e, rfl⟩ F.entry_list_extend (F.args_list_extend_2 _ _) (ext_tup l its.toArray n b its2.toArray n2 dc so hlong (by rw [List.size_toArray]; omega) (by omega)) ⟨e, e2, ?_⟩
  refine ⟨.non, _, I.lset (its' := its ++ its2) hH e (by simp) (r.append r2) ?_, rfl, q⟩
  rw [List.length_append]
  omega
def rExtendA (K : PySem.W.Frag) : V → List V → Hp → VK → Prop := fun x vs H Q => rExtend x vs H Q ∨ rExtendT K x vs H Q
theorem mt_extendA (K : PySem.W.Frag) (e : X.K = K := by rfl) : MtR X "list.extend" (rExtendA K) := by
  subst e
  intro pins s σ H x vs v us Q I rx rv h
  rcases h with h | h
  · exact mt_extend pins s σ H x vs v us Q I rx rv h
  · exact mt_extendT pins s σ H x vs v us Q I rx rv h
end
section
variable {K : PySem.W.Frag} {F : Hp} {O O' : Own} {H : Hp} {Q : VK}
theorem g_extL {a b : Addr} {xs zs : List V} (hH : Has F O H) (hb : H b = some (.lst zs)) (c : Chg O a (.lst xs) (.lst (xs ++ zs)) O') (hl : xs.length + zs.length ≤ sizeLine) (q : ∀ H', Has F O' H' → Q .non H') : rExtendA K (.ref a) [.ref b] H Q :=
  .inl ⟨a, b, xs, zs, rfl, rfl, hH.get c.mem, hb, hl, q _ (hH.put c)⟩
theorem g_extT {a b : Addr} {xs zs : List V} (hH : Has F O H) (hb : H b = some (.tup zs)) (c : Chg O a (.lst xs) (.lst (xs ++ zs)) O') (hl : xs.length + zs.length ≤ sizeLine) (q : ∀ H', Has F O' H' → Q .non H') : rExtendA K (.ref a) [.ref b] H Q :=
  .inr ⟨a, b, xs, zs, rfl, rfl, hH.get c.mem, SqT.of hb, hl, q _ (hH.put c)⟩
end
theorem Has.made2 {F H H' : Hp} {O : Own} {p l : Addr} {o u : HO} (h : Has F O H) (np : H p = none) (nl : H l = none) (s : Same H H') (ep : H' p = some o) (el : H' l = some u) (ne : p ≠ l) : Has F ((p, o) :: (l, u) :: O) H' := by
  have h1 := h.made nl s el
  refine ⟨h1.same, fun q hq => ?_, ?_⟩
  · rcases List.mem_cons.mp hq with rfl | hq
    · exact ⟨h.same.free np, ep⟩
    · exact h1.own q hq
  · rw [List.map_cons]
    refine List.nodup_cons.mpr ⟨fun m => ?_, h1.nd⟩
    obtain ⟨q, hq, e⟩ := List.mem_map.mp m
    rcases List.mem_cons.mp hq with rfl | hq
    · exact ne e.symm
    · have := (h.own q hq).2
      rw [e, np] at this
      cases this
end Qk

namespace Qk
open PySem PySem.Spec PyProof.Rows L2

/-! ### defs that raise -/
section
variable {P : Program} {w : World} {K : PySem.W.Frag} {mg : Str → Option Value} {base : Heap}
theorem Fun.okN {x qual : Str} {st : Stmt} {f : Addr} {fd : FuncData} {N ps : List Str} {k : Nat} {sp : Sp} (F : Fun K x qual st f fd) (S : FnScope N ps (defScope st)) (len : ∀ vs H Q E, sp vs H Q E → vs.length = ps.length)
    (hbody : ∀ (cdv : Value) (A : Around) (outer : List Env) (s : Shared) (H : Hp) (vs : List V) (Q : VK) (E : XK), Room k (A.deeper (envOfC qual (defScope st) s.heap.objs.size f cdv)) → sp vs H Q E →
      ∃ t, PSs (cxOf (L2N.CX P w) P w K mg base N qual (defScope st) f cdv A outer s H E) (defBody st) t ∧ t { nx := fun _ H' => Q .non H', rt := Q } (start N vs) H) : FnOk P w K mg base (L2N.CX P w) (k + 1) f fd ps sp := by
  obtain ⟨oc, od, kV, doc, pm, an, cdv, ct, osl, rfl, lk, hcd⟩ := F.ex
  exact fn_of lk hcd S len fun A outer s H vs Q E hr hsp => hbody cdv A outer s H vs Q E hr hsp
/-- a def that is called in a suite -/
theorem Fun.okH {x qual : Str} {st : Stmt} {f : Addr} {fd : FuncData} {N ps : List Str} {k : Nat} {sp : Sp} (F : Fun K x qual st f fd) (S : FnScope N ps (defScope st)) (len : ∀ vs H Q E, sp vs H Q E → vs.length = ps.length)
    (hbody : ∀ (cdv : Value) (A : Around) (outer : List Env) (s : Shared) (H : Hp) (vs : List V) (Q : VK) (E : XK) (p : Addr × Obj), L2H.Hot1 A p → L2H.RoomH k (A.deeper (envOfC qual (defScope st) s.heap.objs.size f cdv)) → sp vs H Q E →
      ∃ t, PSs (L2H.cxH CX0 P w K mg base N qual (defScope st) f cdv A outer s H E p) (defBody st) t ∧ t { nx := fun _ H' => Q .non H', rt := Q } (start N vs) H) : L2H.FnH P w K mg base CX0 (k + 1) f fd ps sp := by
  obtain ⟨oc, od, kV, doc, pm, an, cdv, ct, osl, rfl, lk, hcd⟩ := F.ex
  exact L2H.fn_ofH lk hcd S len fun A outer s H vs Q E p hot hr hsp => hbody cdv A outer s H vs Q E p hot hr hsp
end
theorem passN {X : Cx} : Passes (L2N.CX X.prog X.w) X E0 := fun _ _ _ _ _ _ _ h => by
  obtain ⟨_, _, _, _, _, _, _, _, _, _, _, _, z⟩ := h
  exact z.elim
theorem takesN {X : Cx} : L2N.Takes X (fun _ _ _ _ => False) := fun _ _ x => by
  obtain ⟨_, _, _, _, _, _, _, _, _, _, _, _, _, _, _, _, z⟩ := x
  exact z.elim

theorem _root_.L2H.RoomH.units {k : Nat} {A : Around} (r : L2H.RoomH k A) : A.units + 64 < cLine := by
  have := r.un
  omega
theorem roomS {k j : Nat} {A : Around} {h : Option Value} (r : Room k A) (e : j ≤ k) : L2H.RoomH j (A.mark h) := by
  have h1 := r.dp
  have h2 := r.un
  exact ⟨by show A.depth + 3 * j + 5 < _; omega, by show A.units + 16 * j + 200 < _; omega⟩
theorem huH {k : Nat} {A : Around} (r : L2H.RoomH k A) : A.units + 1 < cLine := by
  have := r.un
  omega
theorem u65H {k : Nat} {A : Around} (r : L2H.RoomH k A) : A.units + 65 < cLine := by
  have := r.un
  omega
/-- ways that meet in one heap fact: refine' g_merge (F := F) (O := O) (R := _) ?a ?b -/
theorem g_merge {F : Hp} {O : Own} {G : Prop} {R : Hp → Prop} (h1 : (∀ H', Has F O H' → R H') → G) (h2 : ∀ H', Has F O H' → R H') : G := h1 h2
theorem g_merge2 {α : Type} {G : Prop} {R : α → Hp → Prop} (P : α → Hp → Prop) (h1 : (∀ x H', P x H' → R x H') → G) (h2 : ∀ x H', P x H' → R x H') : G := h1 h2
theorem g_mergeP {F : Hp} {O : Own} {P G : Prop} {R : Hp → Prop} (h1 : (∀ H', Has F O H' → P → R H') → G) (h2 : ∀ H', Has F O H' → P → R H') : G := h1 h2
/-- a constant of the program's text -/
theorem pe_gc {X : Cx} {x : Str} {pos : Pos} {v : V} (hg : Gl X x) (h : ∃ u, X.mg x = some u ∧ RelV v u) (hd : (x == ("__debug__" : Str)) = false := by decide) : PE X (.Name x pos) (tC v) := by
  obtain ⟨u, hm, r⟩ := h
  exact pe_glob hg hm r hd
/-! ### raise C(e, ..) -/
section
variable {X : Cx} {pins : List (Addr × Obj)} {σ : L2.St} {H : Hp} {hp : Heap} {g : Array GenState} {dr : Drawn} {tk : Nat} {os : OsState} {C : Addr}
/-- the tuple of the arguments and the bare exception laid behind the heap -/
abbrev barePut (hp : Heap) (C : Addr) (us : List Value) : Heap := (hp.push (PySem.W.kdv_tup us)).push (PySem.HandSPX.excO C hp.objs.size)
theorem barePut_keeps {us : List Value} (b : Addr) (o : Obj) (e : hp.get? b = some o) : (barePut hp C us).get? b = some o := Heap.get?_push_of_some _ (Heap.get?_push_of_some _ e)
theorem barePut_inv (I : Inv X pins σ H ⟨hp, g, dr, tk, os⟩) (us : List Value) : Inv X pins σ (upd H (hp.objs.size + 1) (exo (hp.objs.size + 1) C none)) ⟨barePut hp C us, g, dr, tk, os⟩ := by
  refine I.laid (t' := tk) barePut_keeps (Nat.le_succ _) (exo_ok (t1 := hp.objs.size) ?_)
  unfold barePut
  heap_get
/-- what an __init__ leaves, as an exception in hand -/
theorem in_hand {H2 : Hp} {Q : XK} {us : List Value} {s' : Shared} {d : Addr} {fs : List (Str × V)} (T : OexC X.K C) (I : Inv X pins σ H ⟨hp, g, dr, tk, os⟩) (un : Un (frs X.stack) [] (upd H (hp.objs.size + 1) (exo (hp.objs.size + 1) C none)) H2 (barePut hp C us) s'.heap)
    (ok : HOk X.prog X.w H2 s'.heap) (eo : s'.os = os) (bare : AllBare s'.gens) (ea : H2 (hp.objs.size + 1) = some (exo (hp.objs.size + 1) C (some d))) (ed : H2 d = some (exd d fs)) (nd : H d = none)
    (q : Q (.ref C) (some d) (upd (del H2 (hp.objs.size + 1)) d (.xd fs))) : L2N.MkP X pins σ Q (.ref (hp.objs.size + 1)) s' := by
  obtain ⟨h2, g2, d2, t2, o2⟩ := s'
  obtain ⟨tt, G, J, kG, gone, there, free⟩ := mk_end0 (t2 := t2) (d2 := d2) I (Nat.le_succ _) barePut_keeps un ok eo bare ea ed nd
  have zn : L2N.Zn (.ref C) (some d) ({ cls := .ref C, dict := some d, data := .fields #[.ref tt, .none, .none, .none, .bool false, .none] } : Obj) := ⟨rfl, rfl, fun vs hv => by cases hv; rfl⟩
  exact ⟨_, _, _, ⟨G, g2, d2, t2, o2⟩, _, _, some d, rfl, J, kG, gone, there, zn, rfl, rfl, free, rfl, bare, raises_own T.exC T.tyC, q⟩
end
theorem pmk_oexN {X : Cx} {e : Expr} {es : List Expr} {ta : TA} {p pos : Pos} {CX : CXT} {x : Str} {C fI : Addr} {k : Nat} {fd : FuncData} {ps : List Str} {sp : Sp} (T : OexC X.K C) (iC : PySem.W.findIn X.K (.ref C) "__init__" = some (some (.ref fI))) (tI : PySem.W.typeIn X.K (.ref fI) = some (.type "function"))
    (Fi : FnOk X.prog X.w X.K X.mg X.base CX k fI fd ps sp) (room : Room (k + 1) X.A) (binds : Binds X.K fd ps []) (pass : Passes CX X (fun _ _ _ => False)) (gl : Gl X x) (gm : X.mg x = some (.ref C)) (args : PA X (e :: es) ta)
    (dbg : (x == ("__debug__" : Str)) = false := by decide) (star : starEach (e :: es) X.env = (false, eval e X.env) :: starEach es X.env := by rfl) (plain : (backTo pos (starEach es X.env)).any (·.1) = false := by rfl) :
    L2N.PMk X (.Call (.Name x p) (e :: es) [] pos) (tMkO C sp [] ta) := fun pins s σ H Q I h => by
  obtain ⟨_, _, _, _, bm, _, _, _, _, _, _, _, _, _, _, cl, rf⟩ := T.cls
  refine wpAny_Call_Name_kw (ld_glob I gl gm (PySem.W.callWith_K (h₀ := X.base) I.ok.mod.kin T.kC (thn (args.run pos pins s σ H _ I h) fun us s1 hs => ?_) star plain) dbg)
  obtain ⟨vs, H1, J, rel, few, spq⟩ := hs
  refine ⟨J.kIn, ?_⟩
  obtain ⟨hp, g, dr, tk, os⟩ := s1
  have J2 := barePut_inv (C := C) J us
  have start := spq (hp.objs.size + 1) (J.hok.fresh (Nat.le_succ _))
  rw [List.append_nil] at start
  have vals : Vals (V.ref (hp.objs.size + 1) :: vs) (Value.ref (hp.objs.size + 1) :: us) := .cons rfl rel
  have many : (Value.ref (hp.objs.size + 1) :: us).length = ps.length := vals.length.symm.trans (Fi.len _ _ _ _ start)
  have bd := binds _ (Value.ref (hp.objs.size + 1) :: us) J2.kIn (by rw [List.append_nil]; exact many)
  rw [List.append_nil] at bd
  have room2 : us.length ≤ sizeLine := sz (by have := Paired.length rel; omega)
  have run := Fi.run _ X.stack _ _ ⟨Value.ref (hp.objs.size + 1) :: us, []⟩ (Value.ref (hp.objs.size + 1) :: us) _ _ (fun _ _ _ => False) (room.make C us []) (J2.env0.make C us []) bd vals start
  show wpAny (model X.prog X.w) X.A (call (.ref C) us) _ _ _
  refine wpAny_call (PySem.HandSPX.call_own F.excBase_ValueError (fun Y => PySem.HandSPX.refsVE_contains Y bm rf) (J.kIn _ _ cl) (PySem.W.looks_findIn J.kIn iC) (fun self => PySem.W.bind_fn J.kIn self tI) room2 (codeAny_mono run fun r s' end_ => ?_))
  match r, end_ with
  | .error er, end_ => exact pass pins σ _ _ er s' J2 end_
  | .ok (.ret u), ⟨v, H2, eo, bare, un, ok, ru, ev, d, fs, ea, ed, nd, q⟩ =>
    subst ev
    exact ⟨ru, in_hand T J un ok eo bare ea ed nd q⟩
  | .ok .next, end_ => exact end_.elim
  | .ok .brk, end_ => exact end_.elim
  | .ok .cont, end_ => exact end_.elim

/-! ### readings in order -/
/-- raise C(vs) -/
def kMk (C : Addr) (sp : Sp) (vs : List V) (H : Hp) (Q : XK) : Prop := vs.length ≤ 1000 ∧ ∀ a, H a = none → sp (.ref a :: (vs ++ [])) (upd H a (exo a C none))
  (fun v H2 => v = .non ∧ ∃ (d : Addr) (fs : List (Str × V)), H2 a = some (exo a C (some d)) ∧ H2 d = some (exd d fs) ∧ H d = none ∧ Q (.ref C) (some d) (upd (del H2 a) d (.xd fs))) (fun _ _ _ => False)
def tRaise (W : WX) (C : Addr) (sp : Sp) (ta : TA) : TS := fun _ σ H => tMkO C sp [] ta σ H fun cls d H' => W cls d σ H'
theorem k_raise {X : Cx} {W : WX} {e : Expr} {C : Addr} {sp : Sp} {ta : TA} {pos : Pos} (hc : X.calm = true) (tk : L2N.Takes X W) (he : L2N.PMk X e (tMkO C sp [] ta)) : PS X (.Raise (some e) none pos) (tRaise W C sp ta) := L2N.ps_raise hc tk he
theorem g_raise {W : WX} {C : Addr} {sp : Sp} {ta : TA} {D : Ends} {σ : L2.St} {H : Hp} (q : ta σ H fun vs H1 => kMk C sp vs H1 fun cls d H' => W cls d σ H') : tRaise W C sp ta D σ H := q
/-- try: body, except c as i: suite -/
def tTry (K : PySem.W.Frag) (c : Value) (i : Nat) (tb : WX → TS) (ts : Addr → Value → Option Addr → TS) (Wout : WX) : TS := fun D σ H => tb (wAs K c i ts Wout D) D σ H
theorem k_try {X : Cx} {x n : Str} {c : Value} {i : Nat} {body suite : List Stmt} {b₀ : Stmt} {np pos pos' : Pos} {tb : WX → TS} {ts : Addr → Value → Option Addr → TS} {Wout : WX} (K : PySem.W.Frag)
    (hs : X.stack = X.env :: X.outer) (hf : X.env.frame = some X.env.locals) (hN : X.N.Nodup) (hi : X.N[i]? = some n) (hln : X.env.kindOf n = some .local) (hc : Names X x c) (tk : L2N.Takes X Wout)
    (hb : ∀ (W : WX) (pn : List (Addr × Obj)) (xe : Value → Shared → Prop), L2N.Takes (X.tr pn xe) W → PassesOwn (model X.prog X.w) X.A X.env xe → PSs (X.tr pn xe) body (tb W))
    (hsu : ∀ (a : Addr) (oe : Obj) (cls : Value) (d : Option Addr) (pn : List (Addr × Obj)), L2N.Zn cls d oe → (∃ vs, oe.data = .fields vs) → PSs (X.suite a ((a, oe) :: pn)) (b₀ :: suite) (ts a cls d)) (e : X.K = K := by rfl) :
    PS X (.Try body [.ExceptHandler (some (.Name x np)) (some n) (b₀ :: suite) pos'] [] [] pos) (tTry K c i tb ts Wout) := by subst e; exact L2N.ps_try_as hs hf hN hi hln hc tk hb hsu
/-- the way into the suite -/
theorem g_caught {K : PySem.W.Frag} {c cls : Value} {i : Nat} {ts : Addr → Value → Option Addr → TS} {Wout : WX} {D : Ends} {d : Option Addr} {σ : L2.St} {H : Hp} (m : PySem.W.exmOne K cls c = some true)
    (q : ∀ a, H a = none → ts a cls d { nx := fun σ' H' => D.nx (σ'.set i none) H', rt := D.rt, bk := fun σ' H' => D.bk (σ'.set i none) H', ct := fun σ' H' => D.ct (σ'.set i none) H' } (σ.set i (some (.ref a))) H) : wAs K c i ts Wout D cls d σ H :=
  ⟨true, m, fun _ => q, fun z => by cases z⟩
theorem g_try {K : PySem.W.Frag} {c : Value} {i : Nat} {tb : WX → TS} {ts : Addr → Value → Option Addr → TS} {Wout : WX} {D : Ends} {σ : L2.St} {H : Hp} (q : tb (wAs K c i ts Wout D) D σ H) : tTry K c i tb ts Wout D σ H := q
theorem g_callS {sp : Sp} {E : L2.St → XK} {t : TA} {σ : L2.St} {H : Hp} {Q : VK} (q : t σ H fun vs H1 => sp vs H1 Q (E σ)) : tCallS sp E t σ H Q := q

theorem g_ost {K : PySem.W.Frag} {f : Str} {to te : TE} {D : Ends} {σ : L2.St} {H : Hp} (q : tOst K f to te D σ H) : tOst K f to te D σ H := q
theorem upd_over {H : Hp} {dx a : Addr} {e1 e2 x : HO} (ne : dx ≠ a) : upd (upd (upd H dx e1) a x) dx e2 = upd (upd H dx e2) a x := by
  funext b
  by_cases h1 : b = dx
  · subst h1
    rw [upd_same, upd_ne ne, upd_same]
  · rw [upd_ne h1]
    by_cases h2 : b = a
    · subst h2
      rw [upd_same, upd_same]
    · rw [upd_ne h2, upd_ne h2, upd_ne h1, upd_ne h1]
/-- __init__ that keeps each argument in a field of its name -/
def sp_oinit (C : Addr) (names : List Str) : Sp := fun vs H Q _ => ∃ (a : Addr) (ws : List V), vs = .ref a :: ws ∧ ws.length = names.length ∧ H a = some (exo a C none) ∧
  ∀ dx, H dx = none → dx ≠ a → Q .non (upd (upd H dx (exd dx (names.zip ws).reverse)) a (exo a C (some dx)))
theorem sp_oinit_len {C : Addr} {names : List Str} {vs H Q E} (h : sp_oinit C names vs H Q E) : vs.length = names.length + 1 := by
  obtain ⟨a, ws, rfl, hl, _⟩ := h
  rw [List.length_cons, hl]
theorem g_mk {C : Addr} {names : List Str} {vs : List V} {F H : Hp} {O : Own} {Q : XK} (hl : vs.length = names.length) (hs : names.length ≤ 1000) (hH : Has F O H) (q : ∀ d H', H d = none → Has F ((d, .xd (names.zip vs).reverse) :: O) H' → Q (.ref C) (some d) H') : kMk C (sp_oinit C names) vs H Q := by
  refine ⟨by omega, fun a n => ⟨a, vs ++ [], rfl, by rw [List.append_nil]; exact hl, upd_same, fun dx n1 ne => ⟨rfl, dx, (names.zip vs).reverse, upd_same, ?_, ?_, ?_⟩⟩⟩
  · rw [upd_ne ne, upd_same, List.append_nil]
  · rw [upd_ne ne] at n1
    exact n1
  · rw [upd_ne ne] at n1
    have e : upd (del (upd (upd (upd H a (exo a C none)) dx (exd dx (names.zip (vs ++ [])).reverse)) a (exo a C (some dx))) a) dx (.xd (names.zip vs).reverse) = upd H dx (.xd (names.zip vs).reverse) := by
      funext b
      by_cases h1 : b = dx
      · subst h1
        rw [upd_same, upd_same]
      · rw [upd_ne h1, upd_ne h1]
        by_cases h2 : b = a
        · subst h2
          rw [del_same, n]
        · rw [del_ne h2, upd_ne h2, upd_ne h1, upd_ne h2]
    rw [e]
    exact q dx _ n1 (hH.new n1)
/-! ### in a suite: isinstance, a field, a call -/
structure IsC (K : PySem.W.Frag) (D : Addr) : Prop where
  cl : (PySem.W.clsIn K D).isSome = true
  hg : PySem.W.findIn K (.ref D) "__getattribute__" = some (some (.builtin "BaseException.__getattribute__"))
  hk : PySem.W.findIn K (.ref D) "__getattr__" = some none
  hs : PySem.W.subIn K (.ref D) (.type "BaseException") = some true
  hd : PySem.W.hasDictIn K D = true
  ha : PySem.W.findIn K (.ref D) "__class__" = some (some (.builtin "object.__class__"))
  hn : PySem.W.specialIn K (.builtin "object.__class__") "__get__" = some (some (.builtin "getset_descriptor.__get__"))
  ht : PySem.W.takesIn K (.builtin "object.__class__") = some true
  hm : PySem.W.mroIn K D (.type "object") = some true
/-- isinstance(e, c) for the caught e: a is where it stands -/
def rIsX (K : PySem.W.Frag) (a : Addr) (cls : Value) (d : Option Addr) : List V → Hp → VK → Prop := fun xs H Q => ∃ (D : Addr) (c : V) (cv : Value) (b : Bool), cls = .ref D ∧ IsC K D ∧ (d = none ∨ ∃ dd fs, d = some dd ∧ H dd = some (.xd fs)) ∧ xs = [.ref a, c] ∧ (∀ u, RelV c u → u = cv) ∧ PySem.W.kitOne K (.ref D) cv = some b ∧ Q (.bl b) H
def rIsY (K : PySem.W.Frag) (a : Addr) (cls : Value) (d : Option Addr) : List V → Hp → VK → Prop := fun xs H Q => rIsX K a cls d xs H Q ∨ rIsA K xs H Q
theorem cr_isX {X : Cx} {a : Addr} {oe : Obj} {cls : Value} {d : Option Addr} {pn : List (Addr × Obj)} (K : PySem.W.Frag) (hz : L2.Zc cls d oe) (hf : ∃ vs, oe.data = .fields vs) (e : X.K = K := by rfl) : CallR (X.suite a ((a, oe) :: pn)) (.builtin "isinstance") (rIsY K a cls d) := by
  subst e
  intro pins s σ H xs us Q I r h
  rcases h with h | h
  · obtain ⟨D, c, cv, b, ecl, C, hd, rfl, hcv, e, q⟩ := h
    cases r with
    | cons rx rr =>
      cases rr with
      | cons rt rr =>
        cases rr
        cases rx
        have ec := hcv _ rt
        subst ec
        obtain ⟨hget, _⟩ := I.pin (a, oe) (List.mem_append.mpr (.inl List.mem_cons_self))
        obtain ⟨vs, hv⟩ := hf
        have hcl : oe.cls = .ref D := hz.1.trans ecl
        have hdx := hz.2
        have key : ∀ od, PySem.W.InstAt s.heap a oe D od → wpAny (model X.prog X.w) (X.suite a ((a, oe) :: pn)).A (call (.builtin "isinstance") [.ref a, _]) (EP (X.suite a ((a, oe) :: pn)) pins σ Q) (X.suite a ((a, oe) :: pn)).xe s := fun od J =>
          PySem.W.kia_one (PySem.W.kitx_exc C.cl C.hg C.hk C.hs C.ha C.hn C.ht C.hm) I.kIn J e (fun z => nomatch z) fun tk => ⟨.bl b, H, I.kept (t' := tk) fun _ _ z => z, rfl, q⟩
        rcases hd with hd | ⟨dd, fs, hd, ea⟩
        · refine key none ?_
          rw [hd] at hdx
          exact ⟨hget, hcl, by unfold PySem.W.notCls; rw [hv] <;> rfl, by rw [hdx]; trivial⟩
        · have hx : ObjOk X.prog X.w H s.heap dd (.xd fs) := I.hok dd _ ea
          obtain ⟨mA, hns, hr⟩ := hx
          obtain ⟨od, ho, hl⟩ := lookIn_ns hns
          refine key (some od) ?_
          rw [hd] at hdx
          exact ⟨hget, hcl, by unfold PySem.W.notCls; rw [hv] <;> rfl, by rw [hdx]; exact ho⟩
  · exact cr_isK X.K (X := X.suite a ((a, oe) :: pn)) rfl pins s σ H xs us Q I r h
/-- e.f for the caught e -/
def tXfA (K : PySem.W.Frag) (a : Addr) (cls : Value) (d : Option Addr) (f : Str) (te : TE) : TE := fun σ H Q => te σ H fun x H1 => x = .ref a ∧ ∃ (C dd : Addr) (fs : List (Str × V)) (v : V), cls = .ref C ∧ XfC K C ∧ PySem.W.findIn K (.ref C) f = some none ∧ d = some dd ∧ H1 dd = some (.xd fs) ∧ fs.lookup f = some v ∧ Q v H1
theorem pe_xfA {X : Cx} {a : Addr} {oe : Obj} {cls : Value} {d : Option Addr} {pn : List (Addr × Obj)} {e : Expr} {te : TE} {pos : Pos} {n : Str} (K : PySem.W.Frag) (hz : L2.Zc cls d oe) (hf : ∃ vs, oe.data = .fields vs) (he : PE (X.suite a ((a, oe) :: pn)) e te) (ek : X.K = K := by rfl) (hb : attributeBase e n X.env (eval e X.env) = eval e X.env := by rfl) :
    PE (X.suite a ((a, oe) :: pn)) (.Attribute e n pos) (tXfA K a cls d n te) := by
  subst ek
  refine ⟨fun pins s σ H Q I h => ?_⟩
  refine attr_of hb (thn (he.run pins s σ H _ I h) fun u s1 hh => ?_)
  obtain ⟨x, H1, I1, rx, ex, C, dd, fs, v, ec, T, hno, ed, ea, l, q⟩ := hh
  subst ex
  obtain rfl : u = Value.ref a := rx
  subst ec
  subst ed
  obtain ⟨ha, _⟩ := I1.pin (a, oe) (List.mem_append_left _ List.mem_cons_self)
  obtain ⟨vs, hd⟩ := hf
  have hx : ObjOk X.prog X.w H1 s1.heap dd (.xd fs) := I1.hok dd _ ea
  obtain ⟨mA, hns, hr⟩ := hx
  obtain ⟨od, ho, hl⟩ := lookIn_ns hns
  obtain ⟨u, hu, ru⟩ := RelO.some_of (v := v) (o := mA n) (by rw [← l]; exact hr n)
  have J : PySem.W.InstAt s1.heap a oe C (some od) := ⟨ha, hz.1, by unfold PySem.W.notCls; rw [hd] <;> rfl, by rw [hz.2]; exact ho⟩
  exact HandSPX.exc_get I1.kIn J T.ga T.gg T.exC (PySem.W.findObj_own T.hdC hno rfl (by rw [hl, hu])) (handed_of ru) ⟨v, H1, I1.tok _, ru, q⟩
def kXf (K : PySem.W.Frag) (a : Addr) (cls : Value) (d : Option Addr) (f : Str) (x : V) (H1 : Hp) (Q : VK) : Prop := x = .ref a ∧ ∃ (C dd : Addr) (fs : List (Str × V)) (v : V), cls = .ref C ∧ XfC K C ∧ PySem.W.findIn K (.ref C) f = some none ∧ d = some dd ∧ H1 dd = some (.xd fs) ∧ fs.lookup f = some v ∧ Q v H1
theorem g_xf {K : PySem.W.Frag} {a : Addr} {cls : Value} {d : Option Addr} {f : Str} {te : TE} {σ : L2.St} {H : Hp} {Q : VK} (q : te σ H fun x H1 => kXf K a cls d f x H1 Q) : tXfA K a cls d f te σ H Q := q
theorem g_kxf {K : PySem.W.Frag} {a C dd : Addr} {f : Str} {fs : List (Str × V)} {v : V} {H : Hp} {Q : VK} (X : XfC K C) (n : PySem.W.findIn K (.ref C) f = some none) (hd : H dd = some (.xd fs)) (l : fs.lookup f = some v) (q : Q v H) : kXf K a (.ref C) (some dd) f (.ref a) H Q :=
  ⟨rfl, C, dd, fs, v, rfl, X, n, rfl, hd, l, q⟩
theorem g_isX {K : PySem.W.Frag} {a D C dd : Addr} {fs : List (Str × V)} {b : Bool} {H : Hp} {Q : VK} (I : IsC K D) (hd : H dd = some (.xd fs)) (k : PySem.W.kitOne K (.ref D) (.ref C) = some b) (q : Q (.bl b) H) : rIsY K a (.ref D) (some dd) [.ref a, .ref C] H Q :=
  .inl ⟨D, .ref C, .ref C, b, rfl, I, .inr ⟨dd, fs, rfl, hd⟩, rfl, fun u r => r, k, q⟩
theorem g_isXT {K : PySem.W.Frag} {a D dd : Addr} {n : String} {fs : List (Str × V)} {b : Bool} {H : Hp} {Q : VK} (I : IsC K D) (hd : H dd = some (.xd fs)) (k : PySem.W.kitOne K (.ref D) (.type n) = some b) (q : Q (.bl b) H) : rIsY K a (.ref D) (some dd) [.ref a, .ty n] H Q :=
  .inl ⟨D, .ty n, .type n, b, rfl, I, .inr ⟨dd, fs, rfl, hd⟩, rfl, fun u r => r, k, q⟩
theorem exm_own {K : PySem.W.Frag} {C : Addr} {cls : Value} {b : Bool} (h1 : PySem.W.subIn K (.ref C) (.type "BaseException") = some true) (hc : PySem.W.isClsIn K C = true) (ht : PySem.W.typeIn K (.ref C) = some (.type "type")) (h4 : PySem.W.subIn K cls (.ref C) = some b) : PySem.W.exmOne K cls (.ref C) = some b := by
  have hc' : (PySem.W.clsIn K C).isSome = true := hc
  have e1 : (PySem.W.subIn K (.ref C) (.type "BaseException") == some true) = true := by rw [h1] <;> rfl
  have e2 : ((PySem.W.clsIn K C).isSome && PySem.W.typeIn K (.ref C) == some (.type "type")) = true := by rw [hc', ht] <;> rfl
  show (if (PySem.W.subIn K (.ref C) (.type "BaseException") == some true) = true then (if ((PySem.W.clsIn K C).isSome && PySem.W.typeIn K (.ref C) == some (.type "type")) = true then PySem.W.subIn K cls (.ref C) else none) else none) = some b
  rw [if_pos e1, if_pos e2]
  exact h4
theorem kit_own {K : PySem.W.Frag} {D C : Addr} {b : Bool} (hs : PySem.W.subIn K (.ref D) (.ref D) = some true) (h4 : PySem.W.subIn K (.ref D) (.ref C) = some b) (hc : PySem.W.isClsIn K C = true) (ht : PySem.W.typeIn K (.ref C) = some (.type "type")) : PySem.W.kitOne K (.ref D) (.ref C) = some b := by
  have hc' : (PySem.W.clsIn K C).isSome = true := hc
  unfold PySem.W.kitOne
  by_cases e : (Value.ref D == Value.ref C) = true
  · rw [if_pos e]
    have e2 : D = C := Value.ref.inj (beq_iff_eq.mp e)
    subst e2
    rw [hs] at h4
    exact h4
  · rw [if_neg e]
    have e2 : ((PySem.W.clsIn K C).isSome && PySem.W.typeIn K (.ref C) == some (.type "type")) = true := by rw [hc', ht] <;> rfl
    show (if ((PySem.W.clsIn K C).isSome && PySem.W.typeIn K (.ref C) == some (.type "type")) = true then PySem.W.subIn K (.ref D) (.ref C) else none) = some b
    rw [if_pos e2]
    exact h4
theorem kit_ve {K : PySem.W.Frag} {D : Addr} (h : PySem.W.subIn K (.ref D) (.type "ValueError") = some true) : PySem.W.kitOne K (.ref D) (.type "ValueError") = some true := by
  have e : ¬ (Value.ref D == Value.type "ValueError") = true := by
    intro z
    cases (beq_iff_eq.mp z)
  unfold PySem.W.kitOne
  rw [if_neg e]
  show (if PySem.W.kitMeta "ValueError" = true then PySem.W.subIn K (.ref D) (.type "ValueError") else none) = some true
  rw [if_pos (by decide +kernel)]
  exact h
theorem hot_suite {X : Cx} {a : Addr} {oe : Obj} {cls : Value} {d : Option Addr} {pn : List (Addr × Obj)} (hz : L2N.Zn cls d oe) (hf : ∃ vs, oe.data = .fields vs) : L2H.HotC (X.suite a ((a, oe) :: pn)) := by
  obtain ⟨vs, hv⟩ := hf
  exact ⟨(a, oe), ⟨rfl, vs, hv, hz.2.2 vs hv⟩, List.mem_cons_self⟩

/-! ### objects -/
section
variable {X : Cx} {K : PySem.W.Frag} {σ : L2.St} {F : Hp} {O O' : Own} {H : Hp} {Q : VK} {ta te tv : TE} {x y v : V} {D : Ends}
theorem k_fld {ex : Expr} {f : Str} (K : PySem.W.Frag) (h : PE X ex (tFld X.K te f)) (e : X.K = K := by rfl) : PE X ex (tFld K te f) := by subst e; exact h
def kFld (K : PySem.W.Frag) (f : Str) (x : V) (H1 : Hp) (Q : VK) : Prop := ∃ a C dx fs v, x = .ref a ∧ H1 a = some (.ins C dx fs) ∧ Cls K C ∧ NoAttr K C f ∧ fs.lookup f = some v ∧ Q v H1
theorem g_fld {f : Str} (q : te σ H fun x H1 => kFld K f x H1 Q) : tFld K te f σ H Q := q
theorem g_kfld {a C dx : Addr} {fs : List (Str × V)} {f : Str} (h : H a = some (.ins C dx fs)) (c : Cls K C) (n : NoAttr K C f) (l : fs.lookup f = some v) (q : Q v H) : kFld K f (.ref a) H Q := ⟨a, C, dx, fs, v, rfl, h, c, n, l, q⟩
theorem k_sfld {st : Stmt} {f : Str} (K : PySem.W.Frag) (h : PS X st (sFld X.K ta tv f)) (e : X.K = K := by rfl) : PS X st (sFld K ta tv f) := by subst e; exact h
def kSFld (K : PySem.W.Frag) (f : Str) (x y : V) (D : Ends) (σ : L2.St) (H2 : Hp) : Prop := ∃ a C dx fs, x = .ref a ∧ H2 a = some (.ins C dx fs) ∧ Cls K C ∧ NoAttr K C f ∧ fs.length < 1000 ∧ D.nx σ (upd H2 a (.ins C dx (putF f y fs)))
theorem g_sfld {f : Str} (q : tv σ H fun y H1 => ta σ H1 fun x H2 => kSFld K f x y D σ H2) : sFld K ta tv f D σ H := q
theorem g_ksfld {a C dx : Addr} {fs fs' : List (Str × V)} {f : Str} (hH : Has F O H) (c : Chg O a (.ins C dx fs) (.ins C dx fs') O') (e : putF f y fs = fs') (cl : Cls K C) (n : NoAttr K C f) (hl : fs.length < 1000) (q : ∀ H', Has F O' H' → D.nx σ H') : kSFld K f (.ref a) y D σ H := by
  subst e
  exact ⟨a, C, dx, fs, rfl, hH.get c.mem, cl, n, hl, q _ (hH.put c)⟩
/-- o.m(..), what is let out told at the slots -/
def tMethS (C : Addr) (m : Str) (sp : Sp) (E : L2.St → XK) (ta : TE) (t : TA) : TE := fun σ H Q => ta σ H fun x H1 => ∃ a dx fs, x = .ref a ∧ H1 a = some (.ins C dx fs) ∧ fs.lookup m = none ∧ t σ H1 fun vs H2 => sp (x :: vs) H2 Q (E σ)
def kMeth (C : Addr) (m : Str) (sp : Sp) (E : L2.St → XK) (t : TA) (σ : L2.St) (x : V) (H1 : Hp) (Q : VK) : Prop := ∃ a dx fs, x = .ref a ∧ H1 a = some (.ins C dx fs) ∧ fs.lookup m = none ∧ t σ H1 fun vs H2 => sp (x :: vs) H2 Q (E σ)
theorem g_meth {C : Addr} {m : Str} {sp : Sp} {E : L2.St → XK} {t : TA} (q : ta σ H fun x H1 => kMeth C m sp E t σ x H1 Q) : tMethS C m sp E ta t σ H Q := q
theorem g_kmeth {C : Addr} {m : Str} {sp : Sp} {E : L2.St → XK} {t : TA} {a dx : Addr} {fs : List (Str × V)} (h : H a = some (.ins C dx fs)) (l : fs.lookup m = none) (q : t σ H fun vs H2 => sp (.ref a :: vs) H2 Q (E σ)) : kMeth C m sp E t σ (.ref a) H Q := ⟨a, dx, fs, rfl, h, l, q⟩
variable {CX : CXT} {k : Nat} {f C : Addr} {fd : FuncData} {ps : List Str} {sp : Sp} {E : L2.St → XK} {m : Str} {pos apos : Pos} {e o : Expr} {es : List Expr} {t : TA}
theorem pe_methW {pl : Sem Bool} (ho : PE X o ta) (cl : Cls X.K C) (me : Meth X.K C m f) (G : FnOk X.prog X.w X.K X.mg X.base CX k f fd ps sp) (room : Room k X.A) (bd : Binds X.K fd ps []) (pass : ∀ σ, PassesAt CX X σ (E σ)) (args : PA X (e :: es) t)
    (star : starEach (e :: es) X.env = (false, eval e X.env) :: starEach es X.env := by rfl) (plain : (backTo pos (starEach es X.env)).any (·.1) = false := by rfl)
    (tree : eval (.Call (.Attribute o m apos) (e :: es) [] pos) X.env = (do
      let ov ← eval o X.env
      standAt apos.atName
      let (f, first) ← holding [ov] (getMethod ov m pl)
      callWith pos f first (backTo pos (starEach (e :: es) X.env)) (backToKw pos (keywordEach [] X.env))) := by rfl) :
    PE X (.Call (.Attribute o m apos) (e :: es) [] pos) (tMethS C m sp E ta t) := ⟨fun pins s σ H Q I h => by
  refine PySem.W.methodCall_KW (pl := pl) (thn (ho.run pins s σ H _ I h) fun u s1 hu => ?_) tree
  obtain ⟨x, H1, J, rx, a, dx, fs, rfl, there, none_, go⟩ := hu
  cases (show u = Value.ref a from rx)
  refine getmeth_ok J there cl me none_ (PySem.W.callWith_K (first := [.ref a]) (h₀ := X.base) I.ok.mod.kin me.kp (thn (args.run pos pins s1 σ H1 _ J go) fun us s2 hs => ?_) star plain)
  obtain ⟨vs, H2, J2, rel, pr⟩ := hs
  exact ⟨J2.kIn, run_fnS (us := .ref a :: us) (vs := .ref a :: vs) G room bd (pass σ) J2 (.cons rfl rel) pr⟩⟩
theorem pe_methW0 {pl : Sem Bool} (ho : PE X o ta) (cl : Cls X.K C) (me : Meth X.K C m f) (G : FnOk X.prog X.w X.K X.mg X.base CX k f fd ps sp) (room : Room k X.A) (bd : Binds X.K fd ps []) (pass : ∀ σ, PassesAt CX X σ (E σ))
    (tree : eval (.Call (.Attribute o m apos) [] [] pos) X.env = (do
      let ov ← eval o X.env
      standAt apos.atName
      let (f, first) ← holding [ov] (getMethod ov m pl)
      callWith pos f first (backTo pos (starEach [] X.env)) (backToKw pos (keywordEach [] X.env))) := by rfl) :
    PE X (.Call (.Attribute o m apos) [] [] pos) (tMethS C m sp E ta tNil) := ⟨fun pins s σ H Q I h => by
  refine PySem.W.methodCall_KW (pl := pl) (thn (ho.run pins s σ H _ I h) fun u s1 hu => ?_) tree
  obtain ⟨x, H1, J, rx, a, dx, fs, rfl, there, none_, go⟩ := hu
  cases (show u = Value.ref a from rx)
  exact getmeth_ok J there cl me none_ (PySem.W.callWith_K0 (first := [.ref a]) J.kIn me.kp (run_fnS (us := [.ref a]) (vs := [.ref a]) G room bd (pass σ) J (.cons rfl .nil) go))⟩
theorem pass0S {X : Cx} {E : L2.St → XK} : ∀ σ, PassesAt CX0 X σ (E σ) := fun _ _ _ _ _ _ _ h => h.elim
theorem passNS {X : Cx} : ∀ σ, PassesAt (L2N.CX X.prog X.w) X σ ((fun _ => E0) σ) := fun _ _ _ _ _ _ _ h => by
  obtain ⟨_, _, _, _, _, _, _, _, _, _, _, _, z⟩ := h
  exact z.elim
/-- C(..) -/
def kMake (C : Addr) (sp : Sp) (E : XK) (vs : List V) (H1 : Hp) (Q : VK) : Prop := ∀ x dx, H1 x = none → H1 dx = none → dx ≠ x → sp (.ref x :: (vs ++ [])) (upd (upd H1 dx (.own x)) x (.ins C dx [])) (fun v H2 => v = .non ∧ Q (.ref x) H2) E
theorem g_make {E : XK} (q : t σ H fun vs H1 => kMake C sp E vs H1 Q) : tMake C sp [] E t σ H Q := q
theorem g_kmake {E : XK} {vs : List V} (hH : Has F O H) (q : ∀ x dx H', H x = none → Has F ((x, .ins C dx []) :: (dx, .own x) :: O) H' → sp (.ref x :: vs) H' (fun v H2 => v = .non ∧ Q (.ref x) H2) E) : kMake C sp E vs H Q := by
  intro x dx nx nd ne
  rw [List.append_nil]
  refine q x dx _ nx ((hH.new nd).new (by rw [upd_ne (Ne.symm ne)]; exact nx))
/-- del d[k] -/
def kDel (x y : V) (D : Ends) (σ : L2.St) (H2 : Hp) : Prop := ∃ a kvs k, x = .ref a ∧ H2 a = some (.dK kvs) ∧ y = kV k ∧ (valV kvs k).isSome = true ∧ D.nx σ (upd H2 a (.dK (dropK kvs k)))
end
section
variable {X : Cx} {K : PySem.W.Frag} {σ : L2.St} {F : Hp} {O O' : Own} {H : Hp} {Q : VK} {td ty : TE} {D : Ends}
theorem g_del (q : td σ H fun x H1 => ty σ H1 fun y H2 => kDel x y D σ H2) : sDDel td ty D σ H := q
theorem g_kdel {a : Addr} {kvs : List (Key × V)} {z : V} {k : Key} (ez : z = kV k) (hH : Has F O H) (c : Chg O a (.dK kvs) (.dK (dropK kvs k)) O') (i : (valV kvs k).isSome = true) (q : ∀ H', Has F O' H' → D.nx σ H') : kDel (.ref a) z D σ H :=
  ⟨a, kvs, k, rfl, hH.get c.mem, ez, i, q _ (hH.put c)⟩
theorem g_dnewK (hH : Has F O H) (q : ∀ p H', H p = none → Has F ((p, .dK []) :: O) H' → Q (.ref p) H') : tDNewK σ H Q := fun p n => q p _ n (hH.new n)
/-! ### sorted -/
def rSortA (K : PySem.W.Frag) : List V → Hp → VK → Prop := fun vs H Q => (rSorted K vs H Q ∨ rSortedS K vs H Q) ∨
  (∃ (a : Addr) (kvs : List (Key × V)) (ks : List Str), vs = [.ref a] ∧ Rd H a (.dK kvs) ∧ kvs.map (·.1) = ks.map Sum.inr ∧ ks.length < 64 ∧ ∀ ys p, ys.Perm ks → sortedS ys = true → H p = none → Q (.ref p) (upd H p (.lst (ys.map V.str)))) ∨
  (∃ (a : Addr) (kvs : List (Key × V)) (ks : List Int), vs = [.ref a] ∧ Rd H a (.dK kvs) ∧ kvs.map (·.1) = ks.map Sum.inl ∧ ks.length < 64 ∧ ∀ (ys : List Int) (p : Addr), ys.Perm ks → ys.Pairwise (· ≤ ·) → H p = none → Q (.ref p) (upd H p (.lst (ys.map V.int))))
theorem cr_sortA (K : PySem.W.Frag) (hc : X.calm = true) (e : X.K = K := by rfl) : CallR X (.builtin "sorted") (rSortA K) := by
  subst e
  intro pins s σ H xs us Q I r h
  rcases h with (h | h) | h | h
  · exact cr_sorted pins s σ H xs us Q I r h
  · exact cr_sortedS pins s σ H xs us Q I r h
  · exact call_sortedD hc pins s σ H xs us Q I r h
  · exact call_sortedDI hc pins s σ H xs us Q I r h
theorem g_sortI {a : Addr} {ns : List Int} (h : H a = some (.lst (ns.map V.int))) (l : ns.length < 64) (hH : Has F O H) (q : ∀ (ys : List Int) p H', ys.Perm ns → ys.Pairwise (· ≤ ·) → H p = none → Has F ((p, .lst (ys.map V.int)) :: O) H' → Q (.ref p) H') : rSortA K [.ref a] H Q :=
  .inl (.inl ⟨a, ns, rfl, SqL.of h, l, fun ys p e s n => q ys p _ e s n (hH.new n)⟩)
theorem g_sortS {a : Addr} {ns : List Str} (h : H a = some (.lst (ns.map V.str))) (l : ns.length < 64) (hH : Has F O H) (q : ∀ (ys : List Str) p H', ys.Perm ns → sortedS ys = true → H p = none → Has F ((p, .lst (ys.map V.str)) :: O) H' → Q (.ref p) H') : rSortA K [.ref a] H Q :=
  .inl (.inr ⟨a, ns, rfl, SqL.of h, l, fun ys p e s n => q ys p _ e s n (hH.new n)⟩)
theorem g_sortDS {a : Addr} {kvs : List (Key × V)} {ks : List Str} (h : H a = some (.dK kvs)) (e : kvs.map (·.1) = ks.map Sum.inr) (l : ks.length < 64) (hH : Has F O H) (q : ∀ (ys : List Str) p H', ys.Perm ks → sortedS ys = true → H p = none → Has F ((p, .lst (ys.map V.str)) :: O) H' → Q (.ref p) H') : rSortA K [.ref a] H Q :=
  .inr (.inl ⟨a, kvs, ks, rfl, .inl h, e, l, fun ys p e s n => q ys p _ e s n (hH.new n)⟩)
theorem g_sortDI {a : Addr} {kvs : List (Key × V)} {ks : List Int} (h : H a = some (.dK kvs)) (e : kvs.map (·.1) = ks.map Sum.inl) (l : ks.length < 64) (hH : Has F O H) (q : ∀ (ys : List Int) p H', ys.Perm ks → ys.Pairwise (· ≤ ·) → H p = none → Has F ((p, .lst (ys.map V.int)) :: O) H' → Q (.ref p) H') : rSortA K [.ref a] H Q :=
  .inr (.inr ⟨a, kvs, ks, rfl, .inl h, e, l, fun ys p e s n => q ys p _ e s n (hH.new n)⟩)
end
/-! ### what a method changes -/
section
variable {F F1 F' H H' H1 : Hp} {A A' R : Own}
def ButA (A : Own) (H H' : Hp) : Prop := ∀ b u, b ∉ A.map (·.1) → H b = some u → H' b = some u
theorem Has.grownA (h : Has F (A ++ R) H) (hb : ButA A H H') (g : Grow F H F') (hA : Has F' A' H') (ea : ∀ q ∈ A', q.1 ∈ A.map (·.1) ∨ H q.1 = none) : Has F' (A' ++ R) H' := by
  have nd := h.nd
  rw [List.map_append, List.nodup_append] at nd
  refine ⟨hA.same, fun q hq => ?_, ?_⟩
  · rcases List.mem_append.mp hq with hq | hq
    · exact hA.own q hq
    · obtain ⟨f0, h0⟩ := h.own q (List.mem_append_right _ hq)
      refine ⟨by rw [g.2 _ (by rw [h0]; exact fun z => by cases z)]; exact f0, hb _ _ (fun m => ?_) h0⟩
      exact nd.2.2 _ m _ (List.mem_map.mpr ⟨q, hq, rfl⟩) rfl
  · rw [List.map_append, List.nodup_append]
    refine ⟨hA.nd, nd.2.1, fun x hx y hy e => ?_⟩
    obtain ⟨q, hq, rfl⟩ := List.mem_map.mp hx
    obtain ⟨r, hr, rfl⟩ := List.mem_map.mp hy
    rcases ea q hq with m | n
    · exact nd.2.2 _ m _ (List.mem_map.mpr ⟨r, hr, rfl⟩) e
    · rw [e, (h.own r (List.mem_append_right _ hr)).2] at n
      cases n
theorem Grow.refl : Grow F H F := ⟨Same.refl F, fun _ _ => rfl⟩
/-- what stands still: of old what stood still, of new what stands still now -/
def mixF (F H F1 : Hp) : Hp := fun b => match H b with
  | none => F1 b
  | some _ => F b
theorem mix_at {b : Addr} (n : H b = none) : mixF F H F1 b = F1 b := by
  unfold mixF
  rw [n]
theorem mix_old {b : Addr} (n : H b ≠ none) : mixF F H F1 b = F b := by
  unfold mixF
  cases e : H b with
  | none => exact (n e).elim
  | some u => rfl
theorem mix_grow (h : Has F A H) (s : Same (rmO A H) F1) : Grow F H (mixF F H F1) := by
  refine ⟨fun b u e => ?_, fun b n => mix_old n⟩
  rw [mix_old (by rw [h.same _ _ e]; exact fun z => by cases z)]
  exact e
theorem mix_but (h : Has F A H) (s : Same (rmO A H) F1) (h1 : Has F1 A' H1) : ButA A H H1 := fun b u n e => h1.same _ _ (s _ _ (by
  unfold rmO
  rw [if_neg n]
  exact e))
theorem mix_has (h : Has F A H) (s : Same (rmO A H) F1) (h1 : Has F1 A' H1) (ea : ∀ q ∈ A', q.1 ∈ A.map (·.1) ∨ H q.1 = none) : Has (mixF F H F1) A' H1 := by
  refine ⟨fun b u e => ?_, fun q hq => ⟨?_, (h1.own q hq).2⟩, h1.nd⟩
  · cases eh : H b with
    | none =>
      rw [mix_at eh] at e
      exact h1.same _ _ e
    | some o =>
      rw [mix_old (by rw [eh]; exact fun z => by cases z)] at e
      have := h.same _ _ e
      refine mix_but h s h1 b u (fun m => ?_) this
      obtain ⟨q, hq, rfl⟩ := List.mem_map.mp m
      rw [(h.own q hq).1] at e
      cases e
  · rcases ea q hq with m | n
    · obtain ⟨p, hp, e⟩ := List.mem_map.mp m
      have o := h.own p hp
      rw [← e, mix_old (by rw [o.2]; exact fun z => by cases z)]
      exact o.1
    · rw [mix_at n]
      exact (h1.own q hq).1
end
theorem ButA.step {F H H1 H2 : Hp} {A O1 O2 : Own} (hb : ButA A H H1) (h1 : Has F O1 H1) (nw : ∀ x ∈ O1, x.1 ∈ A.map (·.1) ∨ H x.1 = none) (h2 : Has (rmO O1 H1) O2 H2) : ButA A H H2 := fun b u n e => h2.same _ _ (by
  unfold rmO
  rw [if_neg (fun m => ?_)]
  · exact hb b u n e
  · obtain ⟨x, hx, rfl⟩ := List.mem_map.mp m
    rcases nw x hx with m' | z
    · exact n m'
    · rw [e] at z; cases z)
/-- what is new now was new then -/
theorem newp {F F1 H H1 : Hp} {A O1 : Own} {p : Addr} (h : Has F A H) (hb : ButA A H H1) (h1 : Has F1 O1 H1) (ea : ∀ q ∈ A, q.1 ∈ O1.map (·.1)) (n : H1 p = none) : H p = none := by
  cases e : H p with
  | none => rfl
  | some u =>
    by_cases m : p ∈ A.map (·.1)
    · obtain ⟨q, hq, rfl⟩ := List.mem_map.mp m
      obtain ⟨x, hx, ex⟩ := List.mem_map.mp (ea q hq)
      have := (h1.own x hx).2
      rw [ex, n] at this
      cases this
    · rw [hb p u m e] at n
      cases n
end Qk

/-! Qs: sets of keys made of lists; membership of more kinds -/
namespace Qk
open PySem PySem.Spec PyProof.Rows L2
/-! ### set(a list of keys) -/
section
variable {prog : Program} {w : World} {A : Around} {R : Result → Shared → Prop} {I : Addr} {fp wr : List Addr} {G : Array GenState → Array GenState → Prop} {n : Nat} {P : Nat → Value → Prop} {St : Nat → Shared → Prop}
/-- the loop puts in all keys from the i-th on -/
theorem loop_keys (W : WalksS prog w A.in1 I fp wr G n P St) (D : Addr) (hD : D ∉ fp) (ks : List Key) (hn : ks.length = n) (hb : n + 1 < scanBound)
    (hv : ∀ i v, P i v → ∃ k, ks[i]? = some k ∧ (mixKind prog w).is k v = true ∧ v.scannable = true) :
    ∀ (d i m : Nat) (T : Key → Bool) (s : Shared), i + d = n → m ≤ i → St i s → s.heap.SetOf (mixKind prog w) D T m →
      (∀ s' T' m', Moved (D :: wr) G s s' → s'.heap.SetOf (mixKind prog w) D T' m' → m' ≤ n → (∀ k, T' k = (T k || (ks.drop i).any fun j => decide (k = j))) → R (.ok (.ret .none)) s') →
      codeAny (model prog w) A (.builtin "set.update.loop" ⟨[.ref D, .ref I], []⟩) R s
  | 0, i, m, T, s, e, hm, st, hT, q => by
    refine codeAny_builtin F.entry_set_update_loop ?_
    rw [Around.under_plainId F.plain_set_update_loop _]
    show wpAny _ A.in1 (pyNext (.ref I) >>= _) _ _ s
    rw [Nat.add_zero] at e
    subst e
    refine wpAny_bind (W.done s _ _ st fun s1 mv => ?_)
    show wpAny _ A.in1 (ret Value.none) _ _ s1
    obtain ⟨o, es, ep, t, ho, rest⟩ := hT
    refine wpAny_pure (q s1 T m (mv.mono fun b hb => List.mem_cons_of_mem _ hb) ⟨o, es, ep, t, mv.heap D _ (fun z => hD (W.sub _ z)) ho, rest⟩ hm fun k => ?_)
    rw [← hn, List.drop_length]
    simp
  | d + 1, i, m, T, s, e, hm, st, hT, q => by
    refine codeAny_builtin F.entry_set_update_loop ?_
    rw [Around.under_plainId F.plain_set_update_loop _]
    show wpAny _ A.in1 (pyNext (.ref I) >>= _) _ _ s
    have hi : i < n := by omega
    refine wpAny_bind (W.item i s _ _ hi st fun v s1 pv st1 mv => ?_)
    obtain ⟨k, ek, his, hsc⟩ := hv i v pv
    obtain ⟨o, es, ep, t, ho, rest⟩ := hT
    have hT1 : s1.heap.SetOf (mixKind prog w) D T m := ⟨o, es, ep, t, mv.heap D _ (fun z => hD (W.sub _ z)) ho, rest⟩
    show wpAny _ A.in1 (holding [v] (setAdd D v) >>= _) _ _ s1
    refine wpAny_bind (wpAny_holding ?_)
    unfold setAdd
    refine wpAny_holding ?_
    refine wpAny_bind ((mixKind prog w).pyHash his ?_)
    refine wpAny_setAddHashed_of (knd := mixKind prog w) (s := { s1 with toks := s1.toks + 1 }) his hsc hT1 (by omega) fun h2 sb hT2 => ?_
    refine wpAny_pure ⟨plainId_quiet F.plain_set_update_loop _, loop_keys W D hD ks hn hb hv d (i + 1) _ _ _ (by omega) ?_ (W.frame _ s1 _ _ st1 (Nat.le_succ _) fun b hb o e => ?_) hT2 fun s3 T3 m3 mv3 hT3 le eq => ?_⟩
    · split <;> omega
    · rw [sb.2 b (fun z => hD (by rw [← z]; exact hb))]
      exact e
    · refine q s3 T3 m3 (Moved.trans W.gtrans ((mv.mono fun b hb => List.mem_cons_of_mem _ hb).then_heap (Nat.le_succ _) fun b o hb e => ?_) mv3) hT3 le fun k' => ?_
      · rw [sb.2 b (fun z => hb (by rw [z]; exact List.mem_cons_self))]
        exact e
      · rw [eq k']
        have hlt : i < ks.length := by omega
        have ek' : ks[i] = k := by rw [List.getElem?_eq_getElem hlt] at ek; exact Option.some.inj ek
        rw [List.drop_eq_getElem_cons hlt, ek', Bool.or_assoc]
        congr 1
end
section
variable {prog : Program} {w : World} {A : Around} {E : Value → Shared → Prop} {s : Shared}
def newSetObj (led : Bool) : Obj := { cls := .type "set", dict := none, data := .set #[] 0 (.fresh 0 0 led) }
/-- what the filling of the new set leaves -/
def Filled (prog : Program) (w : World) (ks : List Key) (s s2 : Shared) : Prop := ∃ h' tk T m, s2 = { s with heap := h', toks := tk } ∧ h'.SetOf (mixKind prog w) s.heap.objs.size T m ∧ m ≤ ks.length ∧
  (∀ k, T k = ks.any fun j => decide (k = j)) ∧ ∀ b o, b < s.heap.objs.size → s.heap.get? b = some o → h'.get? b = some o
set_option maxHeartbeats 4000000 in
theorem call_set_keys {l : Addr} {items : Array Value} {ks : List Key} {Q : Value → Shared → Prop} (hh : A.handled = none) (hl : s.heap.IsList l items) (hsz : items.size = ks.length)
    (hv : ∀ (i : Nat) (v : Value), items[i]? = some v → ∃ k, ks[i]? = some k ∧ (mixKind prog w).is k v = true ∧ v.scannable = true) (hb : ks.length + 1 < scanBound) (q : ∀ s2, Filled prog w ks s s2 → Q (.ref s.heap.objs.size) s2) :
    wpAny (model prog w) A (call (.type "set") [.ref l]) Q E s := by
  obtain ⟨c, tl, hmro⟩ := PySem.F.called_set.mro
  have hmade := PySem.F.called_set.made
  have hsub := PySem.F.called_set.sub
  have h1 := PySem.F.called_set.notType
  have h2 := PySem.F.called_set.canCreate
  have hct := PySem.F.typeCall_set_1 (.ref l)
  refine wpAny_call (codeAny_of_tree ?_)
  show wpAny _ _ (callAny (.type "set") _) _ _ _
  refine wpAny_pure ⟨Code.quiet_builtin _ (by decide +kernel), codeAny_builtin PySem.F.entry_type_call ?_⟩
  rw [Around.under_plain (weight_type_call_type "set" [.ref l] []) rfl]
  repeat (any_goals (first | assumption | wp_step))
  refine codeAny_mono (code_set_new_1 (.ref l) (E := E) (Q₁ := fun obj s₁ => ∃ led : Bool, obj = .ref s.heap.objs.size ∧ s₁ = { s with heap := s.heap.push (newSetObj led) }) fun led => ⟨led, rfl, rfl⟩) fun r s₁ hr => ?_
  cases r with
  | error e => exact hr
  | ok fl =>
    cases fl with
    | ret obj =>
      obtain ⟨led, rfl, rfl⟩ := hr
      have hS : (s.heap.push (newSetObj led)).get? s.heap.objs.size = some (newSetObj led) := Heap.get?_push_size _ rfl
      have hT : Shared.TypeIs { s with heap := s.heap.push (newSetObj led) } (.ref s.heap.objs.size) "set" := ⟨_, hS, rfl⟩
      have hli := PySem.F.called_set.init.lookup
      have hbi := PySem.F.called_set.init.bind (.ref s.heap.objs.size)
      repeat (any_goals (first | assumption | wp_step))
      refine codeAny_mono (codeAny_call_builtin (R := wants (fun r s₂ => r = .none ∧ Filled prog w ks s s₂) E) PySem.F.called_set.init.plain PySem.F.entry_set_init (check_set_init_1 hT ?_)) fun r₂ s₂ hr₂ => ?_
      · obtain ⟨ol, hol, hcl, nl, hdl⟩ := hl
        obtain ⟨ocls, odict, odata, oslots⟩ := ol
        simp only at hcl hdl
        subst hcl
        subst hdl
        have hol' : (s.heap.push (newSetObj led)).get? l = some { cls := .type "list", dict := odict, data := .seq items nl, slots := oslots } := Heap.get?_push_of_some _ hol
        have hsls := PySem.F.sub_list_set
        have hslf := PySem.F.sub_list_frozenset
        have hne : (Value.type "list" == Value.type "dict") = false := by decide
        have hl1 : (s.heap.push (newSetObj led)).IsList l items := ⟨_, hol', rfl, nl, rfl⟩
        unfold Builtin.«set.__init__» noKeywords Builtin.Frozenset.updateFrom
        generalize hPI : pyIter = PI
        wp_walk
        subst hPI
        refine wpAny_pyIter_list hl1 ?_
        refine wpAny_bind (wpAny_runValue ?_)
        have hlS : l < s.heap.objs.size := Heap.lt_size hol
        have hh3 : A.in1.in1.in1.handled = none := by simp [hh]
        have nI : l ≠ (s.heap.push (newSetObj led)).objs.size := by
          rw [Heap.size_push]
          exact Nat.ne_of_lt (Nat.lt_succ_of_lt hlS)
        have nS : s.heap.objs.size ∉ [(s.heap.push (newSetObj led)).objs.size, l] := by
          rw [Heap.size_push]
          simp only [List.mem_cons, List.not_mem_nil, or_false, not_or]
          exact ⟨Nat.ne_of_lt (Nat.lt_succ_self _), Nat.ne_of_gt hlS⟩
        refine loop_keys ((Walks.list hh3 _ l nI items).toS) s.heap.objs.size nS ks hsz.symm (by rw [hsz]; exact hb) hv items.size 0 0 (fun _ => false) _ (Nat.zero_add _) (Nat.le_refl _)
          ⟨⟨_, Heap.get?_push_size _ rfl, rfl, rfl⟩, hl1.push _⟩ ?hA ?hB
        case hA =>
          have hg : ((s.heap.push (newSetObj led)).push { cls := .type "list_iterator", data := .fields #[.ref l, .int 0 0] }).get? s.heap.objs.size = some (newSetObj led) := Heap.get?_push_of_some _ hS
          exact ⟨_, #[], 0, _, hg, ⟨rfl, rfl, rfl⟩, rfl, (fun e he => by simp at he), (fun k => by simp), (by decide), (by rfl), rfl⟩
        case hB =>
          intro s' T' m' mv hT' le eq
          obtain ⟨h', g', d', tk', os'⟩ := s'
          have eg : g' = s.gens := mv.gens
          have ed : d' = s.drawn := mv.drawn
          have eo : os' = s.os := mv.os
          subst eg
          subst ed
          subst eo
          show wpAny _ _ _ _ _ _
          refine wpAny_pure ?_
          show wpAny _ _ (ret Value.none) _ _ _
          refine wpAny_pure ⟨rfl, h', tk', T', m', rfl, hT', by omega, fun k => by rw [eq k]; rfl, fun b o hb e => ?_⟩
          refine mv.heap b o ?_ (Heap.get?_push_of_some _ (Heap.get?_push_of_some _ e))
          simp only [List.mem_cons, List.not_mem_nil, or_false, not_or]
          exact ⟨Nat.ne_of_lt hb, by rw [Heap.size_push]; exact Nat.ne_of_lt (Nat.lt_succ_of_lt hb)⟩
      · cases r₂ with
        | error e => exact hr₂
        | ok fl₂ =>
          cases fl₂ with
          | ret r =>
            obtain ⟨rfl, hf⟩ := hr₂
            repeat (any_goals (first | assumption | wp_step))
            exact q _ hf
          | _ => exact hr₂.elim
    | _ => exact hr.elim
end
/-- the keys of a list as values -/
theorem keys_vals {P : Program} {w : World} : ∀ {ks : List Key} {us : List Value}, Vals (ks.map kV) us → ∀ (i : Nat) (v : Value), us[i]? = some v → ∃ k, ks[i]? = some k ∧ (mixKind P w).is k v = true ∧ v.scannable = true
  | [], _, .nil, i, v, e => by simp at e
  | k :: ks, _, .cons r t, 0, v, e => by
    simp at e
    subst e
    exact ⟨k, rfl, kV_is r, key_scan r⟩
  | k :: ks, _, .cons r t, i + 1, v, e => by
    simp only [List.getElem?_cons_succ] at e ⊢
    exact keys_vals t i v e
section
variable {X : Cx}
/-- set(a list of texts) -/
def rSetTx (K : PySem.W.Frag) (P : Program) (w : World) : List V → Hp → VK → Prop := fun xs H Q => ∃ (l : Addr) (zs : List Str), xs = [.ref l] ∧ SqL K H l (zs.map V.str) ∧ zs.length < 1000 ∧
  ∀ a n T, H a = none → n ≤ zs.length → (∀ z, T (Sum.inr z) = decide (z ∈ zs)) → Q (.ref a) (upd H a (SetK P w a T n))
theorem cr_setTx (K : PySem.W.Frag) (hc : X.calm = true) (e : X.K = K := by rfl) : CallR X (.type "set") (rSetTx K X.prog X.w) := by
  subst e
  intro pins s σ H xs us Q I r h
  obtain ⟨l, zs, rfl, hl, hf, q⟩ := h
  rw [Vals.ref1 r]
  obtain ⟨its, rv, pl, hz⟩ := I.list hl
  have rv : Vals ((zs.map Sum.inr).map kV) its := by
    rw [List.map_map]
    exact rv
  have hle : its.length = zs.length := by rw [← rv.length, List.length_map, List.length_map]
  have hn : H s.heap.objs.size = none := I.hok.fresh (Nat.le_refl _)
  refine call_set_keys (ks := zs.map Sum.inr) (I.ok.hd hc) pl.isList (by rw [List.size_toArray, hle, List.length_map]) (fun i v e => keys_vals rv i v (by simpa using e)) (by rw [List.length_map]; unfold scanBound; omega) fun s2 F => ?_
  obtain ⟨h', tk, T, m, rfl, hT, hm, eT, k⟩ := F
  rw [List.length_map] at hm
  refine ⟨.ref s.heap.objs.size, upd H s.heap.objs.size (SetK X.prog X.w s.heap.objs.size T m), I.laid (t' := tk) (fun b o e => k b o (Heap.lt_size e) e) (Nat.le_refl _) (setK_new hT), rfl, q _ m T hn hm fun z => ?_⟩
  rw [eT, Bool.eq_iff_iff]
  simp [List.any_eq_true]
end
end Qk

/-! Qt: membership in sets, slices of texts, loops over texts, dict displays, bits -/
namespace Qk
open PySem PySem.Spec PyProof.Rows L2
/-! ### in, not in: also sets -/
def rInM (K : PySem.W.Frag) (P : Program) (w : World) : R2 := fun x y H Q => rInA K x y H Q ∨ rSInK P w false x y H Q
def rNotInM (K : PySem.W.Frag) (P : Program) (w : World) : R2 := fun x y H Q => rNotInA K x y H Q ∨ rSInK P w true x y H Q
section
variable {X : Cx}
theorem op_inM (K : PySem.W.Frag) (P : Program) (w : World) (hu : X.A.units + 64 < cLine) (hu' : X.A.units + 65 < cLine) (e : X.K = K := by rfl) (eP : X.prog = P := by rfl) (ew : X.w = w := by rfl) : OpR X (compareOp .In) (rInM K P w) := by
  subst e
  subst eP
  subst ew
  intro pins s σ H x y v u Q I rx ry h
  rcases h with h | h
  · exact op_inA hu hu' pins s σ H x y v u Q I rx ry h
  · exact or_sinK pins s σ H x y v u Q I rx ry h
theorem op_notinM (K : PySem.W.Frag) (P : Program) (w : World) (hu : X.A.units + 64 < cLine) (hu' : X.A.units + 65 < cLine) (e : X.K = K := by rfl) (eP : X.prog = P := by rfl) (ew : X.w = w := by rfl) : OpR X (compareOp .NotIn) (rNotInM K P w) := by
  subst e
  subst eP
  subst ew
  intro pins s σ H x y v u Q I rx ry h
  rcases h with h | h
  · exact op_notinA hu hu' pins s σ H x y v u Q I rx ry h
  · exact or_snotinK pins s σ H x y v u Q I rx ry h
/-- slices of lists, tuples, texts -/
def rSlM (K : PySem.W.Frag) : V → Option Int → Option Int → Hp → VK → Prop := fun x lo hi H Q => rSlB K x lo hi H Q ∨ rSlS x lo hi H Q
theorem sl_M (K : PySem.W.Frag) (e : X.K = K := by rfl) : SlR X (rSlM K) := by
  subst e
  intro pins s σ H x v vl vu lo hi sl Q I rx hs pl pu h
  rcases h with h | h
  · exact sl_all pins s σ H x v vl vu lo hi sl Q I rx hs pl pu h
  · exact sl_str pins s σ H x v vl vu lo hi sl Q I rx hs pl pu h
end
section
variable {K : PySem.W.Frag} {P : Program} {w : World} {σ : L2.St} {F : Hp} {O O' : Own} {H : Hp} {Q : VK} {x y v : V} {te ta tk tv : TE} {D : Ends} {ts : TS} {g : TG}
theorem g_inM (q : rInA K x y H Q) : rInM K P w x y H Q := .inl q
theorem g_notinM (q : rNotInA K x y H Q) : rNotInM K P w x y H Q := .inl q
theorem g_inK {a : Addr} {T : Key → Bool} {n : Nat} {k : Key} (ek : x = kV k) (h : H a = some (SetK P w a T n)) (q : Q (.bl (T k)) H) : rInM K P w x (.ref a) H Q := .inr ⟨k, a, T, n, ek, rfl, h, q⟩
theorem g_notinK {a : Addr} {T : Key → Bool} {n : Nat} {k : Key} (ek : x = kV k) (h : H a = some (SetK P w a T n)) (q : Q (.bl (!T k)) H) : rNotInM K P w x (.ref a) H Q := .inr ⟨k, a, T, n, ek, rfl, h, q⟩
theorem g_inC {c : Nat} {z : Str} (q : Q (.bl (decide (c ∈ z.cps.toList))) H) : rInA K (.str ⟨#[c]⟩) (.str z) H Q := .inr (.inl ⟨_, _, rfl, rfl, by rw [PySem.StrLaws.found_one z c]; exact q⟩)
theorem g_notinC {c : Nat} {z : Str} (q : Q (.bl (!decide (c ∈ z.cps.toList))) H) : rNotInA K (.str ⟨#[c]⟩) (.str z) H Q := .inr (.inl ⟨_, _, rfl, rfl, by rw [PySem.StrLaws.found_one z c]; exact q⟩)
theorem g_slM {lo hi : Option Int} (q : rSlB K x lo hi H Q) : rSlM K x lo hi H Q := .inl q
theorem g_slZ {z : Str} {lo hi : Option Int} (hl : z.length ≤ sizeLine) (q : Q (.str (cutS z lo hi)) H) : rSlM K (.str z) lo hi H Q := .inr ⟨z, rfl, hl, q⟩
/-! ### loops over a text -/
def kForS (g : TG) (tb : TS) (D : Ends) (σ : L2.St) (x : V) (H : Hp) : Prop := ∃ z, x = .str z ∧ kW (Its z) g tb D σ H
theorem g_forS (q : te σ H fun x H1 => kForS g ts D σ x H1) : tFor (iStr te) g ts D σ H := q
theorem k_forS {z : Str} (Pv : Nat → L2.St → Hp → Prop) (h0 : Pv 0 σ H)
    (hs : ∀ i c σ H, z.cps[i]? = some c → Pv i σ H → g (.str ⟨#[c]⟩) σ H fun σ2 H2 => ts { D with nx := Pv (i + 1), ct := Pv (i + 1), bk := D.nx } σ2 H2) (hd : ∀ σ H, Pv z.length σ H → D.nx σ H) : kForS g ts D σ (.str z) H := by
  refine ⟨z, rfl, fun i m σ H => m = z.length - i ∧ i ≤ z.length ∧ Pv i σ H, ⟨z.length, rfl, Nat.zero_le _, h0⟩, ?_⟩
  rintro i m σ H ⟨rfl, hi, p⟩
  by_cases hlt : i < z.length
  · refine .inr ⟨hlt, Pv (i + 1), fun σ' H' p' => ⟨z.length - (i + 1), by omega, rfl, hlt, p'⟩, fun x H' y => ?_⟩
    obtain ⟨e, c, hc, rfl⟩ := y
    subst e
    exact hs i c σ _ hc p
  · have e : i = z.length := by omega
    subst e
    exact .inl ⟨Nat.le_refl _, hd σ H p⟩
/-! ### {k: v} -/
def kDisp1 (p : Addr) (x y : V) (H : Hp) (Q : VK) : Prop := H p = some (.dK []) ∧ ∃ kvs : List (Key × V), [(x, y)] = kvs.map (fun kv => (kV kv.1, kv.2)) ∧ kvs.length ≤ 15 ∧ Q (.ref p) (upd H p (.dK (mergeK [] kvs)))
theorem g_disp1 (hH : Has F O H) (q : ∀ p H1, H p = none → Has F ((p, .dK []) :: O) H1 → tk σ H1 fun x H2 => tv σ H2 fun y H3 => kDisp1 p x y H3 Q) : tDisp [(tk, tv)] σ H Q := fun p n => q p _ n (hH.new n)
theorem g_kdisp1 {p : Addr} {z : V} {k : Key} (h : Has F ((p, .dK []) :: O) H) (ez : z = kV k) (q : ∀ H', Has F ((p, .dK [(k, y)]) :: O) H' → Q (.ref p) H') : kDisp1 p z y H Q := by
  subst ez
  exact ⟨h.get (List.Mem.head _), [(k, y)], rfl, Nat.succ_le_succ (Nat.zero_le _), q _ (h.put .hd)⟩
/-! ### sum, str, set -/
theorem cr_setTxK {X : Cx} (K : PySem.W.Frag) (P : Program) (w : World) (hc : X.calm = true) (e : X.K = K := by rfl) (eP : X.prog = P := by rfl) (ew : X.w = w := by rfl) : CallR X (.type "set") (rSetTx K P w) := by
  subst e
  subst eP
  subst ew
  exact cr_setTx _ hc
theorem g_sum {a : Addr} {ns : List Int} (h : H a = some (.lst (ns.map V.int))) (q : Q (.int ns.sum) H) : rSum K [.ref a] H Q := ⟨a, ns, rfl, SqL.of h, q⟩
def rStrI : List V → Hp → VK → Prop := fun xs H Q => ∃ i : Int, xs = [.int i] ∧ i.natAbs.log2 < 1920 ∧ Q (.str (toString i)) H
theorem cr_strI {X : Cx} : CallR X (.type "str") rStrI := call_str_int
theorem g_strI {i : Int} (h : i.natAbs.log2 < 1920) (q : Q (.str (toString i)) H) : rStrI [.int i] H Q := ⟨i, rfl, h, q⟩
theorem cr_sumK {X : Cx} (K : PySem.W.Frag) (hc : X.calm = true) (e : X.K = K := by rfl) : CallR X (.builtin "sum") (rSum K) := by subst e; exact cr_sum hc
theorem g_setOf {a : Addr} {zs : List Str} (h : H a = some (.lst (zs.map V.str))) (hl : zs.length < 1000) (hH : Has F O H) (q : ∀ p n T H', H p = none → (∀ z, T (Sum.inr z) = decide (z ∈ zs)) → Has F ((p, SetK P w p T n) :: O) H' → Q (.ref p) H') : rSetTx K P w [.ref a] H Q :=
  ⟨a, zs, rfl, SqL.of h, hl, fun p n T np _ eT => q p n T _ np eT (hH.new np)⟩
/-! ### methods of texts -/
def kM0 (r : V → List V → Hp → VK → Prop) (x : V) (H : Hp) (Q : VK) : Prop := (∃ a, x = .str a) ∧ r x [] H Q
theorem g_m0 {r : V → List V → Hp → VK → Prop} (q : ta σ H fun x H1 => kM0 r x H1 Q) : tM0 r ta σ H Q := q
theorem g_km0 {r : V → List V → Hp → VK → Prop} {z : Str} (q : r (.str z) [] H Q) : kM0 r (.str z) H Q := ⟨⟨z, rfl⟩, q⟩
end
/-! ### ways that meet, the rest of the way out of sight -/
theorem g_joinD {t : TS} {D : Ends} {σ : L2.St} {H : Hp} (M : L2.St → Hp → Prop) (h : ∀ σ' H', M σ' H' → D.nx σ' H') (q : ∀ nx' : L2.St → Hp → Prop, (∀ σ' H', M σ' H' → nx' σ' H') → t { D with nx := nx' } σ H) : t D σ H := q D.nx h
end Qk

/-! Qu: sets of keys that can be gone through: set(list), sorted(set), in -/
namespace Qk
open PySem PySem.Spec PyProof.Rows L2
/-- the entries of a set and their keys -/
structure KE (P : Program) (w : World) (es : Array (Int × Value)) (ks : List Key) : Prop where
  ex : ∃ kes : List (Key × (Int × Value)), (kes.map (·.2)).Perm es.toList ∧ (∀ p ∈ kes, (mixKind P w).is p.1 p.2.2 = true) ∧ kes.map (·.1) = ks
  nd : ks.Nodup
def KR (P : Program) (w : World) (h : Heap) (a : Addr) (T : Key → Bool) (n : Nat) : Prop :=
  ∃ (o : Obj) (es : Array (Int × Value)) (ep : Nat) (t : SetTable) (ks : List Key), h.get? a = some o ∧ o.ExactSet ∧ o.data = .set es ep t ∧ ElemsOf (mixKind P w) es.toList ∧ KE P w es ks ∧ (∀ k, T k = true ↔ k ∈ ks) ∧
    es.size < scanBound ∧ t.fits es.size = true ∧ es.size = n ∧ Ris t.place.toList ∧ (w.params.followText "set-order" = true ∨ t.led = true)
section
variable {P : Program} {w : World} {h h' : Heap} {a : Addr} {T : Key → Bool} {n : Nat}
theorem KE.mem {es : Array (Int × Value)} {ks : List Key} (e : KE P w es ks) (k : Key) : k ∈ ks ↔ ∃ x, x ∈ es.toList ∧ (mixKind P w).is k x.2 = true := by
  obtain ⟨kes, pm, hi, rfl⟩ := e.ex
  rw [List.mem_map]
  constructor
  · rintro ⟨p, hp, rfl⟩
    exact ⟨p.2, pm.mem_iff.mp (List.mem_map.mpr ⟨p, hp, rfl⟩), hi p hp⟩
  · rintro ⟨x, hx, hk⟩
    obtain ⟨p, hp, rfl⟩ := List.mem_map.mp (pm.mem_iff.mpr hx)
    exact ⟨p, hp, (mixKind P w).inj _ _ _ (hi p hp) hk⟩
theorem KE.len {es : Array (Int × Value)} {ks : List Key} (e : KE P w es ks) : ks.length = es.size := by
  obtain ⟨kes, pm, _, rfl⟩ := e.ex
  rw [List.length_map, ← Array.length_toList, ← pm.length_eq, List.length_map]
theorem KR.setOf (r : KR P w h a T n) : h.SetOf (mixKind P w) a T n := by
  obtain ⟨o, es, ep, t, ks, h1, h2, h3, h4, h5, h6, h7, h8, h9, _⟩ := r
  exact ⟨o, es, ep, t, h1, h2, h3, h4, fun k => (h6 k).trans (h5.mem k), h7, h8, h9⟩
theorem KR.at_ (r : KR P w h a T n) (s : ∀ o, h.get? a = some o → h'.get? a = some o) : KR P w h' a T n := by
  obtain ⟨o, es, ep, t, ks, h1, rest⟩ := r
  exact ⟨o, es, ep, t, ks, s _ h1, rest⟩
theorem KR.congr {T' : Key → Bool} (r : KR P w h a T n) (e : ∀ k, T' k = T k) : KR P w h a T' n := by
  have : T' = T := funext e
  rw [this]
  exact r
end
def SetQ (P : Program) (w : World) (a : Addr) (T : Key → Bool) (n : Nat) : HO := HO.ext fun h => KR P w h a T n
theorem setQ_get {X : Cx} {pins : List (Addr × Obj)} {σ : L2.St} {H : Hp} {s : Shared} {a : Addr} {T : Key → Bool} {n : Nat} (I : L2.Inv X pins σ H s) (ha : H a = some (SetQ X.prog X.w a T n)) : KR X.prog X.w s.heap a T n := (I.hok a _ ha).1
theorem setQ_new {P : Program} {w : World} {H : Hp} {h : Heap} {a : Addr} {T : Key → Bool} {n : Nat} (r : KR P w h a T n) : ObjOk P w H h a (SetQ P w a T n) := by
  obtain ⟨o, _, _, _, _, ho, _⟩ := id r
  exact ⟨r, ⟨o, ho⟩, fun h1 h2 r1 s => KR.at_ r1 s⟩
/-! ### one more key -/
section
variable {P : Program} {w : World} {A : Around} {E : Value → Shared → Prop} {s : Shared} {a : Addr}
theorem KE.push {es es1 : Array (Int × Value)} {ks : List Key} (e : KE P w es ks) {k : Key} {x : Value} {hx : Int} (hk : (mixKind P w).is k x = true) (nk : k ∉ ks) (pm : es1.toList.Perm (es.push (hx, x)).toList) : KE P w es1 (ks ++ [k]) := by
  obtain ⟨kes, p0, hi, rfl⟩ := e.ex
  refine ⟨⟨kes ++ [(k, (hx, x))], ?_, ?_, by rw [List.map_append]; rfl⟩, ?_⟩
  · rw [List.map_append]
    refine List.Perm.trans (List.Perm.append_right _ p0) ?_
    rw [Array.toList_push] at pm
    exact pm.symm
  · intro p hp
    rcases List.mem_append.mp hp with hp | hp
    · exact hi p hp
    · rw [List.mem_singleton.mp hp]; exact hk
  · rw [List.nodup_append]
    refine ⟨e.nd, List.nodup_cons.mpr ⟨fun h => (by cases h), List.nodup_nil⟩, fun x hx y hy e => ?_⟩
    rw [List.mem_singleton.mp hy] at e
    exact nk (e ▸ hx)
theorem KE.perm {es es1 : Array (Int × Value)} {ks : List Key} (e : KE P w es ks) (pm : es1.toList.Perm es.toList) : KE P w es1 ks := by
  obtain ⟨kes, p0, hi, ek⟩ := e.ex
  exact ⟨⟨kes, p0.trans pm.symm, hi, ek⟩, e.nd⟩
theorem kr_tail {g : Bool → Sem Unit} (hg : ∀ (b : Bool) (s₁ : Shared) (Q' : Unit → Shared → Prop), Q' () s₁ → wpAny (model P w) A (g b) Q' E s₁) {o : Obj} {es : Array (Int × Value)} {ep : Nat} {t : SetTable}
    (ho : s.heap.get? a = some o) (hx : o.ExactSet) (hd : o.data = .set es ep t) {es1 : Array (Int × Value)} {t2 : SetTable} {T' : Key → Bool} {ks : List Key}
    (he : ElemsOf (mixKind P w) es1.toList) (hk : KE P w es1 ks) (hT : ∀ k, T' k = true ↔ k ∈ ks) (hsz : es1.size < scanBound) (hf : t2.fits es1.size = true) (hr : Ris t2.place.toList) (hl : w.params.followText "set-order" = true ∨ t2.led = true)
    {wasDummy : Bool} {R : Option Bool → Shared → Prop} (q : ∀ h', Heap.SameBut a s.heap h' → KR P w h' a T' es1.size → R (some true) { s with heap := h' }) :
    wpAny (model P w) A (do
      storeSet a es1 t2
      if (!wasDummy && t2.tooFull) = true then do
          g (relayAll t2 es1 (SetTable.grown es1.size)).snd.snd
          storeSet a (relayAll t2 es1 (SetTable.grown es1.size)).fst (relayAll t2 es1 (SetTable.grown es1.size)).snd.fst
          pure (some true)
        else pure (some true)) R E s := by
  refine wpAny_bind (wpAny_storeSet_of ho hd ?_ (fits_of_scanBound hsz))
  have h1 := store_at (es' := es1) (t' := t2) ho hd
  have b1 := Heap.SameBut.update s.heap a (Obj.putSet es1 t2)
  split
  · refine wpAny_bind (hg _ _ _ ?_)
    have pm := relayAll_perm t2 es1 (SetTable.grown es1.size)
    have fit := relayAll_fits t2 es1 (SetTable.grown es1.size)
    have ris := relayAll_ris t2 es1 (SetTable.grown es1.size)
    have led := relayAll_led t2 es1 (SetTable.grown es1.size)
    generalize relayAll t2 es1 (SetTable.grown es1.size) = rl at pm fit ris led
    obtain ⟨es2, t3, gv⟩ := rl
    have es_sz : es2.size = es1.size := by
      have := pm.length_eq
      rwa [Array.length_toList, Array.length_toList] at this
    refine wpAny_bind (wpAny_storeSet_of h1 rfl ?_ (fits_of_scanBound (by show es2.size < _; omega)))
    refine wpAny_pure (q _ (b1.trans (Heap.SameBut.update _ a _)) ?_)
    refine ⟨_, es2, ep + 1 + 1, t3, ks, store_at (es' := es2) (t' := t3) h1 rfl, ⟨hx.1, hx.2.1, hx.2.2⟩, rfl, he.perm pm, hk.perm pm, hT, by omega, fit, es_sz, ris, ?_⟩
    rcases hl with hl | hl
    · exact .inl hl
    · exact .inr (led.trans hl)
  · exact wpAny_pure (q _ b1 ⟨_, es1, ep + 1, t2, ks, h1, ⟨hx.1, hx.2.1, hx.2.2⟩, rfl, he, hk, hT, hsz, hf, rfl, hr, hl⟩)
theorem kr_add {T : Key → Bool} {n : Nat} {k : Key} {x : Value} {Q : Bool → Shared → Prop} (his : (mixKind P w).is k x = true) (hsc : x.scannable = true) (hT : KR P w s.heap a T n) (hn : n + 1 < scanBound)
    (q : ∀ h', Heap.SameBut a s.heap h' → KR P w h' a (fun k' => T k' || decide (k' = k)) (if T k = true then n else n + 1) → Q (!T k) { s with heap := h' }) : wpAny (model P w) A (setAddHashed a x ((mixKind P w).hash k)) Q E s := by
  obtain ⟨o, es, ep, t, ks, ho, hx, hd, he, hk, hT', hsz, hf, hn', hr, hl⟩ := hT
  unfold setAddHashed
  refine wpAny_holding ?_
  rw [setAddHashedIn.eq_def]
  dsimp only
  refine wpAny_bind (wpAny_setState_of ho hd hf ?_)
  dsimp only
  rw [if_pos (byScan_of (knd := mixKind P w) hsc hsz he)]
  refine wpAny_bind ?_
  unfold setAddByScan
  refine wpAny_bind (wpAny_rule ?_)
  refine wpAny_bind (wpAny_setScan_of (knd := mixKind P w) his ho hd hf he ?_)
  cases hfi : List.findIdx? (fun e => (mixKind P w).is k e.2) es.toList with
  | some j =>
    have hk1 : T k = true := by
      rw [hT' k, hk.mem k]
      have h1 := List.findIdx?_eq_some_iff_getElem.mp hfi
      obtain ⟨hj, hp, _⟩ := h1
      exact ⟨_, List.getElem_mem hj, hp⟩
    dsimp only
    refine wpAny_pure ?_
    dsimp only
    refine wpAny_pure ?_
    have q' := q s.heap (Heap.SameBut.refl _ _) ?_
    · rw [hk1] at q'
      exact q'
    · rw [if_pos hk1]
      refine KR.congr ⟨o, es, ep, t, ks, ho, hx, hd, he, hk, hT', hsz, hf, hn', hr, hl⟩ fun k' => ?_
      by_cases e : k' = k
      · rw [e, hk1]; rfl
      · rw [decide_eq_false e, Bool.or_false]
  | none =>
    have hk0 : T k = false := by
      cases e : T k with
      | false => rfl
      | true =>
        obtain ⟨x', hx', hi'⟩ := (hk.mem k).mp ((hT' k).mp e)
        have := List.findIdx?_eq_none_iff.mp hfi x' hx'
        rw [hi'] at this
        cases this
    have nk : k ∉ ks := fun m => by
      have := (hT' k).mpr m
      rw [hk0] at this
      cases this
    dsimp only
    have pm := layNew_perm t es ((mixKind P w).hash k) x
    have fit := layNew_fits t es ((mixKind P w).hash k) x
    have ris := layNew_ris t es ((mixKind P w).hash k) x hr
    have led := layNew_led t es ((mixKind P w).hash k) x
    generalize layNew t es ((mixKind P w).hash k) x = ln at pm fit ris led
    obtain ⟨es1, t1, wd, gv⟩ := ln
    dsimp only at pm fit ris led ⊢
    have sz1 : es1.size = es.size + 1 := by
      have := pm.length_eq
      rwa [Array.length_toList, Array.length_toList, Array.size_push] at this
    have he1 : ElemsOf (mixKind P w) es1.toList := by
      have := he.push his hsc
      rw [← Array.toList_push] at this
      exact this.perm pm
    have hk1 := hk.push his nk pm
    have hT1 : ∀ k', (T k' || decide (k' = k)) = true ↔ k' ∈ ks ++ [k] := fun k' => by
      rw [Bool.or_eq_true, decide_eq_true_eq, hT' k', List.mem_append, List.mem_singleton]
    have hsz1 : es1.size < scanBound := by omega
    have led1 : w.params.followText "set-order" = true ∨ t1.led = true := by
      rcases hl with hl | hl
      · exact .inl hl
      · exact .inr (led.trans hl)
    rw [hk0] at q
    have fin : ∀ h', Heap.SameBut a s.heap h' → KR P w h' a (fun k' => T k' || decide (k' = k)) es1.size → Q true { s with heap := h' } := fun h' b r => q h' b (by rw [sz1, hn'] at r; exact r)
    have tl : ∀ b : Bool, (if b = true then t1 else { t1 with plain := false }).fits es1.size = true ∧ Ris (if b = true then t1 else { t1 with plain := false }).place.toList ∧ (w.params.followText "set-order" = true ∨ (if b = true then t1 else { t1 with plain := false }).led = true) := fun b => by
      cases b
      · exact ⟨SetTable.fits_plain_off fit, ris, led1⟩
      · exact ⟨fit, ris, led1⟩
    refine wpAny_bind ?_
    cases gv <;> (first | refine wpAny_pure ?_ | refine wpAny_rule ?_)
    all_goals
      split
      · rw [hashByValue_scannable _ hsc]
        refine wpAny_bind (wpAny_pure ?_)
        refine kr_tail ?_ ho hx hd he1 hk1 hT1 hsz1 (tl _).1 (tl _).2.1 (tl _).2.2 (fun h' sb r => ?_)
        · intro b s₁ Q' h
          cases b <;> (first | exact wpAny_pure h | exact wpAny_rule h)
        · exact wpAny_pure (fin h' sb r)
      · refine wpAny_bind (wpAny_pure ?_)
        refine kr_tail ?_ ho hx hd he1 hk1 hT1 hsz1 (tl true).1 (tl true).2.1 (tl true).2.2 (fun h' sb r => ?_)
        · intro b s₁ Q' h
          cases b <;> (first | exact wpAny_pure h | exact wpAny_rule h)
        · exact wpAny_pure (fin h' sb r)
end
theorem code_set_led1 {P : Program} {w : World} {A : Around} {E : Value → Shared → Prop} {s : Shared} (a : Value) {Q₁ : Value → Shared → Prop}
    (q : Q₁ (.ref s.heap.objs.size) { s with heap := s.heap.push { cls := .type "set", data := .set #[] 0 (.fresh 0 0 !w.params.followText "set-order") } }) :
    codeAny (model P w) A (.call (.builtin "set.__new__") ⟨[.type "set", a], []⟩) (wants Q₁ E) s := by
  refine codeAny_of_tree ?_
  show wpAny _ _ (_ >>= _) _ _ _
  refine wpAny_bind ?_
  refine wpAny_of_eq (PySem.F.newCall_set_1 a) ?_
  refine wpAny_pure ?_
  refine ⟨plainId_quiet F.plain_set_new _, codeAny_builtin F.entry_set_new ?_⟩
  rw [Around.under_plainId F.plain_set_new _]
  show wpAny _ _ (Builtin.«set.__new__» _) _ _ _
  unfold Builtin.«set.__new__» Builtin.Frozenset.newClass newSet
  dsimp only
  have hs := @PySem.sub_set_self
  repeat (any_goals (first | assumption | wp_step))
  refine wpAny_askSetting ?_
  refine wpAny_pure ?_
  dsimp only
  unfold newObj
  repeat (any_goals (first | assumption | wp_step))

/-! ### set(a list of keys) -/
section
variable {prog : Program} {w : World} {A : Around} {R : Result → Shared → Prop} {I : Addr} {fp wr : List Addr} {G : Array GenState → Array GenState → Prop} {n : Nat} {P : Nat → Value → Prop} {St : Nat → Shared → Prop}
/-- the loop puts in all keys from the i-th on -/
theorem loop_keysQ (W : WalksS prog w A.in1 I fp wr G n P St) (D : Addr) (hD : D ∉ fp) (ks : List Key) (hn : ks.length = n) (hb : n + 1 < scanBound)
    (hv : ∀ i v, P i v → ∃ k, ks[i]? = some k ∧ (mixKind prog w).is k v = true ∧ v.scannable = true) :
    ∀ (d i m : Nat) (T : Key → Bool) (s : Shared), i + d = n → m ≤ i → St i s → KR prog w s.heap D T m →
      (∀ s' T' m', Moved (D :: wr) G s s' → KR prog w s'.heap D T' m' → m' ≤ n → (∀ k, T' k = (T k || (ks.drop i).any fun j => decide (k = j))) → R (.ok (.ret .none)) s') →
      codeAny (model prog w) A (.builtin "set.update.loop" ⟨[.ref D, .ref I], []⟩) R s
  | 0, i, m, T, s, e, hm, st, hT, q => by
    refine codeAny_builtin F.entry_set_update_loop ?_
    rw [Around.under_plainId F.plain_set_update_loop _]
    show wpAny _ A.in1 (pyNext (.ref I) >>= _) _ _ s
    rw [Nat.add_zero] at e
    subst e
    refine wpAny_bind (W.done s _ _ st fun s1 mv => ?_)
    show wpAny _ A.in1 (ret Value.none) _ _ s1
    refine wpAny_pure (q s1 T m (mv.mono fun b hb => List.mem_cons_of_mem _ hb) (hT.at_ fun o ho => mv.heap D _ (fun z => hD (W.sub _ z)) ho) hm fun k => ?_)
    rw [← hn, List.drop_length]
    simp
  | d + 1, i, m, T, s, e, hm, st, hT, q => by
    refine codeAny_builtin F.entry_set_update_loop ?_
    rw [Around.under_plainId F.plain_set_update_loop _]
    show wpAny _ A.in1 (pyNext (.ref I) >>= _) _ _ s
    have hi : i < n := by omega
    refine wpAny_bind (W.item i s _ _ hi st fun v s1 pv st1 mv => ?_)
    obtain ⟨k, ek, his, hsc⟩ := hv i v pv
    have hT1 : KR prog w s1.heap D T m := hT.at_ fun o ho => mv.heap D _ (fun z => hD (W.sub _ z)) ho
    show wpAny _ A.in1 (holding [v] (setAdd D v) >>= _) _ _ s1
    refine wpAny_bind (wpAny_holding ?_)
    unfold setAdd
    refine wpAny_holding ?_
    refine wpAny_bind ((mixKind prog w).pyHash his ?_)
    refine kr_add (s := { s1 with toks := s1.toks + 1 }) his hsc hT1 (by omega) fun h2 sb hT2 => ?_
    refine wpAny_pure ⟨plainId_quiet F.plain_set_update_loop _, loop_keysQ W D hD ks hn hb hv d (i + 1) _ _ _ (by omega) ?_ (W.frame _ s1 _ _ st1 (Nat.le_succ _) fun b hb o e => ?_) hT2 fun s3 T3 m3 mv3 hT3 le eq => ?_⟩
    · split <;> omega
    · rw [sb.2 b (fun z => hD (by rw [← z]; exact hb))]
      exact e
    · refine q s3 T3 m3 (Moved.trans W.gtrans ((mv.mono fun b hb => List.mem_cons_of_mem _ hb).then_heap (Nat.le_succ _) fun b o hb e => ?_) mv3) hT3 le fun k' => ?_
      · rw [sb.2 b (fun z => hb (by rw [z]; exact List.mem_cons_self))]
        exact e
      · rw [eq k']
        have hlt : i < ks.length := by omega
        have ek' : ks[i] = k := by rw [List.getElem?_eq_getElem hlt] at ek; exact Option.some.inj ek
        rw [List.drop_eq_getElem_cons hlt, ek', Bool.or_assoc]
        congr 1
end
section
variable {prog : Program} {w : World} {A : Around} {E : Value → Shared → Prop} {s : Shared}
def newSetQ (w : World) : Obj := { cls := .type "set", dict := none, data := .set #[] 0 (.fresh 0 0 !w.params.followText "set-order") }
/-- what the filling of the new set leaves -/
def FilledQ (prog : Program) (w : World) (ks : List Key) (s s2 : Shared) : Prop := ∃ h' tk T m, s2 = { s with heap := h', toks := tk } ∧ KR prog w h' s.heap.objs.size T m ∧ m ≤ ks.length ∧
  (∀ k, T k = ks.any fun j => decide (k = j)) ∧ ∀ b o, b < s.heap.objs.size → s.heap.get? b = some o → h'.get? b = some o
set_option maxHeartbeats 4000000 in
theorem call_set_keysQ {l : Addr} {items : Array Value} {ks : List Key} {Q : Value → Shared → Prop} (hh : A.handled = none) (hl : s.heap.IsList l items) (hsz : items.size = ks.length)
    (hv : ∀ (i : Nat) (v : Value), items[i]? = some v → ∃ k, ks[i]? = some k ∧ (mixKind prog w).is k v = true ∧ v.scannable = true) (hb : ks.length + 1 < scanBound) (q : ∀ s2, FilledQ prog w ks s s2 → Q (.ref s.heap.objs.size) s2) :
    wpAny (model prog w) A (call (.type "set") [.ref l]) Q E s := by
  obtain ⟨c, tl, hmro⟩ := PySem.F.called_set.mro
  have hmade := PySem.F.called_set.made
  have hsub := PySem.F.called_set.sub
  have h1 := PySem.F.called_set.notType
  have h2 := PySem.F.called_set.canCreate
  have hct := PySem.F.typeCall_set_1 (.ref l)
  refine wpAny_call (codeAny_of_tree ?_)
  show wpAny _ _ (callAny (.type "set") _) _ _ _
  refine wpAny_pure ⟨Code.quiet_builtin _ (by decide +kernel), codeAny_builtin PySem.F.entry_type_call ?_⟩
  rw [Around.under_plain (weight_type_call_type "set" [.ref l] []) rfl]
  repeat (any_goals (first | assumption | wp_step))
  refine codeAny_mono (code_set_led1 (.ref l) (E := E) (Q₁ := fun obj s₁ => obj = .ref s.heap.objs.size ∧ s₁ = { s with heap := s.heap.push (newSetQ w) }) ⟨rfl, rfl⟩) fun r s₁ hr => ?_
  cases r with
  | error e => exact hr
  | ok fl =>
    cases fl with
    | ret obj =>
      obtain ⟨rfl, rfl⟩ := hr
      have hS : (s.heap.push (newSetQ w)).get? s.heap.objs.size = some (newSetQ w) := Heap.get?_push_size _ rfl
      have hT : Shared.TypeIs { s with heap := s.heap.push (newSetQ w) } (.ref s.heap.objs.size) "set" := ⟨_, hS, rfl⟩
      have hli := PySem.F.called_set.init.lookup
      have hbi := PySem.F.called_set.init.bind (.ref s.heap.objs.size)
      repeat (any_goals (first | assumption | wp_step))
      refine codeAny_mono (codeAny_call_builtin (R := wants (fun r s₂ => r = .none ∧ FilledQ prog w ks s s₂) E) PySem.F.called_set.init.plain PySem.F.entry_set_init (check_set_init_1 hT ?_)) fun r₂ s₂ hr₂ => ?_
      · obtain ⟨ol, hol, hcl, nl, hdl⟩ := hl
        obtain ⟨ocls, odict, odata, oslots⟩ := ol
        simp only at hcl hdl
        subst hcl
        subst hdl
        have hol' : (s.heap.push (newSetQ w)).get? l = some { cls := .type "list", dict := odict, data := .seq items nl, slots := oslots } := Heap.get?_push_of_some _ hol
        have hsls := PySem.F.sub_list_set
        have hslf := PySem.F.sub_list_frozenset
        have hne : (Value.type "list" == Value.type "dict") = false := by decide
        have hl1 : (s.heap.push (newSetQ w)).IsList l items := ⟨_, hol', rfl, nl, rfl⟩
        unfold Builtin.«set.__init__» noKeywords Builtin.Frozenset.updateFrom
        generalize hPI : pyIter = PI
        wp_walk
        subst hPI
        refine wpAny_pyIter_list hl1 ?_
        refine wpAny_bind (wpAny_runValue ?_)
        have hlS : l < s.heap.objs.size := Heap.lt_size hol
        have hh3 : A.in1.in1.in1.handled = none := by simp [hh]
        have nI : l ≠ (s.heap.push (newSetQ w)).objs.size := by
          rw [Heap.size_push]
          exact Nat.ne_of_lt (Nat.lt_succ_of_lt hlS)
        have nS : s.heap.objs.size ∉ [(s.heap.push (newSetQ w)).objs.size, l] := by
          rw [Heap.size_push]
          simp only [List.mem_cons, List.not_mem_nil, or_false, not_or]
          exact ⟨Nat.ne_of_lt (Nat.lt_succ_self _), Nat.ne_of_gt hlS⟩
        refine loop_keysQ ((Walks.list hh3 _ l nI items).toS) s.heap.objs.size nS ks hsz.symm (by rw [hsz]; exact hb) hv items.size 0 0 (fun _ => false) _ (Nat.zero_add _) (Nat.le_refl _)
          ⟨⟨_, Heap.get?_push_size _ rfl, rfl, rfl⟩, hl1.push _⟩ ?hA ?hB
        case hA =>
          have hg : ((s.heap.push (newSetQ w)).push { cls := .type "list_iterator", data := .fields #[.ref l, .int 0 0] }).get? s.heap.objs.size = some (newSetQ w) := Heap.get?_push_of_some _ hS
          refine ⟨_, #[], 0, _, [], hg, ⟨rfl, rfl, rfl⟩, rfl, (fun e he => by simp at he), ⟨⟨[], List.Perm.refl _, (fun p h => by cases h), rfl⟩, List.nodup_nil⟩, (fun k => by simp), (by decide), (by rfl), rfl, List.Pairwise.nil, ?_⟩
          show _ ∨ (!w.params.followText "set-order") = true
          cases w.params.followText "set-order" <;> simp
        case hB =>
          intro s' T' m' mv hT' le eq
          obtain ⟨h', g', d', tk', os'⟩ := s'
          have eg : g' = s.gens := mv.gens
          have ed : d' = s.drawn := mv.drawn
          have eo : os' = s.os := mv.os
          subst eg
          subst ed
          subst eo
          show wpAny _ _ _ _ _ _
          refine wpAny_pure ?_
          show wpAny _ _ (ret Value.none) _ _ _
          refine wpAny_pure ⟨rfl, h', tk', T', m', rfl, hT', by omega, fun k => by rw [eq k]; rfl, fun b o hb e => ?_⟩
          refine mv.heap b o ?_ (Heap.get?_push_of_some _ (Heap.get?_push_of_some _ e))
          simp only [List.mem_cons, List.not_mem_nil, or_false, not_or]
          exact ⟨Nat.ne_of_lt hb, by rw [Heap.size_push]; exact Nat.ne_of_lt (Nat.lt_succ_of_lt hb)⟩
      · cases r₂ with
        | error e => exact hr₂
        | ok fl₂ =>
          cases fl₂ with
          | ret r =>
            obtain ⟨rfl, hf⟩ := hr₂
            repeat (any_goals (first | assumption | wp_step))
            exact q _ hf
          | _ => exact hr₂.elim
    | _ => exact hr.elim
end
section
variable {X : Cx}
/-- set(a list of texts), to be gone through -/
def rSetTQ (K : PySem.W.Frag) (P : Program) (w : World) : List V → Hp → VK → Prop := fun xs H Q => ∃ (l : Addr) (zs : List Str), xs = [.ref l] ∧ SqL K H l (zs.map V.str) ∧ zs.length < 1000 ∧
  ∀ a n T, H a = none → n ≤ zs.length → (∀ k, T k = true ↔ ∃ z, k = Sum.inr z ∧ z ∈ zs) → Q (.ref a) (upd H a (SetQ P w a T n))
theorem cr_setTQ (K : PySem.W.Frag) (P : Program) (w : World) (hc : X.calm = true) (e : X.K = K := by rfl) (eP : X.prog = P := by rfl) (ew : X.w = w := by rfl) : CallR X (.type "set") (rSetTQ K P w) := by
  subst e
  subst eP
  subst ew
  intro pins s σ H xs us Q I r h
  obtain ⟨l, zs, rfl, hl, hf, q⟩ := h
  rw [Vals.ref1 r]
  obtain ⟨its, rv, pl, hz⟩ := I.list hl
  have rv : Vals ((zs.map Sum.inr).map kV) its := by
    rw [List.map_map]
    exact rv
  have hle : its.length = zs.length := by rw [← rv.length, List.length_map, List.length_map]
  have hn : H s.heap.objs.size = none := I.hok.fresh (Nat.le_refl _)
  refine call_set_keysQ (ks := zs.map Sum.inr) (I.ok.hd hc) pl.isList (by rw [List.size_toArray, hle, List.length_map]) (fun i v e => keys_vals rv i v (by simpa using e)) (by rw [List.length_map]; unfold scanBound; omega) fun s2 F => ?_
  obtain ⟨h', tk, T, m, rfl, hT, hm, eT, k⟩ := F
  rw [List.length_map] at hm
  refine ⟨.ref s.heap.objs.size, upd H s.heap.objs.size (SetQ X.prog X.w s.heap.objs.size T m), I.laid (t' := tk) (fun b o e => k b o (Heap.lt_size e) e) (Nat.le_refl _) (setQ_new hT), rfl, q _ m T hn hm fun z => ?_⟩
  rw [eT, List.any_eq_true]
  constructor
  · rintro ⟨x, hx, e⟩
    obtain ⟨z', hz', rfl⟩ := List.mem_map.mp hx
    exact ⟨z', of_decide_eq_true e, hz'⟩
  · rintro ⟨z', rfl, hz'⟩
    exact ⟨_, List.mem_map.mpr ⟨z', hz', rfl⟩, decide_eq_true rfl⟩
end
end Qk

/-! Qv: sorted(a set of texts), in, not in -/
namespace Qk
open PySem PySem.Spec PyProof.Rows L2
section
variable {P : Program} {w : World} {A : Around} {E : Value → Shared → Prop} {s : Shared} {a : Addr} {T : Key → Bool} {n : Nat} {Q : Value → Shared → Prop}
theorem strs_of : ∀ (l : List Value) (zs : List Str), l.length = zs.length → (∀ i (h : i < l.length) (h' : i < zs.length), ∃ tk, l[i] = .str zs[i] tk) → StrsAre l zs
  | [], [], _, _ => .nil
  | [], _ :: _, e, _ => by cases e
  | _ :: _, [], e, _ => by cases e
  | v :: l, z :: zs, e, h => by
    obtain ⟨tk, hv⟩ := h 0 (Nat.zero_lt_succ _) (Nat.zero_lt_succ _)
    have hv : v = .str z tk := hv
    subst hv
    exact .cons z tk (strs_of l zs (by simpa using e) fun i h1 h2 => h (i + 1) (Nat.succ_lt_succ h1) (Nat.succ_lt_succ h2))
/-- values whose keys are all texts -/
theorem strs_ex : ∀ (l : List Value), (∀ v ∈ l, ∃ z tk, v = .str z tk) → ∃ zs, StrsAre l zs
  | [], _ => ⟨[], .nil⟩
  | v :: l, h => by
    obtain ⟨z, tk, rfl⟩ := h v List.mem_cons_self
    obtain ⟨zs, hz⟩ := strs_ex l fun u hu => h u (List.mem_cons_of_mem _ hu)
    exact ⟨z :: zs, .cons z tk hz⟩
theorem strs_len {l : List Value} {zs : List Str} (h : StrsAre l zs) : zs.length = l.length := by
  induction h with
  | nil => rfl
  | cons y t r ih => simp [ih]
theorem is_text {z : Str} {v : Value} (h : (mixKind P w).is (Sum.inr z) v = true) : ∃ tk, v = .str z tk := by
  have h : keyIs (Sum.inr z) v = true := h
  have h : v.isStrOf z = true := h
  cases v <;> simp [Value.isStrOf] at h ⊢
  exact h
/-- the texts of values, found by their keys -/
theorem strs_keys : ∀ (l : List (Key × (Int × Value))), (∀ p ∈ l, (mixKind P w).is p.1 p.2.2 = true) → (∀ p ∈ l, ∃ z, p.1 = Sum.inr z) → ∃ zs, StrsAre (l.map (·.2.2)) zs ∧ l.map (·.1) = zs.map Sum.inr
  | [], _, _ => ⟨[], .nil, rfl⟩
  | p :: l, h1, h2 => by
    obtain ⟨z, ez⟩ := h2 p List.mem_cons_self
    have hi := h1 p List.mem_cons_self
    rw [ez] at hi
    obtain ⟨tk, ev⟩ := is_text hi
    obtain ⟨zs, hz, e⟩ := strs_keys l (fun q hq => h1 q (List.mem_cons_of_mem _ hq)) fun q hq => h2 q (List.mem_cons_of_mem _ hq)
    refine ⟨z :: zs, ?_, ?_⟩
    · rw [List.map_cons, ev]
      exact .cons z tk hz
    · rw [List.map_cons, ez, e]
      rfl
theorem StrsAre.perm {l l' : List Value} (pm : l.Perm l') : ∀ {zs : List Str}, StrsAre l zs → ∃ zs', StrsAre l' zs' ∧ zs.Perm zs' := by
  induction pm with
  | nil => intro zs h; exact ⟨zs, h, List.Perm.refl _⟩
  | cons x _ ih =>
    intro zs h
    cases h with
    | cons y t r =>
      obtain ⟨zs', h', p⟩ := ih r
      exact ⟨y :: zs', .cons y t h', p.cons y⟩
  | swap x y l =>
    intro zs h
    cases h with
    | cons a t r =>
      cases r with
      | cons b t' r => exact ⟨_, .cons b t' (.cons a t r), List.Perm.swap _ _ _⟩
  | trans _ _ ih1 ih2 =>
    intro zs h
    obtain ⟨z1, h1, p1⟩ := ih1 h
    obtain ⟨z2, h2, p2⟩ := ih2 h1
    exact ⟨z2, h2, p1.trans p2⟩
theorem sorted_setQ (R : KR P w s.heap a T n) (hh : A.handled = none) (hn : n < 64) (ht : ∀ k, T k = true → ∃ z, k = Sum.inr z)
    (q : ∀ (s' : Shared) (p : Nat) (out : Array Value) (c : Nat) (zs : List Str), (∀ (b : Addr) (o : Obj), s.heap.get? b = some o → s'.heap.get? b = some o) → s'.gens = s.gens → s'.os = s.os → s.heap.objs.size ≤ p →
      s'.heap.get? p = some (seqObj "list" out c) → StrsAre out.toList zs → sortedS zs = true → zs.Nodup → (∀ z, z ∈ zs ↔ T (Sum.inr z) = true) → zs.length = n → Q (.ref p) s') :
    wpAny (model P w) A (call (.builtin "sorted") [.ref a]) Q E s := by
  obtain ⟨o, es, ep, t, ks, ho, hx, hd, he, hk, hT, hsz, hf, hn', hr, hl⟩ := R
  obtain ⟨kes, pm, hi, ek⟩ := hk.ex
  refine Calls.call_function_entry kind_sorted plain_sorted entry_sorted (args_sorted1 _) ?_
  unfold Builtin.sorted
  refine wpAny_bind (wpAny_pure ?_)
  refine wpAny_bind (collect_set (by simpa using hh) ⟨o, ho, hx.1, hd⟩ hf hsz hr hl fun s1 out k1 z1 g1 o1 p1 => ?_)
  have hall : ∀ p ∈ kes, ∃ z, p.1 = Sum.inr z := fun p hp => ht _ ((hT _).mpr (by rw [← ek]; exact List.mem_map.mpr ⟨p, hp, rfl⟩))
  obtain ⟨zs, hz, ez⟩ := strs_keys kes hi hall
  have pv : (kes.map (·.2.2)).Perm out := by
    have := pm.map (·.2)
    rw [List.map_map] at this
    exact this.trans p1.symm
  obtain ⟨zs', hz', pz⟩ := StrsAre.perm pv hz
  have lo : out.length = n := by rw [p1.length_eq, List.length_map, Array.length_toList, hn']
  refine wpAny_bind (wpAny_newList ?_ (by rw [lo, sizeLine_eq]; omega))
  refine wpAny_bind (wpAny_holding ?_)
  have hp : (s1.heap.push { cls := Value.type "list", data := Data.seq out.toArray }).get? s1.heap.objs.size = some (seqObj "list" out.toArray 0) := Heap.get?_push_size _ rfl
  refine wpAny_call_entry slot_list_sort ⟨_, hp, rfl⟩ entry_list_sort ?_ (args_list_sort _)
  refine list_sort_treeK strKind_oneLt hp hz'.keysOf (fun v1 v2 rest e => by subst e; exact keyKind_strs hz') (by omega) fun st' pa so => ?_
  obtain ⟨ss, h1, h2, h3⟩ := sorted_out_str hz' pa so
  refine ⟨.none, rfl, ?_⟩
  refine wpAny_pure ⟨_, rfl, ?_⟩
  obtain ⟨c, hc⟩ := sortedHeap_at (out := Array.map (fun x => x.snd) (arrOf st')) hp
  have nds : ss.Nodup := by
    have nz : zs.Nodup := by
      have := hk.nd
      rw [← ek, ez] at this
      exact (List.pairwise_map.mp this).imp fun h e => h (by rw [e])
    exact (h2.trans pz.symm).nodup_iff.mpr nz
  refine q _ s1.heap.objs.size _ c ss (fun b u e => ?_) g1 o1 z1 hc h1 h3 nds (fun z => ?_) ?_
  · have e1 := k1 b u e
    have l1 := Heap.lt_size e1
    have e2 := sortedHeap_old (h := s1.heap.push { cls := Value.type "list", data := Data.seq out.toArray }) (vs := out) (out := Array.map (fun x => x.snd) (arrOf st')) (Nat.ne_of_lt l1) (by rw [size_push']; exact Nat.lt_succ_of_lt l1)
    exact e2.trans (Heap.get?_push_of_some _ e1)
  · rw [h2.mem_iff, ← pz.mem_iff, hT, ← ek, ez, List.mem_map]
    constructor
    · intro h
      exact ⟨z, h, rfl⟩
    · rintro ⟨z', h, e⟩
      injection e with e
      rw [← e]
      exact h
  · rw [h2.length_eq, strs_len hz', lo]
end
/-! ### the rules -/
def rSortQ (P : Program) (w : World) : List V → Hp → VK → Prop := fun xs H Q => ∃ (a : Addr) (T : Key → Bool) (n : Nat), xs = [.ref a] ∧ H a = some (SetQ P w a T n) ∧ n < 64 ∧ (∀ k, T k = true → ∃ z, k = Sum.inr z) ∧
  ∀ (zs : List Str) (p : Addr), sortedS zs = true → zs.Nodup → (∀ z, z ∈ zs ↔ T (Sum.inr z) = true) → zs.length = n → H p = none → Q (.ref p) (upd H p (.lst (zs.map V.str)))
section
variable {X : Cx}
theorem cr_sortQ (P : Program) (w : World) (hc : X.calm = true) (eP : X.prog = P := by rfl) (ew : X.w = w := by rfl) : CallR X (.builtin "sorted") (rSortQ P w) := by
  subst eP
  subst ew
  intro pins s σ H xs us Q I r h
  obtain ⟨a, T, n, rfl, ha, hn, ht, q⟩ := h
  rw [Vals.ref1 r]
  refine sorted_setQ (setQ_get I ha) (I.ok.hd hc) hn ht fun s' p out c zs k g o hp hg hi hs nd hm hl => ?_
  have hl' : (zs.map V.str).length ≤ sizeLine := by rw [List.length_map, hl, sizeLine_eq]; omega
  have hn : H p = none := I.hok.fresh hp
  obtain ⟨heap, gens, drawn, toks, os⟩ := s'
  have g : gens = s.gens := g
  have o : os = s.os := o
  subst g
  subst o
  have hob : ObjOk X.prog X.w (upd H p (.lst (zs.map V.str))) heap p (.lst (zs.map V.str)) := ⟨hl', out.toList, c, vals_of_strs hi, hg⟩
  have J := I.call (ch := []) (d' := drawn) (t' := toks) (g' := s.gens) (Un.laid k hp hn) (HOk.laid I.hok k hp hob) I.bare (fun x z => (by cases z))
  exact ⟨.ref p, upd H p (.lst (zs.map V.str)), J, rfl, q zs p hs nd hm hl hn⟩
def rInQ (P : Program) (w : World) (neg : Bool) : R2 := fun x y H Q => ∃ (k : Key) (a : Addr) (T : Key → Bool) (n : Nat), x = kV k ∧ y = .ref a ∧ H a = some (SetQ P w a T n) ∧ Q (.bl (if neg = true then !T k else T k)) H
theorem or_inQ : OpR X (compareOp .In) (rInQ X.prog X.w false) := by
  intro pins s σ H x y v u Q I rx ry h
  obtain ⟨k, a, T, n, rfl, rfl, ha, q⟩ := h
  have eu : u = .ref a := ry
  subst eu
  refine wpAny_inSet_of (knd := mixKind X.prog X.w) (kV_is rx) (key_scan rx) (setQ_get I ha).setOf ?_
  exact ⟨.bl (T k), H, I.tok _, rfl, q⟩
theorem or_notinQ : OpR X (compareOp .NotIn) (rInQ X.prog X.w true) := by
  intro pins s σ H x y v u Q I rx ry h
  obtain ⟨k, a, T, n, rfl, rfl, ha, q⟩ := h
  have eu : u = .ref a := ry
  subst eu
  refine wpAny_notInSet_of (knd := mixKind X.prog X.w) (kV_is rx) (key_scan rx) (setQ_get I ha).setOf ?_
  exact ⟨.bl (!T k), H, I.tok _, rfl, q⟩
end
/-! ### in, not in: lists, texts, sets of both kinds -/
def rInN (K : PySem.W.Frag) (P : Program) (w : World) : R2 := fun x y H Q => rInM K P w x y H Q ∨ rInQ P w false x y H Q
def rNotInN (K : PySem.W.Frag) (P : Program) (w : World) : R2 := fun x y H Q => rNotInM K P w x y H Q ∨ rInQ P w true x y H Q
def rSortN (K : PySem.W.Frag) (P : Program) (w : World) : List V → Hp → VK → Prop := fun xs H Q => rSortA K xs H Q ∨ rSortQ P w xs H Q
section
variable {X : Cx}
theorem op_inN (K : PySem.W.Frag) (P : Program) (w : World) (hu : X.A.units + 64 < cLine) (hu' : X.A.units + 65 < cLine) (e : X.K = K := by rfl) (eP : X.prog = P := by rfl) (ew : X.w = w := by rfl) : OpR X (compareOp .In) (rInN K P w) := by
  subst e
  subst eP
  subst ew
  intro pins s σ H x y v u Q I rx ry h
  rcases h with h | h
  · exact op_inM _ _ _ hu hu' rfl rfl rfl pins s σ H x y v u Q I rx ry h
  · exact or_inQ pins s σ H x y v u Q I rx ry h
theorem op_notinN (K : PySem.W.Frag) (P : Program) (w : World) (hu : X.A.units + 64 < cLine) (hu' : X.A.units + 65 < cLine) (e : X.K = K := by rfl) (eP : X.prog = P := by rfl) (ew : X.w = w := by rfl) : OpR X (compareOp .NotIn) (rNotInN K P w) := by
  subst e
  subst eP
  subst ew
  intro pins s σ H x y v u Q I rx ry h
  rcases h with h | h
  · exact op_notinM _ _ _ hu hu' rfl rfl rfl pins s σ H x y v u Q I rx ry h
  · exact or_notinQ pins s σ H x y v u Q I rx ry h
theorem cr_sortN (K : PySem.W.Frag) (P : Program) (w : World) (hc : X.calm = true) (c : CallR X (.builtin "sorted") (rSortA K)) (eP : X.prog = P := by rfl) (ew : X.w = w := by rfl) : CallR X (.builtin "sorted") (rSortN K P w) := by
  intro pins s σ H xs us Q I r h
  rcases h with h | h
  · exact c pins s σ H xs us Q I r h
  · exact cr_sortQ P w hc eP ew pins s σ H xs us Q I r h
end
section
variable {K : PySem.W.Frag} {P : Program} {w : World} {F : Hp} {O O' : Own} {H : Hp} {Q : VK} {x y v : V}
theorem g_inNM (q : rInM K P w x y H Q) : rInN K P w x y H Q := .inl q
theorem g_notinNM (q : rNotInM K P w x y H Q) : rNotInN K P w x y H Q := .inl q
theorem g_inNQ {a : Addr} {T : Key → Bool} {n : Nat} {k : Key} (ek : x = kV k) (h : H a = some (SetQ P w a T n)) (q : Q (.bl (T k)) H) : rInN K P w x (.ref a) H Q := .inr ⟨k, a, T, n, ek, rfl, h, q⟩
theorem g_notinNQ {a : Addr} {T : Key → Bool} {n : Nat} {k : Key} (ek : x = kV k) (h : H a = some (SetQ P w a T n)) (q : Q (.bl (!T k)) H) : rNotInN K P w x (.ref a) H Q := .inr ⟨k, a, T, n, ek, rfl, h, q⟩
theorem g_sortNA {xs : List V} (q : rSortA K xs H Q) : rSortN K P w xs H Q := .inl q
theorem g_sortNQ {a : Addr} {T : Key → Bool} {n : Nat} (h : H a = some (SetQ P w a T n)) (hn : n < 64) (ht : ∀ k, T k = true → ∃ z, k = Sum.inr z) (hH : Has F O H)
    (q : ∀ (zs : List Str) p H', sortedS zs = true → zs.Nodup → (∀ z, z ∈ zs ↔ T (Sum.inr z) = true) → zs.length = n → H p = none → Has F ((p, .lst (zs.map V.str)) :: O) H' → Q (.ref p) H') : rSortN K P w [.ref a] H Q :=
  .inr ⟨a, T, n, rfl, h, hn, ht, fun zs p s nd m l np => q zs p _ s nd m l np (hH.new np)⟩
theorem g_setOfQ {a : Addr} {zs : List Str} (h : H a = some (.lst (zs.map V.str))) (hl : zs.length < 1000) (hH : Has F O H) (q : ∀ p n T H', H p = none → n ≤ zs.length → (∀ k, T k = true ↔ ∃ z, k = Sum.inr z ∧ z ∈ zs) → Has F ((p, SetQ P w p T n) :: O) H' → Q (.ref p) H') : rSetTQ K P w [.ref a] H Q :=
  ⟨a, zs, rfl, SqL.of h, hl, fun p n T np le eT => q p n T _ np le eT (hH.new np)⟩
end
/-! ### min of two numbers -/
def rMin2 : List V → Hp → VK → Prop := fun xs H Q => ∃ i j, xs = [.int i, .int j] ∧ Q (.int (if j < i then j else i)) H
theorem cr_min2 {X : Cx} (hc : X.calm = true) : CallR X (.builtin "min") rMin2 := call_min2 hc
theorem g_min2 {i j : Int} {H : Hp} {Q : VK} (q : Q (.int (min i j)) H) : rMin2 [.int i, .int j] H Q := ⟨i, j, rfl, by
  have e : (if j < i then j else i) = min i j := by split <;> omega
  rw [e]
  exact q⟩
/-! ### any, all of a list of truth values -/
theorem cr_anyK {X : Cx} (K : PySem.W.Frag) (hc : X.calm = true) (e : X.K = K := by rfl) : CallR X (.builtin "any") (rAny K) := by subst e; exact cr_any hc
theorem cr_allK {X : Cx} (K : PySem.W.Frag) (hc : X.calm = true) (e : X.K = K := by rfl) : CallR X (.builtin "all") (rAll K) := by subst e; exact cr_all hc
theorem g_any {K : PySem.W.Frag} {a : Addr} {bs : List Bool} {H : Hp} {Q : VK} (h : H a = some (.lst (bs.map V.bl))) (q : Q (.bl (bs.any id)) H) : rAny K [.ref a] H Q := ⟨a, bs, rfl, SqL.of h, q⟩
theorem g_all {K : PySem.W.Frag} {a : Addr} {bs : List Bool} {H : Hp} {Q : VK} (h : H a = some (.lst (bs.map V.bl))) (q : Q (.bl (bs.all id)) H) : rAll K [.ref a] H Q := ⟨a, bs, rfl, SqL.of h, q⟩
end Qk

/-! Qz: loops over the keys of a dict (locked meanwhile), len of a dict, texts in order, reverse -/
namespace Qk
open PySem PySem.Spec PyProof.Rows L2
def kForK (d : Addr) (od : Obj) (kvs : List (Key × V)) (g : TG) (tb : TS) (D : Ends) (σ : L2.St) (H : Hp) : Prop := kW (Itk d od kvs) g tb D σ H
/-- the ends of a statement under a lock -/
def lockD (d : Addr) (od : Obj) (u : HO) (D : Ends) : Ends := ⟨fun σ' H' => H' d = some (.frz od u) ∧ D.nx σ' (upd H' d u), fun v H' => H' d = some (.frz od u) ∧ D.rt v (upd H' d u), fun σ' H' => H' d = some (.frz od u) ∧ D.bk σ' (upd H' d u), fun σ' H' => H' d = some (.frz od u) ∧ D.ct σ' (upd H' d u)⟩
def kForKx (g : TG) (tb : TS) (D : Ends) (σ : L2.St) (x : V) (H1 : Hp) : Prop := ∃ d o, x = .ref d ∧ ((∃ kvs, H1 d = some (.frz o (.dK kvs)) ∧ kForK d o kvs g tb D σ H1) ∨ ∃ kvs, H1 d = some (.frz o (.dT kvs)) ∧ kW (Itkt d o kvs) g tb D σ H1)
section
variable {K : PySem.W.Frag} {σ : L2.St} {F : Hp} {O O' : Own} {H : Hp} {Q : VK} {te : TE} {x y v : V} {D : Ends} {ts : TS} {g : TG} {d : Addr} {od : Obj} {kvs : List (Key × V)}
theorem g_forK (q : te σ H fun x H1 => kForKx g ts D σ x H1) : tFor (iKeys te) g ts D σ H := q
theorem g_kforKx (h : H d = some (.frz od (.dK kvs))) (q : kForK d od kvs g ts D σ H) : kForKx g ts D σ (.ref d) H := ⟨d, od, rfl, .inl ⟨kvs, h, q⟩⟩
theorem g_lockK {i : Nat} (hv : σ[i]? = some (some (.ref d))) (h : H d = some (.dK kvs)) (q : ∀ od, kForK d od kvs g ts (lockD d od (.dK kvs) D) σ (upd H d (.frz od (.dK kvs)))) : tLock (tFor (iKeys (tVar i)) g ts) D σ H :=
  ⟨d, .dK kvs, h, trivial, fun od => ⟨.ref d, hv, d, od, rfl, .inl ⟨kvs, upd_same, q od⟩⟩⟩
theorem k_forK (Pv : Nat → L2.St → Hp → Prop) (h0 : Pv 0 σ H) (hl : ∀ i σ H, Pv i σ H → H d = some (.frz od (.dK kvs)))
    (hs : ∀ i k v σ H, kvs[i]? = some (k, v) → Pv i σ H → g (kV k) σ H fun σ2 H2 => ts { D with nx := Pv (i + 1), ct := Pv (i + 1), bk := D.nx } σ2 H2) (hd : ∀ σ H, Pv kvs.length σ H → D.nx σ H) : kForK d od kvs g ts D σ H := by
  refine ⟨fun i m σ H => m = kvs.length - i ∧ i ≤ kvs.length ∧ Pv i σ H, ⟨_, rfl, Nat.zero_le _, h0⟩, ?_⟩
  rintro i m σ H1 ⟨rfl, hi, p⟩
  have hq := hl i σ H1 p
  by_cases hlt : i < kvs.length
  · refine .inr ⟨⟨hq, hlt⟩, Pv (i + 1), fun σ' H' p' => ⟨kvs.length - (i + 1), by omega, rfl, hlt, p'⟩, ?_⟩
    rintro x H' ⟨rfl, k, v, e, rfl⟩
    exact hs i k v σ _ e p
  · have e : i = kvs.length := by omega
    subst e
    exact .inl ⟨⟨hq, Nat.le_refl _⟩, hd σ H1 p⟩
end
/-! ### a locked thing -/
section
variable {F H H' : Hp} {O : Own} {d a : Addr} {od : Obj} {u o : HO} {kvs : List (Key × V)}
theorem Has.lock (h : Has F O H) (e : F d = some u) : Has (upd F d (.frz od u)) O (upd H d (.frz od u)) := by
  refine ⟨fun b v q => ?_, fun p hp => ?_, h.nd⟩
  · by_cases c : b = d
    · subst c
      rw [upd_same] at q ⊢
      exact q
    · rw [upd_ne c] at q ⊢
      exact h.same b v q
  · have f := h.own p hp
    have ne : p.1 ≠ d := fun z => by
      rw [z, e] at f
      cases f.1
    rw [upd_ne ne, upd_ne ne]
    exact f
theorem lock_at (e : H d = some u) (h : H a = some o) (ne : o ≠ u) : upd H d (.frz od u) a = some o := by
  rw [upd_ne (fun z => ?_)]
  · exact h
  · subst z
    rw [e] at h
    exact ne (Option.some.inj h).symm
theorem unlock_at (e : H' d = some (.frz od u)) (h : H' a = some o) (ne : o ≠ .frz od u) : upd H' d u a = some o := by
  rw [upd_ne (fun z => ?_)]
  · exact h
  · subst z
    rw [e] at h
    exact ne (Option.some.inj h).symm
theorem unlock_same (e : H d = some u) (s : Same (upd H d (.frz od u)) H') : Same H (upd H' d u) := fun b v q => by
  by_cases c : b = d
  · subst c
    rw [upd_same]
    rw [e] at q
    exact q
  · rw [upd_ne c]
    exact s b v (by rw [upd_ne c]; exact q)
theorem Has.unlock (h : Has F O H) (e : F d = some (.frz od u)) : Has (upd F d u) O (upd H d u) := by
  refine ⟨fun b v q => ?_, fun p hp => ?_, h.nd⟩
  · by_cases c : b = d
    · subst c
      rw [upd_same] at q ⊢
      exact q
    · rw [upd_ne c] at q ⊢
      exact h.same b v q
  · have f := h.own p hp
    have ne : p.1 ≠ d := fun z => by
      rw [z, e] at f
      cases f.1
    rw [upd_ne ne, upd_ne ne]
    exact f
end
mutual
theorem Dq.upL {H H' : Hp} (e1 : ∀ a xs, H a = some (.lst xs) → H' a = some (.lst xs)) (e2 : ∀ a xs, H a = some (.tup xs) → H' a = some (.tup xs)) : ∀ (d : PyData) (v : V), Dq H v d → Dq H' v d
  | _, _, .non => .non
  | _, _, .bl b => .bl b
  | _, _, .int i => .int i
  | _, _, .str x => .str x
  | .list ds, _, .lst s a => .lst (e1 _ _ s) (DqAll.upL e1 e2 ds _ a)
  | .tuple ds, _, .tup s a => .tup (e2 _ _ s) (DqAll.upL e1 e2 ds _ a)
theorem DqAll.upL {H H' : Hp} (e1 : ∀ a xs, H a = some (.lst xs) → H' a = some (.lst xs)) (e2 : ∀ a xs, H a = some (.tup xs) → H' a = some (.tup xs)) : ∀ (ds : List PyData) (vs : List V), DqAll H vs ds → DqAll H' vs ds
  | _, _, .nil => .nil
  | d :: ds, _, .cons h t => .cons (Dq.upL e1 e2 d _ h) (DqAll.upL e1 e2 ds _ t)
end
theorem DqAll.lockK {H : Hp} {d : Addr} {od : Obj} {kvs : List (Key × V)} (e : H d = some (.dK kvs)) {ds : List PyData} {vs : List V} (h : DqAll H vs ds) : DqAll (upd H d (.frz od (.dK kvs))) vs ds :=
  h.upL (fun a xs q => lock_at e q (fun z => by cases z)) (fun a xs q => lock_at e q (fun z => by cases z)) ds vs
/-! ### len, also of a dict -/
def rLenN (K : PySem.W.Frag) : List V → Hp → VK → Prop := fun xs H Q => rLen K xs H Q ∨ ∃ a kvs, xs = [V.ref a] ∧ H a = some (.dK kvs) ∧ Q (.int kvs.length) H
theorem cr_lenN {X : Cx} (K : PySem.W.Frag) (e : X.K = K := by rfl) : CallR X (.builtin "len") (rLenN K) := by
  subst e
  intro pins s σ H xs us Q I r h
  rcases h with h | h
  · exact cr_len pins s σ H xs us Q I r h
  · exact call_lenD pins s σ H xs us Q I r h
section
variable {K : PySem.W.Frag} {H : Hp} {Q : VK}
theorem g_lenNL {a : Addr} {xs : List V} (h : H a = some (.lst xs)) (q : Q (.int (xs.length : Int)) H) : rLenN K [.ref a] H Q := .inl (g_lenL h q)
theorem g_lenNT {a : Addr} {xs : List V} (h : H a = some (.tup xs)) (q : Q (.int (xs.length : Int)) H) : rLenN K [.ref a] H Q := .inl (g_lenT h q)
theorem g_lenNS {z : Str} (h : z.length ≤ sizeLine) (q : Q (.int (z.length : Int)) H) : rLenN K [.str z] H Q := .inl (g_lenS h q)
theorem g_lenND {a : Addr} {kvs : List (Key × V)} (h : H a = some (.dK kvs)) (q : Q (.int (kvs.length : Int)) H) : rLenN K [.ref a] H Q := .inr ⟨a, kvs, rfl, h, q⟩
end
/-! ### texts in order -/
def rLtA : R2 := fun x y H Q => (rI0 (fun i j => .bl (decide (i < j))) x y H Q) ∨ ∃ i j, x = .str i ∧ y = .str j ∧ Q (.bl (decide (i.cps.toList < j.cps.toList))) H
theorem op_ltA {X : Cx} : OpR X (compareOp .Lt) rLtA := by
  intro pins s σ H x y v u Q I rx ry h
  rcases h with h | h
  · exact op_lt pins s σ H x y v u Q I rx ry h
  · exact op_lt_str pins s σ H x y v u Q I rx ry h
theorem g_ltI {i j : Int} {H : Hp} {Q : VK} (q : Q (.bl (decide (i < j))) H) : rLtA (.int i) (.int j) H Q := .inl ⟨i, j, rfl, rfl, q⟩
theorem g_ltS {i j : Str} {H : Hp} {Q : VK} (q : Q (.bl (decide (i.cps.toList < j.cps.toList))) H) : rLtA (.str i) (.str j) H Q := .inr ⟨i, j, rfl, rfl, q⟩
/-! ### reverse -/
def rRevA : V → List V → Hp → VK → Prop := fun x vs H Q => ∃ l xs, x = .ref l ∧ vs = [] ∧ H l = some (.lst xs) ∧ Q .non (upd H l (.lst xs.reverse))
theorem mt_revA {X : Cx} : MtR X "list.reverse" rRevA := mt_reverse
theorem g_revA {F H : Hp} {O O' : Own} {Q : VK} {a : Addr} {xs : List V} (hH : Has F O H) (c : Chg O a (.lst xs) (.lst xs.reverse) O') (q : ∀ H', Has F O' H' → Q .non H') : rRevA (.ref a) [] H Q :=
  ⟨a, xs, rfl, rfl, hH.get c.mem, q _ (hH.put c)⟩
/-! ### list(range(n)) -/
def kLstRg (x : V) (H1 : Hp) (Q : VK) : Prop := ∃ n, x = .int n ∧ (RgOk 0 n ∧ ∀ q, H1 q = none → Q (.ref q) (upd H1 q (.lst (rgV 0 n))))
section
variable {σ : L2.St} {F : Hp} {O : Own} {H : Hp} {Q : VK} {ta : TE}
theorem g_lstRg (q : ta σ H fun x H1 => kLstRg x H1 Q) : tLstRg (tRg1 ta) σ H Q := q
theorem g_kLstRg {n : Nat} (hn : n ≤ 1000) (hH : Has F O H) (q : ∀ p H', H p = none → Has F ((p, .lst ((List.range n).map fun (a : Nat) => V.int (a : Int))) :: O) H' → Q (.ref p) H') : kLstRg (.int (n : Int)) H Q := by
  refine ⟨n, rfl, RgOk.of_le (by omega) (by omega) (by omega) (by omega), fun p np => q p _ np ?_⟩
  have e : rgV 0 (n : Int) = (List.range n).map fun (a : Nat) => V.int (a : Int) := by
    unfold rgV
    have : ((n : Int) - 0).toNat = n := by omega
    rw [this]
    apply List.map_congr_left
    intro a _
    rw [Int.zero_add]
  rw [e]
  exact hH.new np
end
/-! ### dicts read whether locked or not -/
section
variable {K : PySem.W.Frag} {P : Program} {w : World} {H : Hp} {Q : VK} {a : Addr} {kvs : List (Key × V)} {i : Str} {v : V}
theorem g_ixDR (h : Rd H a (.dK kvs)) (hv : valV kvs (.inr i) = some v) (q : Q v H) : rIxA K (.ref a) (.str i) H Q := .inr ⟨a, v, rfl, .inl ⟨kvs, .inr i, h, rfl, hv.symm⟩, q⟩
theorem g_inSR (h : Rd H a (.dK kvs)) (q : Q (.bl (valV kvs (.inr i)).isSome) H) : rInA K (.str i) (.ref a) H Q := .inl (.inr ⟨a, _, rfl, .inl ⟨kvs, .inr i, h, rfl, rfl⟩, q⟩)
theorem g_notinSR (h : Rd H a (.dK kvs)) (q : Q (.bl (!(valV kvs (.inr i)).isSome)) H) : rNotInA K (.str i) (.ref a) H Q := .inl (.inr ⟨a, _, rfl, .inl ⟨kvs, .inr i, h, rfl, rfl⟩, q⟩)
end
end Qk

/-! Qd: a set comprehension of keys with two clauses; set.add; a dict comprehension stored under a name -/
namespace Qk
open PySem PySem.Spec PyProof.Rows L2
theorem kr_fresh (P : Program) (w : World) {h : Heap} : KR P w (h.push (newSetQ w)) h.objs.size (fun _ => false) 0 := by
  refine ⟨_, #[], 0, _, [], Heap.get?_push_size _ rfl, ⟨rfl, rfl, rfl⟩, rfl, (fun e he => by simp at he), ⟨⟨[], List.Perm.refl _, (fun p h => by cases h), rfl⟩, List.nodup_nil⟩, (fun k => by simp), (by decide), (by rfl), rfl, List.Pairwise.nil, ?_⟩
  show _ ∨ (!w.params.followText "set-order") = true
  cases w.params.followText "set-order" <;> simp
theorem newSetQ_ok {P : Program} {w : World} {A : Around} {E : Value → Shared → Prop} {s : Shared} {Q : Value → Shared → Prop} (h : Q (.ref s.heap.objs.size) { s with heap := s.heap.push (newSetQ w) }) : wpAny (model P w) A (newSet (.type "set")) Q E s := PpSet.newSet_ok h
/-- a.add(x) of a key -/
theorem kq_add {P : Program} {w : World} {A : Around} {E : Value → Shared → Prop} {s : Shared} {a : Addr} {T : Key → Bool} {n : Nat} {k : Key} {x : Value} {Q : Value → Shared → Prop} (his : (mixKind P w).is k x = true) (hsc : x.scannable = true) (R : KR P w s.heap a T n) (room : n + 1 < scanBound)
    (q : ∀ h', Heap.SameBut a s.heap h' → KR P w h' a (fun k' => T k' || decide (k' = k)) (if T k = true then n else n + 1) → Q .none { s with heap := h', toks := s.toks + 1 }) : wpAny (model P w) A (call (.builtin "set.add") [.ref a, x]) Q E s := by
  refine wpAny_call_entry F.slot_set_add R.setOf.typeIs F.entry_set_add ?_ (F.args_set_add_2 _ _)
  unfold Builtin.«set.add» Builtin.Frozenset.oneOther
  simp only [List.isEmpty_nil, bind_assoc]
  unfold Builtin.Frozenset.addrOf setAdd
  refine wpAny_bind (wpAny_pure ?_)
  try dsimp only
  refine wpAny_bind (wpAny_pure ?_)
  try dsimp only
  refine wpAny_bind ?_
  refine wpAny_holding ?_
  refine wpAny_bind ((mixKind P w).pyHash his ?_)
  refine kr_add (s := { s with toks := s.toks + 1 }) his hsc R room fun h' sb r => ?_
  show wpAny _ _ (ret Value.none) _ _ _
  exact wpAny_pure ⟨_, rfl, q h' sb r⟩
theorem addQ_ok {X : Cx} {pins : List (Addr × Obj)} {σ : L2.St} {H : Hp} {s : Shared} {E : Value → Shared → Prop} {D : Addr} {T : Key → Bool} {n : Nat} {k : Key} {u : Value} {Q : Value → Shared → Prop} (I : Inv X pins σ H s) (hD : H D = some (SetQ X.prog X.w D T n)) (ru : RelV (kV k) u) (room : n + 1 < scanBound)
    (q : ∀ s', Inv X pins σ (upd H D (SetQ X.prog X.w D (fun k' => T k' || decide (k' = k)) (if T k = true then n else n + 1))) s' → Q .none s') : wpAny (model X.prog X.w) X.A (call (.builtin "set.add") [.ref D, u]) Q E s := by
  refine kq_add (kV_is ru) (key_scan ru) (setQ_get I hD) room fun h' sb new => ?_
  have he : ∃ o, h'.get? D = some o := by
    obtain ⟨o, _, _, _, _, ho, _⟩ := id new
    exact ⟨o, ho⟩
  exact q _ (I.write (e := D) (t' := s.toks + 1) (by rw [hD]; trivial) (.inl rfl) (fun b o hb e => (sb.2 b hb).trans e) he (setQ_new new))
theorem compTurnS2_out (el ta ia tb ib : Expr) (fa fb : List Expr) (sco : Scope) (pos : Pos) (itr ac : Value) (env : Env) :
    compTurn (.SetComp el [⟨ta, ia, fa, 0⟩, ⟨tb, ib, fb, 0⟩] sco pos) 0 itr ac env = (do
      standAt ia.pos
      match ← pyNext itr with
      | none => pure (.done .next)
      | some v =>
        letOwnedTupleGo ta itr v
        assign ta env v
        let mut ok := true
        for c in fa do
          if ok then ok ← isTrue c env (eval c env)
        if ok then
          let x ← eval ib env
          standAt ib.pos
          let x ← foldedSetIterable ib env x
          let _ ← runOwn (.compStart (.SetComp el [⟨ta, ia, fa, 0⟩, ⟨tb, ib, fb, 0⟩] sco pos) 1 (← holding [x] (pyIter x)) ac env) env
        again (.compLoop (.SetComp el [⟨ta, ia, fa, 0⟩, ⟨tb, ib, fb, 0⟩] sco pos) 0 itr ac env)) := by rfl
theorem compTurnS2_in (el ta ia tb ib : Expr) (fa fb : List Expr) (sco : Scope) (pos : Pos) (itr ac : Value) (env : Env) :
    compTurn (.SetComp el [⟨ta, ia, fa, 0⟩, ⟨tb, ib, fb, 0⟩] sco pos) 1 itr ac env = (do
      standAt ib.pos
      match ← pyNext itr with
      | none => pure (.done .next)
      | some v =>
        letOwnedTupleGo tb itr v
        assign tb env v
        let mut ok := true
        for c in fb do
          if ok then ok ← isTrue c env (eval c env)
        if ok then
          (do let v ← eval el env; standAt el.pos; let _ ← call (.builtin "set.add") [ac, v])
        again (.compLoop (.SetComp el [⟨ta, ia, fa, 0⟩, ⟨tb, ib, fb, 0⟩] sco pos) 1 itr ac env)) := by rfl

section
variable {prog : Program} {w : World} {A : Around} {R : Result → Shared → Prop} {s : Shared} {el ta ia tb ib : Expr} {fa fb : List Expr} {sco : Scope} {pos : Pos} {itr ac : Value} {env : Env}
/-- the loop of the first clause -/
theorem compLoopS2_out (hs : ∀ x, foldedSetIterable ib env x = pure x) (I : Nat → Shared → Prop)
    (trn : ∀ n s, I n s → wpAny (model prog w) A (pyNext itr) (fun r s₁ => match r with
      | none => R (.ok .next) s₁
      | some v => wpAny (model prog w) A (letOwnedTupleGo ta itr v) (fun _ s₁' => wpAny (model prog w) A (assign ta env v) (fun _ s₂ =>
          wpAny (model prog w) A (forIn fa true fun c r => if r = true then do let ok ← isTrue c env (eval c env); pure (ForInStep.yield ok) else pure (ForInStep.yield r)) (fun ok s₃ =>
            if ok = true then wpAny (model prog w) A (eval ib env) (fun x s₄ => wpAny (model prog w) A (pyIter x) (fun it1 s₅ =>
              codeAny (model prog w) A (.compStart (.SetComp el [⟨ta, ia, fa, 0⟩, ⟨tb, ib, fb, 0⟩] sco pos) 1 it1 ac env) (fun r s' => match r with
                | .ok _ => ∃ m, m < n ∧ I m s'
                | .error _ => False) s₅) (notedBy (model prog w) A env fun e s' => R (.error e) s') s₄) (notedBy (model prog w) A env fun e s' => R (.error e) s') s₃
            else ∃ m, m < n ∧ I m s₃) (notedBy (model prog w) A env fun e s' => R (.error e) s') s₂) (notedBy (model prog w) A env fun e s' => R (.error e) s') s₁') (notedBy (model prog w) A env fun e s' => R (.error e) s') s₁) (notedBy (model prog w) A env fun e s' => R (.error e) s') s)
    (n : Nat) (h : I n s) :
    codeAny (model prog w) A (.compLoop (.SetComp el [⟨ta, ia, fa, 0⟩, ⟨tb, ib, fb, 0⟩] sco pos) 0 itr ac env) R s := by
  refine codeAny_loop rfl I (fun n s hI => ?_) n h
  show wpAny _ A ((compTurn (.SetComp el [⟨ta, ia, fa, 0⟩, ⟨tb, ib, fb, 0⟩] sco pos) 0 itr ac env).onRaise (fun x => do noteFrame x env; theTreesLotGoes x)) _ _ s
  refine wpAny_noted ?_
  rw [compTurnS2_out]
  refine wpAny_bind (wpAny_standAt (wpAny_bind (wpAny_mono (trn n s hI) (fun r s₁ h₁ => ?_) fun _ _ h' => h')))
  cases r with
  | none => exact wpAny_pure h₁
  | some v =>
    refine wpAny_bind (wpAny_mono h₁ (fun _ s₁' h₁' => ?_) fun _ _ h' => h')
    refine wpAny_bind (wpAny_mono h₁' (fun _ s₂ h₂ => wpAny_bind (wpAny_mono h₂ (fun ok s₃ h₃ => ?_) fun _ _ h' => h')) fun _ _ h' => h')
    cases ok with
    | false => exact wpAny_pure ⟨rfl, h₃⟩
    | true =>
      refine wpAny_bind (wpAny_mono h₃ (fun x s₄ h₄ => ?_) fun _ _ h' => h')
      refine wpAny_bind (wpAny_standAt (wpAny_bind (wpAny_of_eq (hs x) (wpAny_bind (wpAny_holding (wpAny_mono h₄ (fun it1 s₅ h₅ => ?_) fun _ _ h' => h'))))))
      refine wpAny_bind (wpAny_runOwn ?_)
      rw [Around.mark_none]
      refine codeAny_mono h₅ fun r s' hr => ?_
      cases r with
      | ok f =>
        first
          | exact wpAny_pure ⟨rfl, hr⟩
          | exact wpAny_bind (wpAny_pure (wpAny_pure ⟨rfl, hr⟩))
      | error e => exact hr.elim
/-- the loop of the second -/
theorem compLoopS2_in (I : Nat → Shared → Prop)
    (trn : ∀ n s, I n s → wpAny (model prog w) A (pyNext itr) (fun r s₁ => match r with
      | none => R (.ok .next) s₁
      | some v => wpAny (model prog w) A (letOwnedTupleGo tb itr v) (fun _ s₁' => wpAny (model prog w) A (assign tb env v) (fun _ s₂ =>
          wpAny (model prog w) A (forIn fb true fun c r => if r = true then do let ok ← isTrue c env (eval c env); pure (ForInStep.yield ok) else pure (ForInStep.yield r)) (fun ok s₃ =>
            if ok = true then wpAny (model prog w) A (eval el env) (fun x s₄ =>
              wpAny (model prog w) A (call (.builtin "set.add") [ac, x]) (fun _ s₅ => ∃ m, m < n ∧ I m s₅) (notedBy (model prog w) A env fun e s' => R (.error e) s') s₄) (notedBy (model prog w) A env fun e s' => R (.error e) s') s₃
            else ∃ m, m < n ∧ I m s₃) (notedBy (model prog w) A env fun e s' => R (.error e) s') s₂) (notedBy (model prog w) A env fun e s' => R (.error e) s') s₁') (notedBy (model prog w) A env fun e s' => R (.error e) s') s₁) (notedBy (model prog w) A env fun e s' => R (.error e) s') s)
    (n : Nat) (h : I n s) :
    codeAny (model prog w) A (.compLoop (.SetComp el [⟨ta, ia, fa, 0⟩, ⟨tb, ib, fb, 0⟩] sco pos) 1 itr ac env) R s := by
  refine codeAny_loop rfl I (fun n s hI => ?_) n h
  show wpAny _ A ((compTurn (.SetComp el [⟨ta, ia, fa, 0⟩, ⟨tb, ib, fb, 0⟩] sco pos) 1 itr ac env).onRaise (fun x => do noteFrame x env; theTreesLotGoes x)) _ _ s
  refine wpAny_noted ?_
  rw [compTurnS2_in]
  refine wpAny_bind (wpAny_standAt (wpAny_bind (wpAny_mono (trn n s hI) (fun r s₁ h₁ => ?_) fun _ _ h' => h')))
  cases r with
  | none => exact wpAny_pure h₁
  | some v =>
    refine wpAny_bind (wpAny_mono h₁ (fun _ s₁' h₁' => ?_) fun _ _ h' => h')
    refine wpAny_bind (wpAny_mono h₁' (fun _ s₂ h₂ => wpAny_bind (wpAny_mono h₂ (fun ok s₃ h₃ => ?_) fun _ _ h' => h')) fun _ _ h' => h')
    cases ok with
    | false => exact wpAny_pure ⟨rfl, h₃⟩
    | true =>
      exact wpAny_bind (wpAny_bind (wpAny_mono h₃ (fun x s₄ h₄ => wpAny_bind (wpAny_standAt (wpAny_bind (wpAny_mono h₄ (fun _ s₅ h₅ => wpAny_pure (wpAny_pure ⟨rfl, h₅⟩)) fun _ _ h' => h')))) fun _ _ h' => h'))
/-- the second clause's start -/
theorem compStartS1_ok (h0 : codeAny (model prog w) A (.compLoop (.SetComp el [⟨ta, ia, fa, 0⟩, ⟨tb, ib, fb, 0⟩] sco pos) 1 itr ac env) R s)
    (h : wpAny (model prog w) A (pyIter itr) (fun it' s' => codeAny (model prog w) A (.compLoop (.SetComp el [⟨ta, ia, fa, 0⟩, ⟨tb, ib, fb, 0⟩] sco pos) 1 it' ac env) R s')
      (notedBy (model prog w) A env fun x s' => R (.error x) s') s) :
    codeAny (model prog w) A (.compStart (.SetComp el [⟨ta, ia, fa, 0⟩, ⟨tb, ib, fb, 0⟩] sco pos) 1 itr ac env) R s := by
  refine codeAny_of_tree ?_
  show wpAny _ _ ((compStart (.SetComp el [⟨ta, ia, fa, 0⟩, ⟨tb, ib, fb, 0⟩] sco pos) 1 itr ac env).onRaise (fun x => do noteFrame x env; standAt theWindowsPlace)) _ _ s
  refine wpAny_notedAt ?_
  unfold compStart
  show wpAny _ _ (ask >>= _) _ _ s
  refine wpAny_bind (wpAny_askSetting (wpAny_ite ?_))
  split
  · first
      | exact wpAny_bind (wpAny_pure (wpAny_pure (And.intro rfl h0)))
      | exact wpAny_pure (And.intro rfl h0)
  · first
      | exact wpAny_bind (wpAny_rule (wpAny_bind (wpAny_standAt (wpAny_bind (wpAny_mono h (fun it' s' h' => wpAny_pure (And.intro rfl h')) fun _ _ x => x)))))
      | (refine wpAny_bind (wpAny_rule ?_); show wpAny _ _ (standAt ib.pos >>= _) _ _ s; exact wpAny_bind (wpAny_standAt (wpAny_bind (wpAny_mono h (fun it' s' h' => wpAny_pure (And.intro rfl h')) fun _ _ x => x))))
end

section
variable {X : Cx}
/-- [el for tg in ita if .. for tgb in itb if ..]: behind the first clause's store and tests the second source's own loop, from which Nx is reached. vs: the block's names; vs1: those of the second target -/
def tSc2 (P : Program) (w : World) (wi : TI) (g : TG) (tt : TT) (wib : TI) (gb : TG) (ttb : TT) (te : TE) (vs vs1 : List Nat) : TE := fun σ H Q => wi σ H fun J H1 => ∀ D, H1 D = none → ∃ W : Nat → Nat → Hp → Prop, (∃ m, W 0 m (upd H1 D (SetQ P w D (fun _ => false) 0))) ∧ ∀ i m H, W i m H →
  (J.stop i H ∧ Q (.ref D) H) ∨ (J.go i H ∧ ∃ Nx : Hp → Prop, (∀ H', Nx H' → ∃ m', m' < m ∧ W (i + 1) m' H') ∧ ∀ x H', J.yld i H x H' → g x (wipe σ vs) H' fun σ2 H2 => wipe σ2 vs = wipe σ vs ∧ tt σ2 H2 fun b H3 =>
    if b = true then ∃ (d : Addr) (u : HO), H3 d = some u ∧ Mut (some u) ∧ ∀ od, wib σ2 (upd H3 d (.frz od u)) fun J1 H4 => ∃ W1 : Nat → Nat → Hp → Prop, (∃ m, W1 0 m H4) ∧ ∀ j k H, W1 j k H →
      (J1.stop j H ∧ H d = some (.frz od u) ∧ Nx (upd H d u)) ∨ (J1.go j H ∧ ∃ Nx1 : Hp → Prop, (∀ H', Nx1 H' → ∃ k', k' < k ∧ W1 (j + 1) k' H') ∧ ∀ x H', J1.yld j H x H' → gb x (wipe σ2 vs1) H' fun σ3 H5 => wipe σ3 vs1 = wipe σ2 vs1 ∧ ttb σ3 H5 fun b H6 =>
        if b = true then te σ3 H6 fun y H7 => ∃ (k : Key) (T : Key → Bool) (n : Nat), y = kV k ∧ H7 D = some (SetQ P w D T n) ∧ n + 1 < scanBound ∧ Nx1 (upd H7 D (SetQ P w D (fun k' => T k' || decide (k' = k)) (if T k = true then n else n + 1))) else Nx1 H6)
    else Nx H3)
theorem sc2_core {pins : List (Addr × Obj)} {s : Shared} {σ : L2.St} {H : Hp} {Q : VK} {el tg ita tgb itb : Expr} {fs fb : List Expr} {sco : Scope} {own : List (Str × Nat)} {vs1 : List Nat} {pos pos' : Pos} {wi wib : TI} {g gb : TG} {tt ttb : TT} {te : TE} {use : Option (Value → Sem Unit)} {Qf : Value → Shared → Prop}
    (hc : X.calm = true) (hN : X.N.Nodup) (I : Inv X pins σ H s) (hi : PI X tg ita wi) (ok : BlkOk X.N X.env.scope sco own) (hv : ∀ i ∈ vs1, i ∈ own.map (·.2))
    (hg : ∀ (s : Shared) (H : Hp) (C : Addr) (cl : List (Str × Addr)) (fp : List Addr), PG (X.blk s H sco (compEnvC sco cl C X.env) fp) tg g) (ht : ∀ (s : Shared) (H : Hp) (C : Addr) (cl : List (Str × Addr)) (fp : List Addr), PTs (X.blk s H sco (compEnvC sco cl C X.env) fp) fs tt)
    (he : ∀ (s : Shared) (H : Hp) (C : Addr) (cl : List (Str × Addr)) (fp : List Addr), PE (X.blk s H sco (compEnvC sco cl C X.env) fp) el te) (hs : ∀ x, foldedSetIterable ita X.env x = pure x)
    (hi1 : ∀ (s : Shared) (H : Hp) (C : Addr) (cl : List (Str × Addr)) (fp : List Addr), PI (X.blk s H sco (compEnvC sco cl C X.env) fp) tgb itb wib)
    (hg1 : ∀ (s : Shared) (H : Hp) (C : Addr) (cl : List (Str × Addr)) (fp : List Addr), PG (X.blk s H sco (compEnvC sco cl C X.env) fp) tgb gb)
    (ht1 : ∀ (s : Shared) (H : Hp) (C : Addr) (cl : List (Str × Addr)) (fp : List Addr), PTs (X.blk s H sco (compEnvC sco cl C X.env) fp) fb ttb)
    (hs1 : ∀ env x, foldedSetIterable itb env x = pure x)
    (h : tSc2 X.prog X.w wi g tt wib gb ttb te (own.map (·.2)) vs1 σ H Q)
    (hRR : ∀ D C s' m H', Inv X pins σ H' s' → Q (.ref D) H' → s'.heap.Ns C m → FpOk X pins H' C → compPost (model X.prog X.w) X.A X.xe use Qf (.ref D) C (.ok .next) s') :
    wpAny (model X.prog X.w) X.A (comprehension (.SetComp el [⟨tg, ita, fs, 0⟩, ⟨tgb, itb, fb, 0⟩] sco pos) sco X.env pos' (newSet (.type "set")) false (eval ita X.env) use) Qf X.xe s := by
  have freeC : ∀ y ∈ sco.names, y.2 = .free → ∃ c, X.env.cells.lookup y.1 = some c := fun y hy e => by
    rcases ok.free y hy e with k | k
    · exact I.ok.has _ (.inl k)
    · exact I.ok.has _ (.inr k)
  refine wpAny_comprehension_free (use := use) rfl hs (closure_ok freeC) ok.kind (fun y hy e => by rw [ok.uniq y hy, e])
    (thn (hi.run pins s σ H _ I h) fun xv s1 hx => thn hx fun itv s2 h2 => ?_)
  obtain ⟨itr, fp, tn, J, H2, e, I2, T, st2, f2, q⟩ := h2
  subst e
  refine newSetQ_ok (newEnv_comp ?_)
  generalize hD : s2.heap.objs.size = D
  have hDn : H2 D = none := I2.hok.fresh (Nat.le_of_eq hD)
  obtain ⟨W, ⟨m0, w0⟩, trn⟩ := q D hDn
  -- the new list
  generalize hs3 : ({ s2 with heap := s2.heap.push (newSetQ X.w) } : Shared) = s3
  have I3 : Inv X pins σ (upd H2 D (SetQ X.prog X.w D (fun _ => false) 0)) s3 := by
    rw [← hs3]
    refine I2.laid (t' := s2.toks) (fun b o e => Heap.get?_push_of_some _ e) (Nat.le_of_eq hD) ?_
    rw [← hD]
    exact setQ_new (kr_fresh X.prog X.w)
  have h3 : s3.heap = s2.heap.push (newSetQ X.w) := by rw [← hs3]
  have sz : ∀ b ∈ fp, b < s2.heap.objs.size := fun b hb => by
    obtain ⟨o, e, _⟩ := T.obj _ _ st2 b hb
    exact Heap.lt_size e
  have f3 : ∀ b ∈ fp, FpOk X pins (upd H2 D (SetQ X.prog X.w D (fun _ => false) 0)) b ∧ b < s3.heap.objs.size := fun b hb => by
    have hlt := sz b hb
    refine ⟨⟨?_, (f2 b hb).2⟩, by rw [h3, Heap.size_push]; exact Nat.lt_succ_of_lt hlt⟩
    rw [upd_ne (by rw [← hD]; exact Nat.ne_of_lt hlt)]
    exact (f2 b hb).1
  have st3 : tn 0 s3.heap := T.keep _ _ _ st2 fun b _ o e => by rw [h3]; exact Heap.get?_push_of_some _ e
  have I4 := block_start I3 ok hN f3
  have qg := hg s3 (upd H2 D (SetQ X.prog X.w D (fun _ => false) 0)) s3.heap.objs.size (cellsFrom (s3.heap.objs.size + 1) sco.names (cloFrom X.env.cells sco.names [])) fp
  have qt := ht s3 (upd H2 D (SetQ X.prog X.w D (fun _ => false) 0)) s3.heap.objs.size (cellsFrom (s3.heap.objs.size + 1) sco.names (cloFrom X.env.cells sco.names [])) fp
  have qe := he s3 (upd H2 D (SetQ X.prog X.w D (fun _ => false) 0)) s3.heap.objs.size (cellsFrom (s3.heap.objs.size + 1) sco.names (cloFrom X.env.cells sco.names [])) fp
  have qib := hi1 s3 (upd H2 D (SetQ X.prog X.w D (fun _ => false) 0)) s3.heap.objs.size (cellsFrom (s3.heap.objs.size + 1) sco.names (cloFrom X.env.cells sco.names [])) fp
  have qgb := hg1 s3 (upd H2 D (SetQ X.prog X.w D (fun _ => false) 0)) s3.heap.objs.size (cellsFrom (s3.heap.objs.size + 1) sco.names (cloFrom X.env.cells sco.names [])) fp
  have qtb := ht1 s3 (upd H2 D (SetQ X.prog X.w D (fun _ => false) 0)) s3.heap.objs.size (cellsFrom (s3.heap.objs.size + 1) sco.names (cloFrom X.env.cells sco.names [])) fp
  show codeAny _ _ (.compStart (.SetComp el [⟨tg, ita, fs, 0⟩, ⟨tgb, itb, fb, 0⟩] sco pos) 0 (.ref itr) (.ref D) (compEnvC sco (cellsFrom (s3.heap.objs.size + 1) sco.names (cloFrom X.env.cells sco.names [])) s3.heap.objs.size X.env)) (compPost (model X.prog X.w) X.A X.xe use Qf (.ref D) s3.heap.objs.size) { s3 with heap := pushCells (s3.heap.push { cls := .type "dict", data := .dict #[] }) sco.names }
  have noFp : ∀ b ∈ fp, (upd H2 D (SetQ X.prog X.w D (fun _ => false) 0)) b = none := fun b hb => (f3 b hb).1.1
  generalize hce : compEnvC sco (cellsFrom (s3.heap.objs.size + 1) sco.names (cloFrom X.env.cells sco.names [])) s3.heap.objs.size X.env = ce at I4 qg qt qe qib qgb qtb ⊢
  have cL : ce.locals = s3.heap.objs.size := by subst hce; rfl
  generalize hH3 : upd H2 D (SetQ X.prog X.w D (fun _ => false) 0) = H3 at I3 I4 qg qt qe qib qgb qtb w0 noFp f3
  generalize hs4 : ({ s3 with heap := pushCells (s3.heap.push { cls := .type "dict", data := .dict #[] }) sco.names } : Shared) = s4 at I4 ⊢
  have st4 : tn 0 s4.heap := T.keep _ _ _ st3 fun b _ o e => by rw [← hs4]; exact pushCells_keeps _ _ _ _ (Heap.get?_push_of_some _ e)
  have still : ∀ {σ' : L2.St} {H' : Hp} {s' : Shared}, Inv (X.blk s3 H3 sco ce fp) [] σ' H' s' → (∀ b ∈ fp, H' b = none) → ∀ b ∈ fp, FpOk (X.blk s3 H3 sco ce fp) [] H' b := fun {σ' H' s'} I' hn b hb =>
    ⟨hn b hb, (I'.ok.exf b hb).1, I'.ok.exfs b hb, .inl hb, fun x c e => (I'.ok.exf b hb).2 x c e, fun p hp => absurd (show p ∈ ([] : List (Addr × Obj)) ++ [] from hp) (by simp)⟩
  have loop : codeAny (model X.prog X.w) X.A (.compLoop (.SetComp el [⟨tg, ita, fs, 0⟩, ⟨tgb, itb, fb, 0⟩] sco pos) 0 (.ref itr) (.ref D) ce) (compPost (model X.prog X.w) X.A X.xe use Qf (.ref D) s3.heap.objs.size) s4 := by
    refine compLoopS2_out (hs1 ce) (fun n s' => ∃ i H', Inv (X.blk s3 H3 sco ce fp) [] (wipe σ (own.map (·.2))) H' s' ∧ tn i s'.heap ∧ (∀ b ∈ fp, H' b = none) ∧ W i n H') ?_ m0 ⟨0, H3, I4, st4, noFp, w0⟩
    rintro n s5 ⟨i, H5, I5, st5, n5, w5⟩
    rcases trn i n H5 w5 with ⟨stop, qq⟩ | ⟨go, Nx, hNx, step⟩
    · have td := T.done (X.blk s3 H3 sco ce fp) rfl rfl rfl hc i [] s5 _ H5 (fun _ _ => False) I5 (still I5 n5) st5 stop
      refine thnF td fun r s6 ⟨hr, I6⟩ => ?_
      subst hr
      -- back in the def's context
      have I7 : Inv X pins σ H5 s6 := I3.call' (ch := fp) I6.os I6.base I6.hok I6.bare fun b hb => ⟨(f3 b hb).1.2.2.2.1, (f3 b hb).1.2.1, (f3 b hb).1.2.2.2.2.1, (f3 b hb).1.2.2.2.2.2⟩
      have nC : H5 s3.heap.objs.size = none := by
        have z : H5 ce.locals = none := I6.free
        rw [cL] at z
        exact z
      obtain ⟨m, hn, _⟩ := I6.loc
      have hn : s6.heap.Ns ce.locals m := hn
      rw [cL] at hn
      exact hRR D s3.heap.objs.size s6 m H5 I7 qq hn (I3.fpOk (Nat.le_refl _) nC)
    · have ti := T.item (X.blk s3 H3 sco ce fp) rfl rfl rfl hc i [] s5 _ H5 (fun _ _ => False) I5 (still I5 n5) st5 go
      refine thnF ti fun r s6 ⟨u, hr, h6⟩ => ?_
      subst hr
      refine thnF h6 fun _ s7 ⟨x, H7, I7, r7, y7, st7, n7⟩ => ?_
      have I7' := I7.pinned (still I7 n7) (T.obj _ _ st7)
      refine thnF (qg.run _ s7 _ H7 x u _ I7' r7 (step x H7 y7)) fun _ s8 ⟨σ8, H8, I8, hw8, q8⟩ => ?_
      refine thnF (qt.run _ s8 σ8 H8 _ I8 q8) fun b s9 ⟨H9, I9, q9⟩ => ?_
      -- the turn's end, from any slots that know what the block knew at its start
      have last : ∀ {σ9 : L2.St} {s' : Shared} {H' : Hp}, Inv (X.blk s3 H3 sco ce fp) ([] ++ pinsAt fp s7.heap) σ9 H' s' → (wipe σ (own.map (·.2))).length = σ9.length → (∀ (j : Nat) v, (wipe σ (own.map (·.2)))[j]? = some (some v) → σ9[j]? = some (some v)) → Nx H' →
          ∃ m, m < n ∧ ∃ i H', Inv (X.blk s3 H3 sco ce fp) [] (wipe σ (own.map (·.2))) H' s' ∧ tn i s'.heap ∧ (∀ b ∈ fp, H' b = none) ∧ W i m H' := fun {σ9 s' H'} I' hl hk nx => by
        obtain ⟨m', hm, w'⟩ := hNx H' nx
        have pin' : ∀ b ∈ fp, ∀ o, s7.heap.get? b = some o → s'.heap.get? b = some o ∧ H' b = none := fun b hb o e =>
          let z := I'.pin (b, o) (List.mem_append_right _ (List.mem_append_right _ (mem_pinsAt hb e)))
          ⟨z.1, z.2.1⟩
        refine ⟨m', hm, i + 1, H', (I'.unpinned (pins := [])).weak hl hk, T.keep _ _ _ st7 fun b hb o e => (pin' b hb o e).1, fun b hb => ?_, w'⟩
        obtain ⟨o, e, _⟩ := T.obj _ _ st7 b hb
        exact (pin' b hb o e).2
      have hl8 : (wipe σ (own.map (·.2))).length = σ8.length := by rw [← hw8, wipe_length]
      have hk8 : ∀ (j : Nat) v, (wipe σ (own.map (·.2)))[j]? = some (some v) → σ8[j]? = some (some v) := fun j v e => by
        rw [← hw8] at e
        exact (wipe_some e).1
      have hk9 : ∀ (j : Nat) v, (wipe σ (own.map (·.2)))[j]? = some (some v) → (wipe σ8 vs1)[j]? = some (some v) := fun j v e => by
        rw [← hw8] at e
        obtain ⟨e1, e2⟩ := wipe_some e
        rw [wipe_out fun z => e2 (hv j z)]
        exact e1
      cases b with
      | false =>
        simp only [Bool.false_eq_true, if_false] at q9 ⊢
        exact last I9 hl8 hk8 q9
      | true =>
        simp only [if_true] at q9 ⊢
        obtain ⟨dl, ul, hdl, mul, q9⟩ := q9
        have nfz := I9.nofrz hdl mul
        obtain ⟨odl, I9⟩ := I9.lock hdl mul
        refine thnF (qib.run _ s9 σ8 _ _ I9 (q9 odl)) fun xv s10 hx => thnF hx fun itv s11 h11 => ?_
        obtain ⟨it1, fp1, tn1, J1, H11, e1, I11, T1, st11, f11, W1, ⟨m1, w1⟩, trn1⟩ := h11
        subst e1
        -- the inner loop
        have still1 : ∀ {H' : Hp}, (∀ b ∈ fp1, H' b = none) → ∀ b ∈ fp1, FpOk (X.blk s3 H3 sco ce fp) ([] ++ pinsAt fp s7.heap) H' b := fun hn b hb => ⟨hn b hb, (f11 b hb).2⟩
        have loop1 : codeAny (model X.prog X.w) X.A (.compLoop (.SetComp el [⟨tg, ita, fs, 0⟩, ⟨tgb, itb, fb, 0⟩] sco pos) 1 (.ref it1) (.ref D) ce)
            (fun r s' => match r with
              | .ok _ => ∃ m, m < n ∧ ∃ i H', Inv (X.blk s3 H3 sco ce fp) [] (wipe σ (own.map (·.2))) H' s' ∧ tn i s'.heap ∧ (∀ b ∈ fp, H' b = none) ∧ W i m H'
              | .error _ => False) s11 := by
          refine compLoopS2_in (fun k s' => ∃ j H', Inv (X.blk s3 H3 sco ce fp) ([] ++ pinsAt fp s7.heap) (wipe σ8 vs1) H' s' ∧ tn1 j s'.heap ∧ (∀ b ∈ fp1, H' b = none) ∧ W1 j k H') ?_ m1 ⟨0, H11, I11.weak (wipe_length _ _) (fun j v e => (wipe_some e).1), st11, fun b hb => (f11 b hb).1, w1⟩
          rintro k s12 ⟨j, H12, I12, st12, n12, w12⟩
          rcases trn1 j k H12 w12 with ⟨stop1, lk1, nx1⟩ | ⟨go1, Nx1, hNx1, step1⟩
          · refine thnF (T1.done (X.blk s3 H3 sco ce fp) rfl rfl rfl hc j _ s12 (wipe σ8 vs1) H12 (fun _ _ => False) I12 (still1 n12) st12 stop1) fun r s13 ⟨hr, I13⟩ => ?_
            subst hr
            exact last (I13.unlock lk1 nfz) (hl8.trans (wipe_length σ8 vs1).symm) hk9 nx1
          · refine thnF (T1.item (X.blk s3 H3 sco ce fp) rfl rfl rfl hc j _ s12 (wipe σ8 vs1) H12 (fun _ _ => False) I12 (still1 n12) st12 go1) fun r s13 ⟨u1, hr, h13⟩ => ?_
            subst hr
            refine thnF h13 fun _ s14 ⟨x1, H14, I14, r14, y14, st14, n14⟩ => ?_
            have I14' := I14.pinned (still1 n14) (T1.obj _ _ st14)
            refine thnF (qgb.run _ s14 (wipe σ8 vs1) H14 x1 u1 _ I14' r14 (step1 x1 H14 y14)) fun _ s15 ⟨σ15, H15, I15, hw15, q15⟩ => ?_
            refine thnF (qtb.run _ s15 σ15 H15 _ I15 q15) fun b1 s16 ⟨H16, I16, q16⟩ => ?_
            have last1 : ∀ {s' : Shared} {H' : Hp}, Inv (X.blk s3 H3 sco ce fp) (([] ++ pinsAt fp s7.heap) ++ pinsAt fp1 s14.heap) σ15 H' s' → Nx1 H' → ∃ m, m < k ∧ ∃ j H', Inv (X.blk s3 H3 sco ce fp) ([] ++ pinsAt fp s7.heap) (wipe σ8 vs1) H' s' ∧ tn1 j s'.heap ∧ (∀ b ∈ fp1, H' b = none) ∧ W1 j m H' := fun {s' H'} I' nx => by
              obtain ⟨m', hm, w'⟩ := hNx1 H' nx
              have pin' : ∀ b ∈ fp1, ∀ o, s14.heap.get? b = some o → s'.heap.get? b = some o ∧ H' b = none := fun b hb o e =>
                let z := I'.pin (b, o) (List.mem_append_right _ (List.mem_append_right _ (mem_pinsAt hb e)))
                ⟨z.1, z.2.1⟩
              refine ⟨m', hm, j + 1, H', I'.unpinned.weak (by rw [← hw15, wipe_length]) (fun j v e => by rw [← hw15] at e; exact (wipe_some e).1), T1.keep _ _ _ st14 fun b hb o e => (pin' b hb o e).1, fun b hb => ?_, w'⟩
              obtain ⟨o, e, _⟩ := T1.obj _ _ st14 b hb
              exact (pin' b hb o e).2
            cases b1 with
            | false =>
              simp only [Bool.false_eq_true, if_false] at q16 ⊢
              exact last1 I16 q16
            | true =>
              simp only [if_true] at q16 ⊢
              refine thnF (qe.run _ s16 σ15 H16 _ I16 q16) fun z s17 ⟨yv, H17, I17, r17, k0, T0, n0, ek0, hD17, hz17, nx⟩ => ?_
              subst ek0
              exact addQ_ok (X := X.blk s3 H3 sco ce fp) I17 hD17 r17 hz17 fun s18 I18 => last1 I18 nx
        exact compStartS1_ok loop1 (T1.self X.A 0 _ _ _ st11 loop1)
  exact PpSet.codeAny_compStart_set loop (T.self X.A 0 _ _ _ st4 loop)
/-- as a value -/
theorem pe_sc2 {el tg ita tgb itb : Expr} {fs fb : List Expr} {sco : Scope} {own : List (Str × Nat)} {vs1 : List Nat} {pos : Pos} {wi wib : TI} {g gb : TG} {tt ttb : TT} {te : TE} (hc : X.calm = true) (hN : X.N.Nodup) (hi : PI X tg ita wi) (ok : BlkOk X.N X.env.scope sco own) (hv : ∀ i ∈ vs1, i ∈ own.map (·.2))
    (hg : ∀ (s : Shared) (H : Hp) (C : Addr) (cl : List (Str × Addr)) (fp : List Addr), PG (X.blk s H sco (compEnvC sco cl C X.env) fp) tg g) (ht : ∀ (s : Shared) (H : Hp) (C : Addr) (cl : List (Str × Addr)) (fp : List Addr), PTs (X.blk s H sco (compEnvC sco cl C X.env) fp) fs tt)
    (hi1 : ∀ (s : Shared) (H : Hp) (C : Addr) (cl : List (Str × Addr)) (fp : List Addr), PI (X.blk s H sco (compEnvC sco cl C X.env) fp) tgb itb wib)
    (hg1 : ∀ (s : Shared) (H : Hp) (C : Addr) (cl : List (Str × Addr)) (fp : List Addr), PG (X.blk s H sco (compEnvC sco cl C X.env) fp) tgb gb) (ht1 : ∀ (s : Shared) (H : Hp) (C : Addr) (cl : List (Str × Addr)) (fp : List Addr), PTs (X.blk s H sco (compEnvC sco cl C X.env) fp) fb ttb)
    (he : ∀ (s : Shared) (H : Hp) (C : Addr) (cl : List (Str × Addr)) (fp : List Addr), PE (X.blk s H sco (compEnvC sco cl C X.env) fp) el te) (hs : ∀ x, foldedSetIterable ita X.env x = pure x := by intro _; rfl) (hs1 : ∀ env x, foldedSetIterable itb env x = pure x := by intro _ _; rfl) :
    PE X (.SetComp el [⟨tg, ita, fs, 0⟩, ⟨tgb, itb, fb, 0⟩] sco pos) (tSc2 X.prog X.w wi g tt wib gb ttb te (own.map (·.2)) vs1) := by
  refine ⟨fun pins s σ H Q I h => ?_⟩
  rw [PpSet.eval_SetComp]
  refine sc2_core hc hN I hi ok hv hg ht he hs hi1 hg1 ht1 hs1 h fun D C s' m H' I' q hn f => ⟨m, hn, fun h'' sb => ?_⟩
  obtain ⟨f0, f1, f2, f3, f4, f5⟩ := f
  exact ⟨.ref D, H', I'.turned (t' := s'.toks) (fun b o hb e => (sb.2 b hb).trans e) f0 f1 f3 f4 f5, rfl, q⟩
theorem ps_setSc2 {i : Nat} {y : Str} {py : Pos} {el tg ita tgb itb : Expr} {fs fb : List Expr} {sco : Scope} {own : List (Str × Nat)} {vs1 : List Nat} {pos spos : Pos} {wi wib : TI} {g gb : TG} {tt ttb : TT} {te : TE} (hc : X.calm = true) (hN : X.N.Nodup) (hy : X.N[i]? = some y) (hyl : X.env.scope.names.lookup y = some .local)
    (hsw : swapsWith (.SetComp el [⟨tg, ita, fs, 0⟩, ⟨tgb, itb, fb, 0⟩] sco pos) (some (.Name y py)) spos.line X.env = pure true) (hi : PI X tg ita wi) (ok : BlkOk X.N X.env.scope sco own) (hv : ∀ i ∈ vs1, i ∈ own.map (·.2))
    (hg : ∀ (s : Shared) (H : Hp) (C : Addr) (cl : List (Str × Addr)) (fp : List Addr), PG (X.blk s H sco (compEnvC sco cl C X.env) fp) tg g) (ht : ∀ (s : Shared) (H : Hp) (C : Addr) (cl : List (Str × Addr)) (fp : List Addr), PTs (X.blk s H sco (compEnvC sco cl C X.env) fp) fs tt)
    (hi1 : ∀ (s : Shared) (H : Hp) (C : Addr) (cl : List (Str × Addr)) (fp : List Addr), PI (X.blk s H sco (compEnvC sco cl C X.env) fp) tgb itb wib)
    (hg1 : ∀ (s : Shared) (H : Hp) (C : Addr) (cl : List (Str × Addr)) (fp : List Addr), PG (X.blk s H sco (compEnvC sco cl C X.env) fp) tgb gb) (ht1 : ∀ (s : Shared) (H : Hp) (C : Addr) (cl : List (Str × Addr)) (fp : List Addr), PTs (X.blk s H sco (compEnvC sco cl C X.env) fp) fb ttb)
    (he : ∀ (s : Shared) (H : Hp) (C : Addr) (cl : List (Str × Addr)) (fp : List Addr), PE (X.blk s H sco (compEnvC sco cl C X.env) fp) el te) (hs : ∀ x, foldedSetIterable ita X.env x = pure x := by intro _; rfl) (hs1 : ∀ env x, foldedSetIterable itb env x = pure x := by intro _ _; rfl) :
    PS X (.Assign [.Name y py] (.SetComp el [⟨tg, ita, fs, 0⟩, ⟨tgb, itb, fb, 0⟩] sco pos) spos) (tAsg (tSc2 X.prog X.w wi g tt wib gb ttb te (own.map (·.2)) vs1) (gName i)) := by
  refine ⟨fun pins s σ H D I h => ?_⟩
  rw [exec_Assign_Name_used _ _ _ _ hsw]
  refine wpAny_bind (wpAny_standAt (wpAny_bind ?_))
  show wpAny _ X.A (do let _ ← comprehension (.SetComp el [⟨tg, ita, fs, 0⟩, ⟨tgb, itb, fb, 0⟩] sco pos) sco X.env (firstIterPos [⟨tg, ita, fs, 0⟩, ⟨tgb, itb, fb, 0⟩] pos) (newSet (.type "set")) false (eval ita X.env) (some (assign (.Name y py) X.env))) _ _ s
  have h : tSc2 X.prog X.w wi g tt wib gb ttb te (own.map (·.2)) vs1 σ H (fun x H1 => gName i x σ H1 D.nx) := h
  refine wpAny_bind (thn (sc2_core (Qf := fun _ s' => SP X pins D .next s') hc hN I hi ok hv hg ht he hs hi1 hg1 ht1 hs1 h fun L C s' m H' I' q hn f => ?_) fun _ s' hq => wpAny_pure (wpAny_pure hq))
  show wpAny _ _ (assign (.Name y py) X.env (.ref L)) _ _ _
  refine wpAny_assign_Name (store_ok2 (v := V.ref L) I' hN hy (.inl hyl) rfl (fun s2 I2 ⟨a, sb, ha⟩ => ?_) (.inr hyl))
  obtain ⟨f0, f1, f2, f3, f4, f5⟩ := f
  have haC : C ≠ a := by
    rcases ha with z | z
    · rw [z]; exact f1
    · exact fun e => f4 y a z e.symm
  refine ⟨m, hn.sameBut sb haC, fun h3 sb3 => ?_⟩
  exact ⟨_, H', I2.turned (t' := s2.toks) (fun b o hb e => (sb3.2 b hb).trans e) f0 f1 f3 f4 f5, q⟩

end
/-! ### {k for d in ds for k in d}: ds a list of dicts -/
def kSc2 (P : Program) (w : World) (J : It) (g : TG) (tt : TT) (wi1 : TI) (g1 : TG) (tt1 : TT) (te : TE) (vs vs1 : List Nat) (σ : L2.St) (H1 : Hp) (Q : VK) : Prop := ∀ D, H1 D = none → ∃ W : Nat → Nat → Hp → Prop, (∃ m, W 0 m (upd H1 D (SetQ P w D (fun _ => false) 0))) ∧ ∀ i m H, W i m H →
  (J.stop i H ∧ Q (.ref D) H) ∨ (J.go i H ∧ ∃ Nx : Hp → Prop, (∀ H', Nx H' → ∃ m', m' < m ∧ W (i + 1) m' H') ∧ ∀ x H', J.yld i H x H' → g x (wipe σ vs) H' fun σ2 H2 => wipe σ2 vs = wipe σ vs ∧ tt σ2 H2 fun b H3 =>
    if b = true then ∃ (d : Addr) (u : HO), H3 d = some u ∧ Mut (some u) ∧ ∀ od, wi1 σ2 (upd H3 d (.frz od u)) fun J1 H4 => ∃ W1 : Nat → Nat → Hp → Prop, (∃ m, W1 0 m H4) ∧ ∀ j k H, W1 j k H →
      (J1.stop j H ∧ H d = some (.frz od u) ∧ Nx (upd H d u)) ∨ (J1.go j H ∧ ∃ Nx1 : Hp → Prop, (∀ H', Nx1 H' → ∃ k', k' < k ∧ W1 (j + 1) k' H') ∧ ∀ x H', J1.yld j H x H' → g1 x (wipe σ2 vs1) H' fun σ3 H5 => wipe σ3 vs1 = wipe σ2 vs1 ∧ tt1 σ3 H5 fun b H6 =>
        if b = true then te σ3 H6 fun y H7 => ∃ (k : Key) (T : Key → Bool) (n : Nat), y = kV k ∧ H7 D = some (SetQ P w D T n) ∧ n + 1 < scanBound ∧ Nx1 (upd H7 D (SetQ P w D (fun k' => T k' || decide (k' = k)) (if T k = true then n else n + 1))) else Nx1 H6)
    else Nx H3)
def kSc2L (K : PySem.W.Frag) (P : Program) (w : World) (g : TG) (tt : TT) (wi1 : TI) (g1 : TG) (tt1 : TT) (te : TE) (vs vs1 : List Nat) (σ : L2.St) (x : V) (H1 : Hp) (Q : VK) : Prop := ∃ a, x = .ref a ∧ (∃ xs, SqL K H1 a xs) ∧ kSc2 P w (Itl K a) g tt wi1 g1 tt1 te vs vs1 σ H1 Q
theorem g_sc2 {K : PySem.W.Frag} {P : Program} {w : World} {g : TG} {tt : TT} {wi1 : TI} {g1 : TG} {tt1 : TT} {tl te : TE} {vs vs1 : List Nat} {σ : L2.St} {H : Hp} {Q : VK} (q : tl σ H fun x H1 => kSc2L K P w g tt wi1 g1 tt1 te vs vs1 σ x H1 Q) : tSc2 P w (iList K tl) g tt wi1 g1 tt1 te vs vs1 σ H Q := q
/-- the number of entries of the dicts -/
def sumL (kv : Addr → List (Key × V)) : List Addr → Nat
  | [] => 0
  | d :: ds => (kv d).length + sumL kv ds
theorem sumL_app (kv : Addr → List (Key × V)) : ∀ xs ys : List Addr, sumL kv (xs ++ ys) = sumL kv xs + sumL kv ys
  | [], ys => (Nat.zero_add _).symm
  | x :: xs, ys => by
    show (kv x).length + sumL kv (xs ++ ys) = (kv x).length + sumL kv xs + sumL kv ys
    rw [sumL_app kv xs ys]
    omega
theorem sumL_take (kv : Addr → List (Key × V)) (xs : List Addr) (i : Nat) : sumL kv (xs.take i) ≤ sumL kv xs := by
  have := sumL_app kv (xs.take i) (xs.drop i)
  rw [List.take_append_drop] at this
  omega
theorem setQ_frz {P : Program} {w : World} {D : Addr} {T : Key → Bool} {n : Nat} {u : HO} (h : ∀ h', u ≠ .ext h') : SetQ P w D T n ≠ u := fun e => h _ e.symm
theorem k_keysOf {K : PySem.W.Frag} {P : Program} {w : World} {i j : Nat} {σ : L2.St} {F H1 : Hp} {O : Own} {Q : VK} {a : Addr} {ds : List Addr} (hH : Has F O H1) (ha : F a = some (.lst (ds.map V.ref)) ∨ (a, .lst (ds.map V.ref)) ∈ O) (kv : Addr → List (Key × V)) (hd : ∀ d ∈ ds, F d = some (.dK (kv d)))
    (hl : sumL kv ds ≤ 1000) (hi : i < σ.length) (hj : j < σ.length) (ne : i ≠ j)
    (q : ∀ D H' T n, H1 D = none → (∀ k, T k = true ↔ ∃ d ∈ ds, ∃ v, (k, v) ∈ kv d) → n ≤ sumL kv ds → Has F ((D, SetQ P w D T n) :: O) H' → Q (.ref D) H') :
    kSc2L K P w (gName i) tYes (iKeys (tVar i)) (gName j) tYes (tVar j) [i, j] [j] σ (.ref a) H1 Q := by
  have la : ∀ {H' : Hp} {D : Addr} {o : HO}, Has F ((D, o) :: O) H' → H' a = some (.lst (ds.map V.ref)) := fun {H' D o} h => by
    rcases ha with h' | h'
    · exact h.same _ _ h'
    · exact h.get (List.mem_cons_of_mem _ h')
  have la1 : H1 a = some (.lst (ds.map V.ref)) := by
    rcases ha with h' | h'
    · exact hH.same _ _ h'
    · exact hH.get h'
  refine ⟨a, rfl, ⟨_, SqL.of la1⟩, fun D nD => ?_⟩
  refine ⟨fun t m H => m = ds.length - t ∧ t ≤ ds.length ∧ ∃ T n, Has F ((D, SetQ P w D T n) :: O) H ∧ (∀ k, T k = true ↔ ∃ d ∈ ds.take t, ∃ v, (k, v) ∈ kv d) ∧ n ≤ sumL kv (ds.take t),
    ⟨_, rfl, Nat.zero_le _, _, _, hH.new nD, fun k => by simp, Nat.le_refl _⟩, ?_⟩
  rintro t m H ⟨rfl, ht, T, n, hh, hT, hn⟩
  by_cases hlt : t < ds.length
  · have ed : ds[t]? = some ds[t] := List.getElem?_eq_getElem hlt
    generalize ds[t] = d at ed
    have dm := List.mem_of_getElem? ed
    have ex : (ds.map V.ref)[t]? = some (.ref d) := by rw [List.getElem?_map, ed]; rfl
    have tk : ds.take (t + 1) = ds.take t ++ [d] := by rw [List.take_add_one, ed]; rfl
    refine .inr ⟨⟨_, _, SqL.of (la hh), ex⟩, fun H' => ∃ T n, Has F ((D, SetQ P w D T n) :: O) H' ∧ (∀ k, T k = true ↔ ∃ d ∈ ds.take (t + 1), ∃ v, (k, v) ∈ kv d) ∧ n ≤ sumL kv (ds.take (t + 1)), fun H' z => ⟨ds.length - (t + 1), by omega, rfl, hlt, z⟩, ?_⟩
    rintro x H' ⟨rfl, y⟩
    have exx := (y _ (SqL.of (la hh))).symm.trans ex
    injection exx with exx
    subst exx
    have w2 : wipe ((wipe σ [i, j]).set i (some (V.ref d))) [i, j] = wipe σ [i, j] := by
      dsimp only [wipe]
      apply List.ext_getElem?
      intro z
      simp only [List.getElem?_set]
      split <;> split <;> simp_all
    refine ⟨w2, ?_⟩
    refine g_yes (iteT ?_)
    have fd := hd d dm
    have hld := hh.same _ _ fd
    refine ⟨d, _, hld, trivial, fun od => ?_⟩
    have hL := hh.lock (od := od) fd
    have gi : ((wipe σ [i, j]).set i (some (V.ref d)))[i]? = some (some (V.ref d)) := by
      dsimp only [wipe]
      simp [hi]
    refine ⟨.ref d, gi, d, od, rfl, .inl ⟨_, upd_same, ?_⟩⟩
    have lkv : sumL kv (ds.take t) + (kv d).length ≤ 1000 := by
      have h1 := sumL_take kv ds (t + 1)
      rw [tk, sumL_app] at h1
      have h2 : sumL kv [d] = (kv d).length := Nat.add_zero _
      omega
    refine ⟨fun u k H => k = (kv d).length - u ∧ u ≤ (kv d).length ∧ ∃ T n, Has (upd F d (.frz od (.dK (kv d)))) ((D, SetQ P w D T n) :: O) H ∧ (∀ k, T k = true ↔ (∃ d ∈ ds.take t, ∃ v, (k, v) ∈ kv d) ∨ ∃ v, (k, v) ∈ (kv d).take u) ∧ n ≤ sumL kv (ds.take t) + u,
      ⟨_, rfl, Nat.zero_le _, T, n, hL, fun k => by rw [hT k]; simp, by omega⟩, ?_⟩
    rintro u k H ⟨rfl, hu, T, n, hh, hT, hn⟩
    have hfz : H d = some (.frz od (.dK (kv d))) := hh.same _ _ upd_same
    by_cases hul : u < (kv d).length
    · have ep : (kv d)[u]? = some (kv d)[u] := List.getElem?_eq_getElem hul
      generalize (kv d)[u] = p at ep
      have tk2 : (kv d).take (u + 1) = (kv d).take u ++ [p] := by rw [List.take_add_one, ep]; rfl
      refine .inr ⟨⟨hfz, hul⟩, fun H' => ∃ T n, Has (upd F d (.frz od (.dK (kv d)))) ((D, SetQ P w D T n) :: O) H' ∧ (∀ k, T k = true ↔ (∃ d ∈ ds.take t, ∃ v, (k, v) ∈ kv d) ∨ ∃ v, (k, v) ∈ (kv d).take (u + 1)) ∧ n ≤ sumL kv (ds.take t) + (u + 1), fun H' z => ⟨(kv d).length - (u + 1), by omega, rfl, hul, z⟩, ?_⟩
      rintro x H' ⟨rfl, k0, v0, ek, rfl⟩
      rw [ep] at ek
      injection ek with ek
      subst ek
      have w3 : wipe ((wipe ((wipe σ [i, j]).set i (some (V.ref d))) [j]).set j (some (kV k0))) [j] = wipe ((wipe σ [i, j]).set i (some (V.ref d))) [j] := by
        dsimp only [wipe]
        rw [List.set_set]
        rw [List.set_set]
      refine ⟨w3, ?_⟩
      refine g_yes (iteT ?_)
      have gj : ((wipe ((wipe σ [i, j]).set i (some (V.ref d))) [j]).set j (some (kV k0)))[j]? = some (some (kV k0)) := by
        dsimp only [wipe]
        simp [hj]
      refine ⟨_, gj, k0, T, n, rfl, hh.get (List.Mem.head _), by unfold scanBound; omega, _, _, hh.put .hd, fun k' => ?_, ?_⟩
      · rw [Bool.or_eq_true, hT k', decide_eq_true_eq, tk2]
        constructor
        · rintro ((h | ⟨v, h⟩) | h)
          · exact .inl h
          · exact .inr ⟨v, List.mem_append_left _ h⟩
          · subst h
            exact .inr ⟨v0, List.mem_append_right _ (List.mem_singleton.mpr rfl)⟩
        · rintro (h | ⟨v, h⟩)
          · exact .inl (.inl h)
          · rcases List.mem_append.mp h with h | h
            · exact .inl (.inr ⟨v, h⟩)
            · have := List.mem_singleton.mp h
              injection this with e1 e2
              exact .inr e1
      · split <;> omega
    · have e : u = (kv d).length := by omega
      subst e
      refine .inl ⟨⟨hfz, Nat.le_refl _⟩, hfz, ?_⟩
      have hU := hh.unlock (od := od) (u := .dK (kv d)) upd_same
      have eF : upd (upd F d (.frz od (.dK (kv d)))) d (.dK (kv d)) = F := by
        funext b
        by_cases e : b = d
        · subst e
          rw [upd_same, fd]
        · rw [upd_ne e, upd_ne e]
      rw [eF] at hU
      refine ⟨T, n, hU, fun k => ?_, ?_⟩
      · rw [hT k, List.take_length, tk]
        constructor
        · rintro (⟨d', hd', v, h⟩ | ⟨v, h⟩)
          · exact ⟨d', List.mem_append_left _ hd', v, h⟩
          · exact ⟨d, List.mem_append_right _ (List.mem_singleton.mpr rfl), v, h⟩
        · rintro ⟨d', hd', v, h⟩
          rcases List.mem_append.mp hd' with hd' | hd'
          · exact .inl ⟨d', hd', v, h⟩
          · rw [List.mem_singleton.mp hd'] at h
            exact .inr ⟨v, h⟩
      · rw [tk, sumL_app]
        show n ≤ sumL kv (ds.take t) + ((kv d).length + 0)
        omega
  · have e : t = ds.length := by omega
    subst e
    rw [List.take_length] at hT hn
    refine .inl ⟨⟨_, SqL.of (la hh), by rw [List.length_map]; exact Nat.le_refl _⟩, q D H T n nD hT hn hh⟩
section
variable {X : Cx} {ex : Expr} {st : Stmt} {wi wi1 : TI} {g g1 : TG} {tt tt1 : TT} {te : TE} {vs vs1 : List Nat} {i : Nat}
theorem k_sc2 (P : Program) (w : World) (h : PE X ex (tSc2 X.prog X.w wi g tt wi1 g1 tt1 te vs vs1)) (eP : X.prog = P := by rfl) (ew : X.w = w := by rfl) : PE X ex (tSc2 P w wi g tt wi1 g1 tt1 te vs vs1) := by
  subst eP
  subst ew
  exact h
theorem k_sc2S (P : Program) (w : World) (h : PS X st (tAsg (tSc2 X.prog X.w wi g tt wi1 g1 tt1 te vs vs1) (gName i))) (eP : X.prog = P := by rfl) (ew : X.w = w := by rfl) : PS X st (tAsg (tSc2 P w wi g tt wi1 g1 tt1 te vs vs1) (gName i)) := by
  subst eP
  subst ew
  exact h
end
section
variable {elt kx vx : Expr} {gs : List Comprehension} {sco : Scope} {pos py : Pos} {y : Str} {l : Nat} {env : Env}
theorem sw_trueS (hk : env.scope.kind = .function) (hy : env.scope.names.lookup y = some .local) (hl : (py.line == pos.line) = true) (ha : (sco.names.any fun (n, k) => n == y && (k == .local || k == .cell)) = false) : swapsWith (.SetComp elt gs sco pos) (some (.Name y py)) l env = pure true := by
  have ky : env.kindOf y = some .local := hy
  have hb : env.blockKind = .function := by
    unfold Env.blockKind
    rw [hk]
    rfl
  unfold swapsWith
  simp only [hb, ky, ha, Expr.pos, hl]
  rfl
theorem sw_trueD (hk : env.scope.kind = .function) (hy : env.scope.names.lookup y = some .local) (hl : (py.line == pos.line) = true) (ha : (sco.names.any fun (n, k) => n == y && (k == .local || k == .cell)) = false) : swapsWith (.DictComp kx vx gs sco pos) (some (.Name y py)) l env = pure true := by
  have ky : env.kindOf y = some .local := hy
  have hb : env.blockKind = .function := by
    unfold Env.blockKind
    rw [hk]
    rfl
  unfold swapsWith
  simp only [hb, ky, ha, Expr.pos, hl]
  rfl
end
end Qk

/-! Qtt: loops and comprehensions over a tuple -/
namespace Qk
open PySem PySem.Spec PyProof.Rows L2
theorem k_it {X : Cx} {tg l : Expr} {tl : TE} (K : PySem.W.Frag) (h : PI X tg l (iTup X.K tl)) (e : X.K = K := by rfl) : PI X tg l (iTup K tl) := by subst e; exact h
def kLcT (K : PySem.W.Frag) (g : TG) (tt : TT) (te : TE) (vs : List Nat) (σ : L2.St) (x : V) (H : Hp) (Q : VK) : Prop := ∃ a, x = .ref a ∧ (∃ xs, SqT K H a xs) ∧ kLc (Itt K a) g tt te vs σ H Q
def kForT (K : PySem.W.Frag) (g : TG) (tb : TS) (D : Ends) (σ : L2.St) (x : V) (H : Hp) : Prop := ∃ a, x = .ref a ∧ (∃ xs, SqT K H a xs) ∧ kW (Itt K a) g tb D σ H
section
variable {K : PySem.W.Frag} {σ : L2.St} {F : Hp} {O O' : Own} {H : Hp} {Q : VK} {ta te : TE} {D : Ends} {ts : TS} {g : TG}
theorem g_lcT {tt : TT} {vs : List Nat} (q : ta σ H fun x H1 => kLcT K g tt te vs σ x H1 Q) : tLc (iTup K ta) g tt te vs σ H Q := q
theorem g_forT (q : te σ H fun x H1 => kForT K g ts D σ x H1) : tFor (iTup K te) g ts D σ H := q
/-- over a tuple that stands still -/
theorem k_lcT {a : Addr} {xs : List V} {tt : TT} {vs : List Nat} (h : H a = some (.tup xs)) (hH : Has F O H) (S : Nat → List V → Hp → Own → Prop) (h0 : S 0 [] F O) (hl : ∀ i acc F O H, S i acc F O → Has F O H → H a = some (.tup xs))
    (hs : ∀ i x acc F O D H, xs[i]? = some x → S i acc F O → Has F ((D, .lst acc) :: O) H → g x (wipe σ vs) H fun σ2 H2 => wipe σ2 vs = wipe σ vs ∧ tt σ2 H2 fun b H3 => if b = true then te σ2 H3 fun y H4 => kTurn D (kNx S i D) y H4 else kNx S i D H3)
    (hd : ∀ acc F O D H, S xs.length acc F O → Has F ((D, .lst acc) :: O) H → Q (.ref D) H) : kLcT K g tt te vs σ (.ref a) H Q := by
  refine ⟨a, rfl, ⟨xs, SqT.of h⟩, k_lc hH xs.length S h0 (fun i acc F O D H hi s hh => ?_) (fun acc F O D H s hh => ?_) (fun i x acc F O D H H' hi y s hh => ?_) hd⟩
  · exact ⟨xs, xs[i], SqT.of (hl i acc F O H s hh.drop), List.getElem?_eq_getElem hi⟩
  · exact ⟨xs, SqT.of (hl _ acc F O H s hh.drop), Nat.le_refl _⟩
  · obtain ⟨e, y⟩ := y
    subst e
    exact hs i x acc F O D _ (y xs (SqT.of (hl i acc F O _ s hh.drop))) s hh
theorem k_forT {a : Addr} {xs : List V} (h : H a = some (.tup xs)) (Pv : Nat → L2.St → Hp → Prop) (h0 : Pv 0 σ H) (hl : ∀ i σ H, i ≤ xs.length → Pv i σ H → H a = some (.tup xs))
    (hs : ∀ i x σ H, xs[i]? = some x → Pv i σ H → g x σ H fun σ2 H2 => ts { D with nx := Pv (i + 1), ct := Pv (i + 1), bk := D.nx } σ2 H2) (hd : ∀ σ H, Pv xs.length σ H → D.nx σ H) : kForT K g ts D σ (.ref a) H := by
  refine ⟨a, rfl, ⟨xs, SqT.of h⟩, fun i m σ H => m = xs.length - i ∧ i ≤ xs.length ∧ Pv i σ H, ⟨_, rfl, Nat.zero_le _, h0⟩, ?_⟩
  rintro i m σ H1 ⟨rfl, hi, p⟩
  have hq : SqT K H1 a xs := SqT.of (hl i σ H1 hi p)
  by_cases hlt : i < xs.length
  · refine .inr ⟨⟨xs, xs[i], hq, List.getElem?_eq_getElem hlt⟩, Pv (i + 1), fun σ' H' p' => ⟨xs.length - (i + 1), by omega, rfl, hlt, p'⟩, ?_⟩
    rintro x H' ⟨rfl, y⟩
    exact hs i x σ _ (y xs hq) p
  · have e : i = xs.length := by omega
    subst e
    exact .inl ⟨⟨xs, hq, Nat.le_refl _⟩, hd σ H1 p⟩
end
end Qk

/-! Qw: try with several clauses «except c as n», one name in all -/
namespace Qk
open PySem PySem.Spec PyProof.Rows L2
abbrev Cls3 := Addr → Value → Option Addr → TS
/-- the wish of the clauses, the first that fits takes it -/
def wAsM (K : PySem.W.Frag) (i : Nat) (Wout : WX) (D : Ends) : List (Value × Cls3) → WX
  | [] => Wout
  | p :: r => wAs K p.1 i p.2 (wAsM K i Wout D r) D
inductive Clauses (X : Cx) (n : Str) : List ExceptHandler → List (Value × Cls3) → Prop
  | nil : Clauses X n [] []
  | cons {x : Str} {c : Value} {ts : Cls3} {b : Stmt} {su : List Stmt} {q1 q2 : Pos} {hs : List ExceptHandler} {l : List (Value × Cls3)} (nm : Names X x c)
      (sp : ∀ (a : Addr) (o : Obj) (cls : Value) (d : Option Addr) (pn : List (Addr × Obj)), L2N.Zn cls d o → (∃ vs, o.data = .fields vs) → PSs (X.suite a ((a, o) :: pn)) (b :: su) (ts a cls d)) (rest : Clauses X n hs l) :
      Clauses X n (.ExceptHandler (some (.Name x q1)) (some n) (b :: su) q2 :: hs) ((c, ts) :: l)
set_option maxHeartbeats 4000000 in
theorem ps_tryM {X : Cx} {n : Str} {i : Nat} {body : List Stmt} {h0 : ExceptHandler} {hds : List ExceptHandler} {l : List (Value × Cls3)} {pos : Pos} {tb : WX → TS} {Wout : WX}
    (st : X.stack = X.env :: X.outer) (fr : X.env.frame = some X.env.locals) (nd : X.N.Nodup) (ni : X.N[i]? = some n) (lo : X.env.kindOf n = some .local) (tk : L2N.Takes X Wout)
    (hb : ∀ (W : WX) (pn : List (Addr × Obj)) (xe : Value → Shared → Prop), L2N.Takes (X.tr pn xe) W → PassesOwn (model X.prog X.w) X.A X.env xe → PSs (X.tr pn xe) body (tb W))
    (cs : Clauses X n (h0 :: hds) l) : PS X (.Try body (h0 :: hds) [] [] pos) (fun D σ H => tb (wAsM X.K i Wout D l) D σ H) := by
  refine ⟨fun pins s σ H D I want => ?_⟩
  have I0 := I.ok
  have frs0 : X.A.frames = some (X.env :: X.outer) := by rw [I0.frames, st]
  refine wpAny_Try_except ?_
  let caught : Value → Shared → Prop := fun e s1 => wpAny (model X.prog X.w) X.A (noteFrame e X.env) (fun _ s2 => wpAny (model X.prog X.w) X.A (setFlight e none) (fun _ s3 => wpAny (model X.prog X.w) X.A (handleBy e X.env (h0 :: hds)) (SP X pins D) X.xe s3) X.xe s2) X.xe s1
  have take : L2N.Takes (X.tr (X.pn ++ pins) caught) (wAsM X.K i Wout D l) := fun u s' xx => by
    obtain ⟨a, B, sI, pins', σ1, H1, cls, d, rfl, J', nb, up, sky, na, os, ag, w⟩ := xx
    have J : Inv X pins σ1 H1 sI := J'.ofTry I0
    have sk : Sky B (X.env :: X.outer) a (L2N.Zn cls d) X.env.locals s'.heap := by rw [← st]; exact sky
    show wpAny (model X.prog X.w) X.A (noteFrame (.ref a) X.env) _ _ _
    refine L2N.Sky.land L2N.Zn.steady frs0 fr sk fun h3 f3 u3 => ?_
    have J3 : Inv X pins σ1 H1 { s' with heap := h3 } := J.landed nb f3.1 (up.trans u3) os ag
    obtain ⟨o3, vs3, at3, z3, d3⟩ := f3.there
    have noFrame : a ∉ frs (X.env :: X.outer) := fun m => by
      obtain ⟨_, o', e', bad⟩ := f3.2.2.1.mem m
      rw [at3] at e'
      cases e'
      exact bad _ d3
    have nL : a ≠ X.env.locals := fun z => noFrame (List.mem_filterMap.mpr ⟨X.env, List.mem_cons_self, by rw [fr, z]⟩)
    have nF : a ∉ X.fs := fun m => by
      obtain ⟨e, he, q⟩ := List.mem_filterMap.mp m
      exact noFrame (List.mem_filterMap.mpr ⟨e, List.mem_cons_of_mem _ he, q⟩)
    have S3 := J3.suite at3 d3 na nL nF
    have step : ∀ {hs : List ExceptHandler} {l' : List (Value × Cls3)}, Clauses X n hs l' → wAsM X.K i Wout D l' cls d σ1 H1 → wpAny (model X.prog X.w) X.A (handleBy (.ref a) X.env hs) (SP X pins D) X.xe { s' with heap := h3 } := by
      intro hs l' c
      induction c with
      | nil =>
        intro w0
        refine wpAny_handleBy_nil ?_
        obtain ⟨_, _, _, oe, vs, T, _, _, he, _, hd, h1, _⟩ := id f3
        unfold PySem.passOn
        refine wpAny_bind (wpAny_field he hd h1 ?_)
        have nn : ¬ (Value.ref T == Value.none) = true := by simp
        rw [if_neg nn]
        have off : wpAny (model X.prog X.w) X.A (setFlight (.ref a) X.env.frame) (fun _ s4 => wpAny (model X.prog X.w) X.A (throw (.ref a) : Sem Flow) (SP X pins D) X.xe s4) X.xe { s' with heap := h3 } := by
          rw [fr]
          refine HandSPX.setFlight_upZ f3 fun h4 g4 u4 => wpAny_throw (tk _ _ ?_)
          exact ⟨a, B, sI, pins, σ1, H1, cls, d, rfl, J, nb, (up.trans u3).trans u4, .inr (.inr (by rw [st]; exact g4)), na, os, ag, w0⟩
        first
          | exact wpAny_bind (wpAny_pure (wpAny_bind off))
          | exact wpAny_bind off
      | @cons x c ts b su q1 q2 hs2 l2 nm sp rest ih =>
        intro w0
        obtain ⟨yes, fits, inS, goOn⟩ := w0
        refine wpAny_handleBy_cons (codeAny_handlers_test ?_) (by intro q; cases q)
        have ty : PySem.W.Looks (model X.prog X.w) h3 (typeOf (.ref a)) cls := fun _ _ _ _ k q => wpAny_typeOf_ref (k _ _ at3) (by rw [z3.1]; exact q)
        have look := PySem.W.exm_one (M := model X.prog X.w) J3.kIn ty fits
        have named : ∀ {Q : Value → Shared → Prop} {E : Value → Shared → Prop}, Q c { s' with heap := h3 } → wpAny (model X.prog X.w) (X.A.mark (some (.ref a))) (eval (.Name x q1) X.env) Q E { s' with heap := h3 } := fun {Q E} q => by
          obtain ⟨g1, g2, g3 | ⟨g3, g4, g5⟩⟩ := nm
          · exact ld_glob (X := X.suite a ((a, o3) :: (X.pn ++ pins))) S3 g1 g3 q g2
          · exact ld_blt (X := X.suite a ((a, o3) :: (X.pn ++ pins))) S3 g1 g3 g4 q g5 g2
        refine named (look.here ?_)
        cases yes with
        | false =>
          show wpAny _ X.A (handleBy (.ref a) X.env hs2) _ _ _
          exact ih (goOn rfl)
        | true =>
          refine codeAny_handlers_suite_as ?_
          refine HandSPX.lands_againZ f3 fun h4 f4 u4 => ?_
          have J4 : Inv X pins σ1 H1 { s' with heap := h4 } := J.landed nb f4.1 ((up.trans u3).trans u4) os ag
          obtain ⟨o4, vs4, at4, z4, d4⟩ := f4.there
          have S4 := J4.suite at4 d4 na nL nF
          refine store_ok (X := X.suite a ((a, o4) :: (X.pn ++ pins))) (v := .ref a) S4 nd ni (.inl lo) rfl (fun s5 S5 => ?_) (.inr lo)
          refine wpAny_mono ((sp a o4 cls d (X.pn ++ pins) z4 ⟨_, d4⟩).run [] s5 _ H1 _ S5 (inS rfl a na)) (fun f s6 got => ?_) (fun _ _ z => z.elim)
          have done : ∀ {σ6 : L2.St} {H6 : Hp} {Q : Shared → Prop}, Inv (X.suite a ((a, o4) :: (X.pn ++ pins))) [] σ6 H6 s6 → (∀ s7, Inv X pins (σ6.set i none) H6 s7 → Q s7) → wpAny (model X.prog X.w) X.A (do bindName X.env n .none; unbindBehindTheSuite X.env n q2) (fun _ s7 => Q s7) X.xe s6 :=
            fun S6 hq => gone_ok (S6.unsuite I0) nd ni lo hq
          match f, got with
          | .next, ⟨_, _, S6, q6⟩ => exact done S6 fun s7 J7 => ⟨_, _, J7, q6⟩
          | .brk, ⟨_, _, S6, q6⟩ => exact done S6 fun s7 J7 => ⟨_, _, J7, q6⟩
          | .cont, ⟨_, _, S6, q6⟩ => exact done S6 fun s7 J7 => ⟨_, _, J7, q6⟩
          | .ret _, ⟨_, _, _, S6, r6, q6⟩ => exact done S6 fun s7 J7 => ⟨_, _, _, J7, r6, q6⟩
    exact step cs w
  refine wpAny_mono ((hb (wAsM X.K i Wout D l) (X.pn ++ pins) caught take PassesOwn.looking).run [] s σ H D (I.toTry _) want) (fun f s1 got => ?_) (fun e s1 he => he)
  match f, got with
  | .next, ⟨_, _, J', q⟩ => exact wpAny_execs_nil ⟨_, _, J'.ofTry I0, q⟩
  | .brk, ⟨_, _, J', q⟩ => exact ⟨_, _, J'.ofTry I0, q⟩
  | .cont, ⟨_, _, J', q⟩ => exact ⟨_, _, J'.ofTry I0, q⟩
  | .ret _, ⟨_, _, _, J', r, q⟩ => exact ⟨_, _, _, J'.ofTry I0, r, q⟩
def tTryM (K : PySem.W.Frag) (i : Nat) (tb : WX → TS) (l : List (Value × Cls3)) (Wout : WX) : TS := fun D σ H => tb (wAsM K i Wout D l) D σ H
theorem k_tryM {X : Cx} {n : Str} {i : Nat} {body : List Stmt} {h0 : ExceptHandler} {hds : List ExceptHandler} {l : List (Value × Cls3)} {pos : Pos} {tb : WX → TS} {Wout : WX} (K : PySem.W.Frag)
    (st : X.stack = X.env :: X.outer) (fr : X.env.frame = some X.env.locals) (nd : X.N.Nodup) (ni : X.N[i]? = some n) (lo : X.env.kindOf n = some .local) (tk : L2N.Takes X Wout)
    (hb : ∀ (W : WX) (pn : List (Addr × Obj)) (xe : Value → Shared → Prop), L2N.Takes (X.tr pn xe) W → PassesOwn (model X.prog X.w) X.A X.env xe → PSs (X.tr pn xe) body (tb W))
    (cs : Clauses X n (h0 :: hds) l) (e : X.K = K := by rfl) : PS X (.Try body (h0 :: hds) [] [] pos) (tTryM K i tb l Wout) := by
  subst e
  exact ps_tryM st fr nd ni lo tk hb cs
theorem g_tryM {K : PySem.W.Frag} {i : Nat} {tb : WX → TS} {l : List (Value × Cls3)} {Wout : WX} {D : Ends} {σ : L2.St} {H : Hp} (q : tb (wAsM K i Wout D l) D σ H) : tTryM K i tb l Wout D σ H := q
theorem g_caughtM {K : PySem.W.Frag} {c cls : Value} {i : Nat} {ts : Cls3} {r : List (Value × Cls3)} {Wout : WX} {D : Ends} {d : Option Addr} {σ : L2.St} {H : Hp} (m : PySem.W.exmOne K cls c = some true)
    (q : ∀ a, H a = none → ts a cls d { nx := fun σ' H' => D.nx (σ'.set i none) H', rt := D.rt, bk := fun σ' H' => D.bk (σ'.set i none) H', ct := fun σ' H' => D.ct (σ'.set i none) H' } (σ.set i (some (.ref a))) H) : wAsM K i Wout D ((c, ts) :: r) cls d σ H :=
  g_caught m q
theorem g_passM {K : PySem.W.Frag} {c cls : Value} {i : Nat} {ts : Cls3} {r : List (Value × Cls3)} {Wout : WX} {D : Ends} {d : Option Addr} {σ : L2.St} {H : Hp} (m : PySem.W.exmOne K cls c = some false) (q : wAsM K i Wout D r cls d σ H) : wAsM K i Wout D ((c, ts) :: r) cls d σ H :=
  ⟨false, m, (fun z => by cases z), fun _ => q⟩
end Qk

/-! Qdc: dict comprehensions, split, startswith -/
namespace Qk
open PySem PySem.Spec PyProof.Rows L2
def kDc (J : It) (g : TG) (tt : TT) (tk tv : TE) (vs : List Nat) (σ : L2.St) (H1 : Hp) (Q : VK) : Prop := ∀ D, H1 D = none → ∃ W : Nat → Nat → Hp → Prop, (∃ m, W 0 m (upd H1 D (.dK []))) ∧ ∀ i m H, W i m H →
  (J.stop i H ∧ Q (.ref D) H) ∨ (J.go i H ∧ ∃ Nx : Hp → Prop, (∀ H', Nx H' → ∃ m', m' < m ∧ W (i + 1) m' H') ∧ ∀ x H', J.yld i H x H' → g x (wipe σ vs) H' fun σ2 H2 => wipe σ2 vs = wipe σ vs ∧ tt σ2 H2 fun b H3 =>
    if b = true then tk σ2 H3 fun y H4 => tv σ2 H4 fun z H5 => ∃ kvs k, y = kV k ∧ H5 D = some (.dK kvs) ∧ kvs.length < sizeLine ∧ Nx (upd H5 D (.dK (putK kvs k z))) else Nx H3)
def kDNx (S : Nat → List (Key × V) → Hp → Own → Prop) (i : Nat) (D : Addr) (H : Hp) : Prop := ∃ acc F' O', S (i + 1) acc F' O' ∧ Has F' ((D, .dK acc) :: O') H
def kDTurn (D : Addr) (Nx : Hp → Prop) (y z : V) (H : Hp) : Prop := ∃ kvs k, y = kV k ∧ H D = some (.dK kvs) ∧ kvs.length < sizeLine ∧ Nx (upd H D (.dK (putK kvs k z)))
def kDcL (K : PySem.W.Frag) (g : TG) (tt : TT) (tk tv : TE) (vs : List Nat) (σ : L2.St) (x : V) (H : Hp) (Q : VK) : Prop := ∃ a, x = .ref a ∧ (∃ xs, SqL K H a xs) ∧ kDc (Itl K a) g tt tk tv vs σ H Q
def kDcT (K : PySem.W.Frag) (g : TG) (tt : TT) (tk tv : TE) (vs : List Nat) (σ : L2.St) (x : V) (H : Hp) (Q : VK) : Prop := ∃ a, x = .ref a ∧ (∃ xs, SqT K H a xs) ∧ kDc (Itt K a) g tt tk tv vs σ H Q
section
variable {K : PySem.W.Frag} {σ : L2.St} {F : Hp} {O : Own} {H : Hp} {Q : VK} {ta tk tv : TE} {tt : TT} {vs : List Nat} {g : TG}
theorem g_dcL (q : ta σ H fun x H1 => kDcL K g tt tk tv vs σ x H1 Q) : tDc (iList K ta) g tt tk tv vs σ H Q := q
theorem g_dcT (q : ta σ H fun x H1 => kDcT K g tt tk tv vs σ x H1 Q) : tDc (iTup K ta) g tt tk tv vs σ H Q := q
theorem kd_turn {S : Nat → List (Key × V) → Hp → Own → Prop} {i : Nat} {D : Addr} {acc : List (Key × V)} {y z : V} {k : Key} (e : y = kV k) (h : Has F ((D, .dK acc) :: O) H) (hl : acc.length ≤ 100000) (s : S (i + 1) (putK acc k z) F O) : kDTurn D (kDNx S i D) y z H :=
  ⟨acc, k, e, h.get (List.Mem.head _), by rw [sizeLine_eq]; omega, _, F, O, s, h.put .hd⟩
theorem kd_skip {S : Nat → List (Key × V) → Hp → Own → Prop} {i : Nat} {D : Addr} {acc : List (Key × V)} (h : Has F ((D, .dK acc) :: O) H) (s : S (i + 1) acc F O) : kDNx S i D H := ⟨acc, F, O, s, h⟩
theorem k_dc {J : It} (hH : Has F O H) (n : Nat) (S : Nat → List (Key × V) → Hp → Own → Prop) (h0 : S 0 [] F O)
    (go : ∀ i acc F O D H, i < n → S i acc F O → Has F ((D, .dK acc) :: O) H → J.go i H) (stop : ∀ acc F O D H, S n acc F O → Has F ((D, .dK acc) :: O) H → J.stop n H)
    (hs : ∀ i x acc F O D H H', i < n → J.yld i H x H' → S i acc F O → Has F ((D, .dK acc) :: O) H → g x (wipe σ vs) H' fun σ2 H2 => wipe σ2 vs = wipe σ vs ∧ tt σ2 H2 fun b H3 => if b = true then tk σ2 H3 fun y H4 => tv σ2 H4 fun z H5 => kDTurn D (kDNx S i D) y z H5 else kDNx S i D H3)
    (hd : ∀ acc F O D H, S n acc F O → Has F ((D, .dK acc) :: O) H → Q (.ref D) H) : kDc J g tt tk tv vs σ H Q := by
  intro D nD
  refine ⟨fun i m H => m = n - i ∧ i ≤ n ∧ ∃ acc F O, S i acc F O ∧ Has F ((D, .dK acc) :: O) H, ⟨n, by simp, Nat.zero_le _, [], F, O, h0, hH.new nD⟩, ?_⟩
  rintro i m H1 ⟨rfl, le, acc, F1, O1, s1, h1⟩
  by_cases lt : i < n
  · exact .inr ⟨go i acc F1 O1 D H1 lt s1 h1, kDNx S i D, fun H' p => ⟨n - (i + 1), by omega, rfl, lt, p⟩, fun x H' y => hs i x acc F1 O1 D H1 H' lt y s1 h1⟩
  · have e : i = n := by omega
    subst e
    exact .inl ⟨stop acc F1 O1 D H1 s1 h1, hd acc F1 O1 D H1 s1 h1⟩
theorem k_dcL {a : Addr} {xs : List V} (h : H a = some (.lst xs)) (hH : Has F O H) (S : Nat → List (Key × V) → Hp → Own → Prop) (h0 : S 0 [] F O) (hl : ∀ i acc F O H, S i acc F O → Has F O H → H a = some (.lst xs))
    (hs : ∀ i x acc F O D H, xs[i]? = some x → S i acc F O → Has F ((D, .dK acc) :: O) H → g x (wipe σ vs) H fun σ2 H2 => wipe σ2 vs = wipe σ vs ∧ tt σ2 H2 fun b H3 => if b = true then tk σ2 H3 fun y H4 => tv σ2 H4 fun z H5 => kDTurn D (kDNx S i D) y z H5 else kDNx S i D H3)
    (hd : ∀ acc F O D H, S xs.length acc F O → Has F ((D, .dK acc) :: O) H → Q (.ref D) H) : kDcL K g tt tk tv vs σ (.ref a) H Q := by
  refine ⟨a, rfl, ⟨xs, SqL.of h⟩, k_dc hH xs.length S h0 (fun i acc F O D H lt s hh => ⟨xs, xs[i], SqL.of (hl i acc F O H s hh.drop), List.getElem?_eq_getElem lt⟩) (fun acc F O D H s hh => ⟨xs, SqL.of (hl _ acc F O H s hh.drop), Nat.le_refl _⟩) (fun i x acc F O D H H' lt y s hh => ?_) hd⟩
  obtain ⟨e, y⟩ := y
  subst e
  exact hs i x acc F O D _ (y xs (SqL.of (hl i acc F O _ s hh.drop))) s hh
theorem k_dcT {a : Addr} {xs : List V} (h : H a = some (.tup xs)) (hH : Has F O H) (S : Nat → List (Key × V) → Hp → Own → Prop) (h0 : S 0 [] F O) (hl : ∀ i acc F O H, S i acc F O → Has F O H → H a = some (.tup xs))
    (hs : ∀ i x acc F O D H, xs[i]? = some x → S i acc F O → Has F ((D, .dK acc) :: O) H → g x (wipe σ vs) H fun σ2 H2 => wipe σ2 vs = wipe σ vs ∧ tt σ2 H2 fun b H3 => if b = true then tk σ2 H3 fun y H4 => tv σ2 H4 fun z H5 => kDTurn D (kDNx S i D) y z H5 else kDNx S i D H3)
    (hd : ∀ acc F O D H, S xs.length acc F O → Has F ((D, .dK acc) :: O) H → Q (.ref D) H) : kDcT K g tt tk tv vs σ (.ref a) H Q := by
  refine ⟨a, rfl, ⟨xs, SqT.of h⟩, k_dc hH xs.length S h0 (fun i acc F O D H lt s hh => ⟨xs, xs[i], SqT.of (hl i acc F O H s hh.drop), List.getElem?_eq_getElem lt⟩) (fun acc F O D H s hh => ⟨xs, SqT.of (hl _ acc F O H s hh.drop), Nat.le_refl _⟩) (fun i x acc F O D H H' lt y s hh => ?_) hd⟩
  obtain ⟨e, y⟩ := y
  subst e
  exact hs i x acc F O D _ (y xs (SqT.of (hl i acc F O _ s hh.drop))) s hh
end
/-! ### split, startswith -/
def rSplit : V → List V → Hp → VK → Prop := fun x xs H Q => ∃ a b, x = .str a ∧ xs = [.str b] ∧ (b.length == 0) = false ∧ a.length + 2 ≤ sizeLine ∧ rNewStrs (Txt.split a b) H Q
def rStarts : V → List V → Hp → VK → Prop := fun x xs H Q => ∃ a b, x = .str a ∧ xs = [.str b] ∧ Q (.bl (Txt.startswith a b)) H
section
variable {X : Cx} {o e : Expr} {to te : TE}
theorem k_split {apos pos : Pos} (ho : PE X o to) (he : PE X e te) (hs : starEach [e] X.env = [(false, eval e X.env)] := by rfl) (hb : attributeBase o "split" X.env (eval o X.env) = eval o X.env := by rfl) (hl : (apos.endLine == pos.line) = true := by rfl) :
    PE X (.Call (.Attribute o "split" apos) [e] [] pos) (tM1 rSplit to te) := pe_split ho he hs hb hl
theorem k_starts {apos pos : Pos} (ho : PE X o to) (he : PE X e te) (hs : starEach [e] X.env = [(false, eval e X.env)] := by rfl) (hb : attributeBase o "startswith" X.env (eval o X.env) = eval o X.env := by rfl) (hl : (apos.endLine == pos.line) = true := by rfl) :
    PE X (.Call (.Attribute o "startswith" apos) [e] [] pos) (tM1 rStarts to te) := pe_m1 F.slot_str_startswith F.type_str_startswith mt_startswith ho he hs hb hl
end
def kM1 (r : V → List V → Hp → VK → Prop) (te : TE) (σ : L2.St) (x : V) (H : Hp) (Q : VK) : Prop := (∃ a, x = .str a) ∧ te σ H fun y H2 => r x [y] H2 Q
theorem g_m1s {r : V → List V → Hp → VK → Prop} {to te : TE} {σ : L2.St} {H : Hp} {Q : VK} (q : to σ H fun x H1 => kM1 r te σ x H1 Q) : tM1 r to te σ H Q := q
theorem g_km1s {r : V → List V → Hp → VK → Prop} {te : TE} {σ : L2.St} {a : Str} {H : Hp} {Q : VK} (q : te σ H fun y H2 => r (.str a) [y] H2 Q) : kM1 r te σ (.str a) H Q := ⟨⟨a, rfl⟩, q⟩
theorem g_split {F H : Hp} {O : Own} {Q : VK} {a b : Str} (nb : (b.length == 0) = false) (la : a.length ≤ 100000) (hH : Has F O H) (q : ∀ p H', H p = none → Has F ((p, .lst ((Txt.split a b).map V.str)) :: O) H' → Q (.ref p) H') : rSplit (.str a) [.str b] H Q :=
  ⟨a, b, rfl, rfl, nb, by rw [sizeLine_eq]; omega, fun p n => q p _ n (hH.new n)⟩
theorem g_starts {H : Hp} {Q : VK} {a b : Str} (q : Q (.bl (Txt.startswith a b)) H) : rStarts (.str a) [.str b] H Q := ⟨a, b, rfl, rfl, q⟩
/-! ### comprehensions over a text -/
def kLcS (g : TG) (tt : TT) (te : TE) (vs : List Nat) (σ : L2.St) (x : V) (H : Hp) (Q : VK) : Prop := ∃ z, x = .str z ∧ kLc (Its z) g tt te vs σ H Q
theorem g_lcS {ta te : TE} {g : TG} {tt : TT} {vs : List Nat} {σ : L2.St} {H : Hp} {Q : VK} (q : ta σ H fun x H1 => kLcS g tt te vs σ x H1 Q) : tLc (iStr ta) g tt te vs σ H Q := q
theorem k_lcS {z : Str} {te : TE} {g : TG} {tt : TT} {vs : List Nat} {σ : L2.St} {F H : Hp} {O : Own} {Q : VK} (hH : Has F O H) (S : Nat → List V → Hp → Own → Prop) (h0 : S 0 [] F O)
    (hs : ∀ i c acc F O D H, z.cps[i]? = some c → S i acc F O → Has F ((D, .lst acc) :: O) H → g (.str ⟨#[c]⟩) (wipe σ vs) H fun σ2 H2 => wipe σ2 vs = wipe σ vs ∧ tt σ2 H2 fun b H3 => if b = true then te σ2 H3 fun y H4 => kTurn D (kNx S i D) y H4 else kNx S i D H3)
    (hd : ∀ acc F O D H, S z.length acc F O → Has F ((D, .lst acc) :: O) H → Q (.ref D) H) : kLcS g tt te vs σ (.str z) H Q := by
  refine ⟨z, rfl, k_lc hH z.length S h0 (fun i acc F O D H lt s hh => lt) (fun acc F O D H s hh => Nat.le_refl _) (fun i x acc F O D H H' lt y s hh => ?_) hd⟩
  obtain ⟨e, c, hc, rfl⟩ := y
  subst e
  exact hs i c acc F O D _ hc s hh
/-! ### a text times a number -/
def repS (z : Str) (n : Nat) : Str := ⟨(List.replicate n z.cps).foldl (· ++ ·) #[]⟩
theorem foldl_cps (z : Array Nat) : ∀ (n : Nat) (acc : Array Nat), ((List.replicate n z).foldl (· ++ ·) acc).toList = acc.toList ++ (List.replicate n z.toList).flatten
  | 0, acc => by simp
  | n + 1, acc => by
    rw [List.replicate_succ, List.foldl_cons, foldl_cps z n, Array.toList_append, List.replicate_succ, List.flatten_cons, List.append_assoc]
theorem repS_list (z : Str) (n : Nat) : (repS z n).cps.toList = (List.replicate n z.cps.toList).flatten := by
  unfold repS
  rw [foldl_cps]
  rfl
theorem repS_len (z : Str) (n : Nat) : (repS z n).length = n * z.length := by
  have h := congrArg List.length (repS_list z n)
  have e : (repS z n).cps.toList.length = (repS z n).length := Array.length_toList
  rw [e] at h
  rw [h, List.length_flatten, List.map_replicate, List.sum_replicate_nat]
  rfl
def rRepS : R2 := fun x y H Q => ∃ (z : Str) (k : Int), x = .str z ∧ y = .int k ∧ 1 ≤ k ∧ k ≤ 1000 ∧ z.length ≤ 1000 ∧ Q (.str (repS z k.toNat)) H
section
variable {X : Cx}
theorem op_repS : OpR X (binaryOp .Mult) rRepS := by
  intro pins s σ H x y v u Q I rx ry h
  obtain ⟨z, k, rfl, rfl, k1, k2, lz, q⟩ := h
  obtain ⟨t, rfl⟩ := rx
  obtain ⟨t', rfl⟩ := ry
  have e1 : decide (k < -(2 ^ 63 : Int)) = false := decide_eq_false (by omega)
  have e2 : decide (k ≥ 2 ^ 63) = false := decide_eq_false (by omega)
  have big : z.length * k.toNat ≤ 1000000 := Nat.mul_le_mul lz (m₂ := 1000) (by omega)
  refine PySem.P.mul_str (by rw [e1, e2]; rfl) (fun _ _ => ?_) (fun _ _ => ?_) ?_
  · have h1 : (z.length : Int) * k ≤ 2 ^ 63 - 1 := by
      have e : (z.length : Int) * k = ((z.length * k.toNat : Nat) : Int) := by
        rw [Int.natCast_mul, Int.toNat_of_nonneg (by omega)]
      rw [e]
      omega
    have := (Int.le_ediv_iff_mul_le (a := (z.length : Int)) (b := 2 ^ 63 - 1) (c := k) (by omega)).mpr h1
    omega
  · unfold Builtin.Str.tooLong
    simp only [decide_eq_false_iff_not]
    rw [sizeLine_eq]
    omega
  · rw [if_neg (by omega)]
    by_cases c : (k == 1 || z.length == 0) = true
    · rw [if_pos c]
      have e : repS z k.toNat = z := by
        have hl := repS_list z k.toNat
        have : (repS z k.toNat).cps = z.cps := by
          apply Array.ext'
          rw [hl]
          rcases Bool.or_eq_true _ _ ▸ c with c | c
          · have : k = 1 := by simpa using c
            subst this
            simp
          · have c : z.length = 0 := by simpa using c
            have : z.cps.toList = [] := List.eq_nil_of_length_eq_zero (by rw [Array.length_toList]; exact c)
            rw [this]
            simp
        cases z
        exact congrArg Str.mk this
      rw [e] at q
      exact ⟨.str z, H, I, ⟨_, rfl⟩, q⟩
    · rw [if_neg c]
      refine ⟨?_, .str _, H, I.tok _, ⟨_, rfl⟩, q⟩
      have l := repS_len z k.toNat
      have l2 : (repS z k.toNat).length ≤ 1000000 := by rw [l, Nat.mul_comm]; exact big
      rw [sizeLine_eq]
      exact Nat.le_trans l2 (by decide)
end
theorem g_repS {H : Hp} {Q : VK} {z : Str} {k : Int} (k1 : 1 ≤ k) (k2 : k ≤ 1000) (lz : z.length ≤ 1000) (q : Q (.str (repS z k.toNat)) H) : rRepS (.str z) (.int k) H Q := ⟨z, k, rfl, rfl, k1, k2, lz, q⟩
end Qk

/-! Qx: list(o) of an own object whose __iter__ gives an iterator of a list -/
namespace Qk
open PySem PySem.Spec PyProof.Rows L2
section
variable {P : Program} {w : World} {A : Around} {E : Value → Shared → Prop} {s : Shared} {it l : Addr} {i : Nat} {items : Array Value} {Q : Option Value → Shared → Prop}
theorem pyNext_of (ty : s.TypeIs (.ref it) "list_iterator")
    (h : wpAny (model P w) A.in1 (Builtin.«list_iterator.__next__» ⟨[.ref it], []⟩) (fun fin s' => ∃ v, fin = Fin.done (Flow.ret v) ∧ Q (some v) s') (fun e s' => wpAny (model P w) A (do
      let b ← isInstance e (.type "StopIteration")
      if b = true then pure none else throw e) Q E s') s) : wpAny (model P w) A (pyNext (.ref it)) Q E s := by
  unfold pyNext callSpecial?
  refine wpAny_bind (wpAny_attempt (wpAny_bind (wpAny_specialOf ty slot_listiter_next.lookup ?_)))
  dsimp only
  refine wpAny_holding ?_
  rw [slot_listiter_next.bind]
  refine wpAny_bind (wpAny_pure ?_)
  dsimp only
  refine wpAny_bind (wpAny_call_entry slot_listiter_next ty entry_listiter_next ?_ (args_listiter_next _))
  refine wpAny_mono h ?_ ?_
  · rintro fin s' ⟨v, rfl, q⟩
    refine ⟨v, rfl, ?_⟩
    exact wpAny_pure (wpAny_pure q)
  · exact fun e s' q => q
theorem li_next (h : s.heap.get? it = some (GNX.itObj l i)) (hl : s.heap.IsList l items) {x : Value} (hx : items[i]? = some x)
    (q : ∀ h', h'.get? it = some (GNX.itObj l (i + 1)) → Heap.SameBut it s.heap h' → Q (some x) { s with heap := h' }) : wpAny (model P w) A (pyNext (.ref it)) Q E s :=
  pyNext_of ⟨_, h, rfl⟩ (GNX.next_item h hl hx fun h' e b => q h' e b)
theorem li_end (hh : A.handled = none) (h : s.heap.get? it = some (GNX.itObj l i)) (hl : s.heap.IsList l items) (hx : items[i]? = none)
    (q : ∀ h', (∃ o, h'.get? it = some o) → (∀ b o, b ≠ it → s.heap.get? b = some o → h'.get? b = some o) → Q none { s with heap := h' }) : wpAny (model P w) A (pyNext (.ref it)) Q E s := by
  refine pyNext_of ⟨_, h, rfl⟩ (GNX.next_end hh h hl hx fun h1 h' e vs e1 b1 k ne he _ => ?_)
  refine wpAny_bind (wpAny_isInstance ⟨_, he, rfl⟩ (b := true) (by rfl) ?_)
  rw [if_pos rfl]
  refine wpAny_pure (q h' ⟨_, k _ _ e1⟩ fun b o hb ho => k b o ?_)
  rw [b1.2 b hb]
  exact ho
end
def GoneO (it : Addr) : HO := HO.ext fun h => ∃ o, h.get? it = some o
theorem gone_ok {P : Program} {w : World} {H : Hp} {h : Heap} {it : Addr} (e : ∃ o, h.get? it = some o) : ObjOk P w H h it (GoneO it) := ⟨e, e, fun h1 h2 ⟨o, ho⟩ s => ⟨o, s o ho⟩⟩
theorem upd4 {H : Hp} {it q : Addr} {a b a' b' : HO} (ne : it ≠ q) : upd (upd (upd (upd H it a) q b) it a') q b' = upd (upd H it a') q b' := by
  funext x
  by_cases e1 : x = q
  · subst e1; rw [upd_same, upd_same]
  · rw [upd_ne e1, upd_ne e1]
    by_cases e2 : x = it
    · subst e2; rw [upd_same, upd_same]
    · rw [upd_ne e2, upd_ne e1, upd_ne e2, upd_ne e2]
section
variable {X : Cx} {pins : List (Addr × Obj)} {σ : L2.St} {A1 : Around} {Rs : Result → Shared → Prop}
theorem li_loop {it l q : Addr} {ys : List V} {H0 : Hp} (hd : A1.handled = none) (n1 : it ≠ q) (n2 : it ≠ l) (n3 : q ≠ l) (hl : H0 l = some (.lst ys)) (few : ys.length ≤ sizeLine)
    (done : ∀ s', L2.Inv X pins σ (upd (upd H0 it (GoneO it)) q (.lst ys)) s' → Rs (.ok (.ret .none)) s') :
    ∀ (m i : Nat) (s : Shared), i + m = ys.length → L2.Inv X pins σ (upd (upd H0 it (ItO l it i)) q (.lst (ys.take i))) s → codeAny (model X.prog X.w) A1 (.builtin "list.extend.loop" ⟨[.ref q, .ref it, .none], []⟩) Rs s
  | m, i, s, e, I => by
    refine codeAny_builtin F.entry_extend_loop ?_
    rw [Around.under_plainId F.plain_extend_loop _]
    show wpAny _ A1.in1 (pyNext (.ref it) >>= _) _ _ s
    have hit : s.heap.get? it = some (GNX.itObj l i) := itO_get I (by rw [upd_ne n1, upd_same])
    obtain ⟨its, rv, pl, _⟩ := I.list (SqL.of (K := X.K) (a := l) (xs := ys) (by rw [upd_ne n3.symm, upd_ne n2.symm]; exact hl))
    have lits : its.length = ys.length := rv.length.symm
    cases m with
    | zero =>
      have hi : ys[i]? = none := List.getElem?_eq_none_iff.mpr (by omega)
      refine wpAny_bind (li_end (by simpa using hd) hit pl.isList (by rw [List.getElem?_toArray]; exact rv.none_of hi) fun h' ex k => ?_)
      dsimp only
      refine wpAny_pure ?_
      have et : ys.take i = ys := List.take_of_length_le (by omega)
      rw [et] at I
      have J := I.write (x := it) (e := it) (o := GoneO it) (t' := s.toks) (by rw [upd_ne n1, upd_same]; trivial) (.inl rfl) (fun b u hb hu => k b u hb hu) ex (gone_ok ex)
      have J2 := (L2.Inv.lstM J (l := q) (xs := ys) (by rw [upd_ne n1.symm, upd_same]))
      refine done _ ?_
      have eq : upd (upd (upd H0 it (ItO l it i)) q (.lst ys)) it (GoneO it) = upd (upd H0 it (GoneO it)) q (.lst ys) := by
        funext x
        by_cases e1 : x = it
        · subst e1; rw [upd_same, upd_ne n1, upd_same]
        · rw [upd_ne e1]
          by_cases e2 : x = q
          · subst e2; rw [upd_same, upd_same]
          · rw [upd_ne e2, upd_ne e1, upd_ne e2, upd_ne e1]
      rw [eq] at J
      exact J
    | succ m =>
      have hlt : i < ys.length := by omega
      have hy : ys[i]? = some ys[i] := List.getElem?_eq_getElem hlt
      obtain ⟨u, hu, ru⟩ := rv.get hy
      refine wpAny_bind (li_next hit pl.isList (by rw [List.getElem?_toArray]; exact hu) fun h' e1 b1 => ?_)
      dsimp only
      have J := I.write (x := it) (e := it) (o := ItO l it (i + 1)) (h' := h') (t' := s.toks) (by rw [upd_ne n1, upd_same]; trivial) (.inl rfl) (fun b v hb hv => by rw [b1.2 b hb]; exact hv) ⟨_, e1⟩ (itO_ok e1)
      obtain ⟨lq, itsq, nq, vq, eq_, gq⟩ := J.lstM (l := q) (xs := ys.take i) (by rw [upd_ne n1.symm, upd_same])
      show wpAny _ A1.in1 (updateSeq q _ >>= _) _ _ _
      refine wpAny_bind (wpAny_updateSeq gq rfl ?_ (by rw [List.size_toArray, ← eq_]; exact lq) (by rw [Array.size_push, List.size_toArray, ← eq_, List.length_take]; omega))
      refine wpAny_pure ⟨plainId_quiet F.plain_extend_loop _, ?_⟩
      have J2 := J.lset (l := q) (xs := ys.take i) (ys := ys.take (i + 1)) (its' := itsq ++ [u]) (f := fun x => x.push u) (t' := s.toks) (by rw [upd_ne n1.symm, upd_same]) gq (by simp) (by
        rw [List.take_add_one, hy]
        exact vq.append (.cons ru .nil)) (by rw [List.length_take]; omega)
      rw [upd4 n1] at J2
      exact li_loop hd n1 n2 n3 hl few done m (i + 1) _ (by omega) J2
end
/-- what the class of such an object says -/
structure LiC (K : PySem.W.Frag) (C fi : Addr) : Prop where
  it : PySem.W.findIn K (.ref C) "__iter__" = some (some (.ref fi))
  itF : PySem.W.isFn K (.ref fi) = true
  nolen : PySem.W.findIn K (.ref C) "__len__" = some none
  nohint : PySem.W.findIn K (.ref C) "__length_hint__" = some none
theorem li_hint {s : Shared} {C fi a : Addr} {M : Model} {A : Around} {E : Value → Shared → Prop} {Q : Bool → Shared → Prop} {K : PySem.W.Frag} {ox : Obj} {od : Option Obj} (I : LiC K C fi) (kin : K.In s.heap) (inst : PySem.W.InstAt s.heap a ox C od) (q : Q true s) : wpAny M A (Builtin.List.listLengthHint (.ref a)) Q E s := by
  unfold Builtin.List.listLengthHint specialOf
  refine wpAny_bind (wpAny_bind (inst.type.here ?_))
  refine (PySem.W.looks_findIn kin I.nolen).here ?_
  dsimp only
  refine PySem.W.KFB.if_not rfl ?_
  refine PySem.W.KFB.if_not rfl ?_
  refine wpAny_bind (wpAny_bind (inst.type.here ?_))
  refine (PySem.W.looks_findIn kin I.nohint).here ?_
  exact wpAny_pure q
def rListI (C : Addr) (sp : Sp) (EI : XK) : List V → Hp → VK → Prop := fun xs H Q => ∃ a dx fs, xs = [.ref a] ∧ H a = some (.ins C dx fs) ∧ ∀ q, H q = none → sp [.ref a] (upd H q (.lst [])) (fun v H' => ∃ (it l : Addr) (ys : List V), v = .ref it ∧ (∃ dx' fs', H' a = some (.ins C dx' fs')) ∧ H' it = some (ItO l it 0) ∧ H' q = some (.lst []) ∧ H' l = some (.lst ys) ∧
  it ≠ q ∧ it ≠ l ∧ q ≠ l ∧ ys.length ≤ sizeLine ∧ Q (.ref q) (upd (upd H' it (GoneO it)) q (.lst ys))) EI
theorem upd_id {H : Hp} {it q : Addr} {a b : HO} (h1 : H it = some a) (h2 : H q = some b) : upd (upd H it a) q b = H := by
  funext x
  by_cases e1 : x = q
  · subst e1; rw [upd_same, h2]
  · rw [upd_ne e1]
    by_cases e2 : x = it
    · subst e2; rw [upd_same, h1]
    · rw [upd_ne e2]
section
variable {X : Cx} {CI : CXT} {C fi : Addr} {fdI : FuncData} {psI : List Str} {sp : Sp} {EI : XK} {n : Nat}
set_option maxHeartbeats 1000000 in
theorem li_extend {pins : List (Addr × Obj)} {σ : L2.St} {H : Hp} {s : Shared} {a q dx : Addr} {fs : List (Str × V)} {A1 : Around} {Rs : Result → Shared → Prop} {Q : VK} (S : L2.Sub X n A1.in1) (L : LiC X.K C fi) (F : FnOk X.prog X.w X.K X.mg X.base CI n fi fdI psI sp) (bd : L2.Binds X.K fdI psI []) (pass : Passes CI X EI)
    (I : L2.Inv X pins σ H s) (ha : H a = some (.ins C dx fs)) (hq : H q = some (.lst []))
    (hs : sp [.ref a] H (fun v H' => ∃ (it l : Addr) (ys : List V), v = .ref it ∧ (∃ dx' fs', H' a = some (.ins C dx' fs')) ∧ H' it = some (ItO l it 0) ∧ H' q = some (.lst []) ∧ H' l = some (.lst ys) ∧ it ≠ q ∧ it ≠ l ∧ q ≠ l ∧ ys.length ≤ sizeLine ∧ Q (.ref q) (upd (upd H' it (GoneO it)) q (.lst ys))) EI)
    (done : ∀ (H' : Hp) (s' : Shared), L2.Inv X pins σ H' s' → Q (.ref q) H' → Rs (.ok (.ret .none)) s') (err : ∀ (e : Value) (s : Shared), X.xe e s → Rs (.error e) s) :
    wpAny (model X.prog X.w) A1.in1 (Builtin.List.listExtendWith (.ref q) (.ref a) .none) (fun fin s' => match fin with
      | Fin.done f => Rs (.ok f) s'
      | Fin.again c' => c'.quiet = true ∧ codeAny (model X.prog X.w) A1 c' Rs s') (fun e s' => Rs (.error e) s') s := by
  obtain ⟨mA, om, _⟩ := ins_get I.hok ha
  obtain ⟨od, inst, _⟩ := om.look
  obtain ⟨m, fr⟩ := I.fr
  have nqa : q ≠ a := fun e => by
    rw [e, ha] at hq
    cases hq
  unfold Builtin.List.listExtendWith
  refine wpAny_bind (inst.type.here ?_)
  refine PySem.W.KFB.if_not (by
    have : Builtin.List.listSameRef (.ref q) (.ref a) = false := by
      show (q == a) = false
      simpa using nqa
    rw [this]
    rfl) ?_
  refine wpAny_bind (PySem.W.owit_iter fr I.ok.mod.kin inst L.it L.itF ?_)
  refine wpAny_call ?_
  have e0 := I.env0
  have E0 : Env0 X.prog X.w X.K X.mg X.base A1.in1 X.stack s H := ⟨S.fr.trans e0.frames, e0.mod, e0.bs, e0.bsz, e0.funs, e0.frf, e0.hok, e0.bare⟩
  have hps : psI.length = 1 := (F.len _ _ _ _ hs).symm
  have run := F.run A1.in1 X.stack s H ⟨[Value.ref a], []⟩ [Value.ref a] [V.ref a] _ EI S.room E0 (bd s [Value.ref a] I.kIn (by rw [hps]; rfl)) (.cons rfl .nil) hs
  refine codeAny_mono run ?_
  rintro r s' hr
  cases r with
  | error e => exact err e s' (pass pins σ H s e s' I hr)
  | ok fl =>
    cases fl with
    | ret u =>
      obtain ⟨v, H', I', rv, hq'⟩ := I.after hr
      obtain ⟨it, l, ys, rfl, ⟨dx', fs', ha'⟩, hit, hq2, hl, n1, n2, n3, few, qq⟩ := hq'
      have eu : u = .ref it := rv
      subst eu
      show wpAny _ _ (specialOf (.ref it) "__next__") _ _ s'
      refine wpAny_specialOf ⟨_, itO_get I' hit, rfl⟩ slot_listiter_next.lookup ?_
      obtain ⟨mA', om', _⟩ := ins_get I'.hok ha'
      obtain ⟨od', inst', _⟩ := om'.look
      refine wpAny_bind (wpAny_holding (li_hint L I'.kIn inst' ?_))
      dsimp only
      refine wpAny_ite_split (fun _ => ?_) (fun h => (h rfl).elim)
      refine wpAny_bind (wpAny_rule ?_)
      obtain ⟨_, its0, n0, v0, e0', g0⟩ := I'.lstM hq2
      have ei : its0 = [] := List.eq_nil_of_length_eq_zero e0'.symm
      subst ei
      show wpAny _ _ ((updateSeq q _ >>= fun _ => updateSeq q _) >>= _) _ _ _
      refine wpAny_bind (wpAny_bind (wpAny_updateSeq g0 rfl ?_ (by decide) (by rw [sizeLine_eq]; decide)))
      have J1 := I'.lset (l := q) (xs := []) (ys := [.non]) (its' := [.none]) (f := fun x => x.push .none) (t' := s'.toks) hq2 g0 (by simp) (.cons rfl .nil) (by rw [sizeLine_eq]; decide)
      obtain ⟨_, its1, n1', v1, e1', g1⟩ := J1.lstM (l := q) (xs := [.non]) upd_same
      have l1 : its1.length = 1 := e1'.symm
      refine wpAny_updateSeq g1 rfl ?_ (by rw [List.size_toArray, l1, sizeLine_eq]; decide) (by rw [Array.size_pop, List.size_toArray, l1]; exact Nat.zero_le _)
      have J2 := J1.lset (l := q) (xs := [.non]) (ys := []) (its' := []) (f := fun x => x.pop) (t' := s'.toks) upd_same g1 (by
        match its1, l1 with
        | [x], _ => rfl) .nil (Nat.zero_le _)
      have eh : upd (upd H' q (.lst [.non])) q (.lst []) = H' := by
        funext x
        by_cases e : x = q
        · subst e; rw [upd_same, hq2]
        · rw [upd_ne e, upd_ne e]
      rw [eh] at J2
      refine wpAny_pure ⟨plainId_quiet PySem.F.plain_extend_loop _, ?_⟩
      refine li_loop (H0 := H') (ys := ys) (by simpa using S.room.hd) n1 n2 n3 hl few (fun s2 J => done _ s2 J qq) ys.length 0 _ (Nat.zero_add _) ?_
      have e2 : upd (upd H' it (ItO l it 0)) q (.lst (ys.take 0)) = H' := upd_id hit hq2
      rw [e2]
      exact J2
    | _ => exact hr.elim
theorem call_listI (L : LiC X.K C fi) (F : FnOk X.prog X.w X.K X.mg X.base CI n fi fdI psI sp) (bd : L2.Binds X.K fdI psI []) (pass : Passes CI X EI) (room : Room (n + 2) X.A) : CallR X (.type "list") (rListI C sp EI) := by
  intro pins s σ H vs us Q I0 r h
  obtain ⟨a, dx, fs, rfl, ha, h⟩ := h
  rw [Vals.ref1 r]
  have np : H s.heap.objs.size = none := I0.hok.fresh (Nat.le_refl _)
  have hq := h _ np
  have S : L2.Sub X n X.A.in1.in1 := (L2.Sub.in1 (L2.Sub.in1 ⟨room, rfl⟩))
  refine callType_codes PySem.F.called_list (PySem.F.typeCall_list_1 _) PySem.F.entry_list_init (code_list_new _ (Q₁ := fun obj s₁ => obj = .ref s.heap.objs.size ∧ s₁ = { s with heap := s.heap.push { cls := .type "list", data := .seq #[] } }) ⟨rfl, rfl⟩) ?_
  rintro obj s₁ ⟨rfl, rfl⟩
  have hp : (s.heap.push { cls := .type "list", data := .seq #[] }).get? s.heap.objs.size = some { cls := .type "list", data := .seq #[] } := Heap.get?_push_size _ rfl
  refine ⟨⟨_, hp, rfl⟩, PySem.F.args_list_init_2 _ _, ?_⟩
  have I1 := I0.lnew (ys := []) (its := []) (t' := s.toks) .nil (Nat.zero_le _)
  unfold Builtin.«list.__init__»
  dsimp only
  refine PySem.W.KFB.if_not rfl ?_
  rw [if_neg (show ¬ [Value.ref a].length > 1 from by simp)]
  unfold Builtin.List.listItems
  refine wpAny_bind (wpAny_bind (wpAny_seqItems hp rfl (wpAny_pure ?_)))
  show wpAny _ _ (updateSeq s.heap.objs.size _ >>= _) _ _ _
  refine wpAny_bind (wpAny_updateSeq hp rfl ?_ (by decide) (by decide))
  have J := I1.lset (l := s.heap.objs.size) (xs := []) (ys := []) (its := []) (its' := []) (f := fun x => #[]) (t' := s.toks) upd_same hp rfl .nil (Nat.zero_le _)
  have eh : upd (upd H s.heap.objs.size (.lst [])) s.heap.objs.size (.lst []) = upd H s.heap.objs.size (.lst []) := by
    funext x
    by_cases e : x = s.heap.objs.size
    · subst e; rw [upd_same, upd_same]
    · rw [upd_ne e, upd_ne e]
  rw [eh] at J
  refine wpAny_bind (wpAny_letGo ?_)
  have ne : a ≠ s.heap.objs.size := fun e => by
    rw [e, np] at ha
    cases ha
  have ha' : upd H s.heap.objs.size (.lst []) a = some (.ins C dx fs) := by rw [upd_ne ne]; exact ha
  exact li_extend (Rs := wants (fun r s₂ => r = .none ∧ EP X pins σ Q (.ref s.heap.objs.size) s₂) X.xe) S L F bd pass J ha' upd_same hq (fun H' s' I' q => ⟨rfl, V.ref s.heap.objs.size, H', I', rfl, q⟩) (fun e s he => he)
end
/-! ### the rules' steps -/
structure InsC (K : PySem.W.Frag) (C : Addr) : Prop where
  ca : PySem.W.findIn K (.ref C) "__class__" = some (some (.builtin "object.__class__"))
  cn : PySem.W.specialIn K (.builtin "object.__class__") "__get__" = some (some (.builtin "getset_descriptor.__get__"))
  ct : PySem.W.takesIn K (.builtin "object.__class__") = some true
  cm : PySem.W.mroIn K C (.type "object") = some true
theorem cr_isI {X : Cx} (K : PySem.W.Frag) (e : X.K = K := by rfl) : CallR X (.builtin "isinstance") (rIsi K) := by subst e; exact call_isi
theorem cr_iterK {X : Cx} (K : PySem.W.Frag) (e : X.K = K := by rfl) : CallR X (.builtin "iter") (rIter K) := by subst e; exact call_iterL
section
variable {K : PySem.W.Frag} {F : Hp} {O : Own} {H : Hp} {Q : VK}
theorem g_isO {a C dx : Addr} {fs : List (Str × V)} (h : H a = some (.ins C dx fs)) (c : Cls K C) (i : InsC K C) (q : Q (.bl true) H) : rIsi K [.ref a, .ref C] H Q :=
  ⟨.ref a, .ref C, .ref C, .ref C, true, rfl, .own C, .base (.ins h c i.ca i.cn i.ct i.cm), by unfold PySem.W.kitOne; rw [if_pos (beq_self_eq_true _)], q⟩
theorem g_iter {l : Addr} {zs : List V} (h : H l = some (.lst zs)) (q : ∀ it, H it = none → Q (.ref it) (upd H it (ItO l it 0))) : rIter K [.ref l] H Q := ⟨l, zs, rfl, SqL.of h, q⟩
/-- what an __iter__ that gives its list's iterator promises -/
def spIt (C : Addr) (nl : Str) : Sp := fun vs H Q _ => ∃ (a dx : Addr) (fs : List (Str × V)) (l : Addr) (ys : List V), vs = [.ref a] ∧ H a = some (.ins C dx fs) ∧ fs.lookup nl = some (.ref l) ∧ H l = some (.lst ys) ∧ ∀ it, H it = none → Q (.ref it) (upd H it (ItO l it 0))
theorem g_listI {C a dx l : Addr} {fs : List (Str × V)} {nl : Str} {ys : List V} {EI : XK} (h : H a = some (.ins C dx fs)) (lk : fs.lookup nl = some (.ref l)) (hl : H l = some (.lst ys)) (few : ys.length ≤ sizeLine) (hH : Has F O H)
    (q : ∀ p H', H p = none → Has F ((p, .lst ys) :: O) H' → Q (.ref p) H') : rListI C (spIt C nl) EI [.ref a] H Q := by
  refine ⟨a, dx, fs, rfl, h, fun p np => ?_⟩
  have nea : a ≠ p := fun e => by rw [e, np] at h; cases h
  have nel : l ≠ p := fun e => by rw [e, np] at hl; cases hl
  refine ⟨a, dx, fs, l, ys, rfl, by rw [upd_ne nea]; exact h, lk, by rw [upd_ne nel]; exact hl, fun it ni => ?_⟩
  have nip : it ≠ p := fun e => by rw [e, upd_same] at ni; cases ni
  have ni' : H it = none := by rw [upd_ne nip] at ni; exact ni
  have nea' : a ≠ it := fun e => by rw [e, ni'] at h; cases h
  have nel' : l ≠ it := fun e => by rw [e, ni'] at hl; cases hl
  refine ⟨it, l, ys, rfl, ⟨dx, fs, by rw [upd_ne nea', upd_ne nea]; exact h⟩, upd_same, by rw [upd_ne nip.symm, upd_same], by rw [upd_ne nel', upd_ne nel]; exact hl, nip, nel'.symm, nel.symm, few, ?_⟩
  have h1 := hH.new (o := .lst []) np
  have h2 := h1.new (o := ItO l it 0) ni
  have h3 := h2.put (o' := GoneO it) .hd
  have h4 := h3.put (o' := .lst ys) (.tl .hd)
  exact q p _ np h4.drop
end
end Qk

/-! Qxo: a comprehension or a loop over an own object whose __iter__ gives an iterator of a list -/
namespace Qk
open PySem PySem.Spec PyProof.Rows L2
open Sem (wp)
/-! ### an address without an object stays one -/
def Dead (b : Addr) (h : Heap) : Prop := b < h.objs.size ∧ h.get? b = none
theorem Dead.push {b : Addr} {h : Heap} {o : Obj} (d : Dead b h) : Dead b (h.push o) := by
  refine ⟨?_, ?_⟩
  · show b < (h.push o).objs.size
    rw [Heap.objs_push]
    exact Nat.lt_trans d.1 (by rw [Array.size_push]; exact Nat.lt_succ_self _)
  · rw [Heap.get?_push_ne h b o (Nat.ne_of_lt d.1)]
    exact d.2
theorem Dead.update {b a : Addr} {h : Heap} {f : Obj → Obj} (d : Dead b h) (ha : (h.get? a).isSome) : Dead b (h.update a f) := by
  have ne : a ≠ b := fun e => by
    subst e
    rw [d.2] at ha
    cases ha
  refine ⟨?_, (Heap.get?_update_other _ _ ne).trans d.2⟩
  have : (h.update a f).objs.size = h.objs.size := by
    first
      | exact Heap.update_size _ _ _
      | exact Heap.size_update _ _ _
      | simp [Heap.update]
  rw [this]
  exact d.1
theorem runs_dead {M : Model} {Γ : PySem.Ctx} {p : Pos} {t : Sem PySem.Fin} {fs : List Frame} {s s' : Shared} {e : End} {b : Addr} (h : Runs M Γ p t fs s e s') : Dead b s.heap → Dead b s'.heap := by
  induction h with
  | update ha _ ih => exact fun d => ih (d.update ha)
  | alloc _ ih => exact fun d => ih d.push
  | call _ _ ih1 ih2 => exact fun d => ih2 (ih1 d)
  | resumeFresh _ _ _ _ ih1 ih2 => exact fun d => ih2 (ih1 d)
  | resumeSuspended _ _ _ _ ih1 ih2 => exact fun d => ih2 (ih1 d)
  | segRet _ _ ih1 ih2 => exact fun d => ih2 (ih1 d)
  | segGen _ _ ih1 ih2 => exact fun d => ih2 (ih1 d)
  | segSuspGen _ _ _ _ ih1 ih2 => exact fun d => ih2 (ih1 d)
  | _ =>
    intro d
    first
      | exact d
      | (rename_i ih; exact ih d)
/-- whatever a code answers, a dead address stays dead -/
theorem code_dead {M : Model} {A : Around} {c : Code} {Q : Result → Shared → Prop} {s : Shared} (h : codeAny M A c Q s) : codeAny M A c (fun r s' => Q r s' ∧ ∀ b, Dead b s.heap → Dead b s'.heap) s := by
  intro Γ p hc hΓ
  obtain ⟨r, s', hr, q⟩ := h Γ p hc hΓ
  exact ⟨r, s', hr, q, fun b => runs_dead hr⟩
/-! ### the rule -/
structure ItC1 (K : PySem.W.Frag) (C fi : Addr) : Prop where
  it : PySem.W.findIn K (.ref C) "__iter__" = some (some (.ref fi))
  itF : PySem.W.isFn K (.ref fi) = true
/-- tracked no more -/
theorem inv_rm {X : Cx} {pins : List (Addr × Obj)} {σ : L2.St} {H : Hp} {s : Shared} {it l : Addr} {i : Nat} (I : L2.Inv X pins σ H s) (e : H it = some (ItO l it i)) : L2.Inv X pins σ (rm H it) s := by
  have ne : ∀ {b : Addr} {u : HO}, rm H it b = some u → b ≠ it ∧ H b = some u := fun {b u} q => by
    by_cases c : b = it
    · rw [c, rm_at] at q
      cases q
    · rw [rm_ne c] at q
      exact ⟨c, q⟩
  have no : ∀ {b : Addr}, H b = none → rm H it b = none := fun {b} q => by
    by_cases c : b = it
    · rw [c]; exact rm_at
    · rw [rm_ne c]; exact q
  have dif : ∀ {b : Addr} {u : HO}, H b = some u → u ≠ ItO l it i → rm H it b = some u := fun {b u} q n => by
    rw [rm_ne]
    · exact q
    · intro c
      rw [c, e] at q
      exact n (Option.some.inj q).symm
  refine ⟨I.ok, I.os, I.bare, ⟨I.base.keep, I.base.slot, fun b o q n hx => no (I.base.free b o q n hx), I.base.there, fun b xs q => dif (I.base.tups b xs q) (by intro z; cases z), fun b o u q => dif (I.base.frzs b o u q) (by intro z; cases z), fun b ps q => ?_⟩, I.loc, I.cell, no I.free, fun x c q => no (I.freeC x c q), fun p hp => ?_, ?_, I.len⟩
  · obtain ⟨more, q2⟩ := I.base.tbls b ps q
    exact ⟨more, dif q2 (by intro z; cases z)⟩
  · obtain ⟨h1, h2, h3⟩ := I.pin p hp
    exact ⟨h1, no h2, h3⟩
  · intro b u q
    obtain ⟨c, q⟩ := ne q
    exact (I.hok b u q).stay (fun _ _ _ z => z) (fun d z => dif z (by intro y; cases y)) fun d xs z => dif z (by intro y; cases y)
def iOwnI (K : PySem.W.Frag) (C : Addr) (sp : Sp) (EI : XK) (te : TE) : TI := fun σ H R => te σ H fun x H1 => ∃ a dx fs, x = .ref a ∧ H1 a = some (.ins C dx fs) ∧ sp [.ref a] H1 (fun v H' => ∃ (it l : Addr) (ys : List V), v = .ref it ∧ H1 it = none ∧ H' it = some (ItO l it 0) ∧ H' l = some (.lst ys) ∧ it ≠ l ∧ R (Itl K l) (rm H' it)) EI
section
variable {X : Cx} {CI : CXT} {C fi : Addr} {fdI : FuncData} {psI : List Str} {sp : Sp} {EI : XK} {n : Nat} {tg iter : Expr} {te : TE}
theorem pi_ownI (hl : PE X iter te) (L : ItC1 X.K C fi) (F : FnOk X.prog X.w X.K X.mg X.base CI n fi fdI psI sp) (bd : L2.Binds X.K fdI psI []) (pass : Passes CI X EI) (room : Room n X.A) : PI X tg iter (iOwnI X.K C sp EI te) := by
  refine ⟨fun pins s σ H R I h => ?_⟩
  refine wpAny_mono (hl.run pins s σ H _ I h) (fun v s1 ⟨x, H1, I1, r1, q1⟩ => ?_) fun _ _ z => z
  obtain ⟨a, dx, fs, rfl, ha, hs⟩ := q1
  cases r1
  obtain ⟨mA, om, _⟩ := ins_get I1.hok ha
  obtain ⟨od, inst, _⟩ := om.look
  obtain ⟨m, fr⟩ := I1.fr
  refine PySem.W.owit_iter fr I1.ok.mod.kin inst L.it L.itF ?_
  refine wpAny_call ?_
  have e0 := I1.env0
  have hps : psI.length = 1 := (F.len _ _ _ _ hs).symm
  have run := F.run X.A X.stack s1 H1 ⟨[Value.ref a], []⟩ [Value.ref a] [V.ref a] _ EI room e0 (bd s1 [Value.ref a] I1.kIn (by rw [hps]; rfl)) (.cons rfl .nil) hs
  refine codeAny_mono (code_dead run) ?_
  rintro r s' ⟨hr, dead⟩
  cases r with
  | error e => exact pass pins σ H1 s1 e s' I1 hr
  | ok fl =>
    cases fl with
    | ret u =>
      obtain ⟨v, H', os, bare, un, hok, rv, hq'⟩ := hr
      obtain ⟨it, l, ys, rfl, nit, hit, hl2, nel, qq⟩ := hq'
      have I' : L2.Inv X pins σ H' s' := I1.call' (ch := []) os un hok bare (fun b z => absurd z (by simp))
      have eu : u = .ref it := rv
      subst eu
      have ob := itO_get I' hit
      have big : s1.heap.objs.size ≤ it := by
        refine Decidable.byContradiction fun c => ?_
        have lt : it < s1.heap.objs.size := Nat.lt_of_not_le c
        cases eg : s1.heap.get? it with
        | none =>
          have := (dead it ⟨lt, eg⟩).2
          rw [ob] at this
          cases this
        | some o =>
          have := un.free it o eg nit (by simp)
          rw [hit] at this
          cases this
      show wpAny _ _ (specialOf (.ref it) "__next__") _ _ s'
      refine wpAny_specialOf ⟨_, ob, rfl⟩ slot_listiter_next.lookup ?_
      have J := inv_rm I' hit
      have z : rm H' it it = none := rm_at
      refine ⟨it, [it], _, _, rm H' it, rfl, J, turn_list l it, ⟨_, ob, rfl, rfl⟩, fun b hb => ?_, qq⟩
      have e : b = it := by simpa using hb
      subst e
      refine ⟨rm_at, fun c => ?_, I1.nofs big, .inr (Nat.le_trans I1.sz big), fun x c ec e => ?_, fun p hp e => ?_⟩
      · have := I'.free
        rw [← c, hit] at this
        cases this
      · have := I'.freeC x c ec
        rw [e, hit] at this
        cases this
      · have := (I'.pin p hp).2.1
        rw [e, hit] at this
        cases this
    | _ => exact hr.elim
end
section
variable {X : Cx} {tg iter : Expr} {te : TE} {C : Addr} {sp : Sp} {EI : XK}
theorem k_oi (K : PySem.W.Frag) (h : PI X tg iter (iOwnI X.K C sp EI te)) (e : X.K = K := by rfl) : PI X tg iter (iOwnI K C sp EI te) := by subst e; exact h
end
def kLcO (K : PySem.W.Frag) (C : Addr) (sp : Sp) (EI : XK) (g : TG) (tt : TT) (te : TE) (vs : List Nat) (σ : L2.St) (x : V) (H : Hp) (Q : VK) : Prop := ∃ a dx fs, x = .ref a ∧ H a = some (.ins C dx fs) ∧ sp [.ref a] H (fun v H' => ∃ (it l : Addr) (ys : List V), v = .ref it ∧ H it = none ∧ H' it = some (ItO l it 0) ∧ H' l = some (.lst ys) ∧ it ≠ l ∧ kLc (Itl K l) g tt te vs σ (rm H' it) Q) EI
section
variable {K : PySem.W.Frag} {σ : L2.St} {F : Hp} {O : Own} {H : Hp} {Q : VK} {ta te : TE} {tt : TT} {vs : List Nat} {g : TG} {C : Addr} {sp : Sp} {EI : XK}
theorem g_lcO (q : ta σ H fun x H1 => kLcO K C sp EI g tt te vs σ x H1 Q) : tLc (iOwnI K C sp EI ta) g tt te vs σ H Q := q
theorem k_lcO {a dx l : Addr} {fs : List (Str × V)} {nl : Str} {ys : List V} (h : H a = some (.ins C dx fs)) (lk : fs.lookup nl = some (.ref l)) (hl : H l = some (.lst ys)) (q : kLcL K g tt te vs σ (.ref l) H Q) : kLcO K C (spIt C nl) EI g tt te vs σ (.ref a) H Q := by
  refine ⟨a, dx, fs, rfl, h, a, dx, fs, l, ys, rfl, h, lk, hl, fun it ni => ?_⟩
  have ne : it ≠ l := fun e => by rw [e, hl] at ni; cases ni
  refine ⟨it, l, ys, rfl, ni, upd_same, by rw [upd_ne ne.symm]; exact hl, ne, ?_⟩
  have e : rm (upd H it (ItO l it 0)) it = H := by
    funext x
    by_cases c : x = it
    · rw [c, rm_at, ni]
    · rw [rm_ne c, upd_ne c]
  rw [e]
  obtain ⟨b, eb, _, qq⟩ := q
  cases eb
  exact qq
end
end Qk

namespace K13
open PySem PySem.Spec PyProof.Rows L2 Qk
/-! ### the text -/
def topS (i : Nat) : Stmt := PySem.Challenge.pw_partclones_k13_order_under.main.body.getD i (.Pass ⟨0, 0, 0, 0⟩)
abbrev s_is_name : Stmt := topS 10
abbrev n_is_name : List Str := ["value", "sign"]
theorem sc_is_name : FnScope n_is_name ["value"] (defScope s_is_name) := ⟨rfl, rfl, rfl, by decide +kernel, rfl, by decide +kernel, by decide +kernel⟩
abbrev s_l_cells : Stmt := topS 14
abbrev n_l_cells : List Str := ["script", "cell"]
theorem sc_l_cells : FnScope n_l_cells ["script"] (defScope s_l_cells) := ⟨rfl, rfl, rfl, by decide +kernel, rfl, by decide +kernel, by decide +kernel⟩
abbrev s_l_next : Stmt := topS 15
abbrev n_l_next : List Str := ["feed", "many", "drawn"]
theorem sc_l_next : FnScope n_l_next ["feed", "many"] (defScope s_l_next) := ⟨rfl, rfl, rfl, by decide +kernel, rfl, by decide +kernel, by decide +kernel⟩
abbrev s_l_named : Stmt := topS 16
abbrev n_l_named : List Str := ["feed", "count", "style", "by", "start", "place", "letters", "names", "i", "rank", "sign", "number", "size"]
theorem sc_l_named : FnScope n_l_named ["feed", "count"] (defScope s_l_named) := ⟨rfl, rfl, rfl, by decide +kernel, rfl, by decide +kernel, by decide +kernel⟩
abbrev s_l_drawn : Stmt := topS 17
abbrev n_l_drawn : List Str := ["feed", "web", "sizes", "i", "row", "k", "at"]
theorem sc_l_drawn : FnScope n_l_drawn ["feed"] (defScope s_l_drawn) := ⟨rfl, rfl, rfl, by decide +kernel, rfl, by decide +kernel, by decide +kernel⟩
abbrev s_l_large : Stmt := topS 18
abbrev n_l_large : List Str := ["feed", "back", "by", "web", "i", "row"]
theorem sc_l_large : FnScope n_l_large ["feed"] (defScope s_l_large) := ⟨rfl, rfl, rfl, by decide +kernel, rfl, by decide +kernel, by decide +kernel⟩
abbrev s_l_walked : Stmt := topS 19
abbrev n_l_walked : List Str := ["web", "masks", "i", "mask", "at"]
theorem sc_l_walked : FnScope n_l_walked ["web"] (defScope s_l_walked) := ⟨rfl, rfl, rfl, by decide +kernel, rfl, by decide +kernel, by decide +kernel⟩
abbrev s_l_among : Stmt := topS 20
abbrev n_l_among : List Str := ["names", "mask", "found", "k"]
theorem sc_l_among : FnScope n_l_among ["names", "mask"] (defScope s_l_among) := ⟨rfl, rfl, rfl, by decide +kernel, rfl, by decide +kernel, by decide +kernel⟩
abbrev s_l_string : Stmt := topS 21
abbrev n_l_string : List Str := ["feed", "signs", "odd", "word", "k"]
theorem sc_l_string : FnScope n_l_string ["feed"] (defScope s_l_string) := ⟨rfl, rfl, rfl, by decide +kernel, rfl, by decide +kernel, by decide +kernel⟩
abbrev s_l_is_good : Stmt := topS 22
abbrev n_l_is_good : List Str := ["word", "signs", "sign"]
theorem sc_l_is_good : FnScope n_l_is_good ["word"] (defScope s_l_is_good) := ⟨rfl, rfl, rfl, by decide +kernel, rfl, by decide +kernel, by decide +kernel⟩
abbrev s_l_put : Stmt := topS 23
abbrev n_l_put : List Str := ["order", "name", "parents", "kept", "told", "e", "flags"]
theorem sc_l_put : FnScope n_l_put ["order", "name", "parents"] (defScope s_l_put) := ⟨rfl, rfl, rfl, by decide +kernel, rfl, by decide +kernel, by decide +kernel⟩
abbrev s_l_refused : Stmt := topS 24
abbrev n_l_refused : List Str := ["names", "web", "i", "draws", "new", "good", "odd", "bad", "cut", "rows", "twice", "old", "at"]
theorem sc_l_refused : FnScope n_l_refused ["names", "web", "i", "draws"] (defScope s_l_refused) := ⟨rfl, rfl, rfl, by decide +kernel, rfl, by decide +kernel, by decide +kernel⟩
abbrev s_l_as_own : Stmt := topS 25
abbrev n_l_as_own : List Str := ["order", "names", "masks", "due", "turn", "told", "i", "flag", "under", "k", "name"]
theorem sc_l_as_own : FnScope n_l_as_own ["order", "names", "masks"] (defScope s_l_as_own) := ⟨rfl, rfl, rfl, by decide +kernel, rfl, by decide +kernel, by decide +kernel⟩
abbrev s_l_asked : Stmt := topS 26
abbrev n_l_asked : List Str := ["order", "which", "words", "e", "flags"]
theorem sc_l_asked : FnScope n_l_asked ["order", "which", "words"] (defScope s_l_asked) := ⟨rfl, rfl, rfl, by decide +kernel, rfl, by decide +kernel, by decide +kernel⟩
abbrev s_l_strangers : Stmt := topS 27
abbrev n_l_strangers : List Str := ["order", "names", "count", "draw", "known", "odd", "word", "flag", "due", "rows", "row", "passed", "turn", "told"]
theorem sc_l_strangers : FnScope n_l_strangers ["order", "names", "count", "draw"] (defScope s_l_strangers) := ⟨rfl, rfl, rfl, by decide +kernel, rfl, by decide +kernel, by decide +kernel⟩
abbrev s_l_spelt : Stmt := topS 28
abbrev n_l_spelt : List Str := ["order", "names", "words", "count", "word", "good", "flag", "field", "due"]
theorem sc_l_spelt : FnScope n_l_spelt ["order", "names", "words", "count"] (defScope s_l_spelt) := ⟨rfl, rfl, rfl, by decide +kernel, rfl, by decide +kernel, by decide +kernel⟩
abbrev s_law : Stmt := topS 29
abbrev n_law : List Str := ["script", "feed", "web", "draws", "large", "names", "words", "masks", "order", "twin", "i", "row", "flags", "passed", "k", "at"]
theorem sc_law : FnScope n_law ["script"] (defScope s_law) := ⟨rfl, rfl, rfl, by decide +kernel, rfl, by decide +kernel, by decide +kernel⟩
abbrev s_Order___init__ : Stmt := inClass (topS 12) 0
abbrev n_Order___init__ : List Str := ["self"]
theorem sc_Order___init__ : FnScope n_Order___init__ ["self"] (defScope s_Order___init__) := ⟨rfl, rfl, rfl, by decide +kernel, rfl, by decide +kernel, by decide +kernel⟩
abbrev s_Order_put : Stmt := inClass (topS 12) 1
abbrev n_Order_put : List Str := ["self", "name", "parents", "checked_parents", "found", "parent", "version"]
theorem sc_Order_put : FnScope n_Order_put ["self", "name", "parents"] (defScope s_Order_put) := ⟨rfl, rfl, rfl, by decide +kernel, rfl, by decide +kernel, by decide +kernel⟩
abbrev s_Order___iter__ : Stmt := inClass (topS 12) 2
abbrev n_Order___iter__ : List Str := ["self"]
theorem sc_Order___iter__ : FnScope n_Order___iter__ ["self"] (defScope s_Order___iter__) := ⟨rfl, rfl, rfl, by decide +kernel, rfl, by decide +kernel, by decide +kernel⟩
abbrev s_Order_names : Stmt := inClass (topS 12) 3
abbrev n_Order_names : List Str := ["self"]
theorem sc_Order_names : FnScope n_Order_names ["self"] (defScope s_Order_names) := ⟨rfl, rfl, rfl, by decide +kernel, rfl, by decide +kernel, by decide +kernel⟩
abbrev s_Order_has : Stmt := inClass (topS 12) 4
abbrev n_Order_has : List Str := ["self", "name"]
theorem sc_Order_has : FnScope n_Order_has ["self", "name"] (defScope s_Order_has) := ⟨rfl, rfl, rfl, by decide +kernel, rfl, by decide +kernel, by decide +kernel⟩
abbrev s_Order_under : Stmt := inClass (topS 12) 5
abbrev n_Order_under : List Str := ["self", "name"]
theorem sc_Order_under : FnScope n_Order_under ["self", "name"] (defScope s_Order_under) := ⟨rfl, rfl, rfl, by decide +kernel, rfl, by decide +kernel, by decide +kernel⟩
abbrev s_Order_is_under : Stmt := inClass (topS 12) 6
abbrev n_Order_is_under : List Str := ["self", "low", "high"]
theorem sc_Order_is_under : FnScope n_Order_is_under ["self", "low", "high"] (defScope s_Order_is_under) := ⟨rfl, rfl, rfl, by decide +kernel, rfl, by decide +kernel, by decide +kernel⟩
abbrev s_Order_nearest : Stmt := inClass (topS 12) 7
abbrev n_Order_nearest : List Str := ["self", "name", "others", "covered", "version", "low"]
theorem sc_Order_nearest : FnScope n_Order_nearest ["self", "name"] (defScope s_Order_nearest) := ⟨rfl, rfl, rfl, by decide +kernel, rfl, by decide +kernel, by decide +kernel⟩
abbrev s_Order_checked : Stmt := inClass (topS 12) 8
abbrev n_Order_checked : List Str := ["self", "names", "found", "name"]
theorem sc_Order_checked : FnScope n_Order_checked ["self", "names"] (defScope s_Order_checked) := ⟨rfl, rfl, rfl, by decide +kernel, rfl, by decide +kernel, by decide +kernel⟩
set_option maxHeartbeats 4000000 in
structure Txt (K : PySem.W.Frag) (mg : Str → Option Value) where
  f_is_name : Addr
  fd_is_name : FuncData
  F_is_name : Fun K "is_name" "is_name" s_is_name f_is_name fd_is_name
  g_is_name : mg "is_name" = some (.ref f_is_name)
  b_is_name : Binds K fd_is_name ["value"] []
  f_l_cells : Addr
  fd_l_cells : FuncData
  F_l_cells : Fun K "_law_cells" "_law_cells" s_l_cells f_l_cells fd_l_cells
  g_l_cells : mg "_law_cells" = some (.ref f_l_cells)
  b_l_cells : Binds K fd_l_cells ["script"] []
  f_l_next : Addr
  fd_l_next : FuncData
  F_l_next : Fun K "_law_next" "_law_next" s_l_next f_l_next fd_l_next
  g_l_next : mg "_law_next" = some (.ref f_l_next)
  b_l_next : Binds K fd_l_next ["feed", "many"] []
  f_l_named : Addr
  fd_l_named : FuncData
  F_l_named : Fun K "_law_named" "_law_named" s_l_named f_l_named fd_l_named
  g_l_named : mg "_law_named" = some (.ref f_l_named)
  b_l_named : Binds K fd_l_named ["feed", "count"] []
  f_l_drawn : Addr
  fd_l_drawn : FuncData
  F_l_drawn : Fun K "_law_drawn" "_law_drawn" s_l_drawn f_l_drawn fd_l_drawn
  g_l_drawn : mg "_law_drawn" = some (.ref f_l_drawn)
  b_l_drawn : Binds K fd_l_drawn ["feed"] []
  f_l_large : Addr
  fd_l_large : FuncData
  F_l_large : Fun K "_law_large" "_law_large" s_l_large f_l_large fd_l_large
  g_l_large : mg "_law_large" = some (.ref f_l_large)
  b_l_large : Binds K fd_l_large ["feed"] []
  f_l_walked : Addr
  fd_l_walked : FuncData
  F_l_walked : Fun K "_law_walked" "_law_walked" s_l_walked f_l_walked fd_l_walked
  g_l_walked : mg "_law_walked" = some (.ref f_l_walked)
  b_l_walked : Binds K fd_l_walked ["web"] []
  f_l_among : Addr
  fd_l_among : FuncData
  F_l_among : Fun K "_law_among" "_law_among" s_l_among f_l_among fd_l_among
  g_l_among : mg "_law_among" = some (.ref f_l_among)
  b_l_among : Binds K fd_l_among ["names", "mask"] []
  f_l_string : Addr
  fd_l_string : FuncData
  F_l_string : Fun K "_law_string" "_law_string" s_l_string f_l_string fd_l_string
  g_l_string : mg "_law_string" = some (.ref f_l_string)
  b_l_string : Binds K fd_l_string ["feed"] []
  f_l_is_good : Addr
  fd_l_is_good : FuncData
  F_l_is_good : Fun K "_law_is_good" "_law_is_good" s_l_is_good f_l_is_good fd_l_is_good
  g_l_is_good : mg "_law_is_good" = some (.ref f_l_is_good)
  b_l_is_good : Binds K fd_l_is_good ["word"] []
  f_l_put : Addr
  fd_l_put : FuncData
  F_l_put : Fun K "_law_put" "_law_put" s_l_put f_l_put fd_l_put
  g_l_put : mg "_law_put" = some (.ref f_l_put)
  b_l_put : Binds K fd_l_put ["order", "name", "parents"] []
  f_l_refused : Addr
  fd_l_refused : FuncData
  F_l_refused : Fun K "_law_refused" "_law_refused" s_l_refused f_l_refused fd_l_refused
  g_l_refused : mg "_law_refused" = some (.ref f_l_refused)
  b_l_refused : Binds K fd_l_refused ["names", "web", "i", "draws"] []
  f_l_as_own : Addr
  fd_l_as_own : FuncData
  F_l_as_own : Fun K "_law_as_own" "_law_as_own" s_l_as_own f_l_as_own fd_l_as_own
  g_l_as_own : mg "_law_as_own" = some (.ref f_l_as_own)
  b_l_as_own : Binds K fd_l_as_own ["order", "names", "masks"] []
  f_l_asked : Addr
  fd_l_asked : FuncData
  F_l_asked : Fun K "_law_asked" "_law_asked" s_l_asked f_l_asked fd_l_asked
  g_l_asked : mg "_law_asked" = some (.ref f_l_asked)
  b_l_asked : Binds K fd_l_asked ["order", "which", "words"] []
  f_l_strangers : Addr
  fd_l_strangers : FuncData
  F_l_strangers : Fun K "_law_strangers" "_law_strangers" s_l_strangers f_l_strangers fd_l_strangers
  g_l_strangers : mg "_law_strangers" = some (.ref f_l_strangers)
  b_l_strangers : Binds K fd_l_strangers ["order", "names", "count", "draw"] []
  f_l_spelt : Addr
  fd_l_spelt : FuncData
  F_l_spelt : Fun K "_law_spelt" "_law_spelt" s_l_spelt f_l_spelt fd_l_spelt
  g_l_spelt : mg "_law_spelt" = some (.ref f_l_spelt)
  b_l_spelt : Binds K fd_l_spelt ["order", "names", "words", "count"] []
  f_law : Addr
  fd_law : FuncData
  F_law : Fun K "law" "law" s_law f_law fd_law
  g_law : mg "law" = some (.ref f_law)
  b_law : Binds K fd_law ["script"] []
  f_Order___init__ : Addr
  fd_Order___init__ : FuncData
  F_Order___init__ : Fun K "__init__" "Order.__init__" s_Order___init__ f_Order___init__ fd_Order___init__
  b_Order___init__ : Binds K fd_Order___init__ ["self"] []
  f_Order_put : Addr
  fd_Order_put : FuncData
  F_Order_put : Fun K "put" "Order.put" s_Order_put f_Order_put fd_Order_put
  b_Order_put : Binds K fd_Order_put ["self", "name", "parents"] []
  f_Order___iter__ : Addr
  fd_Order___iter__ : FuncData
  F_Order___iter__ : Fun K "__iter__" "Order.__iter__" s_Order___iter__ f_Order___iter__ fd_Order___iter__
  b_Order___iter__ : Binds K fd_Order___iter__ ["self"] []
  f_Order_names : Addr
  fd_Order_names : FuncData
  F_Order_names : Fun K "names" "Order.names" s_Order_names f_Order_names fd_Order_names
  b_Order_names : Binds K fd_Order_names ["self"] []
  f_Order_has : Addr
  fd_Order_has : FuncData
  F_Order_has : Fun K "has" "Order.has" s_Order_has f_Order_has fd_Order_has
  b_Order_has : Binds K fd_Order_has ["self", "name"] []
  f_Order_under : Addr
  fd_Order_under : FuncData
  F_Order_under : Fun K "under" "Order.under" s_Order_under f_Order_under fd_Order_under
  b_Order_under : Binds K fd_Order_under ["self", "name"] []
  f_Order_is_under : Addr
  fd_Order_is_under : FuncData
  F_Order_is_under : Fun K "is_under" "Order.is_under" s_Order_is_under f_Order_is_under fd_Order_is_under
  b_Order_is_under : Binds K fd_Order_is_under ["self", "low", "high"] []
  f_Order_nearest : Addr
  fd_Order_nearest : FuncData
  F_Order_nearest : Fun K "nearest" "Order.nearest" s_Order_nearest f_Order_nearest fd_Order_nearest
  b_Order_nearest : Binds K fd_Order_nearest ["self", "name"] []
  f_Order_checked : Addr
  fd_Order_checked : FuncData
  F_Order_checked : Fun K "checked" "Order.checked" s_Order_checked f_Order_checked fd_Order_checked
  b_Order_checked : Binds K fd_Order_checked ["self", "names"] []
  C_Order : Addr
  g_Order : mg "Order" = some (.ref C_Order)
  cl_Order : Cls K C_Order
  nA_Order__names : NoAttr K C_Order "_names"
  nA_Order__under : NoAttr K C_Order "_under"
  nA_Order___len__ : NoAttr K C_Order "__len__"
  nA_Order___length_hint__ : NoAttr K C_Order "__length_hint__"
  ic_Order : InsC K C_Order
  Mk_Order : Mk K C_Order f_Order___init__
  M_Order_put : Meth K C_Order "put" f_Order_put
  M_Order___iter__ : Meth K C_Order "__iter__" f_Order___iter__
  M_Order_names : Meth K C_Order "names" f_Order_names
  M_Order_has : Meth K C_Order "has" f_Order_has
  M_Order_under : Meth K C_Order "under" f_Order_under
  M_Order_is_under : Meth K C_Order "is_under" f_Order_is_under
  M_Order_nearest : Meth K C_Order "nearest" f_Order_nearest
  M_Order_checked : Meth K C_Order "checked" f_Order_checked
  C_PartError : Addr
  g_PartError : mg "PartError" = some (.ref C_PartError)
  C_BadName : Addr
  g_BadName : mg "BadName" = some (.ref C_BadName)
  fi_BadName : Addr
  fdi_BadName : FuncData
  Fi_BadName : Fun K "__init__" "BadName.__init__" (inClass (topS 2) 0) fi_BadName fdi_BadName
  bi_BadName : Binds K fdi_BadName ["self", "name"] []
  O_BadName : OexC K C_BadName
  iC_BadName : PySem.W.findIn K (.ref C_BadName) "__init__" = some (some (.ref fi_BadName))
  tI_BadName : PySem.W.typeIn K (.ref fi_BadName) = some (.type "function")
  N_BadName_name : PySem.W.findIn K (.ref C_BadName) "name" = some none
  XF_BadName : XfC K C_BadName
  IS_BadName : IsC K C_BadName
  C_Taken : Addr
  g_Taken : mg "Taken" = some (.ref C_Taken)
  fi_Taken : Addr
  fdi_Taken : FuncData
  Fi_Taken : Fun K "__init__" "Taken.__init__" (inClass (topS 3) 0) fi_Taken fdi_Taken
  bi_Taken : Binds K fdi_Taken ["self", "name"] []
  O_Taken : OexC K C_Taken
  iC_Taken : PySem.W.findIn K (.ref C_Taken) "__init__" = some (some (.ref fi_Taken))
  tI_Taken : PySem.W.typeIn K (.ref fi_Taken) = some (.type "function")
  N_Taken_name : PySem.W.findIn K (.ref C_Taken) "name" = some none
  XF_Taken : XfC K C_Taken
  IS_Taken : IsC K C_Taken
  C_Unknown : Addr
  g_Unknown : mg "Unknown" = some (.ref C_Unknown)
  fi_Unknown : Addr
  fdi_Unknown : FuncData
  Fi_Unknown : Fun K "__init__" "Unknown.__init__" (inClass (topS 4) 0) fi_Unknown fdi_Unknown
  bi_Unknown : Binds K fdi_Unknown ["self", "name"] []
  O_Unknown : OexC K C_Unknown
  iC_Unknown : PySem.W.findIn K (.ref C_Unknown) "__init__" = some (some (.ref fi_Unknown))
  tI_Unknown : PySem.W.typeIn K (.ref fi_Unknown) = some (.type "function")
  N_Unknown_name : PySem.W.findIn K (.ref C_Unknown) "name" = some none
  XF_Unknown : XfC K C_Unknown
  IS_Unknown : IsC K C_Unknown
  C_Repeated : Addr
  g_Repeated : mg "Repeated" = some (.ref C_Repeated)
  fi_Repeated : Addr
  fdi_Repeated : FuncData
  Fi_Repeated : Fun K "__init__" "Repeated.__init__" (inClass (topS 5) 0) fi_Repeated fdi_Repeated
  bi_Repeated : Binds K fdi_Repeated ["self", "name"] []
  O_Repeated : OexC K C_Repeated
  iC_Repeated : PySem.W.findIn K (.ref C_Repeated) "__init__" = some (some (.ref fi_Repeated))
  tI_Repeated : PySem.W.typeIn K (.ref fi_Repeated) = some (.type "function")
  N_Repeated_name : PySem.W.findIn K (.ref C_Repeated) "name" = some none
  XF_Repeated : XfC K C_Repeated
  IS_Repeated : IsC K C_Repeated
  M_BadName_PartError : PySem.W.exmOne K (.ref C_BadName) (.ref C_PartError) = some true
  K_BadName_BadName : PySem.W.kitOne K (.ref C_BadName) (.ref C_BadName) = some true
  K_BadName_Repeated : PySem.W.kitOne K (.ref C_BadName) (.ref C_Repeated) = some false
  K_BadName_Taken : PySem.W.kitOne K (.ref C_BadName) (.ref C_Taken) = some false
  K_BadName_Unknown : PySem.W.kitOne K (.ref C_BadName) (.ref C_Unknown) = some false
  K_BadName_ValueError : PySem.W.kitOne K (.ref C_BadName) (.type "ValueError") = some true
  M_Taken_PartError : PySem.W.exmOne K (.ref C_Taken) (.ref C_PartError) = some true
  K_Taken_BadName : PySem.W.kitOne K (.ref C_Taken) (.ref C_BadName) = some false
  K_Taken_Repeated : PySem.W.kitOne K (.ref C_Taken) (.ref C_Repeated) = some false
  K_Taken_Taken : PySem.W.kitOne K (.ref C_Taken) (.ref C_Taken) = some true
  K_Taken_Unknown : PySem.W.kitOne K (.ref C_Taken) (.ref C_Unknown) = some false
  K_Taken_ValueError : PySem.W.kitOne K (.ref C_Taken) (.type "ValueError") = some true
  M_Unknown_PartError : PySem.W.exmOne K (.ref C_Unknown) (.ref C_PartError) = some true
  K_Unknown_BadName : PySem.W.kitOne K (.ref C_Unknown) (.ref C_BadName) = some false
  K_Unknown_Repeated : PySem.W.kitOne K (.ref C_Unknown) (.ref C_Repeated) = some false
  K_Unknown_Taken : PySem.W.kitOne K (.ref C_Unknown) (.ref C_Taken) = some false
  K_Unknown_Unknown : PySem.W.kitOne K (.ref C_Unknown) (.ref C_Unknown) = some true
  K_Unknown_ValueError : PySem.W.kitOne K (.ref C_Unknown) (.type "ValueError") = some true
  M_Repeated_PartError : PySem.W.exmOne K (.ref C_Repeated) (.ref C_PartError) = some true
  K_Repeated_BadName : PySem.W.kitOne K (.ref C_Repeated) (.ref C_BadName) = some false
  K_Repeated_Repeated : PySem.W.kitOne K (.ref C_Repeated) (.ref C_Repeated) = some true
  K_Repeated_Taken : PySem.W.kitOne K (.ref C_Repeated) (.ref C_Taken) = some false
  K_Repeated_Unknown : PySem.W.kitOne K (.ref C_Repeated) (.ref C_Unknown) = some false
  K_Repeated_ValueError : PySem.W.kitOne K (.ref C_Repeated) (.type "ValueError") = some true
  m_ValueError : mg "ValueError" = none
  m_abs : mg "abs" = none
  m_bool : mg "bool" = none
  m_int : mg "int" = none
  m_isinstance : mg "isinstance" = none
  m_iter : mg "iter" = none
  m_len : mg "len" = none
  m_list : mg "list" = none
  m_max : mg "max" = none
  m_range : mg "range" = none
  m_sorted : mg "sorted" = none
  m_str : mg "str" = none
  k_NAME_LETTERS : ∃ u, mg "NAME_LETTERS" = some u ∧ RelV (.str "abcdefghijklmnopqrstuvwxyz") u
  k_NAME_DIGITS : ∃ u, mg "NAME_DIGITS" = some u ∧ RelV (.str "0123456789") u
  k_NAME_LENGTH : ∃ u, mg "NAME_LENGTH" = some u ∧ RelV (.int 6) u
section
variable {P : Program} {w : World} {K : PySem.W.Frag} {mg : Str → Option Value} {base : Heap}
theorem sc_init_BadName : FnScope ["self", "name"] ["self", "name"] (defScope (inClass (topS 2) 0)) := ⟨rfl, rfl, rfl, by decide +kernel, rfl, by decide +kernel, by decide +kernel⟩
theorem ok_init_BadName (T : Txt K mg) : FnOk P w K mg base CX0 1 T.fi_BadName T.fdi_BadName ["self", "name"] (sp_oinit T.C_BadName ["name"]) := by
  refine T.Fi_BadName.ok sc_init_BadName (fun vs H Q E h => sp_oinit_len h) (fun cdv A outer s H vs Q E hr h => ?_)
  refine ⟨_, (pss_one (ps_ost (pv 0) (pv 1))), ?_⟩
  obtain ⟨a, ws, rfl, hl, ha, q⟩ := h
  match ws, hl with
  | [v1], _ =>
  refine ⟨_, rfl, _, rfl, a, T.C_BadName, rfl, T.O_BadName, T.N_BadName_name, .inl ⟨ha, fun dx n ne => ?_⟩⟩
  have z := q dx n ne
  first | exact z | (rw [upd_over ne]; exact z) | (rw [upd_over ne, upd_over ne]; exact z)
theorem sc_init_Taken : FnScope ["self", "name"] ["self", "name"] (defScope (inClass (topS 3) 0)) := ⟨rfl, rfl, rfl, by decide +kernel, rfl, by decide +kernel, by decide +kernel⟩
theorem ok_init_Taken (T : Txt K mg) : FnOk P w K mg base CX0 1 T.fi_Taken T.fdi_Taken ["self", "name"] (sp_oinit T.C_Taken ["name"]) := by
  refine T.Fi_Taken.ok sc_init_Taken (fun vs H Q E h => sp_oinit_len h) (fun cdv A outer s H vs Q E hr h => ?_)
  refine ⟨_, (pss_one (ps_ost (pv 0) (pv 1))), ?_⟩
  obtain ⟨a, ws, rfl, hl, ha, q⟩ := h
  match ws, hl with
  | [v1], _ =>
  refine ⟨_, rfl, _, rfl, a, T.C_Taken, rfl, T.O_Taken, T.N_Taken_name, .inl ⟨ha, fun dx n ne => ?_⟩⟩
  have z := q dx n ne
  first | exact z | (rw [upd_over ne]; exact z) | (rw [upd_over ne, upd_over ne]; exact z)
theorem sc_init_Unknown : FnScope ["self", "name"] ["self", "name"] (defScope (inClass (topS 4) 0)) := ⟨rfl, rfl, rfl, by decide +kernel, rfl, by decide +kernel, by decide +kernel⟩
theorem ok_init_Unknown (T : Txt K mg) : FnOk P w K mg base CX0 1 T.fi_Unknown T.fdi_Unknown ["self", "name"] (sp_oinit T.C_Unknown ["name"]) := by
  refine T.Fi_Unknown.ok sc_init_Unknown (fun vs H Q E h => sp_oinit_len h) (fun cdv A outer s H vs Q E hr h => ?_)
  refine ⟨_, (pss_one (ps_ost (pv 0) (pv 1))), ?_⟩
  obtain ⟨a, ws, rfl, hl, ha, q⟩ := h
  match ws, hl with
  | [v1], _ =>
  refine ⟨_, rfl, _, rfl, a, T.C_Unknown, rfl, T.O_Unknown, T.N_Unknown_name, .inl ⟨ha, fun dx n ne => ?_⟩⟩
  have z := q dx n ne
  first | exact z | (rw [upd_over ne]; exact z) | (rw [upd_over ne, upd_over ne]; exact z)
theorem sc_init_Repeated : FnScope ["self", "name"] ["self", "name"] (defScope (inClass (topS 5) 0)) := ⟨rfl, rfl, rfl, by decide +kernel, rfl, by decide +kernel, by decide +kernel⟩
theorem ok_init_Repeated (T : Txt K mg) : FnOk P w K mg base CX0 1 T.fi_Repeated T.fdi_Repeated ["self", "name"] (sp_oinit T.C_Repeated ["name"]) := by
  refine T.Fi_Repeated.ok sc_init_Repeated (fun vs H Q E h => sp_oinit_len h) (fun cdv A outer s H vs Q E hr h => ?_)
  refine ⟨_, (pss_one (ps_ost (pv 0) (pv 1))), ?_⟩
  obtain ⟨a, ws, rfl, hl, ha, q⟩ := h
  match ws, hl with
  | [v1], _ =>
  refine ⟨_, rfl, _, rfl, a, T.C_Repeated, rfl, T.O_Repeated, T.N_Repeated_name, .inl ⟨ha, fun dx n ne => ?_⟩⟩
  have z := q dx n ne
  first | exact z | (rw [upd_over ne]; exact z) | (rw [upd_over ne, upd_over ne]; exact z)
end
local macro_rules | `(tactic| walk_at "m") => `(tactic| ((repeat (first | exact List.Mem.head _ | apply List.Mem.tail)); done))
local macro_rules | `(tactic| walk_at "h") => `(tactic| first | assumption | exact Has.gF (by assumption) (by assumption) | exact Has.get (by assumption) (by walk_at "m"))
local macro_rules | `(tactic| walk_at "c") => `(tactic| ((repeat (first | exact Chg.hd | apply Chg.tl)); done))
local macro_rules | `(tactic| walk_at "is") => `(tactic| first
  | ((with_reducible refine' is2_non ?gh ?_); (case gh => walk_at "h"))
  | (with_reducible refine is_int_list ?_)
  | (with_reducible refine is_int_tuple ?_)
  | (with_reducible refine is_int_dict ?_)
  | (with_reducible refine is_int_int ?_)
  | (with_reducible refine is_int_bool ?_)
  | (with_reducible refine is_int_str ?_)
  | ((with_reducible refine' is2_int ?gh ?_); (case gh => walk_at "h"))
  | (with_reducible refine is_str_list ?_)
  | (with_reducible refine is_str_tuple ?_)
  | (with_reducible refine is_str_dict ?_)
  | (with_reducible refine is_str_int ?_)
  | (with_reducible refine is_str_bool ?_)
  | (with_reducible refine is_str_str ?_)
  | ((with_reducible refine' is2_str ?gh ?_); (case gh => walk_at "h"))
  | (with_reducible refine is_bool_list ?_)
  | (with_reducible refine is_bool_tuple ?_)
  | (with_reducible refine is_bool_dict ?_)
  | (with_reducible refine is_bool_int ?_)
  | (with_reducible refine is_bool_bool ?_)
  | (with_reducible refine is_bool_str ?_)
  | ((with_reducible refine' is2_bool ?gh ?_); (case gh => walk_at "h"))
  | ((with_reducible refine' is_list_list ?gh ?_); (case gh => walk_at "h"))
  | ((with_reducible refine' is_list_tuple ?gh ?_); (case gh => walk_at "h"))
  | ((with_reducible refine' is_list_dict ?gh ?_); (case gh => walk_at "h"))
  | ((with_reducible refine' is_list_int ?gh ?_); (case gh => walk_at "h"))
  | ((with_reducible refine' is_list_bool ?gh ?_); (case gh => walk_at "h"))
  | ((with_reducible refine' is_list_str ?gh ?_); (case gh => walk_at "h"))
  | ((with_reducible refine' is2_list ?ga ?gb ?_); (case ga => walk_at "h"); (case gb => walk_at "h"))
  | ((with_reducible refine' is_tuple_list ?gh ?_); (case gh => walk_at "h"))
  | ((with_reducible refine' is_tuple_tuple ?gh ?_); (case gh => walk_at "h"))
  | ((with_reducible refine' is_tuple_dict ?gh ?_); (case gh => walk_at "h"))
  | ((with_reducible refine' is_tuple_int ?gh ?_); (case gh => walk_at "h"))
  | ((with_reducible refine' is_tuple_bool ?gh ?_); (case gh => walk_at "h"))
  | ((with_reducible refine' is_tuple_str ?gh ?_); (case gh => walk_at "h"))
  | ((with_reducible refine' is2_tuple ?ga ?gb ?_); (case ga => walk_at "h"); (case gb => walk_at "h"))
  | ((with_reducible refine' is_dict_list ?gh ?_); (case gh => walk_at "h"))
  | ((with_reducible refine' is_dict_tuple ?gh ?_); (case gh => walk_at "h"))
  | ((with_reducible refine' is_dict_dict ?gh ?_); (case gh => walk_at "h"))
  | ((with_reducible refine' is_dict_int ?gh ?_); (case gh => walk_at "h"))
  | ((with_reducible refine' is_dict_bool ?gh ?_); (case gh => walk_at "h"))
  | ((with_reducible refine' is_dict_str ?gh ?_); (case gh => walk_at "h"))
  | ((with_reducible refine' is2_dict ?ga ?gb ?_); (case ga => walk_at "h"); (case gb => walk_at "h")))
local macro_rules | `(tactic| walk_at "g") => `(tactic| first
  | (with_reducible refine g_seq ?_)
  | (with_reducible refine g_asg ?_)
  | ((with_reducible refine g_name ?_); dsimp only [List.set, wipe, List.map])
  | ((with_reducible refine' g_var ?gv ?_); (case gv => exact rfl))
  | (with_reducible refine g_c ?_)
  | (with_reducible refine g_op ?_)
  | (with_reducible refine g_cons ?_)
  | (with_reducible refine g_nil ?_)
  | (with_reducible refine g_cb ?_)
  | (with_reducible refine g_call ?_)
  | (with_reducible refine g_tup ?_)
  | (with_reducible refine g_lst ?_)
  | (with_reducible refine g_bm ?_)
  | (with_reducible refine g_bm0 ?_)
  | ((with_reducible refine' g_kbm ?gh ?_); (case gh => walk_at "h"))
  | (with_reducible refine g_drop ?_)
  | (with_reducible refine g_ret ?_)
  | (with_reducible refine g_retN ?_)
  | (with_reducible refine g_next ?_)
  | (with_reducible refine g_brk ?_)
  | (with_reducible refine g_cont ?_)
  | (with_reducible refine g_if ?_)
  | ((with_reducible refine' g_aug ?gv ?_); (case gv => exact rfl))
  | (with_reducible refine g_ipI ?_)
  | (with_reducible refine g_test ?_)
  | (with_reducible refine g_tB ?_)
  | (with_reducible refine g_kB ?_)
  | (with_reducible refine g_not ?_)
  | (with_reducible refine g_and ?_)
  | (with_reducible refine g_or ?_)
  | (with_reducible refine g_andV ?_)
  | (with_reducible refine g_orV ?_)
  | (with_reducible refine g_notV ?_)
  | (with_reducible refine g_ifE ?_)
  | (with_reducible refine g_addI ?_)
  | (with_reducible refine g_rI0 ?_)
  | (with_reducible refine g_eqI ?_)
  | (with_reducible refine g_eqS ?_)
  | (with_reducible refine g_neI ?_)
  | (with_reducible refine g_neS ?_)
  | (with_reducible refine g_isN ?_)
  | (with_reducible refine g_notN ?_)
  | (with_reducible refine g_int ?_)
  | (with_reducible refine g_max2 ?_)
  | (with_reducible refine g_min2 ?_)
  | ((with_reducible refine' g_lenL ?gh ?_); (case gh => walk_at "h"))
  | (with_reducible refine g_sub ?_)
  | (with_reducible refine g_gcons ?_)
  | (with_reducible refine g_gnil ?_)
  | (with_reducible refine g_un ?_)
  | (with_reducible refine g_rU ?_)
  | (with_reducible refine g_forL ?_)
  | (with_reducible refine g_forS ?_)
  | (with_reducible refine g_forR1 ?_)
  | (with_reducible refine g_forR2 ?_)
  | (with_reducible refine g_forR3 ?_)
  | (with_reducible refine g_lcL ?_)
  | (with_reducible refine g_lcR1 ?_)
  | (with_reducible refine g_lcR2 ?_)
  | (with_reducible refine g_slice ?_)
  | (with_reducible refine g_part ?_)
  | (with_reducible refine g_kOI ?_)
  | (with_reducible refine g_nopart ?_)
  | (with_reducible refine g_yes ?_)
  | ((with_reducible refine' g_wipe ?gv ?_); (case gv => exact rfl))
  | (with_reducible refine iteT ?_)
  | (with_reducible refine iteF ?_)
  | (with_reducible refine i_nf ?_)
  | (with_reducible refine i_nt ?_)
  | ((with_reducible refine' g_gtup ?gh ?gl ?_); (case gh => walk_at "h"); (case gl => exact rfl))
  | ((with_reducible refine' g_notinI ?gh ?_); (case gh => walk_at "h"))
  | ((with_reducible refine' g_inI ?gh ?_); (case gh => walk_at "h"))
  | ((with_reducible refine' g_kget2 ?gh ?_); (case gh => walk_at "h"))
  | ((with_reducible refine' g_kgotI ?gh ?_); (case gh => walk_at "h"))
  | (with_reducible refine g_tRev ?_)
  | (with_reducible refine g_neB ?_)
  | (with_reducible refine g_eqB ?_)
  | ((with_reducible refine' g_lenT ?gh ?_); (case gh => walk_at "h"))
  | (with_reducible refine g_star ?_)
  | ((with_reducible refine' g_kstarL ?gh ?_); (case gh => walk_at "h"))
  | ((with_reducible refine' g_kstarT ?gh ?_); (case gh => walk_at "h"))
  | (with_reducible refine g_tru ?_)
  | ((with_reducible refine' g_truL ?gh ?_); (case gh => walk_at "h"))
  | (with_reducible refine g_get2 ?_)
  | (with_reducible refine g_try ?_)
  | (with_reducible refine g_fld ?_)
  | (with_reducible refine g_sfld ?_)
  | (with_reducible refine g_meth ?_)
  | (with_reducible refine g_make ?_)
  | (with_reducible refine g_del ?_)
  | (with_reducible refine g_callS ?_)
  | (with_reducible refine g_raise ?_)
  | (with_reducible refine g_xf ?_)
  | (with_reducible refine g_m0 ?_)
  | (with_reducible refine g_km0 ?_)
  | walk_at "is")
local macro_rules | `(tactic| walk_at "gg") => `(tactic| repeat walk_at "g")
local macro_rules | `(tactic| walk_at "sz") => `(tactic| (refine sz ?_; simp only [List.length_cons, List.length_nil, List.length_map, List.length_append, List.length_replicate]; omega))
local macro_rules | `(tactic| walk_at "sub") => `(tactic| ((repeat (first | exact List.Sublist.slnil | with_reducible apply List.Sublist.cons_cons | with_reducible apply List.Sublist.cons)); done))

/-! ### names -/
def lettersL : List Nat := ("abcdefghijklmnopqrstuvwxyz" : Str).cps.toList
def digitsL : List Nat := ("0123456789" : Str).cps.toList
structure NmOk (z : Str) : Prop where
  l1 : 1 ≤ z.length
  l2 : z.length ≤ 6
  hd : ∀ c, z.cps[0]? = some c → c ∈ lettersL
  all : ∀ c, c ∈ z.cps.toList → c ∈ lettersL ∨ c ∈ digitsL
def isNm (z : Str) : Bool := decide (1 ≤ z.length) && decide (z.length ≤ 6) && (match z.cps[0]? with | some c => decide (c ∈ lettersL) | none => false) && z.cps.toList.all fun c => decide (c ∈ lettersL) || decide (c ∈ digitsL)
theorem isNm_iff {z : Str} : isNm z = true ↔ NmOk z := by
  unfold isNm
  rw [Bool.and_eq_true, Bool.and_eq_true, Bool.and_eq_true, decide_eq_true_eq, decide_eq_true_eq, List.all_eq_true]
  constructor
  · rintro ⟨⟨⟨l1, l2⟩, h0⟩, ha⟩
    refine ⟨l1, l2, fun c hc => ?_, fun c hc => ?_⟩
    · rw [hc] at h0
      exact of_decide_eq_true h0
    · have := ha c hc
      rw [Bool.or_eq_true, decide_eq_true_eq, decide_eq_true_eq] at this
      exact this
  · rintro ⟨l1, l2, h0, ha⟩
    refine ⟨⟨⟨l1, l2⟩, ?_⟩, fun c hc => by rw [Bool.or_eq_true, decide_eq_true_eq, decide_eq_true_eq]; exact ha c hc⟩
    have hlt : 0 < z.cps.size := l1
    have e0 : z.cps[0]? = some z.cps[0] := Array.getElem?_eq_getElem hlt
    rw [e0]
    exact decide_eq_true (h0 _ e0)
theorem isNm_no {z : Str} (h : ¬ NmOk z) : isNm z = false := by
  cases e : isNm z with
  | false => rfl
  | true => exact (h (isNm_iff.mp e)).elim
section
variable {P : Program} {w : World} {K : PySem.W.Frag} {mg : Str → Option Value} {base : Heap}
def sp_is_name (K : PySem.W.Frag) : Sp := fun vs H Q _ => ∃ z : Str, vs = [.str z] ∧ z.length ≤ 10000 ∧ Q (.bl (isNm z)) H
theorem sp_is_name_len {vs H Q E} (h : sp_is_name K vs H Q E) : vs.length = 1 := by
  obtain ⟨_, rfl, _⟩ := h
  rfl
theorem ok_is_name (T : Txt K mg) : FnOk P w K mg base CX0 1 T.f_is_name T.fd_is_name ["value"] (sp_is_name K) := by
  refine T.F_is_name.ok sc_is_name (fun vs H Q E h => sp_is_name_len h) (fun cdv A outer s H vs Q E hr h => ?_)
  refine ⟨_, (pss_cons (ps_if (pt_cmpR (op_eqK K hr.units) (pv 0) pe_str (nomark _)) (pss_one (ps_ret pe_bl)) pss_nil)
      (pss_cons (ps_if (pt_cmpR op_gt (pe_callB (cr_lenK K) (by rfl) T.m_len (by decide +kernel) (pa_cons (pv 0) pa_nil)) (pe_gc (v := .int 6) (by rfl) T.k_NAME_LENGTH) (nomark _)) (pss_one (ps_ret pe_bl)) pss_nil)
      (pss_cons (ps_if (pt_cmpR (op_notinM K P w hr.units (u65 hr)) (pe_ix (ix_K K (hu_of hr)) (pv 0) pe_int (fun _ _ => rfl)) (pe_gc (v := .str "abcdefghijklmnopqrstuvwxyz") (by rfl) T.k_NAME_LETTERS) (by rfl)) (pss_one (ps_ret pe_bl)) pss_nil)
      (pss_cons (ps_for PassesOwn.never rfl (pi_str (pv 0)) (pg_name (i := 1) sc_is_name.nd rfl (.inl rfl)) (pss_one (ps_if (PW.pt (pw_and (pt_cmpR (op_notinM K P w hr.units (u65 hr)) (pv 1) (pe_gc (v := .str "abcdefghijklmnopqrstuvwxyz") (by rfl) T.k_NAME_LETTERS) (by rfl)) (pw_and1 (pt_cmpR (op_notinM K P w hr.units (u65 hr)) (pv 1) (pe_gc (v := .str "0123456789") (by rfl) T.k_NAME_DIGITS) (by rfl))))) (pss_one (ps_ret pe_bl)) pss_nil)))
      (pss_one (ps_ret pe_bl)))))), ?_⟩
  obtain ⟨z, rfl, lz, q⟩ := h
  refine g_start (σ' := [some (.str z), none]) rfl ?_
  walk_at "gg"
  refine i_d (fun e => ?_) (fun ne => ?_)
  · walk_at "gg"
    rw [isNm_no (fun ok => by have := ok.l1; rw [e] at this; exact absurd this (by decide +kernel))] at q
    exact q
  have l1 : 0 < z.cps.size := by
    refine Nat.pos_of_ne_zero fun c => ne ?_
    have : z.cps = #[] := Array.eq_empty_of_size_eq_zero c
    cases z
    exact congrArg Str.mk this
  walk_at "gg"
  refine g_lenS (sz (by omega)) ?_
  walk_at "gg"
  refine i_d (fun e => ?_) (fun l6 => ?_)
  · walk_at "gg"
    rw [isNm_no (fun ok => by have := ok.l2; omega)] at q
    exact q
  walk_at "gg"
  have e0 : z.cps[0]? = some z.cps[0] := Array.getElem?_eq_getElem l1
  generalize z.cps[0] = c0 at e0
  refine g_ixS (c := c0) (sz (by omega)) (atI_nat (j := 0) (by rw [Array.getElem?_toList]; exact e0)) ?_
  walk_at "gg"
  refine g_notinM (g_notinC ?_)
  walk_at "gg"
  refine i_n (fun e => ?_) (fun h0 => ?_)
  · walk_at "gg"
    rw [isNm_no (fun ok => e (ok.hd c0 e0))] at q
    exact q
  walk_at "gg"
  refine k_forS (fun i σ H' => ∃ y1, σ = [some (.str z), y1] ∧ H' = H ∧ ∀ c ∈ z.cps.toList.take i, c ∈ lettersL ∨ c ∈ digitsL) ⟨_, rfl, rfl, by simp⟩ ?_ ?_
  · rintro i c σ H' hc ⟨y1, rfl, rfl, ha⟩
    have hc' : z.cps.toList[i]? = some c := by rw [Array.getElem?_toList]; exact hc
    have hm := List.mem_of_getElem? hc'
    have st : (c ∈ lettersL ∨ c ∈ digitsL) → ∀ d ∈ z.cps.toList.take (i + 1), d ∈ lettersL ∨ d ∈ digitsL := fun k d hd => by
      rw [List.take_add_one, hc'] at hd
      rcases List.mem_append.mp hd with hd | hd
      · exact ha d hd
      · have : d = c := by simpa using hd
        rw [this]
        exact k
    walk_at "gg"
    refine g_notinM (g_notinC ?_)
    walk_at "gg"
    refine i_n (fun e1 => ?_) (fun e1 => ?_)
    · walk_at "gg"
      refine g_notinM (g_notinC ?_)
      walk_at "gg"
      refine i_n (fun e2 => ?_) (fun e2 => ?_)
      · walk_at "gg"
        rw [isNm_no (fun ok => (ok.all c hm).elim e1 e2)] at q
        exact q
      · walk_at "gg"
        exact ⟨_, rfl, rfl, st (.inr e2)⟩
    · walk_at "gg"
      exact ⟨_, rfl, rfl, st (.inl e1)⟩
  · rintro σ H' ⟨y1, rfl, rfl, ha⟩
    walk_at "gg"
    have el : z.cps.toList.take z.length = z.cps.toList := List.take_of_length_le (by rw [Array.length_toList]; exact Nat.le_refl _)
    rw [el] at ha
    rw [isNm_iff.mpr ⟨l1, by omega, fun c hc => by rw [e0] at hc; rw [← Option.some.inj hc]; exact h0, ha⟩] at q
    exact q
end

end K13

namespace K13
open PySem PySem.Spec PyProof.Rows L2 Qk
local macro_rules | `(tactic| walk_at "m") => `(tactic| ((repeat (first | exact List.Mem.head _ | apply List.Mem.tail)); done))
local macro_rules | `(tactic| walk_at "h") => `(tactic| first | assumption | exact Has.gF (by assumption) (by assumption) | exact Has.get (by assumption) (by walk_at "m"))
local macro_rules | `(tactic| walk_at "c") => `(tactic| ((repeat (first | exact Chg.hd | apply Chg.tl)); done))
local macro_rules | `(tactic| walk_at "is") => `(tactic| first
  | ((with_reducible refine' is2_non ?gh ?_); (case gh => walk_at "h"))
  | (with_reducible refine is_int_list ?_)
  | (with_reducible refine is_int_tuple ?_)
  | (with_reducible refine is_int_dict ?_)
  | (with_reducible refine is_int_int ?_)
  | (with_reducible refine is_int_bool ?_)
  | (with_reducible refine is_int_str ?_)
  | ((with_reducible refine' is2_int ?gh ?_); (case gh => walk_at "h"))
  | (with_reducible refine is_str_list ?_)
  | (with_reducible refine is_str_tuple ?_)
  | (with_reducible refine is_str_dict ?_)
  | (with_reducible refine is_str_int ?_)
  | (with_reducible refine is_str_bool ?_)
  | (with_reducible refine is_str_str ?_)
  | ((with_reducible refine' is2_str ?gh ?_); (case gh => walk_at "h"))
  | (with_reducible refine is_bool_list ?_)
  | (with_reducible refine is_bool_tuple ?_)
  | (with_reducible refine is_bool_dict ?_)
  | (with_reducible refine is_bool_int ?_)
  | (with_reducible refine is_bool_bool ?_)
  | (with_reducible refine is_bool_str ?_)
  | ((with_reducible refine' is2_bool ?gh ?_); (case gh => walk_at "h"))
  | ((with_reducible refine' is_list_list ?gh ?_); (case gh => walk_at "h"))
  | ((with_reducible refine' is_list_tuple ?gh ?_); (case gh => walk_at "h"))
  | ((with_reducible refine' is_list_dict ?gh ?_); (case gh => walk_at "h"))
  | ((with_reducible refine' is_list_int ?gh ?_); (case gh => walk_at "h"))
  | ((with_reducible refine' is_list_bool ?gh ?_); (case gh => walk_at "h"))
  | ((with_reducible refine' is_list_str ?gh ?_); (case gh => walk_at "h"))
  | ((with_reducible refine' is2_list ?ga ?gb ?_); (case ga => walk_at "h"); (case gb => walk_at "h"))
  | ((with_reducible refine' is_tuple_list ?gh ?_); (case gh => walk_at "h"))
  | ((with_reducible refine' is_tuple_tuple ?gh ?_); (case gh => walk_at "h"))
  | ((with_reducible refine' is_tuple_dict ?gh ?_); (case gh => walk_at "h"))
  | ((with_reducible refine' is_tuple_int ?gh ?_); (case gh => walk_at "h"))
  | ((with_reducible refine' is_tuple_bool ?gh ?_); (case gh => walk_at "h"))
  | ((with_reducible refine' is_tuple_str ?gh ?_); (case gh => walk_at "h"))
  | ((with_reducible refine' is2_tuple ?ga ?gb ?_); (case ga => walk_at "h"); (case gb => walk_at "h"))
  | ((with_reducible refine' is_dict_list ?gh ?_); (case gh => walk_at "h"))
  | ((with_reducible refine' is_dict_tuple ?gh ?_); (case gh => walk_at "h"))
  | ((with_reducible refine' is_dict_dict ?gh ?_); (case gh => walk_at "h"))
  | ((with_reducible refine' is_dict_int ?gh ?_); (case gh => walk_at "h"))
  | ((with_reducible refine' is_dict_bool ?gh ?_); (case gh => walk_at "h"))
  | ((with_reducible refine' is_dict_str ?gh ?_); (case gh => walk_at "h"))
  | ((with_reducible refine' is2_dict ?ga ?gb ?_); (case ga => walk_at "h"); (case gb => walk_at "h")))
local macro_rules | `(tactic| walk_at "g") => `(tactic| first
  | (with_reducible refine g_seq ?_)
  | (with_reducible refine g_asg ?_)
  | ((with_reducible refine g_name ?_); dsimp only [List.set, wipe, List.map])
  | ((with_reducible refine' g_var ?gv ?_); (case gv => exact rfl))
  | (with_reducible refine g_c ?_)
  | (with_reducible refine g_op ?_)
  | (with_reducible refine g_cons ?_)
  | (with_reducible refine g_nil ?_)
  | (with_reducible refine g_cb ?_)
  | (with_reducible refine g_call ?_)
  | (with_reducible refine g_tup ?_)
  | (with_reducible refine g_lst ?_)
  | (with_reducible refine g_bm ?_)
  | (with_reducible refine g_bm0 ?_)
  | ((with_reducible refine' g_kbm ?gh ?_); (case gh => walk_at "h"))
  | (with_reducible refine g_drop ?_)
  | (with_reducible refine g_ret ?_)
  | (with_reducible refine g_retN ?_)
  | (with_reducible refine g_next ?_)
  | (with_reducible refine g_brk ?_)
  | (with_reducible refine g_cont ?_)
  | (with_reducible refine g_if ?_)
  | ((with_reducible refine' g_aug ?gv ?_); (case gv => exact rfl))
  | (with_reducible refine g_ipI ?_)
  | (with_reducible refine g_test ?_)
  | (with_reducible refine g_tB ?_)
  | (with_reducible refine g_kB ?_)
  | (with_reducible refine g_not ?_)
  | (with_reducible refine g_and ?_)
  | (with_reducible refine g_or ?_)
  | (with_reducible refine g_andV ?_)
  | (with_reducible refine g_orV ?_)
  | (with_reducible refine g_notV ?_)
  | (with_reducible refine g_ifE ?_)
  | (with_reducible refine g_addI ?_)
  | (with_reducible refine g_rI0 ?_)
  | (with_reducible refine g_eqI ?_)
  | (with_reducible refine g_eqS ?_)
  | (with_reducible refine g_neI ?_)
  | (with_reducible refine g_neS ?_)
  | (with_reducible refine g_isN ?_)
  | (with_reducible refine g_notN ?_)
  | (with_reducible refine g_int ?_)
  | (with_reducible refine g_max2 ?_)
  | (with_reducible refine g_min2 ?_)
  | ((with_reducible refine' g_lenL ?gh ?_); (case gh => walk_at "h"))
  | (with_reducible refine g_sub ?_)
  | (with_reducible refine g_gcons ?_)
  | (with_reducible refine g_gnil ?_)
  | (with_reducible refine g_un ?_)
  | (with_reducible refine g_rU ?_)
  | (with_reducible refine g_forL ?_)
  | (with_reducible refine g_forS ?_)
  | (with_reducible refine g_forR1 ?_)
  | (with_reducible refine g_forR2 ?_)
  | (with_reducible refine g_forR3 ?_)
  | (with_reducible refine g_lcL ?_)
  | (with_reducible refine g_lcR1 ?_)
  | (with_reducible refine g_lcR2 ?_)
  | (with_reducible refine g_slice ?_)
  | (with_reducible refine g_part ?_)
  | (with_reducible refine g_kOI ?_)
  | (with_reducible refine g_nopart ?_)
  | (with_reducible refine g_yes ?_)
  | ((with_reducible refine' g_wipe ?gv ?_); (case gv => exact rfl))
  | (with_reducible refine iteT ?_)
  | (with_reducible refine iteF ?_)
  | (with_reducible refine i_nf ?_)
  | (with_reducible refine i_nt ?_)
  | ((with_reducible refine' g_gtup ?gh ?gl ?_); (case gh => walk_at "h"); (case gl => exact rfl))
  | ((with_reducible refine' g_notinI ?gh ?_); (case gh => walk_at "h"))
  | ((with_reducible refine' g_inI ?gh ?_); (case gh => walk_at "h"))
  | ((with_reducible refine' g_kget2 ?gh ?_); (case gh => walk_at "h"))
  | ((with_reducible refine' g_kgotI ?gh ?_); (case gh => walk_at "h"))
  | (with_reducible refine g_tRev ?_)
  | (with_reducible refine g_neB ?_)
  | (with_reducible refine g_eqB ?_)
  | ((with_reducible refine' g_lenT ?gh ?_); (case gh => walk_at "h"))
  | (with_reducible refine g_star ?_)
  | ((with_reducible refine' g_kstarL ?gh ?_); (case gh => walk_at "h"))
  | ((with_reducible refine' g_kstarT ?gh ?_); (case gh => walk_at "h"))
  | (with_reducible refine g_tru ?_)
  | ((with_reducible refine' g_truL ?gh ?_); (case gh => walk_at "h"))
  | (with_reducible refine g_get2 ?_)
  | (with_reducible refine g_try ?_)
  | (with_reducible refine g_fld ?_)
  | (with_reducible refine g_sfld ?_)
  | (with_reducible refine g_meth ?_)
  | (with_reducible refine g_make ?_)
  | (with_reducible refine g_del ?_)
  | (with_reducible refine g_callS ?_)
  | (with_reducible refine g_raise ?_)
  | (with_reducible refine g_xf ?_)
  | (with_reducible refine g_m0 ?_)
  | (with_reducible refine g_km0 ?_)
  | walk_at "is")
local macro_rules | `(tactic| walk_at "gg") => `(tactic| repeat walk_at "g")
local macro_rules | `(tactic| walk_at "sz") => `(tactic| (refine sz ?_; simp only [List.length_cons, List.length_nil, List.length_map, List.length_append, List.length_replicate]; omega))
local macro_rules | `(tactic| walk_at "sub") => `(tactic| ((repeat (first | exact List.Sublist.slnil | with_reducible apply List.Sublist.cons_cons | with_reducible apply List.Sublist.cons)); done))

/-! ### ascending lists of texts -/
abbrev kk (z : Str) : List Nat := z.cps.toList
theorem kk_inj {a b : Str} (h : kk a = kk b) : a = b := by
  cases a with
  | mk x =>
    cases b with
    | mk y =>
      congr 1
      exact Array.toList_inj.mp h
def Asc (xs : List Str) : Prop := xs.Pairwise fun a b => kk a < kk b
theorem kk_cases {a b : Str} (h : ¬ kk b < kk a) (n : a ≠ b) : kk a < kk b := by
  refine Decidable.byContradiction fun h2 => n (kk_inj ?_)
  exact List.le_antisymm (List.not_lt.mp h) (List.not_lt.mp h2)
theorem asc_rise : ∀ (p : Str) (l : List Str), risingS p l = true → (p :: l).Nodup → Asc (p :: l)
  | p, [], _, _ => List.pairwise_cons.mpr ⟨fun _ h => (by cases h), List.Pairwise.nil⟩
  | p, x :: r, h, n => by
    have h : (!PySem.Spec.ltCps x.cps.toList p.cps.toList && risingS x r) = true := h
    rw [Bool.and_eq_true] at h
    have h1 : ¬ kk x < kk p := by
      have := h.1
      rw [ltCps_eq] at this
      simpa using this
    have n2 := List.nodup_cons.mp n
    have ih := asc_rise x r h.2 n2.2
    have lt : kk p < kk x := kk_cases h1 fun e => n2.1 (by rw [e]; exact List.mem_cons_self)
    refine List.pairwise_cons.mpr ⟨fun z hz => ?_, ih⟩
    rcases List.mem_cons.mp hz with rfl | hz
    · exact lt
    · exact List.lt_trans lt ((List.pairwise_cons.mp ih).1 z hz)
theorem asc_of {xs : List Str} (h : sortedS xs = true) (n : xs.Nodup) : Asc xs := by
  cases xs with
  | nil => exact List.Pairwise.nil
  | cons x r => exact asc_rise x r h n
theorem Asc.nodup {xs : List Str} (h : Asc xs) : xs.Nodup := h.imp fun {a b} l e => by
  rw [e] at l
  exact List.lt_irrefl _ l
theorem Asc.ext : ∀ {xs ys : List Str}, Asc xs → Asc ys → (∀ z, z ∈ xs ↔ z ∈ ys) → xs = ys
  | [], [], _, _, _ => rfl
  | [], y :: ys, _, _, h => by cases (h y).mpr List.mem_cons_self
  | x :: xs, [], _, _, h => by cases (h x).mp List.mem_cons_self
  | x :: xs, y :: ys, hx, hy, h => by
    have hx' := List.pairwise_cons.mp hx
    have hy' := List.pairwise_cons.mp hy
    have e : x = y := by
      rcases List.mem_cons.mp ((h x).mp List.mem_cons_self) with e | m1
      · exact e
      · rcases List.mem_cons.mp ((h y).mpr List.mem_cons_self) with e | m2
        · exact e.symm
        · exact (List.lt_irrefl _ (List.lt_trans (hy'.1 x m1) (hx'.1 y m2))).elim
    subst e
    have := Asc.ext hx'.2 hy'.2 fun z => by
      have hz := h z
      rw [List.mem_cons, List.mem_cons] at hz
      constructor
      · intro m
        rcases hz.mp (.inr m) with e | m'
        · exact (List.lt_irrefl _ (e ▸ hx'.1 z m)).elim
        · exact m'
      · intro m
        rcases hz.mpr (.inr m) with e | m'
        · exact (List.lt_irrefl _ (e ▸ hy'.1 z m)).elim
        · exact m'
    rw [this]
theorem Asc.filter {xs : List Str} (h : Asc xs) (p : Str → Bool) : Asc (xs.filter p) := h.sublist List.filter_sublist
/-- a list without repeats, grown by one -/
def addL (xs : List Str) (y : Str) : List Str := if y ∈ xs then xs else xs ++ [y]
theorem addL_mem {xs : List Str} {y z : Str} : z ∈ addL xs y ↔ z ∈ xs ∨ z = y := by
  unfold addL
  split
  · next h =>
    constructor
    · exact .inl
    · rintro (m | rfl)
      · exact m
      · exact h
  · simp
theorem addL_nodup {xs : List Str} {y : Str} (n : xs.Nodup) : (addL xs y).Nodup := by
  unfold addL
  split
  · exact n
  · next h =>
    rw [List.nodup_append]
    refine ⟨n, List.nodup_cons.mpr ⟨fun h => (by cases h), List.nodup_nil⟩, fun a ha b hb e => ?_⟩
    rw [List.mem_singleton.mp hb] at e
    exact h (e ▸ ha)
theorem addL_len (xs : List Str) (y : Str) : (addL xs y).length ≤ xs.length + 1 := by
  unfold addL
  split
  · omega
  · rw [List.length_append]; exact Nat.le_refl _
/-- the keys of a dict that is used as a set -/
def tk (xs : List Str) : List (Key × V) := xs.map fun z => (Sum.inr z, V.bl true)
theorem tk_keys (xs : List Str) : (tk xs).map (·.1) = xs.map Sum.inr := by
  unfold tk
  rw [List.map_map]
  rfl
theorem tk_val (xs : List Str) (z : Str) : (valV (tk xs) (.inr z)).isSome = decide (z ∈ xs) := by
  rw [← valV_any]
  unfold tk
  rw [List.any_map, Bool.eq_iff_iff]
  simp only [List.any_eq_true, Function.comp, decide_eq_true_eq]
  constructor
  · rintro ⟨x, hx, e⟩
    exact Sum.inr.inj e ▸ hx
  · exact fun h => ⟨z, h, rfl⟩
theorem tk_put (xs : List Str) (z : Str) : putK (tk xs) (.inr z) (.bl true) = tk (addL xs z) := by
  unfold putK addL
  rw [valV_any, tk_val]
  by_cases h : z ∈ xs
  · rw [if_pos (decide_eq_true h), if_pos h]
    unfold tk
    rw [List.map_map]
    apply List.map_congr_left
    intro x hx
    show (if (Sum.inr x : Key) = .inr z then ((Sum.inr x : Key), V.bl true) else (.inr x, .bl true)) = _
    split <;> rfl
  · rw [if_neg (by simpa using h), if_neg h]
    unfold tk
    rw [List.map_append]
    rfl
theorem tk_len (xs : List Str) : (tk xs).length = xs.length := List.length_map ..

end K13

namespace K13
open PySem PySem.Spec PyProof.Rows L2 Qk
local macro_rules | `(tactic| walk_at "m") => `(tactic| ((repeat (first | exact List.Mem.head _ | apply List.Mem.tail)); done))
local macro_rules | `(tactic| walk_at "h") => `(tactic| first | assumption | exact Has.gF (by assumption) (by assumption) | exact Has.get (by assumption) (by walk_at "m"))
local macro_rules | `(tactic| walk_at "c") => `(tactic| ((repeat (first | exact Chg.hd | apply Chg.tl)); done))
local macro_rules | `(tactic| walk_at "is") => `(tactic| first
  | ((with_reducible refine' is2_non ?gh ?_); (case gh => walk_at "h"))
  | (with_reducible refine is_int_list ?_)
  | (with_reducible refine is_int_tuple ?_)
  | (with_reducible refine is_int_dict ?_)
  | (with_reducible refine is_int_int ?_)
  | (with_reducible refine is_int_bool ?_)
  | (with_reducible refine is_int_str ?_)
  | ((with_reducible refine' is2_int ?gh ?_); (case gh => walk_at "h"))
  | (with_reducible refine is_str_list ?_)
  | (with_reducible refine is_str_tuple ?_)
  | (with_reducible refine is_str_dict ?_)
  | (with_reducible refine is_str_int ?_)
  | (with_reducible refine is_str_bool ?_)
  | (with_reducible refine is_str_str ?_)
  | ((with_reducible refine' is2_str ?gh ?_); (case gh => walk_at "h"))
  | (with_reducible refine is_bool_list ?_)
  | (with_reducible refine is_bool_tuple ?_)
  | (with_reducible refine is_bool_dict ?_)
  | (with_reducible refine is_bool_int ?_)
  | (with_reducible refine is_bool_bool ?_)
  | (with_reducible refine is_bool_str ?_)
  | ((with_reducible refine' is2_bool ?gh ?_); (case gh => walk_at "h"))
  | ((with_reducible refine' is_list_list ?gh ?_); (case gh => walk_at "h"))
  | ((with_reducible refine' is_list_tuple ?gh ?_); (case gh => walk_at "h"))
  | ((with_reducible refine' is_list_dict ?gh ?_); (case gh => walk_at "h"))
  | ((with_reducible refine' is_list_int ?gh ?_); (case gh => walk_at "h"))
  | ((with_reducible refine' is_list_bool ?gh ?_); (case gh => walk_at "h"))
  | ((with_reducible refine' is_list_str ?gh ?_); (case gh => walk_at "h"))
  | ((with_reducible refine' is2_list ?ga ?gb ?_); (case ga => walk_at "h"); (case gb => walk_at "h"))
  | ((with_reducible refine' is_tuple_list ?gh ?_); (case gh => walk_at "h"))
  | ((with_reducible refine' is_tuple_tuple ?gh ?_); (case gh => walk_at "h"))
  | ((with_reducible refine' is_tuple_dict ?gh ?_); (case gh => walk_at "h"))
  | ((with_reducible refine' is_tuple_int ?gh ?_); (case gh => walk_at "h"))
  | ((with_reducible refine' is_tuple_bool ?gh ?_); (case gh => walk_at "h"))
  | ((with_reducible refine' is_tuple_str ?gh ?_); (case gh => walk_at "h"))
  | ((with_reducible refine' is2_tuple ?ga ?gb ?_); (case ga => walk_at "h"); (case gb => walk_at "h"))
  | ((with_reducible refine' is_dict_list ?gh ?_); (case gh => walk_at "h"))
  | ((with_reducible refine' is_dict_tuple ?gh ?_); (case gh => walk_at "h"))
  | ((with_reducible refine' is_dict_dict ?gh ?_); (case gh => walk_at "h"))
  | ((with_reducible refine' is_dict_int ?gh ?_); (case gh => walk_at "h"))
  | ((with_reducible refine' is_dict_bool ?gh ?_); (case gh => walk_at "h"))
  | ((with_reducible refine' is_dict_str ?gh ?_); (case gh => walk_at "h"))
  | ((with_reducible refine' is2_dict ?ga ?gb ?_); (case ga => walk_at "h"); (case gb => walk_at "h")))
local macro_rules | `(tactic| walk_at "g") => `(tactic| first
  | (with_reducible refine g_seq ?_)
  | (with_reducible refine g_asg ?_)
  | ((with_reducible refine g_name ?_); dsimp only [List.set, wipe, List.map])
  | ((with_reducible refine' g_var ?gv ?_); (case gv => exact rfl))
  | (with_reducible refine g_c ?_)
  | (with_reducible refine g_op ?_)
  | (with_reducible refine g_cons ?_)
  | (with_reducible refine g_nil ?_)
  | (with_reducible refine g_cb ?_)
  | (with_reducible refine g_call ?_)
  | (with_reducible refine g_tup ?_)
  | (with_reducible refine g_lst ?_)
  | (with_reducible refine g_bm ?_)
  | (with_reducible refine g_bm0 ?_)
  | ((with_reducible refine' g_kbm ?gh ?_); (case gh => walk_at "h"))
  | (with_reducible refine g_drop ?_)
  | (with_reducible refine g_ret ?_)
  | (with_reducible refine g_retN ?_)
  | (with_reducible refine g_next ?_)
  | (with_reducible refine g_brk ?_)
  | (with_reducible refine g_cont ?_)
  | (with_reducible refine g_if ?_)
  | ((with_reducible refine' g_aug ?gv ?_); (case gv => exact rfl))
  | (with_reducible refine g_ipI ?_)
  | (with_reducible refine g_test ?_)
  | (with_reducible refine g_tB ?_)
  | (with_reducible refine g_kB ?_)
  | (with_reducible refine g_not ?_)
  | (with_reducible refine g_and ?_)
  | (with_reducible refine g_or ?_)
  | (with_reducible refine g_andV ?_)
  | (with_reducible refine g_orV ?_)
  | (with_reducible refine g_notV ?_)
  | (with_reducible refine g_ifE ?_)
  | (with_reducible refine g_addI ?_)
  | (with_reducible refine g_rI0 ?_)
  | (with_reducible refine g_eqI ?_)
  | (with_reducible refine g_eqS ?_)
  | (with_reducible refine g_neI ?_)
  | (with_reducible refine g_neS ?_)
  | (with_reducible refine g_isN ?_)
  | (with_reducible refine g_notN ?_)
  | (with_reducible refine g_int ?_)
  | (with_reducible refine g_max2 ?_)
  | (with_reducible refine g_min2 ?_)
  | ((with_reducible refine' g_lenL ?gh ?_); (case gh => walk_at "h"))
  | (with_reducible refine g_sub ?_)
  | (with_reducible refine g_gcons ?_)
  | (with_reducible refine g_gnil ?_)
  | (with_reducible refine g_un ?_)
  | (with_reducible refine g_rU ?_)
  | (with_reducible refine g_forL ?_)
  | (with_reducible refine g_forS ?_)
  | (with_reducible refine g_forR1 ?_)
  | (with_reducible refine g_forR2 ?_)
  | (with_reducible refine g_forR3 ?_)
  | (with_reducible refine g_lcL ?_)
  | (with_reducible refine g_lcR1 ?_)
  | (with_reducible refine g_lcR2 ?_)
  | (with_reducible refine g_slice ?_)
  | (with_reducible refine g_part ?_)
  | (with_reducible refine g_kOI ?_)
  | (with_reducible refine g_nopart ?_)
  | (with_reducible refine g_yes ?_)
  | ((with_reducible refine' g_wipe ?gv ?_); (case gv => exact rfl))
  | (with_reducible refine iteT ?_)
  | (with_reducible refine iteF ?_)
  | (with_reducible refine i_nf ?_)
  | (with_reducible refine i_nt ?_)
  | ((with_reducible refine' g_gtup ?gh ?gl ?_); (case gh => walk_at "h"); (case gl => exact rfl))
  | ((with_reducible refine' g_notinI ?gh ?_); (case gh => walk_at "h"))
  | ((with_reducible refine' g_inI ?gh ?_); (case gh => walk_at "h"))
  | ((with_reducible refine' g_kget2 ?gh ?_); (case gh => walk_at "h"))
  | ((with_reducible refine' g_kgotI ?gh ?_); (case gh => walk_at "h"))
  | (with_reducible refine g_tRev ?_)
  | (with_reducible refine g_neB ?_)
  | (with_reducible refine g_eqB ?_)
  | ((with_reducible refine' g_lenT ?gh ?_); (case gh => walk_at "h"))
  | (with_reducible refine g_star ?_)
  | ((with_reducible refine' g_kstarL ?gh ?_); (case gh => walk_at "h"))
  | ((with_reducible refine' g_kstarT ?gh ?_); (case gh => walk_at "h"))
  | (with_reducible refine g_tru ?_)
  | ((with_reducible refine' g_truL ?gh ?_); (case gh => walk_at "h"))
  | (with_reducible refine g_get2 ?_)
  | (with_reducible refine g_try ?_)
  | (with_reducible refine g_fld ?_)
  | (with_reducible refine g_sfld ?_)
  | (with_reducible refine g_meth ?_)
  | (with_reducible refine g_make ?_)
  | (with_reducible refine g_del ?_)
  | (with_reducible refine g_callS ?_)
  | (with_reducible refine g_raise ?_)
  | (with_reducible refine g_xf ?_)
  | (with_reducible refine g_m0 ?_)
  | (with_reducible refine g_km0 ?_)
  | walk_at "is")
local macro_rules | `(tactic| walk_at "gg") => `(tactic| repeat walk_at "g")
local macro_rules | `(tactic| walk_at "sz") => `(tactic| (refine sz ?_; simp only [List.length_cons, List.length_nil, List.length_map, List.length_append, List.length_replicate]; omega))
local macro_rules | `(tactic| walk_at "sub") => `(tactic| ((repeat (first | exact List.Sublist.slnil | with_reducible apply List.Sublist.cons_cons | with_reducible apply List.Sublist.cons)); done))

/-! ### orders -/
abbrev URow := Str × List Str
def undr (rows : List URow) (x : Str) : Option (List Str) := (rows.find? fun r => decide (r.1 = x)).map (·.2)
def uD (r : URow) : PyData := .list (r.2.map PyData.str)
/-- what an order holds: its names, and for each name the ascending list of the versions under it -/
structure OrdOk (F : Hp) (nl : Addr) (kvs : List (Key × V)) (rows : List URow) : Prop where
  keys : kvs.map (·.1) = rows.map fun r => (Sum.inr r.1 : Key)
  vals : DqAll F (kvs.map (·.2)) (rows.map uD)
  names : ∃ ns : List Str, F nl = some (.lst (ns.map V.str)) ∧ Asc ns ∧ ∀ z, z ∈ ns ↔ z ∈ rows.map (·.1)
  few : rows.length ≤ 60
  nd : (rows.map (·.1)).Nodup
  asc : ∀ r ∈ rows, Asc r.2
  sub : ∀ r ∈ rows, ∀ z ∈ r.2, z ∈ rows.map (·.1)
theorem OrdOk.mono {F F' : Hp} {nl : Addr} {kvs : List (Key × V)} {rows : List URow} (h : OrdOk F nl kvs rows) (s : Same F F') : OrdOk F' nl kvs rows := by
  obtain ⟨ns, h1, h2⟩ := h.names
  exact ⟨h.keys, h.vals.up s _ _, ⟨ns, s _ _ h1, h2⟩, h.few, h.nd, h.asc, h.sub⟩
theorem OrdOk.empty {F : Hp} {nl : Addr} (h : F nl = some (.lst [])) : OrdOk F nl [] [] := ⟨rfl, .nil, ⟨[], h, List.Pairwise.nil, fun z => Iff.rfl⟩, Nat.zero_le _, List.nodup_nil, fun r h => (by cases h), fun r h => (by cases h)⟩
theorem undr_cons (r : URow) (rows : List URow) (x : Str) : undr (r :: rows) x = if r.1 = x then some r.2 else undr rows x := by
  unfold undr
  by_cases h : r.1 = x
  · rw [List.find?_cons_of_pos (by simpa using h), if_pos h]; rfl
  · rw [List.find?_cons_of_neg (by simpa using h), if_neg h]
theorem undr_mem {rows : List URow} {x : Str} {u : List Str} (h : undr rows x = some u) : (x, u) ∈ rows := by
  unfold undr at h
  obtain ⟨r, hr, rfl⟩ := Option.map_eq_some_iff.mp h
  have e := List.find?_some hr
  have m := List.mem_of_find?_eq_some hr
  have e : r.1 = x := by simpa using e
  rw [← e]
  exact m
theorem undr_known : ∀ {rows : List URow} {x : Str}, (undr rows x).isSome = decide (x ∈ rows.map (·.1))
  | [], x => rfl
  | r :: rows, x => by
    rw [undr_cons]
    by_cases h : r.1 = x
    · rw [if_pos h]
      simp [h]
    · rw [if_neg h, undr_known (rows := rows)]
      have : ¬ x = r.1 := fun e => h e.symm
      simp [this]
theorem undr_of : ∀ {rows : List URow} {x : Str} {u : List Str}, (rows.map (·.1)).Nodup → (x, u) ∈ rows → undr rows x = some u
  | r :: rows, x, u, n, m => by
    rw [undr_cons]
    rw [List.map_cons] at n
    have n := List.nodup_cons.mp n
    rcases List.mem_cons.mp m with e | m
    · subst e
      rw [if_pos rfl]
    · rw [if_neg (fun e => n.1 (by rw [e]; exact List.mem_map.mpr ⟨_, m, rfl⟩)), undr_of n.2 m]
theorem undr_app {rows : List URow} {r : URow} {x : Str} : undr (rows ++ [r]) x = (undr rows x).or (if r.1 = x then some r.2 else none) := by
  unfold undr
  rw [List.find?_append, Option.map_or]
  congr 1
  by_cases h : r.1 = x
  · rw [List.find?_cons_of_pos (by simpa using h), if_pos h]; rfl
  · rw [List.find?_cons_of_neg (by simpa using h), if_neg h]; rfl
theorem look_at : ∀ {kvs : List (Key × V)} {rows : List URow} {F : Hp} {x : Str}, kvs.map (·.1) = rows.map (fun r => (Sum.inr r.1 : Key)) → DqAll F (kvs.map (·.2)) (rows.map uD) →
    (∀ u, undr rows x = some u → ∃ l, valV kvs (.inr x) = some (.ref l) ∧ F l = some (.lst (u.map V.str))) ∧ (undr rows x = none → valV kvs (.inr x) = none)
  | [], [], _, _, _, _ => ⟨fun r h => (by cases h), fun _ => rfl⟩
  | p :: kvs, [], _, _, e, _ => by cases e
  | [], r :: rows, _, _, e, _ => by cases e
  | (q, v) :: kvs, r :: rows, F, x, e, d => by
    rw [List.map_cons, List.map_cons] at e
    injection e with e1 e2
    rw [List.map_cons, List.map_cons] at d
    cases d with
    | cons d1 d2 =>
      have e1 : q = .inr r.1 := e1
      subst e1
      obtain ⟨i1, i2⟩ := look_at (x := x) e2 d2
      rw [undr_cons]
      by_cases h : r.1 = x
      · subst h
        rw [if_pos rfl, valV_pos rfl]
        obtain ⟨l, el, hl⟩ := Dq.of_strs d1
        have el : v = .ref l := el
        refine ⟨fun u hu => ?_, fun z => by cases z⟩
        injection hu with hu
        subst hu
        exact ⟨l, by rw [el], hl⟩
      · rw [if_neg h, valV_neg (fun z => h (Sum.inr.inj z))]
        exact ⟨i1, i2⟩
theorem OrdOk.look {F : Hp} {nl : Addr} {kvs : List (Key × V)} {rows : List URow} {x : Str} {u : List Str} (h : OrdOk F nl kvs rows) (e : undr rows x = some u) : ∃ l, valV kvs (.inr x) = some (.ref l) ∧ F l = some (.lst (u.map V.str)) := (look_at h.keys h.vals).1 u e
theorem OrdOk.val {F : Hp} {nl : Addr} {kvs : List (Key × V)} {rows : List URow} (h : OrdOk F nl kvs rows) (x : Str) : (valV kvs (.inr x)).isSome = (undr rows x).isSome := by
  cases e : undr rows x with
  | none => rw [(look_at h.keys h.vals).2 e]; rfl
  | some u =>
    obtain ⟨l, el, _⟩ := h.look e
    rw [el]; rfl
theorem OrdOk.under_few {F : Hp} {nl : Addr} {kvs : List (Key × V)} {rows : List URow} (h : OrdOk F nl kvs rows) {x : Str} {u : List Str} (e : undr rows x = some u) : u.length ≤ 60 := by
  have m := undr_mem e
  have := length_le_of_nodup_of_subset u (rows.map (·.1)) (h.asc _ m).nodup (h.sub _ m)
  rw [List.length_map] at this
  have := h.few
  omega
/-- the first fault of a list of names -/
def chkE (kn : Str → Bool) : List Str → List Str → Option (Bool × Str)
  | _, [] => none
  | seen, x :: r => if kn x = true then if x ∈ seen then some (false, x) else chkE kn (seen ++ [x]) r else some (true, x)
def kn (rows : List URow) (x : Str) : Bool := (undr rows x).isSome
theorem inV_strs (x : Str) (ys : List Str) : inV (.str x) (ys.map V.str) = decide (x ∈ ys) := by
  unfold inV
  rw [List.any_map, Bool.eq_iff_iff]
  simp only [List.any_eq_true, Function.comp, decide_eq_true_eq]
  constructor
  · rintro ⟨y, hy, e⟩
    have e : (y == x) = true := e
    exact (beq_iff_eq.mp e) ▸ hy
  · exact fun h => ⟨x, h, (beq_iff_eq (a := x) (b := x)).mpr rfl⟩
theorem flat_strs (ys : List Str) : (ys.map V.str).all flatV = true := by
  rw [List.all_map]
  exact List.all_eq_true.mpr fun _ _ => rfl
section
variable {P : Program} {w : World} {K : PySem.W.Frag} {mg : Str → Option Value} {base : Heap}
def of_ (nl d : Addr) : List (Str × V) := [("_names", .ref nl), ("_under", .ref d)]
def OrdO (T : Txt K mg) (a dx d nl : Addr) (kvs : List (Key × V)) : Own := [(a, .ins T.C_Order dx (of_ nl d)), (dx, .own a), (d, .dK kvs)]
structure OrdAt (T : Txt K mg) (H : Hp) (a dx d nl : Addr) (kvs : List (Key × V)) : Prop where
  i : H a = some (.ins T.C_Order dx (of_ nl d))
  d : H d = some (.dK kvs)
theorem OrdAt.mono {T : Txt K mg} {H H' : Hp} {a dx d nl : Addr} {kvs : List (Key × V)} (h : OrdAt T H a dx d nl kvs) (s : Same H H') : OrdAt T H' a dx d nl kvs := ⟨s _ _ h.i, s _ _ h.d⟩
/-- an order that stands still -/
structure Ord (T : Txt K mg) (H : Hp) (a : Addr) (rows : List URow) : Prop where
  ex : ∃ dx d nl kvs, OrdAt T H a dx d nl kvs ∧ OrdOk H nl kvs rows
theorem Ord.mono {T : Txt K mg} {H H' : Hp} {a : Addr} {rows : List URow} (h : Ord T H a rows) (s : Same H H') : Ord T H' a rows := by
  obtain ⟨dx, d, nl, kvs, h1, h2⟩ := h.ex
  exact ⟨dx, d, nl, kvs, h1.mono s, h2.mono s⟩
def lost_nm (C : Addr) (H : Hp) (E : XK) (z : Str) : Prop := ∀ e H', Same H H' → H e = none → H' e = some (.xd [("name", .str z)]) → E (.ref C) (some e) H'
def sp_Order___init__ (T : Txt K mg) : Sp := fun vs H Q _ => ∃ (a dx : Addr) (F : Hp), vs = [.ref a] ∧ Has F [(a, .ins T.C_Order dx []), (dx, .own a)] H ∧
  ∀ d nl H' F', H d = none → ButA [(a, .ins T.C_Order dx []), (dx, .own a)] H H' → Grow F H F' → Has F' (OrdO T a dx d nl []) H' → F' nl = some (.lst []) → Q .non H'
theorem sp_Order___init___len {T : Txt K mg} {vs H Q E} (h : sp_Order___init__ T vs H Q E) : vs.length = 1 := by
  obtain ⟨_, _, _, rfl, _⟩ := h
  rfl
theorem ok_Order___init__ (T : Txt K mg) : FnOk P w K mg base CX0 1 T.f_Order___init__ T.fd_Order___init__ ["self"] (sp_Order___init__ T) := by
  refine T.F_Order___init__.ok sc_Order___init__ (fun vs H Q E h => sp_Order___init___len h) (fun cdv A outer s H vs Q E hr h => ?_)
  refine ⟨_, (pss_cons (k_sfld K (ps_fld (pv 0) (pe_lst pa_nil) rfl))
      (pss_one (k_sfld K (ps_fld (pv 0) pe_dnewK rfl)))), ?_⟩
  obtain ⟨a, dx, F, rfl, hH, q⟩ := h
  refine g_start (σ' := [some (.ref a)]) rfl ?_
  walk_at "gg"
  have hr := hH.re
  refine g_klstF (by walk_at "sz") hr (fun nl H0 F0 n0 s0 fnl h0 => ?_)
  walk_at "gg"
  refine g_ksfld (fs' := [("_names", .ref nl)]) h0 .hd rfl T.cl_Order T.nA_Order__names (by decide) (fun H1 h1 => ?_)
  walk_at "gg"
  refine g_dnewK h1 (fun d H2 n2 h2 => ?_)
  walk_at "gg"
  refine g_ksfld (fs' := of_ nl d) h2 (by walk_at "c") rfl T.cl_Order T.nA_Order__under (by show 1 < 1000; decide) (fun H3 h3 => ?_)
  have h3' : Has F0 (OrdO T a dx d nl []) H3 := h3.perm (List.perm_append_comm (l₁ := [(a, HO.ins T.C_Order dx (of_ nl d)), (dx, HO.own a)]) (l₂ := [(d, HO.dK [])]))
  have nd : H d = none := newp hH (mix_but hH s0 h1) h1 (fun q hq => by
    simp only [List.mem_cons, List.not_mem_nil, or_false] at hq
    rcases hq with rfl | rfl <;> simp) n2
  refine q d nl H3 (mixF F H F0) nd (mix_but hH s0 h3') (mix_grow hH s0) (mix_has hH s0 h3' (fun q hq => by
    simp only [OrdO, List.mem_cons, List.not_mem_nil, or_false] at hq
    rcases hq with rfl | rfl | rfl
    · exact .inl (by simp)
    · exact .inl (by simp)
    · exact .inr nd)) ?_
  rw [mix_at n0]
  exact fnl
def sp_Order_under (T : Txt K mg) : Sp := fun vs H Q E => ∃ (a : Addr) (rows : List URow) (x : Str), vs = [.ref a, .str x] ∧ Ord T H a rows ∧ (∀ u, undr rows x = some u → ∀ p H', Same H H' → H p = none → H' p = some (.lst (u.map V.str)) → Q (.ref p) H') ∧ (undr rows x = none → lost_nm T.C_Unknown H E x)
theorem sp_Order_under_len {T : Txt K mg} {vs H Q E} (h : sp_Order_under T vs H Q E) : vs.length = 2 := by
  obtain ⟨_, _, _, rfl, _⟩ := h
  rfl
theorem ok_Order_under (T : Txt K mg) : FnOk P w K mg base (L2N.CX P w) 3 T.f_Order_under T.fd_Order_under ["self", "name"] (sp_Order_under T) := by
  refine Fun.okN T.F_Order_under sc_Order_under (fun vs H Q E h => sp_Order_under_len h) (fun cdv A outer s H vs Q E hr h => ?_)
  refine ⟨_, (pss_cons (ps_if (pt_cmpR (op_notinM K P w hr.units (u65 hr)) (pv 1) (k_fld K (pe_fld (pv 0) rfl)) (by rfl)) (pss_one (k_raise rfl (L2N.takes_of rfl rfl rfl rfl) (pmk_oexN T.O_Unknown T.iC_Unknown T.tI_Unknown (ok_init_Unknown T) (hr.mono (by decide)) T.bi_Unknown pass0 (by rfl) T.g_Unknown (pa_cons (pv 1) pa_nil)))) pss_nil)
      (pss_one (ps_ret (pe_callTy (cr_listK K) (by rfl) T.m_list (by decide +kernel) (pa_cons (pe_ix (ix_K K (hu_of hr)) (k_fld K (pe_fld (pv 0) rfl)) (pv 1) (fun _ _ => rfl)) pa_nil))))), ?_⟩
  obtain ⟨a, rows, x, rfl, ho, q, qe⟩ := h
  obtain ⟨dx, d, nl, kvs, at_, ok⟩ := ho.ex
  have hH := Has.start H
  have ha := at_.i
  have hd := at_.d
  refine g_start (σ' := [some (.ref a), some (.str x)]) rfl ?_
  walk_at "gg"
  refine g_kfld (by walk_at "h") T.cl_Order T.nA_Order__under rfl ?_
  walk_at "gg"
  refine g_notinM (g_notinS hd ?_)
  rw [ok.val]
  cases hu : undr rows x with
  | none =>
    rw [Option.isSome_none]
    walk_at "gg"
    exact g_mk rfl (by decide) hH (fun e H' n' h' => qe hu e H' h'.same n' (h'.get (List.Mem.head _)))
  | some u =>
    obtain ⟨l, el, hl⟩ := ok.look hu
    rw [Option.isSome_some]
    walk_at "gg"
    refine g_kfld (by walk_at "h") T.cl_Order T.nA_Order__under rfl ?_
    walk_at "gg"
    refine g_ixDS hd el ?_
    walk_at "gg"
    refine g_listL hl hH (fun p H1 n1 h1 => ?_)
    exact q u hu p H1 h1.same n1 (h1.get (List.Mem.head _))
def sp_Order___iter__ (T : Txt K mg) : Sp := spIt T.C_Order "_names"
theorem sp_Order___iter___len {T : Txt K mg} {vs H Q E} (h : sp_Order___iter__ T vs H Q E) : vs.length = 1 := by
  obtain ⟨_, _, _, _, _, rfl, _⟩ := h
  rfl
theorem ok_Order___iter__ (T : Txt K mg) : FnOk P w K mg base CX0 1 T.f_Order___iter__ T.fd_Order___iter__ ["self"] (sp_Order___iter__ T) := by
  refine T.F_Order___iter__.ok sc_Order___iter__ (fun vs H Q E h => sp_Order___iter___len h) (fun cdv A outer s H vs Q E hr h => ?_)
  refine ⟨_, (pss_one (ps_ret (pe_callB (cr_iterK K) (by rfl) T.m_iter (by decide +kernel) (pa_cons (k_fld K (pe_fld (pv 0) rfl)) pa_nil)))), ?_⟩
  obtain ⟨a, dx, fs, l, ys, rfl, ha, lk, hl, q⟩ := h
  refine g_start (σ' := [some (.ref a)]) rfl ?_
  walk_at "gg"
  refine g_kfld ha T.cl_Order T.nA_Order__names lk ?_
  walk_at "gg"
  exact g_iter hl q
end

end K13

namespace K13
open PySem PySem.Spec PyProof.Rows L2 Qk
local macro_rules | `(tactic| walk_at "m") => `(tactic| ((repeat (first | exact List.Mem.head _ | apply List.Mem.tail)); done))
local macro_rules | `(tactic| walk_at "h") => `(tactic| first | assumption | exact Has.gF (by assumption) (by assumption) | exact Has.get (by assumption) (by walk_at "m"))
local macro_rules | `(tactic| walk_at "c") => `(tactic| ((repeat (first | exact Chg.hd | apply Chg.tl)); done))
local macro_rules | `(tactic| walk_at "is") => `(tactic| first
  | ((with_reducible refine' is2_non ?gh ?_); (case gh => walk_at "h"))
  | (with_reducible refine is_int_list ?_)
  | (with_reducible refine is_int_tuple ?_)
  | (with_reducible refine is_int_dict ?_)
  | (with_reducible refine is_int_int ?_)
  | (with_reducible refine is_int_bool ?_)
  | (with_reducible refine is_int_str ?_)
  | ((with_reducible refine' is2_int ?gh ?_); (case gh => walk_at "h"))
  | (with_reducible refine is_str_list ?_)
  | (with_reducible refine is_str_tuple ?_)
  | (with_reducible refine is_str_dict ?_)
  | (with_reducible refine is_str_int ?_)
  | (with_reducible refine is_str_bool ?_)
  | (with_reducible refine is_str_str ?_)
  | ((with_reducible refine' is2_str ?gh ?_); (case gh => walk_at "h"))
  | (with_reducible refine is_bool_list ?_)
  | (with_reducible refine is_bool_tuple ?_)
  | (with_reducible refine is_bool_dict ?_)
  | (with_reducible refine is_bool_int ?_)
  | (with_reducible refine is_bool_bool ?_)
  | (with_reducible refine is_bool_str ?_)
  | ((with_reducible refine' is2_bool ?gh ?_); (case gh => walk_at "h"))
  | ((with_reducible refine' is_list_list ?gh ?_); (case gh => walk_at "h"))
  | ((with_reducible refine' is_list_tuple ?gh ?_); (case gh => walk_at "h"))
  | ((with_reducible refine' is_list_dict ?gh ?_); (case gh => walk_at "h"))
  | ((with_reducible refine' is_list_int ?gh ?_); (case gh => walk_at "h"))
  | ((with_reducible refine' is_list_bool ?gh ?_); (case gh => walk_at "h"))
  | ((with_reducible refine' is_list_str ?gh ?_); (case gh => walk_at "h"))
  | ((with_reducible refine' is2_list ?ga ?gb ?_); (case ga => walk_at "h"); (case gb => walk_at "h"))
  | ((with_reducible refine' is_tuple_list ?gh ?_); (case gh => walk_at "h"))
  | ((with_reducible refine' is_tuple_tuple ?gh ?_); (case gh => walk_at "h"))
  | ((with_reducible refine' is_tuple_dict ?gh ?_); (case gh => walk_at "h"))
  | ((with_reducible refine' is_tuple_int ?gh ?_); (case gh => walk_at "h"))
  | ((with_reducible refine' is_tuple_bool ?gh ?_); (case gh => walk_at "h"))
  | ((with_reducible refine' is_tuple_str ?gh ?_); (case gh => walk_at "h"))
  | ((with_reducible refine' is2_tuple ?ga ?gb ?_); (case ga => walk_at "h"); (case gb => walk_at "h"))
  | ((with_reducible refine' is_dict_list ?gh ?_); (case gh => walk_at "h"))
  | ((with_reducible refine' is_dict_tuple ?gh ?_); (case gh => walk_at "h"))
  | ((with_reducible refine' is_dict_dict ?gh ?_); (case gh => walk_at "h"))
  | ((with_reducible refine' is_dict_int ?gh ?_); (case gh => walk_at "h"))
  | ((with_reducible refine' is_dict_bool ?gh ?_); (case gh => walk_at "h"))
  | ((with_reducible refine' is_dict_str ?gh ?_); (case gh => walk_at "h"))
  | ((with_reducible refine' is2_dict ?ga ?gb ?_); (case ga => walk_at "h"); (case gb => walk_at "h")))
local macro_rules | `(tactic| walk_at "g") => `(tactic| first
  | (with_reducible refine g_seq ?_)
  | (with_reducible refine g_asg ?_)
  | ((with_reducible refine g_name ?_); dsimp only [List.set, wipe, List.map])
  | ((with_reducible refine' g_var ?gv ?_); (case gv => exact rfl))
  | (with_reducible refine g_c ?_)
  | (with_reducible refine g_op ?_)
  | (with_reducible refine g_cons ?_)
  | (with_reducible refine g_nil ?_)
  | (with_reducible refine g_cb ?_)
  | (with_reducible refine g_call ?_)
  | (with_reducible refine g_tup ?_)
  | (with_reducible refine g_lst ?_)
  | (with_reducible refine g_bm ?_)
  | (with_reducible refine g_bm0 ?_)
  | ((with_reducible refine' g_kbm ?gh ?_); (case gh => walk_at "h"))
  | (with_reducible refine g_drop ?_)
  | (with_reducible refine g_ret ?_)
  | (with_reducible refine g_retN ?_)
  | (with_reducible refine g_next ?_)
  | (with_reducible refine g_brk ?_)
  | (with_reducible refine g_cont ?_)
  | (with_reducible refine g_if ?_)
  | ((with_reducible refine' g_aug ?gv ?_); (case gv => exact rfl))
  | (with_reducible refine g_ipI ?_)
  | (with_reducible refine g_test ?_)
  | (with_reducible refine g_tB ?_)
  | (with_reducible refine g_kB ?_)
  | (with_reducible refine g_not ?_)
  | (with_reducible refine g_and ?_)
  | (with_reducible refine g_or ?_)
  | (with_reducible refine g_andV ?_)
  | (with_reducible refine g_orV ?_)
  | (with_reducible refine g_notV ?_)
  | (with_reducible refine g_ifE ?_)
  | (with_reducible refine g_addI ?_)
  | (with_reducible refine g_rI0 ?_)
  | (with_reducible refine g_eqI ?_)
  | (with_reducible refine g_eqS ?_)
  | (with_reducible refine g_neI ?_)
  | (with_reducible refine g_neS ?_)
  | (with_reducible refine g_isN ?_)
  | (with_reducible refine g_notN ?_)
  | (with_reducible refine g_int ?_)
  | (with_reducible refine g_max2 ?_)
  | (with_reducible refine g_min2 ?_)
  | ((with_reducible refine' g_lenL ?gh ?_); (case gh => walk_at "h"))
  | (with_reducible refine g_sub ?_)
  | (with_reducible refine g_gcons ?_)
  | (with_reducible refine g_gnil ?_)
  | (with_reducible refine g_un ?_)
  | (with_reducible refine g_rU ?_)
  | (with_reducible refine g_forL ?_)
  | (with_reducible refine g_forS ?_)
  | (with_reducible refine g_forR1 ?_)
  | (with_reducible refine g_forR2 ?_)
  | (with_reducible refine g_forR3 ?_)
  | (with_reducible refine g_lcL ?_)
  | (with_reducible refine g_lcR1 ?_)
  | (with_reducible refine g_lcR2 ?_)
  | (with_reducible refine g_slice ?_)
  | (with_reducible refine g_part ?_)
  | (with_reducible refine g_kOI ?_)
  | (with_reducible refine g_nopart ?_)
  | (with_reducible refine g_yes ?_)
  | ((with_reducible refine' g_wipe ?gv ?_); (case gv => exact rfl))
  | (with_reducible refine iteT ?_)
  | (with_reducible refine iteF ?_)
  | (with_reducible refine i_nf ?_)
  | (with_reducible refine i_nt ?_)
  | ((with_reducible refine' g_gtup ?gh ?gl ?_); (case gh => walk_at "h"); (case gl => exact rfl))
  | ((with_reducible refine' g_notinI ?gh ?_); (case gh => walk_at "h"))
  | ((with_reducible refine' g_inI ?gh ?_); (case gh => walk_at "h"))
  | ((with_reducible refine' g_kget2 ?gh ?_); (case gh => walk_at "h"))
  | ((with_reducible refine' g_kgotI ?gh ?_); (case gh => walk_at "h"))
  | (with_reducible refine g_tRev ?_)
  | (with_reducible refine g_neB ?_)
  | (with_reducible refine g_eqB ?_)
  | ((with_reducible refine' g_lenT ?gh ?_); (case gh => walk_at "h"))
  | (with_reducible refine g_star ?_)
  | ((with_reducible refine' g_kstarL ?gh ?_); (case gh => walk_at "h"))
  | ((with_reducible refine' g_kstarT ?gh ?_); (case gh => walk_at "h"))
  | (with_reducible refine g_tru ?_)
  | ((with_reducible refine' g_truL ?gh ?_); (case gh => walk_at "h"))
  | (with_reducible refine g_get2 ?_)
  | (with_reducible refine g_try ?_)
  | (with_reducible refine g_fld ?_)
  | (with_reducible refine g_sfld ?_)
  | (with_reducible refine g_meth ?_)
  | (with_reducible refine g_make ?_)
  | (with_reducible refine g_del ?_)
  | (with_reducible refine g_callS ?_)
  | (with_reducible refine g_raise ?_)
  | (with_reducible refine g_xf ?_)
  | (with_reducible refine g_m0 ?_)
  | (with_reducible refine g_km0 ?_)
  | walk_at "is")
local macro_rules | `(tactic| walk_at "gg") => `(tactic| repeat walk_at "g")
local macro_rules | `(tactic| walk_at "sz") => `(tactic| (refine sz ?_; simp only [List.length_cons, List.length_nil, List.length_map, List.length_append, List.length_replicate]; omega))
local macro_rules | `(tactic| walk_at "sub") => `(tactic| ((repeat (first | exact List.Sublist.slnil | with_reducible apply List.Sublist.cons_cons | with_reducible apply List.Sublist.cons)); done))

/-! ### checked, put -/
theorem map_take1 {α β : Type} (f : α → β) {l : List α} {i : Nat} {x : α} (h : l[i]? = some x) : (l.take (i + 1)).map f = (l.take i).map f ++ [f x] := by
  rw [List.take_add_one, h, List.map_append]
  rfl
theorem drop_at {α : Type} {l : List α} {i : Nat} {x : α} (h : l[i]? = some x) : l.drop i = x :: l.drop (i + 1) := by
  obtain ⟨hlt, rfl⟩ := List.getElem?_eq_some_iff.mp h
  exact List.drop_eq_getElem_cons hlt
theorem str_at {xs : List Str} {i : Nat} {x : V} (h : (xs.map V.str)[i]? = some x) : ∃ z, xs[i]? = some z ∧ x = .str z := by
  rw [List.getElem?_map] at h
  obtain ⟨z, hz, rfl⟩ := Option.map_eq_some_iff.mp h
  exact ⟨z, hz, rfl⟩
section
variable {P : Program} {w : World} {K : PySem.W.Frag} {mg : Str → Option Value} {base : Heap}
def sp_Order_checked (T : Txt K mg) : Sp := fun vs H Q E => ∃ (a l : Addr) (rows : List URow) (xs : List Str), vs = [.ref a, .ref l] ∧ Ord T H a rows ∧ H l = some (.lst (xs.map V.str)) ∧ xs.length ≤ 200 ∧
  (chkE (kn rows) [] xs = none → ∀ p H', Same H H' → H p = none → H' p = some (.lst (xs.map V.str)) → Q (.ref p) H') ∧
  (∀ z, chkE (kn rows) [] xs = some (true, z) → lost_nm T.C_Unknown H E z) ∧ (∀ z, chkE (kn rows) [] xs = some (false, z) → lost_nm T.C_Repeated H E z)
theorem sp_Order_checked_len {T : Txt K mg} {vs H Q E} (h : sp_Order_checked T vs H Q E) : vs.length = 2 := by
  obtain ⟨_, _, _, _, rfl, _⟩ := h
  rfl
theorem ok_Order_checked (T : Txt K mg) : FnOk P w K mg base (L2N.CX P w) 3 T.f_Order_checked T.fd_Order_checked ["self", "names"] (sp_Order_checked T) := by
  refine Fun.okN T.F_Order_checked sc_Order_checked (fun vs H Q E h => sp_Order_checked_len h) (fun cdv A outer s H vs Q E hr h => ?_)
  refine ⟨_, (pss_cons (ps_set (i := 2) sc_Order_checked.nd rfl (.inl rfl) (pe_lst pa_nil))
      (pss_cons (ps_for (L2.passes_of rfl) rfl (k_il K (pi_list (pv 1))) (pg_name (i := 3) sc_Order_checked.nd rfl (.inl rfl)) (pss_cons (ps_if (pt_cmpR (op_notinM K P w hr.units (u65 hr)) (pv 3) (k_fld K (pe_fld (pv 0) rfl)) (by rfl)) (pss_one (k_raise rfl (L2N.takes_of rfl rfl rfl rfl) (pmk_oexN T.O_Unknown T.iC_Unknown T.tI_Unknown (ok_init_Unknown T) (hr.mono (by decide)) T.bi_Unknown pass0 (by rfl) T.g_Unknown (pa_cons (pv 3) pa_nil)))) pss_nil)
      (pss_cons (ps_if (pt_cmpR (op_inM K P w hr.units (u65 hr)) (pv 3) (pv 2) (by rfl)) (pss_one (k_raise rfl (L2N.takes_of rfl rfl rfl rfl) (pmk_oexN T.O_Repeated T.iC_Repeated T.tI_Repeated (ok_init_Repeated T) (hr.mono (by decide)) T.bi_Repeated pass0 (by rfl) T.g_Repeated (pa_cons (pv 3) pa_nil)))) pss_nil)
      (pss_one (ps_expr (k_bm K (pe_bm PySem.F.plainAttrs_list PySem.F.slot_list_append PySem.F.type_list_append mt_append (pv 2) (pa_cons (pv 3) pa_nil))))))))
      (pss_one (ps_ret (pv 2))))), ?_⟩
  obtain ⟨a, l, rows, xs, rfl, ho, hl, few, q, qu, qr⟩ := h
  obtain ⟨dx, d, nl, kvs, at_, ok⟩ := ho.ex
  have hH := Has.start H
  have ha := at_.i
  have hd := at_.d
  refine g_start (σ' := [some (.ref a), some (.ref l), none, none]) rfl ?_
  walk_at "gg"
  refine g_klst (by walk_at "sz") hH (fun p H1 n1 h1 => ?_)
  walk_at "gg"
  refine k_forL (h1.same _ _ hl) (fun t σ H' => ∃ y3, σ = [some (.ref a), some (.ref l), some (.ref p), y3] ∧ Has H [(p, .lst ((xs.take t).map V.str))] H' ∧ chkE (kn rows) [] xs = chkE (kn rows) (xs.take t) (xs.drop t)) ⟨_, rfl, h1, rfl⟩ ?_ ?_ ?_
  · rintro t σ H' _ ⟨y3, rfl, h2, _⟩
    exact h2.same _ _ hl
  · rintro t x σ H2 hx ⟨y3, rfl, h2, e2⟩
    obtain ⟨z, hz, rfl⟩ := str_at hx
    have htl : t < xs.length := (List.getElem?_eq_some_iff.mp hz).1
    rw [drop_at hz] at e2
    have e2 : chkE (kn rows) [] xs = if kn rows z = true then if z ∈ xs.take t then some (false, z) else chkE (kn rows) (xs.take t ++ [z]) (xs.drop (t + 1)) else some (true, z) := e2
    walk_at "gg"
    refine g_kfld (by walk_at "h") T.cl_Order T.nA_Order__under rfl ?_
    walk_at "gg"
    refine g_notinM (g_notinS (h2.same _ _ hd) ?_)
    rw [ok.val]
    cases hk : kn rows z with
    | false =>
      have hk' : (undr rows z).isSome = false := hk
      rw [hk']
      rw [hk, if_neg (fun z => by cases z)] at e2
      walk_at "gg"
      exact g_mk rfl (by decide) h2 (fun e H' n' h' => qu z e2 e H' h'.same (h2.same.free n') (h'.get (List.Mem.head _)))
    | true =>
      have hk' : (undr rows z).isSome = true := hk
      rw [hk']
      rw [hk, if_pos rfl] at e2
      walk_at "gg"
      refine g_inM (g_inFL (h2.get (List.Mem.head _)) rfl (flat_strs _) ?_)
      rw [inV_strs]
      walk_at "gg"
      refine i_d (fun m => ?_) (fun m => ?_)
      · rw [if_pos m] at e2
        walk_at "gg"
        exact g_mk rfl (by decide) h2 (fun e H' n' h' => qr z e2 e H' h'.same (h2.same.free n') (h'.get (List.Mem.head _)))
      · rw [if_neg m] at e2
        walk_at "gg"
        refine g_append h2 .hd (szl (by rw [List.length_map, List.length_take]; omega)) (fun H3 h3 => ?_)
        walk_at "gg"
        have t1 : xs.take (t + 1) = xs.take t ++ [z] := by rw [List.take_add_one, hz]; rfl
        exact ⟨_, rfl, by rw [map_take1 V.str hz]; exact h3, by rw [t1]; exact e2⟩
  · rintro σ H2 ⟨y3, rfl, h2, e2⟩
    rw [List.length_map, List.take_length] at h2
    rw [List.length_map, List.drop_length] at e2
    walk_at "gg"
    exact q e2 p H2 h2.same n1 (h2.get (List.Mem.head _))
end

end K13

namespace K13
open PySem PySem.Spec PyProof.Rows L2 Qk
local macro_rules | `(tactic| walk_at "m") => `(tactic| ((repeat (first | exact List.Mem.head _ | apply List.Mem.tail)); done))
local macro_rules | `(tactic| walk_at "h") => `(tactic| first | assumption | exact Has.gF (by assumption) (by assumption) | exact Has.get (by assumption) (by walk_at "m"))
local macro_rules | `(tactic| walk_at "c") => `(tactic| ((repeat (first | exact Chg.hd | apply Chg.tl)); done))
local macro_rules | `(tactic| walk_at "is") => `(tactic| first
  | ((with_reducible refine' is2_non ?gh ?_); (case gh => walk_at "h"))
  | (with_reducible refine is_int_list ?_)
  | (with_reducible refine is_int_tuple ?_)
  | (with_reducible refine is_int_dict ?_)
  | (with_reducible refine is_int_int ?_)
  | (with_reducible refine is_int_bool ?_)
  | (with_reducible refine is_int_str ?_)
  | ((with_reducible refine' is2_int ?gh ?_); (case gh => walk_at "h"))
  | (with_reducible refine is_str_list ?_)
  | (with_reducible refine is_str_tuple ?_)
  | (with_reducible refine is_str_dict ?_)
  | (with_reducible refine is_str_int ?_)
  | (with_reducible refine is_str_bool ?_)
  | (with_reducible refine is_str_str ?_)
  | ((with_reducible refine' is2_str ?gh ?_); (case gh => walk_at "h"))
  | (with_reducible refine is_bool_list ?_)
  | (with_reducible refine is_bool_tuple ?_)
  | (with_reducible refine is_bool_dict ?_)
  | (with_reducible refine is_bool_int ?_)
  | (with_reducible refine is_bool_bool ?_)
  | (with_reducible refine is_bool_str ?_)
  | ((with_reducible refine' is2_bool ?gh ?_); (case gh => walk_at "h"))
  | ((with_reducible refine' is_list_list ?gh ?_); (case gh => walk_at "h"))
  | ((with_reducible refine' is_list_tuple ?gh ?_); (case gh => walk_at "h"))
  | ((with_reducible refine' is_list_dict ?gh ?_); (case gh => walk_at "h"))
  | ((with_reducible refine' is_list_int ?gh ?_); (case gh => walk_at "h"))
  | ((with_reducible refine' is_list_bool ?gh ?_); (case gh => walk_at "h"))
  | ((with_reducible refine' is_list_str ?gh ?_); (case gh => walk_at "h"))
  | ((with_reducible refine' is2_list ?ga ?gb ?_); (case ga => walk_at "h"); (case gb => walk_at "h"))
  | ((with_reducible refine' is_tuple_list ?gh ?_); (case gh => walk_at "h"))
  | ((with_reducible refine' is_tuple_tuple ?gh ?_); (case gh => walk_at "h"))
  | ((with_reducible refine' is_tuple_dict ?gh ?_); (case gh => walk_at "h"))
  | ((with_reducible refine' is_tuple_int ?gh ?_); (case gh => walk_at "h"))
  | ((with_reducible refine' is_tuple_bool ?gh ?_); (case gh => walk_at "h"))
  | ((with_reducible refine' is_tuple_str ?gh ?_); (case gh => walk_at "h"))
  | ((with_reducible refine' is2_tuple ?ga ?gb ?_); (case ga => walk_at "h"); (case gb => walk_at "h"))
  | ((with_reducible refine' is_dict_list ?gh ?_); (case gh => walk_at "h"))
  | ((with_reducible refine' is_dict_tuple ?gh ?_); (case gh => walk_at "h"))
  | ((with_reducible refine' is_dict_dict ?gh ?_); (case gh => walk_at "h"))
  | ((with_reducible refine' is_dict_int ?gh ?_); (case gh => walk_at "h"))
  | ((with_reducible refine' is_dict_bool ?gh ?_); (case gh => walk_at "h"))
  | ((with_reducible refine' is_dict_str ?gh ?_); (case gh => walk_at "h"))
  | ((with_reducible refine' is2_dict ?ga ?gb ?_); (case ga => walk_at "h"); (case gb => walk_at "h")))
local macro_rules | `(tactic| walk_at "g") => `(tactic| first
  | (with_reducible refine g_seq ?_)
  | (with_reducible refine g_asg ?_)
  | ((with_reducible refine g_name ?_); dsimp only [List.set, wipe, List.map])
  | ((with_reducible refine' g_var ?gv ?_); (case gv => exact rfl))
  | (with_reducible refine g_c ?_)
  | (with_reducible refine g_op ?_)
  | (with_reducible refine g_cons ?_)
  | (with_reducible refine g_nil ?_)
  | (with_reducible refine g_cb ?_)
  | (with_reducible refine g_call ?_)
  | (with_reducible refine g_tup ?_)
  | (with_reducible refine g_lst ?_)
  | (with_reducible refine g_bm ?_)
  | (with_reducible refine g_bm0 ?_)
  | ((with_reducible refine' g_kbm ?gh ?_); (case gh => walk_at "h"))
  | (with_reducible refine g_drop ?_)
  | (with_reducible refine g_ret ?_)
  | (with_reducible refine g_retN ?_)
  | (with_reducible refine g_next ?_)
  | (with_reducible refine g_brk ?_)
  | (with_reducible refine g_cont ?_)
  | (with_reducible refine g_if ?_)
  | ((with_reducible refine' g_aug ?gv ?_); (case gv => exact rfl))
  | (with_reducible refine g_ipI ?_)
  | (with_reducible refine g_test ?_)
  | (with_reducible refine g_tB ?_)
  | (with_reducible refine g_kB ?_)
  | (with_reducible refine g_not ?_)
  | (with_reducible refine g_and ?_)
  | (with_reducible refine g_or ?_)
  | (with_reducible refine g_andV ?_)
  | (with_reducible refine g_orV ?_)
  | (with_reducible refine g_notV ?_)
  | (with_reducible refine g_ifE ?_)
  | (with_reducible refine g_addI ?_)
  | (with_reducible refine g_rI0 ?_)
  | (with_reducible refine g_eqI ?_)
  | (with_reducible refine g_eqS ?_)
  | (with_reducible refine g_neI ?_)
  | (with_reducible refine g_neS ?_)
  | (with_reducible refine g_isN ?_)
  | (with_reducible refine g_notN ?_)
  | (with_reducible refine g_int ?_)
  | (with_reducible refine g_max2 ?_)
  | (with_reducible refine g_min2 ?_)
  | ((with_reducible refine' g_lenL ?gh ?_); (case gh => walk_at "h"))
  | (with_reducible refine g_sub ?_)
  | (with_reducible refine g_gcons ?_)
  | (with_reducible refine g_gnil ?_)
  | (with_reducible refine g_un ?_)
  | (with_reducible refine g_rU ?_)
  | (with_reducible refine g_forL ?_)
  | (with_reducible refine g_forS ?_)
  | (with_reducible refine g_forR1 ?_)
  | (with_reducible refine g_forR2 ?_)
  | (with_reducible refine g_forR3 ?_)
  | (with_reducible refine g_lcL ?_)
  | (with_reducible refine g_lcR1 ?_)
  | (with_reducible refine g_lcR2 ?_)
  | (with_reducible refine g_slice ?_)
  | (with_reducible refine g_part ?_)
  | (with_reducible refine g_kOI ?_)
  | (with_reducible refine g_nopart ?_)
  | (with_reducible refine g_yes ?_)
  | ((with_reducible refine' g_wipe ?gv ?_); (case gv => exact rfl))
  | (with_reducible refine iteT ?_)
  | (with_reducible refine iteF ?_)
  | (with_reducible refine i_nf ?_)
  | (with_reducible refine i_nt ?_)
  | ((with_reducible refine' g_gtup ?gh ?gl ?_); (case gh => walk_at "h"); (case gl => exact rfl))
  | ((with_reducible refine' g_notinI ?gh ?_); (case gh => walk_at "h"))
  | ((with_reducible refine' g_inI ?gh ?_); (case gh => walk_at "h"))
  | ((with_reducible refine' g_kget2 ?gh ?_); (case gh => walk_at "h"))
  | ((with_reducible refine' g_kgotI ?gh ?_); (case gh => walk_at "h"))
  | (with_reducible refine g_tRev ?_)
  | (with_reducible refine g_neB ?_)
  | (with_reducible refine g_eqB ?_)
  | ((with_reducible refine' g_lenT ?gh ?_); (case gh => walk_at "h"))
  | (with_reducible refine g_star ?_)
  | ((with_reducible refine' g_kstarL ?gh ?_); (case gh => walk_at "h"))
  | ((with_reducible refine' g_kstarT ?gh ?_); (case gh => walk_at "h"))
  | (with_reducible refine g_tru ?_)
  | ((with_reducible refine' g_truL ?gh ?_); (case gh => walk_at "h"))
  | (with_reducible refine g_get2 ?_)
  | (with_reducible refine g_try ?_)
  | (with_reducible refine g_fld ?_)
  | (with_reducible refine g_sfld ?_)
  | (with_reducible refine g_meth ?_)
  | (with_reducible refine g_make ?_)
  | (with_reducible refine g_del ?_)
  | (with_reducible refine g_callS ?_)
  | (with_reducible refine g_raise ?_)
  | (with_reducible refine g_xf ?_)
  | (with_reducible refine g_m0 ?_)
  | (with_reducible refine g_km0 ?_)
  | walk_at "is")
local macro_rules | `(tactic| walk_at "gg") => `(tactic| repeat walk_at "g")
local macro_rules | `(tactic| walk_at "sz") => `(tactic| (refine sz ?_; simp only [List.length_cons, List.length_nil, List.length_map, List.length_append, List.length_replicate]; omega))
local macro_rules | `(tactic| walk_at "sub") => `(tactic| ((repeat (first | exact List.Sublist.slnil | with_reducible apply List.Sublist.cons_cons | with_reducible apply List.Sublist.cons)); done))

/-! ### put -/
theorem chkE_known {kn : Str → Bool} : ∀ {xs seen : List Str}, chkE kn seen xs = none → ∀ z ∈ xs, kn z = true
  | [], _, _, z, hz => by cases hz
  | x :: r, seen, h, z, hz => by
    have h : (if kn x = true then if x ∈ seen then some (false, x) else chkE kn (seen ++ [x]) r else some (true, x)) = none := h
    by_cases hk : kn x = true
    · rw [if_pos hk] at h
      by_cases m : x ∈ seen
      · rw [if_pos m] at h; cases h
      · rw [if_neg m] at h
        rcases List.mem_cons.mp hz with rfl | hz
        · exact hk
        · exact chkE_known h z hz
    · rw [if_neg hk] at h; cases h
def PutU (rows : List URow) (x : Str) (ps us : List Str) : Prop := Asc us ∧ ∀ y, y ∈ us ↔ y = x ∨ ∃ p ∈ ps, ∃ v, undr rows p = some v ∧ y ∈ v
theorem OrdOk.in_names {F : Hp} {nl : Addr} {kvs : List (Key × V)} {rows : List URow} (ok : OrdOk F nl kvs rows) {p y : Str} {v : List Str} (e : undr rows p = some v) (h : y ∈ v) : y ∈ rows.map (·.1) := ok.sub _ (undr_mem e) y h
theorem few_of {rows : List URow} {x : Str} {ys : List Str} (few : rows.length < 60) (n : ys.Nodup) (s : ∀ y ∈ ys, y = x ∨ y ∈ rows.map (·.1)) : ys.length ≤ 60 := by
  have := length_le_of_nodup_of_subset ys (x :: rows.map (·.1)) n fun y hy => List.mem_cons.mpr (s y hy)
  rw [List.length_cons, List.length_map] at this
  omega
section
variable {P : Program} {w : World} {K : PySem.W.Frag} {mg : Str → Option Value} {base : Heap}
/-- the first fault of a put: 0 a bad name, 1 a taken one, 2 an unknown parent, 3 a repeated one -/
def putE (rows : List URow) (x : Str) (ps : List Str) : Option (Nat × Str) := if isNm x = true then (if kn rows x = true then some (1, x) else match chkE (kn rows) [] ps with
  | none => none
  | some (true, z) => some (2, z)
  | some (false, z) => some (3, z)) else some (0, x)
def sp_Order_put (T : Txt K mg) : Sp := fun vs H Q E => ∃ (a dx d nl l : Addr) (F : Hp) (kvs : List (Key × V)) (rows : List URow) (x : Str) (ps : List Str), vs = [.ref a, .str x, .ref l] ∧ Has F (OrdO T a dx d nl kvs) H ∧ OrdOk F nl kvs rows ∧ H l = some (.lst (ps.map V.str)) ∧ x.length ≤ 10000 ∧ ps.length ≤ 200 ∧ rows.length < 60 ∧
  (putE rows x ps = none → ∀ H' F' nl' kvs' us, ButA (OrdO T a dx d nl kvs) H H' → Grow F H F' → Has F' (OrdO T a dx d nl' kvs') H' → OrdOk F' nl' kvs' (rows ++ [(x, us)]) → PutU rows x ps us → Q .non H') ∧
  (∀ z, putE rows x ps = some (0, z) → lost_nm T.C_BadName H E z) ∧ (∀ z, putE rows x ps = some (1, z) → lost_nm T.C_Taken H E z) ∧ (∀ z, putE rows x ps = some (2, z) → lost_nm T.C_Unknown H E z) ∧ (∀ z, putE rows x ps = some (3, z) → lost_nm T.C_Repeated H E z)
theorem sp_Order_put_len {T : Txt K mg} {vs H Q E} (h : sp_Order_put T vs H Q E) : vs.length = 3 := by
  obtain ⟨_, _, _, _, _, _, _, _, _, _, rfl, _⟩ := h
  rfl
theorem ordO_addr {T : Txt K mg} {H : Hp} {a dx d nl nl' : Addr} {kvs kvs' : List (Key × V)} : ∀ q ∈ OrdO T a dx d nl' kvs', q.1 ∈ (OrdO T a dx d nl kvs).map (·.1) ∨ H q.1 = none := fun q hq => by
  simp only [OrdO, List.mem_cons, List.not_mem_nil, or_false] at hq
  rcases hq with rfl | rfl | rfl <;> exact .inl (by simp [OrdO])
theorem ordO_in {T : Txt K mg} {a dx d nl nl' : Addr} {kvs kvs' : List (Key × V)} (X : Own) : ∀ q ∈ OrdO T a dx d nl kvs, q.1 ∈ (X ++ OrdO T a dx d nl' kvs').map (·.1) := fun q hq => by
  rw [List.map_append]
  simp only [OrdO, List.mem_cons, List.not_mem_nil, or_false] at hq
  rcases hq with rfl | rfl | rfl <;> exact List.mem_append_right _ (by simp [OrdO])
theorem ok_Order_put (T : Txt K mg) : FnOk P w K mg base (L2N.CX P w) 4 T.f_Order_put T.fd_Order_put ["self", "name", "parents"] (sp_Order_put T) := by
  refine Fun.okN T.F_Order_put sc_Order_put (fun vs H Q E h => sp_Order_put_len h) (fun cdv A outer s H vs Q E hr h => ?_)
  refine ⟨_, (pss_cons (ps_if (pt_not (pt_val (pe_call (ok_is_name T) (hr.mono (by decide)) (by rfl) T.g_is_name T.F_is_name.kp T.b_is_name .nil pass0 (pa_cons (pv 1) pa_nil)))) (pss_one (k_raise rfl (L2N.takes_of rfl rfl rfl rfl) (pmk_oexN T.O_BadName T.iC_BadName T.tI_BadName (ok_init_BadName T) (hr.mono (by decide)) T.bi_BadName pass0 (by rfl) T.g_BadName (pa_cons (pv 1) pa_nil)))) pss_nil)
      (pss_cons (ps_if (pt_cmpR (op_inM K P w hr.units (u65 hr)) (pv 1) (k_fld K (pe_fld (pv 0) rfl)) (by rfl)) (pss_one (k_raise rfl (L2N.takes_of rfl rfl rfl rfl) (pmk_oexN T.O_Taken T.iC_Taken T.tI_Taken (ok_init_Taken T) (hr.mono (by decide)) T.bi_Taken pass0 (by rfl) T.g_Taken (pa_cons (pv 1) pa_nil)))) pss_nil)
      (pss_cons (ps_set (i := 3) sc_Order_put.nd rfl (.inl rfl) (pe_methW (pv 0) T.cl_Order T.M_Order_checked (ok_Order_checked T) (hr.mono (by decide)) T.b_Order_checked (fun σ => L2N.passAt (L2N.takes_of rfl rfl rfl rfl) σ) (pa_cons (pv 2) pa_nil)))
      (pss_cons (ps_set (i := 4) sc_Order_put.nd rfl (.inl rfl) (pe_disp (pps_cons (pv 1) pe_bl pps_nil) rfl rfl (fun h => nomatch h) (by decide)))
      (pss_cons (ps_for (L2.passes_of rfl) rfl (k_il K (pi_list (pv 3))) (pg_name (i := 5) sc_Order_put.nd rfl (.inl rfl)) (pss_one (ps_for (L2.passes_of rfl) rfl (k_il K (pi_list (pe_ix (ix_K K (hu_of hr)) (k_fld K (pe_fld (pv 0) rfl)) (pv 5) (fun _ _ => rfl)))) (pg_name (i := 6) sc_Order_put.nd rfl (.inl rfl)) (pss_one (ps_asg pe_bl (pg_sub (pv 4) (pv 6) (set_any (hu_of hr))))))))
      (pss_cons (ps_asg (pe_callB (cr_sortA K rfl) (by rfl) T.m_sorted (by decide +kernel) (pa_cons (pv 4) pa_nil)) (pg_sub (k_fld K (pe_fld (pv 0) rfl)) (pv 1) (set_any (hu_of hr))))
      (pss_one (k_sfld K (ps_fld (pv 0) (pe_callB (cr_sortA K rfl) (by rfl) T.m_sorted (by decide +kernel) (pa_cons (pe_lst (k_star K (StX.pa_star (k_fld K (pe_fld (pv 0) rfl)) (pa_cons (pv 1) pa_nil)))) pa_nil)) rfl))))))))), ?_⟩
  obtain ⟨a, dx, d, nl, l, F, kvs, rows, x, ps, rfl, hH, ok, hl, lx, lps, few, q, e0, e1, e2, e3⟩ := h
  have hHH := Has.start H
  refine g_start (σ' := [some (.ref a), some (.str x), some (.ref l), none, none, none, none]) rfl ?_
  have hr := hH.re
  have s0 : Same F (rmO (OrdO T a dx d nl kvs) H) := hH.reF
  have ok0 := ok.mono s0
  have ho : Ord T H a rows := ⟨dx, d, nl, kvs, ⟨hH.get (List.Mem.head _), hH.get (by unfold OrdO; walk_at "m")⟩, ok.mono hH.same⟩
  generalize hF0 : rmO (OrdO T a dx d nl kvs) H = F0 at hr s0 ok0
  walk_at "gg"
  refine ⟨x, rfl, lx, ?_⟩
  walk_at "gg"
  unfold putE at q e0 e1 e2 e3
  cases hnm : isNm x with
  | false =>
    rw [hnm, if_neg (by decide)] at e0
    walk_at "gg"
    exact g_mk rfl (by decide) hHH (fun e H' n' h' => e0 x rfl e H' h'.same n' (h'.get (List.Mem.head _)))
  | true =>
  rw [hnm, if_pos rfl] at q e0 e1 e2 e3
  have nm := isNm_iff.mp hnm
  walk_at "gg"
  refine g_kfld (hr.get (List.Mem.head _)) T.cl_Order T.nA_Order__under rfl ?_
  walk_at "gg"
  refine g_inM (g_inS (hr.get (by unfold OrdO; walk_at "m")) ?_)
  rw [ok.val]
  cases hxx : undr rows x with
  | some u =>
    have hk : kn rows x = true := by unfold kn; rw [hxx]; rfl
    rw [if_pos hk] at e1
    rw [Option.isSome_some]
    walk_at "gg"
    exact g_mk rfl (by decide) hHH (fun e H' n' h' => e1 x rfl e H' h'.same n' (h'.get (List.Mem.head _)))
  | none =>
  have hx := hxx
  have hk : ¬ kn rows x = true := by unfold kn; rw [hxx]; simp
  rw [if_neg hk] at q e0 e1 e2 e3
  rw [Option.isSome_none]
  walk_at "gg"
  refine g_kmeth (hr.get (List.Mem.head _)) rfl ?_
  walk_at "gg"
  refine ⟨a, l, rows, ps, rfl, ho, hl, lps, fun hc p H1 s1 np hp => ?_, (fun z e => e2 z (by rw [e])), (fun z e => e3 z (by rw [e]))⟩
  rw [hc] at q
  have q := q rfl
  have h1 := hr.made np s1 hp
  have h1' := h1.frz
  have s01 := h1.grow
  have fp : upd F0 p (.lst (ps.map V.str)) p = some (.lst (ps.map V.str)) := upd_same
  generalize upd F0 p (.lst (ps.map V.str)) = F1 at h1' s01 fp
  have ok1 := ok0.mono s01
  walk_at "gg"
  refine g_disp1 h1' (fun fd H2 nfd h2 => ?_)
  walk_at "gg"
  refine g_kdisp1 (k := .inr x) h2 rfl (fun H3 h3 => ?_)
  walk_at "gg"
  refine k_forL (h3.same _ _ fp) (fun t σ H' => ∃ (ys : List Str) (y5 y6 : Option V), σ = [some (.ref a), some (.str x), some (.ref l), some (.ref p), some (.ref fd), y5, y6] ∧ Has F1 ((fd, .dK (tk ys)) :: OrdO T a dx d nl kvs) H' ∧ ys.Nodup ∧
    (∀ y, y ∈ ys ↔ y = x ∨ ∃ q ∈ ps.take t, ∃ v, undr rows q = some v ∧ y ∈ v)) ⟨[x], _, _, rfl, h3, List.nodup_cons.mpr ⟨fun h => (by cases h), List.nodup_nil⟩, fun y => by simp⟩ ?_ ?_ ?_
  · rintro t σ H' _ ⟨ys, y5, y6, rfl, h4, _⟩
    exact h4.same _ _ fp
  · rintro t xx σ H4 hxx ⟨ys, y5, y6, rfl, h4, n4, m4⟩
    obtain ⟨q', hq', rfl⟩ := str_at hxx
    have kq := chkE_known hc q' (List.mem_of_getElem? hq')
    obtain ⟨v, hv⟩ := Option.isSome_iff_exists.mp kq
    obtain ⟨lv, elv, hlv⟩ := ok1.look hv
    walk_at "gg"
    refine g_kfld (h4.get (by unfold OrdO; walk_at "m")) T.cl_Order T.nA_Order__under rfl ?_
    walk_at "gg"
    refine g_ixDS (h4.get (by unfold OrdO; walk_at "m")) elv ?_
    walk_at "gg"
    refine k_forL (h4.same _ _ hlv) (fun i σ H' => ∃ (ys : List Str) (y6 : Option V), σ = [some (.ref a), some (.str x), some (.ref l), some (.ref p), some (.ref fd), some (.str q'), y6] ∧ Has F1 ((fd, .dK (tk ys)) :: OrdO T a dx d nl kvs) H' ∧ ys.Nodup ∧
      (∀ y, y ∈ ys ↔ (y = x ∨ ∃ q ∈ ps.take t, ∃ v, undr rows q = some v ∧ y ∈ v) ∨ y ∈ v.take i)) ⟨ys, _, rfl, h4, n4, fun y => by rw [m4 y]; simp⟩ ?_ ?_ ?_
    · rintro i σ H' _ ⟨ys, y6, rfl, h5, _⟩
      exact h5.same _ _ hlv
    · rintro i xx σ H5 hxx ⟨ys, y6, rfl, h5, n5, m5⟩
      obtain ⟨z, hz, rfl⟩ := str_at hxx
      have ly : ys.length ≤ 60 := few_of few n5 fun y hy => by
        rcases (m5 y).mp hy with (h | ⟨q, hq, v', hv', hy'⟩) | h
        · exact .inl h
        · exact .inr (ok.in_names hv' hy')
        · exact .inr (ok.in_names hv (List.mem_of_mem_take h))
      walk_at "gg"
      refine g_stD (k := .inr z) rfl h5 .hd (szl (by rw [tk_len]; omega)) (fun H6 h6 => ?_)
      rw [tk_put] at h6
      refine ⟨addL ys z, _, rfl, h6, addL_nodup n5, fun y => ?_⟩
      rw [addL_mem, m5 y, List.take_add_one, hz]
      simp only [Option.toList_some, List.mem_append, List.mem_singleton]
      rw [or_assoc (b := y ∈ v.take i)]
    · rintro σ H5 ⟨ys, y6, rfl, h5, n5, m5⟩
      rw [List.length_map, List.take_length] at m5
      refine ⟨ys, _, _, rfl, h5, n5, fun y => ?_⟩
      rw [m5 y, List.take_add_one, hq']
      simp only [Option.toList_some, List.mem_append, List.mem_singleton]
      constructor
      · rintro ((h | ⟨q, hq, r⟩) | h)
        · exact .inl h
        · exact .inr ⟨q, .inl hq, r⟩
        · exact .inr ⟨q', .inr rfl, v, hv, h⟩
      · rintro (h | ⟨q, hq | rfl, v', hv', hy⟩)
        · exact .inl (.inl h)
        · exact .inl (.inr ⟨q, hq, v', hv', hy⟩)
        · rw [hv] at hv'
          injection hv' with hv'
          subst hv'
          exact .inr hy
  rintro σ H4 ⟨ys, y5, y6, rfl, h4, n4, m4⟩
  rw [List.length_map, List.take_length] at m4
  have ly : ys.length ≤ 60 := few_of few n4 fun y hy => by
    rcases (m4 y).mp hy with h | ⟨q, hq, v', hv', hy'⟩
    · exact .inl h
    · exact .inr (ok.in_names hv' hy')
  walk_at "gg"
  refine g_sortDS (h4.get (List.Mem.head _)) (tk_keys ys) (by omega) h4 (fun us u1 H5 pm srt n5 h5 => ?_)
  have nu1 : H u1 = none := newp hH (mix_but hH (by rw [hF0]; exact s01) h4) h4 (ordO_in [(fd, HO.dK (tk ys))]) n5
  have asc := asc_of srt (pm.nodup_iff.mpr n4)
  have h5' := h5.frz
  have s12 := h5.grow
  have fu1 : upd F1 u1 (.lst (us.map V.str)) u1 = some (.lst (us.map V.str)) := upd_same
  generalize upd F1 u1 (.lst (us.map V.str)) = F2 at h5' s12 fu1
  have ok2 := ok1.mono s12
  walk_at "gg"
  refine g_kfld (h5'.get (by unfold OrdO; walk_at "m")) T.cl_Order T.nA_Order__under rfl ?_
  walk_at "gg"
  have lk : kvs.length = rows.length := by
    have := congrArg List.length ok.keys
    rw [List.length_map, List.length_map] at this
    exact this
  refine g_stD (k := .inr x) rfl h5' (.tl (.tl (.tl .hd))) (szl (by omega)) (fun H6 h6 => ?_)
  have vn : valV kvs (.inr x) = none := (look_at ok.keys ok.vals).2 hx
  rw [putK_new _ vn] at h6
  obtain ⟨ns, fns, ascn, mns⟩ := ok2.names
  have lns : ns.length ≤ 60 := by
    have := length_le_of_nodup_of_subset ns (rows.map (·.1)) ascn.nodup fun z hz => (mns z).mp hz
    rw [List.length_map] at this
    omega
  walk_at "gg"
  refine g_kfld (h6.get (.tail _ (.head _))) T.cl_Order T.nA_Order__names rfl ?_
  walk_at "gg"
  refine g_klst (by walk_at "sz") h6 (fun n1 H7 n7 h7 => ?_)
  walk_at "gg"
  have e7 : ns.map V.str ++ [V.str x] = (ns ++ [x]).map V.str := by rw [List.map_append]; rfl
  rw [e7] at h7
  refine g_sortS (h7.get (List.Mem.head _)) (by rw [List.length_append]; show ns.length + 1 < 64; omega) h7 (fun ms n2 H8 pm2 srt2 n8 h8 => ?_)
  have xns : x ∉ ns := fun m => by
    have := (mns x).mp m
    have k := undr_known (rows := rows) (x := x)
    rw [hx, decide_eq_true this] at k
    cases k
  have nn2 : H n2 = none := newp hH (mix_but hH (by rw [hF0]; exact s01.trans s12) h7) h7 (ordO_in [(n1, HO.lst ((ns ++ [x]).map V.str)), (fd, HO.dK (tk ys))]) n8
  have ascm := asc_of srt2 (pm2.nodup_iff.mpr (by
    rw [List.nodup_append]
    refine ⟨ascn.nodup, List.nodup_cons.mpr ⟨fun h => (by cases h), List.nodup_nil⟩, fun a ha b hb e => ?_⟩
    rw [List.mem_singleton.mp hb] at e
    exact xns (e ▸ ha)))
  have h8' := h8.frz
  have s23 := h8.grow
  have fn2 : upd F2 n2 (.lst (ms.map V.str)) n2 = some (.lst (ms.map V.str)) := upd_same
  generalize upd F2 n2 (.lst (ms.map V.str)) = F3 at h8' s23 fn2
  walk_at "gg"
  refine g_ksfld (fs' := of_ n2 d) h8' (.tl (.tl .hd)) rfl T.cl_Order T.nA_Order__names (by show 2 < 1000; decide) (fun H9 h9 => ?_)
  walk_at "gg"
  have h9' : Has F3 (OrdO T a dx d n2 (kvs ++ [(.inr x, .ref u1)])) H9 := h9.drop.drop
  have sA : Same (rmO (OrdO T a dx d nl kvs) H) F3 := by
    rw [hF0]
    exact s01.trans (s12.trans s23)
  have gr := mix_grow hH sA
  refine q H9 (mixF F H F3) n2 _ us (mix_but hH sA h9') gr (mix_has hH sA h9' ordO_addr) ?_ ⟨asc, fun y => (pm.mem_iff (a := y)).trans (m4 y)⟩
  refine ⟨?_, ?_, ⟨ms, by rw [mix_at nn2]; exact fn2, ascm, fun z => ?_⟩, ?_, ?_, ?_, ?_⟩
  · rw [List.map_append, List.map_append, ok.keys]; rfl
  · rw [List.map_append, List.map_append]
    exact (ok.vals.up gr.1 _ _).snoc (Dq.strs (by rw [mix_at nu1]; exact s23 _ _ fu1))
  · rw [pm2.mem_iff, List.mem_append, List.map_append, List.mem_append, mns z]
    exact Iff.rfl
  · rw [List.length_append]; show rows.length + 1 ≤ 60; omega
  · rw [List.map_append, List.nodup_append]
    refine ⟨ok.nd, List.nodup_cons.mpr ⟨fun h => (by cases h), List.nodup_nil⟩, fun a ha b hb e => ?_⟩
    have hb : b ∈ [x] := hb
    rw [List.mem_singleton.mp hb] at e
    exact xns ((mns x).mpr (e ▸ ha))
  · intro r hr
    rcases List.mem_append.mp hr with hr | hr
    · exact ok.asc r hr
    · rw [List.mem_singleton.mp hr]; exact asc
  · intro r hr z hz
    rw [List.map_append, List.mem_append]
    rcases List.mem_append.mp hr with hr | hr
    · exact .inl (ok.sub r hr z hz)
    · rw [List.mem_singleton.mp hr] at hz
      rcases (m4 z).mp ((pm.mem_iff).mp hz) with h | ⟨q, hq, v', hv', hy'⟩
      · exact .inr (by rw [h]; exact List.mem_singleton.mpr rfl)
      · exact .inl (ok.in_names hv' hy')
end

end K13

namespace K13
open PySem PySem.Spec PyProof.Rows L2 Qk
local macro_rules | `(tactic| walk_at "m") => `(tactic| ((repeat (first | exact List.Mem.head _ | apply List.Mem.tail)); done))
local macro_rules | `(tactic| walk_at "h") => `(tactic| first | assumption | exact Has.gF (by assumption) (by assumption) | exact Has.get (by assumption) (by walk_at "m"))
local macro_rules | `(tactic| walk_at "c") => `(tactic| ((repeat (first | exact Chg.hd | apply Chg.tl)); done))
local macro_rules | `(tactic| walk_at "is") => `(tactic| first
  | ((with_reducible refine' is2_non ?gh ?_); (case gh => walk_at "h"))
  | (with_reducible refine is_int_list ?_)
  | (with_reducible refine is_int_tuple ?_)
  | (with_reducible refine is_int_dict ?_)
  | (with_reducible refine is_int_int ?_)
  | (with_reducible refine is_int_bool ?_)
  | (with_reducible refine is_int_str ?_)
  | ((with_reducible refine' is2_int ?gh ?_); (case gh => walk_at "h"))
  | (with_reducible refine is_str_list ?_)
  | (with_reducible refine is_str_tuple ?_)
  | (with_reducible refine is_str_dict ?_)
  | (with_reducible refine is_str_int ?_)
  | (with_reducible refine is_str_bool ?_)
  | (with_reducible refine is_str_str ?_)
  | ((with_reducible refine' is2_str ?gh ?_); (case gh => walk_at "h"))
  | (with_reducible refine is_bool_list ?_)
  | (with_reducible refine is_bool_tuple ?_)
  | (with_reducible refine is_bool_dict ?_)
  | (with_reducible refine is_bool_int ?_)
  | (with_reducible refine is_bool_bool ?_)
  | (with_reducible refine is_bool_str ?_)
  | ((with_reducible refine' is2_bool ?gh ?_); (case gh => walk_at "h"))
  | ((with_reducible refine' is_list_list ?gh ?_); (case gh => walk_at "h"))
  | ((with_reducible refine' is_list_tuple ?gh ?_); (case gh => walk_at "h"))
  | ((with_reducible refine' is_list_dict ?gh ?_); (case gh => walk_at "h"))
  | ((with_reducible refine' is_list_int ?gh ?_); (case gh => walk_at "h"))
  | ((with_reducible refine' is_list_bool ?gh ?_); (case gh => walk_at "h"))
  | ((with_reducible refine' is_list_str ?gh ?_); (case gh => walk_at "h"))
  | ((with_reducible refine' is2_list ?ga ?gb ?_); (case ga => walk_at "h"); (case gb => walk_at "h"))
  | ((with_reducible refine' is_tuple_list ?gh ?_); (case gh => walk_at "h"))
  | ((with_reducible refine' is_tuple_tuple ?gh ?_); (case gh => walk_at "h"))
  | ((with_reducible refine' is_tuple_dict ?gh ?_); (case gh => walk_at "h"))
  | ((with_reducible refine' is_tuple_int ?gh ?_); (case gh => walk_at "h"))
  | ((with_reducible refine' is_tuple_bool ?gh ?_); (case gh => walk_at "h"))
  | ((with_reducible refine' is_tuple_str ?gh ?_); (case gh => walk_at "h"))
  | ((with_reducible refine' is2_tuple ?ga ?gb ?_); (case ga => walk_at "h"); (case gb => walk_at "h"))
  | ((with_reducible refine' is_dict_list ?gh ?_); (case gh => walk_at "h"))
  | ((with_reducible refine' is_dict_tuple ?gh ?_); (case gh => walk_at "h"))
  | ((with_reducible refine' is_dict_dict ?gh ?_); (case gh => walk_at "h"))
  | ((with_reducible refine' is_dict_int ?gh ?_); (case gh => walk_at "h"))
  | ((with_reducible refine' is_dict_bool ?gh ?_); (case gh => walk_at "h"))
  | ((with_reducible refine' is_dict_str ?gh ?_); (case gh => walk_at "h"))
  | ((with_reducible refine' is2_dict ?ga ?gb ?_); (case ga => walk_at "h"); (case gb => walk_at "h")))
local macro_rules | `(tactic| walk_at "g") => `(tactic| first
  | (with_reducible refine g_seq ?_)
  | (with_reducible refine g_asg ?_)
  | ((with_reducible refine g_name ?_); dsimp only [List.set, wipe, List.map])
  | ((with_reducible refine' g_var ?gv ?_); (case gv => exact rfl))
  | (with_reducible refine g_c ?_)
  | (with_reducible refine g_op ?_)
  | (with_reducible refine g_cons ?_)
  | (with_reducible refine g_nil ?_)
  | (with_reducible refine g_cb ?_)
  | (with_reducible refine g_call ?_)
  | (with_reducible refine g_tup ?_)
  | (with_reducible refine g_lst ?_)
  | (with_reducible refine g_bm ?_)
  | (with_reducible refine g_bm0 ?_)
  | ((with_reducible refine' g_kbm ?gh ?_); (case gh => walk_at "h"))
  | (with_reducible refine g_drop ?_)
  | (with_reducible refine g_ret ?_)
  | (with_reducible refine g_retN ?_)
  | (with_reducible refine g_next ?_)
  | (with_reducible refine g_brk ?_)
  | (with_reducible refine g_cont ?_)
  | (with_reducible refine g_if ?_)
  | ((with_reducible refine' g_aug ?gv ?_); (case gv => exact rfl))
  | (with_reducible refine g_ipI ?_)
  | (with_reducible refine g_test ?_)
  | (with_reducible refine g_tB ?_)
  | (with_reducible refine g_kB ?_)
  | (with_reducible refine g_not ?_)
  | (with_reducible refine g_and ?_)
  | (with_reducible refine g_or ?_)
  | (with_reducible refine g_andV ?_)
  | (with_reducible refine g_orV ?_)
  | (with_reducible refine g_notV ?_)
  | (with_reducible refine g_ifE ?_)
  | (with_reducible refine g_addI ?_)
  | (with_reducible refine g_rI0 ?_)
  | (with_reducible refine g_eqI ?_)
  | (with_reducible refine g_eqS ?_)
  | (with_reducible refine g_neI ?_)
  | (with_reducible refine g_neS ?_)
  | (with_reducible refine g_isN ?_)
  | (with_reducible refine g_notN ?_)
  | (with_reducible refine g_int ?_)
  | (with_reducible refine g_max2 ?_)
  | (with_reducible refine g_min2 ?_)
  | ((with_reducible refine' g_lenL ?gh ?_); (case gh => walk_at "h"))
  | (with_reducible refine g_sub ?_)
  | (with_reducible refine g_gcons ?_)
  | (with_reducible refine g_gnil ?_)
  | (with_reducible refine g_un ?_)
  | (with_reducible refine g_rU ?_)
  | (with_reducible refine g_forL ?_)
  | (with_reducible refine g_forS ?_)
  | (with_reducible refine g_forR1 ?_)
  | (with_reducible refine g_forR2 ?_)
  | (with_reducible refine g_forR3 ?_)
  | (with_reducible refine g_lcL ?_)
  | (with_reducible refine g_lcR1 ?_)
  | (with_reducible refine g_lcR2 ?_)
  | (with_reducible refine g_slice ?_)
  | (with_reducible refine g_part ?_)
  | (with_reducible refine g_kOI ?_)
  | (with_reducible refine g_nopart ?_)
  | (with_reducible refine g_yes ?_)
  | ((with_reducible refine' g_wipe ?gv ?_); (case gv => exact rfl))
  | (with_reducible refine iteT ?_)
  | (with_reducible refine iteF ?_)
  | (with_reducible refine i_nf ?_)
  | (with_reducible refine i_nt ?_)
  | ((with_reducible refine' g_gtup ?gh ?gl ?_); (case gh => walk_at "h"); (case gl => exact rfl))
  | ((with_reducible refine' g_notinI ?gh ?_); (case gh => walk_at "h"))
  | ((with_reducible refine' g_inI ?gh ?_); (case gh => walk_at "h"))
  | ((with_reducible refine' g_kget2 ?gh ?_); (case gh => walk_at "h"))
  | ((with_reducible refine' g_kgotI ?gh ?_); (case gh => walk_at "h"))
  | (with_reducible refine g_tRev ?_)
  | (with_reducible refine g_neB ?_)
  | (with_reducible refine g_eqB ?_)
  | ((with_reducible refine' g_lenT ?gh ?_); (case gh => walk_at "h"))
  | (with_reducible refine g_star ?_)
  | ((with_reducible refine' g_kstarL ?gh ?_); (case gh => walk_at "h"))
  | ((with_reducible refine' g_kstarT ?gh ?_); (case gh => walk_at "h"))
  | (with_reducible refine g_tru ?_)
  | ((with_reducible refine' g_truL ?gh ?_); (case gh => walk_at "h"))
  | (with_reducible refine g_get2 ?_)
  | (with_reducible refine g_try ?_)
  | (with_reducible refine g_fld ?_)
  | (with_reducible refine g_sfld ?_)
  | (with_reducible refine g_meth ?_)
  | (with_reducible refine g_make ?_)
  | (with_reducible refine g_del ?_)
  | (with_reducible refine g_callS ?_)
  | (with_reducible refine g_raise ?_)
  | (with_reducible refine g_xf ?_)
  | (with_reducible refine g_m0 ?_)
  | (with_reducible refine g_km0 ?_)
  | walk_at "is")
local macro_rules | `(tactic| walk_at "gg") => `(tactic| repeat walk_at "g")
local macro_rules | `(tactic| walk_at "sz") => `(tactic| (refine sz ?_; simp only [List.length_cons, List.length_nil, List.length_map, List.length_append, List.length_replicate]; omega))
local macro_rules | `(tactic| walk_at "sub") => `(tactic| ((repeat (first | exact List.Sublist.slnil | with_reducible apply List.Sublist.cons_cons | with_reducible apply List.Sublist.cons)); done))

section
variable {P : Program} {w : World} {K : PySem.W.Frag} {mg : Str → Option Value} {base : Heap}
def sp_Order_nearest (T : Txt K mg) : Sp := fun vs H Q E => ∃ (a : Addr) (rows : List URow) (x : Str), vs = [.ref a, .str x] ∧ Ord T H a rows ∧ undr rows x = none ∧ lost_nm T.C_Unknown H E x
theorem sp_Order_nearest_len {T : Txt K mg} {vs H Q E} (h : sp_Order_nearest T vs H Q E) : vs.length = 2 := by
  obtain ⟨_, _, _, rfl, _⟩ := h
  rfl
theorem ok_Order_nearest (T : Txt K mg) : FnOk P w K mg base (L2N.CX P w) 3 T.f_Order_nearest T.fd_Order_nearest ["self", "name"] (sp_Order_nearest T) := by
  refine Fun.okN T.F_Order_nearest sc_Order_nearest (fun vs H Q E h => sp_Order_nearest_len h) (fun cdv A outer s H vs Q E hr h => ?_)
  refine ⟨_, (pss_cons (ps_if (pt_cmpR (op_notinM K P w hr.units (u65 hr)) (pv 1) (k_fld K (pe_fld (pv 0) rfl)) (by rfl)) (pss_one (k_raise rfl (L2N.takes_of rfl rfl rfl rfl) (pmk_oexN T.O_Unknown T.iC_Unknown T.tI_Unknown (ok_init_Unknown T) (hr.mono (by decide)) T.bi_Unknown pass0 (by rfl) T.g_Unknown (pa_cons (pv 1) pa_nil)))) pss_nil)
      (pss_cons (ps_setLc (i := 2) (own := [("version", 4)]) (g := gName 4) rfl sc_Order_nearest.nd rfl rfl (sw_true rfl rfl rfl (by decide +kernel)) (k_il K (pi_list (pe_ix (ix_K K (hu_of hr)) (k_fld K (pe_fld (pv 0) rfl)) (pv 1) (fun _ _ => rfl)))) (blkOk_by (N := n_Order_nearest) (sc := defScope s_Order_nearest) (by decide +kernel)) (fun _ _ _ _ _ => (pg_name (i := 4) sc_Order_nearest.nd rfl (.inl rfl))) (fun _ _ _ _ _ => (pts_one (pt_cmpR (op_neK K hr.units) (pv 4) (pv 1) (nomark _)))) (fun _ _ _ _ _ => (pv 4)))
      (pss_cons (ps_set (i := 3) sc_Order_nearest.nd rfl (.inr rfl) pe_dnewK)
      (pss_cons (ps_for (L2.passes_of rfl) rfl (k_il K (pi_list (pv 2))) (pg_name (i := 4) sc_Order_nearest.nd rfl (.inl rfl)) (pss_one (ps_for (L2.passes_of rfl) rfl (k_il K (pi_list (pe_ix (ix_K K (hu_of hr)) (k_fld K (pe_fld (pv 0) rfl)) (pv 4) (fun _ _ => rfl)))) (pg_name (i := 5) sc_Order_nearest.nd rfl (.inl rfl)) (pss_one (ps_if (pt_cmpR (op_neK K hr.units) (pv 5) (pv 4) (nomark _)) (pss_one (ps_asg pe_bl (pg_sub (pv 3) (pv 5) (set_any (hu_of hr))))) pss_nil)))))
      (pss_one (ps_ret (pe_lc (own := [("version", 4)]) (g := gName 4) rfl sc_Order_nearest.nd (k_il K (pi_list (pv 2))) (blkOk_by (N := n_Order_nearest) (sc := defScope s_Order_nearest) (by decide +kernel)) (fun _ _ _ _ _ => (pg_name (i := 4) sc_Order_nearest.nd rfl (.inl rfl))) (fun _ _ _ _ _ => (pts_one (pt_cmpR (op_notinM K P w hr.units (u65 hr)) (pv 4) (pv 3) (by rfl)))) (fun _ _ _ _ _ => (pv 4))))))))), ?_⟩
  obtain ⟨a, rows, x, rfl, ho, hu, qe⟩ := h
  obtain ⟨dx, d, nl, kvs, at_, ok⟩ := ho.ex
  have hH := Has.start H
  have ha := at_.i
  have hd := at_.d
  refine g_start (σ' := [some (.ref a), some (.str x), none, none, none, none]) rfl ?_
  walk_at "gg"
  refine g_kfld (by walk_at "h") T.cl_Order T.nA_Order__under rfl ?_
  walk_at "gg"
  refine g_notinM (g_notinS hd ?_)
  rw [ok.val, hu, Option.isSome_none]
  walk_at "gg"
  exact g_mk rfl (by decide) hH (fun e H' n' h' => qe e H' h'.same n' (h'.get (List.Mem.head _)))
def sp_Order_is_under (T : Txt K mg) : Sp := fun vs H Q E => ∃ (a : Addr) (rows : List URow) (x y : Str), vs = [.ref a, .str x, .str y] ∧ Ord T H a rows ∧
  (∀ u v, undr rows x = some u → undr rows y = some v → Q (.bl (decide (x ∈ v))) H) ∧ (undr rows x = none → lost_nm T.C_Unknown H E x) ∧ (∀ u, undr rows x = some u → undr rows y = none → lost_nm T.C_Unknown H E y)
theorem sp_Order_is_under_len {T : Txt K mg} {vs H Q E} (h : sp_Order_is_under T vs H Q E) : vs.length = 3 := by
  obtain ⟨_, _, _, _, rfl, _⟩ := h
  rfl
theorem ok_Order_is_under (T : Txt K mg) : FnOk P w K mg base (L2N.CX P w) 3 T.f_Order_is_under T.fd_Order_is_under ["self", "low", "high"] (sp_Order_is_under T) := by
  refine Fun.okN T.F_Order_is_under sc_Order_is_under (fun vs H Q E h => sp_Order_is_under_len h) (fun cdv A outer s H vs Q E hr h => ?_)
  refine ⟨_, (pss_cons (ps_if (pt_cmpR (op_notinM K P w hr.units (u65 hr)) (pv 1) (k_fld K (pe_fld (pv 0) rfl)) (by rfl)) (pss_one (k_raise rfl (L2N.takes_of rfl rfl rfl rfl) (pmk_oexN T.O_Unknown T.iC_Unknown T.tI_Unknown (ok_init_Unknown T) (hr.mono (by decide)) T.bi_Unknown pass0 (by rfl) T.g_Unknown (pa_cons (pv 1) pa_nil)))) pss_nil)
      (pss_cons (ps_if (pt_cmpR (op_notinM K P w hr.units (u65 hr)) (pv 2) (k_fld K (pe_fld (pv 0) rfl)) (by rfl)) (pss_one (k_raise rfl (L2N.takes_of rfl rfl rfl rfl) (pmk_oexN T.O_Unknown T.iC_Unknown T.tI_Unknown (ok_init_Unknown T) (hr.mono (by decide)) T.bi_Unknown pass0 (by rfl) T.g_Unknown (pa_cons (pv 2) pa_nil)))) pss_nil)
      (pss_one (ps_ret (pe_cmpR (op_inM K P w hr.units (u65 hr)) (pv 1) (pe_ix (ix_K K (hu_of hr)) (k_fld K (pe_fld (pv 0) rfl)) (pv 2) (fun _ _ => rfl)) (by rfl)))))), ?_⟩
  obtain ⟨a, rows, x, y, rfl, ho, q, qx, qy⟩ := h
  obtain ⟨dx, d, nl, kvs, at_, ok⟩ := ho.ex
  have hH := Has.start H
  have ha := at_.i
  have hd := at_.d
  refine g_start (σ' := [some (.ref a), some (.str x), some (.str y)]) rfl ?_
  walk_at "gg"
  refine g_kfld (by walk_at "h") T.cl_Order T.nA_Order__under rfl ?_
  walk_at "gg"
  refine g_notinM (g_notinS hd ?_)
  rw [ok.val]
  cases hu : undr rows x with
  | none =>
    rw [Option.isSome_none]
    walk_at "gg"
    exact g_mk rfl (by decide) hH (fun e H' n' h' => qx hu e H' h'.same n' (h'.get (List.Mem.head _)))
  | some u =>
    rw [Option.isSome_some]
    walk_at "gg"
    refine g_kfld (by walk_at "h") T.cl_Order T.nA_Order__under rfl ?_
    walk_at "gg"
    refine g_notinM (g_notinS hd ?_)
    rw [ok.val]
    cases hv : undr rows y with
    | none =>
      rw [Option.isSome_none]
      walk_at "gg"
      exact g_mk rfl (by decide) hH (fun e H' n' h' => qy u hu hv e H' h'.same n' (h'.get (List.Mem.head _)))
    | some v =>
      obtain ⟨l, el, hl⟩ := ok.look hv
      rw [Option.isSome_some]
      walk_at "gg"
      refine g_kfld (by walk_at "h") T.cl_Order T.nA_Order__under rfl ?_
      walk_at "gg"
      refine g_ixDS hd el ?_
      refine g_inM (g_inFL hl rfl (flat_strs _) ?_)
      rw [inV_strs]
      exact q u v hu hv
end

end K13

namespace K13
open PySem PySem.Spec PyProof.Rows L2 Qk
local macro_rules | `(tactic| walk_at "m") => `(tactic| ((repeat (first | exact List.Mem.head _ | apply List.Mem.tail)); done))
local macro_rules | `(tactic| walk_at "h") => `(tactic| first | assumption | exact Has.gF (by assumption) (by assumption) | exact Has.get (by assumption) (by walk_at "m"))
local macro_rules | `(tactic| walk_at "c") => `(tactic| ((repeat (first | exact Chg.hd | apply Chg.tl)); done))
local macro_rules | `(tactic| walk_at "is") => `(tactic| first
  | ((with_reducible refine' is2_non ?gh ?_); (case gh => walk_at "h"))
  | (with_reducible refine is_int_list ?_)
  | (with_reducible refine is_int_tuple ?_)
  | (with_reducible refine is_int_dict ?_)
  | (with_reducible refine is_int_int ?_)
  | (with_reducible refine is_int_bool ?_)
  | (with_reducible refine is_int_str ?_)
  | ((with_reducible refine' is2_int ?gh ?_); (case gh => walk_at "h"))
  | (with_reducible refine is_str_list ?_)
  | (with_reducible refine is_str_tuple ?_)
  | (with_reducible refine is_str_dict ?_)
  | (with_reducible refine is_str_int ?_)
  | (with_reducible refine is_str_bool ?_)
  | (with_reducible refine is_str_str ?_)
  | ((with_reducible refine' is2_str ?gh ?_); (case gh => walk_at "h"))
  | (with_reducible refine is_bool_list ?_)
  | (with_reducible refine is_bool_tuple ?_)
  | (with_reducible refine is_bool_dict ?_)
  | (with_reducible refine is_bool_int ?_)
  | (with_reducible refine is_bool_bool ?_)
  | (with_reducible refine is_bool_str ?_)
  | ((with_reducible refine' is2_bool ?gh ?_); (case gh => walk_at "h"))
  | ((with_reducible refine' is_list_list ?gh ?_); (case gh => walk_at "h"))
  | ((with_reducible refine' is_list_tuple ?gh ?_); (case gh => walk_at "h"))
  | ((with_reducible refine' is_list_dict ?gh ?_); (case gh => walk_at "h"))
  | ((with_reducible refine' is_list_int ?gh ?_); (case gh => walk_at "h"))
  | ((with_reducible refine' is_list_bool ?gh ?_); (case gh => walk_at "h"))
  | ((with_reducible refine' is_list_str ?gh ?_); (case gh => walk_at "h"))
  | ((with_reducible refine' is2_list ?ga ?gb ?_); (case ga => walk_at "h"); (case gb => walk_at "h"))
  | ((with_reducible refine' is_tuple_list ?gh ?_); (case gh => walk_at "h"))
  | ((with_reducible refine' is_tuple_tuple ?gh ?_); (case gh => walk_at "h"))
  | ((with_reducible refine' is_tuple_dict ?gh ?_); (case gh => walk_at "h"))
  | ((with_reducible refine' is_tuple_int ?gh ?_); (case gh => walk_at "h"))
  | ((with_reducible refine' is_tuple_bool ?gh ?_); (case gh => walk_at "h"))
  | ((with_reducible refine' is_tuple_str ?gh ?_); (case gh => walk_at "h"))
  | ((with_reducible refine' is2_tuple ?ga ?gb ?_); (case ga => walk_at "h"); (case gb => walk_at "h"))
  | ((with_reducible refine' is_dict_list ?gh ?_); (case gh => walk_at "h"))
  | ((with_reducible refine' is_dict_tuple ?gh ?_); (case gh => walk_at "h"))
  | ((with_reducible refine' is_dict_dict ?gh ?_); (case gh => walk_at "h"))
  | ((with_reducible refine' is_dict_int ?gh ?_); (case gh => walk_at "h"))
  | ((with_reducible refine' is_dict_bool ?gh ?_); (case gh => walk_at "h"))
  | ((with_reducible refine' is_dict_str ?gh ?_); (case gh => walk_at "h"))
  | ((with_reducible refine' is2_dict ?ga ?gb ?_); (case ga => walk_at "h"); (case gb => walk_at "h")))
local macro_rules | `(tactic| walk_at "g") => `(tactic| first
  | (with_reducible refine g_seq ?_)
  | (with_reducible refine g_asg ?_)
  | ((with_reducible refine g_name ?_); dsimp only [List.set, wipe, List.map])
  | ((with_reducible refine' g_var ?gv ?_); (case gv => exact rfl))
  | (with_reducible refine g_c ?_)
  | (with_reducible refine g_op ?_)
  | (with_reducible refine g_cons ?_)
  | (with_reducible refine g_nil ?_)
  | (with_reducible refine g_cb ?_)
  | (with_reducible refine g_call ?_)
  | (with_reducible refine g_tup ?_)
  | (with_reducible refine g_lst ?_)
  | (with_reducible refine g_bm ?_)
  | (with_reducible refine g_bm0 ?_)
  | ((with_reducible refine' g_kbm ?gh ?_); (case gh => walk_at "h"))
  | (with_reducible refine g_drop ?_)
  | (with_reducible refine g_ret ?_)
  | (with_reducible refine g_retN ?_)
  | (with_reducible refine g_next ?_)
  | (with_reducible refine g_brk ?_)
  | (with_reducible refine g_cont ?_)
  | (with_reducible refine g_if ?_)
  | ((with_reducible refine' g_aug ?gv ?_); (case gv => exact rfl))
  | (with_reducible refine g_ipI ?_)
  | (with_reducible refine g_test ?_)
  | (with_reducible refine g_tB ?_)
  | (with_reducible refine g_kB ?_)
  | (with_reducible refine g_not ?_)
  | (with_reducible refine g_and ?_)
  | (with_reducible refine g_or ?_)
  | (with_reducible refine g_andV ?_)
  | (with_reducible refine g_orV ?_)
  | (with_reducible refine g_notV ?_)
  | (with_reducible refine g_ifE ?_)
  | (with_reducible refine g_addI ?_)
  | (with_reducible refine g_rI0 ?_)
  | (with_reducible refine g_eqI ?_)
  | (with_reducible refine g_eqS ?_)
  | (with_reducible refine g_neI ?_)
  | (with_reducible refine g_neS ?_)
  | (with_reducible refine g_isN ?_)
  | (with_reducible refine g_notN ?_)
  | (with_reducible refine g_int ?_)
  | (with_reducible refine g_max2 ?_)
  | (with_reducible refine g_min2 ?_)
  | ((with_reducible refine' g_lenL ?gh ?_); (case gh => walk_at "h"))
  | (with_reducible refine g_sub ?_)
  | (with_reducible refine g_gcons ?_)
  | (with_reducible refine g_gnil ?_)
  | (with_reducible refine g_un ?_)
  | (with_reducible refine g_rU ?_)
  | (with_reducible refine g_forL ?_)
  | (with_reducible refine g_forS ?_)
  | (with_reducible refine g_forR1 ?_)
  | (with_reducible refine g_forR2 ?_)
  | (with_reducible refine g_forR3 ?_)
  | (with_reducible refine g_lcL ?_)
  | (with_reducible refine g_lcR1 ?_)
  | (with_reducible refine g_lcR2 ?_)
  | (with_reducible refine g_slice ?_)
  | (with_reducible refine g_part ?_)
  | (with_reducible refine g_kOI ?_)
  | (with_reducible refine g_nopart ?_)
  | (with_reducible refine g_yes ?_)
  | ((with_reducible refine' g_wipe ?gv ?_); (case gv => exact rfl))
  | (with_reducible refine iteT ?_)
  | (with_reducible refine iteF ?_)
  | (with_reducible refine i_nf ?_)
  | (with_reducible refine i_nt ?_)
  | ((with_reducible refine' g_gtup ?gh ?gl ?_); (case gh => walk_at "h"); (case gl => exact rfl))
  | ((with_reducible refine' g_notinI ?gh ?_); (case gh => walk_at "h"))
  | ((with_reducible refine' g_inI ?gh ?_); (case gh => walk_at "h"))
  | ((with_reducible refine' g_kget2 ?gh ?_); (case gh => walk_at "h"))
  | ((with_reducible refine' g_kgotI ?gh ?_); (case gh => walk_at "h"))
  | (with_reducible refine g_tRev ?_)
  | (with_reducible refine g_neB ?_)
  | (with_reducible refine g_eqB ?_)
  | ((with_reducible refine' g_lenT ?gh ?_); (case gh => walk_at "h"))
  | (with_reducible refine g_star ?_)
  | ((with_reducible refine' g_kstarL ?gh ?_); (case gh => walk_at "h"))
  | ((with_reducible refine' g_kstarT ?gh ?_); (case gh => walk_at "h"))
  | (with_reducible refine g_tru ?_)
  | ((with_reducible refine' g_truL ?gh ?_); (case gh => walk_at "h"))
  | (with_reducible refine g_get2 ?_)
  | (with_reducible refine g_try ?_)
  | (with_reducible refine g_fld ?_)
  | (with_reducible refine g_sfld ?_)
  | (with_reducible refine g_meth ?_)
  | (with_reducible refine g_make ?_)
  | (with_reducible refine g_del ?_)
  | (with_reducible refine g_callS ?_)
  | (with_reducible refine g_raise ?_)
  | (with_reducible refine g_xf ?_)
  | (with_reducible refine g_m0 ?_)
  | (with_reducible refine g_km0 ?_)
  | walk_at "is")
local macro_rules | `(tactic| walk_at "gg") => `(tactic| repeat walk_at "g")
local macro_rules | `(tactic| walk_at "sz") => `(tactic| (refine sz ?_; simp only [List.length_cons, List.length_nil, List.length_map, List.length_append, List.length_replicate]; omega))
local macro_rules | `(tactic| walk_at "sub") => `(tactic| ((repeat (first | exact List.Sublist.slnil | with_reducible apply List.Sublist.cons_cons | with_reducible apply List.Sublist.cons)); done))

section
variable {P : Program} {w : World} {K : PySem.W.Frag} {mg : Str → Option Value} {base : Heap}
def sp_Order_names (T : Txt K mg) : Sp := fun vs H Q _ => ∃ (a : Addr) (rows : List URow), vs = [.ref a] ∧ Ord T H a rows ∧ ∀ p H' ns, Same H H' → H p = none → H' p = some (.lst (ns.map V.str)) → Asc ns → (∀ z, z ∈ ns ↔ z ∈ rows.map (·.1)) → Q (.ref p) H'
theorem sp_Order_names_len {T : Txt K mg} {vs H Q E} (h : sp_Order_names T vs H Q E) : vs.length = 1 := by
  obtain ⟨_, _, rfl, _⟩ := h
  rfl
theorem ok_Order_names (T : Txt K mg) : FnOk P w K mg base CX0 1 T.f_Order_names T.fd_Order_names ["self"] (sp_Order_names T) := by
  refine T.F_Order_names.ok sc_Order_names (fun vs H Q E h => sp_Order_names_len h) (fun cdv A outer s H vs Q E hr h => ?_)
  refine ⟨_, (pss_one (ps_ret (pe_callTy (cr_listK K) (by rfl) T.m_list (by decide +kernel) (pa_cons (k_fld K (pe_fld (pv 0) rfl)) pa_nil)))), ?_⟩
  obtain ⟨a, rows, rfl, ho, q⟩ := h
  have hH := Has.start H
  refine g_start (σ' := [some (.ref a)]) rfl ?_
  obtain ⟨dx, d, nl, kvs, at_, ok⟩ := ho.ex
  obtain ⟨ns, hn, asc, mn⟩ := ok.names
  walk_at "gg"
  refine g_kfld at_.i T.cl_Order T.nA_Order__names rfl ?_
  walk_at "gg"
  refine g_listL hn hH (fun p H1 n1 h1 => ?_)
  exact q p H1 ns h1.same n1 (h1.get (List.Mem.head _)) asc mn
def sp_Order_has (T : Txt K mg) : Sp := fun vs H Q _ => ∃ (a : Addr) (rows : List URow) (x : Str), vs = [.ref a, .str x] ∧ Ord T H a rows ∧ Q (.bl (kn rows x)) H
theorem sp_Order_has_len {T : Txt K mg} {vs H Q E} (h : sp_Order_has T vs H Q E) : vs.length = 2 := by
  obtain ⟨_, _, _, rfl, _⟩ := h
  rfl
theorem ok_Order_has (T : Txt K mg) : FnOk P w K mg base CX0 1 T.f_Order_has T.fd_Order_has ["self", "name"] (sp_Order_has T) := by
  refine T.F_Order_has.ok sc_Order_has (fun vs H Q E h => sp_Order_has_len h) (fun cdv A outer s H vs Q E hr h => ?_)
  refine ⟨_, (pss_one (ps_ret (pe_cmpR (op_inM K P w hr.units (u65 hr)) (pv 1) (k_fld K (pe_fld (pv 0) rfl)) (by rfl)))), ?_⟩
  obtain ⟨a, rows, x, rfl, ho, q⟩ := h
  refine g_start (σ' := [some (.ref a), some (.str x)]) rfl ?_
  obtain ⟨dx, d, nl, kvs, at_, ok⟩ := ho.ex
  walk_at "gg"
  refine g_kfld at_.i T.cl_Order T.nA_Order__under rfl ?_
  walk_at "gg"
  refine g_inM (g_inS at_.d ?_)
  rw [ok.val]
  exact q
end

end K13

namespace K13
open PySem PySem.Spec PyProof.Rows L2 Qk
local macro_rules | `(tactic| walk_at "m") => `(tactic| ((repeat (first | exact List.Mem.head _ | apply List.Mem.tail)); done))
local macro_rules | `(tactic| walk_at "h") => `(tactic| first | assumption | exact Has.gF (by assumption) (by assumption) | exact Has.get (by assumption) (by walk_at "m"))
local macro_rules | `(tactic| walk_at "c") => `(tactic| ((repeat (first | exact Chg.hd | apply Chg.tl)); done))
local macro_rules | `(tactic| walk_at "is") => `(tactic| first
  | ((with_reducible refine' is2_non ?gh ?_); (case gh => walk_at "h"))
  | (with_reducible refine is_int_list ?_)
  | (with_reducible refine is_int_tuple ?_)
  | (with_reducible refine is_int_dict ?_)
  | (with_reducible refine is_int_int ?_)
  | (with_reducible refine is_int_bool ?_)
  | (with_reducible refine is_int_str ?_)
  | ((with_reducible refine' is2_int ?gh ?_); (case gh => walk_at "h"))
  | (with_reducible refine is_str_list ?_)
  | (with_reducible refine is_str_tuple ?_)
  | (with_reducible refine is_str_dict ?_)
  | (with_reducible refine is_str_int ?_)
  | (with_reducible refine is_str_bool ?_)
  | (with_reducible refine is_str_str ?_)
  | ((with_reducible refine' is2_str ?gh ?_); (case gh => walk_at "h"))
  | (with_reducible refine is_bool_list ?_)
  | (with_reducible refine is_bool_tuple ?_)
  | (with_reducible refine is_bool_dict ?_)
  | (with_reducible refine is_bool_int ?_)
  | (with_reducible refine is_bool_bool ?_)
  | (with_reducible refine is_bool_str ?_)
  | ((with_reducible refine' is2_bool ?gh ?_); (case gh => walk_at "h"))
  | ((with_reducible refine' is_list_list ?gh ?_); (case gh => walk_at "h"))
  | ((with_reducible refine' is_list_tuple ?gh ?_); (case gh => walk_at "h"))
  | ((with_reducible refine' is_list_dict ?gh ?_); (case gh => walk_at "h"))
  | ((with_reducible refine' is_list_int ?gh ?_); (case gh => walk_at "h"))
  | ((with_reducible refine' is_list_bool ?gh ?_); (case gh => walk_at "h"))
  | ((with_reducible refine' is_list_str ?gh ?_); (case gh => walk_at "h"))
  | ((with_reducible refine' is2_list ?ga ?gb ?_); (case ga => walk_at "h"); (case gb => walk_at "h"))
  | ((with_reducible refine' is_tuple_list ?gh ?_); (case gh => walk_at "h"))
  | ((with_reducible refine' is_tuple_tuple ?gh ?_); (case gh => walk_at "h"))
  | ((with_reducible refine' is_tuple_dict ?gh ?_); (case gh => walk_at "h"))
  | ((with_reducible refine' is_tuple_int ?gh ?_); (case gh => walk_at "h"))
  | ((with_reducible refine' is_tuple_bool ?gh ?_); (case gh => walk_at "h"))
  | ((with_reducible refine' is_tuple_str ?gh ?_); (case gh => walk_at "h"))
  | ((with_reducible refine' is2_tuple ?ga ?gb ?_); (case ga => walk_at "h"); (case gb => walk_at "h"))
  | ((with_reducible refine' is_dict_list ?gh ?_); (case gh => walk_at "h"))
  | ((with_reducible refine' is_dict_tuple ?gh ?_); (case gh => walk_at "h"))
  | ((with_reducible refine' is_dict_dict ?gh ?_); (case gh => walk_at "h"))
  | ((with_reducible refine' is_dict_int ?gh ?_); (case gh => walk_at "h"))
  | ((with_reducible refine' is_dict_bool ?gh ?_); (case gh => walk_at "h"))
  | ((with_reducible refine' is_dict_str ?gh ?_); (case gh => walk_at "h"))
  | ((with_reducible refine' is2_dict ?ga ?gb ?_); (case ga => walk_at "h"); (case gb => walk_at "h")))
local macro_rules | `(tactic| walk_at "g") => `(tactic| first
  | (with_reducible refine g_seq ?_)
  | (with_reducible refine g_asg ?_)
  | ((with_reducible refine g_name ?_); dsimp only [List.set, wipe, List.map])
  | ((with_reducible refine' g_var ?gv ?_); (case gv => exact rfl))
  | (with_reducible refine g_c ?_)
  | (with_reducible refine g_op ?_)
  | (with_reducible refine g_cons ?_)
  | (with_reducible refine g_nil ?_)
  | (with_reducible refine g_cb ?_)
  | (with_reducible refine g_call ?_)
  | (with_reducible refine g_tup ?_)
  | (with_reducible refine g_lst ?_)
  | (with_reducible refine g_bm ?_)
  | (with_reducible refine g_bm0 ?_)
  | ((with_reducible refine' g_kbm ?gh ?_); (case gh => walk_at "h"))
  | (with_reducible refine g_drop ?_)
  | (with_reducible refine g_ret ?_)
  | (with_reducible refine g_retN ?_)
  | (with_reducible refine g_next ?_)
  | (with_reducible refine g_brk ?_)
  | (with_reducible refine g_cont ?_)
  | (with_reducible refine g_if ?_)
  | ((with_reducible refine' g_aug ?gv ?_); (case gv => exact rfl))
  | (with_reducible refine g_ipI ?_)
  | (with_reducible refine g_test ?_)
  | (with_reducible refine g_tB ?_)
  | (with_reducible refine g_kB ?_)
  | (with_reducible refine g_not ?_)
  | (with_reducible refine g_and ?_)
  | (with_reducible refine g_or ?_)
  | (with_reducible refine g_andV ?_)
  | (with_reducible refine g_orV ?_)
  | (with_reducible refine g_notV ?_)
  | (with_reducible refine g_ifE ?_)
  | (with_reducible refine g_addI ?_)
  | (with_reducible refine g_rI0 ?_)
  | (with_reducible refine g_eqI ?_)
  | (with_reducible refine g_eqS ?_)
  | (with_reducible refine g_neI ?_)
  | (with_reducible refine g_neS ?_)
  | (with_reducible refine g_isN ?_)
  | (with_reducible refine g_notN ?_)
  | (with_reducible refine g_int ?_)
  | (with_reducible refine g_max2 ?_)
  | (with_reducible refine g_min2 ?_)
  | ((with_reducible refine' g_lenL ?gh ?_); (case gh => walk_at "h"))
  | (with_reducible refine g_sub ?_)
  | (with_reducible refine g_gcons ?_)
  | (with_reducible refine g_gnil ?_)
  | (with_reducible refine g_un ?_)
  | (with_reducible refine g_rU ?_)
  | (with_reducible refine g_forL ?_)
  | (with_reducible refine g_forS ?_)
  | (with_reducible refine g_forR1 ?_)
  | (with_reducible refine g_forR2 ?_)
  | (with_reducible refine g_forR3 ?_)
  | (with_reducible refine g_lcL ?_)
  | (with_reducible refine g_lcR1 ?_)
  | (with_reducible refine g_lcR2 ?_)
  | (with_reducible refine g_slice ?_)
  | (with_reducible refine g_part ?_)
  | (with_reducible refine g_kOI ?_)
  | (with_reducible refine g_nopart ?_)
  | (with_reducible refine g_yes ?_)
  | ((with_reducible refine' g_wipe ?gv ?_); (case gv => exact rfl))
  | (with_reducible refine iteT ?_)
  | (with_reducible refine iteF ?_)
  | (with_reducible refine i_nf ?_)
  | (with_reducible refine i_nt ?_)
  | ((with_reducible refine' g_gtup ?gh ?gl ?_); (case gh => walk_at "h"); (case gl => exact rfl))
  | ((with_reducible refine' g_notinI ?gh ?_); (case gh => walk_at "h"))
  | ((with_reducible refine' g_inI ?gh ?_); (case gh => walk_at "h"))
  | ((with_reducible refine' g_kget2 ?gh ?_); (case gh => walk_at "h"))
  | ((with_reducible refine' g_kgotI ?gh ?_); (case gh => walk_at "h"))
  | (with_reducible refine g_tRev ?_)
  | (with_reducible refine g_neB ?_)
  | (with_reducible refine g_eqB ?_)
  | ((with_reducible refine' g_lenT ?gh ?_); (case gh => walk_at "h"))
  | (with_reducible refine g_star ?_)
  | ((with_reducible refine' g_kstarL ?gh ?_); (case gh => walk_at "h"))
  | ((with_reducible refine' g_kstarT ?gh ?_); (case gh => walk_at "h"))
  | (with_reducible refine g_tru ?_)
  | ((with_reducible refine' g_truL ?gh ?_); (case gh => walk_at "h"))
  | (with_reducible refine g_get2 ?_)
  | (with_reducible refine g_try ?_)
  | (with_reducible refine g_fld ?_)
  | (with_reducible refine g_sfld ?_)
  | (with_reducible refine g_meth ?_)
  | (with_reducible refine g_make ?_)
  | (with_reducible refine g_del ?_)
  | (with_reducible refine g_callS ?_)
  | (with_reducible refine g_raise ?_)
  | (with_reducible refine g_xf ?_)
  | (with_reducible refine g_m0 ?_)
  | (with_reducible refine g_km0 ?_)
  | walk_at "is")
local macro_rules | `(tactic| walk_at "gg") => `(tactic| repeat walk_at "g")
local macro_rules | `(tactic| walk_at "sz") => `(tactic| (refine sz ?_; simp only [List.length_cons, List.length_nil, List.length_map, List.length_append, List.length_replicate]; omega))
local macro_rules | `(tactic| walk_at "sub") => `(tactic| ((repeat (first | exact List.Sublist.slnil | with_reducible apply List.Sublist.cons_cons | with_reducible apply List.Sublist.cons)); done))

/-! ### the draws: a list of ints, the count first -/
section
variable {P : Program} {w : World} {K : PySem.W.Frag} {mg : Str → Option Value} {base : Heap}
def FeedO (c : Addr) (ns : List Int) : Own := [(c, .lst (ns.map V.int))]
def FeedOk (ns : List Int) : Prop := 1 ≤ ns.length ∧ ns.length ≤ 64
def sp_l_cells (T : Txt K mg) : Sp := fun vs H Q _ => ∃ (a : Addr) (ns : List Int), vs = [.ref a] ∧ SqL K H a (ns.map V.int) ∧ ns.length ≤ 63 ∧
  ∀ p H' (ns : List Int), H p = none → Has H (FeedO p ns) H' → FeedOk ns → Q (.ref p) H'
theorem sp_l_cells_len {T : Txt K mg} {vs H Q E} (h : sp_l_cells T vs H Q E) : vs.length = 1 := by
  obtain ⟨_, _, rfl, _⟩ := h
  rfl
theorem ok_l_cells (T : Txt K mg) : FnOk P w K mg base CX0 1 T.f_l_cells T.fd_l_cells ["script"] (sp_l_cells T) := by
  refine T.F_l_cells.ok sc_l_cells (fun vs H Q E h => sp_l_cells_len h) (fun cdv A outer s H vs Q E hr h => ?_)
  refine ⟨_, (pss_one (ps_ret (pe_op (op_addK K) (pe_lst (pa_cons pe_int pa_nil)) (pe_lc (own := [("cell", 1)]) (g := gName 1) (tt := tYes) rfl sc_l_cells.nd (k_il K (pi_list (pe_slice (sl_M K) (pv 0) po_none (po_some pe_int)))) (blkOk_by (N := n_l_cells) (sc := defScope s_l_cells) (by decide +kernel)) (fun _ _ _ _ _ => (pg_name (i := 1) sc_l_cells.nd rfl (.inl rfl))) (fun _ _ _ _ _ => pts_nil) (fun _ _ _ _ _ => (pe_callB cr_abs1 (by rfl) T.m_abs (by decide +kernel) (pa_cons (pe_callTy cr_int1 (by rfl) T.m_int (by decide +kernel) (pa_cons (pv 1) pa_nil)) pa_nil))))))), ?_⟩
  obtain ⟨a, ns, rfl, ha, hn, q⟩ := h
  have hH := Has.start H
  refine g_start (σ' := [some (.ref a), none]) rfl ?_
  walk_at "gg"
  refine g_klst (by walk_at "sz") hH (fun p1 H1 n1 h1 => ?_)
  walk_at "gg"
  refine g_slM (g_slS (h1.same.seq ha) h1 (fun p2 H2 n2 h2 => ?_))
  obtain ⟨ms, em, lm⟩ := cutV_ints ns none (some 63)
  rw [em] at h2
  refine k_lcL (by walk_at "h") h2 (fun i acc F' O' => ∃ ks : List Int, acc = ks.map V.int ∧ ks.length = i ∧ F' = H ∧ O' = [(p2, .lst (ms.map V.int)), (p1, .lst [.int 0])]) ⟨[], rfl, rfl, rfl, rfl⟩ ?_ ?_ ?_
  · rintro i acc F' O' H3 ⟨ks, rfl, rfl, rfl, rfl⟩ hh
    walk_at "h"
  · rintro i x acc F' O' D H3 hx ⟨ks, rfl, rfl, rfl, rfl⟩ hh
    rw [List.getElem?_map] at hx
    obtain ⟨z, hz, rfl⟩ := Option.map_eq_some_iff.mp hx
    have hl : ks.length < ms.length := (List.getElem?_eq_some_iff.mp hz).1
    walk_at "gg"
    refine g_abs (fun j hj => ?_)
    exact k_turn hh (by rw [List.length_map]; omega) ⟨ks ++ [j], by rw [List.map_append]; rfl, by rw [List.length_append]; rfl, rfl, rfl⟩
  rintro acc F' O' D H3 ⟨ks, rfl, hkl, rfl, rfl⟩ h3
  rw [List.length_map] at hkl
  refine g_addL (h3.get (by walk_at "m")) (h3.get (List.Mem.head _)) (sz (by rw [List.length_map]; show 1 + _ ≤ _; omega)) h3 (fun p H4 n4 h4 => ?_)
  have e : [V.int 0] ++ ks.map V.int = ((0 : Int) :: ks).map V.int := rfl
  rw [e] at h4
  exact q p H4 (0 :: ks) (h3.same.free n4) (h4.sub (by unfold FeedO; walk_at "sub")) ⟨by rw [List.length_cons]; omega, by rw [List.length_cons]; omega⟩
def sp_l_next (T : Txt K mg) : Sp := fun vs H Q _ => ∃ (a : Addr) (ns : List Int) (m : Int), vs = [.ref a, .int m] ∧ H a = some (.lst (ns.map V.int)) ∧ FeedOk ns ∧ 0 < m ∧ m < 10000000000000 ∧
  ∀ H' (ns' : List Int) (r : Int), But a H H' → H' a = some (.lst (ns'.map V.int)) → FeedOk ns' → 0 ≤ r → r < m → Q (.int r) H'
theorem sp_l_next_len {T : Txt K mg} {vs H Q E} (h : sp_l_next T vs H Q E) : vs.length = 2 := by
  obtain ⟨_, _, _, rfl, _⟩ := h
  rfl
theorem cdivw {m : Int} (h0 : 0 < m) (h1 : m < 10000000000000) (i : Int) : CDivW i m := by
  refine ⟨h0, ?_⟩
  have : m.natAbs < 2 ^ 64 := by
    have : m.natAbs < 10000000000000 := by omega
    exact Nat.lt_trans this (by decide)
  exact Nat.lt_trans ((Nat.log2_lt (by omega)).mpr this) (by decide)
theorem ok_l_next (T : Txt K mg) : FnOk P w K mg base CX0 1 T.f_l_next T.fd_l_next ["feed", "many"] (sp_l_next T) := by
  refine T.F_l_next.ok sc_l_next (fun vs H Q E h => sp_l_next_len h) (fun cdv A outer s H vs Q E hr h => ?_)
  refine ⟨_, (pss_cons (ps_if (pt_cmpR op_lt (pe_callB (cr_lenK K) (by rfl) T.m_len (by decide +kernel) (pa_cons (pv 0) pa_nil)) pe_int (nomark _)) (pss_one (ps_ret pe_int)) pss_nil)
      (pss_cons (ps_set (i := 2) sc_l_next.nd rfl (.inl rfl) (pe_op op_mod (pe_callTy cr_int1 (by rfl) T.m_int (by decide +kernel) (pa_cons (pe_ix (ix_K K (hu_of hr)) (pv 0) pe_int (fun _ _ => rfl)) pa_nil)) (pv 1)))
      (pss_cons (ps_asg (pe_op op_fdivW (pe_ix (ix_K K (hu_of hr)) (pv 0) pe_int (fun _ _ => rfl)) (pv 1)) (pg_sub (pv 0) pe_int (set_any (hu_of hr))))
      (pss_cons (ps_asg (pe_op (op_addK K) (pe_ix (ix_K K (hu_of hr)) (pv 0) pe_int (fun _ _ => rfl)) pe_int) (pg_sub (pv 0) pe_int (set_any (hu_of hr))))
      (pss_cons (ps_if (PW.pt (pw_or (pt_cmpR (op_eqK K hr.units) (pe_ix (ix_K K (hu_of hr)) (pv 0) pe_int (fun _ _ => rfl)) pe_int (nomark _)) (pw_or1 (pt_cmpR (op_eqK K hr.units) (pe_ix (ix_K K (hu_of hr)) (pv 0) pe_int (fun _ _ => rfl)) pe_int (nomark _))))) (pss_cons (ps_expr (k_bm K (pe_bm PySem.F.plainAttrs_list PySem.F.slot_list_pop PySem.F.type_list_pop mt_popAt (pv 0) (pa_cons pe_int pa_nil))))
      (pss_one (ps_asg pe_int (pg_sub (pv 0) pe_int (set_any (hu_of hr)))))) pss_nil)
      (pss_one (ps_ret (pv 2)))))))), ?_⟩
  obtain ⟨a, ns, m, rfl, ha, ⟨hn0, hn⟩, hm0, hm, q⟩ := h
  have hH := Has.arg ha
  refine g_start (σ' := [some (.ref a), some (.int m), none]) rfl ?_
  walk_at "gg"
  rw [List.length_map]
  refine i_d (fun l1 => ?_) (fun l1 => ?_)
  · walk_at "gg"
    exact q H ns 0 (But.of hH.same) (by walk_at "h") ⟨hn0, hn⟩ (by omega) hm0
  walk_at "gg"
  refine g_ixI (by walk_at "h") (by omega) (by omega) (fun z hz => ?_)
  walk_at "gg"
  refine g_rI hm0 ?_
  walk_at "gg"
  have r0 : 0 ≤ z % m := Int.emod_nonneg _ (by omega)
  have r1 : z % m < m := Int.emod_lt_of_pos _ hm0
  generalize z % m = r at r0 r1
  refine g_ixI (by walk_at "h") (by omega) (by omega) (fun z hz => ?_)
  walk_at "gg"
  refine g_rI (cdivw hm0 hm _) ?_
  walk_at "gg"
  refine g_stI hH (by walk_at "c") (by omega) (by omega) (fun H2 h2 => ?_)
  walk_at "gg"
  refine g_ixI (by walk_at "h") (by omega) (by rw [List.length_set]; omega) (fun z1 hz1 => ?_)
  walk_at "gg"
  refine g_stI h2 (by walk_at "c") (by omega) (by rw [List.length_set]; omega) (fun H3 h3 => ?_)
  have l3 : ((ns.set (1 : Int).toNat (z / m)).set (0 : Int).toNat (z1 + 1)).length = ns.length := by rw [List.length_set, List.length_set]
  generalize (ns.set (1 : Int).toNat (z / m)).set (0 : Int).toNat (z1 + 1) = ms at h3 l3
  with_reducible refine g_seq ?_
  with_reducible refine g_if ?_
  refine g_fact (fun _ => True) (fun R r => ?_) (fun b _ => ?_)
  · walk_at "gg"
    refine g_ixI (by walk_at "h") (by omega) (by omega) (fun z2 hz2 => ?_)
    walk_at "gg"
    refine i_d (fun _ => r _ True.intro) (fun _ => ?_)
    walk_at "gg"
    refine g_ixI (by walk_at "h") (by omega) (by omega) (fun z3 hz3 => ?_)
    walk_at "gg"
    exact r _ True.intro
  cases b with
  | true =>
    walk_at "gg"
    refine g_popAtI h3 (by walk_at "c") (by omega) (by omega) (by omega) (fun H4 z4 h4 => ?_)
    have l4 : (ms.eraseIdx (1 : Int).toNat).length = ms.length - 1 := List.length_eraseIdx_of_lt (by show 1 < ms.length; omega)
    walk_at "gg"
    refine g_stI h4 (by walk_at "c") (by omega) (by omega) (fun H5 h5 => ?_)
    walk_at "gg"
    exact q H5 _ r (But.of h5.same) (by walk_at "h") ⟨by rw [List.length_set]; omega, by rw [List.length_set]; omega⟩ r0 r1
  | false =>
    walk_at "gg"
    exact q H3 ms r (But.of h3.same) (by walk_at "h") ⟨by omega, by omega⟩ r0 r1
/-- a draw in a place where c is owned -/
theorem Has.draw {F H H' : Hp} {O O' : Own} {c : Addr} {ns ns' : List Int} (h : Has F O H) (c1 : Chg O c (.lst (ns.map V.int)) (.lst (ns'.map V.int)) O') (hb : But c H H') (e : H' c = some (.lst (ns'.map V.int))) : Has F O' H' := h.but c1 hb e
end

end K13

namespace K13
open PySem PySem.Spec PyProof.Rows L2 Qk
local macro_rules | `(tactic| walk_at "m") => `(tactic| ((repeat (first | exact List.Mem.head _ | apply List.Mem.tail)); done))
local macro_rules | `(tactic| walk_at "h") => `(tactic| first | assumption | exact Has.gF (by assumption) (by assumption) | exact Has.get (by assumption) (by walk_at "m"))
local macro_rules | `(tactic| walk_at "c") => `(tactic| ((repeat (first | exact Chg.hd | apply Chg.tl)); done))
local macro_rules | `(tactic| walk_at "is") => `(tactic| first
  | ((with_reducible refine' is2_non ?gh ?_); (case gh => walk_at "h"))
  | (with_reducible refine is_int_list ?_)
  | (with_reducible refine is_int_tuple ?_)
  | (with_reducible refine is_int_dict ?_)
  | (with_reducible refine is_int_int ?_)
  | (with_reducible refine is_int_bool ?_)
  | (with_reducible refine is_int_str ?_)
  | ((with_reducible refine' is2_int ?gh ?_); (case gh => walk_at "h"))
  | (with_reducible refine is_str_list ?_)
  | (with_reducible refine is_str_tuple ?_)
  | (with_reducible refine is_str_dict ?_)
  | (with_reducible refine is_str_int ?_)
  | (with_reducible refine is_str_bool ?_)
  | (with_reducible refine is_str_str ?_)
  | ((with_reducible refine' is2_str ?gh ?_); (case gh => walk_at "h"))
  | (with_reducible refine is_bool_list ?_)
  | (with_reducible refine is_bool_tuple ?_)
  | (with_reducible refine is_bool_dict ?_)
  | (with_reducible refine is_bool_int ?_)
  | (with_reducible refine is_bool_bool ?_)
  | (with_reducible refine is_bool_str ?_)
  | ((with_reducible refine' is2_bool ?gh ?_); (case gh => walk_at "h"))
  | ((with_reducible refine' is_list_list ?gh ?_); (case gh => walk_at "h"))
  | ((with_reducible refine' is_list_tuple ?gh ?_); (case gh => walk_at "h"))
  | ((with_reducible refine' is_list_dict ?gh ?_); (case gh => walk_at "h"))
  | ((with_reducible refine' is_list_int ?gh ?_); (case gh => walk_at "h"))
  | ((with_reducible refine' is_list_bool ?gh ?_); (case gh => walk_at "h"))
  | ((with_reducible refine' is_list_str ?gh ?_); (case gh => walk_at "h"))
  | ((with_reducible refine' is2_list ?ga ?gb ?_); (case ga => walk_at "h"); (case gb => walk_at "h"))
  | ((with_reducible refine' is_tuple_list ?gh ?_); (case gh => walk_at "h"))
  | ((with_reducible refine' is_tuple_tuple ?gh ?_); (case gh => walk_at "h"))
  | ((with_reducible refine' is_tuple_dict ?gh ?_); (case gh => walk_at "h"))
  | ((with_reducible refine' is_tuple_int ?gh ?_); (case gh => walk_at "h"))
  | ((with_reducible refine' is_tuple_bool ?gh ?_); (case gh => walk_at "h"))
  | ((with_reducible refine' is_tuple_str ?gh ?_); (case gh => walk_at "h"))
  | ((with_reducible refine' is2_tuple ?ga ?gb ?_); (case ga => walk_at "h"); (case gb => walk_at "h"))
  | ((with_reducible refine' is_dict_list ?gh ?_); (case gh => walk_at "h"))
  | ((with_reducible refine' is_dict_tuple ?gh ?_); (case gh => walk_at "h"))
  | ((with_reducible refine' is_dict_dict ?gh ?_); (case gh => walk_at "h"))
  | ((with_reducible refine' is_dict_int ?gh ?_); (case gh => walk_at "h"))
  | ((with_reducible refine' is_dict_bool ?gh ?_); (case gh => walk_at "h"))
  | ((with_reducible refine' is_dict_str ?gh ?_); (case gh => walk_at "h"))
  | ((with_reducible refine' is2_dict ?ga ?gb ?_); (case ga => walk_at "h"); (case gb => walk_at "h")))
local macro_rules | `(tactic| walk_at "g") => `(tactic| first
  | (with_reducible refine g_seq ?_)
  | (with_reducible refine g_asg ?_)
  | ((with_reducible refine g_name ?_); dsimp only [List.set, wipe, List.map])
  | ((with_reducible refine' g_var ?gv ?_); (case gv => exact rfl))
  | (with_reducible refine g_c ?_)
  | (with_reducible refine g_op ?_)
  | (with_reducible refine g_cons ?_)
  | (with_reducible refine g_nil ?_)
  | (with_reducible refine g_cb ?_)
  | (with_reducible refine g_call ?_)
  | (with_reducible refine g_tup ?_)
  | (with_reducible refine g_lst ?_)
  | (with_reducible refine g_bm ?_)
  | (with_reducible refine g_bm0 ?_)
  | ((with_reducible refine' g_kbm ?gh ?_); (case gh => walk_at "h"))
  | (with_reducible refine g_drop ?_)
  | (with_reducible refine g_ret ?_)
  | (with_reducible refine g_retN ?_)
  | (with_reducible refine g_next ?_)
  | (with_reducible refine g_brk ?_)
  | (with_reducible refine g_cont ?_)
  | (with_reducible refine g_if ?_)
  | ((with_reducible refine' g_aug ?gv ?_); (case gv => exact rfl))
  | (with_reducible refine g_ipI ?_)
  | (with_reducible refine g_test ?_)
  | (with_reducible refine g_tB ?_)
  | (with_reducible refine g_kB ?_)
  | (with_reducible refine g_not ?_)
  | (with_reducible refine g_and ?_)
  | (with_reducible refine g_or ?_)
  | (with_reducible refine g_andV ?_)
  | (with_reducible refine g_orV ?_)
  | (with_reducible refine g_notV ?_)
  | (with_reducible refine g_ifE ?_)
  | (with_reducible refine g_addI ?_)
  | (with_reducible refine g_rI0 ?_)
  | (with_reducible refine g_eqI ?_)
  | (with_reducible refine g_eqS ?_)
  | (with_reducible refine g_neI ?_)
  | (with_reducible refine g_neS ?_)
  | (with_reducible refine g_isN ?_)
  | (with_reducible refine g_notN ?_)
  | (with_reducible refine g_int ?_)
  | (with_reducible refine g_max2 ?_)
  | (with_reducible refine g_min2 ?_)
  | ((with_reducible refine' g_lenL ?gh ?_); (case gh => walk_at "h"))
  | (with_reducible refine g_sub ?_)
  | (with_reducible refine g_gcons ?_)
  | (with_reducible refine g_gnil ?_)
  | (with_reducible refine g_un ?_)
  | (with_reducible refine g_rU ?_)
  | (with_reducible refine g_forL ?_)
  | (with_reducible refine g_forS ?_)
  | (with_reducible refine g_forR1 ?_)
  | (with_reducible refine g_forR2 ?_)
  | (with_reducible refine g_forR3 ?_)
  | (with_reducible refine g_lcL ?_)
  | (with_reducible refine g_lcR1 ?_)
  | (with_reducible refine g_lcR2 ?_)
  | (with_reducible refine g_slice ?_)
  | (with_reducible refine g_part ?_)
  | (with_reducible refine g_kOI ?_)
  | (with_reducible refine g_nopart ?_)
  | (with_reducible refine g_yes ?_)
  | ((with_reducible refine' g_wipe ?gv ?_); (case gv => exact rfl))
  | (with_reducible refine iteT ?_)
  | (with_reducible refine iteF ?_)
  | (with_reducible refine i_nf ?_)
  | (with_reducible refine i_nt ?_)
  | ((with_reducible refine' g_gtup ?gh ?gl ?_); (case gh => walk_at "h"); (case gl => exact rfl))
  | ((with_reducible refine' g_notinI ?gh ?_); (case gh => walk_at "h"))
  | ((with_reducible refine' g_inI ?gh ?_); (case gh => walk_at "h"))
  | ((with_reducible refine' g_kget2 ?gh ?_); (case gh => walk_at "h"))
  | ((with_reducible refine' g_kgotI ?gh ?_); (case gh => walk_at "h"))
  | (with_reducible refine g_tRev ?_)
  | (with_reducible refine g_neB ?_)
  | (with_reducible refine g_eqB ?_)
  | ((with_reducible refine' g_lenT ?gh ?_); (case gh => walk_at "h"))
  | (with_reducible refine g_star ?_)
  | ((with_reducible refine' g_kstarL ?gh ?_); (case gh => walk_at "h"))
  | ((with_reducible refine' g_kstarT ?gh ?_); (case gh => walk_at "h"))
  | (with_reducible refine g_tru ?_)
  | ((with_reducible refine' g_truL ?gh ?_); (case gh => walk_at "h"))
  | (with_reducible refine g_get2 ?_)
  | (with_reducible refine g_try ?_)
  | (with_reducible refine g_fld ?_)
  | (with_reducible refine g_sfld ?_)
  | (with_reducible refine g_meth ?_)
  | (with_reducible refine g_make ?_)
  | (with_reducible refine g_del ?_)
  | (with_reducible refine g_callS ?_)
  | (with_reducible refine g_raise ?_)
  | (with_reducible refine g_xf ?_)
  | (with_reducible refine g_m0 ?_)
  | (with_reducible refine g_km0 ?_)
  | walk_at "is")
local macro_rules | `(tactic| walk_at "gg") => `(tactic| repeat walk_at "g")
local macro_rules | `(tactic| walk_at "sz") => `(tactic| (refine sz ?_; simp only [List.length_cons, List.length_nil, List.length_map, List.length_append, List.length_replicate]; omega))
local macro_rules | `(tactic| walk_at "sub") => `(tactic| ((repeat (first | exact List.Sublist.slnil | with_reducible apply List.Sublist.cons_cons | with_reducible apply List.Sublist.cons)); done))

/-! ### the names that a law draws -/
def baseN (p : Nat) : Int := [8, 96, 0, 995, 9995].getD p 0
def numS (p r : Nat) : Str := Str.ofString (toString (baseN p + (r : Int)))
theorem num_ok : ∀ p : Fin 5, ∀ r : Fin 11, (decide (1 ≤ (numS p r).length) && decide ((numS p r).length ≤ 5) && (kk (numS p r)).all (fun c => decide (c ∈ digitsL))) = true := by decide +kernel
theorem num_inj : ∀ p : Fin 5, ∀ r r' : Fin 11, numS p r = numS p r' → r = r' := by decide +kernel
theorem cut_a : ∀ p : Fin 5, kk (cutS ("abcde" : Str) none (some ((p : Nat) : Int))) = (List.range p).map (97 + ·) := by decide +kernel
theorem cut_p : ∀ p : Fin 6, kk (cutS ("pqrst" : Str) none (some ((p : Nat) : Int))) = (List.range p).map (112 + ·) := by decide +kernel
theorem let_at : ∀ p : Fin 26, atI ("abcdefghijklmnopqrstuvwxyz" : Str).cps.toList ((p : Nat) : Int) = some (97 + (p : Nat)) := by decide +kernel
theorem rank_inj : ∀ b : Fin 11, ∀ i j : Fin 11, 0 < (b : Nat) → (b * i : Nat) % 11 = (b * j : Nat) % 11 → i = j := by decide +kernel
theorem kk_app (a b : Str) : kk (a ++ b) = kk a ++ kk b := Array.toList_append
theorem letters_eq : lettersL = (List.range 26).map (97 + ·) := by decide +kernel
theorem digits_eq : digitsL = (List.range 10).map (48 + ·) := by decide +kernel
theorem let_iff {c : Nat} : c ∈ lettersL ↔ 97 ≤ c ∧ c ≤ 122 := by
  rw [letters_eq, List.mem_map]
  constructor
  · rintro ⟨k, hk, rfl⟩
    have := List.mem_range.mp hk
    omega
  · rintro ⟨h1, h2⟩
    exact ⟨c - 97, List.mem_range.mpr (by omega), by omega⟩
theorem dig_iff {c : Nat} : c ∈ digitsL ↔ 48 ≤ c ∧ c ≤ 57 := by
  rw [digits_eq, List.mem_map]
  constructor
  · rintro ⟨k, hk, rfl⟩
    have := List.mem_range.mp hk
    omega
  · rintro ⟨h1, h2⟩
    exact ⟨c - 48, List.mem_range.mpr (by omega), by omega⟩
def sgn (by_ st i : Nat) : Nat := 97 + (st + by_ * i % 11) % 26
def sufL (sty pl i : Nat) : List Nat := if sty = 3 then 55 :: (List.range (i % (5 - pl))).map (112 + ·) else (List.range (if sty = 1 then 5 - pl else i % (6 - pl))).map (112 + ·)
def nmL (sty by_ st pl i : Nat) : List Nat := if sty = 0 then (97 + (st + 21) % 26) :: kk (numS pl (by_ * i % 11)) else (List.range pl).map (97 + ·) ++ sgn by_ st i :: sufL sty pl i
theorem kk_len (z : Str) : (kk z).length = z.length := Array.length_toList
theorem num_facts {pl r : Nat} (hp : pl < 5) (hr : r < 11) : 1 ≤ (kk (numS pl r)).length ∧ (kk (numS pl r)).length ≤ 5 ∧ ∀ c ∈ kk (numS pl r), c ∈ digitsL := by
  have h := num_ok ⟨pl, hp⟩ ⟨r, hr⟩
  rw [Bool.and_eq_true, Bool.and_eq_true, decide_eq_true_eq, decide_eq_true_eq, List.all_eq_true] at h
  rw [kk_len]
  exact ⟨h.1.1, h.1.2, fun c hc => by simpa using h.2 c hc⟩
theorem suf_len {sty pl i : Nat} (hp : pl < 5) : (sufL sty pl i).length ≤ 5 - pl := by
  unfold sufL
  have h5 := Nat.mod_lt i (show 5 - pl > 0 by omega)
  have h6 := Nat.mod_lt i (show 6 - pl > 0 by omega)
  split
  · rw [List.length_cons, List.length_map, List.length_range]; omega
  · rw [List.length_map, List.length_range]
    split <;> omega
theorem suf_ok {sty pl i c : Nat} (hp : pl < 5) (h : c ∈ sufL sty pl i) : c = 55 ∨ (112 ≤ c ∧ c ≤ 116) := by
  have h5 := Nat.mod_lt i (show 5 - pl > 0 by omega)
  have h6 := Nat.mod_lt i (show 6 - pl > 0 by omega)
  unfold sufL at h
  split at h
  · rcases List.mem_cons.mp h with h | h
    · exact .inl h
    · obtain ⟨k, hk, rfl⟩ := List.mem_map.mp h
      have := List.mem_range.mp hk
      exact .inr ⟨by omega, by omega⟩
  · obtain ⟨k, hk, rfl⟩ := List.mem_map.mp h
    have := List.mem_range.mp hk
    refine .inr ⟨by omega, ?_⟩
    split at this <;> omega
theorem nm_ok {sty by_ st pl i : Nat} {z : Str} (hp : pl < 5) (h : kk z = nmL sty by_ st pl i) : NmOk z := by
  have hr : by_ * i % 11 < 11 := Nat.mod_lt _ (by decide)
  have e : z.cps.toList = kk z := rfl
  have hl := kk_len z
  have key : 1 ≤ (kk z).length ∧ (kk z).length ≤ 6 ∧ (∀ c, (kk z)[0]? = some c → c ∈ lettersL) ∧ ∀ c ∈ kk z, c ∈ lettersL ∨ c ∈ digitsL := by
    rw [h]
    unfold nmL
    split
    · have f := num_facts hp hr
      refine ⟨by rw [List.length_cons]; omega, by rw [List.length_cons]; omega, fun c hc => ?_, fun c hc => ?_⟩
      · rw [List.getElem?_cons_zero] at hc
        injection hc with hc
        rw [← hc, let_iff]
        omega
      · rcases List.mem_cons.mp hc with rfl | hc
        · exact .inl (let_iff.mpr (by omega))
        · exact .inr (f.2.2 c hc)
    · have sl := suf_len (sty := sty) (i := i) hp
      have sg : sgn by_ st i ∈ lettersL := let_iff.mpr (by unfold sgn; omega)
      refine ⟨?_, ?_, fun c hc => ?_, fun c hc => ?_⟩
      · rw [List.length_append, List.length_cons]; omega
      · rw [List.length_append, List.length_cons, List.length_map, List.length_range]; omega
      · have m : c ∈ (List.range pl).map (97 + ·) ++ [sgn by_ st i] := by
          cases pl with
          | zero =>
            have hc : some (sgn by_ st i) = some c := hc
            injection hc with hc
            exact List.mem_append_right _ (by rw [hc]; exact List.mem_singleton.mpr rfl)
          | succ p =>
            rw [List.getElem?_append_left (by rw [List.length_map, List.length_range]; omega)] at hc
            exact List.mem_append_left _ (List.mem_of_getElem? hc)
        rcases List.mem_append.mp m with m | m
        · obtain ⟨k, hk, rfl⟩ := List.mem_map.mp m
          have := List.mem_range.mp hk
          exact let_iff.mpr (by omega)
        · rw [List.mem_singleton.mp m]; exact sg
      · rcases List.mem_append.mp hc with m | m
        · obtain ⟨k, hk, rfl⟩ := List.mem_map.mp m
          have := List.mem_range.mp hk
          exact .inl (let_iff.mpr (by omega))
        · rcases List.mem_cons.mp m with rfl | m
          · exact .inl sg
          · rcases suf_ok hp m with rfl | m
            · exact .inr (by decide +kernel)
            · exact .inl (let_iff.mpr (by omega))
  refine ⟨by omega, by omega, fun c hc => key.2.2.1 c (by rw [← Array.getElem?_toList] at hc; exact hc), key.2.2.2⟩
theorem nm_inj {sty by_ st pl i j : Nat} (hp : pl < 5) (hb : 0 < by_) (hb2 : by_ < 11) (hi : i < 11) (hj : j < 11) (h : nmL sty by_ st pl i = nmL sty by_ st pl j) : i = j := by
  have hr : by_ * i % 11 < 11 := Nat.mod_lt _ (by decide)
  have hr2 : by_ * j % 11 < 11 := Nat.mod_lt _ (by decide)
  have fin : by_ * i % 11 = by_ * j % 11 → i = j := fun e => by
    have := rank_inj ⟨by_, hb2⟩ ⟨i, hi⟩ ⟨j, hj⟩ hb e
    exact congrArg Fin.val this
  unfold nmL at h
  split at h
  · injection h with _ h
    have := num_inj ⟨pl, hp⟩ ⟨_, hr⟩ ⟨_, hr2⟩ (kk_inj h)
    exact fin (congrArg Fin.val this)
  · have h2 := List.append_cancel_left h
    injection h2 with h2 _
    unfold sgn at h2
    exact fin (by omega)
theorem nm_not {sty by_ st pl i d : Nat} (hp : pl < 5) (hd : d = 48 ∨ d = 49) : nmL sty by_ st pl i ≠ [110, d, 110] := by
  intro h
  have hr : by_ * i % 11 < 11 := Nat.mod_lt _ (by decide)
  unfold nmL at h
  split at h
  · injection h with _ h
    have := (num_facts hp hr).2.2 110 (by rw [h]; simp)
    exact absurd (dig_iff.mp this) (by decide)
  · have m : d ∈ (List.range pl).map (97 + ·) ++ sgn by_ st i :: sufL sty pl i := by rw [h]; simp
    rcases List.mem_append.mp m with m | m
    · obtain ⟨k, _, e⟩ := List.mem_map.mp m
      omega
    · rcases List.mem_cons.mp m with m | m
      · unfold sgn at m; omega
      · rcases suf_ok hp m with m | m <;> omega
theorem nm_0z {sty by_ st pl i : Nat} (hp : pl < 5) (w : List Nat) : nmL sty by_ st pl i ≠ w ++ [48, 122] := by
  intro h
  have hr : by_ * i % 11 < 11 := Nat.mod_lt _ (by decide)
  unfold nmL at h
  split at h
  · have f := num_facts hp hr
    generalize kk (numS pl (by_ * i % 11)) = ds at h f
    have m : 122 ∈ ds := by
      have e := congrArg List.reverse h
      rw [List.reverse_append, List.reverse_cons] at e
      have e2 : ds.reverse ++ [97 + (st + 21) % 26] = 122 :: 48 :: w.reverse := e
      cases er : ds.reverse with
      | nil =>
        have := congrArg List.length er
        rw [List.length_reverse, List.length_nil] at this
        omega
      | cons y r =>
        rw [er] at e2
        injection e2 with e3 _
        rw [← e3]
        exact List.mem_reverse.mp (by rw [er]; exact List.mem_cons_self)
    exact absurd (dig_iff.mp (f.2.2 122 m)) (by decide)
  · have m : 48 ∈ (List.range pl).map (97 + ·) ++ sgn by_ st i :: sufL sty pl i := by rw [h]; simp
    rcases List.mem_append.mp m with m | m
    · obtain ⟨k, _, e⟩ := List.mem_map.mp m
      omega
    · rcases List.mem_cons.mp m with m | m
      · unfold sgn at m; omega
      · rcases suf_ok hp m with m | m <;> omega
theorem NmOk.strOk {z : Str} (h : NmOk z) : PyData.strOk z = true := by
  show z.cps.all (· < 0x110000) = true
  rw [← Array.all_toList, List.all_eq_true]
  intro c hc
  rcases h.all c hc with m | m
  · have := let_iff.mp m
    simp; omega
  · have := dig_iff.mp m
    simp; omega
/-- the names of a law -/
structure Nms (names : List Str) : Prop where
  ok : ∀ z ∈ names, NmOk z
  nd : names.Nodup
  n0 : ("n0n" : Str) ∉ names
  n1 : ("n1n" : Str) ∉ names
  z0 : ∀ z ∈ names, ∀ w : List Nat, kk z ≠ w ++ [48, 122]
theorem nms_of {sty by_ st pl n : Nat} {names : List Str} (hp : pl < 5) (hb : 0 < by_) (hb2 : by_ < 11) (hn : n ≤ 11) (e : names.map kk = (List.range n).map (nmL sty by_ st pl)) : Nms names := by
  have hm : ∀ z ∈ names, ∃ i, i < n ∧ kk z = nmL sty by_ st pl i := fun z hz => by
    have m : kk z ∈ names.map kk := List.mem_map.mpr ⟨z, hz, rfl⟩
    rw [e] at m
    obtain ⟨i, hi, e'⟩ := List.mem_map.mp m
    exact ⟨i, List.mem_range.mp hi, e'.symm⟩
  have bad : ∀ (z : Str) (d : Nat), kk z = [110, d, 110] → (d = 48 ∨ d = 49) → z ∉ names := fun z d ez hd m => by
    obtain ⟨i, _, e'⟩ := hm z m
    exact nm_not hp hd (e'.symm.trans ez)
  refine ⟨fun z hz => ?_, ?_, bad _ 48 (by decide +kernel) (.inl rfl), bad _ 49 (by decide +kernel) (.inr rfl), fun z hz w e' => ?_⟩
  · obtain ⟨i, _, e'⟩ := hm z hz
    exact nm_ok hp e'
  · have nd : (names.map kk).Nodup := by
      rw [e]
      refine List.pairwise_map.mpr (List.Pairwise.imp_of_mem (R := fun a b => a ≠ b) ?_ List.nodup_range)
      intro i j hi hj ne h
      exact ne (nm_inj hp hb hb2 (by have := List.mem_range.mp hi; omega) (by have := List.mem_range.mp hj; omega) h)
    exact List.Pairwise.of_map kk (fun a b h e => h (by rw [e])) nd
  · obtain ⟨i, _, e2⟩ := hm z hz
    exact nm_0z hp w (e2.symm.trans e')

end K13

namespace K13
open PySem PySem.Spec PyProof.Rows L2 Qk
local macro_rules | `(tactic| walk_at "m") => `(tactic| ((repeat (first | exact List.Mem.head _ | apply List.Mem.tail)); done))
local macro_rules | `(tactic| walk_at "h") => `(tactic| first | assumption | exact Has.gF (by assumption) (by assumption) | exact Has.get (by assumption) (by walk_at "m"))
local macro_rules | `(tactic| walk_at "c") => `(tactic| ((repeat (first | exact Chg.hd | apply Chg.tl)); done))
local macro_rules | `(tactic| walk_at "is") => `(tactic| first
  | ((with_reducible refine' is2_non ?gh ?_); (case gh => walk_at "h"))
  | (with_reducible refine is_int_list ?_)
  | (with_reducible refine is_int_tuple ?_)
  | (with_reducible refine is_int_dict ?_)
  | (with_reducible refine is_int_int ?_)
  | (with_reducible refine is_int_bool ?_)
  | (with_reducible refine is_int_str ?_)
  | ((with_reducible refine' is2_int ?gh ?_); (case gh => walk_at "h"))
  | (with_reducible refine is_str_list ?_)
  | (with_reducible refine is_str_tuple ?_)
  | (with_reducible refine is_str_dict ?_)
  | (with_reducible refine is_str_int ?_)
  | (with_reducible refine is_str_bool ?_)
  | (with_reducible refine is_str_str ?_)
  | ((with_reducible refine' is2_str ?gh ?_); (case gh => walk_at "h"))
  | (with_reducible refine is_bool_list ?_)
  | (with_reducible refine is_bool_tuple ?_)
  | (with_reducible refine is_bool_dict ?_)
  | (with_reducible refine is_bool_int ?_)
  | (with_reducible refine is_bool_bool ?_)
  | (with_reducible refine is_bool_str ?_)
  | ((with_reducible refine' is2_bool ?gh ?_); (case gh => walk_at "h"))
  | ((with_reducible refine' is_list_list ?gh ?_); (case gh => walk_at "h"))
  | ((with_reducible refine' is_list_tuple ?gh ?_); (case gh => walk_at "h"))
  | ((with_reducible refine' is_list_dict ?gh ?_); (case gh => walk_at "h"))
  | ((with_reducible refine' is_list_int ?gh ?_); (case gh => walk_at "h"))
  | ((with_reducible refine' is_list_bool ?gh ?_); (case gh => walk_at "h"))
  | ((with_reducible refine' is_list_str ?gh ?_); (case gh => walk_at "h"))
  | ((with_reducible refine' is2_list ?ga ?gb ?_); (case ga => walk_at "h"); (case gb => walk_at "h"))
  | ((with_reducible refine' is_tuple_list ?gh ?_); (case gh => walk_at "h"))
  | ((with_reducible refine' is_tuple_tuple ?gh ?_); (case gh => walk_at "h"))
  | ((with_reducible refine' is_tuple_dict ?gh ?_); (case gh => walk_at "h"))
  | ((with_reducible refine' is_tuple_int ?gh ?_); (case gh => walk_at "h"))
  | ((with_reducible refine' is_tuple_bool ?gh ?_); (case gh => walk_at "h"))
  | ((with_reducible refine' is_tuple_str ?gh ?_); (case gh => walk_at "h"))
  | ((with_reducible refine' is2_tuple ?ga ?gb ?_); (case ga => walk_at "h"); (case gb => walk_at "h"))
  | ((with_reducible refine' is_dict_list ?gh ?_); (case gh => walk_at "h"))
  | ((with_reducible refine' is_dict_tuple ?gh ?_); (case gh => walk_at "h"))
  | ((with_reducible refine' is_dict_dict ?gh ?_); (case gh => walk_at "h"))
  | ((with_reducible refine' is_dict_int ?gh ?_); (case gh => walk_at "h"))
  | ((with_reducible refine' is_dict_bool ?gh ?_); (case gh => walk_at "h"))
  | ((with_reducible refine' is_dict_str ?gh ?_); (case gh => walk_at "h"))
  | ((with_reducible refine' is2_dict ?ga ?gb ?_); (case ga => walk_at "h"); (case gb => walk_at "h")))
local macro_rules | `(tactic| walk_at "g") => `(tactic| first
  | (with_reducible refine g_seq ?_)
  | (with_reducible refine g_asg ?_)
  | ((with_reducible refine g_name ?_); dsimp only [List.set, wipe, List.map])
  | ((with_reducible refine' g_var ?gv ?_); (case gv => exact rfl))
  | (with_reducible refine g_c ?_)
  | (with_reducible refine g_op ?_)
  | (with_reducible refine g_cons ?_)
  | (with_reducible refine g_nil ?_)
  | (with_reducible refine g_cb ?_)
  | (with_reducible refine g_call ?_)
  | (with_reducible refine g_tup ?_)
  | (with_reducible refine g_lst ?_)
  | (with_reducible refine g_bm ?_)
  | (with_reducible refine g_bm0 ?_)
  | ((with_reducible refine' g_kbm ?gh ?_); (case gh => walk_at "h"))
  | (with_reducible refine g_drop ?_)
  | (with_reducible refine g_ret ?_)
  | (with_reducible refine g_retN ?_)
  | (with_reducible refine g_next ?_)
  | (with_reducible refine g_brk ?_)
  | (with_reducible refine g_cont ?_)
  | (with_reducible refine g_if ?_)
  | ((with_reducible refine' g_aug ?gv ?_); (case gv => exact rfl))
  | (with_reducible refine g_ipI ?_)
  | (with_reducible refine g_test ?_)
  | (with_reducible refine g_tB ?_)
  | (with_reducible refine g_kB ?_)
  | (with_reducible refine g_not ?_)
  | (with_reducible refine g_and ?_)
  | (with_reducible refine g_or ?_)
  | (with_reducible refine g_andV ?_)
  | (with_reducible refine g_orV ?_)
  | (with_reducible refine g_notV ?_)
  | (with_reducible refine g_ifE ?_)
  | (with_reducible refine g_addI ?_)
  | (with_reducible refine g_rI0 ?_)
  | (with_reducible refine g_eqI ?_)
  | (with_reducible refine g_eqS ?_)
  | (with_reducible refine g_neI ?_)
  | (with_reducible refine g_neS ?_)
  | (with_reducible refine g_isN ?_)
  | (with_reducible refine g_notN ?_)
  | (with_reducible refine g_int ?_)
  | (with_reducible refine g_max2 ?_)
  | (with_reducible refine g_min2 ?_)
  | ((with_reducible refine' g_lenL ?gh ?_); (case gh => walk_at "h"))
  | (with_reducible refine g_sub ?_)
  | (with_reducible refine g_gcons ?_)
  | (with_reducible refine g_gnil ?_)
  | (with_reducible refine g_un ?_)
  | (with_reducible refine g_rU ?_)
  | (with_reducible refine g_forL ?_)
  | (with_reducible refine g_forS ?_)
  | (with_reducible refine g_forR1 ?_)
  | (with_reducible refine g_forR2 ?_)
  | (with_reducible refine g_forR3 ?_)
  | (with_reducible refine g_lcL ?_)
  | (with_reducible refine g_lcR1 ?_)
  | (with_reducible refine g_lcR2 ?_)
  | (with_reducible refine g_slice ?_)
  | (with_reducible refine g_part ?_)
  | (with_reducible refine g_kOI ?_)
  | (with_reducible refine g_nopart ?_)
  | (with_reducible refine g_yes ?_)
  | ((with_reducible refine' g_wipe ?gv ?_); (case gv => exact rfl))
  | (with_reducible refine iteT ?_)
  | (with_reducible refine iteF ?_)
  | (with_reducible refine i_nf ?_)
  | (with_reducible refine i_nt ?_)
  | ((with_reducible refine' g_gtup ?gh ?gl ?_); (case gh => walk_at "h"); (case gl => exact rfl))
  | ((with_reducible refine' g_notinI ?gh ?_); (case gh => walk_at "h"))
  | ((with_reducible refine' g_inI ?gh ?_); (case gh => walk_at "h"))
  | ((with_reducible refine' g_kget2 ?gh ?_); (case gh => walk_at "h"))
  | ((with_reducible refine' g_kgotI ?gh ?_); (case gh => walk_at "h"))
  | (with_reducible refine g_tRev ?_)
  | (with_reducible refine g_neB ?_)
  | (with_reducible refine g_eqB ?_)
  | ((with_reducible refine' g_lenT ?gh ?_); (case gh => walk_at "h"))
  | (with_reducible refine g_star ?_)
  | ((with_reducible refine' g_kstarL ?gh ?_); (case gh => walk_at "h"))
  | ((with_reducible refine' g_kstarT ?gh ?_); (case gh => walk_at "h"))
  | (with_reducible refine g_tru ?_)
  | ((with_reducible refine' g_truL ?gh ?_); (case gh => walk_at "h"))
  | (with_reducible refine g_get2 ?_)
  | (with_reducible refine g_try ?_)
  | (with_reducible refine g_fld ?_)
  | (with_reducible refine g_sfld ?_)
  | (with_reducible refine g_meth ?_)
  | (with_reducible refine g_make ?_)
  | (with_reducible refine g_del ?_)
  | (with_reducible refine g_callS ?_)
  | (with_reducible refine g_raise ?_)
  | (with_reducible refine g_xf ?_)
  | (with_reducible refine g_m0 ?_)
  | (with_reducible refine g_km0 ?_)
  | walk_at "is")
local macro_rules | `(tactic| walk_at "gg") => `(tactic| repeat walk_at "g")
local macro_rules | `(tactic| walk_at "sz") => `(tactic| (refine sz ?_; simp only [List.length_cons, List.length_nil, List.length_map, List.length_append, List.length_replicate]; omega))
local macro_rules | `(tactic| walk_at "sub") => `(tactic| ((repeat (first | exact List.Sublist.slnil | with_reducible apply List.Sublist.cons_cons | with_reducible apply List.Sublist.cons)); done))

/-! ### _law_named -/
theorem len_app (a b : Str) : (a ++ b).length = a.length + b.length := by
  rw [← kk_len, kk_app, List.length_append, kk_len, kk_len]
theorem base_at {p : Nat} (h : p < 5) : atI [V.int 8, V.int 96, V.int 0, V.int 995, V.int 9995] (p : Int) = some (.int (baseN p)) := by
  match p, h with
  | 0, _ => rfl
  | 1, _ => rfl
  | 2, _ => rfl
  | 3, _ => rfl
  | 4, _ => rfl
theorem base_le {p : Nat} (h : p < 5) : 0 ≤ baseN p ∧ baseN p ≤ 9995 := by
  match p, h with
  | 0, _ => decide
  | 1, _ => decide
  | 2, _ => decide
  | 3, _ => decide
  | 4, _ => decide
theorem log_small {n : Nat} (h : n < 100000) : n.log2 < 1920 := by
  by_cases z : n = 0
  · subst z; decide
  · refine (Nat.log2_lt z).mpr (Nat.lt_of_lt_of_le (m := 2 ^ 17) ?_ (Nat.pow_le_pow_right (by decide) (by decide)))
    show n < 131072
    omega
theorem cutS_len (z : Str) (lo hi : Option Int) : (cutS z lo hi).length ≤ z.length := cutS_length z lo hi
section
variable {P : Program} {w : World} {K : PySem.W.Frag} {mg : Str → Option Value} {base : Heap}
def sp_l_named (T : Txt K mg) : Sp := fun vs H Q _ => ∃ (c : Addr) (ns : List Int) (n : Nat), vs = [.ref c, .int n] ∧ H c = some (.lst (ns.map V.int)) ∧ FeedOk ns ∧ n ≤ 11 ∧
  ∀ l H' (ns' : List Int) (names : List Str), H l = none → But c H H' → H' c = some (.lst (ns'.map V.int)) → FeedOk ns' → H' l = some (.lst (names.map V.str)) → names.length = n → Nms names → Q (.ref l) H'
theorem sp_l_named_len {T : Txt K mg} {vs H Q E} (h : sp_l_named T vs H Q E) : vs.length = 2 := by
  obtain ⟨_, _, _, rfl, _⟩ := h
  rfl
theorem g_slM' {K : PySem.W.Frag} {z : Str} {lo hi : Option Int} {H : Hp} {Q : VK} (hl : z.length ≤ 100000) (q : Q (.str (cutS z lo hi)) H) : rSlM K (.str z) lo hi H Q := g_slZ (sz hl) q
theorem g_letter {K : PySem.W.Frag} {i : Int} {k : Nat} {H : Hp} {Q : VK} (e : i = (k : Int)) (h : k < 26) (q : Q (.str ⟨#[97 + k]⟩) H) : rIxA K (.str "abcdefghijklmnopqrstuvwxyz") (.int i) H Q := by
  subst e
  exact g_ixS (sz (by decide +kernel)) (let_at ⟨k, h⟩) q
theorem ok_l_named (T : Txt K mg) : FnOk P w K mg base CX0 2 T.f_l_named T.fd_l_named ["feed", "count"] (sp_l_named T) := by
  refine T.F_l_named.ok sc_l_named (fun vs H Q E h => sp_l_named_len h) (fun cdv A outer s H vs Q E hr h => ?_)
  refine ⟨_, (pss_cons (ps_set (i := 2) sc_l_named.nd rfl (.inl rfl) (pe_call (ok_l_next T) (hr.mono (by decide)) (by rfl) T.g_l_next T.F_l_next.kp T.b_l_next .nil pass0 (pa_cons (pv 0) (pa_cons pe_int pa_nil))))
      (pss_cons (ps_set (i := 3) sc_l_named.nd rfl (.inl rfl) (pe_op (op_addK K) pe_int (pe_call (ok_l_next T) (hr.mono (by decide)) (by rfl) T.g_l_next T.F_l_next.kp T.b_l_next .nil pass0 (pa_cons (pv 0) (pa_cons pe_int pa_nil)))))
      (pss_cons (ps_set (i := 4) sc_l_named.nd rfl (.inl rfl) (pe_call (ok_l_next T) (hr.mono (by decide)) (by rfl) T.g_l_next T.F_l_next.kp T.b_l_next .nil pass0 (pa_cons (pv 0) (pa_cons pe_int pa_nil))))
      (pss_cons (ps_set (i := 5) sc_l_named.nd rfl (.inl rfl) (pe_call (ok_l_next T) (hr.mono (by decide)) (by rfl) T.g_l_next T.F_l_next.kp T.b_l_next .nil pass0 (pa_cons (pv 0) (pa_cons pe_int pa_nil))))
      (pss_cons (ps_set (i := 6) sc_l_named.nd rfl (.inl rfl) pe_str)
      (pss_cons (ps_set (i := 7) sc_l_named.nd rfl (.inl rfl) (pe_lst pa_nil))
      (pss_cons (ps_for PassesOwn.never rfl (pi_range1 rfl T.m_range (pa_cons (pv 1) pa_nil)) (pg_name (i := 8) sc_l_named.nd rfl (.inl rfl)) (pss_cons (ps_set (i := 9) sc_l_named.nd rfl (.inl rfl) (pe_op op_mod (pe_callTy cr_int1 (by rfl) T.m_int (by decide +kernel) (pa_cons (pe_op op_mulA (pv 3) (pv 8)) pa_nil)) pe_int))
      (pss_cons (ps_set (i := 10) sc_l_named.nd rfl (.inl rfl) (pe_ix (ix_K K (hu_of hr)) (pv 6) (pe_op op_mod (pe_callTy cr_int1 (by rfl) T.m_int (by decide +kernel) (pa_cons (pe_op (op_addK K) (pv 4) (pv 9)) pa_nil)) pe_int) (fun _ _ => rfl)))
      (pss_one (ps_if (pt_cmpR (op_eqK K hr.units) (pv 2) pe_int (nomark _)) (pss_cons (ps_set (i := 11) sc_l_named.nd rfl (.inl rfl) (pe_op (op_addK K) (pe_ix (ix_K K (hu_of hr)) (pe_lst (pa_cons pe_int (pa_cons pe_int (pa_cons pe_int (pa_cons pe_int (pa_cons pe_int pa_nil)))))) (pv 5) (fun _ _ => rfl)) (pv 9)))
      (pss_one (ps_expr (k_bm K (pe_bm PySem.F.plainAttrs_list PySem.F.slot_list_append PySem.F.type_list_append mt_append (pv 7) (pa_cons (pe_op (op_addK K) (pe_ix (ix_K K (hu_of hr)) (pv 6) (pe_op op_mod (pe_callTy cr_int1 (by rfl) T.m_int (by decide +kernel) (pa_cons (pe_op (op_addK K) (pv 4) pe_int) pa_nil)) pe_int) (fun _ _ => rfl)) (pe_callTy cr_strI (by rfl) T.m_str (by decide +kernel) (pa_cons (pv 11) pa_nil))) pa_nil)))))) (pss_one (ps_if (pt_cmpR (op_eqK K hr.units) (pv 2) pe_int (nomark _)) (pss_cons (ps_set (i := 12) sc_l_named.nd rfl (.inl rfl) (pe_op op_mod (pe_callTy cr_int1 (by rfl) T.m_int (by decide +kernel) (pa_cons (pv 8) pa_nil)) (pe_op op_sub pe_int (pv 5))))
      (pss_one (ps_expr (k_bm K (pe_bm PySem.F.plainAttrs_list PySem.F.slot_list_append PySem.F.type_list_append mt_append (pv 7) (pa_cons (pe_op (op_addK K) (pe_op (op_addK K) (pe_op (op_addK K) (pe_slice (sl_M K) pe_str po_none (po_some (pv 5))) (pv 10)) pe_str) (pe_slice (sl_M K) pe_str po_none (po_some (pv 12)))) pa_nil)))))) (pss_cons (ps_set (i := 12) sc_l_named.nd rfl (.inl rfl) (pe_ix (ix_K K (hu_of hr)) (pe_lst (pa_cons (pe_op op_sub pe_int (pv 5)) (pa_cons (pe_op op_mod (pe_callTy cr_int1 (by rfl) T.m_int (by decide +kernel) (pa_cons (pv 8) pa_nil)) (pe_op op_sub pe_int (pv 5))) pa_nil))) (pe_op op_sub (pv 2) pe_int) (fun _ _ => rfl)))
      (pss_one (ps_expr (k_bm K (pe_bm PySem.F.plainAttrs_list PySem.F.slot_list_append PySem.F.type_list_append mt_append (pv 7) (pa_cons (pe_op (op_addK K) (pe_op (op_addK K) (pe_slice (sl_M K) pe_str po_none (po_some (pv 5))) (pv 10)) (pe_slice (sl_M K) pe_str po_none (po_some (pv 12)))) pa_nil)))))))))))))
      (pss_one (ps_ret (pv 7)))))))))), ?_⟩
  obtain ⟨c, ns, n, rfl, hc, ok, hn, q⟩ := h
  have hH := Has.arg hc
  refine g_start (σ' := [some (.ref c), some (.int n), none, none, none, none, none, none, none, none, none, none, none]) rfl ?_
  walk_at "gg"
  refine ⟨c, ns, 4, rfl, by walk_at "h", ok, by decide, by decide, fun H1 ns1 sty hb e ok1 sty0 sty1 => ?_⟩
  have h1 := hH.but .hd hb e
  walk_at "gg"
  refine ⟨c, ns1, 10, rfl, by walk_at "h", ok1, by decide, by decide, fun H2 ns2 by_ hb e ok2 by0 by1 => ?_⟩
  have h2 := h1.but .hd hb e
  walk_at "gg"
  refine ⟨c, ns2, 26, rfl, by walk_at "h", ok2, by decide, by decide, fun H3 ns3 st hb e ok3 st0 st1 => ?_⟩
  have h3 := h2.but .hd hb e
  walk_at "gg"
  refine ⟨c, ns3, 5, rfl, by walk_at "h", ok3, by decide, by decide, fun H4 ns4 pl hb e ok4 pl0 pl1 => ?_⟩
  have h4 := h3.but .hd hb e
  walk_at "gg"
  obtain ⟨sty, rfl⟩ := Int.eq_ofNat_of_zero_le sty0
  obtain ⟨by_, rfl⟩ := Int.eq_ofNat_of_zero_le by0
  obtain ⟨st, rfl⟩ := Int.eq_ofNat_of_zero_le st0
  obtain ⟨pl, rfl⟩ := Int.eq_ofNat_of_zero_le pl0
  have hpl : pl < 5 := by omega
  refine g_klst (by walk_at "sz") h4 (fun p H5 n5 h5 => ?_)
  have np : rm H c p = none := h4.same.free n5
  have npc : p ≠ c := fun e => by
    have := h4.get (List.Mem.head _)
    rw [← e, n5] at this
    cases this
  have np' : H p = none := by rw [rm_ne npc] at np; exact np
  walk_at "gg"
  refine k_forR1 (fun t σ H' => ∃ (xs : List Str) (y8 y9 y10 y11 y12 : Option V), σ = [some (.ref c), some (.int n), some (.int sty), some (.int (1 + by_)), some (.int st), some (.int pl), some (.str "abcdefghijklmnopqrstuvwxyz"), some (.ref p), y8, y9, y10, y11, y12] ∧
    Has (rm H c) [(p, .lst (xs.map V.str)), (c, .lst (ns4.map V.int))] H' ∧ xs.map kk = (List.range t).map (nmL sty (1 + by_) st pl)) (by omega) (by omega) ⟨[], _, _, _, _, _, rfl, h5, rfl⟩ ?_ ?_
  · rintro t σ H6 ht ⟨xs, y8, y9, y10, y11, y12, rfl, h6, ex⟩
    have ht : t < n := by omega
    have lx : xs.length = t := by
      have := congrArg List.length ex
      rw [List.length_map, List.length_map, List.length_range] at this
      exact this
    walk_at "gg"
    refine g_mulI (.inl ⟨by omega, by omega⟩) ?_
    walk_at "gg"
    refine g_rI (by show (0 : Int) < 11; decide) ?_
    walk_at "gg"
    have er : ((1 + (by_ : Int)) * (t : Int)) % 11 = (((1 + by_) * t % 11 : Nat) : Int) := by push_cast; rfl
    rw [er]
    have hr : (1 + by_) * t % 11 < 11 := Nat.mod_lt _ (by decide)
    generalize hrk : (1 + by_) * t % 11 = rk at hr
    have h26 : (st + rk) % 26 < 26 := Nat.mod_lt _ (by decide)
    refine g_rI (by show (0 : Int) < 26; decide) ?_
    walk_at "gg"
    refine g_letter (k := (st + rk) % 26) (by push_cast; rfl) h26 ?_
    walk_at "gg"
    have fin : ∀ (z : Str) (H7 : Hp) (y11 y12 : Option V), kk z = nmL sty (1 + by_) st pl t → Has (rm H c) [(p, .lst (xs.map V.str ++ [V.str z])), (c, .lst (ns4.map V.int))] H7 →
        ∃ (xs : List Str) (y8 y9 y10 y11' y12' : Option V), [some (.ref c), some (.int n), some (.int sty), some (.int (1 + by_)), some (.int st), some (.int pl), some (.str "abcdefghijklmnopqrstuvwxyz"), some (.ref p), some (.int (t : Int)), some (.int (rk : Int)), some (.str ⟨#[97 + (st + rk) % 26]⟩), y11, y12] =
          [some (.ref c), some (.int n), some (.int sty), some (.int (1 + by_)), some (.int st), some (.int pl), some (.str "abcdefghijklmnopqrstuvwxyz"), some (.ref p), y8, y9, y10, y11', y12'] ∧
          Has (rm H c) [(p, .lst (xs.map V.str)), (c, .lst (ns4.map V.int))] H7 ∧ xs.map kk = (List.range (t + 1)).map (nmL sty (1 + by_) st pl) := fun z H7 y11 y12 ez h7 =>
      ⟨xs ++ [z], _, _, _, _, _, rfl, by rw [List.map_append]; exact h7, by rw [List.map_append, ex, List.range_succ, List.map_append]; show _ ++ [kk z] = _; rw [ez]; rfl⟩
    refine i_d (fun z => ?_) (fun z => ?_)
    · have z : sty = 0 := by omega
      walk_at "gg"
      refine g_klst (by walk_at "sz") h6 (fun p2 H7 n7 h7 => ?_)
      walk_at "gg"
      refine g_ixL (h7.get (List.Mem.head _)) (base_at hpl) ?_
      have h7 := h7.drop
      walk_at "gg"
      have bl := base_le hpl
      refine g_rI (by show (0 : Int) < 26; decide) ?_
      walk_at "gg"
      refine g_letter (k := (st + 21) % 26) (by push_cast; rfl) (Nat.mod_lt _ (by decide)) ?_
      walk_at "gg"
      refine g_strI (log_small (by omega)) ?_
      have nl := (num_facts hpl hr).2.1
      rw [kk_len] at nl
      refine g_addS (sz (by show 1 + (numS pl rk).length ≤ _; omega)) ?_
      walk_at "gg"
      refine g_append h7 .hd (szl (by rw [List.length_map]; omega)) (fun H8 h8 => ?_)
      walk_at "gg"
      refine fin _ H8 _ _ ?_ h8
      rw [kk_app]
      unfold nmL
      rw [if_pos z, hrk]
      rfl
    have l1 : (⟨#[97 + (st + rk) % 26]⟩ : Str).length = 1 := rfl
    have la : (cutS ("abcde" : Str) none (some (pl : Int))).length ≤ 5 := Nat.le_trans (cutS_len _ _ _) (by decide +kernel)
    have ea : kk (cutS ("abcde" : Str) none (some (pl : Int))) = (List.range pl).map (97 + ·) := cut_a ⟨pl, hpl⟩
    have el : kk (⟨#[97 + (st + rk) % 26]⟩ : Str) = [97 + (st + rk) % 26] := rfl
    have e7 : kk ("7" : Str) = [55] := by decide +kernel
    have l7 : ("7" : Str).length = 1 := by decide +kernel
    have z0 : ¬ sty = 0 := fun e => z (by rw [e]; rfl)
    have sg : sgn (1 + by_) st t = 97 + (st + rk) % 26 := by unfold sgn; rw [hrk]
    walk_at "gg"
    refine i_d (fun z3 => ?_) (fun z3 => ?_)
    · have z3' : sty = 3 := by omega
      have hs : t % (5 - pl) < 5 - pl := Nat.mod_lt _ (by omega)
      have es : ((t : Int)) % (5 - (pl : Int)) = ((t % (5 - pl) : Nat) : Int) := by
        have : (5 - (pl : Int)) = ((5 - pl : Nat) : Int) := by omega
        rw [this]
        push_cast
        rfl
      walk_at "gg"
      refine g_rI (by show (0 : Int) < 5 - (pl : Int); omega) ?_
      walk_at "gg"
      rw [es]
      generalize hsz : t % (5 - pl) = size at hs
      have lp : (cutS ("pqrst" : Str) none (some (size : Int))).length ≤ 5 := Nat.le_trans (cutS_len _ _ _) (by decide +kernel)
      have ep : kk (cutS ("pqrst" : Str) none (some (size : Int))) = (List.range size).map (112 + ·) := cut_p ⟨size, by omega⟩
      walk_at "gg"
      refine g_slM' (by decide +kernel) ?_
      walk_at "gg"
      refine g_addS (sz (by omega)) ?_
      walk_at "gg"
      refine g_addS (sz (by rw [len_app]; omega)) ?_
      walk_at "gg"
      refine g_slM' (by decide +kernel) ?_
      refine g_addS (sz (by rw [len_app, len_app]; omega)) ?_
      walk_at "gg"
      refine g_append h6 .hd (szl (by rw [List.length_map]; omega)) (fun H8 h8 => ?_)
      walk_at "gg"
      refine fin _ H8 _ _ ?_ h8
      rw [kk_app, kk_app, kk_app, ea, el, e7, ep]
      unfold nmL
      rw [if_neg z0, sg]
      unfold sufL
      rw [if_pos z3', hsz, List.append_assoc, List.append_assoc]
      rfl
    · have z3' : ¬ sty = 3 := fun e => z3 (by rw [e]; rfl)
      have hs : t % (6 - pl) < 6 - pl := Nat.mod_lt _ (by omega)
      have es : ((t : Int)) % (6 - (pl : Int)) = ((t % (6 - pl) : Nat) : Int) := by
        have : (6 - (pl : Int)) = ((6 - pl : Nat) : Int) := by omega
        rw [this]
        push_cast
        rfl
      walk_at "gg"
      refine g_rI (by show (0 : Int) < 6 - (pl : Int); omega) ?_
      walk_at "gg"
      rw [es]
      refine g_klst (by walk_at "sz") h6 (fun p2 H7 n7 h7 => ?_)
      walk_at "gg"
      refine g_ixL (v := .int ((if sty = 1 then 5 - pl else t % (6 - pl) : Nat) : Int)) (h7.get (List.Mem.head _)) ?_ ?_
      · by_cases z1 : sty = 1
        · subst z1
          rw [if_pos rfl]
          show atI _ 0 = _
          rw [show (((5 - pl : Nat) : Int)) = 5 - (pl : Int) by omega]
          rfl
        · have z2 : sty = 2 := by omega
          subst z2
          rw [if_neg (by decide)]
          rfl
      have h7 := h7.drop
      generalize hsz : (if sty = 1 then 5 - pl else t % (6 - pl)) = size
      have hsz5 : size < 6 := by
        rw [← hsz]
        split <;> omega
      have lp : (cutS ("pqrst" : Str) none (some (size : Int))).length ≤ 5 := Nat.le_trans (cutS_len _ _ _) (by decide +kernel)
      have ep : kk (cutS ("pqrst" : Str) none (some (size : Int))) = (List.range size).map (112 + ·) := cut_p ⟨size, hsz5⟩
      walk_at "gg"
      refine g_slM' (by decide +kernel) ?_
      walk_at "gg"
      refine g_addS (sz (by omega)) ?_
      walk_at "gg"
      refine g_slM' (by decide +kernel) ?_
      refine g_addS (sz (by rw [len_app]; omega)) ?_
      walk_at "gg"
      refine g_append h7 .hd (szl (by rw [List.length_map]; omega)) (fun H8 h8 => ?_)
      walk_at "gg"
      refine fin _ H8 _ _ ?_ h8
      rw [kk_app, kk_app, ea, el, ep]
      unfold nmL
      rw [if_neg z0, sg]
      unfold sufL
      rw [if_neg z3', hsz, List.append_assoc]
      rfl
  · rintro σ H6 ⟨xs, y8, y9, y10, y11, y12, rfl, h6, ex⟩
    walk_at "gg"
    refine q p H6 ns4 xs np' (But.of h6.same) (h6.get (by walk_at "m")) ok4 (h6.get (List.Mem.head _)) ?_ (nms_of (n := n) (sty := sty) (by_ := 1 + by_) (st := st) (pl := pl) hpl (by omega) (by omega) hn (by simpa using ex))
    have := congrArg List.length ex
    rw [List.length_map, List.length_map, List.length_range] at this
    omega
end

end K13

namespace K13
open PySem PySem.Spec PyProof.Rows L2 Qk
local macro_rules | `(tactic| walk_at "m") => `(tactic| ((repeat (first | exact List.Mem.head _ | apply List.Mem.tail)); done))
local macro_rules | `(tactic| walk_at "h") => `(tactic| first | assumption | exact Has.gF (by assumption) (by assumption) | exact Has.get (by assumption) (by walk_at "m"))
local macro_rules | `(tactic| walk_at "c") => `(tactic| ((repeat (first | exact Chg.hd | apply Chg.tl)); done))
local macro_rules | `(tactic| walk_at "is") => `(tactic| first
  | ((with_reducible refine' is2_non ?gh ?_); (case gh => walk_at "h"))
  | (with_reducible refine is_int_list ?_)
  | (with_reducible refine is_int_tuple ?_)
  | (with_reducible refine is_int_dict ?_)
  | (with_reducible refine is_int_int ?_)
  | (with_reducible refine is_int_bool ?_)
  | (with_reducible refine is_int_str ?_)
  | ((with_reducible refine' is2_int ?gh ?_); (case gh => walk_at "h"))
  | (with_reducible refine is_str_list ?_)
  | (with_reducible refine is_str_tuple ?_)
  | (with_reducible refine is_str_dict ?_)
  | (with_reducible refine is_str_int ?_)
  | (with_reducible refine is_str_bool ?_)
  | (with_reducible refine is_str_str ?_)
  | ((with_reducible refine' is2_str ?gh ?_); (case gh => walk_at "h"))
  | (with_reducible refine is_bool_list ?_)
  | (with_reducible refine is_bool_tuple ?_)
  | (with_reducible refine is_bool_dict ?_)
  | (with_reducible refine is_bool_int ?_)
  | (with_reducible refine is_bool_bool ?_)
  | (with_reducible refine is_bool_str ?_)
  | ((with_reducible refine' is2_bool ?gh ?_); (case gh => walk_at "h"))
  | ((with_reducible refine' is_list_list ?gh ?_); (case gh => walk_at "h"))
  | ((with_reducible refine' is_list_tuple ?gh ?_); (case gh => walk_at "h"))
  | ((with_reducible refine' is_list_dict ?gh ?_); (case gh => walk_at "h"))
  | ((with_reducible refine' is_list_int ?gh ?_); (case gh => walk_at "h"))
  | ((with_reducible refine' is_list_bool ?gh ?_); (case gh => walk_at "h"))
  | ((with_reducible refine' is_list_str ?gh ?_); (case gh => walk_at "h"))
  | ((with_reducible refine' is2_list ?ga ?gb ?_); (case ga => walk_at "h"); (case gb => walk_at "h"))
  | ((with_reducible refine' is_tuple_list ?gh ?_); (case gh => walk_at "h"))
  | ((with_reducible refine' is_tuple_tuple ?gh ?_); (case gh => walk_at "h"))
  | ((with_reducible refine' is_tuple_dict ?gh ?_); (case gh => walk_at "h"))
  | ((with_reducible refine' is_tuple_int ?gh ?_); (case gh => walk_at "h"))
  | ((with_reducible refine' is_tuple_bool ?gh ?_); (case gh => walk_at "h"))
  | ((with_reducible refine' is_tuple_str ?gh ?_); (case gh => walk_at "h"))
  | ((with_reducible refine' is2_tuple ?ga ?gb ?_); (case ga => walk_at "h"); (case gb => walk_at "h"))
  | ((with_reducible refine' is_dict_list ?gh ?_); (case gh => walk_at "h"))
  | ((with_reducible refine' is_dict_tuple ?gh ?_); (case gh => walk_at "h"))
  | ((with_reducible refine' is_dict_dict ?gh ?_); (case gh => walk_at "h"))
  | ((with_reducible refine' is_dict_int ?gh ?_); (case gh => walk_at "h"))
  | ((with_reducible refine' is_dict_bool ?gh ?_); (case gh => walk_at "h"))
  | ((with_reducible refine' is_dict_str ?gh ?_); (case gh => walk_at "h"))
  | ((with_reducible refine' is2_dict ?ga ?gb ?_); (case ga => walk_at "h"); (case gb => walk_at "h")))
local macro_rules | `(tactic| walk_at "g") => `(tactic| first
  | (with_reducible refine g_seq ?_)
  | (with_reducible refine g_asg ?_)
  | ((with_reducible refine g_name ?_); dsimp only [List.set, wipe, List.map])
  | ((with_reducible refine' g_var ?gv ?_); (case gv => exact rfl))
  | (with_reducible refine g_c ?_)
  | (with_reducible refine g_op ?_)
  | (with_reducible refine g_cons ?_)
  | (with_reducible refine g_nil ?_)
  | (with_reducible refine g_cb ?_)
  | (with_reducible refine g_call ?_)
  | (with_reducible refine g_tup ?_)
  | (with_reducible refine g_lst ?_)
  | (with_reducible refine g_bm ?_)
  | (with_reducible refine g_bm0 ?_)
  | ((with_reducible refine' g_kbm ?gh ?_); (case gh => walk_at "h"))
  | (with_reducible refine g_drop ?_)
  | (with_reducible refine g_ret ?_)
  | (with_reducible refine g_retN ?_)
  | (with_reducible refine g_next ?_)
  | (with_reducible refine g_brk ?_)
  | (with_reducible refine g_cont ?_)
  | (with_reducible refine g_if ?_)
  | ((with_reducible refine' g_aug ?gv ?_); (case gv => exact rfl))
  | (with_reducible refine g_ipI ?_)
  | (with_reducible refine g_test ?_)
  | (with_reducible refine g_tB ?_)
  | (with_reducible refine g_kB ?_)
  | (with_reducible refine g_not ?_)
  | (with_reducible refine g_and ?_)
  | (with_reducible refine g_or ?_)
  | (with_reducible refine g_andV ?_)
  | (with_reducible refine g_orV ?_)
  | (with_reducible refine g_notV ?_)
  | (with_reducible refine g_ifE ?_)
  | (with_reducible refine g_addI ?_)
  | (with_reducible refine g_rI0 ?_)
  | (with_reducible refine g_eqI ?_)
  | (with_reducible refine g_eqS ?_)
  | (with_reducible refine g_neI ?_)
  | (with_reducible refine g_neS ?_)
  | (with_reducible refine g_isN ?_)
  | (with_reducible refine g_notN ?_)
  | (with_reducible refine g_int ?_)
  | (with_reducible refine g_max2 ?_)
  | (with_reducible refine g_min2 ?_)
  | ((with_reducible refine' g_lenL ?gh ?_); (case gh => walk_at "h"))
  | (with_reducible refine g_sub ?_)
  | (with_reducible refine g_gcons ?_)
  | (with_reducible refine g_gnil ?_)
  | (with_reducible refine g_un ?_)
  | (with_reducible refine g_rU ?_)
  | (with_reducible refine g_forL ?_)
  | (with_reducible refine g_forS ?_)
  | (with_reducible refine g_forR1 ?_)
  | (with_reducible refine g_forR2 ?_)
  | (with_reducible refine g_forR3 ?_)
  | (with_reducible refine g_lcL ?_)
  | (with_reducible refine g_lcR1 ?_)
  | (with_reducible refine g_lcR2 ?_)
  | (with_reducible refine g_slice ?_)
  | (with_reducible refine g_part ?_)
  | (with_reducible refine g_kOI ?_)
  | (with_reducible refine g_nopart ?_)
  | (with_reducible refine g_yes ?_)
  | ((with_reducible refine' g_wipe ?gv ?_); (case gv => exact rfl))
  | (with_reducible refine iteT ?_)
  | (with_reducible refine iteF ?_)
  | (with_reducible refine i_nf ?_)
  | (with_reducible refine i_nt ?_)
  | ((with_reducible refine' g_gtup ?gh ?gl ?_); (case gh => walk_at "h"); (case gl => exact rfl))
  | ((with_reducible refine' g_notinI ?gh ?_); (case gh => walk_at "h"))
  | ((with_reducible refine' g_inI ?gh ?_); (case gh => walk_at "h"))
  | ((with_reducible refine' g_kget2 ?gh ?_); (case gh => walk_at "h"))
  | ((with_reducible refine' g_kgotI ?gh ?_); (case gh => walk_at "h"))
  | (with_reducible refine g_tRev ?_)
  | (with_reducible refine g_neB ?_)
  | (with_reducible refine g_eqB ?_)
  | ((with_reducible refine' g_lenT ?gh ?_); (case gh => walk_at "h"))
  | (with_reducible refine g_star ?_)
  | ((with_reducible refine' g_kstarL ?gh ?_); (case gh => walk_at "h"))
  | ((with_reducible refine' g_kstarT ?gh ?_); (case gh => walk_at "h"))
  | (with_reducible refine g_tru ?_)
  | ((with_reducible refine' g_truL ?gh ?_); (case gh => walk_at "h"))
  | (with_reducible refine g_get2 ?_)
  | (with_reducible refine g_try ?_)
  | (with_reducible refine g_fld ?_)
  | (with_reducible refine g_sfld ?_)
  | (with_reducible refine g_meth ?_)
  | (with_reducible refine g_make ?_)
  | (with_reducible refine g_del ?_)
  | (with_reducible refine g_callS ?_)
  | (with_reducible refine g_raise ?_)
  | (with_reducible refine g_xf ?_)
  | (with_reducible refine g_m0 ?_)
  | (with_reducible refine g_km0 ?_)
  | walk_at "is")
local macro_rules | `(tactic| walk_at "gg") => `(tactic| repeat walk_at "g")
local macro_rules | `(tactic| walk_at "sz") => `(tactic| (refine sz ?_; simp only [List.length_cons, List.length_nil, List.length_map, List.length_append, List.length_replicate]; omega))
local macro_rules | `(tactic| walk_at "sub") => `(tactic| ((repeat (first | exact List.Sublist.slnil | with_reducible apply List.Sublist.cons_cons | with_reducible apply List.Sublist.cons)); done))

/-! ### the web that a law draws -/
def rowI (row : List Nat) : List V := row.map fun (a : Nat) => V.int (a : Int)
def rowD (row : List Nat) : PyData := .list (row.map fun (a : Nat) => PyData.int (a : Int))
structure WebOk (web : List (List Nat)) : Prop where
  row : ∀ (i : Nat) (r : List Nat), web[i]? = some r → r.Nodup ∧ (∀ a ∈ r, a < i) ∧ r.length ≤ 6
theorem dq_row {H : Hp} {a : Addr} {row : List Nat} (h : H a = some (.lst (rowI row))) : Dq H (.ref a) (rowD row) := by
  refine .lst h ?_
  unfold rowI
  have := DqAll.ints (H := H) (row.map fun (a : Nat) => (a : Int))
  rw [List.map_map, List.map_map] at this
  exact this
theorem row_at {H : Hp} {v : V} {row : List Nat} (h : Dq H v (rowD row)) : ∃ a, v = .ref a ∧ H a = some (.lst (rowI row)) := by
  unfold rowD at h
  have e : (row.map fun (a : Nat) => PyData.int (a : Int)) = (row.map fun (a : Nat) => (a : Int)).map PyData.int := by rw [List.map_map]; rfl
  rw [e] at h
  cases h with
  | lst s d =>
    refine ⟨_, rfl, ?_⟩
    rw [s]
    congr 2
    have : ∀ {vs : List V} {xs : List Int}, DqAll H vs (xs.map PyData.int) → vs = xs.map V.int := by
      intro vs xs
      induction xs generalizing vs with
      | nil => intro d; cases d; rfl
      | cons x xs ih =>
        intro d
        rw [List.map_cons] at d
        cases d with
        | cons d1 d2 =>
          cases d1
          rw [ih d2]
          rfl
    rw [this d, List.map_map]
    rfl
theorem inV_row (x : Nat) (ys : List Nat) : inV (.int (x : Int)) (rowI ys) = decide (x ∈ ys) := by
  unfold inV rowI
  rw [List.any_map, Bool.eq_iff_iff]
  simp only [List.any_eq_true, Function.comp, decide_eq_true_eq]
  constructor
  · rintro ⟨y, hy, e⟩
    have e : ((y : Int) == (x : Int)) = true := e
    have e := beq_iff_eq.mp e
    have e : y = x := by omega
    exact e ▸ hy
  · exact fun h => ⟨x, h, (beq_iff_eq (a := (x : Int)) (b := (x : Int))).mpr rfl⟩
theorem flat_row (ys : List Nat) : (rowI ys).all flatV = true := by
  unfold rowI
  rw [List.all_map]
  exact List.all_eq_true.mpr fun _ _ => rfl
theorem WebOk.snoc {web : List (List Nat)} (h : WebOk web) {r : List Nat} (n : r.Nodup) (b : ∀ a ∈ r, a < web.length) (l : r.length ≤ 6) : WebOk (web ++ [r]) := ⟨fun i s e => by
  by_cases hi : i < web.length
  · rw [List.getElem?_append_left hi] at e
    exact h.row i s e
  · rw [List.getElem?_append_right (by omega)] at e
    by_cases z : i - web.length = 0
    · rw [z] at e
      have e : some r = some s := e
      injection e with e
      subst e
      exact ⟨n, fun a ha => by have := b a ha; omega, l⟩
    · obtain ⟨j, hj⟩ := Nat.exists_eq_succ_of_ne_zero z
      rw [hj] at e
      cases e⟩
section
variable {P : Program} {w : World} {K : PySem.W.Frag} {mg : Str → Option Value} {base : Heap}
def sp_l_drawn (T : Txt K mg) : Sp := fun vs H Q _ => ∃ (c : Addr) (F : Hp) (ns : List Int), vs = [.ref c] ∧ Has F [(c, .lst (ns.map V.int))] H ∧ FeedOk ns ∧
  ∀ l H' F' (ns' : List Int) us (web : List (List Nat)), Same F F' → Has F' [(c, .lst (ns'.map V.int))] H' → FeedOk ns' → F' l = some (.lst us) → DqAll F' us (web.map rowD) → WebOk web → web.length ≤ 9 → Q (.ref l) H'
theorem sp_l_drawn_len {T : Txt K mg} {vs H Q E} (h : sp_l_drawn T vs H Q E) : vs.length = 1 := by
  obtain ⟨_, _, _, rfl, _⟩ := h
  rfl
theorem ok_l_drawn (T : Txt K mg) : FnOk P w K mg base CX0 2 T.f_l_drawn T.fd_l_drawn ["feed"] (sp_l_drawn T) := by
  refine T.F_l_drawn.ok sc_l_drawn (fun vs H Q E h => sp_l_drawn_len h) (fun cdv A outer s H vs Q E hr h => ?_)
  refine ⟨_, (pss_cons (ps_set (i := 1) sc_l_drawn.nd rfl (.inl rfl) (pe_lst pa_nil))
      (pss_cons (ps_set (i := 2) sc_l_drawn.nd rfl (.inl rfl) (pe_lst (pa_cons pe_int (pa_cons pe_int (pa_cons pe_int (pa_cons pe_int (pa_cons pe_int (pa_cons pe_int (pa_cons pe_int (pa_cons pe_int (pa_cons pe_int (pa_cons pe_int (pa_cons pe_int (pa_cons pe_int (pa_cons pe_int pa_nil)))))))))))))))
      (pss_cons (ps_for PassesOwn.never rfl (pi_range1 rfl T.m_range (pa_cons (pe_ix (ix_K K (hu_of hr)) (pv 2) (pe_call (ok_l_next T) (hr.mono (by decide)) (by rfl) T.g_l_next T.F_l_next.kp T.b_l_next .nil pass0 (pa_cons (pv 0) (pa_cons pe_int pa_nil))) (fun _ _ => rfl)) pa_nil)) (pg_name (i := 3) sc_l_drawn.nd rfl (.inl rfl)) (pss_cons (ps_set (i := 4) sc_l_drawn.nd rfl (.inl rfl) (pe_lst pa_nil))
      (pss_cons (ps_if (pt_cmpR op_gt (pv 3) pe_int (nomark _)) (pss_one (ps_for PassesOwn.never rfl (pi_range1 rfl T.m_range (pa_cons (pe_ix (ix_K K (hu_of hr)) (pe_lst (pa_cons pe_int (pa_cons pe_int (pa_cons pe_int (pa_cons pe_int (pa_cons pe_int pa_nil)))))) (pe_call (ok_l_next T) (hr.mono (by decide)) (by rfl) T.g_l_next T.F_l_next.kp T.b_l_next .nil pass0 (pa_cons (pv 0) (pa_cons pe_int pa_nil))) (fun _ _ => rfl)) pa_nil)) (pg_name (i := 5) sc_l_drawn.nd rfl (.inl rfl)) (pss_cons (ps_set (i := 6) sc_l_drawn.nd rfl (.inl rfl) (pe_op op_mod (pe_callTy cr_int1 (by rfl) T.m_int (by decide +kernel) (pa_cons (pe_op op_sub (pe_op op_sub (pe_op op_sub (pv 3) pe_int) (pv 5)) (pe_call (ok_l_next T) (hr.mono (by decide)) (by rfl) T.g_l_next T.F_l_next.kp T.b_l_next .nil pass0 (pa_cons (pv 0) (pa_cons (pv 3) pa_nil)))) pa_nil)) (pv 3)))
      (pss_one (ps_if (pt_cmpR (op_notinM K P w hr.units (u65 hr)) (pv 6) (pv 4) (by rfl)) (pss_one (ps_expr (k_bm K (pe_bm PySem.F.plainAttrs_list PySem.F.slot_list_append PySem.F.type_list_append mt_append (pv 4) (pa_cons (pv 6) pa_nil))))) pss_nil))))) pss_nil)
      (pss_one (ps_expr (k_bm K (pe_bm PySem.F.plainAttrs_list PySem.F.slot_list_append PySem.F.type_list_append mt_append (pv 1) (pa_cons (pv 4) pa_nil))))))))
      (pss_one (ps_ret (pv 1)))))), ?_⟩
  obtain ⟨c, F, ns0, rfl, hH, ok, q⟩ := h
  refine g_start (σ' := [some (.ref c), none, none, none, none, none, none]) rfl ?_
  walk_at "gg"
  refine g_klst (by walk_at "sz") hH (fun p H1 n1 h1 => ?_)
  walk_at "gg"
  refine g_klstF (by walk_at "sz") h1 (fun ps H2 F2 n2 s2 fps h2 => ?_)
  walk_at "gg"
  refine ⟨c, ns0, 13, rfl, by walk_at "h", ok, by decide, by decide, fun H3 ns3 r hb e ok3 r0 r1 => ?_⟩
  have h3 := h2.but (.tl .hd) hb e
  refine g_ixI (xs := [9, 8, 7, 9, 6, 5, 9, 8, 4, 3, 2, 1, 0]) (h3.same _ _ fps) r0 (by exact r1) (fun m hm => ?_)
  have hm' : 0 ≤ m ∧ m ≤ 9 := by
    have := List.mem_of_getElem? hm
    simp only [List.mem_cons, List.not_mem_nil, or_false] at this
    omega
  walk_at "gg"
  refine k_forR1 (fun t σ H' => ∃ (F' : Hp) (us : List V) (web : List (List Nat)) (ns : List Int) (y3 y4 y5 y6 : Option V), σ = [some (.ref c), some (.ref p), some (.ref ps), y3, y4, y5, y6] ∧ Same F2 F' ∧ Has F' [(p, .lst us), (c, .lst (ns.map V.int))] H' ∧ FeedOk ns ∧ DqAll F' us (web.map rowD) ∧ web.length = t ∧ WebOk web)
    (by omega) (by omega) ⟨F2, [], [], ns3, _, _, _, _, rfl, Same.refl _, h3, ok3, .nil, rfl, ⟨fun i r e => by cases e⟩⟩ ?_ ?_
  · rintro t σ H4 ht ⟨F', us, web, ns, y3, y4, y5, y6, rfl, sF, h4, ok4, du, lw, wok⟩
    have lu : us.length = web.length := by rw [du.len, List.length_map]
    walk_at "gg"
    refine g_klst (by walk_at "sz") h4 (fun rw_ H5 n5 h5 => ?_)
    walk_at "g"
    walk_at "g"
    refine g_joinD (fun σ' H' => ∃ (row : List Nat) (ns : List Int) (y5 y6 : Option V), σ' = [some (.ref c), some (.ref p), some (.ref ps), some (.int (t : Int)), some (.ref rw_), y5, y6] ∧ Has F' [(rw_, .lst (rowI row)), (p, .lst us), (c, .lst (ns.map V.int))] H' ∧ FeedOk ns ∧ row.Nodup ∧ (∀ a ∈ row, a < t) ∧ row.length ≤ 6) ?_ (fun nx' key => ?_)
    · rintro σ' H6 ⟨row, ns, y5, y6, rfl, h6, ok6, nd, lt, l6⟩
      walk_at "gg"
      refine g_append h6 (.tl .hd) (szl (by omega)) (fun H7 h7 => ?_)
      have h8 := h7.frz
      have s8 := h7.grow
      have fr : upd F' rw_ (.lst (rowI row)) rw_ = some (.lst (rowI row)) := upd_same
      walk_at "gg"
      exact ⟨_, us ++ [.ref rw_], web ++ [row], ns, _, _, _, _, rfl, sF.trans s8, h8, ok6, by rw [List.map_append]; exact (du.up s8 _ _).snoc (dq_row fr), by rw [List.length_append]; show _ + 1 = _; omega, wok.snoc nd (by rw [lw]; exact lt) l6⟩
    walk_at "gg"
    refine i_d (fun z => ?_) (fun z => ?_)
    · walk_at "gg"
      refine g_klst (by walk_at "sz") h5 (fun p6 H6 n6 h6 => ?_)
      walk_at "gg"
      refine ⟨c, ns, 5, rfl, h6.get (by walk_at "m"), ok4, by decide, by decide, fun H7 ns7 r hb e ok7 r0 r1 => ?_⟩
      have h7 := h6.but (.tl (.tl (.tl .hd))) hb e
      refine g_ixI (xs := [2, 1, 3, 0, 6]) (h7.get (List.Mem.head _)) r0 (by exact r1) (fun m2 hm2 => ?_)
      have hm2' : 0 ≤ m2 ∧ m2 ≤ 6 := by
        have := List.mem_of_getElem? hm2
        simp only [List.mem_cons, List.not_mem_nil, or_false] at this
        omega
      have h7 := h7.drop
      walk_at "gg"
      refine k_forR1 (fun u σ H' => ∃ (row : List Nat) (ns : List Int) (y5 y6 : Option V), σ = [some (.ref c), some (.ref p), some (.ref ps), some (.int (t : Int)), some (.ref rw_), y5, y6] ∧ Has F' [(rw_, .lst (rowI row)), (p, .lst us), (c, .lst (ns.map V.int))] H' ∧ FeedOk ns ∧ row.Nodup ∧ (∀ a ∈ row, a < t) ∧ row.length ≤ u)
        (by omega) (by omega) ⟨[], ns7, _, _, rfl, h7, ok7, List.nodup_nil, fun a h => (by cases h), Nat.le_refl _⟩ ?_ ?_
      · rintro u σ H8 hu ⟨row, ns, y5, y6, rfl, h8, ok8, nd, lt, lr⟩
        walk_at "gg"
        refine ⟨c, ns, t, rfl, h8.get (by walk_at "m"), ok8, by omega, by omega, fun H9 ns9 r9 hb e ok9 r90 r91 => ?_⟩
        have h9 := h8.but (.tl (.tl .hd)) hb e
        walk_at "gg"
        refine g_rI (by show (0 : Int) < (t : Int); omega) ?_
        walk_at "gg"
        have a0 : 0 ≤ (((t : Int) - 2 - (u : Int) - r9) % (t : Int)) := Int.emod_nonneg _ (by omega)
        have a1 : (((t : Int) - 2 - (u : Int) - r9) % (t : Int)) < t := Int.emod_lt_of_pos _ (by omega)
        generalize ((t : Int) - 2 - (u : Int) - r9) % (t : Int) = a at a0 a1
        obtain ⟨a, rfl⟩ := Int.eq_ofNat_of_zero_le a0
        refine g_notinM (g_notinFL (h9.get (List.Mem.head _)) rfl (flat_row _) ?_)
        rw [inV_row]
        walk_at "gg"
        refine i_n (fun m => ?_) (fun m => ?_)
        · walk_at "gg"
          refine g_append h9 .hd (szl (by unfold rowI; rw [List.length_map]; omega)) (fun H10 h10 => ?_)
          walk_at "gg"
          refine ⟨row ++ [a], ns9, _, _, rfl, by unfold rowI; rw [List.map_append]; exact h10, ok9, ?_, fun b hb => ?_, by rw [List.length_append]; show _ + 1 ≤ _; omega⟩
          · rw [List.nodup_append]
            refine ⟨nd, List.nodup_cons.mpr ⟨fun h => (by cases h), List.nodup_nil⟩, fun x hx y hy e => ?_⟩
            rw [List.mem_singleton.mp hy] at e
            exact m (e ▸ hx)
          · rcases List.mem_append.mp hb with hb | hb
            · exact lt b hb
            · rw [List.mem_singleton.mp hb]; omega
        · walk_at "gg"
          exact ⟨row, ns9, _, _, rfl, h9, ok9, nd, lt, by omega⟩
      · rintro σ H8 ⟨row, ns, y5, y6, rfl, h8, ok8, nd, lt, lr⟩
        exact key _ _ ⟨row, ns, _, _, rfl, h8, ok8, nd, lt, by omega⟩
    · walk_at "gg"
      exact key _ _ ⟨[], ns, _, _, rfl, h5, ok4, List.nodup_nil, fun a h => (by cases h), Nat.zero_le _⟩
  · rintro σ H4 ⟨F', us, web, ns, y3, y4, y5, y6, rfl, sF, h4, ok4, du, lw, wok⟩
    walk_at "gg"
    have h4' := h4.frz
    have s4 := h4.grow
    have fp : upd F' p (.lst us) p = some (.lst us) := upd_same
    generalize upd F' p (.lst us) = F5 at h4' s4 fp
    have du := du.up s4 _ _
    exact q p H4 F5 ns us web (s2.trans (sF.trans s4)) h4' ok4 fp du wok (by omega)
end

end K13

namespace K13
open PySem PySem.Spec PyProof.Rows L2 Qk
local macro_rules | `(tactic| walk_at "m") => `(tactic| ((repeat (first | exact List.Mem.head _ | apply List.Mem.tail)); done))
local macro_rules | `(tactic| walk_at "h") => `(tactic| first | assumption | exact Has.gF (by assumption) (by assumption) | exact Has.get (by assumption) (by walk_at "m"))
local macro_rules | `(tactic| walk_at "c") => `(tactic| ((repeat (first | exact Chg.hd | apply Chg.tl)); done))
local macro_rules | `(tactic| walk_at "is") => `(tactic| first
  | ((with_reducible refine' is2_non ?gh ?_); (case gh => walk_at "h"))
  | (with_reducible refine is_int_list ?_)
  | (with_reducible refine is_int_tuple ?_)
  | (with_reducible refine is_int_dict ?_)
  | (with_reducible refine is_int_int ?_)
  | (with_reducible refine is_int_bool ?_)
  | (with_reducible refine is_int_str ?_)
  | ((with_reducible refine' is2_int ?gh ?_); (case gh => walk_at "h"))
  | (with_reducible refine is_str_list ?_)
  | (with_reducible refine is_str_tuple ?_)
  | (with_reducible refine is_str_dict ?_)
  | (with_reducible refine is_str_int ?_)
  | (with_reducible refine is_str_bool ?_)
  | (with_reducible refine is_str_str ?_)
  | ((with_reducible refine' is2_str ?gh ?_); (case gh => walk_at "h"))
  | (with_reducible refine is_bool_list ?_)
  | (with_reducible refine is_bool_tuple ?_)
  | (with_reducible refine is_bool_dict ?_)
  | (with_reducible refine is_bool_int ?_)
  | (with_reducible refine is_bool_bool ?_)
  | (with_reducible refine is_bool_str ?_)
  | ((with_reducible refine' is2_bool ?gh ?_); (case gh => walk_at "h"))
  | ((with_reducible refine' is_list_list ?gh ?_); (case gh => walk_at "h"))
  | ((with_reducible refine' is_list_tuple ?gh ?_); (case gh => walk_at "h"))
  | ((with_reducible refine' is_list_dict ?gh ?_); (case gh => walk_at "h"))
  | ((with_reducible refine' is_list_int ?gh ?_); (case gh => walk_at "h"))
  | ((with_reducible refine' is_list_bool ?gh ?_); (case gh => walk_at "h"))
  | ((with_reducible refine' is_list_str ?gh ?_); (case gh => walk_at "h"))
  | ((with_reducible refine' is2_list ?ga ?gb ?_); (case ga => walk_at "h"); (case gb => walk_at "h"))
  | ((with_reducible refine' is_tuple_list ?gh ?_); (case gh => walk_at "h"))
  | ((with_reducible refine' is_tuple_tuple ?gh ?_); (case gh => walk_at "h"))
  | ((with_reducible refine' is_tuple_dict ?gh ?_); (case gh => walk_at "h"))
  | ((with_reducible refine' is_tuple_int ?gh ?_); (case gh => walk_at "h"))
  | ((with_reducible refine' is_tuple_bool ?gh ?_); (case gh => walk_at "h"))
  | ((with_reducible refine' is_tuple_str ?gh ?_); (case gh => walk_at "h"))
  | ((with_reducible refine' is2_tuple ?ga ?gb ?_); (case ga => walk_at "h"); (case gb => walk_at "h"))
  | ((with_reducible refine' is_dict_list ?gh ?_); (case gh => walk_at "h"))
  | ((with_reducible refine' is_dict_tuple ?gh ?_); (case gh => walk_at "h"))
  | ((with_reducible refine' is_dict_dict ?gh ?_); (case gh => walk_at "h"))
  | ((with_reducible refine' is_dict_int ?gh ?_); (case gh => walk_at "h"))
  | ((with_reducible refine' is_dict_bool ?gh ?_); (case gh => walk_at "h"))
  | ((with_reducible refine' is_dict_str ?gh ?_); (case gh => walk_at "h"))
  | ((with_reducible refine' is2_dict ?ga ?gb ?_); (case ga => walk_at "h"); (case gb => walk_at "h")))
local macro_rules | `(tactic| walk_at "g") => `(tactic| first
  | (with_reducible refine g_seq ?_)
  | (with_reducible refine g_asg ?_)
  | ((with_reducible refine g_name ?_); dsimp only [List.set, wipe, List.map])
  | ((with_reducible refine' g_var ?gv ?_); (case gv => exact rfl))
  | (with_reducible refine g_c ?_)
  | (with_reducible refine g_op ?_)
  | (with_reducible refine g_cons ?_)
  | (with_reducible refine g_nil ?_)
  | (with_reducible refine g_cb ?_)
  | (with_reducible refine g_call ?_)
  | (with_reducible refine g_tup ?_)
  | (with_reducible refine g_lst ?_)
  | (with_reducible refine g_bm ?_)
  | (with_reducible refine g_bm0 ?_)
  | ((with_reducible refine' g_kbm ?gh ?_); (case gh => walk_at "h"))
  | (with_reducible refine g_drop ?_)
  | (with_reducible refine g_ret ?_)
  | (with_reducible refine g_retN ?_)
  | (with_reducible refine g_next ?_)
  | (with_reducible refine g_brk ?_)
  | (with_reducible refine g_cont ?_)
  | (with_reducible refine g_if ?_)
  | ((with_reducible refine' g_aug ?gv ?_); (case gv => exact rfl))
  | (with_reducible refine g_ipI ?_)
  | (with_reducible refine g_test ?_)
  | (with_reducible refine g_tB ?_)
  | (with_reducible refine g_kB ?_)
  | (with_reducible refine g_not ?_)
  | (with_reducible refine g_and ?_)
  | (with_reducible refine g_or ?_)
  | (with_reducible refine g_andV ?_)
  | (with_reducible refine g_orV ?_)
  | (with_reducible refine g_notV ?_)
  | (with_reducible refine g_ifE ?_)
  | (with_reducible refine g_addI ?_)
  | (with_reducible refine g_rI0 ?_)
  | (with_reducible refine g_eqI ?_)
  | (with_reducible refine g_eqS ?_)
  | (with_reducible refine g_neI ?_)
  | (with_reducible refine g_neS ?_)
  | (with_reducible refine g_isN ?_)
  | (with_reducible refine g_notN ?_)
  | (with_reducible refine g_int ?_)
  | (with_reducible refine g_max2 ?_)
  | (with_reducible refine g_min2 ?_)
  | ((with_reducible refine' g_lenL ?gh ?_); (case gh => walk_at "h"))
  | (with_reducible refine g_sub ?_)
  | (with_reducible refine g_gcons ?_)
  | (with_reducible refine g_gnil ?_)
  | (with_reducible refine g_un ?_)
  | (with_reducible refine g_rU ?_)
  | (with_reducible refine g_forL ?_)
  | (with_reducible refine g_forS ?_)
  | (with_reducible refine g_forR1 ?_)
  | (with_reducible refine g_forR2 ?_)
  | (with_reducible refine g_forR3 ?_)
  | (with_reducible refine g_lcL ?_)
  | (with_reducible refine g_lcR1 ?_)
  | (with_reducible refine g_lcR2 ?_)
  | (with_reducible refine g_slice ?_)
  | (with_reducible refine g_part ?_)
  | (with_reducible refine g_kOI ?_)
  | (with_reducible refine g_nopart ?_)
  | (with_reducible refine g_yes ?_)
  | ((with_reducible refine' g_wipe ?gv ?_); (case gv => exact rfl))
  | (with_reducible refine iteT ?_)
  | (with_reducible refine iteF ?_)
  | (with_reducible refine i_nf ?_)
  | (with_reducible refine i_nt ?_)
  | ((with_reducible refine' g_gtup ?gh ?gl ?_); (case gh => walk_at "h"); (case gl => exact rfl))
  | ((with_reducible refine' g_notinI ?gh ?_); (case gh => walk_at "h"))
  | ((with_reducible refine' g_inI ?gh ?_); (case gh => walk_at "h"))
  | ((with_reducible refine' g_kget2 ?gh ?_); (case gh => walk_at "h"))
  | ((with_reducible refine' g_kgotI ?gh ?_); (case gh => walk_at "h"))
  | (with_reducible refine g_tRev ?_)
  | (with_reducible refine g_neB ?_)
  | (with_reducible refine g_eqB ?_)
  | ((with_reducible refine' g_lenT ?gh ?_); (case gh => walk_at "h"))
  | (with_reducible refine g_star ?_)
  | ((with_reducible refine' g_kstarL ?gh ?_); (case gh => walk_at "h"))
  | ((with_reducible refine' g_kstarT ?gh ?_); (case gh => walk_at "h"))
  | (with_reducible refine g_tru ?_)
  | ((with_reducible refine' g_truL ?gh ?_); (case gh => walk_at "h"))
  | (with_reducible refine g_get2 ?_)
  | (with_reducible refine g_try ?_)
  | (with_reducible refine g_fld ?_)
  | (with_reducible refine g_sfld ?_)
  | (with_reducible refine g_meth ?_)
  | (with_reducible refine g_make ?_)
  | (with_reducible refine g_del ?_)
  | (with_reducible refine g_callS ?_)
  | (with_reducible refine g_raise ?_)
  | (with_reducible refine g_xf ?_)
  | (with_reducible refine g_m0 ?_)
  | (with_reducible refine g_km0 ?_)
  | walk_at "is")
local macro_rules | `(tactic| walk_at "gg") => `(tactic| repeat walk_at "g")
local macro_rules | `(tactic| walk_at "sz") => `(tactic| (refine sz ?_; simp only [List.length_cons, List.length_nil, List.length_map, List.length_append, List.length_replicate]; omega))
local macro_rules | `(tactic| walk_at "sub") => `(tactic| ((repeat (first | exact List.Sublist.slnil | with_reducible apply List.Sublist.cons_cons | with_reducible apply List.Sublist.cons)); done))

/-! ### masks -/
structure MaskOk (web : List (List Nat)) (ms : List Nat) : Prop where
  len : ms.length = web.length
  bit : ∀ (i : Nat) (r : List Nat) (m : Nat), web[i]? = some r → ms[i]? = some m → ∀ k, m.testBit k = (decide (k = i) || r.any fun a => (ms.getD a 0).testBit k)
theorem MaskOk.self {web : List (List Nat)} {ms : List Nat} (h : MaskOk web ms) {i m : Nat} (e : ms[i]? = some m) : m.testBit i = true := by
  have hi : i < web.length := by rw [← h.len]; exact (List.getElem?_eq_some_iff.mp e).1
  rw [h.bit i _ m (List.getElem?_eq_getElem hi) e i]
  simp
theorem MaskOk.le {web : List (List Nat)} {ms : List Nat} (h : MaskOk web ms) (w : WebOk web) : ∀ (i m k : Nat), ms[i]? = some m → m.testBit k = true → k ≤ i := by
  intro i
  induction i using Nat.strongRecOn with
  | _ i ih =>
    intro m k e b
    have hi : i < web.length := by rw [← h.len]; exact (List.getElem?_eq_some_iff.mp e).1
    have er := List.getElem?_eq_getElem hi
    rw [h.bit i _ m er e k, Bool.or_eq_true] at b
    rcases b with b | b
    · have := of_decide_eq_true b; omega
    · obtain ⟨a, ha, hb⟩ := List.any_eq_true.mp b
      have la := (w.row i _ er).2.1 a ha
      have ham : a < ms.length := by rw [h.len]; omega
      have ea : ms[a]? = some ms[a] := List.getElem?_eq_getElem ham
      have : (ms.getD a 0) = ms[a] := by rw [List.getD_eq_getElem?_getD, ea]; rfl
      rw [this] at hb
      have := ih a la _ k ea hb
      omega
theorem orI {x y : Nat} : Builtin.bitOr (x : Int) (y : Int) = ((x ||| y : Nat) : Int) := by rw [Bits.bitOr_pp (by omega) (by omega)]; rfl
theorem xorI {x y : Nat} : Builtin.bitXor (x : Int) (y : Int) = ((x ^^^ y : Nat) : Int) := by rw [Bits.bitXor_pp (by omega) (by omega)]; rfl
theorem andI {x y : Nat} : Builtin.bitAnd (x : Int) (y : Int) = ((x &&& y : Nat) : Int) := by rw [bitAnd_pp (by omega) (by omega)]; rfl
theorem andI1 {x : Nat} : Builtin.bitAnd (x : Int) 1 = ((x &&& 1 : Nat) : Int) := andI (y := 1)
theorem shrI {x k : Nat} : ((x : Int) / 2 ^ ((k : Int).toNat)) = ((x >>> k : Nat) : Int) := by
  rw [Nat.shiftRight_eq_div_pow]
  push_cast
  rfl
theorem bit_and1 {x k : Nat} : (((x >>> k) &&& 1 : Nat) : Int) = 1 ↔ x.testBit k = true := by
  have e : x.testBit k = true ↔ 1 &&& (x >>> k) ≠ 0 := by
    unfold Nat.testBit
    exact bne_iff_ne
  have h2 : 1 &&& (x >>> k) = (x >>> k) &&& 1 := Nat.and_comm ..
  have hle : (x >>> k) &&& 1 ≤ 1 := Nat.and_le_right
  rw [e, h2]
  omega
theorem oneI {k : Nat} : (1 : Int) * 2 ^ ((k : Int).toNat) = ((2 ^ k : Nat) : Int) := by
  rw [Int.one_mul]
  push_cast
  rfl
theorem rowI_at {ms : List Nat} {k m : Nat} (h : ms[k]? = some m) : atI (rowI ms) (k : Int) = some (V.int (m : Int)) := atI_nat (by unfold rowI; rw [List.getElem?_map, h]; rfl)
/-- the bits of what _law_top gives -/
def Top (ms : List Nat) (mask j : Nat) : Prop := mask.testBit j = true ∧ ¬ ∃ (k m : Nat), ms[k]? = some m ∧ mask.testBit k = true ∧ m.testBit j = true ∧ k ≠ j
section
variable {P : Program} {w : World} {K : PySem.W.Frag} {mg : Str → Option Value} {base : Heap}
def sp_l_walked (T : Txt K mg) : Sp := fun vs H Q _ => ∃ (wb : Addr) (us : List V) (web : List (List Nat)), vs = [.ref wb] ∧ H wb = some (.lst us) ∧ DqAll H us (web.map rowD) ∧ WebOk web ∧ web.length ≤ 60 ∧
  ∀ p H' ms, Same H H' → H p = none → H' p = some (.lst (rowI ms)) → MaskOk web ms → Q (.ref p) H'
theorem sp_l_walked_len {T : Txt K mg} {vs H Q E} (h : sp_l_walked T vs H Q E) : vs.length = 1 := by
  obtain ⟨_, _, _, rfl, _⟩ := h
  rfl
theorem ok_l_walked (T : Txt K mg) : FnOk P w K mg base CX0 1 T.f_l_walked T.fd_l_walked ["web"] (sp_l_walked T) := by
  refine T.F_l_walked.ok sc_l_walked (fun vs H Q E h => sp_l_walked_len h) (fun cdv A outer s H vs Q E hr h => ?_)
  refine ⟨_, (pss_cons (ps_set (i := 1) sc_l_walked.nd rfl (.inl rfl) (pe_lst pa_nil))
      (pss_cons (ps_for PassesOwn.never rfl (pi_range1 rfl T.m_range (pa_cons (pe_callB (cr_lenK K) (by rfl) T.m_len (by decide +kernel) (pa_cons (pv 0) pa_nil)) pa_nil)) (pg_name (i := 2) sc_l_walked.nd rfl (.inl rfl)) (pss_cons (ps_set (i := 3) sc_l_walked.nd rfl (.inl rfl) (pe_op op_shl pe_int (pv 2)))
      (pss_cons (ps_for PassesOwn.never rfl (k_il K (pi_list (pe_ix (ix_K K (hu_of hr)) (pv 0) (pv 2) (fun _ _ => rfl)))) (pg_name (i := 4) sc_l_walked.nd rfl (.inl rfl)) (pss_one (ps_set (i := 3) sc_l_walked.nd rfl (.inl rfl) (pe_op op_or (pv 3) (pe_ix (ix_K K (hu_of hr)) (pv 1) (pv 4) (fun _ _ => rfl))))))
      (pss_one (ps_expr (k_bm K (pe_bm PySem.F.plainAttrs_list PySem.F.slot_list_append PySem.F.type_list_append mt_append (pv 1) (pa_cons (pv 3) pa_nil))))))))
      (pss_one (ps_ret (pv 1))))), ?_⟩
  obtain ⟨wb, us, web, rfl, hw, du, wok, lw, q⟩ := h
  have hH := Has.start H
  refine g_start (σ' := [some (.ref wb), none, none, none, none]) rfl ?_
  have lu : us.length = web.length := by rw [du.len, List.length_map]
  walk_at "gg"
  refine g_klst (by walk_at "sz") hH (fun p H1 n1 h1 => ?_)
  walk_at "gg"
  refine k_forR1 (fun t σ H' => ∃ (ms : List Nat) (y2 y3 y4 : Option V), σ = [some (.ref wb), some (.ref p), y2, y3, y4] ∧ Has H [(p, .lst (rowI ms))] H' ∧ MaskOk (web.take t) ms) (by omega) (by omega) ⟨[], _, _, _, rfl, h1, ⟨rfl, fun i r m e => by simp at e⟩⟩ ?_ ?_
  · rintro t σ H2 ht ⟨ms, y2, y3, y4, rfl, h2, mok⟩
    have ht : t < web.length := by omega
    have lm : ms.length = t := by rw [mok.len, List.length_take]; omega
    have er := List.getElem?_eq_getElem ht
    generalize hrow : web[t] = row at er
    have wr := wok.row t row er
    walk_at "gg"
    refine g_rI ⟨by omega, by omega, by decide⟩ ?_
    rw [oneI]
    walk_at "gg"
    have hu : t < us.length := by omega
    have eu := List.getElem?_eq_getElem hu
    generalize us[t] = v at eu
    obtain ⟨d', hd', dv⟩ := du.get eu
    rw [List.getElem?_map, er] at hd'
    injection hd' with hd'
    subst hd'
    obtain ⟨rw_, rfl, hrw⟩ := row_at dv
    refine g_ixL (v := .ref rw_) (h2.same _ _ hw) (atI_nat eu) ?_
    walk_at "gg"
    refine k_forL (h2.same _ _ hrw) (fun j σ H' => ∃ (m : Nat) (y4 : Option V), σ = [some (.ref wb), some (.ref p), some (.int (t : Int)), some (.int (m : Int)), y4] ∧ Has H [(p, .lst (rowI ms))] H' ∧ ∀ k, m.testBit k = (decide (k = t) || (row.take j).any fun a => (ms.getD a 0).testBit k)) ⟨2 ^ t, _, rfl, h2, fun k => by rw [Nat.testBit_two_pow]; simp [eq_comm]⟩ ?_ ?_ ?_
    · rintro j σ H' _ ⟨m, y4, rfl, h3, _⟩
      exact h3.same _ _ hrw
    · rintro j x σ H3 hx ⟨m, y4, rfl, h3, hb⟩
      unfold rowI at hx
      rw [List.getElem?_map] at hx
      obtain ⟨a, ha, rfl⟩ := Option.map_eq_some_iff.mp hx
      have la := wr.2.1 a (List.mem_of_getElem? ha)
      have ea : ms[a]? = some ms[a] := List.getElem?_eq_getElem (by omega)
      walk_at "gg"
      refine g_ixL (h3.get (List.Mem.head _)) (rowI_at ea) ?_
      walk_at "gg"
      rw [orI]
      refine ⟨m ||| ms[a], _, rfl, h3, fun k => ?_⟩
      have : (ms.getD a 0) = ms[a] := by rw [List.getD_eq_getElem?_getD, ea]; rfl
      rw [Nat.testBit_or, hb k, List.take_add_one, ha, List.any_append]
      simp only [Option.toList_some, List.any_cons, List.any_nil, Bool.or_false, this, Bool.or_assoc]
    · rintro σ H3 ⟨m, y4, rfl, h3, hb⟩
      unfold rowI at hb
      rw [List.length_map, List.take_length] at hb
      walk_at "gg"
      refine g_append h3 .hd (szl (by unfold rowI; rw [List.length_map]; omega)) (fun H4 h4 => ?_)
      walk_at "gg"
      refine ⟨ms ++ [m], _, _, _, rfl, by unfold rowI; rw [List.map_append]; exact h4, ⟨?_, fun i r m' e1 e2 k => ?_⟩⟩
      · rw [List.length_append, List.length_take]; show ms.length + 1 = _; omega
      · have ext : ∀ a, a < t → (ms ++ [m]).getD a 0 = ms.getD a 0 := fun a ha => by
          rw [List.getD_eq_getElem?_getD, List.getD_eq_getElem?_getD, List.getElem?_append_left (by omega)]
        have hit : i < t + 1 := by
          have := (List.getElem?_eq_some_iff.mp e1).1
          rw [List.length_take] at this
          omega
        rw [List.getElem?_take_of_lt hit] at e1
        have wr' := wok.row i r e1
        have any_ext : ∀ (hle : i ≤ t), (r.any fun a => ((ms ++ [m]).getD a 0).testBit k) = r.any fun a => (ms.getD a 0).testBit k := fun hle => by
          rw [Bool.eq_iff_iff, List.any_eq_true, List.any_eq_true]
          constructor
          · rintro ⟨a, ha, b⟩
            rw [ext a (by have := wr'.2.1 a ha; omega)] at b
            exact ⟨a, ha, b⟩
          · rintro ⟨a, ha, b⟩
            exact ⟨a, ha, by rw [ext a (by have := wr'.2.1 a ha; omega)]; exact b⟩
        rw [any_ext (by omega)]
        by_cases hi : i < t
        · rw [List.getElem?_append_left (by omega)] at e2
          exact mok.bit i r m' (by rw [List.getElem?_take_of_lt hi]; exact e1) e2 k
        · have hi : i = t := by omega
          subst hi
          rw [List.getElem?_append_right (by omega), show i - ms.length = 0 by omega] at e2
          have e2 : some m = some m' := e2
          injection e2 with e2
          subst e2
          rw [er] at e1
          injection e1 with e1
          subst e1
          exact hb k
  · rintro σ H2 ⟨ms, y2, y3, y4, rfl, h2, mok⟩
    walk_at "gg"
    refine q p H2 ms h2.same n1 (h2.get (List.Mem.head _)) ?_
    have e : ((us.length : Int)).toNat = web.length := by omega
    rw [e, List.take_length] at mok
    exact mok
def sp_l_among (T : Txt K mg) : Sp := fun vs H Q _ => ∃ (nm : Addr) (names : List Str) (mask : Nat), vs = [.ref nm, .int mask] ∧ H nm = some (.lst (names.map V.str)) ∧ names.Nodup ∧ names.length ≤ 60 ∧
  ∀ p H' us, Same H H' → H p = none → H' p = some (.lst (us.map V.str)) → Asc us → (∀ z, z ∈ us ↔ ∃ k, names[k]? = some z ∧ mask.testBit k = true) → Q (.ref p) H'
theorem sp_l_among_len {T : Txt K mg} {vs H Q E} (h : sp_l_among T vs H Q E) : vs.length = 2 := by
  obtain ⟨_, _, _, rfl, _⟩ := h
  rfl
theorem ok_l_among (T : Txt K mg) : FnOk P w K mg base CX0 1 T.f_l_among T.fd_l_among ["names", "mask"] (sp_l_among T) := by
  refine T.F_l_among.ok sc_l_among (fun vs H Q E h => sp_l_among_len h) (fun cdv A outer s H vs Q E hr h => ?_)
  refine ⟨_, (pss_cons (ps_setLc (i := 2) (own := [("k", 3)]) (g := gName 3) rfl sc_l_among.nd rfl rfl (sw_true rfl rfl rfl (by decide +kernel)) (pi_range1 rfl T.m_range (pa_cons (pe_callB (cr_lenK K) (by rfl) T.m_len (by decide +kernel) (pa_cons (pv 0) pa_nil)) pa_nil)) (blkOk_by (N := n_l_among) (sc := defScope s_l_among) (by decide +kernel)) (fun _ _ _ _ _ => (pg_name (i := 3) sc_l_among.nd rfl (.inl rfl))) (fun _ _ _ _ _ => (pts_one (pt_cmpR (op_eqK K hr.units) (pe_op op_and (pe_op op_shr (pv 1) (pv 3)) pe_int) pe_int (nomark _)))) (fun _ _ _ _ _ => (pe_ix (ix_K K (hu_of hr)) (pv 0) (pv 3) (fun _ _ => rfl))))
      (pss_one (ps_ret (pe_callB (cr_sortA K rfl) (by rfl) T.m_sorted (by decide +kernel) (pa_cons (pv 2) pa_nil))))), ?_⟩
  obtain ⟨nm, names, mask, rfl, hn, nd, ln, q⟩ := h
  have hH := Has.start H
  refine g_start (σ' := [some (.ref nm), some (.int mask), none, none]) rfl ?_
  walk_at "gg"
  rw [List.length_map]
  refine k_lcR1 (by omega) (by omega) hH (fun i acc F' O' => ∃ ys : List Str, acc = ys.map V.str ∧ ys.Nodup ∧ (∀ z, z ∈ ys ↔ ∃ k, k < i ∧ names[k]? = some z ∧ mask.testBit k = true) ∧ ys.length ≤ i ∧ F' = H ∧ O' = []) ⟨[], rfl, List.nodup_nil, fun z => by simp, Nat.le_refl _, rfl, rfl⟩ ?_ ?_
  · rintro i acc F' O' D H2 hi ⟨ys, rfl, ny, my, ly, rfl, rfl⟩ hh
    have hi : i < names.length := by omega
    have en := List.getElem?_eq_getElem hi
    generalize names[i] = z at en
    walk_at "gg"
    refine g_rI (by show (0 : Int) ≤ (i : Int); omega) ?_
    rw [shrI]
    walk_at "gg"
    rw [andI1]
    walk_at "gg"
    have ne : ∀ z', z' ∈ ys → z' ≠ z := fun z' hz' e => by
      obtain ⟨k, hk, ek, _⟩ := (my z').mp hz'
      rw [e] at ek
      have h1 := List.getElem?_eq_some_iff.mp ek
      have h2 := List.getElem?_eq_some_iff.mp en
      exact absurd (h1.2.trans h2.2.symm) (List.pairwise_iff_getElem.mp nd k i h1.1 h2.1 hk)
    refine i_d (fun b => ?_) (fun b => ?_)
    · have b := bit_and1.mp b
      walk_at "gg"
      refine g_ixL (v := .str z) (hh.same _ _ hn) (atI_nat (by rw [List.getElem?_map, en]; rfl)) ?_
      refine k_turn hh (by rw [List.length_map]; omega) ⟨ys ++ [z], by rw [List.map_append]; rfl, ?_, fun x => ?_, by rw [List.length_append]; show _ + 1 ≤ _; omega, rfl, rfl⟩
      · rw [List.nodup_append]
        refine ⟨ny, List.nodup_cons.mpr ⟨fun h => (by cases h), List.nodup_nil⟩, fun x hx y hy => ?_⟩
        rw [List.mem_singleton.mp hy]
        exact ne x hx
      · rw [List.mem_append, my x, List.mem_singleton]
        constructor
        · rintro (⟨k, hk, r⟩ | rfl)
          · exact ⟨k, by omega, r⟩
          · exact ⟨i, by omega, en, b⟩
        · rintro ⟨k, hk, ek, bk⟩
          by_cases h : k = i
          · subst h
            rw [en] at ek
            injection ek with ek
            exact .inr ek.symm
          · exact .inl ⟨k, by omega, ek, bk⟩
    · have b : ¬ mask.testBit i = true := fun h => b (bit_and1.mpr h)
      refine k_skip hh ⟨ys, rfl, ny, fun x => ?_, by omega, rfl, rfl⟩
      rw [my x]
      constructor
      · rintro ⟨k, hk, r⟩
        exact ⟨k, by omega, r⟩
      · rintro ⟨k, hk, ek, bk⟩
        by_cases h : k = i
        · subst h; exact (b bk).elim
        · exact ⟨k, by omega, ek, bk⟩
  rintro acc F' O' D H2 ⟨ys, rfl, ny, my, ly, rfl, rfl⟩ hh
  walk_at "gg"
  refine g_sortS (hh.get (List.Mem.head _)) (by omega) hh (fun us p H3 pm srt n3 h3 => ?_)
  refine q p H3 us h3.same (hh.same.free n3) (h3.get (List.Mem.head _)) (asc_of srt (pm.nodup_iff.mpr ny)) fun z => ?_
  rw [pm.mem_iff, my z]
  constructor
  · rintro ⟨k, _, r⟩
    exact ⟨k, r⟩
  · rintro ⟨k, ek, bk⟩
    exact ⟨k, by have := (List.getElem?_eq_some_iff.mp ek).1; omega, ek, bk⟩
end

end K13

namespace K13
open PySem PySem.Spec PyProof.Rows L2 Qk
local macro_rules | `(tactic| walk_at "m") => `(tactic| ((repeat (first | exact List.Mem.head _ | apply List.Mem.tail)); done))
local macro_rules | `(tactic| walk_at "h") => `(tactic| first | assumption | exact Has.gF (by assumption) (by assumption) | exact Has.get (by assumption) (by walk_at "m"))
local macro_rules | `(tactic| walk_at "c") => `(tactic| ((repeat (first | exact Chg.hd | apply Chg.tl)); done))
local macro_rules | `(tactic| walk_at "is") => `(tactic| first
  | ((with_reducible refine' is2_non ?gh ?_); (case gh => walk_at "h"))
  | (with_reducible refine is_int_list ?_)
  | (with_reducible refine is_int_tuple ?_)
  | (with_reducible refine is_int_dict ?_)
  | (with_reducible refine is_int_int ?_)
  | (with_reducible refine is_int_bool ?_)
  | (with_reducible refine is_int_str ?_)
  | ((with_reducible refine' is2_int ?gh ?_); (case gh => walk_at "h"))
  | (with_reducible refine is_str_list ?_)
  | (with_reducible refine is_str_tuple ?_)
  | (with_reducible refine is_str_dict ?_)
  | (with_reducible refine is_str_int ?_)
  | (with_reducible refine is_str_bool ?_)
  | (with_reducible refine is_str_str ?_)
  | ((with_reducible refine' is2_str ?gh ?_); (case gh => walk_at "h"))
  | (with_reducible refine is_bool_list ?_)
  | (with_reducible refine is_bool_tuple ?_)
  | (with_reducible refine is_bool_dict ?_)
  | (with_reducible refine is_bool_int ?_)
  | (with_reducible refine is_bool_bool ?_)
  | (with_reducible refine is_bool_str ?_)
  | ((with_reducible refine' is2_bool ?gh ?_); (case gh => walk_at "h"))
  | ((with_reducible refine' is_list_list ?gh ?_); (case gh => walk_at "h"))
  | ((with_reducible refine' is_list_tuple ?gh ?_); (case gh => walk_at "h"))
  | ((with_reducible refine' is_list_dict ?gh ?_); (case gh => walk_at "h"))
  | ((with_reducible refine' is_list_int ?gh ?_); (case gh => walk_at "h"))
  | ((with_reducible refine' is_list_bool ?gh ?_); (case gh => walk_at "h"))
  | ((with_reducible refine' is_list_str ?gh ?_); (case gh => walk_at "h"))
  | ((with_reducible refine' is2_list ?ga ?gb ?_); (case ga => walk_at "h"); (case gb => walk_at "h"))
  | ((with_reducible refine' is_tuple_list ?gh ?_); (case gh => walk_at "h"))
  | ((with_reducible refine' is_tuple_tuple ?gh ?_); (case gh => walk_at "h"))
  | ((with_reducible refine' is_tuple_dict ?gh ?_); (case gh => walk_at "h"))
  | ((with_reducible refine' is_tuple_int ?gh ?_); (case gh => walk_at "h"))
  | ((with_reducible refine' is_tuple_bool ?gh ?_); (case gh => walk_at "h"))
  | ((with_reducible refine' is_tuple_str ?gh ?_); (case gh => walk_at "h"))
  | ((with_reducible refine' is2_tuple ?ga ?gb ?_); (case ga => walk_at "h"); (case gb => walk_at "h"))
  | ((with_reducible refine' is_dict_list ?gh ?_); (case gh => walk_at "h"))
  | ((with_reducible refine' is_dict_tuple ?gh ?_); (case gh => walk_at "h"))
  | ((with_reducible refine' is_dict_dict ?gh ?_); (case gh => walk_at "h"))
  | ((with_reducible refine' is_dict_int ?gh ?_); (case gh => walk_at "h"))
  | ((with_reducible refine' is_dict_bool ?gh ?_); (case gh => walk_at "h"))
  | ((with_reducible refine' is_dict_str ?gh ?_); (case gh => walk_at "h"))
  | ((with_reducible refine' is2_dict ?ga ?gb ?_); (case ga => walk_at "h"); (case gb => walk_at "h")))
local macro_rules | `(tactic| walk_at "g") => `(tactic| first
  | (with_reducible refine g_seq ?_)
  | (with_reducible refine g_asg ?_)
  | ((with_reducible refine g_name ?_); dsimp only [List.set, wipe, List.map])
  | ((with_reducible refine' g_var ?gv ?_); (case gv => exact rfl))
  | (with_reducible refine g_c ?_)
  | (with_reducible refine g_op ?_)
  | (with_reducible refine g_cons ?_)
  | (with_reducible refine g_nil ?_)
  | (with_reducible refine g_cb ?_)
  | (with_reducible refine g_call ?_)
  | (with_reducible refine g_tup ?_)
  | (with_reducible refine g_lst ?_)
  | (with_reducible refine g_bm ?_)
  | (with_reducible refine g_bm0 ?_)
  | ((with_reducible refine' g_kbm ?gh ?_); (case gh => walk_at "h"))
  | (with_reducible refine g_drop ?_)
  | (with_reducible refine g_ret ?_)
  | (with_reducible refine g_retN ?_)
  | (with_reducible refine g_next ?_)
  | (with_reducible refine g_brk ?_)
  | (with_reducible refine g_cont ?_)
  | (with_reducible refine g_if ?_)
  | ((with_reducible refine' g_aug ?gv ?_); (case gv => exact rfl))
  | (with_reducible refine g_ipI ?_)
  | (with_reducible refine g_test ?_)
  | (with_reducible refine g_tB ?_)
  | (with_reducible refine g_kB ?_)
  | (with_reducible refine g_not ?_)
  | (with_reducible refine g_and ?_)
  | (with_reducible refine g_or ?_)
  | (with_reducible refine g_andV ?_)
  | (with_reducible refine g_orV ?_)
  | (with_reducible refine g_notV ?_)
  | (with_reducible refine g_ifE ?_)
  | (with_reducible refine g_addI ?_)
  | (with_reducible refine g_rI0 ?_)
  | (with_reducible refine g_eqI ?_)
  | (with_reducible refine g_eqS ?_)
  | (with_reducible refine g_neI ?_)
  | (with_reducible refine g_neS ?_)
  | (with_reducible refine g_isN ?_)
  | (with_reducible refine g_notN ?_)
  | (with_reducible refine g_int ?_)
  | (with_reducible refine g_max2 ?_)
  | (with_reducible refine g_min2 ?_)
  | ((with_reducible refine' g_lenL ?gh ?_); (case gh => walk_at "h"))
  | (with_reducible refine g_sub ?_)
  | (with_reducible refine g_gcons ?_)
  | (with_reducible refine g_gnil ?_)
  | (with_reducible refine g_un ?_)
  | (with_reducible refine g_rU ?_)
  | (with_reducible refine g_forL ?_)
  | (with_reducible refine g_forS ?_)
  | (with_reducible refine g_forR1 ?_)
  | (with_reducible refine g_forR2 ?_)
  | (with_reducible refine g_forR3 ?_)
  | (with_reducible refine g_lcL ?_)
  | (with_reducible refine g_lcR1 ?_)
  | (with_reducible refine g_lcR2 ?_)
  | (with_reducible refine g_slice ?_)
  | (with_reducible refine g_part ?_)
  | (with_reducible refine g_kOI ?_)
  | (with_reducible refine g_nopart ?_)
  | (with_reducible refine g_yes ?_)
  | ((with_reducible refine' g_wipe ?gv ?_); (case gv => exact rfl))
  | (with_reducible refine iteT ?_)
  | (with_reducible refine iteF ?_)
  | (with_reducible refine i_nf ?_)
  | (with_reducible refine i_nt ?_)
  | ((with_reducible refine' g_gtup ?gh ?gl ?_); (case gh => walk_at "h"); (case gl => exact rfl))
  | ((with_reducible refine' g_notinI ?gh ?_); (case gh => walk_at "h"))
  | ((with_reducible refine' g_inI ?gh ?_); (case gh => walk_at "h"))
  | ((with_reducible refine' g_kget2 ?gh ?_); (case gh => walk_at "h"))
  | ((with_reducible refine' g_kgotI ?gh ?_); (case gh => walk_at "h"))
  | (with_reducible refine g_tRev ?_)
  | (with_reducible refine g_neB ?_)
  | (with_reducible refine g_eqB ?_)
  | ((with_reducible refine' g_lenT ?gh ?_); (case gh => walk_at "h"))
  | (with_reducible refine g_star ?_)
  | ((with_reducible refine' g_kstarL ?gh ?_); (case gh => walk_at "h"))
  | ((with_reducible refine' g_kstarT ?gh ?_); (case gh => walk_at "h"))
  | (with_reducible refine g_tru ?_)
  | ((with_reducible refine' g_truL ?gh ?_); (case gh => walk_at "h"))
  | (with_reducible refine g_get2 ?_)
  | (with_reducible refine g_try ?_)
  | (with_reducible refine g_fld ?_)
  | (with_reducible refine g_sfld ?_)
  | (with_reducible refine g_meth ?_)
  | (with_reducible refine g_make ?_)
  | (with_reducible refine g_del ?_)
  | (with_reducible refine g_callS ?_)
  | (with_reducible refine g_raise ?_)
  | (with_reducible refine g_xf ?_)
  | (with_reducible refine g_m0 ?_)
  | (with_reducible refine g_km0 ?_)
  | walk_at "is")
local macro_rules | `(tactic| walk_at "gg") => `(tactic| repeat walk_at "g")
local macro_rules | `(tactic| walk_at "sz") => `(tactic| (refine sz ?_; simp only [List.length_cons, List.length_nil, List.length_map, List.length_append, List.length_replicate]; omega))
local macro_rules | `(tactic| walk_at "sub") => `(tactic| ((repeat (first | exact List.Sublist.slnil | with_reducible apply List.Sublist.cons_cons | with_reducible apply List.Sublist.cons)); done))

def okL (xs : List Str) : Prop := ∀ z ∈ xs, PyData.strOk z = true
/-! ### what an order of a law's web shows -/
structure Rel (names : List Str) (ms : List Nat) (n : Nat) (rows : List URow) : Prop where
  nms : rows.map (·.1) = names.take n
  und : ∀ (j : Nat) (z : Str) (m : Nat), j < n → names[j]? = some z → ms[j]? = some m → ∃ u, undr rows z = some u ∧ ∀ y, y ∈ u ↔ ∃ k, names[k]? = some y ∧ m.testBit k = true
/-- the names of a mask's bits -/
def NmB (names : List Str) (mask : Nat) (y : Str) : Prop := ∃ k, names[k]? = some y ∧ mask.testBit k = true
theorem at_inj {names : List Str} (nd : names.Nodup) {i j : Nat} {z : Str} (h1 : names[i]? = some z) (h2 : names[j]? = some z) : i = j := by
  have a := List.getElem?_eq_some_iff.mp h1
  have b := List.getElem?_eq_some_iff.mp h2
  rcases Nat.lt_trichotomy i j with h | h | h
  · exact absurd (a.2.trans b.2.symm) (List.pairwise_iff_getElem.mp nd i j a.1 b.1 h)
  · exact h
  · exact absurd (b.2.trans a.2.symm) (List.pairwise_iff_getElem.mp nd j i b.1 a.1 h)
theorem chkE_none {kn : Str → Bool} : ∀ {xs seen : List Str}, (∀ z ∈ xs, kn z = true) → xs.Nodup → (∀ z ∈ xs, z ∉ seen) → chkE kn seen xs = none
  | [], _, _, _, _ => rfl
  | x :: r, seen, hk, n, hs => by
    show (if kn x = true then if x ∈ seen then some (false, x) else chkE kn (seen ++ [x]) r else some (true, x)) = none
    rw [if_pos (hk x List.mem_cons_self), if_neg (hs x List.mem_cons_self)]
    have n := List.nodup_cons.mp n
    refine chkE_none (fun z hz => hk z (List.mem_cons_of_mem _ hz)) n.2 fun z hz hm => ?_
    rcases List.mem_append.mp hm with hm | hm
    · exact hs z (List.mem_cons_of_mem _ hz) hm
    · rw [List.mem_singleton.mp hm] at hz
      exact n.1 hz
theorem kn_mem {rows : List URow} {z : Str} : kn rows z = true ↔ z ∈ rows.map (·.1) := by
  unfold kn
  rw [undr_known, decide_eq_true_eq]
theorem ne_lists {K : PySem.W.Frag} {H : Hp} {a b : Addr} {xs : List Str} {Q : VK} (ha : H a = some (.lst (xs.map V.str))) (hb : H b = some (.lst (xs.map V.str))) (ok : okL xs) (q : Q (.bl false) H) : rNeA K (.ref a) (.ref b) H Q := by
  refine g_neD (Dq.strs (xs := xs) ha) (Dq.strs (xs := xs) hb) ((Sh.strs (n := 0) ok).ok (by decide)) ((Sh.strs (n := 0) ok).ok (by decide)) ?_
  rw [eqv_strs, decide_eq_true rfl]
  exact q
theorem rel_empty {names : List Str} {ms : List Nat} : Rel names ms 0 [] := ⟨by simp, fun j z m h => absurd h (Nat.not_lt_zero _)⟩
theorem Rel.fresh {names : List Str} {ms : List Nat} {t : Nat} {rows : List URow} {x : Str} (R : Rel names ms t rows) (nd : names.Nodup) (ex : names[t]? = some x) : undr rows x = none := by
  have k := undr_known (rows := rows) (x := x)
  cases e : undr rows x with
  | none => rfl
  | some u =>
    rw [e] at k
    have m := of_decide_eq_true k.symm
    rw [R.nms] at m
    obtain ⟨a, ha⟩ := List.mem_iff_getElem?.mp m
    have hlt : a < t := by
      have := (List.getElem?_eq_some_iff.mp ha).1
      rw [List.length_take] at this
      omega
    rw [List.getElem?_take_of_lt hlt] at ha
    have := at_inj nd ha ex
    omega
theorem rel_step {names : List Str} {web : List (List Nat)} {ms : List Nat} {t : Nat} {rows : List URow} {x : Str} {r : List Nat} {ps us : List Str} (R : Rel names ms t rows) (nd : names.Nodup) (wok : WebOk web) (mok : MaskOk web ms) (ex : names[t]? = some x) (er : web[t]? = some r)
    (pu : PutU rows x ps us) (eps : ∀ p, p ∈ ps ↔ ∃ a ∈ r, names[a]? = some p) : Rel names ms (t + 1) (rows ++ [(x, us)]) := by
  have fr := R.fresh nd ex
  have ht : t < web.length := (List.getElem?_eq_some_iff.mp er).1
  refine ⟨?_, fun j z m hj ez em => ?_⟩
  · rw [List.map_append, R.nms, List.take_add_one, ex]
    rfl
  by_cases h : j < t
  · obtain ⟨u, eu, mu⟩ := R.und j z m h ez em
    exact ⟨u, by rw [undr_app, eu]; rfl, mu⟩
  · have h : j = t := by omega
    subst h
    rw [ex] at ez
    injection ez with ez
    subst ez
    refine ⟨us, by rw [undr_app, fr]; simp, fun y => ?_⟩
    rw [pu.2 y]
    have bt := mok.bit j r m er em
    constructor
    · rintro (rfl | ⟨p, hp, v, ev, hy⟩)
      · exact ⟨j, ex, by rw [bt j]; simp⟩
      · obtain ⟨a, ha, ea⟩ := (eps p).mp hp
        have la := (wok.row j r er).2.1 a ha
        have hm : a < ms.length := by rw [mok.len]; omega
        have em' : ms[a]? = some ms[a] := List.getElem?_eq_getElem hm
        obtain ⟨v', ev', mv⟩ := R.und a p _ la ea em'
        rw [ev] at ev'
        injection ev' with ev'
        subst ev'
        obtain ⟨k, ek, bk⟩ := (mv y).mp hy
        refine ⟨k, ek, ?_⟩
        rw [bt k, Bool.or_eq_true]
        refine .inr (List.any_eq_true.mpr ⟨a, ha, ?_⟩)
        rw [List.getD_eq_getElem?_getD, em']
        exact bk
    · rintro ⟨k, ek, bk⟩
      rw [bt k, Bool.or_eq_true] at bk
      rcases bk with bk | bk
      · have := of_decide_eq_true bk
        subst this
        rw [ex] at ek
        injection ek with ek
        exact .inl ek.symm
      · obtain ⟨a, ha, b⟩ := List.any_eq_true.mp bk
        have la := (wok.row j r er).2.1 a ha
        have hm : a < ms.length := by rw [mok.len]; omega
        have em' : ms[a]? = some ms[a] := List.getElem?_eq_getElem hm
        rw [List.getD_eq_getElem?_getD, em'] at b
        have hl : a < names.length := by
          have := (List.getElem?_eq_some_iff.mp ex).1
          omega
        have ea : names[a]? = some names[a] := List.getElem?_eq_getElem hl
        obtain ⟨v, ev, mv⟩ := R.und a _ _ la ea em'
        exact .inr ⟨_, (eps _).mpr ⟨a, ha, ea⟩, v, ev, (mv y).mpr ⟨k, ek, b⟩⟩
/-- a web without parents -/
def noWeb (n : Nat) : List (List Nat) := List.replicate n []
def noMs (n : Nat) : List Nat := (List.range n).map (2 ^ ·)
theorem noWeb_ok (n : Nat) : WebOk (noWeb n) := ⟨fun i r e => by
  unfold noWeb at e
  rw [List.getElem?_replicate] at e
  split at e
  · injection e with e
    subst e
    exact ⟨List.nodup_nil, fun a h => (by cases h), Nat.zero_le _⟩
  · cases e⟩
theorem noMs_at {n i : Nat} (h : i < n) : (noMs n)[i]? = some (2 ^ i) := by
  unfold noMs
  rw [List.getElem?_map, List.getElem?_range h]
  rfl
theorem noMs_ok (n : Nat) : MaskOk (noWeb n) (noMs n) := ⟨by simp [noMs, noWeb], fun i r m e em k => by
  unfold noWeb at e
  rw [List.getElem?_replicate] at e
  split at e
  · rename_i h
    injection e with e
    subst e
    rw [noMs_at h] at em
    injection em with em
    subst em
    rw [Nat.testBit_two_pow]
    simp [eq_comm]
  · cases e⟩
structure OA where
  a : Addr
  x : Addr
  d : Addr
section
variable {P : Program} {w : World} {K : PySem.W.Frag} {mg : Str → Option Value} {base : Heap}
def StO (T : Txt K mg) (A B : OA) (F H : Hp) (rows rows2 : List URow) : Prop := ∃ nl kvs nl2 kvs2, Has F (OrdO T A.a A.x A.d nl kvs ++ OrdO T B.a B.x B.d nl2 kvs2) H ∧ OrdOk F nl kvs rows ∧ OrdOk F nl2 kvs2 rows2
variable {T : Txt K mg} {A B : OA} {F H H' : Hp} {rows rows2 : List URow} {Q : VK} {E : XK}
theorem StO.swap (st : StO T A B F H rows rows2) : StO T B A F H rows2 rows := by
  obtain ⟨nl, kvs, nl2, kvs2, h, ok, ok2⟩ := st
  exact ⟨nl2, kvs2, nl, kvs, h.perm List.perm_append_comm, ok2, ok⟩
theorem StO.on (st : StO T A B F H rows rows2) (s : Same H H') : StO T A B F H' rows rows2 := by
  obtain ⟨nl, kvs, nl2, kvs2, h, ok, ok2⟩ := st
  exact ⟨nl, kvs, nl2, kvs2, h.on s, ok, ok2⟩
theorem StO.same (st : StO T A B F H rows rows2) : Same F H := by
  obtain ⟨nl, kvs, nl2, kvs2, h, ok, ok2⟩ := st
  exact h.same
theorem StO.ord (st : StO T A B F H rows rows2) : Ord T H A.a rows := by
  obtain ⟨nl, kvs, nl2, kvs2, h, ok, ok2⟩ := st
  exact ⟨A.x, A.d, nl, kvs, ⟨h.get (by unfold OrdO; walk_at "m"), h.get (by unfold OrdO; walk_at "m")⟩, ok.mono h.same⟩
theorem StO.ins (st : StO T A B F H rows rows2) : ∃ nl, H A.a = some (.ins T.C_Order A.x (of_ nl A.d)) := by
  obtain ⟨nl, kvs, nl2, kvs2, h, ok, ok2⟩ := st
  exact ⟨nl, h.get (by unfold OrdO; walk_at "m")⟩
theorem StO.lst {xs : List V} (st : StO T A B F H rows rows2) (hl : xs.length ≤ 100000) (q : ∀ p H' F', Same F F' → F' p = some (.lst xs) → StO T A B F' H' rows rows2 → Q (.ref p) H') : kLst xs H Q := by
  obtain ⟨nl, kvs, nl2, kvs2, h, ok, ok2⟩ := st
  exact g_klstF (sz hl) h fun p H' F' n s f h' => q p H' F' s f ⟨nl, kvs, nl2, kvs2, h', ok.mono s, ok2.mono s⟩
end
theorem strOk_app {a b : Str} (ha : PyData.strOk a = true) (hb : PyData.strOk b = true) : PyData.strOk (a ++ b) = true := by
  have e : (a ++ b).cps = a.cps ++ b.cps := rfl
  unfold PyData.strOk at *
  rw [e, Array.all_append, ha, hb]
  rfl
/-- what an order shows -/
structure OwnR (names : List Str) (ms : List Nat) (rows : List URow) : Prop where
  le : ms.length ≤ names.length
  few : names.length ≤ 60
  nd : names.Nodup
  ok : okL names
  knw : ∀ z, kn rows z = true ↔ ∃ j, j < ms.length ∧ names[j]? = some z
  und : ∀ (j : Nat) (z : Str) (m : Nat), names[j]? = some z → ms[j]? = some m → ∃ u, undr rows z = some u ∧ ∀ y, y ∈ u ↔ ∃ k, names[k]? = some y ∧ m.testBit k = true
theorem Rel.own {names : List Str} {ms : List Nat} {n : Nat} {rows : List URow} (R : Rel names ms n rows) (hn : n ≤ ms.length) (hl : n ≤ names.length) (few : names.length ≤ 60) (nd : names.Nodup) (ok : okL names) : OwnR names (ms.take n) rows where
  le := by rw [List.length_take]; omega
  few := few
  nd := nd
  ok := ok
  knw := fun z => by
    rw [kn_mem, R.nms, List.mem_iff_getElem?, List.length_take]
    constructor
    · rintro ⟨j, e⟩
      have lj := (List.getElem?_eq_some_iff.mp e).1
      rw [List.length_take] at lj
      rw [List.getElem?_take_of_lt (by omega)] at e
      exact ⟨j, by omega, e⟩
    · rintro ⟨j, lj, e⟩
      exact ⟨j, by rw [List.getElem?_take_of_lt (by omega)]; exact e⟩
  und := fun j z m ez em => by
    have lj := (List.getElem?_eq_some_iff.mp em).1
    rw [List.length_take] at lj
    rw [List.getElem?_take_of_lt (by omega)] at em
    exact R.und j z m (by omega) ez em
theorem OwnR.kn {names : List Str} {ms : List Nat} {rows : List URow} (o : OwnR names ms rows) {i : Nat} {x : Str} (e : names[i]? = some x) : K13.kn rows x = decide (i < ms.length) := by
  rw [Bool.eq_iff_iff, o.knw, decide_eq_true_eq]
  constructor
  · rintro ⟨j, sj, ej⟩
    rw [← at_inj o.nd ej e]
    exact sj
  · exact fun h => ⟨i, h, e⟩
theorem nmb_okS {names us : List Str} {m : Nat} (ok : okL names) (h : ∀ z, z ∈ us ↔ ∃ k, names[k]? = some z ∧ m.testBit k = true) : okL us := fun z hz => by
  obtain ⟨j, ej, _⟩ := (h z).mp hz
  exact ok z (List.mem_of_getElem? ej)

end K13

namespace K13
open PySem PySem.Spec PyProof.Rows L2 Qk
local macro_rules | `(tactic| walk_at "m") => `(tactic| ((repeat (first | exact List.Mem.head _ | apply List.Mem.tail)); done))
local macro_rules | `(tactic| walk_at "h") => `(tactic| first | assumption | exact Has.gF (by assumption) (by assumption) | exact Has.get (by assumption) (by walk_at "m"))
local macro_rules | `(tactic| walk_at "c") => `(tactic| ((repeat (first | exact Chg.hd | apply Chg.tl)); done))
local macro_rules | `(tactic| walk_at "is") => `(tactic| first
  | ((with_reducible refine' is2_non ?gh ?_); (case gh => walk_at "h"))
  | (with_reducible refine is_int_list ?_)
  | (with_reducible refine is_int_tuple ?_)
  | (with_reducible refine is_int_dict ?_)
  | (with_reducible refine is_int_int ?_)
  | (with_reducible refine is_int_bool ?_)
  | (with_reducible refine is_int_str ?_)
  | ((with_reducible refine' is2_int ?gh ?_); (case gh => walk_at "h"))
  | (with_reducible refine is_str_list ?_)
  | (with_reducible refine is_str_tuple ?_)
  | (with_reducible refine is_str_dict ?_)
  | (with_reducible refine is_str_int ?_)
  | (with_reducible refine is_str_bool ?_)
  | (with_reducible refine is_str_str ?_)
  | ((with_reducible refine' is2_str ?gh ?_); (case gh => walk_at "h"))
  | (with_reducible refine is_bool_list ?_)
  | (with_reducible refine is_bool_tuple ?_)
  | (with_reducible refine is_bool_dict ?_)
  | (with_reducible refine is_bool_int ?_)
  | (with_reducible refine is_bool_bool ?_)
  | (with_reducible refine is_bool_str ?_)
  | ((with_reducible refine' is2_bool ?gh ?_); (case gh => walk_at "h"))
  | ((with_reducible refine' is_list_list ?gh ?_); (case gh => walk_at "h"))
  | ((with_reducible refine' is_list_tuple ?gh ?_); (case gh => walk_at "h"))
  | ((with_reducible refine' is_list_dict ?gh ?_); (case gh => walk_at "h"))
  | ((with_reducible refine' is_list_int ?gh ?_); (case gh => walk_at "h"))
  | ((with_reducible refine' is_list_bool ?gh ?_); (case gh => walk_at "h"))
  | ((with_reducible refine' is_list_str ?gh ?_); (case gh => walk_at "h"))
  | ((with_reducible refine' is2_list ?ga ?gb ?_); (case ga => walk_at "h"); (case gb => walk_at "h"))
  | ((with_reducible refine' is_tuple_list ?gh ?_); (case gh => walk_at "h"))
  | ((with_reducible refine' is_tuple_tuple ?gh ?_); (case gh => walk_at "h"))
  | ((with_reducible refine' is_tuple_dict ?gh ?_); (case gh => walk_at "h"))
  | ((with_reducible refine' is_tuple_int ?gh ?_); (case gh => walk_at "h"))
  | ((with_reducible refine' is_tuple_bool ?gh ?_); (case gh => walk_at "h"))
  | ((with_reducible refine' is_tuple_str ?gh ?_); (case gh => walk_at "h"))
  | ((with_reducible refine' is2_tuple ?ga ?gb ?_); (case ga => walk_at "h"); (case gb => walk_at "h"))
  | ((with_reducible refine' is_dict_list ?gh ?_); (case gh => walk_at "h"))
  | ((with_reducible refine' is_dict_tuple ?gh ?_); (case gh => walk_at "h"))
  | ((with_reducible refine' is_dict_dict ?gh ?_); (case gh => walk_at "h"))
  | ((with_reducible refine' is_dict_int ?gh ?_); (case gh => walk_at "h"))
  | ((with_reducible refine' is_dict_bool ?gh ?_); (case gh => walk_at "h"))
  | ((with_reducible refine' is_dict_str ?gh ?_); (case gh => walk_at "h"))
  | ((with_reducible refine' is2_dict ?ga ?gb ?_); (case ga => walk_at "h"); (case gb => walk_at "h")))
local macro_rules | `(tactic| walk_at "g") => `(tactic| first
  | (with_reducible refine g_seq ?_)
  | (with_reducible refine g_asg ?_)
  | ((with_reducible refine g_name ?_); dsimp only [List.set, wipe, List.map])
  | ((with_reducible refine' g_var ?gv ?_); (case gv => exact rfl))
  | (with_reducible refine g_c ?_)
  | (with_reducible refine g_op ?_)
  | (with_reducible refine g_cons ?_)
  | (with_reducible refine g_nil ?_)
  | (with_reducible refine g_cb ?_)
  | (with_reducible refine g_call ?_)
  | (with_reducible refine g_tup ?_)
  | (with_reducible refine g_lst ?_)
  | (with_reducible refine g_bm ?_)
  | (with_reducible refine g_bm0 ?_)
  | ((with_reducible refine' g_kbm ?gh ?_); (case gh => walk_at "h"))
  | (with_reducible refine g_drop ?_)
  | (with_reducible refine g_ret ?_)
  | (with_reducible refine g_retN ?_)
  | (with_reducible refine g_next ?_)
  | (with_reducible refine g_brk ?_)
  | (with_reducible refine g_cont ?_)
  | (with_reducible refine g_if ?_)
  | ((with_reducible refine' g_aug ?gv ?_); (case gv => exact rfl))
  | (with_reducible refine g_ipI ?_)
  | (with_reducible refine g_test ?_)
  | (with_reducible refine g_tB ?_)
  | (with_reducible refine g_kB ?_)
  | (with_reducible refine g_not ?_)
  | (with_reducible refine g_and ?_)
  | (with_reducible refine g_or ?_)
  | (with_reducible refine g_andV ?_)
  | (with_reducible refine g_orV ?_)
  | (with_reducible refine g_notV ?_)
  | (with_reducible refine g_ifE ?_)
  | (with_reducible refine g_addI ?_)
  | (with_reducible refine g_rI0 ?_)
  | (with_reducible refine g_eqI ?_)
  | (with_reducible refine g_eqS ?_)
  | (with_reducible refine g_neI ?_)
  | (with_reducible refine g_neS ?_)
  | (with_reducible refine g_isN ?_)
  | (with_reducible refine g_notN ?_)
  | (with_reducible refine g_int ?_)
  | (with_reducible refine g_max2 ?_)
  | (with_reducible refine g_min2 ?_)
  | ((with_reducible refine' g_lenL ?gh ?_); (case gh => walk_at "h"))
  | (with_reducible refine g_sub ?_)
  | (with_reducible refine g_gcons ?_)
  | (with_reducible refine g_gnil ?_)
  | (with_reducible refine g_un ?_)
  | (with_reducible refine g_rU ?_)
  | (with_reducible refine g_forL ?_)
  | (with_reducible refine g_forS ?_)
  | (with_reducible refine g_forR1 ?_)
  | (with_reducible refine g_forR2 ?_)
  | (with_reducible refine g_forR3 ?_)
  | (with_reducible refine g_lcL ?_)
  | (with_reducible refine g_lcR1 ?_)
  | (with_reducible refine g_lcR2 ?_)
  | (with_reducible refine g_slice ?_)
  | (with_reducible refine g_part ?_)
  | (with_reducible refine g_kOI ?_)
  | (with_reducible refine g_nopart ?_)
  | (with_reducible refine g_yes ?_)
  | ((with_reducible refine' g_wipe ?gv ?_); (case gv => exact rfl))
  | (with_reducible refine iteT ?_)
  | (with_reducible refine iteF ?_)
  | (with_reducible refine i_nf ?_)
  | (with_reducible refine i_nt ?_)
  | ((with_reducible refine' g_gtup ?gh ?gl ?_); (case gh => walk_at "h"); (case gl => exact rfl))
  | ((with_reducible refine' g_notinI ?gh ?_); (case gh => walk_at "h"))
  | ((with_reducible refine' g_inI ?gh ?_); (case gh => walk_at "h"))
  | ((with_reducible refine' g_kget2 ?gh ?_); (case gh => walk_at "h"))
  | ((with_reducible refine' g_kgotI ?gh ?_); (case gh => walk_at "h"))
  | (with_reducible refine g_tRev ?_)
  | (with_reducible refine g_neB ?_)
  | (with_reducible refine g_eqB ?_)
  | ((with_reducible refine' g_lenT ?gh ?_); (case gh => walk_at "h"))
  | (with_reducible refine g_star ?_)
  | ((with_reducible refine' g_kstarL ?gh ?_); (case gh => walk_at "h"))
  | ((with_reducible refine' g_kstarT ?gh ?_); (case gh => walk_at "h"))
  | (with_reducible refine g_tru ?_)
  | ((with_reducible refine' g_truL ?gh ?_); (case gh => walk_at "h"))
  | (with_reducible refine g_get2 ?_)
  | (with_reducible refine g_try ?_)
  | (with_reducible refine g_fld ?_)
  | (with_reducible refine g_sfld ?_)
  | (with_reducible refine g_meth ?_)
  | (with_reducible refine g_make ?_)
  | (with_reducible refine g_del ?_)
  | (with_reducible refine g_callS ?_)
  | (with_reducible refine g_raise ?_)
  | (with_reducible refine g_xf ?_)
  | (with_reducible refine g_m0 ?_)
  | (with_reducible refine g_km0 ?_)
  | walk_at "is")
local macro_rules | `(tactic| walk_at "gg") => `(tactic| repeat walk_at "g")
local macro_rules | `(tactic| walk_at "sz") => `(tactic| (refine sz ?_; simp only [List.length_cons, List.length_nil, List.length_map, List.length_append, List.length_replicate]; omega))
local macro_rules | `(tactic| walk_at "sub") => `(tactic| ((repeat (first | exact List.Sublist.slnil | with_reducible apply List.Sublist.cons_cons | with_reducible apply List.Sublist.cons)); done))

local macro_rules | `(tactic| walk_at "g") => `(tactic| first
  | (with_reducible refine g_dcL ?_)
  | (with_reducible refine g_dcT ?_)
  | (with_reducible refine g_m1s ?_)
  | (with_reducible refine g_km1s ?_)
  | (with_reducible refine g_starts ?_)
  | (with_reducible refine g_tryX ?_)
  | (with_reducible refine g_lcS ?_))

/-! ### strings -/
theorem cutS_one {z : Str} {c : Nat} (h : z.cps[0]? = some c) : cutS z none (some ((1 : Nat) : Int)) = ⟨#[c]⟩ := by
  have e : kk (cutS z none (some ((1 : Nat) : Int))) = (kk z).take 1 := by
    show ((z.cps.toList.drop (HT.sIx z.length 0 none)).take (HT.sIx z.length z.length (some ((1 : Nat) : Int)) - HT.sIx z.length 0 none)) = _
    rw [HT.sIx_none, HT.sIx_nat, List.drop_zero, Nat.sub_zero]
    have l1 : 1 ≤ z.length := (Array.getElem?_eq_some_iff.mp h).1
    rw [Nat.min_eq_left l1]
  have e2 : (kk z).take 1 = [c] := by
    have h' : (kk z)[0]? = some c := by
      show z.cps.toList[0]? = some c
      rw [Array.getElem?_toList]
      exact h
    cases ek : kk z with
    | nil => rw [ek] at h'; cases h'
    | cons x r =>
      rw [ek] at h'
      have : x = c := Option.some.inj h'
      rw [this]
      rfl
  exact kk_inj (e.trans e2)
theorem strOk_one {c : Nat} (h : c < 128) : PyData.strOk ⟨#[c]⟩ = true := by
  show (#[c] : Array Nat).all (· < 0x110000) = true
  simp
  omega
def oddS : Str := " !\"#$&'()*+,-./:;<=>?@ABCDEFGHIJKLMNOPQRSTUVWXYZ[\\]^_`{|}~"
theorem odd_at : ∀ i : Fin 58, ∃ c, c < 128 ∧ atI oddS.cps.toList ((i : Nat) : Int) = some c := by
  have h : ∀ i : Fin 58, (match atI oddS.cps.toList ((i : Nat) : Int) with | some c => decide (c < 128) | none => false) = true := by decide +kernel
  intro i
  have := h i
  cases e : atI oddS.cps.toList ((i : Nat) : Int) with
  | none => rw [e] at this; cases this
  | some c => rw [e] at this; exact ⟨c, of_decide_eq_true this, rfl⟩
def sigS : Str := "abcdefghijklmnopqrstuvwxyz0123456789"
theorem sig_all : ∀ c ∈ sigS.cps.toList, c < 128 := by decide +kernel
theorem sig_len : sigS.cps.toList.length = 36 := by decide +kernel
theorem sig_iff {c : Nat} : c ∈ sigS.cps.toList ↔ c ∈ lettersL ∨ c ∈ digitsL := by
  have e : sigS.cps.toList = lettersL ++ digitsL := by decide +kernel
  rw [e, List.mem_append]
section
variable {P : Program} {w : World} {K : PySem.W.Frag} {mg : Str → Option Value} {base : Heap}
def sp_l_string (T : Txt K mg) : Sp := fun vs H Q _ => ∃ (c : Addr) (ns : List Int), vs = [.ref c] ∧ H c = some (.lst (ns.map V.int)) ∧ FeedOk ns ∧
  ∀ H' (ns' : List Int) (z : Str), But c H H' → H' c = some (.lst (ns'.map V.int)) → FeedOk ns' → z.length ≤ 8 → PyData.strOk z = true → Q (.str z) H'
theorem sp_l_string_len {T : Txt K mg} {vs H Q E} (h : sp_l_string T vs H Q E) : vs.length = 1 := by
  obtain ⟨_, _, rfl, _⟩ := h
  rfl
theorem ok_l_string (T : Txt K mg) : FnOk P w K mg base CX0 2 T.f_l_string T.fd_l_string ["feed"] (sp_l_string T) := by
  refine T.F_l_string.ok sc_l_string (fun vs H Q E h => sp_l_string_len h) (fun cdv A outer s H vs Q E hr h => ?_)
  refine ⟨_, (pss_cons (ps_set (i := 1) sc_l_string.nd rfl (.inl rfl) pe_str)
      (pss_cons (ps_set (i := 2) sc_l_string.nd rfl (.inl rfl) pe_str)
      (pss_cons (ps_set (i := 1) sc_l_string.nd rfl (.inl rfl) (pe_op (op_addK K) (pv 1) (pe_ix (ix_K K (hu_of hr)) (pv 2) (pe_call (ok_l_next T) (hr.mono (by decide)) (by rfl) T.g_l_next T.F_l_next.kp T.b_l_next .nil pass0 (pa_cons (pv 0) (pa_cons pe_int pa_nil))) (fun _ _ => rfl))))
      (pss_cons (ps_set (i := 3) sc_l_string.nd rfl (.inl rfl) pe_str)
      (pss_cons (ps_for PassesOwn.never rfl (pi_range1 rfl T.m_range (pa_cons (pe_op op_mod (pe_callTy cr_int1 (by rfl) T.m_int (by decide +kernel) (pa_cons (pe_op (op_addK K) pe_int (pe_call (ok_l_next T) (hr.mono (by decide)) (by rfl) T.g_l_next T.F_l_next.kp T.b_l_next .nil pass0 (pa_cons (pv 0) (pa_cons pe_int pa_nil)))) pa_nil)) pe_int) pa_nil)) (pg_name (i := 4) sc_l_string.nd rfl (.inl rfl)) (pss_one (ps_set (i := 3) sc_l_string.nd rfl (.inl rfl) (pe_op (op_addK K) (pv 3) (pe_ix (ix_K K (hu_of hr)) (pv 1) (pe_op op_mod (pe_callTy cr_int1 (by rfl) T.m_int (by decide +kernel) (pa_cons (pe_op (op_addK K) (pe_op op_mulA pe_int (pv 4)) (pe_call (ok_l_next T) (hr.mono (by decide)) (by rfl) T.g_l_next T.F_l_next.kp T.b_l_next .nil pass0 (pa_cons (pv 0) (pa_cons pe_int pa_nil)))) pa_nil)) pe_int) (fun _ _ => rfl))))))
      (pss_one (ps_ret (pv 3)))))))), ?_⟩
  obtain ⟨a, ns, rfl, ha, ok, q⟩ := h
  have hA := Has.arg ha
  generalize hG : rm H a = G at hA
  refine g_start (σ' := [some (.ref a), none, none, none, none]) rfl ?_
  walk_at "gg"
  refine ⟨a, ns, 58, rfl, ha, ok, by decide, by decide, fun H1 ns1 r hb1 e1 ok1 r0 r1 => ?_⟩
  obtain ⟨i, rfl⟩ := Int.eq_ofNat_of_zero_le r0
  obtain ⟨co, lc, eo⟩ := odd_at ⟨i, by omega⟩
  refine g_ixS (c := co) (sz (by show oddS.length ≤ 100000; decide +kernel)) eo ?_
  walk_at "gg"
  refine g_addS (sz (by show sigS.length + 1 ≤ 100000; decide +kernel)) ?_
  have all7 : ∀ c ∈ (sigS ++ (⟨#[co]⟩ : Str)).cps.toList, c < 128 := fun c hc => by
    have e : (sigS ++ (⟨#[co]⟩ : Str)).cps.toList = sigS.cps.toList ++ [co] := Array.toList_append
    rw [e] at hc
    rcases List.mem_append.mp hc with hc | hc
    · exact sig_all c hc
    · have : c = co := by simpa using hc
      omega
  have len7 : (sigS ++ (⟨#[co]⟩ : Str)).cps.toList.length = 37 := by
    have e : (sigS ++ (⟨#[co]⟩ : Str)).cps.toList = sigS.cps.toList ++ [co] := Array.toList_append
    rw [e, List.length_append, sig_len]
    rfl
  have esig : ("abcdefghijklmnopqrstuvwxyz0123456789" : Str) = sigS := rfl
  generalize eS : ("abcdefghijklmnopqrstuvwxyz0123456789" : Str) ++ (⟨#[co]⟩ : Str) = S7
  have eS' : sigS ++ (⟨#[co]⟩ : Str) = S7 := eS
  rw [eS'] at all7 len7
  have l7 : S7.length = 37 := by rw [← len7]; exact Array.length_toList.symm
  walk_at "gg"
  refine ⟨a, ns1, 9, rfl, e1, ok1, by decide, by decide, fun H2 ns2 r2 hb2 e2 ok2 r20 r21 => ?_⟩
  refine g_addI ?_
  walk_at "gg"
  refine g_rI (by show (0 : Int) < 9; decide) ?_
  have m0 : 0 ≤ (6 + r2) % 9 := Int.emod_nonneg _ (by decide)
  have m1 : (6 + r2) % 9 < 9 := Int.emod_lt_of_pos _ (by decide)
  generalize (6 + r2) % 9 = m at m0 m1
  walk_at "gg"
  refine k_forR1 (fun t σ H' => ∃ (z : Str) (ns : List Int) (y2 y4 : Option V), σ = [some (.ref a), some (.str S7), y2, some (.str z), y4] ∧ But a H H' ∧ H' a = some (.lst (ns.map V.int)) ∧ FeedOk ns ∧ z.length ≤ t ∧ PyData.strOk z = true) (by omega) (by omega) ⟨_, ns2, _, _, rfl, hb1.trans hb2, e2, ok2, Nat.le_refl _, by decide +kernel⟩ ?_ ?_
  · rintro t σ H3 ht ⟨z, ns3, y2, y4, rfl, hb3, e3, ok3, lz, oz⟩
    have ht : t < 9 := by omega
    walk_at "gg"
    refine g_mulI (.inl ⟨by omega, by omega⟩) ?_
    walk_at "gg"
    refine ⟨a, ns3, 37, rfl, e3, ok3, by decide, by decide, fun H4 ns4 r4 hb4 e4 ok4 r40 r41 => ?_⟩
    refine g_addI ?_
    walk_at "gg"
    refine g_rI (by show (0 : Int) < 37; decide) ?_
    have j0 : 0 ≤ (7 * (t : Int) + r4) % 37 := Int.emod_nonneg _ (by decide)
    have j1 : (7 * (t : Int) + r4) % 37 < 37 := Int.emod_lt_of_pos _ (by decide)
    generalize (7 * (t : Int) + r4) % 37 = j at j0 j1
    obtain ⟨j, rfl⟩ := Int.eq_ofNat_of_zero_le j0
    have ej : S7.cps.toList[j]? = some (S7.cps.toList[j]'(by omega)) := List.getElem?_eq_getElem (by omega)
    generalize S7.cps.toList[j]'(by omega) = cj at ej
    have lj := all7 cj (List.mem_of_getElem? ej)
    refine g_ixS (c := cj) (sz (by omega)) (atI_nat ej) ?_
    walk_at "gg"
    refine g_addS (sz (by show z.length + 1 ≤ _; omega)) ?_
    walk_at "gg"
    refine ⟨_, ns4, _, _, rfl, hb3.trans hb4, e4, ok4, ?_, strOk_app oz (strOk_one lj)⟩
    have e : (z ++ (⟨#[cj]⟩ : Str)).length = z.length + 1 := by
      show (z.cps ++ #[cj]).size = _
      rw [Array.size_append]
      rfl
    omega
  · rintro σ H3 ⟨z, ns3, y2, y4, rfl, hb3, e3, ok3, lz, oz⟩
    walk_at "gg"
    exact q H3 ns3 z hb3 e3 ok3 (by omega) oz
def sp_l_is_good (T : Txt K mg) : Sp := fun vs H Q _ => ∃ z : Str, vs = [.str z] ∧ z.length ≤ 10000 ∧ ∀ H', Same H H' → Q (.bl (isNm z)) H'
theorem sp_l_is_good_len {T : Txt K mg} {vs H Q E} (h : sp_l_is_good T vs H Q E) : vs.length = 1 := by
  obtain ⟨_, rfl, _⟩ := h
  rfl
theorem ok_l_is_good (T : Txt K mg) : FnOk P w K mg base CX0 1 T.f_l_is_good T.fd_l_is_good ["word"] (sp_l_is_good T) := by
  refine T.F_l_is_good.ok sc_l_is_good (fun vs H Q E h => sp_l_is_good_len h) (fun cdv A outer s H vs Q E hr h => ?_)
  refine ⟨_, (pss_cons (ps_set (i := 1) sc_l_is_good.nd rfl (.inr rfl) pe_str)
      (pss_cons (ps_if (PW.pt (pw_or (pt_cmpR (op_eqK K hr.units) (pv 0) pe_str (nomark _)) (pw_or (pt_cmpR op_gt (pe_callB (cr_lenK K) (by rfl) T.m_len (by decide +kernel) (pa_cons (pv 0) pa_nil)) pe_int (nomark _)) (pw_or1 (pt_cmpR (op_notinM K P w hr.units (u65 hr)) (pe_slice (sl_M K) (pv 0) po_none (po_some pe_int)) (pe_slice (sl_M K) (pv 1) po_none (po_some pe_int)) (by rfl)))))) (pss_one (ps_ret pe_bl)) pss_nil)
      (pss_one (ps_ret (pe_cmpR (op_eqK K hr.units) (pe_callB (cr_lenK K) (by rfl) T.m_len (by decide +kernel) (pa_cons (pe_lc (own := [("sign", 2)]) (g := gName 2) rfl sc_l_is_good.nd (pi_str (pv 0)) (blkOk_by (N := n_l_is_good) (sc := defScope s_l_is_good) (by decide +kernel)) (fun _ _ _ _ _ => (pg_name (i := 2) sc_l_is_good.nd rfl (.inl rfl))) (fun _ _ _ _ _ => (pts_one (pt_cmpR (op_notinM K P w hr.units (u65 hr)) (pv 2) (pv 1) (by rfl)))) (fun _ _ _ _ _ => (pv 2))) pa_nil)) pe_int (nomark _)))))), ?_⟩
  obtain ⟨z, rfl, lz, q⟩ := h
  have hH := Has.start H
  refine g_start (σ' := [some (.str z), none, none]) rfl ?_
  walk_at "gg"
  refine i_d (fun e => ?_) (fun ne => ?_)
  · walk_at "gg"
    rw [isNm_no (fun ok => by have := ok.l1; rw [e] at this; exact absurd this (by decide +kernel))] at q
    exact q H (Same.refl _)
  have l1 : 0 < z.cps.size := by
    refine Nat.pos_of_ne_zero fun c => ne ?_
    have : z.cps = #[] := Array.eq_empty_of_size_eq_zero c
    cases z
    exact congrArg Str.mk this
  walk_at "gg"
  refine g_lenS (sz (by omega)) ?_
  walk_at "gg"
  refine i_d (fun e => ?_) (fun l6 => ?_)
  · walk_at "gg"
    rw [isNm_no (fun ok => by have := ok.l2; omega)] at q
    exact q H (Same.refl _)
  have e0 : z.cps[0]? = some z.cps[0] := Array.getElem?_eq_getElem l1
  generalize z.cps[0] = c0 at e0
  have ec : cutS z none (some ((1 : Nat) : Int)) = ⟨#[c0]⟩ := cutS_one e0
  have es : cutS ("abcdefghijklmnopqrstuvwxyz0123456789" : Str) none (some ((26 : Nat) : Int)) = ("abcdefghijklmnopqrstuvwxyz" : Str) := by decide +kernel
  walk_at "gg"
  refine g_slZ (sz (by omega)) ?_
  rw [show (1 : Int) = ((1 : Nat) : Int) from rfl, ec]
  walk_at "gg"
  refine g_slZ (sz (by decide +kernel)) ?_
  rw [show (26 : Int) = ((26 : Nat) : Int) from rfl, es]
  walk_at "gg"
  refine g_notinM (g_notinC ?_)
  walk_at "gg"
  refine i_n (fun e => ?_) (fun h0 => ?_)
  · walk_at "gg"
    rw [isNm_no (fun ok => e (ok.hd c0 e0))] at q
    exact q H (Same.refl _)
  walk_at "gg"
  refine k_lcS hH (fun i acc F' O' => ((∀ c ∈ z.cps.toList.take i, c ∈ lettersL ∨ c ∈ digitsL) ↔ acc = []) ∧ acc.length ≤ i ∧ F' = H ∧ O' = []) ⟨by simp, Nat.le_refl _, rfl, rfl⟩ ?_ ?_
  · rintro i c acc F' O' D H3 hc ⟨hi, la, rfl, rfl⟩ hh
    have hc' : z.cps.toList[i]? = some c := by rw [Array.getElem?_toList]; exact hc
    have li := (List.getElem?_eq_some_iff.mp hc').1
    rw [Array.length_toList] at li
    have li : i < z.length := li
    have st : (∀ d ∈ z.cps.toList.take (i + 1), d ∈ lettersL ∨ d ∈ digitsL) ↔ (∀ d ∈ z.cps.toList.take i, d ∈ lettersL ∨ d ∈ digitsL) ∧ (c ∈ lettersL ∨ c ∈ digitsL) := by
      rw [List.take_add_one, hc']
      constructor
      · exact fun h => ⟨fun d hd => h d (List.mem_append_left _ hd), h c (List.mem_append_right _ (by simp))⟩
      · rintro ⟨h1, h2⟩ d hd
        rcases List.mem_append.mp hd with hd | hd
        · exact h1 d hd
        · have : d = c := by simpa using hd
          rw [this]
          exact h2
    walk_at "gg"
    refine g_notinM (g_notinC ?_)
    walk_at "gg"
    refine i_n (fun e1 => ?_) (fun e1 => ?_)
    · walk_at "gg"
      refine k_turn hh (by omega) ⟨?_, by rw [List.length_append]; show _ + 1 ≤ _; omega, rfl, rfl⟩
      rw [st]
      exact ⟨fun h => (e1 (sig_iff.mpr h.2)).elim, fun h => by simp at h⟩
    · refine k_skip hh ⟨?_, by omega, rfl, rfl⟩
      rw [st, ← hi]
      exact ⟨fun h => h.1, fun h => ⟨h, sig_iff.mp e1⟩⟩
  · rintro acc F' O' D H3 ⟨hi, la, rfl, rfl⟩ hh
    have el : z.cps.toList.take z.length = z.cps.toList := List.take_of_length_le (by rw [Array.length_toList]; exact Nat.le_refl _)
    rw [el] at hi
    walk_at "gg"
    have fin : decide ((acc.length : Int) = 0) = isNm z := by
      rw [Bool.eq_iff_iff, decide_eq_true_eq, isNm_iff]
      constructor
      · intro h
        have : acc = [] := List.eq_nil_of_length_eq_zero (by omega)
        exact ⟨l1, by omega, fun c hc => by rw [e0] at hc; rw [← Option.some.inj hc]; exact h0, hi.mpr this⟩
      · intro ok
        have := hi.mp ok.all
        rw [this]
        rfl
    rw [fin]
    exact q H3 hh.same
end

end K13

namespace K13
open PySem PySem.Spec PyProof.Rows L2 Qk
local macro_rules | `(tactic| walk_at "m") => `(tactic| ((repeat (first | exact List.Mem.head _ | apply List.Mem.tail)); done))
local macro_rules | `(tactic| walk_at "h") => `(tactic| first | assumption | exact Has.gF (by assumption) (by assumption) | exact Has.get (by assumption) (by walk_at "m"))
local macro_rules | `(tactic| walk_at "c") => `(tactic| ((repeat (first | exact Chg.hd | apply Chg.tl)); done))
local macro_rules | `(tactic| walk_at "is") => `(tactic| first
  | ((with_reducible refine' is2_non ?gh ?_); (case gh => walk_at "h"))
  | (with_reducible refine is_int_list ?_)
  | (with_reducible refine is_int_tuple ?_)
  | (with_reducible refine is_int_dict ?_)
  | (with_reducible refine is_int_int ?_)
  | (with_reducible refine is_int_bool ?_)
  | (with_reducible refine is_int_str ?_)
  | ((with_reducible refine' is2_int ?gh ?_); (case gh => walk_at "h"))
  | (with_reducible refine is_str_list ?_)
  | (with_reducible refine is_str_tuple ?_)
  | (with_reducible refine is_str_dict ?_)
  | (with_reducible refine is_str_int ?_)
  | (with_reducible refine is_str_bool ?_)
  | (with_reducible refine is_str_str ?_)
  | ((with_reducible refine' is2_str ?gh ?_); (case gh => walk_at "h"))
  | (with_reducible refine is_bool_list ?_)
  | (with_reducible refine is_bool_tuple ?_)
  | (with_reducible refine is_bool_dict ?_)
  | (with_reducible refine is_bool_int ?_)
  | (with_reducible refine is_bool_bool ?_)
  | (with_reducible refine is_bool_str ?_)
  | ((with_reducible refine' is2_bool ?gh ?_); (case gh => walk_at "h"))
  | ((with_reducible refine' is_list_list ?gh ?_); (case gh => walk_at "h"))
  | ((with_reducible refine' is_list_tuple ?gh ?_); (case gh => walk_at "h"))
  | ((with_reducible refine' is_list_dict ?gh ?_); (case gh => walk_at "h"))
  | ((with_reducible refine' is_list_int ?gh ?_); (case gh => walk_at "h"))
  | ((with_reducible refine' is_list_bool ?gh ?_); (case gh => walk_at "h"))
  | ((with_reducible refine' is_list_str ?gh ?_); (case gh => walk_at "h"))
  | ((with_reducible refine' is2_list ?ga ?gb ?_); (case ga => walk_at "h"); (case gb => walk_at "h"))
  | ((with_reducible refine' is_tuple_list ?gh ?_); (case gh => walk_at "h"))
  | ((with_reducible refine' is_tuple_tuple ?gh ?_); (case gh => walk_at "h"))
  | ((with_reducible refine' is_tuple_dict ?gh ?_); (case gh => walk_at "h"))
  | ((with_reducible refine' is_tuple_int ?gh ?_); (case gh => walk_at "h"))
  | ((with_reducible refine' is_tuple_bool ?gh ?_); (case gh => walk_at "h"))
  | ((with_reducible refine' is_tuple_str ?gh ?_); (case gh => walk_at "h"))
  | ((with_reducible refine' is2_tuple ?ga ?gb ?_); (case ga => walk_at "h"); (case gb => walk_at "h"))
  | ((with_reducible refine' is_dict_list ?gh ?_); (case gh => walk_at "h"))
  | ((with_reducible refine' is_dict_tuple ?gh ?_); (case gh => walk_at "h"))
  | ((with_reducible refine' is_dict_dict ?gh ?_); (case gh => walk_at "h"))
  | ((with_reducible refine' is_dict_int ?gh ?_); (case gh => walk_at "h"))
  | ((with_reducible refine' is_dict_bool ?gh ?_); (case gh => walk_at "h"))
  | ((with_reducible refine' is_dict_str ?gh ?_); (case gh => walk_at "h"))
  | ((with_reducible refine' is2_dict ?ga ?gb ?_); (case ga => walk_at "h"); (case gb => walk_at "h")))
local macro_rules | `(tactic| walk_at "g") => `(tactic| first
  | (with_reducible refine g_seq ?_)
  | (with_reducible refine g_asg ?_)
  | ((with_reducible refine g_name ?_); dsimp only [List.set, wipe, List.map])
  | ((with_reducible refine' g_var ?gv ?_); (case gv => exact rfl))
  | (with_reducible refine g_c ?_)
  | (with_reducible refine g_op ?_)
  | (with_reducible refine g_cons ?_)
  | (with_reducible refine g_nil ?_)
  | (with_reducible refine g_cb ?_)
  | (with_reducible refine g_call ?_)
  | (with_reducible refine g_tup ?_)
  | (with_reducible refine g_lst ?_)
  | (with_reducible refine g_bm ?_)
  | (with_reducible refine g_bm0 ?_)
  | ((with_reducible refine' g_kbm ?gh ?_); (case gh => walk_at "h"))
  | (with_reducible refine g_drop ?_)
  | (with_reducible refine g_ret ?_)
  | (with_reducible refine g_retN ?_)
  | (with_reducible refine g_next ?_)
  | (with_reducible refine g_brk ?_)
  | (with_reducible refine g_cont ?_)
  | (with_reducible refine g_if ?_)
  | ((with_reducible refine' g_aug ?gv ?_); (case gv => exact rfl))
  | (with_reducible refine g_ipI ?_)
  | (with_reducible refine g_test ?_)
  | (with_reducible refine g_tB ?_)
  | (with_reducible refine g_kB ?_)
  | (with_reducible refine g_not ?_)
  | (with_reducible refine g_and ?_)
  | (with_reducible refine g_or ?_)
  | (with_reducible refine g_andV ?_)
  | (with_reducible refine g_orV ?_)
  | (with_reducible refine g_notV ?_)
  | (with_reducible refine g_ifE ?_)
  | (with_reducible refine g_addI ?_)
  | (with_reducible refine g_rI0 ?_)
  | (with_reducible refine g_eqI ?_)
  | (with_reducible refine g_eqS ?_)
  | (with_reducible refine g_neI ?_)
  | (with_reducible refine g_neS ?_)
  | (with_reducible refine g_isN ?_)
  | (with_reducible refine g_notN ?_)
  | (with_reducible refine g_int ?_)
  | (with_reducible refine g_max2 ?_)
  | (with_reducible refine g_min2 ?_)
  | ((with_reducible refine' g_lenL ?gh ?_); (case gh => walk_at "h"))
  | (with_reducible refine g_sub ?_)
  | (with_reducible refine g_gcons ?_)
  | (with_reducible refine g_gnil ?_)
  | (with_reducible refine g_un ?_)
  | (with_reducible refine g_rU ?_)
  | (with_reducible refine g_forL ?_)
  | (with_reducible refine g_forS ?_)
  | (with_reducible refine g_forR1 ?_)
  | (with_reducible refine g_forR2 ?_)
  | (with_reducible refine g_forR3 ?_)
  | (with_reducible refine g_lcL ?_)
  | (with_reducible refine g_lcR1 ?_)
  | (with_reducible refine g_lcR2 ?_)
  | (with_reducible refine g_slice ?_)
  | (with_reducible refine g_part ?_)
  | (with_reducible refine g_kOI ?_)
  | (with_reducible refine g_nopart ?_)
  | (with_reducible refine g_yes ?_)
  | ((with_reducible refine' g_wipe ?gv ?_); (case gv => exact rfl))
  | (with_reducible refine iteT ?_)
  | (with_reducible refine iteF ?_)
  | (with_reducible refine i_nf ?_)
  | (with_reducible refine i_nt ?_)
  | ((with_reducible refine' g_gtup ?gh ?gl ?_); (case gh => walk_at "h"); (case gl => exact rfl))
  | ((with_reducible refine' g_notinI ?gh ?_); (case gh => walk_at "h"))
  | ((with_reducible refine' g_inI ?gh ?_); (case gh => walk_at "h"))
  | ((with_reducible refine' g_kget2 ?gh ?_); (case gh => walk_at "h"))
  | ((with_reducible refine' g_kgotI ?gh ?_); (case gh => walk_at "h"))
  | (with_reducible refine g_tRev ?_)
  | (with_reducible refine g_neB ?_)
  | (with_reducible refine g_eqB ?_)
  | ((with_reducible refine' g_lenT ?gh ?_); (case gh => walk_at "h"))
  | (with_reducible refine g_star ?_)
  | ((with_reducible refine' g_kstarL ?gh ?_); (case gh => walk_at "h"))
  | ((with_reducible refine' g_kstarT ?gh ?_); (case gh => walk_at "h"))
  | (with_reducible refine g_tru ?_)
  | ((with_reducible refine' g_truL ?gh ?_); (case gh => walk_at "h"))
  | (with_reducible refine g_get2 ?_)
  | (with_reducible refine g_try ?_)
  | (with_reducible refine g_fld ?_)
  | (with_reducible refine g_sfld ?_)
  | (with_reducible refine g_meth ?_)
  | (with_reducible refine g_make ?_)
  | (with_reducible refine g_del ?_)
  | (with_reducible refine g_callS ?_)
  | (with_reducible refine g_raise ?_)
  | (with_reducible refine g_xf ?_)
  | (with_reducible refine g_m0 ?_)
  | (with_reducible refine g_km0 ?_)
  | walk_at "is")
local macro_rules | `(tactic| walk_at "gg") => `(tactic| repeat walk_at "g")
local macro_rules | `(tactic| walk_at "sz") => `(tactic| (refine sz ?_; simp only [List.length_cons, List.length_nil, List.length_map, List.length_append, List.length_replicate]; omega))
local macro_rules | `(tactic| walk_at "sub") => `(tactic| ((repeat (first | exact List.Sublist.slnil | with_reducible apply List.Sublist.cons_cons | with_reducible apply List.Sublist.cons)); done))

/-! ### a large web -/
section
variable {P : Program} {w : World} {K : PySem.W.Frag} {mg : Str → Option Value} {base : Heap}
def sp_l_large (T : Txt K mg) : Sp := fun vs H Q _ => ∃ (c : Addr) (F : Hp) (ns : List Int), vs = [.ref c] ∧ Has F [(c, .lst (ns.map V.int))] H ∧ FeedOk ns ∧
  ∀ l H' F' (ns' : List Int) us (web : List (List Nat)), Same F F' → Has F' [(c, .lst (ns'.map V.int))] H' → FeedOk ns' → F' l = some (.lst us) → DqAll F' us (web.map rowD) → WebOk web → web.length ≤ 60 → Q (.ref l) H'
theorem sp_l_large_len {T : Txt K mg} {vs H Q E} (h : sp_l_large T vs H Q E) : vs.length = 1 := by
  obtain ⟨_, _, _, rfl, _⟩ := h
  rfl
theorem rowI_take (r : List Nat) (i : Nat) : cutV (rowI r) none (some (i : Int)) = rowI (r.take i) := by
  rw [cutV_to]
  unfold rowI
  rw [List.map_take]
theorem ok_l_large (T : Txt K mg) : FnOk P w K mg base CX0 2 T.f_l_large T.fd_l_large ["feed"] (sp_l_large T) := by
  refine T.F_l_large.ok sc_l_large (fun vs H Q E h => sp_l_large_len h) (fun cdv A outer s H vs Q E hr h => ?_)
  refine ⟨_, (pss_cons (ps_set (i := 1) sc_l_large.nd rfl (.inl rfl) (pe_call (ok_l_next T) (hr.mono (by decide)) (by rfl) T.g_l_next T.F_l_next.kp T.b_l_next .nil pass0 (pa_cons (pv 0) (pa_cons pe_int pa_nil))))
      (pss_cons (ps_set (i := 2) sc_l_large.nd rfl (.inl rfl) (pe_op (op_addK K) pe_int (pe_call (ok_l_next T) (hr.mono (by decide)) (by rfl) T.g_l_next T.F_l_next.kp T.b_l_next .nil pass0 (pa_cons (pv 0) (pa_cons pe_int pa_nil)))))
      (pss_cons (ps_set (i := 3) sc_l_large.nd rfl (.inl rfl) (pe_lst pa_nil))
      (pss_cons (ps_for PassesOwn.never rfl (pi_range1 rfl T.m_range (pa_cons (pe_op (op_addK K) pe_int (pe_call (ok_l_next T) (hr.mono (by decide)) (by rfl) T.g_l_next T.F_l_next.kp T.b_l_next .nil pass0 (pa_cons (pv 0) (pa_cons pe_int pa_nil)))) pa_nil)) (pg_name (i := 4) sc_l_large.nd rfl (.inl rfl)) (pss_cons (ps_set (i := 5) sc_l_large.nd rfl (.inl rfl) (pe_lst (pa_cons (pe_callB (cr_max2 rfl) (by rfl) T.m_max (by decide +kernel) (pa_cons pe_int (pa_cons (pe_op op_sub (pe_op op_sub (pv 4) pe_int) (pv 1)) pa_nil))) pa_nil)))
      (pss_cons (ps_if (PW.pt (pw_and (pt_cmpR (op_notinM K P w hr.units (u65 hr)) (pe_op op_fdivW (pv 4) pe_int) (pv 5) (by rfl)) (pw_and1 (pt_cmpR (op_eqK K hr.units) (pe_op op_mod (pe_callTy cr_int1 (by rfl) T.m_int (by decide +kernel) (pa_cons (pv 4) pa_nil)) (pv 2)) pe_int (nomark _))))) (pss_one (ps_expr (k_bm K (pe_bm PySem.F.plainAttrs_list PySem.F.slot_list_append PySem.F.type_list_append mt_append (pv 5) (pa_cons (pe_op op_fdivW (pv 4) pe_int) pa_nil))))) pss_nil)
      (pss_one (ps_expr (k_bm K (pe_bm PySem.F.plainAttrs_list PySem.F.slot_list_append PySem.F.type_list_append mt_append (pv 3) (pa_cons (pe_slice (sl_M K) (pv 5) po_none (po_some (pv 4))) pa_nil))))))))
      (pss_one (ps_ret (pv 3))))))), ?_⟩
  obtain ⟨c, F, ns0, rfl, hH, ok, q⟩ := h
  refine g_start (σ' := [some (.ref c), none, none, none, none, none]) rfl ?_
  walk_at "gg"
  refine ⟨c, ns0, 7, rfl, hH.get (List.Mem.head _), ok, by decide, by decide, fun H1 ns1 bk hb e ok1 b0 b1 => ?_⟩
  have h1 := hH.but .hd hb e
  walk_at "gg"
  refine ⟨c, ns1, 9, rfl, h1.get (List.Mem.head _), ok1, by decide, by decide, fun H2 ns2 by_ hb e ok2 y0 y1 => ?_⟩
  have h2 := h1.but .hd hb e
  refine g_addI ?_
  walk_at "gg"
  refine g_klst (by walk_at "sz") h2 (fun p H3 n3 h3 => ?_)
  walk_at "gg"
  refine ⟨c, ns2, 49, rfl, h3.get (by walk_at "m"), ok2, by decide, by decide, fun H4 ns4 r hb e ok4 r0 r1 => ?_⟩
  have h4 := h3.but (.tl .hd) hb e
  refine g_addI ?_
  walk_at "gg"
  refine k_forR1 (fun t σ H' => ∃ (F' : Hp) (us : List V) (web : List (List Nat)) (y4 y5 : Option V), σ = [some (.ref c), some (.int bk), some (.int (2 + by_)), some (.ref p), y4, y5] ∧ Same F F' ∧ Has F' [(p, .lst us), (c, .lst (ns4.map V.int))] H' ∧ DqAll F' us (web.map rowD) ∧ web.length = t ∧ WebOk web)
    (by omega) (by omega) ⟨F, [], [], _, _, rfl, Same.refl _, h4, .nil, rfl, ⟨fun i r e => by cases e⟩⟩ ?_ ?_
  · rintro t σ H5 ht ⟨F', us, web, y4, y5, rfl, sF, h5, du, lw, wok⟩
    have lu : us.length = web.length := by rw [du.len, List.length_map]
    have ht : t < 61 := by omega
    walk_at "gg"
    have m0 : 0 ≤ max (0 : Int) ((t : Int) - 1 - bk) := by omega
    have m1 : max (0 : Int) ((t : Int) - 1 - bk) < t ∨ t = 0 := by omega
    generalize max (0 : Int) ((t : Int) - 1 - bk) = m at m0 m1
    obtain ⟨m, rfl⟩ := Int.eq_ofNat_of_zero_le m0
    refine g_klst (by walk_at "sz") h5 (fun rw_ H6 n6 h6 => ?_)
    have h6 : Has F' [(rw_, .lst (rowI [m])), (p, .lst us), (c, .lst (ns4.map V.int))] H6 := h6
    walk_at "g"
    walk_at "g"
    refine g_joinD (fun σ' H' => ∃ (row : List Nat), σ' = [some (.ref c), some (.int bk), some (.int (2 + by_)), some (.ref p), some (.int (t : Int)), some (.ref rw_)] ∧ Has F' [(rw_, .lst (rowI row)), (p, .lst us), (c, .lst (ns4.map V.int))] H' ∧ row.Nodup ∧ (∀ a ∈ row, a < t ∨ t = 0) ∧ row.length ≤ 2) ?_ (fun nx' key => ?_)
    · rintro σ' H7 ⟨row, rfl, h7, nd, lt, l2⟩
      walk_at "gg"
      refine g_slM (g_slL (h7.get (List.Mem.head _)) h7 (fun sl H8 n8 h8 => ?_))
      rw [rowI_take] at h8
      have s8 := h8.grow
      have h8 := h8.frz
      have fr : upd F' sl (.lst (rowI (row.take t))) sl = some (.lst (rowI (row.take t))) := upd_same
      generalize upd F' sl (.lst (rowI (row.take t))) = F8 at h8 s8 fr
      walk_at "gg"
      refine g_append h8 (.tl .hd) (szl (by omega)) (fun H9 h9 => ?_)
      walk_at "gg"
      refine ⟨F8, us ++ [.ref sl], web ++ [row.take t], _, _, rfl, sF.trans s8, h9.drop, ?_, by rw [List.length_append, lw]; rfl, wok.snoc ((List.take_sublist t row).nodup nd) (fun a ha => ?_) (by rw [List.length_take]; omega)⟩
      · rw [List.map_append]
        exact (du.up s8 _ _).snoc (dq_row fr)
      · rw [lw]
        by_cases z : t = 0
        · subst z
          simp at ha
        · rcases lt a (List.mem_of_mem_take ha) with h | h
          · exact h
          · exact (z h).elim
    · have lt1 : ∀ a ∈ [m], a < t ∨ t = 0 := fun a ha => by
        rw [List.mem_singleton.mp ha]
        omega
      walk_at "gg"
      refine g_rI (cdivw (by decide) (by decide) _) ?_
      walk_at "gg"
      have d0 : 0 ≤ (t : Int) / 2 := by omega
      have d1 : (t : Int) / 2 < t ∨ t = 0 := by omega
      generalize ed : (t : Int) / 2 = d at d0 d1
      obtain ⟨d, rfl⟩ := Int.eq_ofNat_of_zero_le d0
      refine g_notinM (g_notinFL (h6.get (List.Mem.head _)) rfl (flat_row _) ?_)
      rw [inV_row]
      walk_at "gg"
      refine i_n (fun nm => ?_) (fun _ => ?_)
      · walk_at "gg"
        refine g_rI (by show (0 : Int) < 2 + by_; omega) ?_
        walk_at "gg"
        refine i_d (fun _ => ?_) (fun _ => ?_)
        · walk_at "gg"
          refine g_rI (cdivw (by decide) (by decide) _) ?_
          walk_at "gg"
          rw [show (t : Int) / 2 = (d : Int) from ed]
          refine g_append h6 .hd (szl (by show 1 < 100000; decide)) (fun H7 h7 => ?_)
          walk_at "gg"
          refine key _ _ ⟨[m, d], rfl, h7, ?_, fun a ha => ?_, by show 2 ≤ 2; decide⟩
          · exact List.nodup_cons.mpr ⟨fun h => nm (by rw [List.mem_singleton.mp h]; exact List.mem_singleton.mpr rfl), by simp⟩
          · simp only [List.mem_cons, List.not_mem_nil, or_false] at ha
            rcases ha with rfl | rfl
            · omega
            · omega
        · walk_at "gg"
          exact key _ _ ⟨[m], rfl, h6, by simp, lt1, by show 1 ≤ 2; decide⟩
      · walk_at "gg"
        exact key _ _ ⟨[m], rfl, h6, by simp, lt1, by show 1 ≤ 2; decide⟩
  · rintro σ H4 ⟨F', us, web, y4, y5, rfl, sF, h4, du, lw, wok⟩
    walk_at "gg"
    have h4' := h4.frz
    have s4 := h4.grow
    have fp : upd F' p (.lst us) p = some (.lst us) := upd_same
    generalize upd F' p (.lst us) = F5 at h4' s4 fp
    have du := du.up s4 _ _
    exact q p H4 F5 ns4 us web (sF.trans s4) h4' ok4 fp du wok (by omega)
end

end K13

namespace K13
open PySem PySem.Spec PyProof.Rows L2 Qk
local macro_rules | `(tactic| walk_at "m") => `(tactic| ((repeat (first | exact List.Mem.head _ | apply List.Mem.tail)); done))
local macro_rules | `(tactic| walk_at "h") => `(tactic| first | assumption | exact Has.gF (by assumption) (by assumption) | exact Has.get (by assumption) (by walk_at "m"))
local macro_rules | `(tactic| walk_at "c") => `(tactic| ((repeat (first | exact Chg.hd | apply Chg.tl)); done))
local macro_rules | `(tactic| walk_at "is") => `(tactic| first
  | ((with_reducible refine' is2_non ?gh ?_); (case gh => walk_at "h"))
  | (with_reducible refine is_int_list ?_)
  | (with_reducible refine is_int_tuple ?_)
  | (with_reducible refine is_int_dict ?_)
  | (with_reducible refine is_int_int ?_)
  | (with_reducible refine is_int_bool ?_)
  | (with_reducible refine is_int_str ?_)
  | ((with_reducible refine' is2_int ?gh ?_); (case gh => walk_at "h"))
  | (with_reducible refine is_str_list ?_)
  | (with_reducible refine is_str_tuple ?_)
  | (with_reducible refine is_str_dict ?_)
  | (with_reducible refine is_str_int ?_)
  | (with_reducible refine is_str_bool ?_)
  | (with_reducible refine is_str_str ?_)
  | ((with_reducible refine' is2_str ?gh ?_); (case gh => walk_at "h"))
  | (with_reducible refine is_bool_list ?_)
  | (with_reducible refine is_bool_tuple ?_)
  | (with_reducible refine is_bool_dict ?_)
  | (with_reducible refine is_bool_int ?_)
  | (with_reducible refine is_bool_bool ?_)
  | (with_reducible refine is_bool_str ?_)
  | ((with_reducible refine' is2_bool ?gh ?_); (case gh => walk_at "h"))
  | ((with_reducible refine' is_list_list ?gh ?_); (case gh => walk_at "h"))
  | ((with_reducible refine' is_list_tuple ?gh ?_); (case gh => walk_at "h"))
  | ((with_reducible refine' is_list_dict ?gh ?_); (case gh => walk_at "h"))
  | ((with_reducible refine' is_list_int ?gh ?_); (case gh => walk_at "h"))
  | ((with_reducible refine' is_list_bool ?gh ?_); (case gh => walk_at "h"))
  | ((with_reducible refine' is_list_str ?gh ?_); (case gh => walk_at "h"))
  | ((with_reducible refine' is2_list ?ga ?gb ?_); (case ga => walk_at "h"); (case gb => walk_at "h"))
  | ((with_reducible refine' is_tuple_list ?gh ?_); (case gh => walk_at "h"))
  | ((with_reducible refine' is_tuple_tuple ?gh ?_); (case gh => walk_at "h"))
  | ((with_reducible refine' is_tuple_dict ?gh ?_); (case gh => walk_at "h"))
  | ((with_reducible refine' is_tuple_int ?gh ?_); (case gh => walk_at "h"))
  | ((with_reducible refine' is_tuple_bool ?gh ?_); (case gh => walk_at "h"))
  | ((with_reducible refine' is_tuple_str ?gh ?_); (case gh => walk_at "h"))
  | ((with_reducible refine' is2_tuple ?ga ?gb ?_); (case ga => walk_at "h"); (case gb => walk_at "h"))
  | ((with_reducible refine' is_dict_list ?gh ?_); (case gh => walk_at "h"))
  | ((with_reducible refine' is_dict_tuple ?gh ?_); (case gh => walk_at "h"))
  | ((with_reducible refine' is_dict_dict ?gh ?_); (case gh => walk_at "h"))
  | ((with_reducible refine' is_dict_int ?gh ?_); (case gh => walk_at "h"))
  | ((with_reducible refine' is_dict_bool ?gh ?_); (case gh => walk_at "h"))
  | ((with_reducible refine' is_dict_str ?gh ?_); (case gh => walk_at "h"))
  | ((with_reducible refine' is2_dict ?ga ?gb ?_); (case ga => walk_at "h"); (case gb => walk_at "h")))
local macro_rules | `(tactic| walk_at "g") => `(tactic| first
  | (with_reducible refine g_seq ?_)
  | (with_reducible refine g_asg ?_)
  | ((with_reducible refine g_name ?_); dsimp only [List.set, wipe, List.map])
  | ((with_reducible refine' g_var ?gv ?_); (case gv => exact rfl))
  | (with_reducible refine g_c ?_)
  | (with_reducible refine g_op ?_)
  | (with_reducible refine g_cons ?_)
  | (with_reducible refine g_nil ?_)
  | (with_reducible refine g_cb ?_)
  | (with_reducible refine g_call ?_)
  | (with_reducible refine g_tup ?_)
  | (with_reducible refine g_lst ?_)
  | (with_reducible refine g_bm ?_)
  | (with_reducible refine g_bm0 ?_)
  | ((with_reducible refine' g_kbm ?gh ?_); (case gh => walk_at "h"))
  | (with_reducible refine g_drop ?_)
  | (with_reducible refine g_ret ?_)
  | (with_reducible refine g_retN ?_)
  | (with_reducible refine g_next ?_)
  | (with_reducible refine g_brk ?_)
  | (with_reducible refine g_cont ?_)
  | (with_reducible refine g_if ?_)
  | ((with_reducible refine' g_aug ?gv ?_); (case gv => exact rfl))
  | (with_reducible refine g_ipI ?_)
  | (with_reducible refine g_test ?_)
  | (with_reducible refine g_tB ?_)
  | (with_reducible refine g_kB ?_)
  | (with_reducible refine g_not ?_)
  | (with_reducible refine g_and ?_)
  | (with_reducible refine g_or ?_)
  | (with_reducible refine g_andV ?_)
  | (with_reducible refine g_orV ?_)
  | (with_reducible refine g_notV ?_)
  | (with_reducible refine g_ifE ?_)
  | (with_reducible refine g_addI ?_)
  | (with_reducible refine g_rI0 ?_)
  | (with_reducible refine g_eqI ?_)
  | (with_reducible refine g_eqS ?_)
  | (with_reducible refine g_neI ?_)
  | (with_reducible refine g_neS ?_)
  | (with_reducible refine g_isN ?_)
  | (with_reducible refine g_notN ?_)
  | (with_reducible refine g_int ?_)
  | (with_reducible refine g_max2 ?_)
  | (with_reducible refine g_min2 ?_)
  | ((with_reducible refine' g_lenL ?gh ?_); (case gh => walk_at "h"))
  | (with_reducible refine g_sub ?_)
  | (with_reducible refine g_gcons ?_)
  | (with_reducible refine g_gnil ?_)
  | (with_reducible refine g_un ?_)
  | (with_reducible refine g_rU ?_)
  | (with_reducible refine g_forL ?_)
  | (with_reducible refine g_forS ?_)
  | (with_reducible refine g_forR1 ?_)
  | (with_reducible refine g_forR2 ?_)
  | (with_reducible refine g_forR3 ?_)
  | (with_reducible refine g_lcL ?_)
  | (with_reducible refine g_lcR1 ?_)
  | (with_reducible refine g_lcR2 ?_)
  | (with_reducible refine g_slice ?_)
  | (with_reducible refine g_part ?_)
  | (with_reducible refine g_kOI ?_)
  | (with_reducible refine g_nopart ?_)
  | (with_reducible refine g_yes ?_)
  | ((with_reducible refine' g_wipe ?gv ?_); (case gv => exact rfl))
  | (with_reducible refine iteT ?_)
  | (with_reducible refine iteF ?_)
  | (with_reducible refine i_nf ?_)
  | (with_reducible refine i_nt ?_)
  | ((with_reducible refine' g_gtup ?gh ?gl ?_); (case gh => walk_at "h"); (case gl => exact rfl))
  | ((with_reducible refine' g_notinI ?gh ?_); (case gh => walk_at "h"))
  | ((with_reducible refine' g_inI ?gh ?_); (case gh => walk_at "h"))
  | ((with_reducible refine' g_kget2 ?gh ?_); (case gh => walk_at "h"))
  | ((with_reducible refine' g_kgotI ?gh ?_); (case gh => walk_at "h"))
  | (with_reducible refine g_tRev ?_)
  | (with_reducible refine g_neB ?_)
  | (with_reducible refine g_eqB ?_)
  | ((with_reducible refine' g_lenT ?gh ?_); (case gh => walk_at "h"))
  | (with_reducible refine g_star ?_)
  | ((with_reducible refine' g_kstarL ?gh ?_); (case gh => walk_at "h"))
  | ((with_reducible refine' g_kstarT ?gh ?_); (case gh => walk_at "h"))
  | (with_reducible refine g_tru ?_)
  | ((with_reducible refine' g_truL ?gh ?_); (case gh => walk_at "h"))
  | (with_reducible refine g_get2 ?_)
  | (with_reducible refine g_try ?_)
  | (with_reducible refine g_fld ?_)
  | (with_reducible refine g_sfld ?_)
  | (with_reducible refine g_meth ?_)
  | (with_reducible refine g_make ?_)
  | (with_reducible refine g_del ?_)
  | (with_reducible refine g_callS ?_)
  | (with_reducible refine g_raise ?_)
  | (with_reducible refine g_xf ?_)
  | (with_reducible refine g_m0 ?_)
  | (with_reducible refine g_km0 ?_)
  | walk_at "is")
local macro_rules | `(tactic| walk_at "gg") => `(tactic| repeat walk_at "g")
local macro_rules | `(tactic| walk_at "sz") => `(tactic| (refine sz ?_; simp only [List.length_cons, List.length_nil, List.length_map, List.length_append, List.length_replicate]; omega))
local macro_rules | `(tactic| walk_at "sub") => `(tactic| ((repeat (first | exact List.Sublist.slnil | with_reducible apply List.Sublist.cons_cons | with_reducible apply List.Sublist.cons)); done))

/-! ### an order, as the law asks it -/
section
variable {P : Program} {w : World} {K : PySem.W.Frag} {mg : Str → Option Value} {base : Heap}
def sp_l_as_own (T : Txt K mg) : Sp := fun vs H Q _ => ∃ (a nm msA : Addr) (rows : List URow) (names : List Str) (ms : List Nat), vs = [.ref a, .ref nm, .ref msA] ∧ Ord T H a rows ∧ H nm = some (.lst (names.map V.str)) ∧ H msA = some (.lst (rowI ms)) ∧ OwnR names ms rows ∧ ∀ H', Same H H' → Q (.bl true) H'
theorem sp_l_as_own_len {T : Txt K mg} {vs H Q E} (h : sp_l_as_own T vs H Q E) : vs.length = 3 := by
  obtain ⟨_, _, _, _, _, _, rfl, _⟩ := h
  rfl
set_option maxHeartbeats 1000000 in
theorem ok_l_as_own (T : Txt K mg) : FnOk P w K mg base CX0 4 T.f_l_as_own T.fd_l_as_own ["order", "names", "masks"] (sp_l_as_own T) := by
  refine T.F_l_as_own.ok sc_l_as_own (fun vs H Q E h => sp_l_as_own_len h) (fun cdv A outer s H vs Q E hr h => ?_)
  refine ⟨_, (pss_cons (ps_set (i := 3) sc_l_as_own.nd rfl (.inl rfl) (pe_callB (cr_sortA K rfl) (by rfl) T.m_sorted (by decide +kernel) (pa_cons (pe_slice (sl_M K) (pv 1) po_none (po_some (pe_callB (cr_lenK K) (by rfl) T.m_len (by decide +kernel) (pa_cons (pv 2) pa_nil)))) pa_nil)))
      (pss_cons (ps_for PassesOwn.never rfl (pi_range1 rfl T.m_range (pa_cons pe_int pa_nil)) (pg_name (i := 4) sc_l_as_own.nd rfl (.inl rfl)) (pss_cons (ps_set (i := 5) sc_l_as_own.nd rfl (.inl rfl) (pe_methW0 (pv 0) T.cl_Order T.M_Order_names (ok_Order_names T) (hr.mono (by decide)) T.b_Order_names (pass0S (E := fun _ => E0))))
      (pss_cons (ps_if (PW.pt (pw_or (pt_not (pt_val (pe_callB (cr_isK K) (by rfl) T.m_isinstance (by decide +kernel) (pa_cons (pv 5) (pa_cons (pe_bltn (v := .ty "list") (by rfl) T.m_list (by decide +kernel) rfl) pa_nil))))) (pw_or1 (pt_cmpR (op_neK K hr.units) (pv 5) (pv 3) (nomark _))))) (pss_one (ps_ret pe_bl)) pss_nil)
      (pss_cons (ps_if (pt_cmpR (op_neK K hr.units) (pe_lc (own := [("name", 10)]) (g := gName 10) (tt := tYes) rfl sc_l_as_own.nd (k_oi K (pi_ownI (pv 0) ⟨T.M_Order___iter__.at_, T.M_Order___iter__.fn⟩ (ok_Order___iter__ T) T.b_Order___iter__ pass0 (hr.mono (by decide)))) (blkOk_by (N := n_l_as_own) (sc := defScope s_l_as_own) (by decide +kernel)) (fun _ _ _ _ _ => (pg_name (i := 10) sc_l_as_own.nd rfl (.inl rfl))) (fun _ _ _ _ _ => pts_nil) (fun _ _ _ _ _ => (pv 10))) (pv 3) (nomark _)) (pss_one (ps_ret pe_bl)) pss_nil)
      (pss_one (ps_expr (k_bm K (pe_bm PySem.F.plainAttrs_list PySem.F.slot_list_append PySem.F.type_list_append mt_append (pv 5) (pa_cons pe_str pa_nil)))))))))
      (pss_cons (ps_for PassesOwn.never rfl (pi_range1 rfl T.m_range (pa_cons (pe_callB (cr_lenK K) (by rfl) T.m_len (by decide +kernel) (pa_cons (pv 1) pa_nil)) pa_nil)) (pg_name (i := 6) sc_l_as_own.nd rfl (.inl rfl)) (pss_cons (ps_set (i := 7) sc_l_as_own.nd rfl (.inl rfl) (pe_methW (pv 0) T.cl_Order T.M_Order_has (ok_Order_has T) (hr.mono (by decide)) T.b_Order_has (pass0S (E := fun _ => E0)) (pa_cons (pe_ix (ix_K K (hu_of hr)) (pv 1) (pv 6) (fun _ _ => rfl)) pa_nil)))
      (pss_one (ps_if (PW.pt (pw_or (pt_not (pt_val (pe_callB (cr_isK K) (by rfl) T.m_isinstance (by decide +kernel) (pa_cons (pv 7) (pa_cons (pe_bltn (v := .ty "bool") (by rfl) T.m_bool (by decide +kernel) rfl) pa_nil))))) (pw_or1 (pt_cmpR (op_neK K hr.units) (pv 7) (pe_cmpR op_lt (pv 6) (pe_callB (cr_lenK K) (by rfl) T.m_len (by decide +kernel) (pa_cons (pv 2) pa_nil)) (nomark _)) (nomark _))))) (pss_one (ps_ret pe_bl)) pss_nil))))
      (pss_cons (ps_for PassesOwn.never rfl (pi_range1 rfl T.m_range (pa_cons (pe_callB (cr_lenK K) (by rfl) T.m_len (by decide +kernel) (pa_cons (pv 2) pa_nil)) pa_nil)) (pg_name (i := 6) sc_l_as_own.nd rfl (.inl rfl)) (pss_cons (ps_set (i := 8) sc_l_as_own.nd rfl (.inl rfl) (pe_call (ok_l_among T) (hr.mono (by decide)) (by rfl) T.g_l_among T.F_l_among.kp T.b_l_among .nil pass0 (pa_cons (pv 1) (pa_cons (pe_ix (ix_K K (hu_of hr)) (pv 2) (pv 6) (fun _ _ => rfl)) pa_nil))))
      (pss_cons (ps_for PassesOwn.never rfl (pi_range1 rfl T.m_range (pa_cons pe_int pa_nil)) (pg_name (i := 4) sc_l_as_own.nd rfl (.inl rfl)) (pss_cons (ps_set (i := 5) sc_l_as_own.nd rfl (.inl rfl) (pe_methW (pv 0) T.cl_Order T.M_Order_under (ok_Order_under T) (hr.mono (by decide)) T.b_Order_under passNS (pa_cons (pe_ix (ix_K K (hu_of hr)) (pv 1) (pv 6) (fun _ _ => rfl)) pa_nil)))
      (pss_cons (ps_if (PW.pt (pw_or (pt_not (pt_val (pe_callB (cr_isK K) (by rfl) T.m_isinstance (by decide +kernel) (pa_cons (pv 5) (pa_cons (pe_bltn (v := .ty "list") (by rfl) T.m_list (by decide +kernel) rfl) pa_nil))))) (pw_or1 (pt_cmpR (op_neK K hr.units) (pv 5) (pv 8) (nomark _))))) (pss_one (ps_ret pe_bl)) pss_nil)
      (pss_one (ps_expr (k_bm K (pe_bm PySem.F.plainAttrs_list PySem.F.slot_list_append PySem.F.type_list_append mt_append (pv 5) (pa_cons pe_str pa_nil))))))))
      (pss_one (ps_for PassesOwn.never rfl (pi_range1 rfl T.m_range (pa_cons (pe_callB (cr_lenK K) (by rfl) T.m_len (by decide +kernel) (pa_cons (pv 2) pa_nil)) pa_nil)) (pg_name (i := 9) sc_l_as_own.nd rfl (.inl rfl)) (pss_cons (ps_set (i := 7) sc_l_as_own.nd rfl (.inl rfl) (pe_methW (pv 0) T.cl_Order T.M_Order_is_under (ok_Order_is_under T) (hr.mono (by decide)) T.b_Order_is_under passNS (pa_cons (pe_ix (ix_K K (hu_of hr)) (pv 1) (pv 9) (fun _ _ => rfl)) (pa_cons (pe_ix (ix_K K (hu_of hr)) (pv 1) (pv 6) (fun _ _ => rfl)) pa_nil))))
      (pss_one (ps_if (PW.pt (pw_or (pt_not (pt_val (pe_callB (cr_isK K) (by rfl) T.m_isinstance (by decide +kernel) (pa_cons (pv 7) (pa_cons (pe_bltn (v := .ty "bool") (by rfl) T.m_bool (by decide +kernel) rfl) pa_nil))))) (pw_or1 (pt_cmpR (op_neK K hr.units) (pv 7) (pe_cmpR (op_inM K P w hr.units (u65 hr)) (pe_ix (ix_K K (hu_of hr)) (pv 1) (pv 9) (fun _ _ => rfl)) (pv 8) (by rfl)) (nomark _))))) (pss_one (ps_ret pe_bl)) pss_nil))))))))
      (pss_one (ps_ret pe_bl)))))), ?_⟩
  obtain ⟨a, nm, msA, rows, names, ms, rfl, ho, hnm, hms, o, q⟩ := h
  refine g_start (σ' := [some (.ref a), some (.ref nm), some (.ref msA), none, none, none, none, none, none, none, none]) rfl ?_
  have le := o.le
  have few := o.few
  have lr : (rowI ms).length = ms.length := by unfold rowI; rw [List.length_map]
  have h := Has.start H
  walk_at "gg"
  refine g_slM (g_slL hnm h (fun p1 H1 n1 h1 => ?_))
  rw [lr, cutV_to, ← List.map_take] at h1
  walk_at "gg"
  have ltk : (names.take ms.length).length = ms.length := by rw [List.length_take]; omega
  refine g_sortS (h1.get (List.Mem.head _)) (by omega) h1 (fun ds du H2 pm srt n2 h2 => ?_)
  have ascd := asc_of srt (pm.nodup_iff.mpr ((List.take_sublist _ _).nodup o.nd))
  have lds := pm.length_eq
  have md : ∀ z, z ∈ ds ↔ ∃ j, j < ms.length ∧ names[j]? = some z := fun z => by
    rw [pm.mem_iff, List.mem_iff_getElem?]
    constructor
    · rintro ⟨j, e⟩
      have lj := (List.getElem?_eq_some_iff.mp e).1
      rw [ltk] at lj
      rw [List.getElem?_take_of_lt lj] at e
      exact ⟨j, lj, e⟩
    · rintro ⟨j, lj, e⟩
      exact ⟨j, by rw [List.getElem?_take_of_lt lj]; exact e⟩
  have okd : okL ds := fun z hz => by
    obtain ⟨j, _, e⟩ := (md z).mp hz
    exact o.ok z (List.mem_of_getElem? e)
  have h2 : Has H [(du, .lst (ds.map V.str))] H2 := h2.sub (by walk_at "sub")
  have s2 := h2.grow
  have h := h2.frz
  have hdu : upd H du (.lst (ds.map V.str)) du = some (.lst (ds.map V.str)) := upd_same
  generalize upd H du (.lst (ds.map V.str)) = F at h s2 hdu
  have ho := ho.mono s2
  have hnm := s2 _ _ hnm
  have hms := s2 _ _ hms
  obtain ⟨dx, d, nl, kvs, at_, okk⟩ := ho.ex
  obtain ⟨ns, hn, ascn, mn⟩ := okk.names
  have eN : ns = ds := Asc.ext ascn ascd fun z => by rw [mn z, ← kn_mem, o.knw, md z]
  subst eN
  clear h1 h2 n1 n2
  -- names, the walk over the order
  walk_at "gg"
  refine k_forR1 (fun t σ H' => ∃ (y4 y5 : Option V), σ = [some (.ref a), some (.ref nm), some (.ref msA), some (.ref du), y4, y5, none, none, none, none, none] ∧ Has F [] H') (by decide) (by decide) ⟨_, _, rfl, h⟩ ?_ ?_
  · rintro t σ H3 ht ⟨y4, y5, rfl, h3⟩
    walk_at "gg"
    refine g_kmeth (at_.mono h3.same).i rfl ?_
    walk_at "gg"
    refine ⟨a, rows, rfl, ho.mono h3.same, fun pn H4 ns2 s4 n4 hp asc2 m2 => ?_⟩
    have e2 : ns2 = ns := Asc.ext asc2 ascn fun z => by rw [m2 z, mn z]
    subst e2
    have h4 := h3.made n4 s4 hp
    walk_at "gg"
    refine ne_lists (h4.get (List.Mem.head _)) (h4.same _ _ hdu) okd ?_
    walk_at "gg"
    refine g_lcO ?_
    walk_at "gg"
    refine k_lcO (at_.mono h4.same).i rfl (h4.same _ _ hn) (k_lcL (h4.same _ _ hn) h4 (fun i acc F' O' => acc = (ns2.take i).map V.str ∧ F = F' ∧ O' = [(pn, HO.lst (ns2.map V.str))]) ⟨rfl, rfl, rfl⟩ ?_ ?_ ?_)
    · rintro i acc F' O' H5 ⟨_, rfl, rfl⟩ hh
      exact hh.same _ _ hn
    · rintro i x acc F' O' D H5 hx ⟨rfl, rfl, rfl⟩ hh
      obtain ⟨z, hz, rfl⟩ := str_at hx
      have li := (List.getElem?_eq_some_iff.mp hz).1
      walk_at "gg"
      refine k_turn hh (by rw [List.length_map, List.length_take]; omega) ⟨?_, rfl, rfl⟩
      rw [List.take_add_one, hz, List.map_append]
      rfl
    rintro acc F' O' pl H5 ⟨rfl, rfl, rfl⟩ h5
    rw [List.length_map, List.take_length] at h5
    walk_at "gg"
    refine ne_lists (h5.get (List.Mem.head _)) (h5.same _ _ hdu) okd ?_
    have h5 := h5.drop
    walk_at "gg"
    refine g_append h5 .hd (szl (by rw [List.length_map]; omega)) (fun H6 h6 => ?_)
    walk_at "gg"
    exact ⟨_, _, rfl, h6.drop⟩
  rintro σ H3 ⟨y4, y5, rfl, h3⟩
  -- has
  walk_at "gg"
  rw [List.length_map]
  refine k_forR1 (fun t σ H' => ∃ (y6 y7 : Option V), σ = [some (.ref a), some (.ref nm), some (.ref msA), some (.ref du), y4, y5, y6, y7, none, none, none] ∧ Has F [] H') (by omega) (by omega) ⟨_, _, rfl, h3⟩ ?_ ?_
  · rintro i σ H4 hi ⟨y6, y7, rfl, h4⟩
    have hi : i < names.length := by omega
    have ei : names[i]? = some names[i] := List.getElem?_eq_getElem hi
    generalize names[i] = x at ei
    walk_at "gg"
    refine g_kmeth (at_.mono h4.same).i rfl ?_
    walk_at "gg"
    refine g_ixL (v := .str x) (h4.same _ _ hnm) (atI_nat (by rw [List.getElem?_map, ei]; rfl)) ?_
    walk_at "gg"
    refine ⟨a, rows, x, rfl, ho.mono h4.same, ?_⟩
    rw [o.kn ei]
    walk_at "gg"
    rw [lr]
    have eb : decide ((i : Int) < (ms.length : Int)) = decide (i < ms.length) := by
      rw [Bool.eq_iff_iff, decide_eq_true_eq, decide_eq_true_eq]
      omega
    rw [eb]
    refine i_n (fun c => (c rfl).elim) (fun _ => ?_)
    walk_at "gg"
    exact ⟨_, _, rfl, h4⟩
  rintro σ H4 ⟨y6, y7, rfl, h4⟩
  -- under, is_under
  walk_at "gg"
  rw [lr]
  refine k_forR1 (fun t σ H' => ∃ (y4 y5 y6 y7 y8 y9 : Option V), σ = [some (.ref a), some (.ref nm), some (.ref msA), some (.ref du), y4, y5, y6, y7, y8, y9, none] ∧ Has F [] H') (by omega) (by omega) ⟨_, _, _, _, _, _, rfl, h4⟩ ?_ ?_
  · rintro i σ H5 hi ⟨y4, y5, y6, y7, y8, y9, rfl, h5⟩
    have hi : i < ms.length := by omega
    have ei : names[i]? = some (names[i]'(by omega)) := List.getElem?_eq_getElem (by omega)
    generalize names[i]'(by omega) = x at ei
    have em : ms[i]? = some ms[i] := List.getElem?_eq_getElem hi
    generalize ms[i] = m at em
    obtain ⟨u, eu, mz⟩ := o.und i x m ei em
    have ascU : Asc u := okk.asc _ (undr_mem eu)
    walk_at "gg"
    refine g_ixL (h5.same _ _ hms) (rowI_at em) ?_
    walk_at "gg"
    refine ⟨nm, names, m, rfl, h5.same _ _ hnm, o.nd, few, fun up H6 uu s6 n6 hup ascu mu => ?_⟩
    have eU : u = uu := Asc.ext ascU ascu fun z => by rw [mz z, mu z]
    subst eU
    have oku := nmb_okS o.ok mu
    have lu := okk.under_few eu
    have h6a := h5.made n6 s6 hup
    have s56 := h6a.grow
    have h6 := h6a.frz
    clear h6a
    have fup : upd F up (.lst (u.map V.str)) up = some (.lst (u.map V.str)) := upd_same
    generalize upd F up (.lst (u.map V.str)) = F6 at h6 s56 fup
    walk_at "gg"
    refine k_forR1 (fun t σ H' => ∃ (y4 y5 : Option V), σ = [some (.ref a), some (.ref nm), some (.ref msA), some (.ref du), y4, y5, some (.int (i : Nat)), y7, some (.ref up), y9, none] ∧ Has F6 [] H') (by decide) (by decide) ⟨_, _, rfl, h6⟩ ?_ ?_
    · rintro t σ H7 ht ⟨y4, y5, rfl, h7⟩
      walk_at "gg"
      refine g_kmeth (at_.mono (s56.trans h7.same)).i rfl ?_
      walk_at "gg"
      refine g_ixL (v := .str x) (h7.same _ _ (s56 _ _ hnm)) (atI_nat (by rw [List.getElem?_map, ei]; rfl)) ?_
      walk_at "gg"
      refine ⟨a, rows, x, rfl, ho.mono (s56.trans h7.same), fun u' eu' tp H8 s8 n8 h8 => ?_, fun e => by rw [eu] at e; cases e⟩
      have e8 : u' = u := by rw [eu] at eu'; exact (Option.some.inj eu').symm
      rw [e8] at h8
      have h8' := h7.made n8 s8 h8
      walk_at "gg"
      refine ne_lists h8 (h8'.same _ _ fup) oku ?_
      walk_at "gg"
      refine g_append h8' .hd (szl (by rw [List.length_map]; omega)) (fun H9 h9 => ?_)
      walk_at "gg"
      exact ⟨_, _, rfl, h9.drop⟩
    rintro σ H7 ⟨y4, y5, rfl, h7⟩
    have hms6 := s56 _ _ hms
    walk_at "gg"
    rw [lr]
    refine k_forR1 (fun t σ H' => ∃ (y7 y9 : Option V), σ = [some (.ref a), some (.ref nm), some (.ref msA), some (.ref du), y4, y5, some (.int (i : Nat)), y7, some (.ref up), y9, none] ∧ Has F6 [] H') (by omega) (by omega) ⟨_, _, rfl, h7⟩ ?_ ?_
    · rintro k σ H8 hk ⟨y7, y9, rfl, h8⟩
      have hk : k < ms.length := by omega
      have ek : names[k]? = some (names[k]'(by omega)) := List.getElem?_eq_getElem (by omega)
      generalize names[k]'(by omega) = y at ek
      have emk : ms[k]? = some ms[k] := List.getElem?_eq_getElem hk
      obtain ⟨v, ev, _⟩ := o.und k y _ ek emk
      walk_at "gg"
      refine g_kmeth (at_.mono (s56.trans h8.same)).i rfl ?_
      walk_at "gg"
      refine g_ixL (v := .str y) (h8.same _ _ (s56 _ _ hnm)) (atI_nat (by rw [List.getElem?_map, ek]; rfl)) ?_
      walk_at "gg"
      refine g_ixL (v := .str x) (h8.same _ _ (s56 _ _ hnm)) (atI_nat (by rw [List.getElem?_map, ei]; rfl)) ?_
      walk_at "gg"
      refine ⟨a, rows, y, x, rfl, ho.mono (s56.trans h8.same), fun u1 v1 e1 e2 => ?_, (fun e => by rw [ev] at e; cases e), (fun _ _ e => by rw [eu] at e; cases e)⟩
      have e3 : v1 = u := by rw [eu] at e2; exact (Option.some.inj e2).symm
      subst e3
      walk_at "gg"
      refine g_ixL (v := .str y) (h8.same _ _ (s56 _ _ hnm)) (atI_nat (by rw [List.getElem?_map, ek]; rfl)) ?_
      walk_at "gg"
      refine g_inM (g_inFL (h8.same _ _ fup) rfl (flat_strs _) ?_)
      rw [inV_strs]
      walk_at "gg"
      refine i_n (fun c => (c rfl).elim) (fun _ => ?_)
      walk_at "gg"
      exact ⟨_, _, rfl, h8⟩
    rintro σ H8 ⟨y7, y9, rfl, h8⟩
    walk_at "gg"
    exact ⟨_, _, _, _, _, _, rfl, h8.mono s56⟩
  rintro σ H5 ⟨y4, y5, y6, y7, y8, y9, rfl, h5⟩
  walk_at "gg"
  exact q H5 (s2.trans h5.same)
end

end K13

namespace K13
open PySem PySem.Spec PyProof.Rows L2 Qk
local macro_rules | `(tactic| walk_at "m") => `(tactic| ((repeat (first | exact List.Mem.head _ | apply List.Mem.tail)); done))
local macro_rules | `(tactic| walk_at "h") => `(tactic| first | assumption | exact Has.gF (by assumption) (by assumption) | exact Has.get (by assumption) (by walk_at "m"))
local macro_rules | `(tactic| walk_at "c") => `(tactic| ((repeat (first | exact Chg.hd | apply Chg.tl)); done))
local macro_rules | `(tactic| walk_at "is") => `(tactic| first
  | ((with_reducible refine' is2_non ?gh ?_); (case gh => walk_at "h"))
  | (with_reducible refine is_int_list ?_)
  | (with_reducible refine is_int_tuple ?_)
  | (with_reducible refine is_int_dict ?_)
  | (with_reducible refine is_int_int ?_)
  | (with_reducible refine is_int_bool ?_)
  | (with_reducible refine is_int_str ?_)
  | ((with_reducible refine' is2_int ?gh ?_); (case gh => walk_at "h"))
  | (with_reducible refine is_str_list ?_)
  | (with_reducible refine is_str_tuple ?_)
  | (with_reducible refine is_str_dict ?_)
  | (with_reducible refine is_str_int ?_)
  | (with_reducible refine is_str_bool ?_)
  | (with_reducible refine is_str_str ?_)
  | ((with_reducible refine' is2_str ?gh ?_); (case gh => walk_at "h"))
  | (with_reducible refine is_bool_list ?_)
  | (with_reducible refine is_bool_tuple ?_)
  | (with_reducible refine is_bool_dict ?_)
  | (with_reducible refine is_bool_int ?_)
  | (with_reducible refine is_bool_bool ?_)
  | (with_reducible refine is_bool_str ?_)
  | ((with_reducible refine' is2_bool ?gh ?_); (case gh => walk_at "h"))
  | ((with_reducible refine' is_list_list ?gh ?_); (case gh => walk_at "h"))
  | ((with_reducible refine' is_list_tuple ?gh ?_); (case gh => walk_at "h"))
  | ((with_reducible refine' is_list_dict ?gh ?_); (case gh => walk_at "h"))
  | ((with_reducible refine' is_list_int ?gh ?_); (case gh => walk_at "h"))
  | ((with_reducible refine' is_list_bool ?gh ?_); (case gh => walk_at "h"))
  | ((with_reducible refine' is_list_str ?gh ?_); (case gh => walk_at "h"))
  | ((with_reducible refine' is2_list ?ga ?gb ?_); (case ga => walk_at "h"); (case gb => walk_at "h"))
  | ((with_reducible refine' is_tuple_list ?gh ?_); (case gh => walk_at "h"))
  | ((with_reducible refine' is_tuple_tuple ?gh ?_); (case gh => walk_at "h"))
  | ((with_reducible refine' is_tuple_dict ?gh ?_); (case gh => walk_at "h"))
  | ((with_reducible refine' is_tuple_int ?gh ?_); (case gh => walk_at "h"))
  | ((with_reducible refine' is_tuple_bool ?gh ?_); (case gh => walk_at "h"))
  | ((with_reducible refine' is_tuple_str ?gh ?_); (case gh => walk_at "h"))
  | ((with_reducible refine' is2_tuple ?ga ?gb ?_); (case ga => walk_at "h"); (case gb => walk_at "h"))
  | ((with_reducible refine' is_dict_list ?gh ?_); (case gh => walk_at "h"))
  | ((with_reducible refine' is_dict_tuple ?gh ?_); (case gh => walk_at "h"))
  | ((with_reducible refine' is_dict_dict ?gh ?_); (case gh => walk_at "h"))
  | ((with_reducible refine' is_dict_int ?gh ?_); (case gh => walk_at "h"))
  | ((with_reducible refine' is_dict_bool ?gh ?_); (case gh => walk_at "h"))
  | ((with_reducible refine' is_dict_str ?gh ?_); (case gh => walk_at "h"))
  | ((with_reducible refine' is2_dict ?ga ?gb ?_); (case ga => walk_at "h"); (case gb => walk_at "h")))
local macro_rules | `(tactic| walk_at "g") => `(tactic| first
  | (with_reducible refine g_seq ?_)
  | (with_reducible refine g_asg ?_)
  | ((with_reducible refine g_name ?_); dsimp only [List.set, wipe, List.map])
  | ((with_reducible refine' g_var ?gv ?_); (case gv => exact rfl))
  | (with_reducible refine g_c ?_)
  | (with_reducible refine g_op ?_)
  | (with_reducible refine g_cons ?_)
  | (with_reducible refine g_nil ?_)
  | (with_reducible refine g_cb ?_)
  | (with_reducible refine g_call ?_)
  | (with_reducible refine g_tup ?_)
  | (with_reducible refine g_lst ?_)
  | (with_reducible refine g_bm ?_)
  | (with_reducible refine g_bm0 ?_)
  | ((with_reducible refine' g_kbm ?gh ?_); (case gh => walk_at "h"))
  | (with_reducible refine g_drop ?_)
  | (with_reducible refine g_ret ?_)
  | (with_reducible refine g_retN ?_)
  | (with_reducible refine g_next ?_)
  | (with_reducible refine g_brk ?_)
  | (with_reducible refine g_cont ?_)
  | (with_reducible refine g_if ?_)
  | ((with_reducible refine' g_aug ?gv ?_); (case gv => exact rfl))
  | (with_reducible refine g_ipI ?_)
  | (with_reducible refine g_test ?_)
  | (with_reducible refine g_tB ?_)
  | (with_reducible refine g_kB ?_)
  | (with_reducible refine g_not ?_)
  | (with_reducible refine g_and ?_)
  | (with_reducible refine g_or ?_)
  | (with_reducible refine g_andV ?_)
  | (with_reducible refine g_orV ?_)
  | (with_reducible refine g_notV ?_)
  | (with_reducible refine g_ifE ?_)
  | (with_reducible refine g_addI ?_)
  | (with_reducible refine g_rI0 ?_)
  | (with_reducible refine g_eqI ?_)
  | (with_reducible refine g_eqS ?_)
  | (with_reducible refine g_neI ?_)
  | (with_reducible refine g_neS ?_)
  | (with_reducible refine g_isN ?_)
  | (with_reducible refine g_notN ?_)
  | (with_reducible refine g_int ?_)
  | (with_reducible refine g_max2 ?_)
  | (with_reducible refine g_min2 ?_)
  | ((with_reducible refine' g_lenL ?gh ?_); (case gh => walk_at "h"))
  | (with_reducible refine g_sub ?_)
  | (with_reducible refine g_gcons ?_)
  | (with_reducible refine g_gnil ?_)
  | (with_reducible refine g_un ?_)
  | (with_reducible refine g_rU ?_)
  | (with_reducible refine g_forL ?_)
  | (with_reducible refine g_forS ?_)
  | (with_reducible refine g_forR1 ?_)
  | (with_reducible refine g_forR2 ?_)
  | (with_reducible refine g_forR3 ?_)
  | (with_reducible refine g_lcL ?_)
  | (with_reducible refine g_lcR1 ?_)
  | (with_reducible refine g_lcR2 ?_)
  | (with_reducible refine g_slice ?_)
  | (with_reducible refine g_part ?_)
  | (with_reducible refine g_kOI ?_)
  | (with_reducible refine g_nopart ?_)
  | (with_reducible refine g_yes ?_)
  | ((with_reducible refine' g_wipe ?gv ?_); (case gv => exact rfl))
  | (with_reducible refine iteT ?_)
  | (with_reducible refine iteF ?_)
  | (with_reducible refine i_nf ?_)
  | (with_reducible refine i_nt ?_)
  | ((with_reducible refine' g_gtup ?gh ?gl ?_); (case gh => walk_at "h"); (case gl => exact rfl))
  | ((with_reducible refine' g_notinI ?gh ?_); (case gh => walk_at "h"))
  | ((with_reducible refine' g_inI ?gh ?_); (case gh => walk_at "h"))
  | ((with_reducible refine' g_kget2 ?gh ?_); (case gh => walk_at "h"))
  | ((with_reducible refine' g_kgotI ?gh ?_); (case gh => walk_at "h"))
  | (with_reducible refine g_tRev ?_)
  | (with_reducible refine g_neB ?_)
  | (with_reducible refine g_eqB ?_)
  | ((with_reducible refine' g_lenT ?gh ?_); (case gh => walk_at "h"))
  | (with_reducible refine g_star ?_)
  | ((with_reducible refine' g_kstarL ?gh ?_); (case gh => walk_at "h"))
  | ((with_reducible refine' g_kstarT ?gh ?_); (case gh => walk_at "h"))
  | (with_reducible refine g_tru ?_)
  | ((with_reducible refine' g_truL ?gh ?_); (case gh => walk_at "h"))
  | (with_reducible refine g_get2 ?_)
  | (with_reducible refine g_try ?_)
  | (with_reducible refine g_fld ?_)
  | (with_reducible refine g_sfld ?_)
  | (with_reducible refine g_meth ?_)
  | (with_reducible refine g_make ?_)
  | (with_reducible refine g_del ?_)
  | (with_reducible refine g_callS ?_)
  | (with_reducible refine g_raise ?_)
  | (with_reducible refine g_xf ?_)
  | (with_reducible refine g_m0 ?_)
  | (with_reducible refine g_km0 ?_)
  | walk_at "is")
local macro_rules | `(tactic| walk_at "gg") => `(tactic| repeat walk_at "g")
local macro_rules | `(tactic| walk_at "sz") => `(tactic| (refine sz ?_; simp only [List.length_cons, List.length_nil, List.length_map, List.length_append, List.length_replicate]; omega))
local macro_rules | `(tactic| walk_at "sub") => `(tactic| ((repeat (first | exact List.Sublist.slnil | with_reducible apply List.Sublist.cons_cons | with_reducible apply List.Sublist.cons)); done))

/-! ### puts, as the law asks them -/
def badD (k : Nat) (z : Str) : PyData := .list [.bool true, .list [.bool (decide (k = 0)), .bool (decide (k = 1)), .bool (decide (k = 2)), .bool (decide (k = 3))], .str z]
def goodD : PyData := .list [.bool true, .list [], .str ""]
section
variable {P : Program} {w : World} {K : PySem.W.Frag} {mg : Str → Option Value} {base : Heap}
/-- two orders and what else is owned -/
def StR (T : Txt K mg) (A B : OA) (R : Own) (F H : Hp) (rows rows2 : List URow) : Prop := ∃ nl kvs nl2 kvs2, Has F (OrdO T A.a A.x A.d nl kvs ++ (OrdO T B.a B.x B.d nl2 kvs2 ++ R)) H ∧ OrdOk F nl kvs rows ∧ OrdOk F nl2 kvs2 rows2
theorem StO.r {T : Txt K mg} {A B : OA} {F H : Hp} {rows rows2 : List URow} (st : StO T A B F H rows rows2) : StR T A B [] F H rows rows2 := by
  obtain ⟨nl, kvs, nl2, kvs2, h, ok⟩ := st
  exact ⟨nl, kvs, nl2, kvs2, by rw [List.append_nil]; exact h, ok⟩
theorem StR.o {T : Txt K mg} {A B : OA} {F H : Hp} {rows rows2 : List URow} (st : StR T A B [] F H rows rows2) : StO T A B F H rows rows2 := by
  obtain ⟨nl, kvs, nl2, kvs2, h, ok⟩ := st
  exact ⟨nl, kvs, nl2, kvs2, by rw [List.append_nil] at h; exact h, ok⟩
theorem StR.put13 {T : Txt K mg} {A B : OA} {R : Own} {F H : Hp} {rows rows2 : List URow} {Q : VK} {E : XK} {x : Str} {ps : List Str} {l : Addr} (st : StR T A B R F H rows rows2) (hl : H l = some (.lst (ps.map V.str))) (lx : x.length ≤ 10000) (lp : ps.length ≤ 200) (few : rows.length < 60)
    (q : putE rows x ps = none → ∀ H' F' us, Same F F' → StR T A B R F' H' (rows ++ [(x, us)]) rows2 → PutU rows x ps us → Q .non H')
    (e0 : ∀ z, putE rows x ps = some (0, z) → lost_nm T.C_BadName H E z) (e1 : ∀ z, putE rows x ps = some (1, z) → lost_nm T.C_Taken H E z) (e2 : ∀ z, putE rows x ps = some (2, z) → lost_nm T.C_Unknown H E z) (e3 : ∀ z, putE rows x ps = some (3, z) → lost_nm T.C_Repeated H E z) : sp_Order_put T [.ref A.a, .str x, .ref l] H Q E := by
  obtain ⟨nl, kvs, nl2, kvs2, h, ok, ok2⟩ := st
  refine ⟨A.a, A.x, A.d, nl, l, F, kvs, rows, x, ps, rfl, h.sub (List.sublist_append_left _ _), ok, hl, lx, lp, few, fun en H' F' nl' kvs' us hb g h' ok' pu => ?_, e0, e1, e2, e3⟩
  exact q en H' F' us g.1 ⟨nl', kvs', nl2, kvs2, Has.grownA h hb g h' ordO_addr, ok', ok2.mono g.1⟩ pu
theorem StR.ins {T : Txt K mg} {A B : OA} {R : Own} {F H : Hp} {rows rows2 : List URow} (st : StR T A B R F H rows rows2) : ∃ nl, H A.a = some (.ins T.C_Order A.x (of_ nl A.d)) := by
  obtain ⟨nl, kvs, nl2, kvs2, h, ok, ok2⟩ := st
  exact ⟨nl, h.get (List.mem_append_left _ (List.Mem.head _))⟩
/-- where the list of the parents lies -/
def AtL (R : Own) (F : Hp) (l : Addr) (ps : List Str) : Prop := ∀ {F' : Hp} {O : Own} {H' : Hp}, Same F F' → (∀ q ∈ R, q ∈ O) → Has F' O H' → H' l = some (.lst (ps.map V.str))
theorem AtL.f {R : Own} {F : Hp} {l : Addr} {ps : List Str} (h : F l = some (.lst (ps.map V.str))) : AtL R F l ps := fun s _ hh => hh.same _ _ (s _ _ h)
theorem AtL.r {R : Own} {F : Hp} {l : Addr} {ps : List Str} : AtL ((l, .lst (ps.map V.str)) :: R) F l ps := fun _ m hh => hh.get (m _ (List.Mem.head _))
def sp_l_put (T : Txt K mg) : Sp := fun vs H Q _ => ∃ (A B : OA) (R : Own) (F : Hp) (rows rows2 : List URow) (x : Str) (l : Addr) (ps : List Str), vs = [.ref A.a, .str x, .ref l] ∧ StR T A B R F H rows rows2 ∧ AtL R F l ps ∧ okL ps ∧ x.length ≤ 10000 ∧ ps.length ≤ 200 ∧ rows.length < 60 ∧
  (putE rows x ps = none → ∀ p H' F' us, Same F F' → StR T A B R F' H' (rows ++ [(x, us)]) rows2 → PutU rows x ps us → Dq F' (.ref p) goodD → Q (.ref p) H') ∧
  (∀ k z, putE rows x ps = some (k, z) → ∀ p H' F', Same F F' → StR T A B R F' H' rows rows2 → Dq F' (.ref p) (badD k z) → Q (.ref p) H')
theorem sp_l_put_len {T : Txt K mg} {vs H Q E} (h : sp_l_put T vs H Q E) : vs.length = 3 := by
  obtain ⟨_, _, _, _, _, _, _, _, _, rfl, _⟩ := h
  rfl
set_option maxHeartbeats 1000000 in
theorem ok_l_put (T : Txt K mg) : FnOk P w K mg base CX0 5 T.f_l_put T.fd_l_put ["order", "name", "parents"] (sp_l_put T) := by
  refine T.F_l_put.ok sc_l_put (fun vs H Q E h => sp_l_put_len h) (fun cdv A outer s H vs Q E hr h => ?_)
  refine ⟨_, (pss_cons (ps_set (i := 3) sc_l_put.nd rfl (.inl rfl) (pe_callTy (cr_listK K) (by rfl) T.m_list (by decide +kernel) (pa_cons (pv 2) pa_nil)))
      (pss_cons (k_try K (i := 5) (Wout := fun _ _ _ _ => False) rfl rfl sc_l_put.nd rfl rfl ⟨rfl, by decide, Or.inl T.g_PartError⟩ takesN (fun W pn xe tk hown => (pss_one (ps_set (i := 4) sc_l_put.nd rfl (.inl rfl) (pe_methW (pv 0) T.cl_Order T.M_Order_put (ok_Order_put T) (hr.mono (by decide)) T.b_Order_put (fun σ => L2N.passAt tk σ) (pa_cons (pv 1) (pa_cons (pv 2) pa_nil)))))) (fun a oe cls d pn hz hf => (pss_cons (ps_set (i := 6) sc_l_put.nd rfl (.inl rfl) (pe_lst (pa_cons (pe_callB (cr_isX K hz.zc hf) (by rfl) T.m_isinstance (by decide +kernel) (pa_cons (pv 5) (pa_cons (pe_gc (v := .ref T.C_BadName) (by rfl) ⟨_, T.g_BadName, rfl⟩) pa_nil))) (pa_cons (pe_callB (cr_isX K hz.zc hf) (by rfl) T.m_isinstance (by decide +kernel) (pa_cons (pv 5) (pa_cons (pe_gc (v := .ref T.C_Taken) (by rfl) ⟨_, T.g_Taken, rfl⟩) pa_nil))) pa_nil))))
      (pss_cons (ps_set (i := 6) sc_l_put.nd rfl (.inl rfl) (pe_op (op_addK K) (pv 6) (pe_lst (pa_cons (pe_callB (cr_isX K hz.zc hf) (by rfl) T.m_isinstance (by decide +kernel) (pa_cons (pv 5) (pa_cons (pe_gc (v := .ref T.C_Unknown) (by rfl) ⟨_, T.g_Unknown, rfl⟩) pa_nil))) (pa_cons (pe_callB (cr_isX K hz.zc hf) (by rfl) T.m_isinstance (by decide +kernel) (pa_cons (pv 5) (pa_cons (pe_gc (v := .ref T.C_Repeated) (by rfl) ⟨_, T.g_Repeated, rfl⟩) pa_nil))) pa_nil)))))
      (pss_one (ps_ret (pe_lst (pa_cons (pe_and (pe_cmpR (op_eqK K hr.units) (pv 2) (pv 3) (nomark _)) (pe_one (pe_callB (cr_isX K hz.zc hf) (by rfl) T.m_isinstance (by decide +kernel) (pa_cons (pv 5) (pa_cons (pe_bltn (v := .ty "ValueError") (by rfl) T.m_ValueError (by decide +kernel) rfl) pa_nil))))) (pa_cons (pv 6) (pa_cons (pe_xfA K hz.zc hf (pv 5)) pa_nil))))))))))
      (pss_one (ps_ret (pe_lst (pa_cons (pe_and (pe_cmpR (op_eqK K hr.units) (pv 2) (pv 3) (nomark _)) (pe_one (pe_cmpR op_isNA (pv 4) pe_non (nomark _)))) (pa_cons (pe_lst pa_nil) (pa_cons pe_str pa_nil)))))))), ?_⟩
  obtain ⟨A, B, R, F, rows, rows2, x, l, ps, rfl, st, hl, okp, lx, lp, few, q, qe⟩ := h
  refine g_start (σ' := [some (.ref A.a), some (.str x), some (.ref l), none, none, none, none]) rfl ?_
  obtain ⟨nl, kvs, nl2, kvs2, h, ok, ok2⟩ := st
  walk_at "gg"
  refine g_listL (hl (Same.refl _) (by intro q m; repeat (first | exact List.mem_append_right _ (List.mem_append_right _ m) | apply List.mem_cons_of_mem)) h) h (fun kp H4 n4 h4 => ?_)
  have s4 := h4.grow
  have fk : upd F kp (.lst (ps.map V.str)) kp = some (.lst (ps.map V.str)) := upd_same
  have h4 := h4.frz
  have ok := ok.mono s4
  have ok2 := ok2.mono s4
  generalize upd F kp (.lst (ps.map V.str)) = F4 at h4 s4 fk ok ok2
  have st4 : StR T A B R F4 H4 rows rows2 := ⟨nl, kvs, nl2, kvs2, h4, ok, ok2⟩
  walk_at "gg"
  obtain ⟨nl_, ins⟩ := st4.ins
  refine g_kmeth ins rfl ?_
  walk_at "gg"
  refine StR.put13 st4 (hl s4 (by intro q m; repeat (first | exact List.mem_append_right _ (List.mem_append_right _ m) | apply List.mem_cons_of_mem)) h4) lx lp few ?_ ?_ ?_ ?_ ?_
  · intro en H5 F5 us s5 st5 pu
    have fk5 := s5 _ _ fk
    obtain ⟨nl', kvs', nl2', kvs2', h5, ok5, ok25⟩ := st5
    walk_at "gg"
    refine g_eqD (Dq.strs (xs := ps) (hl (s4.trans s5) (by intro q m; repeat (first | exact List.mem_append_right _ (List.mem_append_right _ m) | apply List.mem_cons_of_mem)) h5)) (Dq.strs (xs := ps) (h5.same _ _ fk5)) ((Sh.strs (n := 0) okp).ok (by decide)) ((Sh.strs (n := 0) okp).ok (by decide)) ?_
    rw [eqv_strs, decide_eq_true rfl]
    walk_at "gg"
    rw [decide_eq_true rfl]
    refine g_klstF (by walk_at "sz") h5 (fun ep H6 F6 n6 s6 f6 h6 => ?_)
    walk_at "gg"
    refine g_klstF (by walk_at "sz") h6 (fun rp H7 F7 n7 s7 f7 h7 => ?_)
    have s57 := s6.trans s7
    exact q en rp H7 F7 us (s4.trans (s5.trans s57)) ⟨nl', kvs', nl2', kvs2', h7, ok5.mono s57, ok25.mono s57⟩ pu (.lst f7 (.cons (.bl _) (.cons (.lst (s7 _ _ f6) .nil) (.cons (.str _) .nil))))
  · intro z e0 ex H5 s5 nx hx
    have q := qe 0 z e0
    refine g_caught T.M_BadName_PartError (fun exn nxn => ?_)
    have he_ := h4.made nx s5 hx
    walk_at "gg"
    refine g_isX T.IS_BadName (by walk_at "h") T.K_BadName_BadName ?_
    walk_at "gg"
    refine g_isX T.IS_BadName (by walk_at "h") T.K_BadName_Taken ?_
    walk_at "gg"
    refine g_klst (by walk_at "sz") he_ (fun pa HA na ha_ => ?_)
    walk_at "gg"
    refine g_isX T.IS_BadName (by walk_at "h") T.K_BadName_Unknown ?_
    walk_at "gg"
    refine g_isX T.IS_BadName (by walk_at "h") T.K_BadName_Repeated ?_
    walk_at "gg"
    refine g_klst (by walk_at "sz") ha_ (fun pb HB nb hb_ => ?_)
    refine g_addL (hb_.get (by walk_at "m")) (hb_.get (List.Mem.head _)) (sz (by show 2 + 2 ≤ 100000; decide)) hb_ (fun fl HC nc hc_ => ?_)
    walk_at "gg"
    refine g_eqD (Dq.strs (xs := ps) (hl s4 (by intro q m; repeat (first | exact List.mem_append_right _ (List.mem_append_right _ m) | apply List.mem_cons_of_mem)) hc_)) (Dq.strs (xs := ps) (hc_.same _ _ fk)) ((Sh.strs (n := 0) okp).ok (by decide)) ((Sh.strs (n := 0) okp).ok (by decide)) ?_
    rw [eqv_strs, decide_eq_true rfl]
    walk_at "gg"
    refine g_isXT T.IS_BadName (by walk_at "h") T.K_BadName_ValueError ?_
    walk_at "gg"
    refine g_kxf T.XF_BadName T.N_BadName_name (by walk_at "h") rfl ?_
    walk_at "gg"
    have h5 := (hc_.sub (O' := (fl, _) :: (OrdO T A.a A.x A.d nl kvs ++ (OrdO T B.a B.x B.d nl2 kvs2 ++ R))) (List.Sublist.cons_cons _ (List.Sublist.cons _ (List.Sublist.cons _ (List.Sublist.cons _ (List.Sublist.refl _))))))
    have sg := h5.grow
    have ffl : upd F4 fl (.lst ([V.bl true, .bl false] ++ [V.bl false, .bl false])) fl = some (.lst ([V.bl true, .bl false] ++ [V.bl false, .bl false])) := upd_same
    have h5 := h5.frz
    generalize upd F4 fl (.lst ([V.bl true, .bl false] ++ [V.bl false, .bl false])) = F5 at h5 sg ffl
    refine g_klstF (by walk_at "sz") h5 (fun rp HD F6 nd s6 f6 hd_ => ?_)
    exact q rp HD F6 ((s4.trans sg).trans s6) ⟨nl, kvs, nl2, kvs2, hd_, ok.mono (sg.trans s6), ok2.mono (sg.trans s6)⟩ (.lst f6 (.cons (.bl _) (.cons (.lst (s6 _ _ ffl) (.cons (.bl _) (.cons (.bl _) (.cons (.bl _) (.cons (.bl _) .nil))))) (.cons (.str z) .nil))))
  · intro z e0 ex H5 s5 nx hx
    have q := qe 1 z e0
    refine g_caught T.M_Taken_PartError (fun exn nxn => ?_)
    have he_ := h4.made nx s5 hx
    walk_at "gg"
    refine g_isX T.IS_Taken (by walk_at "h") T.K_Taken_BadName ?_
    walk_at "gg"
    refine g_isX T.IS_Taken (by walk_at "h") T.K_Taken_Taken ?_
    walk_at "gg"
    refine g_klst (by walk_at "sz") he_ (fun pa HA na ha_ => ?_)
    walk_at "gg"
    refine g_isX T.IS_Taken (by walk_at "h") T.K_Taken_Unknown ?_
    walk_at "gg"
    refine g_isX T.IS_Taken (by walk_at "h") T.K_Taken_Repeated ?_
    walk_at "gg"
    refine g_klst (by walk_at "sz") ha_ (fun pb HB nb hb_ => ?_)
    refine g_addL (hb_.get (by walk_at "m")) (hb_.get (List.Mem.head _)) (sz (by show 2 + 2 ≤ 100000; decide)) hb_ (fun fl HC nc hc_ => ?_)
    walk_at "gg"
    refine g_eqD (Dq.strs (xs := ps) (hl s4 (by intro q m; repeat (first | exact List.mem_append_right _ (List.mem_append_right _ m) | apply List.mem_cons_of_mem)) hc_)) (Dq.strs (xs := ps) (hc_.same _ _ fk)) ((Sh.strs (n := 0) okp).ok (by decide)) ((Sh.strs (n := 0) okp).ok (by decide)) ?_
    rw [eqv_strs, decide_eq_true rfl]
    walk_at "gg"
    refine g_isXT T.IS_Taken (by walk_at "h") T.K_Taken_ValueError ?_
    walk_at "gg"
    refine g_kxf T.XF_Taken T.N_Taken_name (by walk_at "h") rfl ?_
    walk_at "gg"
    have h5 := (hc_.sub (O' := (fl, _) :: (OrdO T A.a A.x A.d nl kvs ++ (OrdO T B.a B.x B.d nl2 kvs2 ++ R))) (List.Sublist.cons_cons _ (List.Sublist.cons _ (List.Sublist.cons _ (List.Sublist.cons _ (List.Sublist.refl _))))))
    have sg := h5.grow
    have ffl : upd F4 fl (.lst ([V.bl false, .bl true] ++ [V.bl false, .bl false])) fl = some (.lst ([V.bl false, .bl true] ++ [V.bl false, .bl false])) := upd_same
    have h5 := h5.frz
    generalize upd F4 fl (.lst ([V.bl false, .bl true] ++ [V.bl false, .bl false])) = F5 at h5 sg ffl
    refine g_klstF (by walk_at "sz") h5 (fun rp HD F6 nd s6 f6 hd_ => ?_)
    exact q rp HD F6 ((s4.trans sg).trans s6) ⟨nl, kvs, nl2, kvs2, hd_, ok.mono (sg.trans s6), ok2.mono (sg.trans s6)⟩ (.lst f6 (.cons (.bl _) (.cons (.lst (s6 _ _ ffl) (.cons (.bl _) (.cons (.bl _) (.cons (.bl _) (.cons (.bl _) .nil))))) (.cons (.str z) .nil))))
  · intro z e0 ex H5 s5 nx hx
    have q := qe 2 z e0
    refine g_caught T.M_Unknown_PartError (fun exn nxn => ?_)
    have he_ := h4.made nx s5 hx
    walk_at "gg"
    refine g_isX T.IS_Unknown (by walk_at "h") T.K_Unknown_BadName ?_
    walk_at "gg"
    refine g_isX T.IS_Unknown (by walk_at "h") T.K_Unknown_Taken ?_
    walk_at "gg"
    refine g_klst (by walk_at "sz") he_ (fun pa HA na ha_ => ?_)
    walk_at "gg"
    refine g_isX T.IS_Unknown (by walk_at "h") T.K_Unknown_Unknown ?_
    walk_at "gg"
    refine g_isX T.IS_Unknown (by walk_at "h") T.K_Unknown_Repeated ?_
    walk_at "gg"
    refine g_klst (by walk_at "sz") ha_ (fun pb HB nb hb_ => ?_)
    refine g_addL (hb_.get (by walk_at "m")) (hb_.get (List.Mem.head _)) (sz (by show 2 + 2 ≤ 100000; decide)) hb_ (fun fl HC nc hc_ => ?_)
    walk_at "gg"
    refine g_eqD (Dq.strs (xs := ps) (hl s4 (by intro q m; repeat (first | exact List.mem_append_right _ (List.mem_append_right _ m) | apply List.mem_cons_of_mem)) hc_)) (Dq.strs (xs := ps) (hc_.same _ _ fk)) ((Sh.strs (n := 0) okp).ok (by decide)) ((Sh.strs (n := 0) okp).ok (by decide)) ?_
    rw [eqv_strs, decide_eq_true rfl]
    walk_at "gg"
    refine g_isXT T.IS_Unknown (by walk_at "h") T.K_Unknown_ValueError ?_
    walk_at "gg"
    refine g_kxf T.XF_Unknown T.N_Unknown_name (by walk_at "h") rfl ?_
    walk_at "gg"
    have h5 := (hc_.sub (O' := (fl, _) :: (OrdO T A.a A.x A.d nl kvs ++ (OrdO T B.a B.x B.d nl2 kvs2 ++ R))) (List.Sublist.cons_cons _ (List.Sublist.cons _ (List.Sublist.cons _ (List.Sublist.cons _ (List.Sublist.refl _))))))
    have sg := h5.grow
    have ffl : upd F4 fl (.lst ([V.bl false, .bl false] ++ [V.bl true, .bl false])) fl = some (.lst ([V.bl false, .bl false] ++ [V.bl true, .bl false])) := upd_same
    have h5 := h5.frz
    generalize upd F4 fl (.lst ([V.bl false, .bl false] ++ [V.bl true, .bl false])) = F5 at h5 sg ffl
    refine g_klstF (by walk_at "sz") h5 (fun rp HD F6 nd s6 f6 hd_ => ?_)
    exact q rp HD F6 ((s4.trans sg).trans s6) ⟨nl, kvs, nl2, kvs2, hd_, ok.mono (sg.trans s6), ok2.mono (sg.trans s6)⟩ (.lst f6 (.cons (.bl _) (.cons (.lst (s6 _ _ ffl) (.cons (.bl _) (.cons (.bl _) (.cons (.bl _) (.cons (.bl _) .nil))))) (.cons (.str z) .nil))))
  · intro z e0 ex H5 s5 nx hx
    have q := qe 3 z e0
    refine g_caught T.M_Repeated_PartError (fun exn nxn => ?_)
    have he_ := h4.made nx s5 hx
    walk_at "gg"
    refine g_isX T.IS_Repeated (by walk_at "h") T.K_Repeated_BadName ?_
    walk_at "gg"
    refine g_isX T.IS_Repeated (by walk_at "h") T.K_Repeated_Taken ?_
    walk_at "gg"
    refine g_klst (by walk_at "sz") he_ (fun pa HA na ha_ => ?_)
    walk_at "gg"
    refine g_isX T.IS_Repeated (by walk_at "h") T.K_Repeated_Unknown ?_
    walk_at "gg"
    refine g_isX T.IS_Repeated (by walk_at "h") T.K_Repeated_Repeated ?_
    walk_at "gg"
    refine g_klst (by walk_at "sz") ha_ (fun pb HB nb hb_ => ?_)
    refine g_addL (hb_.get (by walk_at "m")) (hb_.get (List.Mem.head _)) (sz (by show 2 + 2 ≤ 100000; decide)) hb_ (fun fl HC nc hc_ => ?_)
    walk_at "gg"
    refine g_eqD (Dq.strs (xs := ps) (hl s4 (by intro q m; repeat (first | exact List.mem_append_right _ (List.mem_append_right _ m) | apply List.mem_cons_of_mem)) hc_)) (Dq.strs (xs := ps) (hc_.same _ _ fk)) ((Sh.strs (n := 0) okp).ok (by decide)) ((Sh.strs (n := 0) okp).ok (by decide)) ?_
    rw [eqv_strs, decide_eq_true rfl]
    walk_at "gg"
    refine g_isXT T.IS_Repeated (by walk_at "h") T.K_Repeated_ValueError ?_
    walk_at "gg"
    refine g_kxf T.XF_Repeated T.N_Repeated_name (by walk_at "h") rfl ?_
    walk_at "gg"
    have h5 := (hc_.sub (O' := (fl, _) :: (OrdO T A.a A.x A.d nl kvs ++ (OrdO T B.a B.x B.d nl2 kvs2 ++ R))) (List.Sublist.cons_cons _ (List.Sublist.cons _ (List.Sublist.cons _ (List.Sublist.cons _ (List.Sublist.refl _))))))
    have sg := h5.grow
    have ffl : upd F4 fl (.lst ([V.bl false, .bl false] ++ [V.bl false, .bl true])) fl = some (.lst ([V.bl false, .bl false] ++ [V.bl false, .bl true])) := upd_same
    have h5 := h5.frz
    generalize upd F4 fl (.lst ([V.bl false, .bl false] ++ [V.bl false, .bl true])) = F5 at h5 sg ffl
    refine g_klstF (by walk_at "sz") h5 (fun rp HD F6 nd s6 f6 hd_ => ?_)
    exact q rp HD F6 ((s4.trans sg).trans s6) ⟨nl, kvs, nl2, kvs2, hd_, ok.mono (sg.trans s6), ok2.mono (sg.trans s6)⟩ (.lst f6 (.cons (.bl _) (.cons (.lst (s6 _ _ ffl) (.cons (.bl _) (.cons (.bl _) (.cons (.bl _) (.cons (.bl _) .nil))))) (.cons (.str z) .nil))))
end

end K13

namespace K13
open PySem PySem.Spec PyProof.Rows L2 Qk
local macro_rules | `(tactic| walk_at "m") => `(tactic| ((repeat (first | exact List.Mem.head _ | apply List.Mem.tail)); done))
local macro_rules | `(tactic| walk_at "h") => `(tactic| first | assumption | exact Has.gF (by assumption) (by assumption) | exact Has.get (by assumption) (by walk_at "m"))
local macro_rules | `(tactic| walk_at "c") => `(tactic| ((repeat (first | exact Chg.hd | apply Chg.tl)); done))
local macro_rules | `(tactic| walk_at "is") => `(tactic| first
  | ((with_reducible refine' is2_non ?gh ?_); (case gh => walk_at "h"))
  | (with_reducible refine is_int_list ?_)
  | (with_reducible refine is_int_tuple ?_)
  | (with_reducible refine is_int_dict ?_)
  | (with_reducible refine is_int_int ?_)
  | (with_reducible refine is_int_bool ?_)
  | (with_reducible refine is_int_str ?_)
  | ((with_reducible refine' is2_int ?gh ?_); (case gh => walk_at "h"))
  | (with_reducible refine is_str_list ?_)
  | (with_reducible refine is_str_tuple ?_)
  | (with_reducible refine is_str_dict ?_)
  | (with_reducible refine is_str_int ?_)
  | (with_reducible refine is_str_bool ?_)
  | (with_reducible refine is_str_str ?_)
  | ((with_reducible refine' is2_str ?gh ?_); (case gh => walk_at "h"))
  | (with_reducible refine is_bool_list ?_)
  | (with_reducible refine is_bool_tuple ?_)
  | (with_reducible refine is_bool_dict ?_)
  | (with_reducible refine is_bool_int ?_)
  | (with_reducible refine is_bool_bool ?_)
  | (with_reducible refine is_bool_str ?_)
  | ((with_reducible refine' is2_bool ?gh ?_); (case gh => walk_at "h"))
  | ((with_reducible refine' is_list_list ?gh ?_); (case gh => walk_at "h"))
  | ((with_reducible refine' is_list_tuple ?gh ?_); (case gh => walk_at "h"))
  | ((with_reducible refine' is_list_dict ?gh ?_); (case gh => walk_at "h"))
  | ((with_reducible refine' is_list_int ?gh ?_); (case gh => walk_at "h"))
  | ((with_reducible refine' is_list_bool ?gh ?_); (case gh => walk_at "h"))
  | ((with_reducible refine' is_list_str ?gh ?_); (case gh => walk_at "h"))
  | ((with_reducible refine' is2_list ?ga ?gb ?_); (case ga => walk_at "h"); (case gb => walk_at "h"))
  | ((with_reducible refine' is_tuple_list ?gh ?_); (case gh => walk_at "h"))
  | ((with_reducible refine' is_tuple_tuple ?gh ?_); (case gh => walk_at "h"))
  | ((with_reducible refine' is_tuple_dict ?gh ?_); (case gh => walk_at "h"))
  | ((with_reducible refine' is_tuple_int ?gh ?_); (case gh => walk_at "h"))
  | ((with_reducible refine' is_tuple_bool ?gh ?_); (case gh => walk_at "h"))
  | ((with_reducible refine' is_tuple_str ?gh ?_); (case gh => walk_at "h"))
  | ((with_reducible refine' is2_tuple ?ga ?gb ?_); (case ga => walk_at "h"); (case gb => walk_at "h"))
  | ((with_reducible refine' is_dict_list ?gh ?_); (case gh => walk_at "h"))
  | ((with_reducible refine' is_dict_tuple ?gh ?_); (case gh => walk_at "h"))
  | ((with_reducible refine' is_dict_dict ?gh ?_); (case gh => walk_at "h"))
  | ((with_reducible refine' is_dict_int ?gh ?_); (case gh => walk_at "h"))
  | ((with_reducible refine' is_dict_bool ?gh ?_); (case gh => walk_at "h"))
  | ((with_reducible refine' is_dict_str ?gh ?_); (case gh => walk_at "h"))
  | ((with_reducible refine' is2_dict ?ga ?gb ?_); (case ga => walk_at "h"); (case gb => walk_at "h")))
local macro_rules | `(tactic| walk_at "g") => `(tactic| first
  | (with_reducible refine g_seq ?_)
  | (with_reducible refine g_asg ?_)
  | ((with_reducible refine g_name ?_); dsimp only [List.set, wipe, List.map])
  | ((with_reducible refine' g_var ?gv ?_); (case gv => exact rfl))
  | (with_reducible refine g_c ?_)
  | (with_reducible refine g_op ?_)
  | (with_reducible refine g_cons ?_)
  | (with_reducible refine g_nil ?_)
  | (with_reducible refine g_cb ?_)
  | (with_reducible refine g_call ?_)
  | (with_reducible refine g_tup ?_)
  | (with_reducible refine g_lst ?_)
  | (with_reducible refine g_bm ?_)
  | (with_reducible refine g_bm0 ?_)
  | ((with_reducible refine' g_kbm ?gh ?_); (case gh => walk_at "h"))
  | (with_reducible refine g_drop ?_)
  | (with_reducible refine g_ret ?_)
  | (with_reducible refine g_retN ?_)
  | (with_reducible refine g_next ?_)
  | (with_reducible refine g_brk ?_)
  | (with_reducible refine g_cont ?_)
  | (with_reducible refine g_if ?_)
  | ((with_reducible refine' g_aug ?gv ?_); (case gv => exact rfl))
  | (with_reducible refine g_ipI ?_)
  | (with_reducible refine g_test ?_)
  | (with_reducible refine g_tB ?_)
  | (with_reducible refine g_kB ?_)
  | (with_reducible refine g_not ?_)
  | (with_reducible refine g_and ?_)
  | (with_reducible refine g_or ?_)
  | (with_reducible refine g_andV ?_)
  | (with_reducible refine g_orV ?_)
  | (with_reducible refine g_notV ?_)
  | (with_reducible refine g_ifE ?_)
  | (with_reducible refine g_addI ?_)
  | (with_reducible refine g_rI0 ?_)
  | (with_reducible refine g_eqI ?_)
  | (with_reducible refine g_eqS ?_)
  | (with_reducible refine g_neI ?_)
  | (with_reducible refine g_neS ?_)
  | (with_reducible refine g_isN ?_)
  | (with_reducible refine g_notN ?_)
  | (with_reducible refine g_int ?_)
  | (with_reducible refine g_max2 ?_)
  | (with_reducible refine g_min2 ?_)
  | ((with_reducible refine' g_lenL ?gh ?_); (case gh => walk_at "h"))
  | (with_reducible refine g_sub ?_)
  | (with_reducible refine g_gcons ?_)
  | (with_reducible refine g_gnil ?_)
  | (with_reducible refine g_un ?_)
  | (with_reducible refine g_rU ?_)
  | (with_reducible refine g_forL ?_)
  | (with_reducible refine g_forS ?_)
  | (with_reducible refine g_forR1 ?_)
  | (with_reducible refine g_forR2 ?_)
  | (with_reducible refine g_forR3 ?_)
  | (with_reducible refine g_lcL ?_)
  | (with_reducible refine g_lcR1 ?_)
  | (with_reducible refine g_lcR2 ?_)
  | (with_reducible refine g_slice ?_)
  | (with_reducible refine g_part ?_)
  | (with_reducible refine g_kOI ?_)
  | (with_reducible refine g_nopart ?_)
  | (with_reducible refine g_yes ?_)
  | ((with_reducible refine' g_wipe ?gv ?_); (case gv => exact rfl))
  | (with_reducible refine iteT ?_)
  | (with_reducible refine iteF ?_)
  | (with_reducible refine i_nf ?_)
  | (with_reducible refine i_nt ?_)
  | ((with_reducible refine' g_gtup ?gh ?gl ?_); (case gh => walk_at "h"); (case gl => exact rfl))
  | ((with_reducible refine' g_notinI ?gh ?_); (case gh => walk_at "h"))
  | ((with_reducible refine' g_inI ?gh ?_); (case gh => walk_at "h"))
  | ((with_reducible refine' g_kget2 ?gh ?_); (case gh => walk_at "h"))
  | ((with_reducible refine' g_kgotI ?gh ?_); (case gh => walk_at "h"))
  | (with_reducible refine g_tRev ?_)
  | (with_reducible refine g_neB ?_)
  | (with_reducible refine g_eqB ?_)
  | ((with_reducible refine' g_lenT ?gh ?_); (case gh => walk_at "h"))
  | (with_reducible refine g_star ?_)
  | ((with_reducible refine' g_kstarL ?gh ?_); (case gh => walk_at "h"))
  | ((with_reducible refine' g_kstarT ?gh ?_); (case gh => walk_at "h"))
  | (with_reducible refine g_tru ?_)
  | ((with_reducible refine' g_truL ?gh ?_); (case gh => walk_at "h"))
  | (with_reducible refine g_get2 ?_)
  | (with_reducible refine g_try ?_)
  | (with_reducible refine g_fld ?_)
  | (with_reducible refine g_sfld ?_)
  | (with_reducible refine g_meth ?_)
  | (with_reducible refine g_make ?_)
  | (with_reducible refine g_del ?_)
  | (with_reducible refine g_callS ?_)
  | (with_reducible refine g_raise ?_)
  | (with_reducible refine g_xf ?_)
  | (with_reducible refine g_m0 ?_)
  | (with_reducible refine g_km0 ?_)
  | walk_at "is")
local macro_rules | `(tactic| walk_at "gg") => `(tactic| repeat walk_at "g")
local macro_rules | `(tactic| walk_at "sz") => `(tactic| (refine sz ?_; simp only [List.length_cons, List.length_nil, List.length_map, List.length_append, List.length_replicate]; omega))
local macro_rules | `(tactic| walk_at "sub") => `(tactic| ((repeat (first | exact List.Sublist.slnil | with_reducible apply List.Sublist.cons_cons | with_reducible apply List.Sublist.cons)); done))

def nmz (names : List Str) (a : Nat) : Str := names.getD a Str.empty
theorem nmz_at {names : List Str} {a : Nat} (h : a < names.length) : names[a]? = some (nmz names a) := by
  unfold nmz
  rw [List.getD_eq_getElem?_getD, List.getElem?_eq_getElem h]
  rfl
theorem nmz_mem {names : List Str} {r : List Nat} (h : ∀ a ∈ r, a < names.length) (p : Str) : p ∈ r.map (nmz names) ↔ ∃ a ∈ r, names[a]? = some p := by
  rw [List.mem_map]
  constructor
  · rintro ⟨a, ha, rfl⟩
    exact ⟨a, ha, nmz_at (h a ha)⟩
  · rintro ⟨a, ha, e⟩
    rw [nmz_at (h a ha)] at e
    injection e with e
    exact ⟨a, ha, e⟩
theorem nmz_nodup {names : List Str} (nd : names.Nodup) {r : List Nat} (n : r.Nodup) (h : ∀ a ∈ r, a < names.length) : (r.map (nmz names)).Nodup := by
  refine List.pairwise_map.mpr (List.Pairwise.imp_of_mem (R := fun a b => a ≠ b) ?_ n)
  intro a b ha hb ne e
  exact ne (at_inj nd (nmz_at (h a ha)) (by rw [e]; exact nmz_at (h b hb)))
theorem Rel.len {names : List Str} {ms : List Nat} {t : Nat} {rows : List URow} (R : Rel names ms t rows) : rows.length ≤ t := by
  have := congrArg List.length R.nms
  rw [List.length_map, List.length_take] at this
  omega
theorem bits_lt {m n k : Nat} (h : m < 2 ^ n) (b : m.testBit k = true) : k < n := by
  refine Decidable.byContradiction fun c => ?_
  have : m < 2 ^ k := Nat.lt_of_lt_of_le h (Nat.pow_le_pow_right (by decide) (by omega))
  rw [Nat.testBit_lt_two_pow this] at b
  cases b

theorem up_kk (x : Str) : kk (PySem.Txt.upper x) = (kk x).flatMap Unicode.upperOf := by
  show ((x.cps.mapIdx fun i c => (Unicode.upperOf c).toArray).flatten).toList = _
  rw [Array.toList_flatten, Array.toList_mapIdx]
  have e : (List.map Array.toList (List.mapIdx (fun i c => (Unicode.upperOf c).toArray) x.cps.toList)) = (kk x).map Unicode.upperOf := by
    apply List.ext_getElem?
    intro i
    rw [List.getElem?_map, List.getElem?_mapIdx, List.getElem?_map]
    cases x.cps.toList[i]? <;> simp
  rw [e]
  rfl
theorem up_let : ∀ p : Fin 26, (Unicode.upperOf (97 + (p : Nat))) = [65 + (p : Nat)] := by decide +kernel
theorem up_dig : ∀ p : Fin 10, (Unicode.upperOf (48 + (p : Nat))) = [48 + (p : Nat)] := by decide +kernel
theorem up_of {c : Nat} (h : c ∈ lettersL ∨ c ∈ digitsL) : ∃ d, Unicode.upperOf c = [d] ∧ d < 97 := by
  rcases h with h | h
  · have h := let_iff.mp h
    have e := up_let ⟨c - 97, by omega⟩
    rw [show 97 + (c - 97) = c by omega] at e
    exact ⟨_, e, by show 65 + (c - 97) < 97; omega⟩
  · have h := dig_iff.mp h
    have e := up_dig ⟨c - 48, by omega⟩
    rw [show 48 + (c - 48) = c by omega] at e
    exact ⟨_, e, by omega⟩
theorem up_small {x : Str} (h : NmOk x) : ∀ c ∈ kk (PySem.Txt.upper x), c < 97 := by
  intro c hc
  rw [up_kk] at hc
  obtain ⟨a, ha, hm⟩ := List.mem_flatMap.mp hc
  obtain ⟨d, e, l⟩ := up_of (h.all a ha)
  rw [e] at hm
  rw [List.mem_singleton.mp hm]
  exact l
theorem up_strOk {x : Str} (h : NmOk x) : PyData.strOk (PySem.Txt.upper x) = true := by
  show (PySem.Txt.upper x).cps.all (· < 0x110000) = true
  rw [← Array.all_toList, List.all_eq_true]
  intro c hc
  have := up_small h c hc
  simp
  omega
theorem up_not {x z : Str} (h : NmOk x) (hz : NmOk z) : PySem.Txt.upper x ≠ z := by
  intro e
  have l1 := hz.l1
  have hlt : 0 < z.cps.size := l1
  have e0 : z.cps[0]? = some z.cps[0] := Array.getElem?_eq_getElem hlt
  have m := hz.hd _ e0
  have mem : z.cps[0] ∈ kk (PySem.Txt.upper x) := by
    rw [e]
    exact List.mem_of_getElem? (i := 0) (by rw [Array.getElem?_toList]; exact e0)
  have := up_small h _ mem
  have := let_iff.mp m
  omega

/-! ### displays of data -/
def EvD (te : TE) (σ : L2.St) (d : PyData) : Prop := ∀ {F : Hp} {O : Own} {H : Hp} (Q : VK), Has F O H → (∀ v F' H', Same F F' → Has F' O H' → Dq F' v d → Q v H') → te σ H Q
def EvDs (ta : TA) (σ : L2.St) (ds : List PyData) : Prop := ∀ {F : Hp} {O : Own} {H : Hp} (QA : List V → Hp → Prop), Has F O H → (∀ vs F' H', Same F F' → Has F' O H' → DqAll F' vs ds → QA vs H') → ta σ H QA
section
variable {σ : L2.St}
theorem evd_int {i : Int} : EvD (tC (.int i)) σ (.int i) := fun Q h q => q _ _ _ (Same.refl _) h (.int i)
theorem evd_str {z : Str} : EvD (tC (.str z)) σ (.str z) := fun Q h q => q _ _ _ (Same.refl _) h (.str z)
theorem evd_var {i : Nat} {z : Str} (e : σ[i]? = some (some (.str z))) : EvD (tVar i) σ (.str z) := fun Q h q => g_var e (q _ _ _ (Same.refl _) h (.str z))
theorem evds_nil : EvDs tNil σ [] := fun Q h q => q _ _ _ (Same.refl _) h .nil
theorem evds_cons {te : TE} {ta : TA} {d : PyData} {ds : List PyData} (h1 : EvD te σ d) (h2 : EvDs ta σ ds) : EvDs (tCons te ta) σ (d :: ds) := fun Q h q =>
  h1 _ h fun v F1 H1 s1 hh1 d1 => h2 _ hh1 fun vs F2 H2 s2 hh2 d2 => q _ _ _ (s1.trans s2) hh2 (.cons (d1.up s2 _ _) d2)
theorem evd_lst {ta : TA} {ds : List PyData} (h1 : EvDs ta σ ds) (l : ds.length ≤ 100000) : EvD (tLst ta) σ (.list ds) := fun Q h q =>
  h1 _ h fun vs F1 H1 s1 hh1 d1 => g_klstF (sz (by rw [d1.len]; exact l)) hh1 fun p H2 F2 n2 s2 f2 hh2 => q _ _ _ (s1.trans s2) hh2 (.lst f2 (d1.up s2 _ _))
theorem EvD.use {te : TE} {d : PyData} {F : Hp} {O : Own} {H : Hp} {Q : VK} (e : EvD te σ d) (h : Has F O H) (q : ∀ v F' H', Same F F' → Has F' O H' → Dq F' v d → Q v H') : te σ H Q := e Q h q
theorem g_addD {K : PySem.W.Frag} {F : Hp} {O : Own} {H : Hp} {x y : V} {Q : VK} {ds1 ds2 : List PyData} (h1 : Dq F x (.list ds1)) (h2 : Dq F y (.list ds2)) (l : ds1.length + ds2.length ≤ 100000) (hH : Has F O H)
    (q : ∀ v F' H', Same F F' → Has F' O H' → Dq F' v (.list (ds1 ++ ds2)) → Q v H') : Qk.rAdd K x y H Q := by
  cases h1 with
  | lst a1 d1 =>
    cases h2 with
    | lst a2 d2 =>
      refine g_addL (hH.same _ _ a1) (hH.same _ _ a2) (sz (by rw [d1.len, d2.len]; exact l)) hH (fun p H3 n3 h3 => ?_)
      exact q _ _ _ h3.grow h3.frz (.lst upd_same ((d1.app d2).up h3.grow _ _))
end

/-! ### displays of data that name data -/
def EvF (F : Hp) (te : TE) (σ : L2.St) (d : PyData) : Prop := ∀ {F0 : Hp} {O : Own} {H : Hp} (Q : VK), Same F F0 → Has F0 O H → (∀ v F' H', Same F0 F' → Has F' O H' → Dq F' v d → Q v H') → te σ H Q
def EvFs (F : Hp) (ta : TA) (σ : L2.St) (ds : List PyData) : Prop := ∀ {F0 : Hp} {O : Own} {H : Hp} (QA : List V → Hp → Prop), Same F F0 → Has F0 O H → (∀ vs F' H', Same F0 F' → Has F' O H' → DqAll F' vs ds → QA vs H') → ta σ H QA
section
variable {σ : L2.St} {F : Hp}
theorem evf_int {i : Int} : EvF F (tC (.int i)) σ (.int i) := fun Q s h q => q _ _ _ (Same.refl _) h (.int i)
theorem evf_str {z : Str} : EvF F (tC (.str z)) σ (.str z) := fun Q s h q => q _ _ _ (Same.refl _) h (.str z)
theorem evf_var {i : Nat} {v : V} {d : PyData} (e : σ[i]? = some (some v)) (hd : Dq F v d) : EvF F (tVar i) σ d := fun Q s h q => g_var e (q _ _ _ (Same.refl _) h (hd.up s _ _))
theorem evf_sv {i : Nat} {z : Str} (e : σ[i]? = some (some (.str z))) : EvF F (tVar i) σ (.str z) := evf_var e (.str z)
theorem evfs_nil : EvFs F tNil σ [] := fun Q s h q => q _ _ _ (Same.refl _) h .nil
theorem evfs_cons {te : TE} {ta : TA} {d : PyData} {ds : List PyData} (h1 : EvF F te σ d) (h2 : EvFs F ta σ ds) : EvFs F (tCons te ta) σ (d :: ds) := fun Q s h q =>
  h1 _ s h fun v F1 H1 s1 hh1 d1 => h2 _ (s.trans s1) hh1 fun vs F2 H2 s2 hh2 d2 => q _ _ _ (s1.trans s2) hh2 (.cons (d1.up s2 _ _) d2)
theorem evf_lst {ta : TA} {ds : List PyData} (h1 : EvFs F ta σ ds) (l : ds.length ≤ 100000) : EvF F (tLst ta) σ (.list ds) := fun Q s h q =>
  h1 _ s h fun vs F1 H1 s1 hh1 d1 => g_klstF (sz (by rw [d1.len]; exact l)) hh1 fun p H2 F2 n2 s2 f2 hh2 => q _ _ _ (s1.trans s2) hh2 (.lst f2 (d1.up s2 _ _))
theorem evf_add {K : PySem.W.Frag} {t1 t2 : TE} {ds1 ds2 : List PyData} (h1 : EvF F t1 σ (.list ds1)) (h2 : EvF F t2 σ (.list ds2)) (l : ds1.length + ds2.length ≤ 100000) : EvF F (tOp (Qk.rAdd K) t1 t2) σ (.list (ds1 ++ ds2)) := fun Q s h q =>
  g_op <| h1 _ s h fun v F1 H1 s1 hh1 d1 => h2 _ (s.trans s1) hh1 fun u F2 H2 s2 hh2 d2 => g_addD (d1.up s2 _ _) d2 l hh2 fun x F3 H3 s3 hh3 d3 => q _ _ _ ((s1.trans s2).trans s3) hh3 d3
theorem EvF.use {te : TE} {d : PyData} {O : Own} {H : Hp} {Q : VK} (e : EvF F te σ d) (h : Has F O H) (q : ∀ v F' H', Same F F' → Has F' O H' → Dq F' v d → Q v H') : te σ H Q := e Q (Same.refl F) h q
end
/-! ### refusals -/
def strsD (xs : List Str) : PyData := .list (xs.map PyData.str)
theorem dq_list {F : Hp} {v : V} {ds : List PyData} (h : Dq F v (.list ds)) : ∃ l us, v = .ref l ∧ F l = some (.lst us) ∧ DqAll F us ds := by
  cases h with
  | lst a d => exact ⟨_, _, rfl, a, d⟩
theorem evf_m0 {F : Hp} {σ : L2.St} {r : V → List V → Hp → VK → Prop} {i : Nat} {z o : Str} (e : σ[i]? = some (some (.str z))) (hr : ∀ (H : Hp) (Q : VK), Q (.str o) H → r (.str z) [] H Q) : EvF F (tM0 r (tVar i)) σ (.str o) := fun Q s h q => g_m0 (g_var e (g_km0 (hr _ _ (q _ _ _ (Same.refl _) h (.str o)))))
theorem evf_strs {F : Hp} {σ : L2.St} {ta : TA} {zs : List Str} (h : EvFs F ta σ (zs.map PyData.str)) (l : zs.length ≤ 100000) : EvF F (tLst ta) σ (strsD zs) := evf_lst h (by rw [List.length_map]; exact l)
theorem evf_one {F : Hp} {σ : L2.St} {z : Str} : EvF F (tLst (tCons (tC (.str z)) tNil)) σ (strsD [z]) := evf_lst (ds := [.str z]) (evfs_cons evf_str evfs_nil) (Nat.le_of_ble_eq_true rfl)
theorem evf_snoc {K : PySem.W.Frag} {F : Hp} {σ : L2.St} {i j : Nat} {v : V} {xs : List Str} {x : Str} (e : σ[i]? = some (some v)) (hd : Dq F v (strsD xs)) (e2 : σ[j]? = some (some (.str x))) (l : xs.length ≤ 100) : EvF F (tOp (Qk.rAdd K) (tVar i) (tLst (tCons (tVar j) tNil))) σ (strsD (xs ++ [x])) := by
  unfold strsD
  rw [List.map_append]
  exact evf_add (evf_var e hd) (evf_lst (ds := [.str x]) (evfs_cons (evf_sv e2) evfs_nil) (Nat.le_of_ble_eq_true rfl)) (by rw [List.length_map]; show _ + 1 ≤ _; omega)
theorem chk_bad {kn : Str → Bool} {z : Str} (hz : kn z = false) {B : List Str} : ∀ {A seen : List Str}, (∀ y ∈ A, kn y = true) → A.Nodup → (∀ y ∈ A, y ∉ seen) → chkE kn seen (A ++ z :: B) = some (true, z)
  | [], seen, _, _, _ => by
    show (if kn z = true then _ else some (true, z)) = _
    rw [hz]
    rfl
  | x :: r, seen, hk, n, hs => by
    show (if kn x = true then if x ∈ seen then some (false, x) else chkE kn (seen ++ [x]) (r ++ z :: B) else some (true, x)) = _
    rw [if_pos (hk x List.mem_cons_self), if_neg (hs x List.mem_cons_self)]
    have n := List.nodup_cons.mp n
    refine chk_bad hz (fun y hy => hk y (List.mem_cons_of_mem _ hy)) n.2 fun y hy hm => ?_
    rcases List.mem_append.mp hm with hm | hm
    · exact hs y (List.mem_cons_of_mem _ hy) hm
    · rw [List.mem_singleton.mp hm] at hy
      exact n.1 hy
theorem chk_rep {kn : Str → Bool} {z : Str} (hz : kn z = true) : ∀ {A seen : List Str}, (∀ y ∈ A, kn y = true) → A.Nodup → (∀ y ∈ A, y ∉ seen) → (z ∈ A ∨ z ∈ seen) → chkE kn seen (A ++ [z]) = some (false, z)
  | [], seen, _, _, _, m => by
    show (if kn z = true then if z ∈ seen then some (false, z) else _ else _) = _
    rw [if_pos hz, if_pos (m.resolve_left (fun h => by cases h))]
  | x :: r, seen, hk, n, hs, m => by
    show (if kn x = true then if x ∈ seen then some (false, x) else chkE kn (seen ++ [x]) (r ++ [z]) else some (true, x)) = _
    rw [if_pos (hk x List.mem_cons_self), if_neg (hs x List.mem_cons_self)]
    have n := List.nodup_cons.mp n
    refine chk_rep hz (fun y hy => hk y (List.mem_cons_of_mem _ hy)) n.2 (fun y hy hm => ?_) ?_
    · rcases List.mem_append.mp hm with hm | hm
      · exact hs y (List.mem_cons_of_mem _ hy) hm
      · rw [List.mem_singleton.mp hm] at hy
        exact n.1 hy
    · rcases m with m | m
      · rcases List.mem_cons.mp m with rfl | m
        · exact .inr (List.mem_append_right _ (List.mem_singleton.mpr rfl))
        · exact .inl m
      · exact .inr (List.mem_append_left _ m)
/-- a row of a web, found in its list -/
theorem web_row {F : Hp} {us : List V} {web : List (List Nat)} {t : Nat} {r : List Nat} (du : DqAll F us (web.map rowD)) (er : web[t]? = some r) : ∃ rw_, us[t]? = some (.ref rw_) ∧ F rw_ = some (.lst (rowI r)) := by
  have lu : us.length = web.length := by rw [du.len, List.length_map]
  have lt := (List.getElem?_eq_some_iff.mp er).1
  have ev : us[t]? = some us[t] := List.getElem?_eq_getElem (by omega)
  obtain ⟨d', hd', dv⟩ := du.get ev
  rw [List.getElem?_map, er] at hd'
  injection hd' with hd'
  subst hd'
  obtain ⟨rw_, e, hrw⟩ := row_at dv
  exact ⟨rw_, by rw [ev, e], hrw⟩
/-- rows of refused puts -/
structure PR where
  x : Str
  ps : List Str
  k : Nat
  z : Str
def rD13 (r : PR) : PyData := .list [.str r.x, strsD r.ps, .int (r.k : Nat), .str r.z]
structure PrOk (rows : List URow) (r : PR) : Prop where
  lx : r.x.length ≤ 1000
  ok : okL r.ps
  l : r.ps.length ≤ 100
  sz : PyData.strOk r.z = true
  k4 : r.k < 4
  e : putE rows r.x r.ps = some (r.k, r.z)
theorem row_dq {F : Hp} {r l : Addr} {x z : Str} {ps : List Str} {k : Nat} (hr : F r = some (.lst [.str x, .ref l, .int (k : Nat), .str z])) (hl : F l = some (.lst (ps.map V.str))) : Dq F (.ref r) (rD13 ⟨x, ps, k, z⟩) :=
  .lst hr (.cons (.str x) (.cons (Dq.strs hl) (.cons (.int _) (.cons (.str z) .nil))))
theorem snoc13 {F : Hp} {vs : List V} {rs : List PR} {v : V} {r : PR} (h : DqAll F vs (rs.map rD13)) (d : Dq F v (rD13 r)) : DqAll F (vs ++ [v]) ((rs ++ [r]).map rD13) := by
  rw [List.map_append]
  exact h.snoc d
theorem ok13 {Pr : PR → Prop} {rs : List PR} {r : PR} (h : ∀ r ∈ rs, Pr r) (e : Pr r) : ∀ x ∈ rs ++ [r], Pr x := fun x hx => by
  rcases List.mem_append.mp hx with hx | hx
  · exact h x hx
  · rw [List.mem_singleton.mp hx]
    exact e
theorem bad_ch {z : Str} {c : Nat} (h : c ∈ kk z) (n : ¬ (97 ≤ c ∧ c ≤ 122)) (n2 : ¬ (48 ≤ c ∧ c ≤ 57)) : isNm z = false := isNm_no fun ok => by
  rcases ok.all c h with m | m
  · exact n (let_iff.mp m)
  · exact n2 (dig_iff.mp m)
theorem okL_one {z : Str} (h : PyData.strOk z = true) : okL [z] := fun y hy => by rw [List.mem_singleton.mp hy]; exact h
theorem okL_app {xs ys : List Str} (h1 : okL xs) (h2 : okL ys) : okL (xs ++ ys) := fun z hz => by
  rcases List.mem_append.mp hz with h | h
  · exact h1 z h
  · exact h2 z h
theorem s0ok : PyData.strOk ("n0n" : Str) = true := by decide +kernel
theorem cut_ok {z : Str} (h : PyData.strOk z = true) (lo hi : Option Int) : PyData.strOk (cutS z lo hi) = true := by
  unfold PyData.strOk at *
  rw [← Array.all_toList, List.all_eq_true] at h ⊢
  intro c hc
  exact h c (List.mem_of_mem_drop (List.mem_of_mem_take hc))
theorem putE_bad {rows : List URow} {x : Str} {ps : List Str} (h : isNm x = false) : putE rows x ps = some (0, x) := by
  unfold putE
  rw [h, if_neg (by decide)]
theorem putE_old {rows : List URow} {x : Str} {ps : List Str} (h : isNm x = true) (k : kn rows x = true) : putE rows x ps = some (1, x) := by
  unfold putE
  rw [if_pos h, if_pos k]
theorem putE_new {rows : List URow} {x : Str} {ps : List Str} (h : isNm x = true) (k : kn rows x = false) {b : Bool} {z : Str} (e : chkE (kn rows) [] ps = some (b, z)) : putE rows x ps = some (if b then 2 else 3, z) := by
  unfold putE
  rw [if_pos h, if_neg (by rw [k]; decide), e]
  cases b <;> rfl
theorem putE_good {rows : List URow} {x : Str} {ps : List Str} (h : isNm x = true) (k : kn rows x = false) (e : chkE (kn rows) [] ps = none) : putE rows x ps = none := by
  unfold putE
  rw [if_pos h, if_neg (by rw [k]; decide), e]
theorem up_len {x : Str} (h : NmOk x) : (PySem.Txt.upper x).length ≤ 6 := by
  rw [← kk_len, up_kk]
  have l := h.l2
  rw [← kk_len] at l
  refine Nat.le_trans ?_ l
  have all : ∀ c ∈ kk x, c ∈ lettersL ∨ c ∈ digitsL := h.all
  generalize kk x = cs at all
  induction cs with
  | nil => exact Nat.le_refl _
  | cons c r ih =>
    obtain ⟨d, e, _⟩ := up_of (all c List.mem_cons_self)
    have := ih fun y hy => all y (List.mem_cons_of_mem _ hy)
    rw [List.flatMap_cons, List.length_append, e, List.length_cons, List.length_cons, List.length_nil]
    omega

end K13

namespace K13
open PySem PySem.Spec PyProof.Rows L2 Qk
local macro_rules | `(tactic| walk_at "m") => `(tactic| ((repeat (first | exact List.Mem.head _ | apply List.Mem.tail)); done))
local macro_rules | `(tactic| walk_at "h") => `(tactic| first | assumption | exact Has.gF (by assumption) (by assumption) | exact Has.get (by assumption) (by walk_at "m"))
local macro_rules | `(tactic| walk_at "c") => `(tactic| ((repeat (first | exact Chg.hd | apply Chg.tl)); done))
local macro_rules | `(tactic| walk_at "is") => `(tactic| first
  | ((with_reducible refine' is2_non ?gh ?_); (case gh => walk_at "h"))
  | (with_reducible refine is_int_list ?_)
  | (with_reducible refine is_int_tuple ?_)
  | (with_reducible refine is_int_dict ?_)
  | (with_reducible refine is_int_int ?_)
  | (with_reducible refine is_int_bool ?_)
  | (with_reducible refine is_int_str ?_)
  | ((with_reducible refine' is2_int ?gh ?_); (case gh => walk_at "h"))
  | (with_reducible refine is_str_list ?_)
  | (with_reducible refine is_str_tuple ?_)
  | (with_reducible refine is_str_dict ?_)
  | (with_reducible refine is_str_int ?_)
  | (with_reducible refine is_str_bool ?_)
  | (with_reducible refine is_str_str ?_)
  | ((with_reducible refine' is2_str ?gh ?_); (case gh => walk_at "h"))
  | (with_reducible refine is_bool_list ?_)
  | (with_reducible refine is_bool_tuple ?_)
  | (with_reducible refine is_bool_dict ?_)
  | (with_reducible refine is_bool_int ?_)
  | (with_reducible refine is_bool_bool ?_)
  | (with_reducible refine is_bool_str ?_)
  | ((with_reducible refine' is2_bool ?gh ?_); (case gh => walk_at "h"))
  | ((with_reducible refine' is_list_list ?gh ?_); (case gh => walk_at "h"))
  | ((with_reducible refine' is_list_tuple ?gh ?_); (case gh => walk_at "h"))
  | ((with_reducible refine' is_list_dict ?gh ?_); (case gh => walk_at "h"))
  | ((with_reducible refine' is_list_int ?gh ?_); (case gh => walk_at "h"))
  | ((with_reducible refine' is_list_bool ?gh ?_); (case gh => walk_at "h"))
  | ((with_reducible refine' is_list_str ?gh ?_); (case gh => walk_at "h"))
  | ((with_reducible refine' is2_list ?ga ?gb ?_); (case ga => walk_at "h"); (case gb => walk_at "h"))
  | ((with_reducible refine' is_tuple_list ?gh ?_); (case gh => walk_at "h"))
  | ((with_reducible refine' is_tuple_tuple ?gh ?_); (case gh => walk_at "h"))
  | ((with_reducible refine' is_tuple_dict ?gh ?_); (case gh => walk_at "h"))
  | ((with_reducible refine' is_tuple_int ?gh ?_); (case gh => walk_at "h"))
  | ((with_reducible refine' is_tuple_bool ?gh ?_); (case gh => walk_at "h"))
  | ((with_reducible refine' is_tuple_str ?gh ?_); (case gh => walk_at "h"))
  | ((with_reducible refine' is2_tuple ?ga ?gb ?_); (case ga => walk_at "h"); (case gb => walk_at "h"))
  | ((with_reducible refine' is_dict_list ?gh ?_); (case gh => walk_at "h"))
  | ((with_reducible refine' is_dict_tuple ?gh ?_); (case gh => walk_at "h"))
  | ((with_reducible refine' is_dict_dict ?gh ?_); (case gh => walk_at "h"))
  | ((with_reducible refine' is_dict_int ?gh ?_); (case gh => walk_at "h"))
  | ((with_reducible refine' is_dict_bool ?gh ?_); (case gh => walk_at "h"))
  | ((with_reducible refine' is_dict_str ?gh ?_); (case gh => walk_at "h"))
  | ((with_reducible refine' is2_dict ?ga ?gb ?_); (case ga => walk_at "h"); (case gb => walk_at "h")))
local macro_rules | `(tactic| walk_at "g") => `(tactic| first
  | (with_reducible refine g_seq ?_)
  | (with_reducible refine g_asg ?_)
  | ((with_reducible refine g_name ?_); dsimp only [List.set, wipe, List.map])
  | ((with_reducible refine' g_var ?gv ?_); (case gv => exact rfl))
  | (with_reducible refine g_c ?_)
  | (with_reducible refine g_op ?_)
  | (with_reducible refine g_cons ?_)
  | (with_reducible refine g_nil ?_)
  | (with_reducible refine g_cb ?_)
  | (with_reducible refine g_call ?_)
  | (with_reducible refine g_tup ?_)
  | (with_reducible refine g_lst ?_)
  | (with_reducible refine g_bm ?_)
  | (with_reducible refine g_bm0 ?_)
  | ((with_reducible refine' g_kbm ?gh ?_); (case gh => walk_at "h"))
  | (with_reducible refine g_drop ?_)
  | (with_reducible refine g_ret ?_)
  | (with_reducible refine g_retN ?_)
  | (with_reducible refine g_next ?_)
  | (with_reducible refine g_brk ?_)
  | (with_reducible refine g_cont ?_)
  | (with_reducible refine g_if ?_)
  | ((with_reducible refine' g_aug ?gv ?_); (case gv => exact rfl))
  | (with_reducible refine g_ipI ?_)
  | (with_reducible refine g_test ?_)
  | (with_reducible refine g_tB ?_)
  | (with_reducible refine g_kB ?_)
  | (with_reducible refine g_not ?_)
  | (with_reducible refine g_and ?_)
  | (with_reducible refine g_or ?_)
  | (with_reducible refine g_andV ?_)
  | (with_reducible refine g_orV ?_)
  | (with_reducible refine g_notV ?_)
  | (with_reducible refine g_ifE ?_)
  | (with_reducible refine g_addI ?_)
  | (with_reducible refine g_rI0 ?_)
  | (with_reducible refine g_eqI ?_)
  | (with_reducible refine g_eqS ?_)
  | (with_reducible refine g_neI ?_)
  | (with_reducible refine g_neS ?_)
  | (with_reducible refine g_isN ?_)
  | (with_reducible refine g_notN ?_)
  | (with_reducible refine g_int ?_)
  | (with_reducible refine g_max2 ?_)
  | (with_reducible refine g_min2 ?_)
  | ((with_reducible refine' g_lenL ?gh ?_); (case gh => walk_at "h"))
  | (with_reducible refine g_sub ?_)
  | (with_reducible refine g_gcons ?_)
  | (with_reducible refine g_gnil ?_)
  | (with_reducible refine g_un ?_)
  | (with_reducible refine g_rU ?_)
  | (with_reducible refine g_forL ?_)
  | (with_reducible refine g_forS ?_)
  | (with_reducible refine g_forR1 ?_)
  | (with_reducible refine g_forR2 ?_)
  | (with_reducible refine g_forR3 ?_)
  | (with_reducible refine g_lcL ?_)
  | (with_reducible refine g_lcR1 ?_)
  | (with_reducible refine g_lcR2 ?_)
  | (with_reducible refine g_slice ?_)
  | (with_reducible refine g_part ?_)
  | (with_reducible refine g_kOI ?_)
  | (with_reducible refine g_nopart ?_)
  | (with_reducible refine g_yes ?_)
  | ((with_reducible refine' g_wipe ?gv ?_); (case gv => exact rfl))
  | (with_reducible refine iteT ?_)
  | (with_reducible refine iteF ?_)
  | (with_reducible refine i_nf ?_)
  | (with_reducible refine i_nt ?_)
  | ((with_reducible refine' g_gtup ?gh ?gl ?_); (case gh => walk_at "h"); (case gl => exact rfl))
  | ((with_reducible refine' g_notinI ?gh ?_); (case gh => walk_at "h"))
  | ((with_reducible refine' g_inI ?gh ?_); (case gh => walk_at "h"))
  | ((with_reducible refine' g_kget2 ?gh ?_); (case gh => walk_at "h"))
  | ((with_reducible refine' g_kgotI ?gh ?_); (case gh => walk_at "h"))
  | (with_reducible refine g_tRev ?_)
  | (with_reducible refine g_neB ?_)
  | (with_reducible refine g_eqB ?_)
  | ((with_reducible refine' g_lenT ?gh ?_); (case gh => walk_at "h"))
  | (with_reducible refine g_star ?_)
  | ((with_reducible refine' g_kstarL ?gh ?_); (case gh => walk_at "h"))
  | ((with_reducible refine' g_kstarT ?gh ?_); (case gh => walk_at "h"))
  | (with_reducible refine g_tru ?_)
  | ((with_reducible refine' g_truL ?gh ?_); (case gh => walk_at "h"))
  | (with_reducible refine g_get2 ?_)
  | (with_reducible refine g_try ?_)
  | (with_reducible refine g_fld ?_)
  | (with_reducible refine g_sfld ?_)
  | (with_reducible refine g_meth ?_)
  | (with_reducible refine g_make ?_)
  | (with_reducible refine g_del ?_)
  | (with_reducible refine g_callS ?_)
  | (with_reducible refine g_raise ?_)
  | (with_reducible refine g_xf ?_)
  | (with_reducible refine g_m0 ?_)
  | (with_reducible refine g_km0 ?_)
  | walk_at "is")
local macro_rules | `(tactic| walk_at "gg") => `(tactic| repeat walk_at "g")
local macro_rules | `(tactic| walk_at "sz") => `(tactic| (refine sz ?_; simp only [List.length_cons, List.length_nil, List.length_map, List.length_append, List.length_replicate]; omega))
local macro_rules | `(tactic| walk_at "sub") => `(tactic| ((repeat (first | exact List.Sublist.slnil | with_reducible apply List.Sublist.cons_cons | with_reducible apply List.Sublist.cons)); done))

local macro_rules | `(tactic| walk_at "g") => `(tactic| first
  | (with_reducible refine g_dcL ?_)
  | (with_reducible refine g_dcT ?_)
  | (with_reducible refine g_m1s ?_)
  | (with_reducible refine g_km1s ?_)
  | (with_reducible refine g_starts ?_)
  | (with_reducible refine g_tryX ?_)
  | (with_reducible refine g_lcS ?_))

/-! ### the refused puts -/
section
variable {P : Program} {w : World} {K : PySem.W.Frag} {mg : Str → Option Value} {base : Heap}
def sp_l_refused (T : Txt K mg) : Sp := fun vs H Q _ => ∃ (nm wb dr : Addr) (names : List Str) (us : List V) (web : List (List Nat)) (i : Nat) (d0 d1 d2 : Nat) (r : List Nat) (rows : List URow), vs = [.ref nm, .ref wb, .int (i : Nat), .ref dr] ∧ H nm = some (.lst (names.map V.str)) ∧ H wb = some (.lst us) ∧ DqAll H us (web.map rowD) ∧ H dr = some (.lst [.int (d0 : Nat), .int (d1 : Nat), .int (d2 : Nat)]) ∧
  Nms names ∧ web[i]? = some r ∧ r.Nodup ∧ (∀ a ∈ r, a < i) ∧ r.length ≤ 6 ∧ i + 1 < names.length ∧ (∀ z, kn rows z = true ↔ ∃ j, j < i ∧ names[j]? = some z) ∧
  ∀ p H' F' vs (rs : List PR), Same H F' → Has F' [(p, .lst vs)] H' → DqAll F' vs (rs.map rD13) → (∀ r ∈ rs, PrOk rows r) → Q (.ref p) H'
theorem sp_l_refused_len {T : Txt K mg} {vs H Q E} (h : sp_l_refused T vs H Q E) : vs.length = 4 := by
  obtain ⟨_, _, _, _, _, _, _, _, _, _, _, _, rfl, _⟩ := h
  rfl
theorem len_cut (z : Str) (lo hi : Option Int) : (cutS z lo hi).length ≤ z.length := cutS_length z lo hi
set_option maxHeartbeats 2000000 in
theorem ok_l_refused (T : Txt K mg) : FnOk P w K mg base CX0 1 T.f_l_refused T.fd_l_refused ["names", "web", "i", "draws"] (sp_l_refused T) := by
  refine T.F_l_refused.ok sc_l_refused (fun vs H Q E h => sp_l_refused_len h) (fun cdv A outer s H vs Q E hr h => ?_)
  refine ⟨_, (pss_cons (ps_set (i := 4) sc_l_refused.nd rfl (.inl rfl) (pe_ix (ix_K K (hu_of hr)) (pv 0) (pv 2) (fun _ _ => rfl)))
      (pss_cons (ps_setLc (i := 5) (own := [("at", 12)]) (g := gName 12) (tt := tYes) rfl sc_l_refused.nd rfl rfl (sw_true rfl rfl rfl (by decide +kernel)) (k_il K (pi_list (pe_ix (ix_K K (hu_of hr)) (pv 1) (pv 2) (fun _ _ => rfl)))) (blkOk_by (N := n_l_refused) (sc := defScope s_l_refused) (by decide +kernel)) (fun _ _ _ _ _ => (pg_name (i := 12) sc_l_refused.nd rfl (.inl rfl))) (fun _ _ _ _ _ => pts_nil) (fun _ _ _ _ _ => (pe_ix (ix_K K (hu_of hr)) (pv 0) (pv 12) (fun _ _ => rfl))))
      (pss_cons (ps_set (i := 6) sc_l_refused.nd rfl (.inl rfl) (pe_lst (pa_cons pe_str (pa_cons (pe_upper (pv 4)) (pa_cons (pe_op (op_addK K) pe_str (pe_slice (sl_M K) (pv 4) po_none (po_some pe_int))) (pa_cons (pe_op (op_addK K) (pe_slice (sl_M K) (pv 4) po_none (po_some pe_int)) pe_str) (pa_cons pe_str pa_nil)))))))
      (pss_cons (ps_set (i := 6) sc_l_refused.nd rfl (.inl rfl) (pe_op (op_addK K) (pv 6) (pe_lst (pa_cons (pe_op (op_addK K) (pe_slice (sl_M K) (pv 4) po_none (po_some pe_int)) pe_str) (pa_cons (pe_op (op_addK K) (pe_slice (sl_M K) (pv 4) po_none (po_some pe_int)) pe_str) (pa_cons (pe_op (op_addK K) (pe_op (op_addK K) (pe_slice (sl_M K) (pv 4) po_none (po_some pe_int)) pe_str) (pe_slice (sl_M K) (pv 4) (po_some pe_int) (po_some pe_int))) pa_nil))))))
      (pss_cons (ps_set (i := 7) sc_l_refused.nd rfl (.inl rfl) (pe_ix (ix_K K (hu_of hr)) (pv 6) (pe_op op_mod (pe_callTy cr_int1 (by rfl) T.m_int (by decide +kernel) (pa_cons (pe_op (op_addK K) (pe_ix (ix_K K (hu_of hr)) (pv 3) pe_int (fun _ _ => rfl)) (pv 2)) pa_nil)) pe_int) (fun _ _ => rfl)))
      (pss_cons (ps_set (i := 8) sc_l_refused.nd rfl (.inl rfl) (pe_op op_mod (pe_callTy cr_int1 (by rfl) T.m_int (by decide +kernel) (pa_cons (pe_ix (ix_K K (hu_of hr)) (pv 3) pe_int (fun _ _ => rfl)) pa_nil)) (pe_op (op_addK K) (pe_callB (cr_lenK K) (by rfl) T.m_len (by decide +kernel) (pa_cons (pv 5) pa_nil)) pe_int)))
      (pss_cons (ps_set (i := 9) sc_l_refused.nd rfl (.inl rfl) (pe_lst (pa_cons (pe_lst (pa_cons (pv 7) (pa_cons (pe_callTy (cr_listK K) (by rfl) T.m_list (by decide +kernel) (pa_cons (pv 5) pa_nil)) (pa_cons pe_int (pa_cons (pv 7) pa_nil))))) (pa_cons (pe_lst (pa_cons (pv 7) (pa_cons (pe_lst (pa_cons pe_str pa_nil)) (pa_cons pe_int (pa_cons (pv 7) pa_nil))))) pa_nil))))
      (pss_cons (ps_expr (k_bm K (pe_bm PySem.F.plainAttrs_list PySem.F.slot_list_append PySem.F.type_list_append mt_append (pv 9) (pa_cons (pe_lst (pa_cons (pv 4) (pa_cons (pe_lst (pa_cons (pv 4) pa_nil)) (pa_cons pe_int (pa_cons (pv 4) pa_nil))))) pa_nil))))
      (pss_cons (ps_expr (k_bm K (pe_bm PySem.F.plainAttrs_list PySem.F.slot_list_append PySem.F.type_list_append mt_append (pv 9) (pa_cons (pe_lst (pa_cons (pv 4) (pa_cons (pe_op (op_addK K) (pe_op (op_addK K) (pe_slice (sl_M K) (pv 5) po_none (po_some (pv 8))) (pe_lst (pa_cons pe_str pa_nil))) (pe_slice (sl_M K) (pv 5) (po_some (pv 8)) po_none)) (pa_cons pe_int (pa_cons pe_str pa_nil))))) pa_nil))))
      (pss_cons (ps_expr (k_bm K (pe_bm PySem.F.plainAttrs_list PySem.F.slot_list_append PySem.F.type_list_append mt_append (pv 9) (pa_cons (pe_lst (pa_cons (pv 4) (pa_cons (pe_lst (pa_cons pe_str (pa_cons pe_str pa_nil))) (pa_cons pe_int (pa_cons pe_str pa_nil))))) pa_nil))))
      (pss_cons (ps_expr (k_bm K (pe_bm PySem.F.plainAttrs_list PySem.F.slot_list_append PySem.F.type_list_append mt_append (pv 9) (pa_cons (pe_lst (pa_cons (pv 4) (pa_cons (pe_lst (pa_cons (pe_ix (ix_K K (hu_of hr)) (pv 0) (pe_op (op_addK K) (pv 2) pe_int) (fun _ _ => rfl)) pa_nil)) (pa_cons pe_int (pa_cons (pe_ix (ix_K K (hu_of hr)) (pv 0) (pe_op (op_addK K) (pv 2) pe_int) (fun _ _ => rfl)) pa_nil))))) pa_nil))))
      (pss_cons (ps_if (pt_cmpR op_gt (pe_callB (cr_lenK K) (by rfl) T.m_len (by decide +kernel) (pa_cons (pv 5) pa_nil)) pe_int (nomark _)) (pss_cons (ps_set (i := 10) sc_l_refused.nd rfl (.inl rfl) (pe_ix (ix_K K (hu_of hr)) (pv 5) (pe_op op_mod (pe_callTy cr_int1 (by rfl) T.m_int (by decide +kernel) (pa_cons (pe_ix (ix_K K (hu_of hr)) (pv 3) pe_int (fun _ _ => rfl)) pa_nil)) (pe_callB (cr_lenK K) (by rfl) T.m_len (by decide +kernel) (pa_cons (pv 5) pa_nil))) (fun _ _ => rfl)))
      (pss_one (ps_expr (k_bm K (pe_bm PySem.F.plainAttrs_list PySem.F.slot_list_append PySem.F.type_list_append mt_append (pv 9) (pa_cons (pe_lst (pa_cons (pv 4) (pa_cons (pe_op (op_addK K) (pv 5) (pe_lst (pa_cons (pv 10) pa_nil))) (pa_cons pe_int (pa_cons (pv 10) pa_nil))))) pa_nil)))))) pss_nil)
      (pss_cons (ps_if (pt_cmpR op_gt (pv 2) pe_int (nomark _)) (pss_cons (ps_set (i := 11) sc_l_refused.nd rfl (.inl rfl) (pe_ix (ix_K K (hu_of hr)) (pv 0) (pe_op op_mod (pe_callTy cr_int1 (by rfl) T.m_int (by decide +kernel) (pa_cons (pe_ix (ix_K K (hu_of hr)) (pv 3) pe_int (fun _ _ => rfl)) pa_nil)) (pv 2)) (fun _ _ => rfl)))
      (pss_cons (ps_set (i := 9) sc_l_refused.nd rfl (.inl rfl) (pe_op (op_addK K) (pv 9) (pe_lst (pa_cons (pe_lst (pa_cons (pv 11) (pa_cons (pe_callTy (cr_listK K) (by rfl) T.m_list (by decide +kernel) (pa_cons (pv 5) pa_nil)) (pa_cons pe_int (pa_cons (pv 11) pa_nil))))) (pa_cons (pe_lst (pa_cons (pv 11) (pa_cons (pe_lst pa_nil) (pa_cons pe_int (pa_cons (pv 11) pa_nil))))) pa_nil)))))
      (pss_cons (ps_set (i := 9) sc_l_refused.nd rfl (.inl rfl) (pe_op (op_addK K) (pv 9) (pe_lst (pa_cons (pe_lst (pa_cons (pv 11) (pa_cons (pe_lst (pa_cons pe_str pa_nil)) (pa_cons pe_int (pa_cons (pv 11) pa_nil))))) (pa_cons (pe_lst (pa_cons (pv 11) (pa_cons (pe_lst (pa_cons (pv 11) (pa_cons (pv 11) pa_nil))) (pa_cons pe_int (pa_cons (pv 11) pa_nil))))) pa_nil)))))
      (pss_cons (ps_expr (k_bm K (pe_bm PySem.F.plainAttrs_list PySem.F.slot_list_append PySem.F.type_list_append mt_append (pv 9) (pa_cons (pe_lst (pa_cons (pv 7) (pa_cons (pe_lst (pa_cons (pv 11) (pa_cons (pv 11) pa_nil))) (pa_cons pe_int (pa_cons (pv 7) pa_nil))))) pa_nil))))
      (pss_cons (ps_expr (k_bm K (pe_bm PySem.F.plainAttrs_list PySem.F.slot_list_append PySem.F.type_list_append mt_append (pv 9) (pa_cons (pe_lst (pa_cons (pv 4) (pa_cons (pe_lst (pa_cons (pv 11) (pa_cons (pv 11) pa_nil))) (pa_cons pe_int (pa_cons (pv 11) pa_nil))))) pa_nil))))
      (pss_cons (ps_expr (k_bm K (pe_bm PySem.F.plainAttrs_list PySem.F.slot_list_append PySem.F.type_list_append mt_append (pv 9) (pa_cons (pe_lst (pa_cons (pv 4) (pa_cons (pe_lst (pa_cons (pv 11) (pa_cons pe_str (pa_cons (pv 11) pa_nil)))) (pa_cons pe_int (pa_cons pe_str pa_nil))))) pa_nil))))
      (pss_one (ps_expr (k_bm K (pe_bm PySem.F.plainAttrs_list PySem.F.slot_list_append PySem.F.type_list_append mt_append (pv 9) (pa_cons (pe_lst (pa_cons (pv 4) (pa_cons (pe_lst (pa_cons (pv 11) (pa_cons (pv 11) (pa_cons pe_str pa_nil)))) (pa_cons pe_int (pa_cons (pv 11) pa_nil))))) pa_nil))))))))))) pss_nil)
      (pss_one (ps_ret (pv 9)))))))))))))))), ?_⟩
  obtain ⟨nm, wb, dr, names, us, web, i, d0, d1, d2, r, rows, rfl, hnm, hwb, du, hdr, nms, er, nd, lt, lr, hi, KN, q⟩ := h
  refine g_start (σ' := [some (.ref nm), some (.ref wb), some (.int (i : Nat)), some (.ref dr), none, none, none, none, none, none, none, none, none]) rfl ?_
  have h := Has.start H
  obtain ⟨rw_, ev, hrw⟩ := web_row du er
  have ltn : ∀ a ∈ r, a < names.length := fun a ha => by have := lt a ha; omega
  have ei : names[i]? = some (nmz names i) := nmz_at (by omega)
  generalize eN : nmz names i = new at ei
  have okn := nms.ok new (List.mem_of_getElem? ei)
  have kNew : kn rows new = false := by
    cases e : kn rows new with
    | false => rfl
    | true =>
      obtain ⟨j, lj, ej⟩ := (KN new).mp e
      have := at_inj nms.nd ej ei
      omega
  have k0 : kn rows "n0n" = false := by
    cases e : kn rows "n0n" with
    | false => rfl
    | true =>
      obtain ⟨j, lj, ej⟩ := (KN _).mp e
      exact (nms.n0 (List.mem_of_getElem? ej)).elim
  have inew := isNm_iff.mpr okn
  have sn := okn.strOk
  have l6 := okn.l2
  walk_at "gg"
  refine g_ixL (v := .str new) hnm (atI_nat (by rw [List.getElem?_map, ei]; rfl)) ?_
  walk_at "gg"
  refine g_ixL (v := .ref rw_) hwb (atI_nat ev) ?_
  -- good
  refine k_lcL hrw h (fun j acc F' O' => acc = ((r.take j).map (nmz names)).map V.str ∧ F' = H ∧ O' = []) ⟨rfl, rfl, rfl⟩ ?_ ?_ ?_
  · rintro j acc F' O' H3 ⟨_, rfl, rfl⟩ hh
    exact hh.same _ _ hrw
  · rintro j v acc F' O' D H3 hv ⟨rfl, rfl, rfl⟩ hh
    unfold rowI at hv
    rw [List.getElem?_map] at hv
    obtain ⟨b, hb, rfl⟩ := Option.map_eq_some_iff.mp hv
    have ez := nmz_at (ltn b (List.mem_of_getElem? hb))
    walk_at "gg"
    refine g_ixL (v := .str (nmz names b)) (hh.same _ _ hnm) (atI_nat (by rw [List.getElem?_map, ez]; rfl)) ?_
    refine k_turn hh (by rw [List.length_map, List.length_map, List.length_take]; omega) ⟨?_, rfl, rfl⟩
    rw [List.take_add_one, hb, List.map_append, List.map_append]
    rfl
  rintro acc F' O' gp H3 ⟨rfl, rfl, rfl⟩ h
  unfold rowI at h
  rw [List.length_map, List.take_length] at h
  have hg : upd F' gp (.lst ((r.map (nmz names)).map V.str)) gp = some (.lst ((r.map (nmz names)).map V.str)) := upd_same
  have sF := h.grow
  have h := h.frz
  have gk : ∀ y ∈ r.map (nmz names), kn rows y = true := fun y hy => by
    obtain ⟨a, ha, rfl⟩ := List.mem_map.mp hy
    exact (KN _).mpr ⟨a, lt a ha, nmz_at (ltn a ha)⟩
  have gnd : (r.map (nmz names)).Nodup := nmz_nodup nms.nd nd ltn
  have gok : okL (r.map (nmz names)) := fun y hy => by
    obtain ⟨a, ha, rfl⟩ := List.mem_map.mp hy
    exact (nms.ok _ (List.mem_of_getElem? (nmz_at (ltn a ha)))).strOk
  have gl : (r.map (nmz names)).length ≤ 6 := by rw [List.length_map]; exact lr
  generalize r.map (nmz names) = gs at h hg sF gk gnd gok gl
  generalize upd F' gp (.lst (gs.map V.str)) = F at h hg sF
  have hnm := sF _ _ hnm
  have hdr := sF _ _ hdr
  clear hrw hwb du ev er
  -- odd
  walk_at "gg"
  refine ⟨new, rfl, rfl, by omega, ?_⟩
  walk_at "gg"
  refine g_slZ (sz (by omega)) ?_
  have lc : ∀ lo hi, (cutS new lo hi).length ≤ 6 := fun lo hi => Nat.le_trans (len_cut new lo hi) l6
  have l5 := lc none (some 5)
  refine g_addS (sz (by show 1 + _ ≤ _; omega)) ?_
  walk_at "gg"
  refine g_slZ (sz (by omega)) ?_
  refine g_addS (sz (by show _ + 1 ≤ _; omega)) ?_
  walk_at "gg"
  refine g_klst (by walk_at "sz") h (fun o1 H4 n4 h4 => ?_)
  walk_at "gg"
  have l1 := lc none (some 1)
  have l3 := lc none (some 3)
  have l2 := lc none (some 2)
  have l24 := lc (some 2) (some 4)
  refine g_slZ (sz (by omega)) ?_
  refine g_addS (sz (by show _ + 1 ≤ _; omega)) ?_
  walk_at "gg"
  refine g_slZ (sz (by omega)) ?_
  refine g_addS (sz (by show _ + 1 ≤ _; omega)) ?_
  walk_at "gg"
  refine g_slZ (sz (by omega)) ?_
  have l2p : (cutS new none (some 2) ++ (".": Str)).length ≤ 7 := by
    rw [len_app]
    have : ("." : Str).length = 1 := by decide +kernel
    omega
  refine g_addS (sz (by show _ + 1 ≤ _; omega)) ?_
  walk_at "gg"
  refine g_slZ (sz (by omega)) ?_
  refine g_addS (sz (by omega)) ?_
  walk_at "gg"
  refine g_klst (by walk_at "sz") h4 (fun o2 H5 n5 h5 => ?_)
  refine g_addL (h5.get (by walk_at "m")) (h5.get (List.Mem.head _)) (sz (by show 5 + 3 ≤ 100000; decide)) h5 (fun od H6 n6 h6 => ?_)
  walk_at "gg"
  -- bad
  have ho := h6.get (List.Mem.head _)
  refine g_ixL (v := .int (d0 : Nat)) (h6.same _ _ hdr) (atI_nat (j := 0) rfl) ?_
  walk_at "gg"
  refine g_rI (by show (0 : Int) < 8; decide) ?_
  have b0 : 0 ≤ ((d0 : Int) + (i : Int)) % 8 := Int.emod_nonneg _ (by decide)
  have b1 : ((d0 : Int) + (i : Int)) % 8 < 8 := Int.emod_lt_of_pos _ (by decide)
  generalize ((d0 : Int) + (i : Int)) % 8 = bj at b0 b1
  refine g_ixV ho b0 (by exact b1) (fun bv hbv => ?_)
  have hbad : ∃ bad : Str, bv = .str bad ∧ isNm bad = false ∧ PyData.strOk bad = true ∧ bad.length ≤ 20 := by
    have hm := List.mem_of_getElem? hbv
    simp only [List.cons_append, List.nil_append, List.mem_cons, List.not_mem_nil, or_false] at hm
    have app : ∀ a b : Str, kk (a ++ b) = kk a ++ kk b := kk_app
    have la : ∀ a b : Str, (a ++ b).length = a.length + b.length := len_app
    have c1 : ∀ s : Str, s.length ≤ 1 → PyData.strOk s = true → ∀ lo hi : Option Int, PyData.strOk (cutS new lo hi ++ s) = true ∧ (cutS new lo hi ++ s).length ≤ 7 := fun s ls os lo hi => ⟨strOk_app (cut_ok sn lo hi) os, by rw [la]; have := lc lo hi; omega⟩
    rcases hm with rfl | rfl | rfl | rfl | rfl | rfl | rfl | rfl
    · exact ⟨_, rfl, by decide +kernel, by decide +kernel, by decide +kernel⟩
    · refine ⟨_, rfl, isNm_no fun ok => up_not okn ok rfl, up_strOk okn, ?_⟩
      have := up_len okn
      omega
    · exact ⟨_, rfl, isNm_no fun ok => by
        have e0 : kk (("0" : Str) ++ cutS new none (some 5)) = 48 :: kk (cutS new none (some 5)) := by rw [app]; rfl
        have h0 := ok.hd 48 (by rw [← Array.getElem?_toList]; show (kk _)[0]? = _; rw [e0]; rfl)
        have := let_iff.mp h0
        omega, strOk_app (by decide +kernel) (cut_ok sn _ _), by rw [la]; have : ("0" : Str).length = 1 := (by decide +kernel); have := lc none (some 5); omega⟩
    · have := c1 " " (by decide +kernel) (by decide +kernel) none (some 5)
      exact ⟨_, rfl, bad_ch (c := 32) (by rw [app]; exact List.mem_append_right _ (by decide +kernel)) (by omega) (by omega), this.1, by omega⟩
    · exact ⟨_, rfl, by decide +kernel, by decide +kernel, by decide +kernel⟩
    · have := c1 "-" (by decide +kernel) (by decide +kernel) none (some 1)
      exact ⟨_, rfl, bad_ch (c := 45) (by rw [app]; exact List.mem_append_right _ (by decide +kernel)) (by omega) (by omega), this.1, by omega⟩
    · have := c1 "_" (by decide +kernel) (by decide +kernel) none (some 3)
      exact ⟨_, rfl, bad_ch (c := 95) (by rw [app]; exact List.mem_append_right _ (by decide +kernel)) (by omega) (by omega), this.1, by omega⟩
    · have := c1 "." (by decide +kernel) (by decide +kernel) none (some 2)
      refine ⟨_, rfl, bad_ch (c := 46) (by rw [app, app]; exact List.mem_append_left _ (List.mem_append_right _ (by decide +kernel))) (by omega) (by omega), strOk_app this.1 (cut_ok sn _ _), ?_⟩
      rw [la]
      omega
  obtain ⟨bad, rfl, ibad, sbad, lbad⟩ := hbad
  have h : Has F [] H6 := h6.sub (List.nil_sublist _)
  clear h4 h5 h6 ho hbv b0 b1 n4 n5 n6
  -- cut
  walk_at "gg"
  refine g_ixL (v := .int (d1 : Nat)) (h.same _ _ hdr) (atI_nat (j := 1) rfl) ?_
  walk_at "gg"
  rw [List.length_map]
  refine g_rI (by show (0 : Int) < (gs.length : Int) + 1; omega) ?_
  have a0 : 0 ≤ (d1 : Int) % ((gs.length : Int) + 1) := Int.emod_nonneg _ (by omega)
  generalize (d1 : Int) % ((gs.length : Int) + 1) = cut at a0
  obtain ⟨c, rfl⟩ := Int.eq_ofNat_of_zero_le a0
  -- the rows
  walk_at "gg"
  refine g_listL (h.same _ _ hg) h (fun q1 H7 n7 h => ?_)
  have s7 := h.grow
  have f1 : upd F q1 (.lst (gs.map V.str)) q1 = some (.lst (gs.map V.str)) := upd_same
  have h := h.frz
  generalize upd F q1 (.lst (gs.map V.str)) = F1 at h s7 f1
  walk_at "gg"
  refine g_klstF (by walk_at "sz") h (fun r1 H8 F2 n8 s8 f2 h => ?_)
  walk_at "gg"
  refine g_klstF (by walk_at "sz") h (fun q2 H9 F3 n9 s9 f3 h => ?_)
  walk_at "gg"
  refine g_klstF (by walk_at "sz") h (fun r2 H10 F4 n10 s10 f4 h => ?_)
  walk_at "gg"
  refine g_klst (by walk_at "sz") h (fun rp H11 n11 h => ?_)
  have ok1 : okL [new] := okL_one sn
  have ok0 : okL [("n0n" : Str)] := okL_one s0ok
  have dv : DqAll F4 [V.ref r1, V.ref r2] (([⟨bad, gs, 0, bad⟩, ⟨bad, ["n0n"], 0, bad⟩] : List PR).map rD13) := .cons (row_dq (s10 _ _ (s9 _ _ f2)) (s10 _ _ (s9 _ _ (s8 _ _ f1)))) (.cons (row_dq f4 (s10 _ _ f3)) .nil)
  have ok : ∀ r ∈ ([⟨bad, gs, 0, bad⟩, ⟨bad, ["n0n"], 0, bad⟩] : List PR), PrOk rows r := fun r hr => by
    simp only [List.mem_cons, List.not_mem_nil, or_false] at hr
    rcases hr with rfl | rfl
    · exact ⟨by show bad.length ≤ 1000; omega, gok, by show gs.length ≤ 100; omega, sbad, by show 0 < 4; decide, putE_bad ibad⟩
    · exact ⟨by show bad.length ≤ 1000; omega, ok0, by show 1 ≤ 100; decide, sbad, by show 0 < 4; decide, putE_bad ibad⟩
  have sF := sF.trans (s7.trans (s8.trans (s9.trans s10)))
  have hg := s10 _ _ (s9 _ _ (s8 _ _ (s7 _ _ hg)))
  have hnm := s10 _ _ (s9 _ _ (s8 _ _ (s7 _ _ hnm)))
  have hdr := s10 _ _ (s9 _ _ (s8 _ _ (s7 _ _ hdr)))
  have lv : [V.ref r1, V.ref r2].length ≤ 2 := Nat.le_refl _
  generalize ([⟨bad, gs, 0, bad⟩, ⟨bad, ["n0n"], 0, bad⟩] : List PR) = rs at dv ok
  generalize [V.ref r1, V.ref r2] = vs at dv lv h
  clear f1 f2 f3 f4 s7 s8 s9 s10 n7 n8 n9 n10 n11

  -- [new, [new], 2, new]
  walk_at "gg"
  refine g_klstF (by walk_at "sz") h (fun ql Ha Fa na sq fq h => ?_)
  walk_at "gg"
  refine g_klstF (by walk_at "sz") h (fun rr Hb Fb nb sb fr h => ?_)
  walk_at "gg"
  refine g_append h .hd (szl (by omega)) (fun Hc h => ?_)
  have dv := snoc13 (dv.up (sq.trans sb) _ _) (row_dq (x := new) (ps := [new]) (k := 2) (z := new) fr (sb _ _ fq))
  have ok := ok13 ok (r := ⟨new, [new], 2, new⟩) ⟨by show new.length ≤ 1000; omega, ok1, by show 1 ≤ 100; decide, sn, by show 2 < 4; decide, putE_new inew kNew (b := true) (chk_bad (A := []) kNew (by simp) List.nodup_nil (by simp))⟩
  have lv : (vs ++ [V.ref rr]).length ≤ 3 := by rw [List.length_append]; show _ + 1 ≤ _; omega
  have sF := sF.trans (sq.trans sb)
  have hg := sb _ _ (sq _ _ hg)
  have hnm := sb _ _ (sq _ _ hnm)
  have hdr := sb _ _ (sq _ _ hdr)
  generalize rs ++ [⟨new, [new], 2, new⟩] = rs at dv ok
  generalize vs ++ [V.ref rr] = vs at dv lv h
  clear fq fr sq sb
  -- the odd one among the parents
  walk_at "gg"
  refine g_slM (g_slL (h.same _ _ hg) h (fun t1 Hx nx hx => ?_))
  rw [cutV_to] at hx
  walk_at "gg"
  refine g_klst (by walk_at "sz") hx (fun t2 Hy ny hy => ?_)
  refine g_addL (hy.get (by walk_at "m")) (hy.get (List.Mem.head _)) (sz (by rw [List.length_take, List.length_map]; show _ + 1 ≤ _; omega)) hy (fun t3 Hz nz hz => ?_)
  walk_at "gg"
  refine g_slM (g_slL (hz.same _ _ hg) hz (fun t4 Hv nv hv => ?_))
  rw [cutV_from] at hv
  refine g_addL (hv.get (by walk_at "m")) (hv.get (List.Mem.head _)) (sz (by rw [List.length_append, List.length_drop, List.length_take, List.length_map]; show _ + 1 + _ ≤ _; omega)) hv (fun ql Hw nw h => ?_)
  have eo : (gs.map V.str).take c ++ [V.str "n0n"] ++ (gs.map V.str).drop c = (gs.take c ++ [("n0n" : Str)] ++ gs.drop c).map V.str := by rw [List.map_append, List.map_append, List.map_take, List.map_drop]; rfl
  rw [eo] at h
  have h : Has Fb [(ql, .lst ((gs.take c ++ [("n0n" : Str)] ++ gs.drop c).map V.str)), (rp, .lst vs)] Hw := h.sub (by walk_at "sub")
  have sq := h.grow
  have fq : upd Fb ql (.lst ((gs.take c ++ [("n0n" : Str)] ++ gs.drop c).map V.str)) ql = some (.lst ((gs.take c ++ [("n0n" : Str)] ++ gs.drop c).map V.str)) := upd_same
  have h := h.frz
  generalize upd Fb ql (.lst ((gs.take c ++ [("n0n" : Str)] ++ gs.drop c).map V.str)) = Fa at h sq fq
  walk_at "gg"
  refine g_klstF (by walk_at "sz") h (fun rr Hb Fb nb sb fr h => ?_)
  walk_at "gg"
  refine g_append h .hd (szl (by omega)) (fun Hc h => ?_)
  have dv := snoc13 (dv.up (sq.trans sb) _ _) (row_dq (x := new) (ps := gs.take c ++ [("n0n" : Str)] ++ gs.drop c) (k := 2) (z := "n0n") fr (sb _ _ fq))
  have ok := ok13 ok (r := ⟨new, gs.take c ++ [("n0n" : Str)] ++ gs.drop c, 2, "n0n"⟩) ⟨by show new.length ≤ 1000; omega, okL_app (okL_app (fun y hy => gok y (List.mem_of_mem_take hy)) ok0) (fun y hy => gok y (List.mem_of_mem_drop hy)), by show (gs.take c ++ [("n0n" : Str)] ++ gs.drop c).length ≤ 100; rw [List.length_append, List.length_append, List.length_take, List.length_drop]; show min c gs.length + 1 + _ ≤ _; omega, s0ok, by show 2 < 4; decide, putE_new inew kNew (b := true) (by rw [List.append_assoc]; exact chk_bad (A := gs.take c) k0 (fun y hy => gk y (List.mem_of_mem_take hy)) ((List.take_sublist _ _).nodup gnd) (fun _ _ h => by cases h))⟩
  have lv : (vs ++ [V.ref rr]).length ≤ 4 := by rw [List.length_append]; show _ + 1 ≤ _; omega
  have sF := sF.trans (sq.trans sb)
  have hg := sb _ _ (sq _ _ hg)
  have hnm := sb _ _ (sq _ _ hnm)
  have hdr := sb _ _ (sq _ _ hdr)
  generalize rs ++ [⟨new, gs.take c ++ [("n0n" : Str)] ++ gs.drop c, 2, "n0n"⟩] = rs at dv ok
  generalize vs ++ [V.ref rr] = vs at dv lv h
  clear fq fr sq sb
  walk_at "gg"
  refine g_klstF (by walk_at "sz") h (fun ql Ha Fa na sq fq h => ?_)
  walk_at "gg"
  refine g_klstF (by walk_at "sz") h (fun rr Hb Fb nb sb fr h => ?_)
  walk_at "gg"
  refine g_append h .hd (szl (by omega)) (fun Hc h => ?_)
  have dv := snoc13 (dv.up (sq.trans sb) _ _) (row_dq (x := new) (ps := ["n0n", "n0n"]) (k := 2) (z := "n0n") fr (sb _ _ fq))
  have ok := ok13 ok (r := ⟨new, ["n0n", "n0n"], 2, "n0n"⟩) ⟨by show new.length ≤ 1000; omega, okL_app (xs := ["n0n"]) ok0 ok0, by show 2 ≤ 100; decide, s0ok, by show 2 < 4; decide, putE_new inew kNew (b := true) (chk_bad (A := []) k0 (by simp) List.nodup_nil (by simp))⟩
  have lv : (vs ++ [V.ref rr]).length ≤ 5 := by rw [List.length_append]; show _ + 1 ≤ _; omega
  have sF := sF.trans (sq.trans sb)
  have hg := sb _ _ (sq _ _ hg)
  have hnm := sb _ _ (sq _ _ hnm)
  have hdr := sb _ _ (sq _ _ hdr)
  generalize rs ++ [⟨new, ["n0n", "n0n"], 2, "n0n"⟩] = rs at dv ok
  generalize vs ++ [V.ref rr] = vs at dv lv h
  clear fq fr sq sb
  have en : names[i + 1]? = some (nmz names (i + 1)) := nmz_at (by omega)
  generalize nmz names (i + 1) = nx at en
  have snx := (nms.ok nx (List.mem_of_getElem? en)).strOk
  have kNx : kn rows nx = false := by
    cases e : kn rows nx with
    | false => rfl
    | true =>
      obtain ⟨j, lj, ej⟩ := (KN nx).mp e
      have := at_inj nms.nd ej en
      omega
  walk_at "gg"
  refine g_ixL (v := .str nx) (h.same _ _ hnm) (by rw [show (i : Int) + 1 = ((i + 1 : Nat) : Int) from rfl]; exact atI_nat (by rw [List.getElem?_map, en]; rfl)) ?_
  walk_at "gg"
  refine g_klstF (by walk_at "sz") h (fun ql Ha Fa na sq fq h => ?_)
  have hnm := sq _ _ hnm
  walk_at "gg"
  refine g_ixL (v := .str nx) (h.same _ _ hnm) (by rw [show (i : Int) + 1 = ((i + 1 : Nat) : Int) from rfl]; exact atI_nat (by rw [List.getElem?_map, en]; rfl)) ?_
  walk_at "gg"
  refine g_klstF (by walk_at "sz") h (fun rr Hb Fb nb sb fr h => ?_)
  walk_at "gg"
  refine g_append h .hd (szl (by omega)) (fun Hc h => ?_)
  have dv := snoc13 (dv.up (sq.trans sb) _ _) (row_dq (x := new) (ps := [nx]) (k := 2) (z := nx) fr (sb _ _ fq))
  have ok := ok13 ok (r := ⟨new, [nx], 2, nx⟩) ⟨by show new.length ≤ 1000; omega, okL_one snx, by show 1 ≤ 100; decide, snx, by show 2 < 4; decide, putE_new inew kNew (b := true) (chk_bad (A := []) kNx (by simp) List.nodup_nil (by simp))⟩
  have lv : (vs ++ [V.ref rr]).length ≤ 6 := by rw [List.length_append]; show _ + 1 ≤ _; omega
  have sF := sF.trans (sq.trans sb)
  have hg := sb _ _ (sq _ _ hg)
  have hnm := sb _ _ hnm
  have hdr := sb _ _ (sq _ _ hdr)
  generalize rs ++ [⟨new, [nx], 2, nx⟩] = rs at dv ok
  generalize vs ++ [V.ref rr] = vs at dv lv h
  clear fq fr sq sb
  -- a parent twice
  walk_at "g"
  refine g_joinD (fun σ' H' => ∃ (F' : Hp) (vs : List V) (rs : List PR) (y10 : Option V), σ' = [some (.ref nm), some (.ref wb), some (.int (i : Nat)), some (.ref dr), some (.str new), some (.ref gp), some (.ref od), some (.str bad), some (.int (c : Nat)), some (.ref rp), y10, none, none] ∧ Same Fb F' ∧ Has F' [(rp, .lst vs)] H' ∧ DqAll F' vs (rs.map rD13) ∧ (∀ r ∈ rs, PrOk rows r) ∧ vs.length ≤ 7) ?_ (fun nx' key => ?_)
  rotate_left
  · walk_at "gg"
    rw [List.length_map]
    refine i_d (fun zz => ?_) (fun _ => ?_)
    · walk_at "gg"
      refine g_ixL (v := .int (d1 : Nat)) (h.same _ _ hdr) (atI_nat (j := 1) rfl) ?_
      walk_at "gg"
      rw [List.length_map]
      refine g_rI (by show (0 : Int) < (gs.length : Int); omega) ?_
      have t0 : 0 ≤ (d1 : Int) % (gs.length : Int) := Int.emod_nonneg _ (by omega)
      have t1 : (d1 : Int) % (gs.length : Int) < (gs.length : Int) := Int.emod_lt_of_pos _ (by omega)
      generalize (d1 : Int) % (gs.length : Int) = tj at t0 t1
      obtain ⟨tj, rfl⟩ := Int.eq_ofNat_of_zero_le t0
      have et : gs[tj]? = some (gs[tj]'(by omega)) := List.getElem?_eq_getElem (by omega)
      generalize gs[tj]'(by omega) = tw at et
      have mt := List.mem_of_getElem? et
      refine g_ixL (v := .str tw) (h.same _ _ hg) (atI_nat (by rw [List.getElem?_map, et]; rfl)) ?_
      walk_at "gg"
      refine g_klst (by walk_at "sz") h (fun t2 Hy ny hy => ?_)
      refine g_addL (hy.same _ _ hg) (hy.get (List.Mem.head _)) (sz (by rw [List.length_map]; show _ + 1 ≤ _; omega)) hy (fun ql Hw nw h => ?_)
      have eo : gs.map V.str ++ [V.str tw] = (gs ++ [tw]).map V.str := by rw [List.map_append]; rfl
      rw [eo] at h
      have h : Has Fb [(ql, .lst ((gs ++ [tw]).map V.str)), (rp, .lst vs)] Hw := h.sub (by walk_at "sub")
      have sq := h.grow
      have fq : upd Fb ql (.lst ((gs ++ [tw]).map V.str)) ql = some (.lst ((gs ++ [tw]).map V.str)) := upd_same
      have h := h.frz
      generalize upd Fb ql (.lst ((gs ++ [tw]).map V.str)) = Fa at h sq fq
      walk_at "gg"
      refine g_klstF (by walk_at "sz") h (fun rr Hb2 Fb2 nb sb fr h => ?_)
      walk_at "gg"
      refine g_append h .hd (szl (by omega)) (fun Hc h => ?_)
      exact key _ _ ⟨Fb2, _, rs ++ [⟨new, gs ++ [tw], 3, tw⟩], _, rfl, sq.trans sb, h, snoc13 (dv.up (sq.trans sb) _ _) (row_dq fr (sb _ _ fq)), ok13 ok ⟨by show new.length ≤ 1000; omega, okL_app gok (okL_one (gok tw mt)), by show (gs ++ [tw]).length ≤ 100; rw [List.length_append]; show _ + 1 ≤ _; omega, gok tw mt, by show 3 < 4; decide, putE_new inew kNew (b := false) (chk_rep (gk tw mt) gk gnd (fun _ _ h => by cases h) (.inl mt))⟩, by rw [List.length_append]; show _ + 1 ≤ _; omega⟩
    · walk_at "gg"
      exact key _ _ ⟨Fb, vs, rs, _, rfl, Same.refl _, h, dv, ok, by omega⟩
  rintro σ' H12 ⟨F5, vs, rs, y10, rfl, s5, h, dv, ok, lv⟩
  have sF := sF.trans s5
  have hg := s5 _ _ hg
  have hnm := s5 _ _ hnm
  have hdr := s5 _ _ hdr
  clear s5
  -- an old one
  walk_at "gg"
  refine i_d (fun zz => ?_) (fun _ => ?_)
  rotate_left
  · walk_at "gg"
    exact q rp H12 F5 vs rs sF h dv ok
  walk_at "gg"
  refine g_ixL (v := .int (d2 : Nat)) (h.same _ _ hdr) (atI_nat (j := 2) rfl) ?_
  walk_at "gg"
  refine g_rI (by show (0 : Int) < (i : Int); omega) ?_
  have t0 : 0 ≤ (d2 : Int) % (i : Int) := Int.emod_nonneg _ (by omega)
  have t1 : (d2 : Int) % (i : Int) < (i : Int) := Int.emod_lt_of_pos _ (by omega)
  generalize (d2 : Int) % (i : Int) = oj at t0 t1
  obtain ⟨oj, rfl⟩ := Int.eq_ofNat_of_zero_le t0
  have eo : names[oj]? = some (nmz names oj) := nmz_at (by omega)
  generalize nmz names oj = old at eo
  have oko := nms.ok old (List.mem_of_getElem? eo)
  have iold := isNm_iff.mpr oko
  have so := oko.strOk
  have lo := oko.l2
  have kOld : kn rows old = true := (KN old).mpr ⟨oj, by omega, eo⟩
  refine g_ixL (v := .str old) (h.same _ _ hnm) (atI_nat (by rw [List.getElem?_map, eo]; rfl)) ?_
  have OK1 : ∀ ps : List Str, okL ps → ps.length ≤ 100 → PrOk rows ⟨old, ps, 1, old⟩ := fun ps op lp => ⟨by show old.length ≤ 1000; omega, op, lp, so, by show 1 < 4; decide, putE_old iold kOld⟩
  have oo : okL [old, old] := okL_app (xs := [old]) (okL_one so) (okL_one so)
  walk_at "gg"
  refine g_listL (h.same _ _ hg) h (fun q1 H7 n7 h => ?_)
  have h : Has F5 [(q1, .lst (gs.map V.str)), (rp, .lst vs)] H7 := h
  have s7 := h.grow
  have f1 : upd F5 q1 (.lst (gs.map V.str)) q1 = some (.lst (gs.map V.str)) := upd_same
  have h := h.frz
  generalize upd F5 q1 (.lst (gs.map V.str)) = F1 at h s7 f1
  walk_at "gg"
  refine g_klstF (by walk_at "sz") h (fun r1 H8 F2 n8 s8 f2 h => ?_)
  walk_at "gg"
  refine g_klstF (by walk_at "sz") h (fun q2 H9 F3 n9 s9 f3 h => ?_)
  walk_at "gg"
  refine g_klstF (by walk_at "sz") h (fun r2 H10 F4 n10 s10 f4 h => ?_)
  walk_at "gg"
  refine g_klst (by walk_at "sz") h (fun rp2 H11 n11 h => ?_)
  refine g_addL (h.get (by walk_at "m")) (h.get (List.Mem.head _)) (sz (by show _ + 2 ≤ _; omega)) h (fun rp3 H13 n13 h => ?_)
  have h : Has F4 [(rp3, .lst (vs ++ [V.ref r1, V.ref r2]))] H13 := h.sub (by walk_at "sub")
  have sx := s7.trans (s8.trans (s9.trans s10))
  have dv : DqAll F4 (vs ++ [V.ref r1] ++ [V.ref r2]) ((rs ++ ([⟨old, gs, 1, old⟩] : List PR) ++ ([⟨old, [], 1, old⟩] : List PR)).map rD13) := snoc13 (snoc13 (dv.up sx _ _) (row_dq (s10 _ _ (s9 _ _ f2)) (s10 _ _ (s9 _ _ (s8 _ _ f1))))) (row_dq f4 (s10 _ _ f3))
  have ok := ok13 (r := (⟨old, [], 1, old⟩ : PR)) (ok13 (r := (⟨old, gs, 1, old⟩ : PR)) ok (OK1 gs gok (by omega))) (OK1 [] (fun z hz => by cases hz) (by decide))
  rw [List.append_assoc] at dv
  have lv : (vs ++ [V.ref r1, V.ref r2]).length ≤ 9 := by rw [List.length_append]; show _ + 2 ≤ _; omega
  have sF := sF.trans sx
  generalize rs ++ ([⟨old, gs, 1, old⟩] : List PR) ++ ([⟨old, [], 1, old⟩] : List PR) = rs at dv ok
  have h : Has F4 [(rp3, .lst (vs ++ ([V.ref r1] ++ [V.ref r2])))] H13 := h
  have lv : (vs ++ ([V.ref r1] ++ [V.ref r2])).length ≤ 9 := lv
  generalize vs ++ ([V.ref r1] ++ [V.ref r2]) = vs at dv h lv
  clear f1 f2 f3 f4 s7 s8 s9 s10 sx
  walk_at "gg"
  refine g_klstF (by walk_at "sz") h (fun q1 H7 F1 n7 s7 f1 h => ?_)
  walk_at "gg"
  refine g_klstF (by walk_at "sz") h (fun r1 H8 F2 n8 s8 f2 h => ?_)
  walk_at "gg"
  refine g_klstF (by walk_at "sz") h (fun q2 H9 F3 n9 s9 f3 h => ?_)
  walk_at "gg"
  refine g_klstF (by walk_at "sz") h (fun r2 H10 F5 n10 s10 f4 h => ?_)
  walk_at "gg"
  refine g_klst (by walk_at "sz") h (fun rp4 H11 n11 h => ?_)
  refine g_addL (h.get (by walk_at "m")) (h.get (List.Mem.head _)) (sz (by show _ + 2 ≤ _; omega)) h (fun rp5 H13 n13 h => ?_)
  have h : Has F5 [(rp5, .lst (vs ++ [V.ref r1, V.ref r2]))] H13 := h.sub (by walk_at "sub")
  have sx := s7.trans (s8.trans (s9.trans s10))
  have dv : DqAll F5 (vs ++ [V.ref r1] ++ [V.ref r2]) ((rs ++ ([⟨old, ["n0n"], 1, old⟩] : List PR) ++ ([⟨old, [old, old], 1, old⟩] : List PR)).map rD13) := snoc13 (snoc13 (dv.up sx _ _) (row_dq (s10 _ _ (s9 _ _ f2)) (s10 _ _ (s9 _ _ (s8 _ _ f1))))) (row_dq f4 (s10 _ _ f3))
  have ok := ok13 (r := (⟨old, [old, old], 1, old⟩ : PR)) (ok13 (r := (⟨old, ["n0n"], 1, old⟩ : PR)) ok (OK1 ["n0n"] ok0 (by decide))) (OK1 [old, old] oo (by show 2 ≤ 100; decide))
  rw [List.append_assoc] at dv
  have lv : (vs ++ [V.ref r1, V.ref r2]).length ≤ 11 := by rw [List.length_append]; show _ + 2 ≤ _; omega
  have sF := sF.trans sx
  generalize rs ++ ([⟨old, ["n0n"], 1, old⟩] : List PR) ++ ([⟨old, [old, old], 1, old⟩] : List PR) = rs at dv ok
  have h : Has F5 [(rp5, .lst (vs ++ ([V.ref r1] ++ [V.ref r2])))] H13 := h
  have lv : (vs ++ ([V.ref r1] ++ [V.ref r2])).length ≤ 11 := lv
  generalize vs ++ ([V.ref r1] ++ [V.ref r2]) = vs at dv h lv
  clear f1 f2 f3 f4 s7 s8 s9 s10 sx hg hnm hdr
  have chk2 : ∀ ys : List Str, chkE (kn rows) [] (old :: old :: ys) = some (false, old) := fun ys => by simp [chkE, kOld]
  walk_at "gg"
  refine g_klstF (by walk_at "sz") h (fun ql Ha Fa na sq fq h => ?_)
  walk_at "gg"
  refine g_klstF (by walk_at "sz") h (fun rr Hb Fb nb sb fr h => ?_)
  walk_at "gg"
  refine g_append h .hd (szl (by omega)) (fun Hc h => ?_)
  have dv := snoc13 (dv.up (sq.trans sb) _ _) (row_dq (x := bad) (ps := [old, old]) (k := 0) (z := bad) fr (sb _ _ fq))
  have ok := ok13 ok (r := ⟨bad, [old, old], 0, bad⟩) ⟨by show bad.length ≤ 1000; omega, oo, by show 2 ≤ 100; decide, sbad, by show 0 < 4; decide, putE_bad ibad⟩
  have lv : (vs ++ [V.ref rr]).length ≤ 12 := by rw [List.length_append]; show _ + 1 ≤ _; omega
  have sF := sF.trans (sq.trans sb)
  generalize rs ++ [⟨bad, [old, old], 0, bad⟩] = rs at dv ok
  generalize vs ++ [V.ref rr] = vs at dv lv h
  clear fq fr sq sb
  walk_at "gg"
  refine g_klstF (by walk_at "sz") h (fun ql Ha Fa na sq fq h => ?_)
  walk_at "gg"
  refine g_klstF (by walk_at "sz") h (fun rr Hb Fb nb sb fr h => ?_)
  walk_at "gg"
  refine g_append h .hd (szl (by omega)) (fun Hc h => ?_)
  have dv := snoc13 (dv.up (sq.trans sb) _ _) (row_dq (x := new) (ps := [old, old]) (k := 3) (z := old) fr (sb _ _ fq))
  have ok := ok13 ok (r := ⟨new, [old, old], 3, old⟩) ⟨by show new.length ≤ 1000; omega, oo, by show 2 ≤ 100; decide, so, by show 3 < 4; decide, putE_new inew kNew (b := false) (chk2 [])⟩
  have lv : (vs ++ [V.ref rr]).length ≤ 13 := by rw [List.length_append]; show _ + 1 ≤ _; omega
  have sF := sF.trans (sq.trans sb)
  generalize rs ++ [⟨new, [old, old], 3, old⟩] = rs at dv ok
  generalize vs ++ [V.ref rr] = vs at dv lv h
  clear fq fr sq sb
  walk_at "gg"
  refine g_klstF (by walk_at "sz") h (fun ql Ha Fa na sq fq h => ?_)
  walk_at "gg"
  refine g_klstF (by walk_at "sz") h (fun rr Hb Fb nb sb fr h => ?_)
  walk_at "gg"
  refine g_append h .hd (szl (by omega)) (fun Hc h => ?_)
  have dv := snoc13 (dv.up (sq.trans sb) _ _) (row_dq (x := new) (ps := [old, "n0n", old]) (k := 2) (z := "n0n") fr (sb _ _ fq))
  have ok := ok13 ok (r := ⟨new, [old, "n0n", old], 2, "n0n"⟩) ⟨by show new.length ≤ 1000; omega, okL_app (xs := [old]) (okL_one so) (okL_app (xs := ["n0n"]) ok0 (okL_one so)), by show 3 ≤ 100; decide, s0ok, by show 2 < 4; decide, putE_new inew kNew (b := true) (chk_bad (A := [old]) k0 (fun y hy => by rw [List.mem_singleton.mp hy]; exact kOld) (by simp) (by simp))⟩
  have lv : (vs ++ [V.ref rr]).length ≤ 14 := by rw [List.length_append]; show _ + 1 ≤ _; omega
  have sF := sF.trans (sq.trans sb)
  generalize rs ++ [⟨new, [old, "n0n", old], 2, "n0n"⟩] = rs at dv ok
  generalize vs ++ [V.ref rr] = vs at dv lv h
  clear fq fr sq sb
  walk_at "gg"
  refine g_klstF (by walk_at "sz") h (fun ql Ha Fa na sq fq h => ?_)
  walk_at "gg"
  refine g_klstF (by walk_at "sz") h (fun rr Hb Fb nb sb fr h => ?_)
  walk_at "gg"
  refine g_append h .hd (szl (by omega)) (fun Hc h => ?_)
  have dv := snoc13 (dv.up (sq.trans sb) _ _) (row_dq (x := new) (ps := [old, old, "n0n"]) (k := 3) (z := old) fr (sb _ _ fq))
  have ok := ok13 ok (r := ⟨new, [old, old, "n0n"], 3, old⟩) ⟨by show new.length ≤ 1000; omega, okL_app (xs := [old, old]) oo ok0, by show 3 ≤ 100; decide, so, by show 3 < 4; decide, putE_new inew kNew (b := false) (chk2 _)⟩
  have lv : (vs ++ [V.ref rr]).length ≤ 15 := by rw [List.length_append]; show _ + 1 ≤ _; omega
  have sF := sF.trans (sq.trans sb)
  generalize rs ++ [⟨new, [old, old, "n0n"], 3, old⟩] = rs at dv ok
  generalize vs ++ [V.ref rr] = vs at dv lv h
  clear fq fr sq sb
  walk_at "gg"
  exact q _ _ _ vs rs sF h dv ok
end

end K13

namespace K13
open PySem PySem.Spec PyProof.Rows L2 Qk
local macro_rules | `(tactic| walk_at "m") => `(tactic| ((repeat (first | exact List.Mem.head _ | apply List.Mem.tail)); done))
local macro_rules | `(tactic| walk_at "h") => `(tactic| first | assumption | exact Has.gF (by assumption) (by assumption) | exact Has.get (by assumption) (by walk_at "m"))
local macro_rules | `(tactic| walk_at "c") => `(tactic| ((repeat (first | exact Chg.hd | apply Chg.tl)); done))
local macro_rules | `(tactic| walk_at "is") => `(tactic| first
  | ((with_reducible refine' is2_non ?gh ?_); (case gh => walk_at "h"))
  | (with_reducible refine is_int_list ?_)
  | (with_reducible refine is_int_tuple ?_)
  | (with_reducible refine is_int_dict ?_)
  | (with_reducible refine is_int_int ?_)
  | (with_reducible refine is_int_bool ?_)
  | (with_reducible refine is_int_str ?_)
  | ((with_reducible refine' is2_int ?gh ?_); (case gh => walk_at "h"))
  | (with_reducible refine is_str_list ?_)
  | (with_reducible refine is_str_tuple ?_)
  | (with_reducible refine is_str_dict ?_)
  | (with_reducible refine is_str_int ?_)
  | (with_reducible refine is_str_bool ?_)
  | (with_reducible refine is_str_str ?_)
  | ((with_reducible refine' is2_str ?gh ?_); (case gh => walk_at "h"))
  | (with_reducible refine is_bool_list ?_)
  | (with_reducible refine is_bool_tuple ?_)
  | (with_reducible refine is_bool_dict ?_)
  | (with_reducible refine is_bool_int ?_)
  | (with_reducible refine is_bool_bool ?_)
  | (with_reducible refine is_bool_str ?_)
  | ((with_reducible refine' is2_bool ?gh ?_); (case gh => walk_at "h"))
  | ((with_reducible refine' is_list_list ?gh ?_); (case gh => walk_at "h"))
  | ((with_reducible refine' is_list_tuple ?gh ?_); (case gh => walk_at "h"))
  | ((with_reducible refine' is_list_dict ?gh ?_); (case gh => walk_at "h"))
  | ((with_reducible refine' is_list_int ?gh ?_); (case gh => walk_at "h"))
  | ((with_reducible refine' is_list_bool ?gh ?_); (case gh => walk_at "h"))
  | ((with_reducible refine' is_list_str ?gh ?_); (case gh => walk_at "h"))
  | ((with_reducible refine' is2_list ?ga ?gb ?_); (case ga => walk_at "h"); (case gb => walk_at "h"))
  | ((with_reducible refine' is_tuple_list ?gh ?_); (case gh => walk_at "h"))
  | ((with_reducible refine' is_tuple_tuple ?gh ?_); (case gh => walk_at "h"))
  | ((with_reducible refine' is_tuple_dict ?gh ?_); (case gh => walk_at "h"))
  | ((with_reducible refine' is_tuple_int ?gh ?_); (case gh => walk_at "h"))
  | ((with_reducible refine' is_tuple_bool ?gh ?_); (case gh => walk_at "h"))
  | ((with_reducible refine' is_tuple_str ?gh ?_); (case gh => walk_at "h"))
  | ((with_reducible refine' is2_tuple ?ga ?gb ?_); (case ga => walk_at "h"); (case gb => walk_at "h"))
  | ((with_reducible refine' is_dict_list ?gh ?_); (case gh => walk_at "h"))
  | ((with_reducible refine' is_dict_tuple ?gh ?_); (case gh => walk_at "h"))
  | ((with_reducible refine' is_dict_dict ?gh ?_); (case gh => walk_at "h"))
  | ((with_reducible refine' is_dict_int ?gh ?_); (case gh => walk_at "h"))
  | ((with_reducible refine' is_dict_bool ?gh ?_); (case gh => walk_at "h"))
  | ((with_reducible refine' is_dict_str ?gh ?_); (case gh => walk_at "h"))
  | ((with_reducible refine' is2_dict ?ga ?gb ?_); (case ga => walk_at "h"); (case gb => walk_at "h")))
local macro_rules | `(tactic| walk_at "g") => `(tactic| first
  | (with_reducible refine g_seq ?_)
  | (with_reducible refine g_asg ?_)
  | ((with_reducible refine g_name ?_); dsimp only [List.set, wipe, List.map])
  | ((with_reducible refine' g_var ?gv ?_); (case gv => exact rfl))
  | (with_reducible refine g_c ?_)
  | (with_reducible refine g_op ?_)
  | (with_reducible refine g_cons ?_)
  | (with_reducible refine g_nil ?_)
  | (with_reducible refine g_cb ?_)
  | (with_reducible refine g_call ?_)
  | (with_reducible refine g_tup ?_)
  | (with_reducible refine g_lst ?_)
  | (with_reducible refine g_bm ?_)
  | (with_reducible refine g_bm0 ?_)
  | ((with_reducible refine' g_kbm ?gh ?_); (case gh => walk_at "h"))
  | (with_reducible refine g_drop ?_)
  | (with_reducible refine g_ret ?_)
  | (with_reducible refine g_retN ?_)
  | (with_reducible refine g_next ?_)
  | (with_reducible refine g_brk ?_)
  | (with_reducible refine g_cont ?_)
  | (with_reducible refine g_if ?_)
  | ((with_reducible refine' g_aug ?gv ?_); (case gv => exact rfl))
  | (with_reducible refine g_ipI ?_)
  | (with_reducible refine g_test ?_)
  | (with_reducible refine g_tB ?_)
  | (with_reducible refine g_kB ?_)
  | (with_reducible refine g_not ?_)
  | (with_reducible refine g_and ?_)
  | (with_reducible refine g_or ?_)
  | (with_reducible refine g_andV ?_)
  | (with_reducible refine g_orV ?_)
  | (with_reducible refine g_notV ?_)
  | (with_reducible refine g_ifE ?_)
  | (with_reducible refine g_addI ?_)
  | (with_reducible refine g_rI0 ?_)
  | (with_reducible refine g_eqI ?_)
  | (with_reducible refine g_eqS ?_)
  | (with_reducible refine g_neI ?_)
  | (with_reducible refine g_neS ?_)
  | (with_reducible refine g_isN ?_)
  | (with_reducible refine g_notN ?_)
  | (with_reducible refine g_int ?_)
  | (with_reducible refine g_max2 ?_)
  | (with_reducible refine g_min2 ?_)
  | ((with_reducible refine' g_lenL ?gh ?_); (case gh => walk_at "h"))
  | (with_reducible refine g_sub ?_)
  | (with_reducible refine g_gcons ?_)
  | (with_reducible refine g_gnil ?_)
  | (with_reducible refine g_un ?_)
  | (with_reducible refine g_rU ?_)
  | (with_reducible refine g_forL ?_)
  | (with_reducible refine g_forS ?_)
  | (with_reducible refine g_forR1 ?_)
  | (with_reducible refine g_forR2 ?_)
  | (with_reducible refine g_forR3 ?_)
  | (with_reducible refine g_lcL ?_)
  | (with_reducible refine g_lcR1 ?_)
  | (with_reducible refine g_lcR2 ?_)
  | (with_reducible refine g_slice ?_)
  | (with_reducible refine g_part ?_)
  | (with_reducible refine g_kOI ?_)
  | (with_reducible refine g_nopart ?_)
  | (with_reducible refine g_yes ?_)
  | ((with_reducible refine' g_wipe ?gv ?_); (case gv => exact rfl))
  | (with_reducible refine iteT ?_)
  | (with_reducible refine iteF ?_)
  | (with_reducible refine i_nf ?_)
  | (with_reducible refine i_nt ?_)
  | ((with_reducible refine' g_gtup ?gh ?gl ?_); (case gh => walk_at "h"); (case gl => exact rfl))
  | ((with_reducible refine' g_notinI ?gh ?_); (case gh => walk_at "h"))
  | ((with_reducible refine' g_inI ?gh ?_); (case gh => walk_at "h"))
  | ((with_reducible refine' g_kget2 ?gh ?_); (case gh => walk_at "h"))
  | ((with_reducible refine' g_kgotI ?gh ?_); (case gh => walk_at "h"))
  | (with_reducible refine g_tRev ?_)
  | (with_reducible refine g_neB ?_)
  | (with_reducible refine g_eqB ?_)
  | ((with_reducible refine' g_lenT ?gh ?_); (case gh => walk_at "h"))
  | (with_reducible refine g_star ?_)
  | ((with_reducible refine' g_kstarL ?gh ?_); (case gh => walk_at "h"))
  | ((with_reducible refine' g_kstarT ?gh ?_); (case gh => walk_at "h"))
  | (with_reducible refine g_tru ?_)
  | ((with_reducible refine' g_truL ?gh ?_); (case gh => walk_at "h"))
  | (with_reducible refine g_get2 ?_)
  | (with_reducible refine g_try ?_)
  | (with_reducible refine g_fld ?_)
  | (with_reducible refine g_sfld ?_)
  | (with_reducible refine g_meth ?_)
  | (with_reducible refine g_make ?_)
  | (with_reducible refine g_del ?_)
  | (with_reducible refine g_callS ?_)
  | (with_reducible refine g_raise ?_)
  | (with_reducible refine g_xf ?_)
  | (with_reducible refine g_m0 ?_)
  | (with_reducible refine g_km0 ?_)
  | walk_at "is")
local macro_rules | `(tactic| walk_at "gg") => `(tactic| repeat walk_at "g")
local macro_rules | `(tactic| walk_at "sz") => `(tactic| (refine sz ?_; simp only [List.length_cons, List.length_nil, List.length_map, List.length_append, List.length_replicate]; omega))
local macro_rules | `(tactic| walk_at "sub") => `(tactic| ((repeat (first | exact List.Sublist.slnil | with_reducible apply List.Sublist.cons_cons | with_reducible apply List.Sublist.cons)); done))

/-! ### what an order refuses -/
section
variable {P : Program} {w : World} {K : PySem.W.Frag} {mg : Str → Option Value} {base : Heap}
def Flt13 (rows : List URow) (wh : Nat) (xs : List Str) (f : Bool × Str) : Prop := (wh = 0 ∧ ∃ x, xs[0]? = some x ∧ undr rows x = none ∧ f = (true, x)) ∨ (wh = 1 ∧ ∃ x, xs[0]? = some x ∧ undr rows x = none ∧ f = (true, x)) ∨
  (wh = 2 ∧ ∃ x y, xs[0]? = some x ∧ xs[1]? = some y ∧ ((undr rows x = none ∧ f = (true, x)) ∨ ∃ u, undr rows x = some u ∧ undr rows y = none ∧ f = (true, y))) ∨ (wh = 3 ∧ chkE (kn rows) [] xs = some f)
def sp_l_asked (T : Txt K mg) : Sp := fun vs H Q _ => ∃ (a o1 : Addr) (rows : List URow) (wh : Nat) (xs : List Str) (f : Bool × Str), vs = [.ref a, .int (wh : Nat), .ref o1] ∧ Ord T H a rows ∧ H o1 = some (.lst (xs.map V.str)) ∧ xs.length ≤ 100 ∧ Flt13 rows wh xs f ∧
  ∀ p H', Same H H' → H p = none → H' p = some (.lst [.bl false, .bl false, .bl f.1, .bl (!f.1), .bl true, .str f.2]) → Q (.ref p) H'
theorem sp_l_asked_len {T : Txt K mg} {vs H Q E} (h : sp_l_asked T vs H Q E) : vs.length = 3 := by
  obtain ⟨_, _, _, _, _, _, rfl, _⟩ := h
  rfl
set_option maxHeartbeats 1000000 in
theorem ok_l_asked (T : Txt K mg) : FnOk P w K mg base CX0 4 T.f_l_asked T.fd_l_asked ["order", "which", "words"] (sp_l_asked T) := by
  refine T.F_l_asked.ok sc_l_asked (fun vs H Q E h => sp_l_asked_len h) (fun cdv A outer s H vs Q E hr h => ?_)
  refine ⟨_, (pss_cons (k_try K (i := 3) (Wout := fun _ _ _ _ => False) rfl rfl sc_l_asked.nd rfl rfl ⟨rfl, by decide, Or.inl T.g_PartError⟩ takesN (fun W pn xe tk hown => (pss_one (ps_if (pt_cmpR (op_eqK K hr.units) (pv 1) pe_int (nomark _)) (pss_one (ps_expr (pe_methW (pv 0) T.cl_Order T.M_Order_under (ok_Order_under T) (hr.mono (by decide)) T.b_Order_under (fun σ => L2N.passAt tk σ) (pa_cons (pe_ix (ix_K K (hu_of hr)) (pv 2) pe_int (fun _ _ => rfl)) pa_nil)))) (pss_one (ps_if (pt_cmpR (op_eqK K hr.units) (pv 1) pe_int (nomark _)) (pss_one (ps_expr (pe_methW (pv 0) T.cl_Order T.M_Order_nearest (ok_Order_nearest T) (hr.mono (by decide)) T.b_Order_nearest (fun σ => L2N.passAt tk σ) (pa_cons (pe_ix (ix_K K (hu_of hr)) (pv 2) pe_int (fun _ _ => rfl)) pa_nil)))) (pss_one (ps_if (pt_cmpR (op_eqK K hr.units) (pv 1) pe_int (nomark _)) (pss_one (ps_expr (pe_methW (pv 0) T.cl_Order T.M_Order_is_under (ok_Order_is_under T) (hr.mono (by decide)) T.b_Order_is_under (fun σ => L2N.passAt tk σ) (pa_cons (pe_ix (ix_K K (hu_of hr)) (pv 2) pe_int (fun _ _ => rfl)) (pa_cons (pe_ix (ix_K K (hu_of hr)) (pv 2) pe_int (fun _ _ => rfl)) pa_nil))))) (pss_one (ps_expr (pe_methW (pv 0) T.cl_Order T.M_Order_checked (ok_Order_checked T) (hr.mono (by decide)) T.b_Order_checked (fun σ => L2N.passAt tk σ) (pa_cons (pv 2) pa_nil))))))))))) (fun a oe cls d pn hz hf => (pss_cons (ps_set (i := 4) sc_l_asked.nd rfl (.inl rfl) (pe_lst (pa_cons (pe_callB (cr_isX K hz.zc hf) (by rfl) T.m_isinstance (by decide +kernel) (pa_cons (pv 3) (pa_cons (pe_gc (v := .ref T.C_BadName) (by rfl) ⟨_, T.g_BadName, rfl⟩) pa_nil))) (pa_cons (pe_callB (cr_isX K hz.zc hf) (by rfl) T.m_isinstance (by decide +kernel) (pa_cons (pv 3) (pa_cons (pe_gc (v := .ref T.C_Taken) (by rfl) ⟨_, T.g_Taken, rfl⟩) pa_nil))) (pa_cons (pe_callB (cr_isX K hz.zc hf) (by rfl) T.m_isinstance (by decide +kernel) (pa_cons (pv 3) (pa_cons (pe_gc (v := .ref T.C_Unknown) (by rfl) ⟨_, T.g_Unknown, rfl⟩) pa_nil))) pa_nil)))))
      (pss_one (ps_ret (pe_op (op_addK K) (pv 4) (pe_lst (pa_cons (pe_callB (cr_isX K hz.zc hf) (by rfl) T.m_isinstance (by decide +kernel) (pa_cons (pv 3) (pa_cons (pe_gc (v := .ref T.C_Repeated) (by rfl) ⟨_, T.g_Repeated, rfl⟩) pa_nil))) (pa_cons (pe_callB (cr_isX K hz.zc hf) (by rfl) T.m_isinstance (by decide +kernel) (pa_cons (pv 3) (pa_cons (pe_bltn (v := .ty "ValueError") (by rfl) T.m_ValueError (by decide +kernel) rfl) pa_nil))) (pa_cons (pe_xfA K hz.zc hf (pv 3)) pa_nil))))))))))
      (pss_one (ps_ret (pe_lst pa_nil)))), ?_⟩
  obtain ⟨a, o1, rows, wh, xs, f, rfl, ho, h1, lx, hf, q⟩ := h
  refine g_start (σ' := [some (.ref a), some (.int (wh : Nat)), some (.ref o1), none, none]) rfl ?_
  obtain ⟨dx, d, nl, kvs, at_, okk⟩ := ho.ex
  walk_at "gg"
  rcases hf with ⟨rfl, x, ex, nx_, rfl⟩ | ⟨rfl, x, ex, nx_, rfl⟩ | ⟨rfl, x, y, ex, ey, hf⟩ | ⟨rfl, hf⟩
  · refine i_d (fun _ => ?_) (fun e => (e rfl).elim)
    walk_at "gg"
    refine g_kmeth at_.i rfl ?_
    walk_at "gg"
    refine g_ixL (v := .str x) h1 (atI_nat (j := 0) (by rw [List.getElem?_map, ex]; rfl)) ?_
    walk_at "gg"
    refine ⟨a, rows, x, rfl, ho, ?_, ?_⟩
    · intro u e
      rw [nx_] at e
      cases e
    · intro _ ex H5 s5 nx hx
      refine g_caught T.M_Unknown_PartError (fun exn nxn => ?_)
      have he_ := (Has.start H).made nx s5 hx
      walk_at "gg"
      refine g_isX T.IS_Unknown (by walk_at "h") T.K_Unknown_BadName ?_
      walk_at "gg"
      refine g_isX T.IS_Unknown (by walk_at "h") T.K_Unknown_Taken ?_
      walk_at "gg"
      refine g_isX T.IS_Unknown (by walk_at "h") T.K_Unknown_Unknown ?_
      walk_at "gg"
      refine g_klst (by walk_at "sz") he_ (fun pb HB nb hb_ => ?_)
      walk_at "gg"
      refine g_isX T.IS_Unknown (by walk_at "h") T.K_Unknown_Repeated ?_
      walk_at "gg"
      refine g_isXT T.IS_Unknown (by walk_at "h") T.K_Unknown_ValueError ?_
      walk_at "gg"
      refine g_kxf T.XF_Unknown T.N_Unknown_name (by walk_at "h") rfl ?_
      walk_at "gg"
      refine g_klst (by walk_at "sz") hb_ (fun pc HC nc hc_ => ?_)
      refine g_addL (hc_.get (by walk_at "m")) (hc_.get (List.Mem.head _)) (sz (by show 3 + 3 ≤ 100000; decide)) hc_ (fun pd HD nd hd_ => ?_)
      exact q pd HD hd_.same (hc_.same.free nd) (hd_.get (List.Mem.head _))
  · refine i_d (fun e => absurd e (by decide)) (fun _ => ?_)
    walk_at "gg"
    refine i_d (fun _ => ?_) (fun e => (e rfl).elim)
    walk_at "gg"
    refine g_kmeth at_.i rfl ?_
    walk_at "gg"
    refine g_ixL (v := .str x) h1 (atI_nat (j := 0) (by rw [List.getElem?_map, ex]; rfl)) ?_
    walk_at "gg"
    refine ⟨a, rows, x, rfl, ho, nx_, ?_⟩
    intro ex H5 s5 nx hx
    refine g_caught T.M_Unknown_PartError (fun exn nxn => ?_)
    have he_ := (Has.start H).made nx s5 hx
    walk_at "gg"
    refine g_isX T.IS_Unknown (by walk_at "h") T.K_Unknown_BadName ?_
    walk_at "gg"
    refine g_isX T.IS_Unknown (by walk_at "h") T.K_Unknown_Taken ?_
    walk_at "gg"
    refine g_isX T.IS_Unknown (by walk_at "h") T.K_Unknown_Unknown ?_
    walk_at "gg"
    refine g_klst (by walk_at "sz") he_ (fun pb HB nb hb_ => ?_)
    walk_at "gg"
    refine g_isX T.IS_Unknown (by walk_at "h") T.K_Unknown_Repeated ?_
    walk_at "gg"
    refine g_isXT T.IS_Unknown (by walk_at "h") T.K_Unknown_ValueError ?_
    walk_at "gg"
    refine g_kxf T.XF_Unknown T.N_Unknown_name (by walk_at "h") rfl ?_
    walk_at "gg"
    refine g_klst (by walk_at "sz") hb_ (fun pc HC nc hc_ => ?_)
    refine g_addL (hc_.get (by walk_at "m")) (hc_.get (List.Mem.head _)) (sz (by show 3 + 3 ≤ 100000; decide)) hc_ (fun pd HD nd hd_ => ?_)
    exact q pd HD hd_.same (hc_.same.free nd) (hd_.get (List.Mem.head _))
  · refine i_d (fun e => absurd e (by decide)) (fun _ => ?_)
    walk_at "gg"
    refine i_d (fun e => absurd e (by decide)) (fun _ => ?_)
    walk_at "gg"
    refine i_d (fun _ => ?_) (fun e => (e rfl).elim)
    walk_at "gg"
    refine g_kmeth at_.i rfl ?_
    walk_at "gg"
    refine g_ixL (v := .str x) h1 (atI_nat (j := 0) (by rw [List.getElem?_map, ex]; rfl)) ?_
    walk_at "gg"
    refine g_ixL (v := .str y) h1 (atI_nat (j := 1) (by rw [List.getElem?_map, ey]; rfl)) ?_
    walk_at "gg"
    refine ⟨a, rows, x, y, rfl, ho, ?_, ?_, ?_⟩
    · intro u v e1 e2
      rcases hf with ⟨h, _⟩ | ⟨_, _, h, _⟩
      · rw [h] at e1; cases e1
      · rw [h] at e2; cases e2
    · intro e ex H5 s5 nx hx
      rcases hf with ⟨_, rfl⟩ | ⟨u, h, _⟩
      rotate_left
      · rw [e] at h; cases h
      refine g_caught T.M_Unknown_PartError (fun exn nxn => ?_)
      have he_ := (Has.start H).made nx s5 hx
      walk_at "gg"
      refine g_isX T.IS_Unknown (by walk_at "h") T.K_Unknown_BadName ?_
      walk_at "gg"
      refine g_isX T.IS_Unknown (by walk_at "h") T.K_Unknown_Taken ?_
      walk_at "gg"
      refine g_isX T.IS_Unknown (by walk_at "h") T.K_Unknown_Unknown ?_
      walk_at "gg"
      refine g_klst (by walk_at "sz") he_ (fun pb HB nb hb_ => ?_)
      walk_at "gg"
      refine g_isX T.IS_Unknown (by walk_at "h") T.K_Unknown_Repeated ?_
      walk_at "gg"
      refine g_isXT T.IS_Unknown (by walk_at "h") T.K_Unknown_ValueError ?_
      walk_at "gg"
      refine g_kxf T.XF_Unknown T.N_Unknown_name (by walk_at "h") rfl ?_
      walk_at "gg"
      refine g_klst (by walk_at "sz") hb_ (fun pc HC nc hc_ => ?_)
      refine g_addL (hc_.get (by walk_at "m")) (hc_.get (List.Mem.head _)) (sz (by show 3 + 3 ≤ 100000; decide)) hc_ (fun pd HD nd hd_ => ?_)
      exact q pd HD hd_.same (hc_.same.free nd) (hd_.get (List.Mem.head _))
    · intro u e1 e2 ex H5 s5 nx hx
      rcases hf with ⟨h, _⟩ | ⟨_, _, _, rfl⟩
      · rw [h] at e1; cases e1
      refine g_caught T.M_Unknown_PartError (fun exn nxn => ?_)
      have he_ := (Has.start H).made nx s5 hx
      walk_at "gg"
      refine g_isX T.IS_Unknown (by walk_at "h") T.K_Unknown_BadName ?_
      walk_at "gg"
      refine g_isX T.IS_Unknown (by walk_at "h") T.K_Unknown_Taken ?_
      walk_at "gg"
      refine g_isX T.IS_Unknown (by walk_at "h") T.K_Unknown_Unknown ?_
      walk_at "gg"
      refine g_klst (by walk_at "sz") he_ (fun pb HB nb hb_ => ?_)
      walk_at "gg"
      refine g_isX T.IS_Unknown (by walk_at "h") T.K_Unknown_Repeated ?_
      walk_at "gg"
      refine g_isXT T.IS_Unknown (by walk_at "h") T.K_Unknown_ValueError ?_
      walk_at "gg"
      refine g_kxf T.XF_Unknown T.N_Unknown_name (by walk_at "h") rfl ?_
      walk_at "gg"
      refine g_klst (by walk_at "sz") hb_ (fun pc HC nc hc_ => ?_)
      refine g_addL (hc_.get (by walk_at "m")) (hc_.get (List.Mem.head _)) (sz (by show 3 + 3 ≤ 100000; decide)) hc_ (fun pd HD nd hd_ => ?_)
      exact q pd HD hd_.same (hc_.same.free nd) (hd_.get (List.Mem.head _))
  · refine i_d (fun e => absurd e (by decide)) (fun _ => ?_)
    walk_at "gg"
    refine i_d (fun e => absurd e (by decide)) (fun _ => ?_)
    walk_at "gg"
    refine i_d (fun e => absurd e (by decide)) (fun _ => ?_)
    walk_at "gg"
    refine g_kmeth at_.i rfl ?_
    walk_at "gg"
    refine ⟨a, o1, rows, xs, rfl, ho, h1, by omega, ?_, ?_, ?_⟩
    · intro hn
      rw [hf] at hn
      cases hn
    · intro z' e' ex H5 s5 nx hx
      rw [hf] at e'
      injection e' with e'
      subst e'
      refine g_caught T.M_Unknown_PartError (fun exn nxn => ?_)
      have he_ := (Has.start H).made nx s5 hx
      walk_at "gg"
      refine g_isX T.IS_Unknown (by walk_at "h") T.K_Unknown_BadName ?_
      walk_at "gg"
      refine g_isX T.IS_Unknown (by walk_at "h") T.K_Unknown_Taken ?_
      walk_at "gg"
      refine g_isX T.IS_Unknown (by walk_at "h") T.K_Unknown_Unknown ?_
      walk_at "gg"
      refine g_klst (by walk_at "sz") he_ (fun pb HB nb hb_ => ?_)
      walk_at "gg"
      refine g_isX T.IS_Unknown (by walk_at "h") T.K_Unknown_Repeated ?_
      walk_at "gg"
      refine g_isXT T.IS_Unknown (by walk_at "h") T.K_Unknown_ValueError ?_
      walk_at "gg"
      refine g_kxf T.XF_Unknown T.N_Unknown_name (by walk_at "h") rfl ?_
      walk_at "gg"
      refine g_klst (by walk_at "sz") hb_ (fun pc HC nc hc_ => ?_)
      refine g_addL (hc_.get (by walk_at "m")) (hc_.get (List.Mem.head _)) (sz (by show 3 + 3 ≤ 100000; decide)) hc_ (fun pd HD nd hd_ => ?_)
      exact q pd HD hd_.same (hc_.same.free nd) (hd_.get (List.Mem.head _))
    · intro z' e' ex H5 s5 nx hx
      rw [hf] at e'
      injection e' with e'
      subst e'
      refine g_caught T.M_Repeated_PartError (fun exn nxn => ?_)
      have he_ := (Has.start H).made nx s5 hx
      walk_at "gg"
      refine g_isX T.IS_Repeated (by walk_at "h") T.K_Repeated_BadName ?_
      walk_at "gg"
      refine g_isX T.IS_Repeated (by walk_at "h") T.K_Repeated_Taken ?_
      walk_at "gg"
      refine g_isX T.IS_Repeated (by walk_at "h") T.K_Repeated_Unknown ?_
      walk_at "gg"
      refine g_klst (by walk_at "sz") he_ (fun pb HB nb hb_ => ?_)
      walk_at "gg"
      refine g_isX T.IS_Repeated (by walk_at "h") T.K_Repeated_Repeated ?_
      walk_at "gg"
      refine g_isXT T.IS_Repeated (by walk_at "h") T.K_Repeated_ValueError ?_
      walk_at "gg"
      refine g_kxf T.XF_Repeated T.N_Repeated_name (by walk_at "h") rfl ?_
      walk_at "gg"
      refine g_klst (by walk_at "sz") hb_ (fun pc HC nc hc_ => ?_)
      refine g_addL (hc_.get (by walk_at "m")) (hc_.get (List.Mem.head _)) (sz (by show 3 + 3 ≤ 100000; decide)) hc_ (fun pd HD nd hd_ => ?_)
      exact q pd HD hd_.same (hc_.same.free nd) (hd_.get (List.Mem.head _))
end

end K13

namespace K13
open PySem PySem.Spec PyProof.Rows L2 Qk
local macro_rules | `(tactic| walk_at "m") => `(tactic| ((repeat (first | exact List.Mem.head _ | apply List.Mem.tail)); done))
local macro_rules | `(tactic| walk_at "h") => `(tactic| first | assumption | exact Has.gF (by assumption) (by assumption) | exact Has.get (by assumption) (by walk_at "m"))
local macro_rules | `(tactic| walk_at "c") => `(tactic| ((repeat (first | exact Chg.hd | apply Chg.tl)); done))
local macro_rules | `(tactic| walk_at "is") => `(tactic| first
  | ((with_reducible refine' is2_non ?gh ?_); (case gh => walk_at "h"))
  | (with_reducible refine is_int_list ?_)
  | (with_reducible refine is_int_tuple ?_)
  | (with_reducible refine is_int_dict ?_)
  | (with_reducible refine is_int_int ?_)
  | (with_reducible refine is_int_bool ?_)
  | (with_reducible refine is_int_str ?_)
  | ((with_reducible refine' is2_int ?gh ?_); (case gh => walk_at "h"))
  | (with_reducible refine is_str_list ?_)
  | (with_reducible refine is_str_tuple ?_)
  | (with_reducible refine is_str_dict ?_)
  | (with_reducible refine is_str_int ?_)
  | (with_reducible refine is_str_bool ?_)
  | (with_reducible refine is_str_str ?_)
  | ((with_reducible refine' is2_str ?gh ?_); (case gh => walk_at "h"))
  | (with_reducible refine is_bool_list ?_)
  | (with_reducible refine is_bool_tuple ?_)
  | (with_reducible refine is_bool_dict ?_)
  | (with_reducible refine is_bool_int ?_)
  | (with_reducible refine is_bool_bool ?_)
  | (with_reducible refine is_bool_str ?_)
  | ((with_reducible refine' is2_bool ?gh ?_); (case gh => walk_at "h"))
  | ((with_reducible refine' is_list_list ?gh ?_); (case gh => walk_at "h"))
  | ((with_reducible refine' is_list_tuple ?gh ?_); (case gh => walk_at "h"))
  | ((with_reducible refine' is_list_dict ?gh ?_); (case gh => walk_at "h"))
  | ((with_reducible refine' is_list_int ?gh ?_); (case gh => walk_at "h"))
  | ((with_reducible refine' is_list_bool ?gh ?_); (case gh => walk_at "h"))
  | ((with_reducible refine' is_list_str ?gh ?_); (case gh => walk_at "h"))
  | ((with_reducible refine' is2_list ?ga ?gb ?_); (case ga => walk_at "h"); (case gb => walk_at "h"))
  | ((with_reducible refine' is_tuple_list ?gh ?_); (case gh => walk_at "h"))
  | ((with_reducible refine' is_tuple_tuple ?gh ?_); (case gh => walk_at "h"))
  | ((with_reducible refine' is_tuple_dict ?gh ?_); (case gh => walk_at "h"))
  | ((with_reducible refine' is_tuple_int ?gh ?_); (case gh => walk_at "h"))
  | ((with_reducible refine' is_tuple_bool ?gh ?_); (case gh => walk_at "h"))
  | ((with_reducible refine' is_tuple_str ?gh ?_); (case gh => walk_at "h"))
  | ((with_reducible refine' is2_tuple ?ga ?gb ?_); (case ga => walk_at "h"); (case gb => walk_at "h"))
  | ((with_reducible refine' is_dict_list ?gh ?_); (case gh => walk_at "h"))
  | ((with_reducible refine' is_dict_tuple ?gh ?_); (case gh => walk_at "h"))
  | ((with_reducible refine' is_dict_dict ?gh ?_); (case gh => walk_at "h"))
  | ((with_reducible refine' is_dict_int ?gh ?_); (case gh => walk_at "h"))
  | ((with_reducible refine' is_dict_bool ?gh ?_); (case gh => walk_at "h"))
  | ((with_reducible refine' is_dict_str ?gh ?_); (case gh => walk_at "h"))
  | ((with_reducible refine' is2_dict ?ga ?gb ?_); (case ga => walk_at "h"); (case gb => walk_at "h")))
local macro_rules | `(tactic| walk_at "g") => `(tactic| first
  | (with_reducible refine g_seq ?_)
  | (with_reducible refine g_asg ?_)
  | ((with_reducible refine g_name ?_); dsimp only [List.set, wipe, List.map])
  | ((with_reducible refine' g_var ?gv ?_); (case gv => exact rfl))
  | (with_reducible refine g_c ?_)
  | (with_reducible refine g_op ?_)
  | (with_reducible refine g_cons ?_)
  | (with_reducible refine g_nil ?_)
  | (with_reducible refine g_cb ?_)
  | (with_reducible refine g_call ?_)
  | (with_reducible refine g_tup ?_)
  | (with_reducible refine g_lst ?_)
  | (with_reducible refine g_bm ?_)
  | (with_reducible refine g_bm0 ?_)
  | ((with_reducible refine' g_kbm ?gh ?_); (case gh => walk_at "h"))
  | (with_reducible refine g_drop ?_)
  | (with_reducible refine g_ret ?_)
  | (with_reducible refine g_retN ?_)
  | (with_reducible refine g_next ?_)
  | (with_reducible refine g_brk ?_)
  | (with_reducible refine g_cont ?_)
  | (with_reducible refine g_if ?_)
  | ((with_reducible refine' g_aug ?gv ?_); (case gv => exact rfl))
  | (with_reducible refine g_ipI ?_)
  | (with_reducible refine g_test ?_)
  | (with_reducible refine g_tB ?_)
  | (with_reducible refine g_kB ?_)
  | (with_reducible refine g_not ?_)
  | (with_reducible refine g_and ?_)
  | (with_reducible refine g_or ?_)
  | (with_reducible refine g_andV ?_)
  | (with_reducible refine g_orV ?_)
  | (with_reducible refine g_notV ?_)
  | (with_reducible refine g_ifE ?_)
  | (with_reducible refine g_addI ?_)
  | (with_reducible refine g_rI0 ?_)
  | (with_reducible refine g_eqI ?_)
  | (with_reducible refine g_eqS ?_)
  | (with_reducible refine g_neI ?_)
  | (with_reducible refine g_neS ?_)
  | (with_reducible refine g_isN ?_)
  | (with_reducible refine g_notN ?_)
  | (with_reducible refine g_int ?_)
  | (with_reducible refine g_max2 ?_)
  | (with_reducible refine g_min2 ?_)
  | ((with_reducible refine' g_lenL ?gh ?_); (case gh => walk_at "h"))
  | (with_reducible refine g_sub ?_)
  | (with_reducible refine g_gcons ?_)
  | (with_reducible refine g_gnil ?_)
  | (with_reducible refine g_un ?_)
  | (with_reducible refine g_rU ?_)
  | (with_reducible refine g_forL ?_)
  | (with_reducible refine g_forS ?_)
  | (with_reducible refine g_forR1 ?_)
  | (with_reducible refine g_forR2 ?_)
  | (with_reducible refine g_forR3 ?_)
  | (with_reducible refine g_lcL ?_)
  | (with_reducible refine g_lcR1 ?_)
  | (with_reducible refine g_lcR2 ?_)
  | (with_reducible refine g_slice ?_)
  | (with_reducible refine g_part ?_)
  | (with_reducible refine g_kOI ?_)
  | (with_reducible refine g_nopart ?_)
  | (with_reducible refine g_yes ?_)
  | ((with_reducible refine' g_wipe ?gv ?_); (case gv => exact rfl))
  | (with_reducible refine iteT ?_)
  | (with_reducible refine iteF ?_)
  | (with_reducible refine i_nf ?_)
  | (with_reducible refine i_nt ?_)
  | ((with_reducible refine' g_gtup ?gh ?gl ?_); (case gh => walk_at "h"); (case gl => exact rfl))
  | ((with_reducible refine' g_notinI ?gh ?_); (case gh => walk_at "h"))
  | ((with_reducible refine' g_inI ?gh ?_); (case gh => walk_at "h"))
  | ((with_reducible refine' g_kget2 ?gh ?_); (case gh => walk_at "h"))
  | ((with_reducible refine' g_kgotI ?gh ?_); (case gh => walk_at "h"))
  | (with_reducible refine g_tRev ?_)
  | (with_reducible refine g_neB ?_)
  | (with_reducible refine g_eqB ?_)
  | ((with_reducible refine' g_lenT ?gh ?_); (case gh => walk_at "h"))
  | (with_reducible refine g_star ?_)
  | ((with_reducible refine' g_kstarL ?gh ?_); (case gh => walk_at "h"))
  | ((with_reducible refine' g_kstarT ?gh ?_); (case gh => walk_at "h"))
  | (with_reducible refine g_tru ?_)
  | ((with_reducible refine' g_truL ?gh ?_); (case gh => walk_at "h"))
  | (with_reducible refine g_get2 ?_)
  | (with_reducible refine g_try ?_)
  | (with_reducible refine g_fld ?_)
  | (with_reducible refine g_sfld ?_)
  | (with_reducible refine g_meth ?_)
  | (with_reducible refine g_make ?_)
  | (with_reducible refine g_del ?_)
  | (with_reducible refine g_callS ?_)
  | (with_reducible refine g_raise ?_)
  | (with_reducible refine g_xf ?_)
  | (with_reducible refine g_m0 ?_)
  | (with_reducible refine g_km0 ?_)
  | walk_at "is")
local macro_rules | `(tactic| walk_at "gg") => `(tactic| repeat walk_at "g")
local macro_rules | `(tactic| walk_at "sz") => `(tactic| (refine sz ?_; simp only [List.length_cons, List.length_nil, List.length_map, List.length_append, List.length_replicate]; omega))
local macro_rules | `(tactic| walk_at "sub") => `(tactic| ((repeat (first | exact List.Sublist.slnil | with_reducible apply List.Sublist.cons_cons | with_reducible apply List.Sublist.cons)); done))

local macro_rules | `(tactic| walk_at "g") => `(tactic| first
  | (with_reducible refine g_dcL ?_)
  | (with_reducible refine g_dcT ?_)
  | (with_reducible refine g_m1s ?_)
  | (with_reducible refine g_km1s ?_)
  | (with_reducible refine g_starts ?_)
  | (with_reducible refine g_tryX ?_)
  | (with_reducible refine g_lcS ?_))

/-! ### strangers -/
abbrev AR := Nat × List Str
def aD (r : AR) : PyData := .list [.int (r.1 : Nat), strsD r.2]
def aqD (b : Bool) (z : Str) : PyData := .list [.bool false, .bool false, .bool b, .bool (!b), .bool true, .str z]
theorem sh_aq {b : Bool} {z : Str} (h : PyData.strOk z = true) : Sh 1 (aqD b z) := Sh.list fun d hd => by
  simp only [List.mem_cons, List.not_mem_nil, or_false] at hd
  rcases hd with rfl | rfl | rfl | rfl | rfl | rfl
  · exact Sh.bl _
  · exact Sh.bl _
  · exact Sh.bl _
  · exact Sh.bl _
  · exact Sh.bl _
  · exact Sh.str h
theorem dq_aq {H : Hp} {p : Addr} {b : Bool} {z : Str} (h : H p = some (.lst [.bl false, .bl false, .bl b, .bl (!b), .bl true, .str z])) : Dq H (.ref p) (aqD b z) := .lst h (.cons (.bl _) (.cons (.bl _) (.cons (.bl _) (.cons (.bl _) (.cons (.bl _) (.cons (.str _) .nil))))))
theorem aD_at {H : Hp} {v : V} {r : AR} (h : Dq H v (aD r)) : ∃ a l, v = .ref a ∧ H a = some (.lst [.int (r.1 : Nat), .ref l]) ∧ H l = some (.lst (r.2.map V.str)) := by
  cases h with
  | lst ha hs =>
    cases hs with
    | cons e1 hs =>
      cases hs with
      | cons e2 hs =>
        cases hs
        cases e1
        obtain ⟨l, rfl, hl⟩ := Dq.of_strs e2
        exact ⟨_, l, rfl, ha, hl⟩
theorem evf_bl {F : Hp} {σ : L2.St} {b : Bool} : EvF F (tC (.bl b)) σ (.bool b) := fun Q s h q => q _ _ _ (Same.refl _) h (.bl b)
/-- what a row asks, and what is due -/
def ArOk (rows : List URow) (f : Bool × Str) (r : AR) : Prop := r.2.length ≤ 100 ∧ Flt13 rows r.1 r.2 f
theorem un_of {rows : List URow} {x : Str} (h : kn rows x = false) : undr rows x = none := by
  unfold kn at h
  cases e : undr rows x with
  | none => rfl
  | some u => rw [e] at h; cases h
theorem kn_of {rows : List URow} {x : Str} (h : kn rows x = true) : ∃ u, undr rows x = some u := Option.isSome_iff_exists.mp h
section
variable {P : Program} {w : World} {K : PySem.W.Frag} {mg : Str → Option Value} {base : Heap}
theorem rev_strs (xs : List Str) : (xs.map V.str).reverse = xs.reverse.map V.str := List.map_reverse.symm
def sp_l_strangers (T : Txt K mg) : Sp := fun vs H Q _ => ∃ (a nm : Addr) (names : List Str) (n d : Nat) (rows : List URow), vs = [.ref a, .ref nm, .int (n : Nat), .int (d : Nat)] ∧ Ord T H a rows ∧ H nm = some (.lst (names.map V.str)) ∧ Nms names ∧ n + 1 ≤ names.length ∧ names.length ≤ 20 ∧ (∀ z, kn rows z = true ↔ ∃ j, j < n ∧ names[j]? = some z) ∧ ∀ H', Same H H' → Q (.bl true) H'
theorem sp_l_strangers_len {T : Txt K mg} {vs H Q E} (h : sp_l_strangers T vs H Q E) : vs.length = 4 := by
  obtain ⟨_, _, _, _, _, _, rfl, _⟩ := h
  rfl
set_option maxHeartbeats 2000000 in
theorem ok_l_strangers (T : Txt K mg) : FnOk P w K mg base CX0 5 T.f_l_strangers T.fd_l_strangers ["order", "names", "count", "draw"] (sp_l_strangers T) := by
  refine T.F_l_strangers.ok sc_l_strangers (fun vs H Q E h => sp_l_strangers_len h) (fun cdv A outer s H vs Q E hr h => ?_)
  refine ⟨_, (pss_cons (ps_set (i := 4) sc_l_strangers.nd rfl (.inl rfl) (pe_ix (ix_K K (hu_of hr)) (pv 1) (pe_op op_mod (pe_callTy cr_int1 (by rfl) T.m_int (by decide +kernel) (pa_cons (pv 3) pa_nil)) (pe_callB (cr_max2 rfl) (by rfl) T.m_max (by decide +kernel) (pa_cons pe_int (pa_cons (pv 2) pa_nil)))) (fun _ _ => rfl)))
      (pss_cons (ps_set (i := 5) sc_l_strangers.nd rfl (.inl rfl) (pe_lst (pa_cons pe_str (pa_cons pe_str (pa_cons (pe_upper (pv 4)) (pa_cons (pe_op (op_addK K) (pv 4) pe_str) (pa_cons (pe_op (op_addK K) pe_str (pv 4)) (pa_cons (pe_ix (ix_K K (hu_of hr)) (pv 1) (pv 2) (fun _ _ => rfl)) pa_nil))))))))
      (pss_cons (ps_for PassesOwn.never rfl (k_il K (pi_list (pv 5))) (pg_name (i := 6) sc_l_strangers.nd rfl (.inl rfl)) (pss_cons (ps_set (i := 7) sc_l_strangers.nd rfl (.inl rfl) (pe_methW (pv 0) T.cl_Order T.M_Order_has (ok_Order_has T) (hr.mono (by decide)) T.b_Order_has (pass0S (E := fun _ => E0)) (pa_cons (pv 6) pa_nil)))
      (pss_cons (ps_if (PW.pt (pw_or (pt_not (pt_val (pe_callB (cr_isK K) (by rfl) T.m_isinstance (by decide +kernel) (pa_cons (pv 7) (pa_cons (pe_bltn (v := .ty "bool") (by rfl) T.m_bool (by decide +kernel) rfl) pa_nil))))) (pw_or1 (pt_tru K (pv 7))))) (pss_one (ps_ret pe_bl)) pss_nil)
      (pss_cons (ps_set (i := 8) sc_l_strangers.nd rfl (.inl rfl) (pe_lst (pa_cons pe_bl (pa_cons pe_bl (pa_cons pe_bl (pa_cons pe_bl (pa_cons pe_bl (pa_cons (pv 6) pa_nil))))))))
      (pss_cons (ps_set (i := 9) sc_l_strangers.nd rfl (.inl rfl) (pe_lst (pa_cons (pe_lst (pa_cons pe_int (pa_cons (pe_lst (pa_cons (pv 6) pa_nil)) pa_nil))) (pa_cons (pe_lst (pa_cons pe_int (pa_cons (pe_lst (pa_cons (pv 6) pa_nil)) pa_nil))) (pa_cons (pe_lst (pa_cons pe_int (pa_cons (pe_lst (pa_cons (pv 6) (pa_cons (pv 6) pa_nil))) pa_nil))) (pa_cons (pe_lst (pa_cons pe_int (pa_cons (pe_lst (pa_cons (pv 6) (pa_cons pe_str pa_nil))) pa_nil))) pa_nil))))))
      (pss_cons (ps_set (i := 9) sc_l_strangers.nd rfl (.inl rfl) (pe_op (op_addK K) (pv 9) (pe_lst (pa_cons (pe_lst (pa_cons pe_int (pa_cons (pe_lst (pa_cons (pv 6) pa_nil)) pa_nil))) (pa_cons (pe_lst (pa_cons pe_int (pa_cons (pe_lst (pa_cons (pv 6) (pa_cons (pv 6) pa_nil))) pa_nil))) pa_nil)))))
      (pss_cons (ps_if (pt_cmpR op_gt (pv 2) pe_int (nomark _)) (pss_cons (ps_set (i := 9) sc_l_strangers.nd rfl (.inl rfl) (pe_op (op_addK K) (pv 9) (pe_lst (pa_cons (pe_lst (pa_cons pe_int (pa_cons (pe_lst (pa_cons (pv 6) (pa_cons (pv 4) pa_nil))) pa_nil))) (pa_cons (pe_lst (pa_cons pe_int (pa_cons (pe_lst (pa_cons (pv 4) (pa_cons (pv 6) pa_nil))) pa_nil))) pa_nil)))))
      (pss_cons (ps_expr (k_bm K (pe_bm PySem.F.plainAttrs_list PySem.F.slot_list_append PySem.F.type_list_append mt_append (pv 9) (pa_cons (pe_lst (pa_cons pe_int (pa_cons (pe_lst (pa_cons (pv 4) (pa_cons (pv 6) (pa_cons (pv 4) pa_nil)))) pa_nil))) pa_nil))))
      (pss_one (ps_expr (k_bm K (pe_bm PySem.F.plainAttrs_list PySem.F.slot_list_append PySem.F.type_list_append mt_append (pv 9) (pa_cons (pe_lst (pa_cons pe_int (pa_cons (pe_lst (pa_cons (pv 6) (pa_cons (pv 4) (pa_cons (pv 4) pa_nil)))) pa_nil))) pa_nil))))))) pss_nil)
      (pss_one (ps_for PassesOwn.never rfl (k_il K (pi_list (pv 9))) (pg_name (i := 10) sc_l_strangers.nd rfl (.inl rfl)) (pss_one (ps_if (pt_cmpR (op_neK K hr.units) (pe_call (ok_l_asked T) (hr.mono (by decide)) (by rfl) T.g_l_asked T.F_l_asked.kp T.b_l_asked .nil pass0 (pa_cons (pv 0) (pa_cons (pe_ix (ix_K K (hu_of hr)) (pv 10) pe_int (fun _ _ => rfl)) (pa_cons (pe_ix (ix_K K (hu_of hr)) (pv 10) pe_int (fun _ _ => rfl)) pa_nil)))) (pv 8) (nomark _)) (pss_one (ps_ret pe_bl)) pss_nil)))))))))))
      (pss_cons (ps_set (i := 8) sc_l_strangers.nd rfl (.inl rfl) (pe_lst (pa_cons pe_bl (pa_cons pe_bl (pa_cons pe_bl (pa_cons pe_bl (pa_cons pe_bl (pa_cons (pv 4) pa_nil))))))))
      (pss_cons (ps_if (PW.pt (pw_and (pt_cmpR op_gt (pv 2) pe_int (nomark _)) (pw_and1 (pt_cmpR (op_neK K hr.units) (pe_call (ok_l_asked T) (hr.mono (by decide)) (by rfl) T.g_l_asked T.F_l_asked.kp T.b_l_asked .nil pass0 (pa_cons (pv 0) (pa_cons pe_int (pa_cons (pe_lst (pa_cons (pv 4) (pa_cons (pv 4) (pa_cons pe_str pa_nil)))) pa_nil)))) (pv 8) (nomark _))))) (pss_one (ps_ret pe_bl)) pss_nil)
      (pss_cons (ps_set (i := 11) sc_l_strangers.nd rfl (.inl rfl) (k_rev K (pe_revL (pe_slice (sl_M K) (pv 1) po_none (po_some (pv 2))))))
      (pss_cons (ps_for PassesOwn.never rfl (pi_range1 rfl T.m_range (pa_cons pe_int pa_nil)) (pg_name (i := 12) sc_l_strangers.nd rfl (.inl rfl)) (pss_cons (ps_set (i := 13) sc_l_strangers.nd rfl (.inl rfl) (pe_methW (pv 0) T.cl_Order T.M_Order_checked (ok_Order_checked T) (hr.mono (by decide)) T.b_Order_checked passNS (pa_cons (pv 11) pa_nil)))
      (pss_cons (ps_if (PW.pt (pw_or (pt_not (pt_val (pe_callB (cr_isK K) (by rfl) T.m_isinstance (by decide +kernel) (pa_cons (pv 13) (pa_cons (pe_bltn (v := .ty "list") (by rfl) T.m_list (by decide +kernel) rfl) pa_nil))))) (pw_or1 (pt_cmpR (op_neK K hr.units) (pv 13) (k_rev K (pe_revL (pe_slice (sl_M K) (pv 1) po_none (po_some (pv 2))))) (nomark _))))) (pss_one (ps_ret pe_bl)) pss_nil)
      (pss_one (ps_expr (k_bm K (pe_bm PySem.F.plainAttrs_list PySem.F.slot_list_append PySem.F.type_list_append mt_append (pv 13) (pa_cons pe_str pa_nil))))))))
      (pss_one (ps_ret (pe_cmpR (op_eqK K hr.units) (pv 11) (k_rev K (pe_revL (pe_slice (sl_M K) (pv 1) po_none (po_some (pv 2))))) (nomark _))))))))))), ?_⟩
  obtain ⟨a, nm, names, n, d, rows, rfl, ho, hnm, nms, hn, ln, KN, q⟩ := h
  refine g_start (σ' := [some (.ref a), some (.ref nm), some (.int (n : Nat)), some (.int (d : Nat)), none, none, none, none, none, none, none, none, none, none]) rfl ?_
  have h := Has.start H
  obtain ⟨dx, dd, nl, kvs, at_, okk⟩ := id ho
  walk_at "gg"
  have m1 : (0 : Int) < max 1 (n : Int) := by omega
  refine g_rI m1 ?_
  have t0 : 0 ≤ (d : Int) % max 1 (n : Int) := Int.emod_nonneg _ (by omega)
  have t1 : (d : Int) % max 1 (n : Int) < max 1 (n : Int) := Int.emod_lt_of_pos _ m1
  generalize (d : Int) % max 1 (n : Int) = j at t0 t1
  obtain ⟨j, rfl⟩ := Int.eq_ofNat_of_zero_le t0
  have ek : names[j]? = some (nmz names j) := nmz_at (by omega)
  generalize nmz names j = known at ek
  have okk := nms.ok known (List.mem_of_getElem? ek)
  have lk := okk.l2
  have sk := okk.strOk
  have kk_ : 0 < n → kn rows known = true := fun h => (KN known).mpr ⟨j, by omega, ek⟩
  refine g_ixL (v := .str known) hnm (atI_nat (by rw [List.getElem?_map, ek]; rfl)) ?_
  have en : names[n]? = some (nmz names n) := nmz_at (by omega)
  generalize nmz names n = nx at en
  have sx := (nms.ok nx (List.mem_of_getElem? en)).strOk
  have lnx := (nms.ok nx (List.mem_of_getElem? en)).l2
  -- the odd words
  walk_at "gg"
  refine ⟨known, rfl, rfl, by omega, ?_⟩
  walk_at "gg"
  refine g_addS (sz (by show _ + 2 ≤ _; omega)) ?_
  walk_at "gg"
  refine g_addS (sz (by show 1 + _ ≤ _; omega)) ?_
  walk_at "gg"
  refine g_ixL (v := .str nx) hnm (atI_nat (by rw [List.getElem?_map, en]; rfl)) ?_
  walk_at "gg"
  have inn : ∀ z, kn rows z = true → z ∈ names := fun z hz => by
    obtain ⟨j, _, e⟩ := (KN z).mp hz
    exact List.mem_of_getElem? e
  have no : ∀ z, z ∉ names → kn rows z = false := fun z hz => by
    cases e : kn rows z with
    | false => rfl
    | true => exact (hz (inn z e)).elim
  have bad : ∀ z, isNm z = false → kn rows z = false := fun z hz => no z fun m => by rw [isNm_iff.mpr (nms.ok z m)] at hz; cases hz
  have k0 : kn rows "n0n" = false := no _ nms.n0
  have k1 : kn rows "n1n" = false := no _ nms.n1
  have all : ∀ z ∈ [("n0n" : Str), "", PySem.Txt.upper known, known ++ "0z", " " ++ known, nx], kn rows z = false ∧ PyData.strOk z = true ∧ z.length ≤ 1000 := fun z hz => by
    simp only [List.mem_cons, List.not_mem_nil, or_false] at hz
    rcases hz with rfl | rfl | rfl | rfl | rfl | ez
    · exact ⟨k0, s0ok, by decide +kernel⟩
    · exact ⟨bad _ (by decide +kernel), by decide +kernel, by decide +kernel⟩
    · exact ⟨bad _ (isNm_no fun ok => up_not okk ok rfl), up_strOk okk, by have := up_len okk; omega⟩
    · refine ⟨no _ fun m => nms.z0 _ m (kk known) ?_, strOk_app sk (by decide +kernel), ?_⟩
      · rw [kk_app]
        rfl
      · rw [len_app]
        have : ("0z" : Str).length = 2 := by decide +kernel
        omega
    · refine ⟨bad _ (bad_ch (c := 32) (by rw [kk_app]; exact List.mem_append_left _ (by decide +kernel)) (by omega) (by omega)), strOk_app (by decide +kernel) sk, ?_⟩
      rw [len_app]
      have : (" " : Str).length = 1 := by decide +kernel
      omega
    · rw [ez]
      refine ⟨?_, sx, by omega⟩
      cases e : kn rows nx with
      | false => rfl
      | true =>
        obtain ⟨j, lj, ej⟩ := (KN nx).mp e
        have := at_inj nms.nd ej en
        omega
  refine g_klstF (by walk_at "sz") h (fun op H1 F1 n1 s1 f1 h => ?_)
  have f1 : F1 op = some (.lst ([("n0n" : Str), "", PySem.Txt.upper known, known ++ "0z", " " ++ known, nx].map V.str)) := f1
  generalize [("n0n" : Str), "", PySem.Txt.upper known, known ++ "0z", " " ++ known, nx] = ws at f1 all
  have ho1 := ho.mono s1
  have at1 := at_.mono s1
  have hnm1 := s1 _ _ hnm
  walk_at "gg"
  refine k_forL (h.same _ _ f1) (fun t σ H' => ∃ (F' : Hp) (y6 y7 y8 y9 y10 : Option V), σ = [some (.ref a), some (.ref nm), some (.int (n : Nat)), some (.int (d : Nat)), some (.str known), some (.ref op), y6, y7, y8, y9, y10, none, none, none] ∧ Same F1 F' ∧ Has F' [] H') ⟨F1, _, _, _, _, _, rfl, Same.refl _, h⟩ ?_ ?_ ?_
  · rintro t σ H' _ ⟨F', _, _, _, _, _, rfl, sF, hh⟩
    exact hh.same _ _ (sF _ _ f1)
  · rintro t x σ H2 hx ⟨F', y6, y7, y8, y9, y10, rfl, sF, h2⟩
    obtain ⟨z, hz, rfl⟩ := str_at hx
    obtain ⟨kz, sz_, lz⟩ := all z (List.mem_of_getElem? hz)
    have uz := un_of kz
    walk_at "gg"
    refine g_kmeth (at1.mono (sF.trans h2.same)).i rfl ?_
    walk_at "gg"
    refine ⟨a, rows, z, rfl, ho1.mono (sF.trans h2.same), ?_⟩
    rw [kz]
    walk_at "gg"
    refine ⟨false, by simp [TruV], ?_⟩
    walk_at "gg"
    refine g_klstF (by walk_at "sz") h2 (fun du H3 F3 n3 s3 f3 h3 => ?_)
    with_reducible refine g_name ?_
    dsimp only [List.set, wipe, List.map]
    with_reducible refine g_seq ?_
    with_reducible refine g_asg ?_
    -- rows, the first part
    refine EvF.use (d := .list (([(0, [z]), (1, [z]), (2, [z, z]), (2, [z, "n1n"])] : List AR).map aD)) ?ev1 h3 (fun v1 F4 H4 s4 h4 d4 => ?_)
    case ev1 =>
      dsimp only [List.map, aD]
      repeat (first | with_reducible exact evfs_nil | exact evf_int | with_reducible exact evf_str | (with_reducible refine evf_strs ?_ (Nat.le_of_ble_eq_true rfl); dsimp only [List.map]) | (with_reducible refine' evf_lst ?_ ?hl; (case hl => exact Nat.le_of_ble_eq_true rfl)) | with_reducible refine evfs_cons ?_ ?_ | exact evf_sv rfl)
    obtain ⟨l1, us1, rfl, hl1, du1⟩ := dq_list d4
    with_reducible refine g_name ?_
    dsimp only [List.set, wipe, List.map]
    with_reducible refine g_seq ?_
    with_reducible refine g_asg ?_
    with_reducible refine g_op ?_
    refine g_var rfl ?_
    refine EvF.use (d := .list (([(3, [z]), (3, [z, z])] : List AR).map aD)) ?ev2 h4 (fun v2 F5 H5 s5 h5 d5 => ?_)
    case ev2 =>
      dsimp only [List.map, aD]
      repeat (first | with_reducible exact evfs_nil | exact evf_int | with_reducible exact evf_str | (with_reducible refine evf_strs ?_ (Nat.le_of_ble_eq_true rfl); dsimp only [List.map]) | (with_reducible refine' evf_lst ?_ ?hl; (case hl => exact Nat.le_of_ble_eq_true rfl)) | with_reducible refine evfs_cons ?_ ?_ | exact evf_sv rfl)
    obtain ⟨l2, us2, rfl, hl2, du2⟩ := dq_list d5
    have lu1 : us1.length = 4 := du1.len
    have lu2 : us2.length = 2 := du2.len
    refine g_addL (h5.same _ _ (s5 _ _ hl1)) (h5.same _ _ hl2) (sz (by omega)) h5 (fun rp H6 n6 h6 => ?_)
    have dv : DqAll F5 (us1 ++ us2) (([(0, [z]), (1, [z]), (2, [z, z]), (2, [z, "n1n"])] ++ [(3, [z]), (3, [z, z])] : List AR).map aD) := by
      rw [List.map_append]
      exact (du1.up s5 _ _).app du2
    have dueD : Dq F5 (.ref du) (aqD true z) := dq_aq (s5 _ _ (s4 _ _ f3))
    have sF5 := sF.trans (s3.trans (s4.trans s5))
    have lv : (us1 ++ us2).length = 6 := by rw [List.length_append]; omega
    have ar : ∀ r ∈ ([(0, [z]), (1, [z]), (2, [z, z]), (2, [z, "n1n"])] ++ [(3, [z]), (3, [z, z])] : List AR), ArOk rows (true, z) r := fun r hr => by
      simp only [List.cons_append, List.nil_append, List.mem_cons, List.not_mem_nil, or_false] at hr
      rcases hr with rfl | rfl | rfl | rfl | rfl | rfl
      · exact ⟨by show 1 ≤ 100; decide, .inl ⟨rfl, z, rfl, uz, rfl⟩⟩
      · exact ⟨by show 1 ≤ 100; decide, .inr (.inl ⟨rfl, z, rfl, uz, rfl⟩)⟩
      · exact ⟨by show 2 ≤ 100; decide, .inr (.inr (.inl ⟨rfl, z, z, rfl, rfl, .inl ⟨uz, rfl⟩⟩))⟩
      · exact ⟨by show 2 ≤ 100; decide, .inr (.inr (.inl ⟨rfl, z, "n1n", rfl, rfl, .inl ⟨uz, rfl⟩⟩))⟩
      · exact ⟨by show 1 ≤ 100; decide, .inr (.inr (.inr ⟨rfl, by simp [chkE, kz]⟩))⟩
      · exact ⟨by show 2 ≤ 100; decide, .inr (.inr (.inr ⟨rfl, by simp [chkE, kz]⟩))⟩
    generalize ([(0, [z]), (1, [z]), (2, [z, z]), (2, [z, "n1n"])] ++ [(3, [z]), (3, [z, z])] : List AR) = rs at dv ar
    generalize us1 ++ us2 = vs at dv lv h6
    clear s3 s4 s5 f3 d4 d5 du1 du2 hl1 hl2 lu1 lu2 h2 h3 h4 h5 n3 n6
    with_reducible refine g_name ?_
    dsimp only [List.set, wipe, List.map]
    with_reducible refine g_seq ?_
    refine g_joinD (fun σ' H' => ∃ (F : Hp) (rp : Addr) (vs : List V) (rs : List AR), σ' = [some (.ref a), some (.ref nm), some (.int (n : Nat)), some (.int (d : Nat)), some (.str known), some (.ref op), some (.str z), some (.bl false), some (.ref du), some (.ref rp), y10, none, none, none] ∧ Same F5 F ∧ Has F [(rp, .lst vs)] H' ∧ DqAll F vs (rs.map aD) ∧ ∀ r ∈ rs, ArOk rows (true, z) r) ?_ (fun nx' key => ?_)
    rotate_left
    · walk_at "g"
      walk_at "gg"
      refine i_d (fun c => ?_) (fun c => ?_)
      · have np : 0 < n := by omega
        have kz2 := kk_ np
        obtain ⟨uk, euk⟩ := kn_of kz2
        with_reducible refine g_seq ?_
        with_reducible refine g_asg ?_
        with_reducible refine g_op ?_
        refine g_var rfl ?_
        have s6 := h6.grow
        have f6 : upd F5 rp (.lst vs) rp = some (.lst vs) := upd_same
        have h6 := h6.frz
        generalize upd F5 rp (.lst vs) = F6 at h6 s6 f6
        refine EvF.use (d := .list (([(2, [z, known]), (2, [known, z])] : List AR).map aD)) ?ev3 h6 (fun v3 F7 H7 s7 h7 d7 => ?_)
        case ev3 =>
          dsimp only [List.map, aD]
          repeat (first | with_reducible exact evfs_nil | exact evf_int | with_reducible exact evf_str | (with_reducible refine evf_strs ?_ (Nat.le_of_ble_eq_true rfl); dsimp only [List.map]) | (with_reducible refine' evf_lst ?_ ?hl; (case hl => exact Nat.le_of_ble_eq_true rfl)) | with_reducible refine evfs_cons ?_ ?_ | exact evf_sv rfl)
        obtain ⟨l3, us3, rfl, hl3, du3⟩ := dq_list d7
        have lu3 : us3.length = 2 := du3.len
        refine g_addL (h7.same _ _ (s7 _ _ f6)) (h7.same _ _ hl3) (sz (by omega)) h7 (fun rp2 H8 n8 h8 => ?_)
        with_reducible refine g_name ?_
        dsimp only [List.set, wipe, List.map]
        have dv : DqAll F7 (vs ++ us3) ((rs ++ [(2, [z, known]), (2, [known, z])]).map aD) := by
          rw [List.map_append]
          exact (dv.up (s6.trans s7) _ _).app du3
        have ar : ∀ r ∈ rs ++ [(2, [z, known]), (2, [known, z])], ArOk rows (true, z) r := fun r hr => by
          rcases List.mem_append.mp hr with hr | hr
          · exact ar r hr
          simp only [List.mem_cons, List.not_mem_nil, or_false] at hr
          rcases hr with rfl | rfl
          · exact ⟨by show 2 ≤ 100; decide, .inr (.inr (.inl ⟨rfl, z, known, rfl, rfl, .inl ⟨uz, rfl⟩⟩))⟩
          · exact ⟨by show 2 ≤ 100; decide, .inr (.inr (.inl ⟨rfl, known, z, rfl, rfl, .inr ⟨uk, euk, uz, rfl⟩⟩))⟩
        have lv : (vs ++ us3).length = 8 := by rw [List.length_append]; omega
        generalize rs ++ [(2, [z, known]), (2, [known, z])] = rs at dv ar
        generalize vs ++ us3 = vs at dv h8 lv
        walk_at "gg"
        refine g_klstF (by walk_at "sz") h8 (fun pl H9 F9 n9 s9 f9 h9 => ?_)
        walk_at "gg"
        refine g_klstF (by walk_at "sz") h9 (fun rr H10 F10 n10 s10 f10 h10 => ?_)
        walk_at "gg"
        refine g_append h10 .hd (szl (by omega)) (fun H11 h11 => ?_)
        walk_at "gg"
        refine g_klstF (by walk_at "sz") h11 (fun pl2 H12 F12 n12 s12 f12 h12 => ?_)
        walk_at "gg"
        refine g_klstF (by walk_at "sz") h12 (fun rr2 H13 F13 n13 s13 f13 h13 => ?_)
        walk_at "gg"
        refine g_append h13 .hd (szl (by rw [List.length_append]; show _ + 1 < _; omega)) (fun H14 h14 => ?_)
        have f9' : F9 pl = some (.lst ([known, z, known].map V.str)) := f9
        have f12' : F12 pl2 = some (.lst ([z, known, known].map V.str)) := f12
        refine key _ _ ⟨F13, rp2, _, rs ++ [(3, [known, z, known])] ++ [(3, [z, known, known])], rfl, (s6.trans s7).trans (s9.trans (s10.trans (s12.trans s13))), h14, ?_, fun r hr => ?_⟩
        · rw [List.map_append, List.map_append]
          exact ((dv.up (s9.trans (s10.trans (s12.trans s13))) _ _).snoc (.lst (s13 _ _ (s12 _ _ f10)) (.cons (.int _) (.cons (Dq.strs (s13 _ _ (s12 _ _ (s10 _ _ f9')))) .nil)))).snoc (.lst f13 (.cons (.int _) (.cons (Dq.strs (s13 _ _ f12')) .nil)))
        · rcases List.mem_append.mp hr with hr | hr
          · rcases List.mem_append.mp hr with hr | hr
            · exact ar r hr
            · rw [List.mem_singleton.mp hr]
              exact ⟨by show 3 ≤ 100; decide, .inr (.inr (.inr ⟨rfl, chk_bad (A := [known]) kz (fun y hy => by rw [List.mem_singleton.mp hy]; exact kz2) (by simp) (by simp)⟩))⟩
          · rw [List.mem_singleton.mp hr]
            exact ⟨by show 3 ≤ 100; decide, .inr (.inr (.inr ⟨rfl, chk_bad (A := []) kz (by simp) List.nodup_nil (by simp)⟩))⟩
      · walk_at "gg"
        exact key _ _ ⟨F5, rp, vs, rs, rfl, Same.refl _, h6, dv, ar⟩
    rintro σ' H7 ⟨F7, rp, vs, rs, rfl, s7, h7, dv, ar⟩
    have dueD := dueD.up s7 _ _
    have sF7 := sF5.trans s7
    have f7 : upd F7 rp (.lst vs) rp = some (.lst vs) := upd_same
    have sg := h7.grow
    have h7 := h7.frz
    generalize upd F7 rp (.lst vs) = F8 at h7 sg f7
    have dv := dv.up sg _ _
    have dueD := dueD.up sg _ _
    have sF8 := sF7.trans sg
    walk_at "gg"
    refine k_forL (h7.same _ _ f7) (fun t σ H' => ∃ (y10 : Option V), σ = [some (.ref a), some (.ref nm), some (.int (n : Nat)), some (.int (d : Nat)), some (.str known), some (.ref op), some (.str z), some (.bl false), some (.ref du), some (.ref rp), y10, none, none, none] ∧ Has F8 [] H') ⟨_, rfl, h7⟩ ?_ ?_ ?_
    · rintro t σ H' _ ⟨_, rfl, hh⟩
      exact hh.same _ _ f7
    · rintro t v σ H8 hv ⟨y10, rfl, h8⟩
      obtain ⟨dd', ed, dx'⟩ := dv.get hv
      rw [List.getElem?_map] at ed
      obtain ⟨r, er, rfl⟩ := Option.map_eq_some_iff.mp ed
      obtain ⟨la, fl⟩ := ar r (List.mem_of_getElem? er)
      obtain ⟨ra, l, rfl, hra, hl⟩ := aD_at dx'
      walk_at "gg"
      refine g_ixL (v := .int (r.1 : Nat)) (h8.same _ _ hra) (atI_nat (j := 0) rfl) ?_
      walk_at "gg"
      refine g_ixL (v := .ref l) (h8.same _ _ hra) (atI_nat (j := 1) rfl) ?_
      walk_at "gg"
      refine ⟨a, l, rows, r.1, r.2, (true, z), rfl, ho1.mono (sF8.trans h8.same), h8.same _ _ hl, la, fl, fun p H9 s9 n9 h9 => ?_⟩
      have h9' := h8.on s9
      walk_at "gg"
      refine g_neD (dq_aq (b := true) (z := z) h9) (dueD.up h9'.same _ _) ((sh_aq sz_).ok (by decide)) ((sh_aq sz_).ok (by decide)) ?_
      rw [SeqAt.eqv_refl _ (sh_aq sz_).1]
      walk_at "gg"
      exact ⟨_, rfl, h9'⟩
    · rintro σ H8 ⟨y10, rfl, h8⟩
      walk_at "gg"
      exact ⟨F8, _, _, _, _, _, rfl, sF8, h8⟩
  rintro σ H2 ⟨F2, y6, y7, y8, y9, y10, rfl, sF, h2⟩
  have s2 := s1.trans sF
  have ho2 := ho.mono s2
  have at2 := at_.mono s2
  have hnm2 := s2 _ _ hnm
  clear h
  -- a known one twice
  walk_at "gg"
  refine g_klstF (by walk_at "sz") h2 (fun du H3 F3 n3 s3 f3 h3 => ?_)
  have dueD : Dq F3 (.ref du) (aqD false known) := dq_aq f3
  have at3 := at2.mono s3
  have ho3 := ho2.mono s3
  have hnm3 := s3 _ _ hnm2
  walk_at "g"
  walk_at "g"
  refine g_joinD (fun σ' H' => ∃ (F : Hp), σ' = [some (.ref a), some (.ref nm), some (.int (n : Nat)), some (.int (d : Nat)), some (.str known), some (.ref op), y6, y7, some (.ref du), y9, y10, none, none, none] ∧ Same F3 F ∧ Has F [] H') ?_ (fun nx' key => ?_)
  rotate_left
  · walk_at "gg"
    refine i_d (fun c => ?_) (fun c => ?_)
    · have kz2 := kk_ (by omega)
      walk_at "gg"
      refine g_klstF (by walk_at "sz") h3 (fun pl H4 F4 n4 s4 f4 h4 => ?_)
      walk_at "gg"
      refine ⟨a, pl, rows, 3, [known, known, "n0n"], (false, known), rfl, ho3.mono (s4.trans h4.same), h4.same _ _ f4, by show 3 ≤ 100; decide, .inr (.inr (.inr ⟨rfl, by simp [chkE, kz2]⟩)), fun p H5 s5 n5 h5 => ?_⟩
      have h5' := h4.on s5
      walk_at "gg"
      refine g_neD (dq_aq (b := false) (z := known) h5) (dueD.up (s4.trans h5'.same) _ _) ((sh_aq sk).ok (by decide)) ((sh_aq sk).ok (by decide)) ?_
      rw [SeqAt.eqv_refl _ (sh_aq sk).1]
      walk_at "gg"
      exact key _ _ ⟨F4, rfl, s4, h5'⟩
    · walk_at "gg"
      exact key _ _ ⟨F3, rfl, Same.refl _, h3⟩
  rintro σ' H4 ⟨F4, rfl, s4, h4⟩
  have at4 := at3.mono s4
  have ho4 := ho3.mono s4
  have hnm4 := s4 _ _ hnm3
  have s04 := s2.trans (s3.trans s4)
  -- checked
  walk_at "gg"
  refine g_slM (g_slL (h4.same _ _ hnm4) h4 (fun p1 H5 n5 h5 => ?_))
  rw [cutV_to, ← List.map_take] at h5
  walk_at "gg"
  refine g_rRev (h5.get (List.Mem.head _)) h5 (fun ps H6 n6 h6 => ?_)
  rw [rev_strs] at h6
  have h6 : Has F4 [(ps, .lst (((names.take n).reverse).map V.str))] H6 := h6.sub (by walk_at "sub")
  have okr : okL (names.take n).reverse := fun z hz => (nms.ok z (List.mem_of_mem_take (List.mem_reverse.mp hz))).strOk
  have chk : chkE (kn rows) [] (names.take n).reverse = none := chkE_none (fun z hz => by
    have hz := List.mem_reverse.mp hz
    obtain ⟨k, ek⟩ := List.mem_iff_getElem?.mp hz
    have lk := (List.getElem?_eq_some_iff.mp ek).1
    rw [List.length_take] at lk
    rw [List.getElem?_take_of_lt (by omega)] at ek
    exact (KN z).mpr ⟨k, by omega, ek⟩) ((List.reverse_perm _).nodup_iff.mpr ((List.take_sublist _ _).nodup nms.nd)) (fun _ _ h => by cases h)
  have lr : (names.take n).reverse.length ≤ 20 := by rw [List.length_reverse, List.length_take]; omega
  have fps : upd F4 ps (.lst (((names.take n).reverse).map V.str)) ps = some (.lst (((names.take n).reverse).map V.str)) := upd_same
  have s6 := h6.grow
  have h6 := h6.frz
  generalize upd F4 ps (.lst (((names.take n).reverse).map V.str)) = F6 at h6 s6 fps
  have hnm6 := s6 _ _ hnm4
  walk_at "gg"
  refine k_forR1 (fun t σ H' => ∃ (y12 y13 : Option V), σ = [some (.ref a), some (.ref nm), some (.int (n : Nat)), some (.int (d : Nat)), some (.str known), some (.ref op), y6, y7, some (.ref du), y9, y10, some (.ref ps), y12, y13] ∧ Has F6 [] H') (by decide) (by decide) ⟨_, _, rfl, h6⟩ ?_ ?_
  · rintro t σ H7 ht ⟨y12, y13, rfl, h7⟩
    walk_at "gg"
    refine g_kmeth (at4.mono (s6.trans h7.same)).i rfl ?_
    walk_at "gg"
    refine ⟨a, ps, rows, _, rfl, ho4.mono (s6.trans h7.same), h7.same _ _ fps, by omega, fun _ tp H8 s8 n8 h8 => ?_, (fun z e => by rw [chk] at e; cases e), (fun z e => by rw [chk] at e; cases e)⟩
    have h8' := h7.made n8 s8 h8
    walk_at "gg"
    refine g_slM (g_slL (h8'.same _ _ hnm6) h8' (fun q1 H9 n9 h9 => ?_))
    rw [cutV_to, ← List.map_take] at h9
    walk_at "gg"
    refine g_rRev (h9.get (List.Mem.head _)) h9 (fun q2 H10 n10 h10 => ?_)
    rw [rev_strs] at h10
    refine ne_lists (h10.get (by walk_at "m")) (h10.get (List.Mem.head _)) okr ?_
    have h10 : Has F6 [(tp, .lst (((names.take n).reverse).map V.str))] H10 := h10.sub (by walk_at "sub")
    walk_at "gg"
    refine g_append h10 .hd (szl (by rw [List.length_map]; omega)) (fun H11 h11 => ?_)
    walk_at "gg"
    exact ⟨_, _, rfl, h11.drop⟩
  rintro σ H7 ⟨y12, y13, rfl, h7⟩
  walk_at "gg"
  refine g_slM (g_slL (h7.same _ _ hnm6) h7 (fun q1 H9 n9 h9 => ?_))
  rw [cutV_to, ← List.map_take] at h9
  walk_at "gg"
  refine g_rRev (h9.get (List.Mem.head _)) h9 (fun q2 H10 n10 h10 => ?_)
  rw [rev_strs] at h10
  refine g_eqD (Dq.strs (xs := (names.take n).reverse) (h10.same _ _ fps)) (Dq.strs (xs := (names.take n).reverse) (h10.get (List.Mem.head _))) ((Sh.strs (n := 0) okr).ok (by decide)) ((Sh.strs (n := 0) okr).ok (by decide)) ?_
  rw [eqv_strs, decide_eq_true rfl]
  exact q H10 (s04.trans (s6.trans h10.same))
end

end K13

namespace K13
open PySem PySem.Spec PyProof.Rows L2 Qk
local macro_rules | `(tactic| walk_at "m") => `(tactic| ((repeat (first | exact List.Mem.head _ | apply List.Mem.tail)); done))
local macro_rules | `(tactic| walk_at "h") => `(tactic| first | assumption | exact Has.gF (by assumption) (by assumption) | exact Has.get (by assumption) (by walk_at "m"))
local macro_rules | `(tactic| walk_at "c") => `(tactic| ((repeat (first | exact Chg.hd | apply Chg.tl)); done))
local macro_rules | `(tactic| walk_at "is") => `(tactic| first
  | ((with_reducible refine' is2_non ?gh ?_); (case gh => walk_at "h"))
  | (with_reducible refine is_int_list ?_)
  | (with_reducible refine is_int_tuple ?_)
  | (with_reducible refine is_int_dict ?_)
  | (with_reducible refine is_int_int ?_)
  | (with_reducible refine is_int_bool ?_)
  | (with_reducible refine is_int_str ?_)
  | ((with_reducible refine' is2_int ?gh ?_); (case gh => walk_at "h"))
  | (with_reducible refine is_str_list ?_)
  | (with_reducible refine is_str_tuple ?_)
  | (with_reducible refine is_str_dict ?_)
  | (with_reducible refine is_str_int ?_)
  | (with_reducible refine is_str_bool ?_)
  | (with_reducible refine is_str_str ?_)
  | ((with_reducible refine' is2_str ?gh ?_); (case gh => walk_at "h"))
  | (with_reducible refine is_bool_list ?_)
  | (with_reducible refine is_bool_tuple ?_)
  | (with_reducible refine is_bool_dict ?_)
  | (with_reducible refine is_bool_int ?_)
  | (with_reducible refine is_bool_bool ?_)
  | (with_reducible refine is_bool_str ?_)
  | ((with_reducible refine' is2_bool ?gh ?_); (case gh => walk_at "h"))
  | ((with_reducible refine' is_list_list ?gh ?_); (case gh => walk_at "h"))
  | ((with_reducible refine' is_list_tuple ?gh ?_); (case gh => walk_at "h"))
  | ((with_reducible refine' is_list_dict ?gh ?_); (case gh => walk_at "h"))
  | ((with_reducible refine' is_list_int ?gh ?_); (case gh => walk_at "h"))
  | ((with_reducible refine' is_list_bool ?gh ?_); (case gh => walk_at "h"))
  | ((with_reducible refine' is_list_str ?gh ?_); (case gh => walk_at "h"))
  | ((with_reducible refine' is2_list ?ga ?gb ?_); (case ga => walk_at "h"); (case gb => walk_at "h"))
  | ((with_reducible refine' is_tuple_list ?gh ?_); (case gh => walk_at "h"))
  | ((with_reducible refine' is_tuple_tuple ?gh ?_); (case gh => walk_at "h"))
  | ((with_reducible refine' is_tuple_dict ?gh ?_); (case gh => walk_at "h"))
  | ((with_reducible refine' is_tuple_int ?gh ?_); (case gh => walk_at "h"))
  | ((with_reducible refine' is_tuple_bool ?gh ?_); (case gh => walk_at "h"))
  | ((with_reducible refine' is_tuple_str ?gh ?_); (case gh => walk_at "h"))
  | ((with_reducible refine' is2_tuple ?ga ?gb ?_); (case ga => walk_at "h"); (case gb => walk_at "h"))
  | ((with_reducible refine' is_dict_list ?gh ?_); (case gh => walk_at "h"))
  | ((with_reducible refine' is_dict_tuple ?gh ?_); (case gh => walk_at "h"))
  | ((with_reducible refine' is_dict_dict ?gh ?_); (case gh => walk_at "h"))
  | ((with_reducible refine' is_dict_int ?gh ?_); (case gh => walk_at "h"))
  | ((with_reducible refine' is_dict_bool ?gh ?_); (case gh => walk_at "h"))
  | ((with_reducible refine' is_dict_str ?gh ?_); (case gh => walk_at "h"))
  | ((with_reducible refine' is2_dict ?ga ?gb ?_); (case ga => walk_at "h"); (case gb => walk_at "h")))
local macro_rules | `(tactic| walk_at "g") => `(tactic| first
  | (with_reducible refine g_seq ?_)
  | (with_reducible refine g_asg ?_)
  | ((with_reducible refine g_name ?_); dsimp only [List.set, wipe, List.map])
  | ((with_reducible refine' g_var ?gv ?_); (case gv => exact rfl))
  | (with_reducible refine g_c ?_)
  | (with_reducible refine g_op ?_)
  | (with_reducible refine g_cons ?_)
  | (with_reducible refine g_nil ?_)
  | (with_reducible refine g_cb ?_)
  | (with_reducible refine g_call ?_)
  | (with_reducible refine g_tup ?_)
  | (with_reducible refine g_lst ?_)
  | (with_reducible refine g_bm ?_)
  | (with_reducible refine g_bm0 ?_)
  | ((with_reducible refine' g_kbm ?gh ?_); (case gh => walk_at "h"))
  | (with_reducible refine g_drop ?_)
  | (with_reducible refine g_ret ?_)
  | (with_reducible refine g_retN ?_)
  | (with_reducible refine g_next ?_)
  | (with_reducible refine g_brk ?_)
  | (with_reducible refine g_cont ?_)
  | (with_reducible refine g_if ?_)
  | ((with_reducible refine' g_aug ?gv ?_); (case gv => exact rfl))
  | (with_reducible refine g_ipI ?_)
  | (with_reducible refine g_test ?_)
  | (with_reducible refine g_tB ?_)
  | (with_reducible refine g_kB ?_)
  | (with_reducible refine g_not ?_)
  | (with_reducible refine g_and ?_)
  | (with_reducible refine g_or ?_)
  | (with_reducible refine g_andV ?_)
  | (with_reducible refine g_orV ?_)
  | (with_reducible refine g_notV ?_)
  | (with_reducible refine g_ifE ?_)
  | (with_reducible refine g_addI ?_)
  | (with_reducible refine g_rI0 ?_)
  | (with_reducible refine g_eqI ?_)
  | (with_reducible refine g_eqS ?_)
  | (with_reducible refine g_neI ?_)
  | (with_reducible refine g_neS ?_)
  | (with_reducible refine g_isN ?_)
  | (with_reducible refine g_notN ?_)
  | (with_reducible refine g_int ?_)
  | (with_reducible refine g_max2 ?_)
  | (with_reducible refine g_min2 ?_)
  | ((with_reducible refine' g_lenL ?gh ?_); (case gh => walk_at "h"))
  | (with_reducible refine g_sub ?_)
  | (with_reducible refine g_gcons ?_)
  | (with_reducible refine g_gnil ?_)
  | (with_reducible refine g_un ?_)
  | (with_reducible refine g_rU ?_)
  | (with_reducible refine g_forL ?_)
  | (with_reducible refine g_forS ?_)
  | (with_reducible refine g_forR1 ?_)
  | (with_reducible refine g_forR2 ?_)
  | (with_reducible refine g_forR3 ?_)
  | (with_reducible refine g_lcL ?_)
  | (with_reducible refine g_lcR1 ?_)
  | (with_reducible refine g_lcR2 ?_)
  | (with_reducible refine g_slice ?_)
  | (with_reducible refine g_part ?_)
  | (with_reducible refine g_kOI ?_)
  | (with_reducible refine g_nopart ?_)
  | (with_reducible refine g_yes ?_)
  | ((with_reducible refine' g_wipe ?gv ?_); (case gv => exact rfl))
  | (with_reducible refine iteT ?_)
  | (with_reducible refine iteF ?_)
  | (with_reducible refine i_nf ?_)
  | (with_reducible refine i_nt ?_)
  | ((with_reducible refine' g_gtup ?gh ?gl ?_); (case gh => walk_at "h"); (case gl => exact rfl))
  | ((with_reducible refine' g_notinI ?gh ?_); (case gh => walk_at "h"))
  | ((with_reducible refine' g_inI ?gh ?_); (case gh => walk_at "h"))
  | ((with_reducible refine' g_kget2 ?gh ?_); (case gh => walk_at "h"))
  | ((with_reducible refine' g_kgotI ?gh ?_); (case gh => walk_at "h"))
  | (with_reducible refine g_tRev ?_)
  | (with_reducible refine g_neB ?_)
  | (with_reducible refine g_eqB ?_)
  | ((with_reducible refine' g_lenT ?gh ?_); (case gh => walk_at "h"))
  | (with_reducible refine g_star ?_)
  | ((with_reducible refine' g_kstarL ?gh ?_); (case gh => walk_at "h"))
  | ((with_reducible refine' g_kstarT ?gh ?_); (case gh => walk_at "h"))
  | (with_reducible refine g_tru ?_)
  | ((with_reducible refine' g_truL ?gh ?_); (case gh => walk_at "h"))
  | (with_reducible refine g_get2 ?_)
  | (with_reducible refine g_try ?_)
  | (with_reducible refine g_fld ?_)
  | (with_reducible refine g_sfld ?_)
  | (with_reducible refine g_meth ?_)
  | (with_reducible refine g_make ?_)
  | (with_reducible refine g_del ?_)
  | (with_reducible refine g_callS ?_)
  | (with_reducible refine g_raise ?_)
  | (with_reducible refine g_xf ?_)
  | (with_reducible refine g_m0 ?_)
  | (with_reducible refine g_km0 ?_)
  | walk_at "is")
local macro_rules | `(tactic| walk_at "gg") => `(tactic| repeat walk_at "g")
local macro_rules | `(tactic| walk_at "sz") => `(tactic| (refine sz ?_; simp only [List.length_cons, List.length_nil, List.length_map, List.length_append, List.length_replicate]; omega))
local macro_rules | `(tactic| walk_at "sub") => `(tactic| ((repeat (first | exact List.Sublist.slnil | with_reducible apply List.Sublist.cons_cons | with_reducible apply List.Sublist.cons)); done))

local macro_rules | `(tactic| walk_at "g") => `(tactic| first
  | (with_reducible refine g_dcL ?_)
  | (with_reducible refine g_dcT ?_)
  | (with_reducible refine g_m1s ?_)
  | (with_reducible refine g_km1s ?_)
  | (with_reducible refine g_starts ?_)
  | (with_reducible refine g_tryX ?_)
  | (with_reducible refine g_lcS ?_))

/-! ### spelt -/
def pd4 (a b c d : Bool) (z : Str) : PyData := .list [.bool true, .list [.bool a, .bool b, .bool c, .bool d], .str z]
theorem sh_pd4 {a b c d : Bool} {z : Str} (h : PyData.strOk z = true) : Sh 2 (pd4 a b c d z) := Sh.list fun x hx => by
  simp only [List.mem_cons, List.not_mem_nil, or_false] at hx
  rcases hx with rfl | rfl | rfl
  · exact Sh.bl _
  · exact Sh.list fun y hy => by
      simp only [List.mem_cons, List.not_mem_nil, or_false] at hy
      rcases hy with rfl | rfl | rfl | rfl <;> exact Sh.bl _
  · exact Sh.str h
theorem badD_4 (k : Nat) (z : Str) : badD k z = pd4 (decide (k = 0)) (decide (k = 1)) (decide (k = 2)) (decide (k = 3)) z := rfl
theorem dq_pd4 {F : Hp} {p l : Addr} {a b c d : Bool} {z : Str} (h : F p = some (.lst [.bl true, .ref l, .str z])) (hl : F l = some (.lst [.bl a, .bl b, .bl c, .bl d])) : Dq F (.ref p) (pd4 a b c d z) := .lst h (.cons (.bl _) (.cons (.lst hl (.cons (.bl _) (.cons (.bl _) (.cons (.bl _) (.cons (.bl _) .nil))))) (.cons (.str _) .nil)))
section
variable {P : Program} {w : World} {K : PySem.W.Frag} {mg : Str → Option Value} {base : Heap}
theorem StO.sl {T : Txt K mg} {A B : OA} {F H : Hp} {rows rows2 : List URow} {Q : VK} {l : Addr} {xs : List V} {lo hi : Option Int} (st : StO T A B F H rows rows2) (hl : F l = some (.lst xs)) (q : ∀ p H', H p = none → H' p = some (.lst (cutV xs lo hi)) → StO T A B F H' rows rows2 → Q (.ref p) H') : rSlM K (.ref l) lo hi H Q := by
  obtain ⟨nl, kvs, nl2, kvs2, h, ok, ok2⟩ := st
  exact g_slM (g_slL (h.same _ _ hl) h fun p H1 n1 h1 => q p H1 n1 (h1.get (List.Mem.head _)) ⟨nl, kvs, nl2, kvs2, h1.drop, ok, ok2⟩)
def sp_l_spelt (T : Txt K mg) : Sp := fun vs H Q _ => ∃ (A B : OA) (F : Hp) (nm wl : Addr) (names words : List Str) (n : Nat) (rows rows2 : List URow), vs = [.ref A.a, .ref nm, .ref wl, .int (n : Nat)] ∧ StO T A B F H rows rows2 ∧ F nm = some (.lst (names.map V.str)) ∧ F wl = some (.lst (words.map V.str)) ∧ Nms names ∧ names.length ≤ 20 ∧ n ≤ names.length ∧ (∀ z, kn rows z = true ↔ ∃ j, j < n ∧ names[j]? = some z) ∧ rows.length < 60 ∧ (∀ z ∈ words, PyData.strOk z = true ∧ z.length ≤ 1000) ∧
  ∀ H' F', Same F F' → StO T A B F' H' rows rows2 → Q (.bl true) H'
theorem sp_l_spelt_len {T : Txt K mg} {vs H Q E} (h : sp_l_spelt T vs H Q E) : vs.length = 4 := by
  obtain ⟨_, _, _, _, _, _, _, _, _, _, rfl, _⟩ := h
  rfl
set_option maxHeartbeats 2000000 in
theorem ok_l_spelt (T : Txt K mg) : FnOk P w K mg base CX0 6 T.f_l_spelt T.fd_l_spelt ["order", "names", "words", "count"] (sp_l_spelt T) := by
  refine T.F_l_spelt.ok sc_l_spelt (fun vs H Q E h => sp_l_spelt_len h) (fun cdv A outer s H vs Q E hr h => ?_)
  refine ⟨_, (pss_cons (ps_for PassesOwn.never rfl (k_il K (pi_list (pv 2))) (pg_name (i := 4) sc_l_spelt.nd rfl (.inl rfl)) (pss_cons (ps_set (i := 5) sc_l_spelt.nd rfl (.inl rfl) (pe_call (ok_l_is_good T) (hr.mono (by decide)) (by rfl) T.g_l_is_good T.F_l_is_good.kp T.b_l_is_good .nil pass0 (pa_cons (pv 4) pa_nil)))
      (pss_cons (ps_set (i := 6) sc_l_spelt.nd rfl (.inl rfl) (pe_call (ok_is_name T) (hr.mono (by decide)) (by rfl) T.g_is_name T.F_is_name.kp T.b_is_name .nil pass0 (pa_cons (pv 4) pa_nil)))
      (pss_cons (ps_if (PW.pt (pw_or (pt_not (pt_val (pe_callB (cr_isK K) (by rfl) T.m_isinstance (by decide +kernel) (pa_cons (pv 6) (pa_cons (pe_bltn (v := .ty "bool") (by rfl) T.m_bool (by decide +kernel) rfl) pa_nil))))) (pw_or1 (pt_cmpR (op_neK K hr.units) (pv 6) (pv 5) (nomark _))))) (pss_one (ps_ret pe_bl)) pss_nil)
      (pss_cons (ps_set (i := 7) sc_l_spelt.nd rfl (.inl rfl) (pe_ix (ix_K K (hu_of hr)) (pe_lst (pa_cons pe_str (pa_cons (pv 4) pa_nil))) (pe_callTy cr_int1 (by rfl) T.m_int (by decide +kernel) (pa_cons (pe_not (pv 5)) pa_nil)) (fun _ _ => rfl)))
      (pss_cons (ps_set (i := 8) sc_l_spelt.nd rfl (.inl rfl) (pe_lst (pa_cons pe_bl (pa_cons (pe_lst (pa_cons (pe_not (pv 5)) (pa_cons pe_bl (pa_cons (pv 5) (pa_cons pe_bl pa_nil))))) (pa_cons (pv 7) pa_nil)))))
      (pss_cons (ps_if (pt_cmpR (op_inM K P w hr.units (u65 hr)) (pv 4) (pe_slice (sl_M K) (pv 1) po_none (po_some (pv 3))) (by rfl)) (pss_one (ps_set (i := 8) sc_l_spelt.nd rfl (.inl rfl) (pe_lst (pa_cons pe_bl (pa_cons (pe_lst (pa_cons pe_bl (pa_cons pe_bl (pa_cons pe_bl (pa_cons pe_bl pa_nil))))) (pa_cons (pv 4) pa_nil)))))) pss_nil)
      (pss_cons (ps_if (pt_cmpR (op_neK K hr.units) (pe_call (ok_l_put T) (hr.mono (by decide)) (by rfl) T.g_l_put T.F_l_put.kp T.b_l_put .nil pass0 (pa_cons (pv 0) (pa_cons (pv 4) (pa_cons (pe_lst (pa_cons pe_str pa_nil)) pa_nil)))) (pv 8) (nomark _)) (pss_one (ps_ret pe_bl)) pss_nil)
      (pss_cons (ps_set (i := 6) sc_l_spelt.nd rfl (.inl rfl) (pe_methW (pv 0) T.cl_Order T.M_Order_has (ok_Order_has T) (hr.mono (by decide)) T.b_Order_has (pass0S (E := fun _ => E0)) (pa_cons (pv 4) pa_nil)))
      (pss_one (ps_if (PW.pt (pw_or (pt_not (pt_val (pe_callB (cr_isK K) (by rfl) T.m_isinstance (by decide +kernel) (pa_cons (pv 6) (pa_cons (pe_bltn (v := .ty "bool") (by rfl) T.m_bool (by decide +kernel) rfl) pa_nil))))) (pw_or1 (pt_cmpR (op_neK K hr.units) (pv 6) (pe_cmpR (op_inM K P w hr.units (u65 hr)) (pv 4) (pe_slice (sl_M K) (pv 1) po_none (po_some (pv 3))) (by rfl)) (nomark _))))) (pss_one (ps_ret pe_bl)) pss_nil)))))))))))
      (pss_one (ps_ret pe_bl))), ?_⟩
  obtain ⟨A, B, F, nm, wl, names, words, n, rows, rows2, rfl, st, fnm, fwl, nms, ln, hn, KN, few, all, q⟩ := h
  refine g_start (σ' := [some (.ref A.a), some (.ref nm), some (.ref wl), some (.int (n : Nat)), none, none, none, none, none]) rfl ?_
  have inn : ∀ z, kn rows z = true ↔ z ∈ names.take n := fun z => by
    rw [KN, List.mem_iff_getElem?]
    constructor
    · rintro ⟨j, lj, e⟩
      exact ⟨j, by rw [List.getElem?_take_of_lt lj]; exact e⟩
    · rintro ⟨j, e⟩
      have lj := (List.getElem?_eq_some_iff.mp e).1
      rw [List.length_take] at lj
      rw [List.getElem?_take_of_lt (by omega)] at e
      exact ⟨j, by omega, e⟩
  have k0 : kn rows "n0n" = false := by
    cases e : kn rows "n0n" with
    | false => rfl
    | true => exact (nms.n0 (List.mem_of_mem_take ((inn _).mp e))).elim
  walk_at "gg"
  refine k_forL (st.same _ _ fwl) (fun t σ H' => ∃ (F' : Hp) (y4 y5 y6 y7 y8 : Option V), σ = [some (.ref A.a), some (.ref nm), some (.ref wl), some (.int (n : Nat)), y4, y5, y6, y7, y8] ∧ Same F F' ∧ StO T A B F' H' rows rows2) ⟨F, _, _, _, _, _, rfl, Same.refl _, st⟩ ?_ ?_ ?_
  · rintro t σ H' _ ⟨F', _, _, _, _, _, rfl, sF, st⟩
    exact st.same _ _ (sF _ _ fwl)
  · rintro t x σ H1 hx ⟨F1, y4, y5, y6, y7, y8, rfl, sF, st⟩
    obtain ⟨z, hz, rfl⟩ := str_at hx
    obtain ⟨sz_, lz⟩ := all z (List.mem_of_getElem? hz)
    have fnm := sF _ _ fnm
    walk_at "gg"
    refine ⟨z, rfl, by omega, fun H2 s2 => ?_⟩
    have st := st.on s2
    walk_at "gg"
    refine ⟨z, rfl, by omega, ?_⟩
    walk_at "gg"
    refine i_n (fun c => (c rfl).elim) (fun _ => ?_)
    walk_at "gg"
    -- field, due
    refine StO.lst st (by show 2 ≤ 100000; decide) (fun fp H3 F3 s3 f3 st => ?_)
    have fnm := s3 _ _ fnm
    have sF := sF.trans s3
    have what : ∃ k zz fld, putE rows z ["n0n"] = some (k, zz) ∧ PyData.strOk zz = true ∧ [V.str "n0n", .str z][(if (!isNm z) = true then 1 else 0 : Nat)]? = some (.str fld) ∧ PyData.strOk fld = true ∧
        ((kn rows z = true ∧ k = 1 ∧ zz = z) ∨ (kn rows z = false ∧ zz = fld ∧ decide (k = 0) = (!isNm z) ∧ decide (k = 1) = false ∧ decide (k = 2) = isNm z ∧ decide (k = 3) = false)) := by
      cases hg : isNm z with
      | false =>
        have kz : kn rows z = false := by
          cases e : kn rows z with
          | false => rfl
          | true =>
            have := isNm_iff.mpr (nms.ok z (List.mem_of_mem_take ((inn z).mp e)))
            rw [hg] at this
            cases this
        exact ⟨0, z, z, putE_bad hg, sz_, rfl, sz_, .inr ⟨kz, rfl, rfl, rfl, rfl, rfl⟩⟩
      | true =>
        cases kz : kn rows z with
        | true => exact ⟨1, z, "n0n", putE_old hg kz, sz_, rfl, s0ok, .inl ⟨rfl, rfl, rfl⟩⟩
        | false => exact ⟨2, "n0n", "n0n", putE_new hg kz (b := true) (chk_bad (A := []) k0 (by simp) List.nodup_nil (by simp)), s0ok, rfl, s0ok, .inr ⟨rfl, rfl, rfl, rfl, rfl, rfl⟩⟩
    obtain ⟨k, zz, fld, hp, szz, efl, sfl, hk⟩ := what
    walk_at "gg"
    refine g_intB ?_
    have ei : (if (!isNm z) = true then (1 : Int) else 0) = (((if (!isNm z) = true then 1 else 0 : Nat)) : Int) := by split <;> rfl
    rw [ei]
    refine g_ixL (v := .str fld) (st.same _ _ f3) (atI_nat efl) ?_
    walk_at "gg"
    refine StO.lst st (by show 4 ≤ 100000; decide) (fun gp H4 F4 s4 f4 st => ?_)
    walk_at "gg"
    refine StO.lst st (by show 3 ≤ 100000; decide) (fun du H5 F5 s5 f5 st => ?_)
    have fnm := s5 _ _ (s4 _ _ fnm)
    have sF := sF.trans (s4.trans s5)
    have dueD : Dq F5 (.ref du) (pd4 (!isNm z) false (isNm z) false fld) := dq_pd4 f5 (s5 _ _ f4)
    clear f4 f5 s4 s5 s3 f3
    walk_at "g"
    walk_at "g"
    refine g_joinD (fun σ' H' => ∃ (F : Hp) (du : Addr), σ' = [some (.ref A.a), some (.ref nm), some (.ref wl), some (.int (n : Nat)), some (.str z), some (.bl (isNm z)), some (.bl (isNm z)), some (.str fld), some (.ref du)] ∧ Same F5 F ∧ StO T A B F H' rows rows2 ∧ Dq F (.ref du) (badD k zz)) ?_ (fun nx' key => ?_)
    rotate_left
    · walk_at "gg"
      refine st.sl fnm (fun sl H6 n6 h6 st => ?_)
      rw [cutV_to, ← List.map_take] at h6
      walk_at "gg"
      refine g_inM (g_inFL h6 rfl (flat_strs _) ?_)
      rw [inV_strs]
      walk_at "gg"
      refine i_d (fun m => ?_) (fun m => ?_)
      · have kz := (inn z).mpr m
        rcases hk with ⟨_, rfl, rfl⟩ | ⟨h, _⟩
        rotate_left
        · rw [kz] at h; cases h
        walk_at "gg"
        refine StO.lst st (by show 4 ≤ 100000; decide) (fun gp H7 F7 s7 f7 st => ?_)
        walk_at "gg"
        refine StO.lst st (by show 3 ≤ 100000; decide) (fun du2 H8 F8 s8 f8 st => ?_)
        walk_at "gg"
        exact key _ _ ⟨F8, du2, rfl, s7.trans s8, st, dq_pd4 f8 (s8 _ _ f7)⟩
      · rcases hk with ⟨h, _⟩ | ⟨_, rfl, e0, e1, e2, e3⟩
        · exact (m ((inn z).mp h)).elim
        walk_at "gg"
        refine key _ _ ⟨F5, du, rfl, Same.refl _, st, ?_⟩
        rw [badD_4, e0, e1, e2, e3]
        exact dueD
    rintro σ' H6 ⟨F6, du, rfl, s6, st, dueD⟩
    have fnm := s6 _ _ fnm
    have sF := sF.trans s6
    walk_at "gg"
    refine StO.lst st (by show 1 ≤ 100000; decide) (fun pl H7 F7 s7 f7 st => ?_)
    walk_at "gg"
    refine ⟨A, B, [], F7, rows, rows2, z, pl, ["n0n"], rfl, st.r, AtL.f f7, okL_one s0ok, by omega, by show 1 ≤ 200; decide, few, (fun e => by rw [hp] at e; cases e), fun k' z' e p H8 F8 s8 st d => ?_⟩
    have st := st.o
    rw [hp] at e
    injection e with e
    injection e with e1 e2
    subst e1
    subst e2
    walk_at "gg"
    refine g_neD (d.up st.same _ _) (dueD.up ((s7.trans s8).trans st.same) _ _) ((sh_pd4 szz).ok (by decide)) ((sh_pd4 szz).ok (by decide)) ?_
    have shb : Sh 2 (badD k zz) := sh_pd4 szz
    rw [SeqAt.eqv_refl _ shb.1]
    walk_at "gg"
    have fnm := s8 _ _ (s7 _ _ fnm)
    have sF := sF.trans (s7.trans s8)
    obtain ⟨nl_, ins⟩ := st.ins
    refine g_kmeth ins rfl ?_
    walk_at "gg"
    refine ⟨A.a, rows, z, rfl, st.ord, ?_⟩
    walk_at "gg"
    refine st.sl fnm (fun sl H9 n9 h9 st => ?_)
    rw [cutV_to, ← List.map_take] at h9
    walk_at "gg"
    refine g_inM (g_inFL h9 rfl (flat_strs _) ?_)
    rw [inV_strs]
    walk_at "gg"
    have ek : kn rows z = decide (z ∈ names.take n) := by
      rw [Bool.eq_iff_iff, decide_eq_true_eq]
      exact inn z
    rw [ek]
    refine i_n (fun c => (c rfl).elim) (fun _ => ?_)
    walk_at "gg"
    exact ⟨F8, _, _, _, _, _, rfl, sF, st⟩
  · rintro σ H1 ⟨F1, y4, y5, y6, y7, y8, rfl, sF, st⟩
    walk_at "gg"
    exact q H1 F1 sF st
end

end K13

namespace K13
open PySem PySem.Spec PyProof.Rows L2 Qk
local macro_rules | `(tactic| walk_at "m") => `(tactic| ((repeat (first | exact List.Mem.head _ | apply List.Mem.tail)); done))
local macro_rules | `(tactic| walk_at "h") => `(tactic| first | assumption | exact Has.gF (by assumption) (by assumption) | exact Has.get (by assumption) (by walk_at "m"))
local macro_rules | `(tactic| walk_at "c") => `(tactic| ((repeat (first | exact Chg.hd | apply Chg.tl)); done))
local macro_rules | `(tactic| walk_at "is") => `(tactic| first
  | ((with_reducible refine' is2_non ?gh ?_); (case gh => walk_at "h"))
  | (with_reducible refine is_int_list ?_)
  | (with_reducible refine is_int_tuple ?_)
  | (with_reducible refine is_int_dict ?_)
  | (with_reducible refine is_int_int ?_)
  | (with_reducible refine is_int_bool ?_)
  | (with_reducible refine is_int_str ?_)
  | ((with_reducible refine' is2_int ?gh ?_); (case gh => walk_at "h"))
  | (with_reducible refine is_str_list ?_)
  | (with_reducible refine is_str_tuple ?_)
  | (with_reducible refine is_str_dict ?_)
  | (with_reducible refine is_str_int ?_)
  | (with_reducible refine is_str_bool ?_)
  | (with_reducible refine is_str_str ?_)
  | ((with_reducible refine' is2_str ?gh ?_); (case gh => walk_at "h"))
  | (with_reducible refine is_bool_list ?_)
  | (with_reducible refine is_bool_tuple ?_)
  | (with_reducible refine is_bool_dict ?_)
  | (with_reducible refine is_bool_int ?_)
  | (with_reducible refine is_bool_bool ?_)
  | (with_reducible refine is_bool_str ?_)
  | ((with_reducible refine' is2_bool ?gh ?_); (case gh => walk_at "h"))
  | ((with_reducible refine' is_list_list ?gh ?_); (case gh => walk_at "h"))
  | ((with_reducible refine' is_list_tuple ?gh ?_); (case gh => walk_at "h"))
  | ((with_reducible refine' is_list_dict ?gh ?_); (case gh => walk_at "h"))
  | ((with_reducible refine' is_list_int ?gh ?_); (case gh => walk_at "h"))
  | ((with_reducible refine' is_list_bool ?gh ?_); (case gh => walk_at "h"))
  | ((with_reducible refine' is_list_str ?gh ?_); (case gh => walk_at "h"))
  | ((with_reducible refine' is2_list ?ga ?gb ?_); (case ga => walk_at "h"); (case gb => walk_at "h"))
  | ((with_reducible refine' is_tuple_list ?gh ?_); (case gh => walk_at "h"))
  | ((with_reducible refine' is_tuple_tuple ?gh ?_); (case gh => walk_at "h"))
  | ((with_reducible refine' is_tuple_dict ?gh ?_); (case gh => walk_at "h"))
  | ((with_reducible refine' is_tuple_int ?gh ?_); (case gh => walk_at "h"))
  | ((with_reducible refine' is_tuple_bool ?gh ?_); (case gh => walk_at "h"))
  | ((with_reducible refine' is_tuple_str ?gh ?_); (case gh => walk_at "h"))
  | ((with_reducible refine' is2_tuple ?ga ?gb ?_); (case ga => walk_at "h"); (case gb => walk_at "h"))
  | ((with_reducible refine' is_dict_list ?gh ?_); (case gh => walk_at "h"))
  | ((with_reducible refine' is_dict_tuple ?gh ?_); (case gh => walk_at "h"))
  | ((with_reducible refine' is_dict_dict ?gh ?_); (case gh => walk_at "h"))
  | ((with_reducible refine' is_dict_int ?gh ?_); (case gh => walk_at "h"))
  | ((with_reducible refine' is_dict_bool ?gh ?_); (case gh => walk_at "h"))
  | ((with_reducible refine' is_dict_str ?gh ?_); (case gh => walk_at "h"))
  | ((with_reducible refine' is2_dict ?ga ?gb ?_); (case ga => walk_at "h"); (case gb => walk_at "h")))
local macro_rules | `(tactic| walk_at "g") => `(tactic| first
  | (with_reducible refine g_seq ?_)
  | (with_reducible refine g_asg ?_)
  | ((with_reducible refine g_name ?_); dsimp only [List.set, wipe, List.map])
  | ((with_reducible refine' g_var ?gv ?_); (case gv => exact rfl))
  | (with_reducible refine g_c ?_)
  | (with_reducible refine g_op ?_)
  | (with_reducible refine g_cons ?_)
  | (with_reducible refine g_nil ?_)
  | (with_reducible refine g_cb ?_)
  | (with_reducible refine g_call ?_)
  | (with_reducible refine g_tup ?_)
  | (with_reducible refine g_lst ?_)
  | (with_reducible refine g_bm ?_)
  | (with_reducible refine g_bm0 ?_)
  | ((with_reducible refine' g_kbm ?gh ?_); (case gh => walk_at "h"))
  | (with_reducible refine g_drop ?_)
  | (with_reducible refine g_ret ?_)
  | (with_reducible refine g_retN ?_)
  | (with_reducible refine g_next ?_)
  | (with_reducible refine g_brk ?_)
  | (with_reducible refine g_cont ?_)
  | (with_reducible refine g_if ?_)
  | ((with_reducible refine' g_aug ?gv ?_); (case gv => exact rfl))
  | (with_reducible refine g_ipI ?_)
  | (with_reducible refine g_test ?_)
  | (with_reducible refine g_tB ?_)
  | (with_reducible refine g_kB ?_)
  | (with_reducible refine g_not ?_)
  | (with_reducible refine g_and ?_)
  | (with_reducible refine g_or ?_)
  | (with_reducible refine g_andV ?_)
  | (with_reducible refine g_orV ?_)
  | (with_reducible refine g_notV ?_)
  | (with_reducible refine g_ifE ?_)
  | (with_reducible refine g_addI ?_)
  | (with_reducible refine g_rI0 ?_)
  | (with_reducible refine g_eqI ?_)
  | (with_reducible refine g_eqS ?_)
  | (with_reducible refine g_neI ?_)
  | (with_reducible refine g_neS ?_)
  | (with_reducible refine g_isN ?_)
  | (with_reducible refine g_notN ?_)
  | (with_reducible refine g_int ?_)
  | (with_reducible refine g_max2 ?_)
  | (with_reducible refine g_min2 ?_)
  | ((with_reducible refine' g_lenL ?gh ?_); (case gh => walk_at "h"))
  | (with_reducible refine g_sub ?_)
  | (with_reducible refine g_gcons ?_)
  | (with_reducible refine g_gnil ?_)
  | (with_reducible refine g_un ?_)
  | (with_reducible refine g_rU ?_)
  | (with_reducible refine g_forL ?_)
  | (with_reducible refine g_forS ?_)
  | (with_reducible refine g_forR1 ?_)
  | (with_reducible refine g_forR2 ?_)
  | (with_reducible refine g_forR3 ?_)
  | (with_reducible refine g_lcL ?_)
  | (with_reducible refine g_lcR1 ?_)
  | (with_reducible refine g_lcR2 ?_)
  | (with_reducible refine g_slice ?_)
  | (with_reducible refine g_part ?_)
  | (with_reducible refine g_kOI ?_)
  | (with_reducible refine g_nopart ?_)
  | (with_reducible refine g_yes ?_)
  | ((with_reducible refine' g_wipe ?gv ?_); (case gv => exact rfl))
  | (with_reducible refine iteT ?_)
  | (with_reducible refine iteF ?_)
  | (with_reducible refine i_nf ?_)
  | (with_reducible refine i_nt ?_)
  | ((with_reducible refine' g_gtup ?gh ?gl ?_); (case gh => walk_at "h"); (case gl => exact rfl))
  | ((with_reducible refine' g_notinI ?gh ?_); (case gh => walk_at "h"))
  | ((with_reducible refine' g_inI ?gh ?_); (case gh => walk_at "h"))
  | ((with_reducible refine' g_kget2 ?gh ?_); (case gh => walk_at "h"))
  | ((with_reducible refine' g_kgotI ?gh ?_); (case gh => walk_at "h"))
  | (with_reducible refine g_tRev ?_)
  | (with_reducible refine g_neB ?_)
  | (with_reducible refine g_eqB ?_)
  | ((with_reducible refine' g_lenT ?gh ?_); (case gh => walk_at "h"))
  | (with_reducible refine g_star ?_)
  | ((with_reducible refine' g_kstarL ?gh ?_); (case gh => walk_at "h"))
  | ((with_reducible refine' g_kstarT ?gh ?_); (case gh => walk_at "h"))
  | (with_reducible refine g_tru ?_)
  | ((with_reducible refine' g_truL ?gh ?_); (case gh => walk_at "h"))
  | (with_reducible refine g_get2 ?_)
  | (with_reducible refine g_try ?_)
  | (with_reducible refine g_fld ?_)
  | (with_reducible refine g_sfld ?_)
  | (with_reducible refine g_meth ?_)
  | (with_reducible refine g_make ?_)
  | (with_reducible refine g_del ?_)
  | (with_reducible refine g_callS ?_)
  | (with_reducible refine g_raise ?_)
  | (with_reducible refine g_xf ?_)
  | (with_reducible refine g_m0 ?_)
  | (with_reducible refine g_km0 ?_)
  | walk_at "is")
local macro_rules | `(tactic| walk_at "gg") => `(tactic| repeat walk_at "g")
local macro_rules | `(tactic| walk_at "sz") => `(tactic| (refine sz ?_; simp only [List.length_cons, List.length_nil, List.length_map, List.length_append, List.length_replicate]; omega))
local macro_rules | `(tactic| walk_at "sub") => `(tactic| ((repeat (first | exact List.Sublist.slnil | with_reducible apply List.Sublist.cons_cons | with_reducible apply List.Sublist.cons)); done))

theorem k_forR2 {σ : L2.St} {H : Hp} {D : Ends} {ts : TS} {g : TG} {lo j : Int} (h0 : -(2 ^ 62) ≤ lo ∧ lo < 2 ^ 62 ∧ -(2 ^ 62) ≤ j ∧ j < 2 ^ 62) (Pv : Nat → L2.St → Hp → Prop) (hp : Pv 0 σ H)
    (hs : ∀ i σ H, i < (j - lo).toNat → Pv i σ H → g (.int (lo + (i : Nat))) σ H fun σ2 H2 => ts { D with nx := Pv (i + 1), ct := Pv (i + 1), bk := D.nx } σ2 H2) (hd : ∀ σ H, Pv (j - lo).toNat σ H → D.nx σ H) : kForR2 g ts D σ [.int lo, .int j] H :=
  ⟨lo, j, rfl, h0, for_range Pv hp hs hd⟩
theorem DqAll.set {H : Hp} {u : V} {d : PyData} : ∀ {vs : List V} {ds : List PyData} {k : Nat}, DqAll H vs ds → ds[k]? = some d → Dq H u d → DqAll H (vs.set k u) ds
  | _, _, _, .nil, e, _ => by simp at e
  | _, _, 0, .cons _ t, e, h => by
    have e := Option.some.inj e
    subst e
    exact .cons h t
  | _, _, k + 1, .cons h t, e, hu => .cons h (DqAll.set (k := k) t e hu)

/-! ### the names of the wide order -/
def wW (r : Nat) : Str := "w" ++ Str.ofString (toString (7 + (r : Int)))
def okB (z : Str) : Bool := decide (1 ≤ z.length) && decide (z.length ≤ 6) && ((kk z).head?.all fun c => decide (c ∈ lettersL)) && (kk z).all fun c => decide (c ∈ lettersL) || decide (c ∈ digitsL)
theorem okB_nm {z : Str} (h : okB z = true) : NmOk z := by
  unfold okB at h
  rw [Bool.and_eq_true, Bool.and_eq_true, Bool.and_eq_true, decide_eq_true_eq, decide_eq_true_eq] at h
  refine ⟨h.1.1.1, h.1.1.2, fun c hc => ?_, fun c hc => ?_⟩
  · have h := h.1.2
    rw [← Array.getElem?_toList] at hc
    have e : (kk z).head? = some c := by rw [List.head?_eq_getElem?]; exact hc
    rw [e] at h
    simpa using h
  · have := List.all_eq_true.mp h.2 c hc
    simpa using this
theorem wW_okB : ∀ r : Fin 61, okB (wW r) = true := by decide +kernel
theorem wW_inj0 : ∀ r r' : Fin 61, wW r = wW r' → r = r' := by decide +kernel
theorem wW_len : ∀ r : Fin 61, (Str.ofString (toString (7 + ((r : Nat) : Int)))).length ≤ 2 := by decide +kernel
theorem wW_ok {r : Nat} (h : r < 61) : NmOk (wW r) := okB_nm (wW_okB ⟨r, h⟩)
theorem cop61 : ∀ b : Fin 61, 0 < (b : Nat) → Nat.gcd 61 b = 1 := by decide +kernel
theorem rank61 {b i j : Nat} (hb : 0 < b) (hb2 : b < 61) (hi : i < 61) (hj : j < 61) (e : b * i % 61 = b * j % 61) : i = j := by
  have cop : Nat.Coprime 61 b := cop61 ⟨b, hb2⟩ hb
  have half : ∀ {i j : Nat}, i ≤ j → j < 61 → b * i % 61 = b * j % 61 → i = j := fun {i j} le hj e => by
    have h0 : (b * j - b * i) % 61 = 0 := Nat.sub_mod_eq_zero_of_mod_eq e.symm
    rw [← Nat.mul_sub] at h0
    have d : 61 ∣ j - i := cop.dvd_of_dvd_mul_left (Nat.dvd_of_mod_eq_zero h0)
    have := Nat.eq_zero_of_dvd_of_lt d (by omega)
    omega
  rcases Nat.le_total i j with h | h
  · exact half h hj e
  · exact (half h hi e.symm).symm
def wN (b m : Nat) : List Str := (List.range m).map fun i => wW (b * i % 61)
theorem wN_at {b m i : Nat} (h : i < m) : (wN b m)[i]? = some (wW (b * i % 61)) := by
  unfold wN
  rw [List.getElem?_map, List.getElem?_range h]
  rfl
theorem wN_len (b m : Nat) : (wN b m).length = m := by unfold wN; rw [List.length_map, List.length_range]
theorem wN_ok {b m : Nat} {z : Str} (h : z ∈ wN b m) : NmOk z := by
  obtain ⟨i, _, rfl⟩ := List.mem_map.mp h
  exact wW_ok (Nat.mod_lt _ (by decide))
theorem wN_nd {b m : Nat} (hb : 0 < b) (hb2 : b < 61) (hm : m ≤ 60) : (wN b m).Nodup := by
  refine List.pairwise_iff_getElem.mpr fun i j hi hj hij e => ?_
  rw [wN_len] at hi hj
  have e1 := (List.getElem?_eq_getElem (l := wN b m) (by rw [wN_len]; exact hi)).symm.trans (wN_at hi)
  have e2 := (List.getElem?_eq_getElem (l := wN b m) (by rw [wN_len]; exact hj)).symm.trans (wN_at hj)
  injection e1 with e1
  injection e2 with e2
  rw [e1, e2] at e
  have := wW_inj0 ⟨b * i % 61, Nat.mod_lt _ (by decide)⟩ ⟨b * j % 61, Nat.mod_lt _ (by decide)⟩ e
  have := rank61 hb hb2 (by omega) (by omega) (congrArg Fin.val this)
  omega

structure LF (F : Hp) (nmA msA wl dr ww lg : Addr) (names : List Str) (ms : List Nat) (us : List V) (web : List (List Nat)) (d0 d1 d2 : Nat) (words : List Str) (us3 : List V) (web3 : List (List Nat)) : Prop where
  nm : F nmA = some (.lst (names.map V.str))
  ms : F msA = some (.lst (rowI ms))
  wl : F wl = some (.lst us)
  du : DqAll F us (web.map rowD)
  dr : F dr = some (.lst [.int (d0 : Nat), .int (d1 : Nat), .int (d2 : Nat)])
  ww : F ww = some (.lst (words.map V.str))
  lg : F lg = some (.lst us3)
  dg : DqAll F us3 (web3.map rowD)
theorem LF.mono {F F' : Hp} {nmA msA wl dr ww lg : Addr} {names : List Str} {ms : List Nat} {us : List V} {web : List (List Nat)} {d0 d1 d2 : Nat} {words : List Str} {us3 : List V} {web3 : List (List Nat)} (h : LF F nmA msA wl dr ww lg names ms us web d0 d1 d2 words us3 web3) (s : Same F F') : LF F' nmA msA wl dr ww lg names ms us web d0 d1 d2 words us3 web3 :=
  ⟨s _ _ h.nm, s _ _ h.ms, s _ _ h.wl, h.du.up s _ _, s _ _ h.dr, s _ _ h.ww, s _ _ h.lg, h.dg.up s _ _⟩
structure LW (F : Hp) (nw mw wa : Addr) (names : List Str) (ms : List Nat) (us : List V) (web : List (List Nat)) : Prop where
  nm : F nw = some (.lst (names.map V.str))
  ms : F mw = some (.lst (rowI ms))
  wa : F wa = some (.lst us)
  dw : DqAll F us (web.map rowD)
theorem LW.mono {F F' : Hp} {nw mw wa : Addr} {names : List Str} {ms : List Nat} {us : List V} {web : List (List Nat)} (h : LW F nw mw wa names ms us web) (s : Same F F') : LW F' nw mw wa names ms us web := ⟨s _ _ h.nm, s _ _ h.ms, s _ _ h.wa, h.dw.up s _ _⟩
theorem map_range1 {β : Type} (f : Nat → β) (i : Nat) : (List.range (i + 1)).map f = (List.range i).map f ++ [f i] := by
  rw [List.range_succ, List.map_append]
  rfl
/-! ### what a call has made beside what is owned -/
mutual
theorem Dq.rm {O : Own} {F : Hp} (hO : ∀ p ∈ O, ∀ ws, F p.1 ≠ some (.lst ws) ∧ F p.1 ≠ some (.tup ws)) : ∀ (d : PyData) (v : V), Dq F v d → Dq (rmO O F) v d
  | _, _, .non => .non
  | _, _, .bl b => .bl b
  | _, _, .int i => .int i
  | _, _, .str x => .str x
  | _, _, .lst a d => .lst (by
      unfold rmO
      rw [if_neg]
      · exact a
      · intro m
        obtain ⟨q, hq, e⟩ := List.mem_map.mp m
        exact (hO q hq _).1 (by rw [e]; exact a)) (DqAll.rm hO _ _ d)
  | _, _, .tup a d => .tup (by
      unfold rmO
      rw [if_neg]
      · exact a
      · intro m
        obtain ⟨q, hq, e⟩ := List.mem_map.mp m
        exact (hO q hq _).2 (by rw [e]; exact a)) (DqAll.rm hO _ _ d)
theorem DqAll.rm {O : Own} {F : Hp} (hO : ∀ p ∈ O, ∀ ws, F p.1 ≠ some (.lst ws) ∧ F p.1 ≠ some (.tup ws)) : ∀ (ds : List PyData) (vs : List V), DqAll F vs ds → DqAll (rmO O F) vs ds
  | _, _, .nil => .nil
  | _, _, .cons h t => .cons (Dq.rm hO _ _ h) (DqAll.rm hO _ _ t)
end
theorem glue13 {F F' H H' : Hp} {O N : Own} (h : Has F O H) (s : Same H F') (n : Has F' N H') : Has (rmO O F') (N ++ O) H' ∧ Same F (rmO O F') := by
  have off : ∀ p ∈ O, ∀ q ∈ N, q.1 ≠ p.1 := fun p hp q hq e => by
    have := (n.own q hq).1
    rw [e, s _ _ (h.own p hp).2] at this
    cases this
  refine ⟨⟨fun b u e => ?_, fun p hp => ?_, ?_⟩, fun b u e => ?_⟩
  · unfold rmO at e
    split at e
    · cases e
    · exact n.same _ _ e
  · rcases List.mem_append.mp hp with m | m
    · refine ⟨?_, (n.own p m).2⟩
      unfold rmO
      split
      · rfl
      · exact (n.own p m).1
    · exact ⟨if_pos (List.mem_map.mpr ⟨p, m, rfl⟩), n.same _ _ (s _ _ (h.own p m).2)⟩
  · rw [List.map_append, List.nodup_append]
    refine ⟨n.nd, h.nd, fun a ha b hb e => ?_⟩
    obtain ⟨q, hq, rfl⟩ := List.mem_map.mp ha
    obtain ⟨p, hp, rfl⟩ := List.mem_map.mp hb
    exact off p hp q hq e
  · unfold rmO
    rw [if_neg]
    · exact s _ _ (h.same _ _ e)
    · intro m
      obtain ⟨q, hq, rfl⟩ := List.mem_map.mp m
      rw [(h.own q hq).1] at e
      cases e
theorem sh_good : Sh 2 goodD := Sh.list fun x hx => by
  simp only [List.mem_cons, List.not_mem_nil, or_false] at hx
  rcases hx with rfl | rfl | rfl
  · exact Sh.bl _
  · exact Sh.list fun y hy => (List.not_mem_nil hy).elim
  · exact Sh.str (by decide +kernel)
theorem dq_good {F : Hp} {p l : Addr} (h : F p = some (.lst [.bl true, .ref l, .str ""])) (hl : F l = some (.lst [])) : Dq F (.ref p) goodD := .lst h (.cons (.bl _) (.cons (.lst hl .nil) (.cons (.str _) .nil)))
theorem flags4 (k : Nat) : (List.range 4).map (fun j => V.bl (decide (k = j))) = [.bl (decide (k = 0)), .bl (decide (k = 1)), .bl (decide (k = 2)), .bl (decide (k = 3))] := rfl
theorem dq_bad13 {F : Hp} {p l : Addr} {k : Nat} {z : Str} (h : F p = some (.lst [.bl true, .ref l, .str z])) (hl : F l = some (.lst ((List.range 4).map (fun j => V.bl (decide (k = j)))))) : Dq F (.ref p) (badD k z) := dq_pd4 h (by rw [← flags4]; exact hl)
/-- the second order has the versions in reverse, without parents -/
theorem twin_own {names : List Str} {n : Nat} {rows : List URow} (R : Rel (names.take n).reverse (noMs n) n rows) (hn : n ≤ names.length) (few : names.length ≤ 60) (nd : names.Nodup) (ok : okL names) : OwnR names (noMs n) rows := by
  have ln : ((names.take n).reverse).length = n := by rw [List.length_reverse, List.length_take]; omega
  have lm : (noMs n).length = n := by unfold noMs; simp
  have at_ : ∀ j z, j < n → names[j]? = some z → ((names.take n).reverse)[n - 1 - j]? = some z := fun j z hj e => by
    rw [List.getElem?_reverse (by rw [List.length_take]; omega), List.length_take, List.getElem?_take_of_lt (by omega)]
    rw [show min n names.length - 1 - (n - 1 - j) = j by omega]
    exact e
  have ndr : ((names.take n).reverse).Nodup := (List.reverse_perm _).nodup_iff.mpr (nd.sublist (List.take_sublist _ _))
  refine ⟨by rw [lm]; exact hn, few, nd, ok, fun z => ?_, fun j z m ez em => ?_⟩
  · rw [kn_mem, R.nms, List.take_of_length_le (by omega), List.mem_reverse, List.mem_iff_getElem?, lm]
    constructor
    · rintro ⟨j, e⟩
      have lj := (List.getElem?_eq_some_iff.mp e).1
      rw [List.length_take] at lj
      rw [List.getElem?_take_of_lt (by omega)] at e
      exact ⟨j, by omega, e⟩
    · rintro ⟨j, lj, e⟩
      exact ⟨j, by rw [List.getElem?_take_of_lt lj]; exact e⟩
  · have hj : j < n := by
      have := (List.getElem?_eq_some_iff.mp em).1
      rw [lm] at this
      exact this
    rw [noMs_at hj] at em
    injection em with em
    subst em
    obtain ⟨u, eu, mu⟩ := R.und (n - 1 - j) z _ (by omega) (at_ j z hj ez) (noMs_at (by omega))
    refine ⟨u, eu, fun y => (mu y).trans ?_⟩
    constructor
    · rintro ⟨k, ek, bk⟩
      rw [Nat.testBit_two_pow] at bk
      have := of_decide_eq_true bk
      subst this
      rw [at_ j z hj ez] at ek
      exact ⟨j, by rw [ez, ← ek], by rw [Nat.testBit_two_pow]; simp⟩
    · rintro ⟨k, ek, bk⟩
      rw [Nat.testBit_two_pow] at bk
      have := of_decide_eq_true bk
      subst this
      rw [ez] at ek
      exact ⟨n - 1 - j, by rw [at_ j z hj ez, ← ek], by rw [Nat.testBit_two_pow]; simp⟩
theorem Rel.KN {names : List Str} {ms : List Nat} {n : Nat} {rows : List URow} (R : Rel names ms n rows) : ∀ z, kn rows z = true ↔ ∃ j, j < n ∧ names[j]? = some z := fun z => by
  rw [kn_mem, R.nms, List.mem_iff_getElem?]
  constructor
  · rintro ⟨j, e⟩
    have lj := (List.getElem?_eq_some_iff.mp e).1
    rw [List.length_take] at lj
    rw [List.getElem?_take_of_lt (by omega)] at e
    exact ⟨j, by omega, e⟩
  · rintro ⟨j, lj, e⟩
    exact ⟨j, by rw [List.getElem?_take_of_lt lj]; exact e⟩
theorem rel_put {names : List Str} {ms : List Nat} {n : Nat} {rows : List URow} {x : Str} {r : List Nat} (R : Rel names ms n rows) (nd : names.Nodup) (ex : names[n]? = some x) (okx : NmOk x) (rnd : r.Nodup) (lt : ∀ a ∈ r, a < n) : putE rows x (r.map (nmz names)) = none := by
  have hn := (List.getElem?_eq_some_iff.mp ex).1
  have fr := R.fresh nd ex
  refine putE_good (isNm_iff.mpr okx) (by unfold kn; rw [fr]; rfl) (chkE_none (fun z hz => ?_) (nmz_nodup nd rnd (fun a ha => by have := lt a ha; omega)) (fun z _ h => by cases h))
  obtain ⟨b, hb, rfl⟩ := List.mem_map.mp hz
  exact (R.KN _).mpr ⟨b, lt b hb, nmz_at (by have := lt b hb; omega)⟩
section
variable {P : Program} {w : World} {K : PySem.W.Frag} {mg : Str → Option Value} {base : Heap}
theorem init_addr {T : Txt K mg} {H : Hp} {a x d nl : Addr} (n : H d = none) : ∀ q ∈ OrdO T a x d nl [], q.1 ∈ ([(a, HO.ins T.C_Order x []), (x, HO.own a)] : Own).map (·.1) ∨ H q.1 = none := fun q hq => by
  simp only [OrdO, List.mem_cons, List.not_mem_nil, or_false] at hq
  rcases hq with rfl | rfl | rfl
  · exact .inl (by simp)
  · exact .inl (by simp)
  · exact .inr n
theorem StO.glue {T : Txt K mg} {A B : OA} {F H : Hp} {rows rows2 : List URow} {F1 H1 : Hp} {p : Addr} {vs : List V} {ds : List PyData} (st : StO T A B F H rows rows2) (s : Same H F1) (n : Has F1 [(p, .lst vs)] H1) (d : DqAll F1 vs ds) : ∃ F2, Same F F2 ∧ StO T A B F2 H1 rows rows2 ∧ F2 p = some (.lst vs) ∧ DqAll F2 vs ds := by
  obtain ⟨nl, kvs, nl2, kvs2, h, ok, ok2⟩ := st
  obtain ⟨g, s2⟩ := glue13 h s n
  have d2 : DqAll (rmO (OrdO T A.a A.x A.d nl kvs ++ OrdO T B.a B.x B.d nl2 kvs2) F1) vs ds := DqAll.rm (fun q hq ws => by
    rw [s _ _ (h.own q hq).2]
    simp only [OrdO, List.mem_append, List.mem_cons, List.not_mem_nil, or_false] at hq
    rcases hq with (rfl | rfl | rfl) | (rfl | rfl | rfl) <;> exact ⟨fun e => by (injection e with e; cases e), fun e => by (injection e with e; cases e)⟩) _ _ d
  generalize rmO (OrdO T A.a A.x A.d nl kvs ++ OrdO T B.a B.x B.d nl2 kvs2) F1 = G at g s2 d2
  have g : Has G ((p, .lst vs) :: (OrdO T A.a A.x A.d nl kvs ++ OrdO T B.a B.x B.d nl2 kvs2)) H1 := g
  have sg := g.grow
  exact ⟨_, s2.trans sg, ⟨nl, kvs, nl2, kvs2, g.frz, ok.mono (s2.trans sg), ok2.mono (s2.trans sg)⟩, upd_same, d2.up sg _ _⟩
theorem StO.made {T : Txt K mg} {A B : OA} {F H H' : Hp} {rows rows2 : List URow} {p : Addr} {o : HO} (st : StO T A B F H rows rows2) (n : H p = none) (s : Same H H') (e : H' p = some o) : ∃ F', Same F F' ∧ F' p = some o ∧ StO T A B F' H' rows rows2 := by
  obtain ⟨nl, kvs, nl2, kvs2, h, ok, ok2⟩ := st
  have h := h.made n s e
  exact ⟨_, h.grow, upd_same, nl, kvs, nl2, kvs2, h.frz, ok.mono h.grow, ok2.mono h.grow⟩
theorem StR.of {T : Txt K mg} {A B : OA} {F H : Hp} {rows rows2 : List URow} {p : Addr} {o : HO} {nl nl2 : Addr} {kvs kvs2 : List (Key × V)} (h : Has F ((p, o) :: (OrdO T A.a A.x A.d nl kvs ++ OrdO T B.a B.x B.d nl2 kvs2)) H) (ok : OrdOk F nl kvs rows) (ok2 : OrdOk F nl2 kvs2 rows2) : StR T A B [(p, o)] F H rows rows2 :=
  ⟨nl, kvs, nl2, kvs2, h.perm (by rw [← List.append_assoc]; exact List.perm_append_singleton _ _), ok, ok2⟩
theorem StR.lst {T : Txt K mg} {A B : OA} {R : Own} {F H : Hp} {rows rows2 : List URow} {Q : VK} {xs : List V} (st : StR T A B R F H rows rows2) (hl : xs.length ≤ 100000) (q : ∀ p H' F', Same F F' → F' p = some (.lst xs) → StR T A B R F' H' rows rows2 → Q (.ref p) H') : kLst xs H Q := by
  obtain ⟨nl, kvs, nl2, kvs2, h, ok, ok2⟩ := st
  exact g_klstF (sz hl) h fun p H' F' n s f h' => q p H' F' s f ⟨nl, kvs, nl2, kvs2, h', ok.mono s, ok2.mono s⟩
theorem StR.same {T : Txt K mg} {A B : OA} {R : Own} {F H : Hp} {rows rows2 : List URow} (st : StR T A B R F H rows rows2) : Same F H := by
  obtain ⟨nl, kvs, nl2, kvs2, h, ok, ok2⟩ := st
  exact h.same
def sp_law (K : PySem.W.Frag) : Sp := fun vs H Q _ => ∃ (a : Addr) (ns : List Int), vs = [.ref a] ∧ SqL K H a (ns.map V.int) ∧ ns.length ≤ 63 ∧ ∀ H', Q (.bl true) H'
theorem sp_law_len {vs H Q E} (h : sp_law K vs H Q E) : vs.length = 1 := by
  obtain ⟨_, _, rfl, _⟩ := h
  rfl
theorem sp_law_start {H : Hp} {a : Addr} {ns : List Int} (hl : ns.length ≤ 63) (hS : SqL K H a (ns.map V.int)) : sp_law K [.ref a] H (fun v _ => v = .bl true) (fun _ _ _ => False) := ⟨a, ns, rfl, hS, hl, fun _ => rfl⟩
set_option maxHeartbeats 4000000 in
theorem ok_law (T : Txt K mg) : FnOk P w K mg base CX0 7 T.f_law T.fd_law ["script"] (sp_law K) := by
  refine T.F_law.ok sc_law (fun vs H Q E h => sp_law_len h) (fun cdv A outer s H vs Q E hr h => ?_)
  refine ⟨_, (pss_cons (ps_set (i := 1) sc_law.nd rfl (.inr rfl) (pe_call (ok_l_cells T) (hr.mono (by decide)) (by rfl) T.g_l_cells T.F_l_cells.kp T.b_l_cells .nil pass0 (pa_cons (pv 0) pa_nil)))
      (pss_cons (ps_set (i := 2) sc_law.nd rfl (.inl rfl) (pe_call (ok_l_drawn T) (hr.mono (by decide)) (by rfl) T.g_l_drawn T.F_l_drawn.kp T.b_l_drawn .nil pass0 (pa_cons (pv 1) pa_nil)))
      (pss_cons (ps_set (i := 3) sc_law.nd rfl (.inr rfl) (pe_lst (pa_cons (pe_call (ok_l_next T) (hr.mono (by decide)) (by rfl) T.g_l_next T.F_l_next.kp T.b_l_next .nil pass0 (pa_cons (pv 1) (pa_cons pe_int pa_nil))) (pa_cons (pe_call (ok_l_next T) (hr.mono (by decide)) (by rfl) T.g_l_next T.F_l_next.kp T.b_l_next .nil pass0 (pa_cons (pv 1) (pa_cons pe_int pa_nil))) (pa_cons (pe_call (ok_l_next T) (hr.mono (by decide)) (by rfl) T.g_l_next T.F_l_next.kp T.b_l_next .nil pass0 (pa_cons (pv 1) (pa_cons pe_int pa_nil))) pa_nil)))))
      (pss_cons (ps_set (i := 4) sc_law.nd rfl (.inl rfl) (pe_lst pa_nil))
      (pss_cons (ps_if (pt_cmpR (op_eqK K hr.units) (pe_call (ok_l_next T) (hr.mono (by decide)) (by rfl) T.g_l_next T.F_l_next.kp T.b_l_next .nil pass0 (pa_cons (pv 1) (pa_cons pe_int pa_nil))) pe_int (nomark _)) (pss_one (ps_set (i := 4) sc_law.nd rfl (.inl rfl) (pe_call (ok_l_large T) (hr.mono (by decide)) (by rfl) T.g_l_large T.F_l_large.kp T.b_l_large .nil pass0 (pa_cons (pv 1) pa_nil)))) pss_nil)
      (pss_cons (ps_set (i := 5) sc_law.nd rfl (.inr rfl) (pe_call (ok_l_named T) (hr.mono (by decide)) (by rfl) T.g_l_named T.F_l_named.kp T.b_l_named .nil pass0 (pa_cons (pv 1) (pa_cons (pe_op (op_addK K) (pe_callB (cr_lenK K) (by rfl) T.m_len (by decide +kernel) (pa_cons (pv 2) pa_nil)) pe_int) pa_nil))))
      (pss_cons (ps_set (i := 6) sc_law.nd rfl (.inr rfl) (pe_lc (own := [("k", 14)]) (g := gName 14) (tt := tYes) rfl sc_law.nd (pi_range1 rfl T.m_range (pa_cons pe_int pa_nil)) (blkOk_by (N := n_law) (sc := defScope s_law) (by decide +kernel)) (fun _ _ _ _ _ => (pg_name (i := 14) sc_law.nd rfl (.inl rfl))) (fun _ _ _ _ _ => pts_nil) (fun _ _ _ _ _ => (pe_call (ok_l_string T) (hr.mono (by decide)) (by rfl) T.g_l_string T.F_l_string.kp T.b_l_string .nil pass0 (pa_cons (pv 1) pa_nil)))))
      (pss_cons (ps_set (i := 6) sc_law.nd rfl (.inr rfl) (pe_op (op_addK K) (pv 6) (pe_lst (pa_cons (pe_op (op_addK K) (pe_ix (ix_K K (hu_of hr)) (pv 6) pe_int (fun _ _ => rfl)) (pe_ix (ix_K K (hu_of hr)) (pv 6) pe_int (fun _ _ => rfl))) (pa_cons (pe_ix (ix_K K (hu_of hr)) (pv 5) pe_int (fun _ _ => rfl)) (pa_cons (pe_upper (pe_ix (ix_K K (hu_of hr)) (pv 5) pe_int (fun _ _ => rfl))) pa_nil))))))
      (pss_cons (ps_set (i := 7) sc_law.nd rfl (.inl rfl) (pe_call (ok_l_walked T) (hr.mono (by decide)) (by rfl) T.g_l_walked T.F_l_walked.kp T.b_l_walked .nil pass0 (pa_cons (pv 2) pa_nil)))
      (pss_cons (ps_set (i := 8) sc_law.nd rfl (.inl rfl) (pe_make0 T.Mk_Order (ok_Order___init__ T) (hr.mono (by decide)) (by rfl) T.g_Order T.b_Order___init__ .nil pass0))
      (pss_cons (ps_set (i := 9) sc_law.nd rfl (.inl rfl) (pe_make0 T.Mk_Order (ok_Order___init__ T) (hr.mono (by decide)) (by rfl) T.g_Order T.b_Order___init__ .nil pass0))
      (pss_cons (ps_if (pt_not (pt_val (pe_call (ok_l_as_own T) (hr.mono (by decide)) (by rfl) T.g_l_as_own T.F_l_as_own.kp T.b_l_as_own .nil pass0 (pa_cons (pv 8) (pa_cons (pv 5) (pa_cons (pe_lst pa_nil) pa_nil)))))) (pss_one (ps_ret pe_bl)) pss_nil)
      (pss_cons (ps_if (pt_not (pt_val (pe_call (ok_l_strangers T) (hr.mono (by decide)) (by rfl) T.g_l_strangers T.F_l_strangers.kp T.b_l_strangers .nil pass0 (pa_cons (pv 8) (pa_cons (pv 5) (pa_cons pe_int (pa_cons (pe_ix (ix_K K (hu_of hr)) (pv 3) pe_int (fun _ _ => rfl)) pa_nil))))))) (pss_one (ps_ret pe_bl)) pss_nil)
      (pss_cons (ps_for PassesOwn.never rfl (pi_range1 rfl T.m_range (pa_cons (pe_callB (cr_lenK K) (by rfl) T.m_len (by decide +kernel) (pa_cons (pv 2) pa_nil)) pa_nil)) (pg_name (i := 10) sc_law.nd rfl (.inl rfl)) (pss_cons (ps_for PassesOwn.never rfl (k_il K (pi_list (pe_call (ok_l_refused T) (hr.mono (by decide)) (by rfl) T.g_l_refused T.F_l_refused.kp T.b_l_refused .nil pass0 (pa_cons (pv 5) (pa_cons (pv 2) (pa_cons (pv 10) (pa_cons (pv 3) pa_nil))))))) (pg_name (i := 11) sc_law.nd rfl (.inr rfl)) (pss_cons (ps_setLc (i := 12) (own := [("k", 14)]) (g := gName 14) (tt := tYes) rfl sc_law.nd rfl rfl (sw_true rfl rfl rfl (by decide +kernel)) (pi_range1 rfl T.m_range (pa_cons pe_int pa_nil)) (blkOk_by (N := n_law) (sc := defScope s_law) (by decide +kernel)) (fun _ _ _ _ _ => (pg_name (i := 14) sc_law.nd rfl (.inl rfl))) (fun _ _ _ _ _ => pts_nil) (fun _ _ _ _ _ => (pe_cmpR (op_eqK K hr.units) (pe_ix (ix_K K (hu_of hr)) (pv 11) pe_int (fun _ _ => rfl)) (pv 14) (nomark _))))
      (pss_one (ps_if (pt_cmpR (op_neK K hr.units) (pe_call (ok_l_put T) (hr.mono (by decide)) (by rfl) T.g_l_put T.F_l_put.kp T.b_l_put .nil pass0 (pa_cons (pv 8) (pa_cons (pe_ix (ix_K K (hu_of hr)) (pv 11) pe_int (fun _ _ => rfl)) (pa_cons (pe_ix (ix_K K (hu_of hr)) (pv 11) pe_int (fun _ _ => rfl)) pa_nil)))) (pe_lst (pa_cons pe_bl (pa_cons (pv 12) (pa_cons (pe_ix (ix_K K (hu_of hr)) (pv 11) pe_int (fun _ _ => rfl)) pa_nil)))) (nomark _)) (pss_one (ps_ret pe_bl)) pss_nil))))
      (pss_cons (ps_if (pt_not (pt_val (pe_call (ok_l_as_own T) (hr.mono (by decide)) (by rfl) T.g_l_as_own T.F_l_as_own.kp T.b_l_as_own .nil pass0 (pa_cons (pv 8) (pa_cons (pv 5) (pa_cons (pe_slice (sl_M K) (pv 7) po_none (po_some (pv 10))) pa_nil)))))) (pss_one (ps_ret pe_bl)) pss_nil)
      (pss_cons (ps_setLc (i := 13) (own := [("at", 15)]) (g := gName 15) (tt := tYes) rfl sc_law.nd rfl rfl (sw_true rfl rfl rfl (by decide +kernel)) (k_il K (pi_list (pe_ix (ix_K K (hu_of hr)) (pv 2) (pv 10) (fun _ _ => rfl)))) (blkOk_by (N := n_law) (sc := defScope s_law) (by decide +kernel)) (fun _ _ _ _ _ => (pg_name (i := 15) sc_law.nd rfl (.inl rfl))) (fun _ _ _ _ _ => pts_nil) (fun _ _ _ _ _ => (pe_ix (ix_K K (hu_of hr)) (pv 5) (pv 15) (fun _ _ => rfl))))
      (pss_cons (ps_if (pt_cmpR (op_neK K hr.units) (pe_call (ok_l_put T) (hr.mono (by decide)) (by rfl) T.g_l_put T.F_l_put.kp T.b_l_put .nil pass0 (pa_cons (pv 8) (pa_cons (pe_ix (ix_K K (hu_of hr)) (pv 5) (pv 10) (fun _ _ => rfl)) (pa_cons (pv 13) pa_nil)))) (pe_lst (pa_cons pe_bl (pa_cons (pe_lst pa_nil) (pa_cons pe_str pa_nil)))) (nomark _)) (pss_one (ps_ret pe_bl)) pss_nil)
      (pss_cons (ps_expr (k_bm K (pe_bm PySem.F.plainAttrs_list PySem.F.slot_list_append PySem.F.type_list_append mt_append (pv 13) (pa_cons pe_str pa_nil))))
      (pss_cons (ps_if (pt_cmpR (op_neK K hr.units) (pe_call (ok_l_put T) (hr.mono (by decide)) (by rfl) T.g_l_put T.F_l_put.kp T.b_l_put .nil pass0 (pa_cons (pv 9) (pa_cons (pe_ix (ix_K K (hu_of hr)) (pv 5) (pe_op op_sub (pe_op op_sub (pe_callB (cr_lenK K) (by rfl) T.m_len (by decide +kernel) (pa_cons (pv 2) pa_nil)) pe_int) (pv 10)) (fun _ _ => rfl)) (pa_cons (pe_lst pa_nil) pa_nil)))) (pe_lst (pa_cons pe_bl (pa_cons (pe_lst pa_nil) (pa_cons pe_str pa_nil)))) (nomark _)) (pss_one (ps_ret pe_bl)) pss_nil)
      (pss_cons (ps_if (pt_not (pt_val (pe_call (ok_l_as_own T) (hr.mono (by decide)) (by rfl) T.g_l_as_own T.F_l_as_own.kp T.b_l_as_own .nil pass0 (pa_cons (pv 8) (pa_cons (pv 5) (pa_cons (pe_slice (sl_M K) (pv 7) po_none (po_some (pe_op (op_addK K) (pv 10) pe_int))) pa_nil)))))) (pss_one (ps_ret pe_bl)) pss_nil)
      (pss_cons (ps_if (pt_not (pt_val (pe_call (ok_l_strangers T) (hr.mono (by decide)) (by rfl) T.g_l_strangers T.F_l_strangers.kp T.b_l_strangers .nil pass0 (pa_cons (pv 8) (pa_cons (pv 5) (pa_cons (pe_op (op_addK K) (pv 10) pe_int) (pa_cons (pe_ix (ix_K K (hu_of hr)) (pv 3) pe_int (fun _ _ => rfl)) pa_nil))))))) (pss_one (ps_ret pe_bl)) pss_nil)
      (pss_one (ps_if (pt_not (pt_val (pe_call (ok_l_spelt T) (hr.mono (by decide)) (by rfl) T.g_l_spelt T.F_l_spelt.kp T.b_l_spelt .nil pass0 (pa_cons (pv 8) (pa_cons (pv 5) (pa_cons (pv 6) (pa_cons (pe_op (op_addK K) (pv 10) pe_int) pa_nil))))))) (pss_one (ps_ret pe_bl)) pss_nil)))))))))))
      (pss_cons (ps_if (pt_not (pt_val (pe_call (ok_l_spelt T) (hr.mono (by decide)) (by rfl) T.g_l_spelt T.F_l_spelt.kp T.b_l_spelt .nil pass0 (pa_cons (pv 8) (pa_cons (pv 5) (pa_cons (pe_op (op_addK K) (pe_op (op_addK K) (pv 6) (pv 5)) (pe_lst (pa_cons pe_str pa_nil))) (pa_cons (pe_callB (cr_lenK K) (by rfl) T.m_len (by decide +kernel) (pa_cons (pv 2) pa_nil)) pa_nil))))))) (pss_one (ps_ret pe_bl)) pss_nil)
      (pss_cons (ps_if (pt_not (pt_val (pe_call (ok_l_as_own T) (hr.mono (by decide)) (by rfl) T.g_l_as_own T.F_l_as_own.kp T.b_l_as_own .nil pass0 (pa_cons (pv 8) (pa_cons (pv 5) (pa_cons (pv 7) pa_nil)))))) (pss_one (ps_ret pe_bl)) pss_nil)
      (pss_cons (ps_if (pt_not (pt_val (pe_call (ok_l_as_own T) (hr.mono (by decide)) (by rfl) T.g_l_as_own T.F_l_as_own.kp T.b_l_as_own .nil pass0 (pa_cons (pv 9) (pa_cons (pv 5) (pa_cons (pe_lc (own := [("i", 10)]) (g := gName 10) (tt := tYes) rfl sc_law.nd (pi_range1 rfl T.m_range (pa_cons (pe_callB (cr_lenK K) (by rfl) T.m_len (by decide +kernel) (pa_cons (pv 2) pa_nil)) pa_nil)) (blkOk_by (N := n_law) (sc := defScope s_law) (by decide +kernel)) (fun _ _ _ _ _ => (pg_name (i := 10) sc_law.nd rfl (.inl rfl))) (fun _ _ _ _ _ => pts_nil) (fun _ _ _ _ _ => (pe_op op_shl pe_int (pv 10)))) pa_nil)))))) (pss_one (ps_ret pe_bl)) pss_nil)
      (pss_cons (ps_set (i := 6) sc_law.nd rfl (.inr rfl) (pe_lc (own := [("i", 10)]) (g := gName 10) (tt := tYes) rfl sc_law.nd (pi_range1 rfl T.m_range (pa_cons (pe_callB (cr_lenK K) (by rfl) T.m_len (by decide +kernel) (pa_cons (pv 4) pa_nil)) pa_nil)) (blkOk_by (N := n_law) (sc := defScope s_law) (by decide +kernel)) (fun _ _ _ _ _ => (pg_name (i := 10) sc_law.nd rfl (.inl rfl))) (fun _ _ _ _ _ => pts_nil) (fun _ _ _ _ _ => (pe_op (op_addK K) pe_str (pe_callTy cr_strI (by rfl) T.m_str (by decide +kernel) (pa_cons (pe_op (op_addK K) pe_int (pe_op op_mod (pe_callTy cr_int1 (by rfl) T.m_int (by decide +kernel) (pa_cons (pe_op op_mulA (pe_op (op_addK K) pe_int (pe_ix (ix_K K (hu_of hr)) (pv 3) pe_int (fun _ _ => rfl))) (pv 10)) pa_nil)) pe_int)) pa_nil))))))
      (pss_cons (ps_set (i := 7) sc_law.nd rfl (.inl rfl) (pe_call (ok_l_walked T) (hr.mono (by decide)) (by rfl) T.g_l_walked T.F_l_walked.kp T.b_l_walked .nil pass0 (pa_cons (pv 4) pa_nil)))
      (pss_cons (ps_set (i := 8) sc_law.nd rfl (.inl rfl) (pe_make0 T.Mk_Order (ok_Order___init__ T) (hr.mono (by decide)) (by rfl) T.g_Order T.b_Order___init__ .nil pass0))
      (pss_cons (ps_for PassesOwn.never rfl (pi_range1 rfl T.m_range (pa_cons (pe_callB (cr_lenK K) (by rfl) T.m_len (by decide +kernel) (pa_cons (pv 4) pa_nil)) pa_nil)) (pg_name (i := 10) sc_law.nd rfl (.inl rfl)) (pss_one (ps_expr (pe_methW (pv 8) T.cl_Order T.M_Order_put (ok_Order_put T) (hr.mono (by decide)) T.b_Order_put passNS (pa_cons (pe_ix (ix_K K (hu_of hr)) (pv 6) (pv 10) (fun _ _ => rfl)) (pa_cons (pe_lc (own := [("at", 15)]) (g := gName 15) (tt := tYes) rfl sc_law.nd (k_il K (pi_list (pe_ix (ix_K K (hu_of hr)) (pv 4) (pv 10) (fun _ _ => rfl)))) (blkOk_by (N := n_law) (sc := defScope s_law) (by decide +kernel)) (fun _ _ _ _ _ => (pg_name (i := 15) sc_law.nd rfl (.inl rfl))) (fun _ _ _ _ _ => pts_nil) (fun _ _ _ _ _ => (pe_ix (ix_K K (hu_of hr)) (pv 6) (pv 15) (fun _ _ => rfl)))) pa_nil))))))
      (pss_one (ps_ret (pe_call (ok_l_as_own T) (hr.mono (by decide)) (by rfl) T.g_l_as_own T.F_l_as_own.kp T.b_l_as_own .nil pass0 (pa_cons (pv 8) (pa_cons (pv 6) (pa_cons (pv 7) pa_nil))))))))))))))))))))))))))), ?_⟩
  obtain ⟨sc, ns, rfl, hS, hl, q⟩ := h
  refine g_start (σ' := [some (.ref sc), none, none, none, none, none, none, none, none, none, none, none, none, none, none, none]) rfl ?_
  walk_at "gg"
  refine ⟨sc, ns, rfl, hS, hl, fun c H1 ns1 n1 h1 ok1 => ?_⟩
  unfold FeedO at h1
  walk_at "gg"
  refine ⟨c, H, ns1, rfl, h1, ok1, fun wl H2 F2 ns2 us web s2 h2 ok2 hwl du wok lw9 => ?_⟩
  have lu : us.length = web.length := by rw [du.len, List.length_map]
  walk_at "gg"
  refine ⟨c, ns2, 8, rfl, h2.get (List.Mem.head _), ok2, by decide, by decide, fun H3 ns3 d0 hb e ok3 d00 d01 => ?_⟩
  have h3 := h2.but .hd hb e
  walk_at "gg"
  refine ⟨c, ns3, 12, rfl, h3.get (List.Mem.head _), ok3, by decide, by decide, fun H4 ns4 d1 hb e ok4 d10 d11 => ?_⟩
  have h4 := h3.but .hd hb e
  walk_at "gg"
  refine ⟨c, ns4, 9, rfl, h4.get (List.Mem.head _), ok4, by decide, by decide, fun H5 ns5 d2 hb e ok5 d20 d21 => ?_⟩
  have h5 := h4.but .hd hb e
  obtain ⟨d0, rfl⟩ := Int.eq_ofNat_of_zero_le d00
  obtain ⟨d1, rfl⟩ := Int.eq_ofNat_of_zero_le d10
  obtain ⟨d2, rfl⟩ := Int.eq_ofNat_of_zero_le d20
  walk_at "gg"
  refine g_klstF (by walk_at "sz") h5 (fun dr H6 F6 n6 s6 fdr h6 => ?_)
  walk_at "gg"
  refine g_klstF (by walk_at "sz") h6 (fun w0 H7 F7 n7 s7 fw0 h7 => ?_)
  clear h1 h2 h3 h4 h5 h6
  walk_at "g"
  walk_at "g"
  refine g_joinD (fun σ' H' => ∃ (wa : Addr) (F8 : Hp) (ns : List Int) (us3 : List V) (web3 : List (List Nat)), σ' = [some (.ref sc), some (.ref c), some (.ref wl), some (.ref dr), some (.ref wa), none, none, none, none, none, none, none, none, none, none, none] ∧ Same F7 F8 ∧ Has F8 [(c, .lst (ns.map V.int))] H' ∧ FeedOk ns ∧ F8 wa = some (.lst us3) ∧ DqAll F8 us3 (web3.map rowD) ∧ WebOk web3 ∧ web3.length ≤ 60) ?_ (fun nx' key => ?_)
  rotate_left
  · walk_at "gg"
    refine ⟨c, ns5, 8, rfl, h7.get (List.Mem.head _), ok5, by decide, by decide, fun H8 ns8 r hb e ok8 r0 r1 => ?_⟩
    have h8 := h7.but .hd hb e
    walk_at "gg"
    refine i_d (fun z => ?_) (fun z => ?_)
    · walk_at "gg"
      refine ⟨c, F7, ns8, rfl, h8, ok8, fun wa H9 F9 ns9 us3 web3 s9 h9 ok9 hwa dw wok3 lw3 => ?_⟩
      walk_at "gg"
      exact key _ _ ⟨wa, F9, ns9, us3, web3, rfl, s9, h9, ok9, hwa, dw, wok3, lw3⟩
    · walk_at "gg"
      exact key _ _ ⟨w0, F7, ns8, [], [], rfl, Same.refl _, h8, ok8, fw0, .nil, ⟨fun i r e => by cases e⟩, by decide⟩
  rintro σ H9 ⟨wa, F9, ns9, us3, web3, rfl, s9, h9, ok9, fwa, dw, wok3, lw3⟩
  walk_at "gg"
  refine g_lenL (h9.same _ _ (s9 _ _ (s7 _ _ (s6 _ _ hwl)))) ?_
  rw [lu]
  walk_at "gg"
  refine ⟨c, ns9, web.length + 1, rfl, h9.get (List.Mem.head _), ok9, by omega, fun nmA H10 ns10 names n10 hb e ok10 hnm lnm nms => ?_⟩
  have h10 := h9.but2 .hd hb e n10 hnm
  have s10 := h10.grow
  have h10 := h10.frz
  have fnm : upd F9 nmA (.lst (names.map V.str)) nmA = some (.lst (names.map V.str)) := upd_same
  generalize upd F9 nmA (.lst (names.map V.str)) = F10 at h10 s10 fnm
  walk_at "gg"
  -- words
  refine k_lcR1 (by decide) (by decide) h10 (fun i acc F' O' => ∃ (xs : List Str) (ns : List Int), acc = xs.map V.str ∧ xs.length = i ∧ (∀ z ∈ xs, PyData.strOk z = true ∧ z.length ≤ 8) ∧ FeedOk ns ∧ F' = F10 ∧ O' = [(c, .lst (ns.map V.int))]) ⟨[], ns10, rfl, rfl, fun z h => (by cases h), ok10, rfl, rfl⟩ ?_ ?_
  · rintro i acc F' O' D H11 hi ⟨xs, ns, rfl, lx, ax, okf, rfl, rfl⟩ hh
    have hi : i < 4 := hi
    walk_at "gg"
    refine ⟨c, ns, rfl, hh.get (by walk_at "m"), okf, fun H12 ns12 z hb e okf lz sz_ => ?_⟩
    have h12 := hh.but (.tl .hd) hb e
    exact k_turn h12 (by rw [List.length_map]; omega) ⟨xs ++ [z], ns12, by rw [List.map_append]; rfl, by rw [List.length_append, lx]; rfl, fun y hy => (by
      rcases List.mem_append.mp hy with hy | hy
      · exact ax y hy
      · rw [List.mem_singleton.mp hy]; exact ⟨sz_, lz⟩), okf, rfl, rfl⟩
  rintro acc F' O' w1 H11 ⟨xs, ns11, rfl, lx, ax, ok11, rfl, rfl⟩ h11
  have lx : xs.length = 4 := lx
  obtain ⟨x0, x1, x2, x3, rfl⟩ : ∃ a b c d, xs = [a, b, c, d] := by
    match xs, lx with
    | [a, b, c, d], _ => exact ⟨a, b, c, d, rfl⟩
  have a0 := ax x0 (by simp)
  have a1 := ax x1 (by simp)
  have s11 := h11.grow
  have h11 := h11.frz
  have fw1 : upd F' w1 (.lst ([x0, x1, x2, x3].map V.str)) w1 = some (.lst ([x0, x1, x2, x3].map V.str)) := upd_same
  generalize upd F' w1 (.lst ([x0, x1, x2, x3].map V.str)) = F11 at h11 s11 fw1
  have ex0 : names[0]? = some (nmz names 0) := nmz_at (by omega)
  generalize nmz names 0 = nm0 at ex0
  have ok0 := nms.ok nm0 (List.mem_of_getElem? ex0)
  have ln0 := ok0.l2
  have lu0 := up_len ok0
  walk_at "gg"
  refine g_ixL (v := .str x0) (h11.same _ _ fw1) (atI_nat (j := 0) rfl) ?_
  walk_at "gg"
  refine g_ixL (v := .str x1) (h11.same _ _ fw1) (atI_nat (j := 1) rfl) ?_
  walk_at "gg"
  refine g_addS (sz (by omega)) ?_
  walk_at "gg"
  refine g_ixL (v := .str nm0) (h11.same _ _ (s11 _ _ fnm)) (atI_nat (j := 0) (by rw [List.getElem?_map, ex0]; rfl)) ?_
  walk_at "gg"
  refine g_ixL (v := .str nm0) (h11.same _ _ (s11 _ _ fnm)) (atI_nat (j := 0) (by rw [List.getElem?_map, ex0]; rfl)) ?_
  walk_at "gg"
  refine ⟨nm0, rfl, rfl, by omega, ?_⟩
  walk_at "gg"
  refine g_klstF (by walk_at "sz") h11 (fun w2 H12 F12 n12 s12 fw2 h12 => ?_)
  walk_at "gg"
  refine g_addL (h12.same _ _ (s12 _ _ fw1)) (h12.same _ _ fw2) (sz (by show 4 + 3 ≤ 100000; decide)) h12 (fun w3 H13 n13 h13 => ?_)
  have s13 := h13.grow
  have h13 := h13.frz
  have fw3 : upd F12 w3 (.lst ([x0, x1, x2, x3].map V.str ++ [V.str (x0 ++ x1), .str nm0, .str (PySem.Txt.upper nm0)])) w3 = some (.lst (([x0, x1, x2, x3] ++ [x0 ++ x1, nm0, PySem.Txt.upper nm0]).map V.str)) := upd_same
  generalize upd F12 w3 (.lst ([x0, x1, x2, x3].map V.str ++ [V.str (x0 ++ x1), .str nm0, .str (PySem.Txt.upper nm0)])) = F13 at h13 s13 fw3
  have aw : ∀ z ∈ [x0, x1, x2, x3] ++ [x0 ++ x1, nm0, PySem.Txt.upper nm0], PyData.strOk z = true ∧ z.length ≤ 1000 := fun z hz => by
    rcases List.mem_append.mp hz with hz | hz
    · have := ax z hz
      exact ⟨this.1, by omega⟩
    · simp only [List.mem_cons, List.not_mem_nil, or_false] at hz
      rcases hz with rfl | rfl | rfl
      · exact ⟨strOk_app a0.1 a1.1, by rw [len_app]; omega⟩
      · exact ⟨ok0.strOk, by omega⟩
      · exact ⟨up_strOk ok0, by omega⟩
  have lw7 : ([x0, x1, x2, x3] ++ [x0 ++ x1, nm0, PySem.Txt.upper nm0]).length = 7 := rfl
  generalize [x0, x1, x2, x3] ++ [x0 ++ x1, nm0, PySem.Txt.upper nm0] = words at fw3 aw lw7
  have s1013 := (s11.trans s12).trans s13
  have s913 := s10.trans s1013
  have s213 := ((s6.trans s7).trans s9).trans s913
  walk_at "gg"
  refine ⟨wl, us, web, rfl, h13.same _ _ (s213 _ _ hwl), (du.up s213 _ _).up h13.same _ _, wok, by omega, fun msA H14 ms s14 n14 hms mok => ?_⟩
  have h14 := h13.made n14 s14 hms
  have s1314 := h14.grow
  have h14 := h14.frz
  have fms : upd F13 msA (.lst (rowI ms)) msA = some (.lst (rowI ms)) := upd_same
  generalize upd F13 msA (.lst (rowI ms)) = F14 at h14 s1314 fms
  have lf : LF F14 nmA msA wl dr w3 wa names ms us web d0 d1 d2 words us3 web3 := ⟨(s1013.trans s1314) _ _ fnm, fms, (s213.trans s1314) _ _ hwl, du.up (s213.trans s1314) _ _, (((s7.trans s9).trans s913).trans s1314) _ _ fdr, s1314 _ _ fw3, (s913.trans s1314) _ _ fwa, dw.up (s913.trans s1314) _ _⟩
  have h14 : Has F14 [] H14 := h14.drop
  have lm : ms.length = web.length := mok.len
  have okn : okL names := fun z hz => (nms.ok z hz).strOk
  clear hnm hms fnm fms hwl fdr fw0 fw1 fw2 fw3 fwa du dw h7 h9 h10 h11 h12 h13
  walk_at "gg"
  refine g_kmake h14 (fun a1 x1 H15 n15 h15 => ?_)
  refine ⟨a1, x1, F14, rfl, h15, fun e1 nl1 H16 F16 nd16 hb16 g16 h16 fnl1 => ⟨rfl, ?_⟩⟩
  walk_at "gg"
  refine g_kmake h16 (fun a2 x2 H17 n17 h17 => ?_)
  refine ⟨a2, x2, F16, rfl, h17.sub (List.sublist_append_left [(a2, HO.ins T.C_Order x2 []), (x2, HO.own a2)] _), fun e2 nl2 H18 F18 nd18 hb18 g18 h18 fnl2 => ⟨rfl, ?_⟩⟩
  have h18 := Has.grownA (A := [(a2, .ins T.C_Order x2 []), (x2, .own a2)]) (R := OrdO T a1 x1 e1 nl1 []) h17 hb18 g18 h18 (init_addr nd18)
  have st : StO T ⟨a1, x1, e1⟩ ⟨a2, x2, e2⟩ F18 H18 [] [] := StO.swap ⟨nl2, [], nl1, [], h18, OrdOk.empty fnl2, OrdOk.empty (g18.1 _ _ fnl1)⟩
  have lf := lf.mono (g16.1.trans g18.1)
  generalize F18 = F at st lf
  clear h14 h15 h16 h17 h18
  walk_at "gg"
  refine st.lst (by decide) (fun p0 H2 F2 s2 f2 st => ?_)
  have lf := lf.mono s2
  walk_at "gg"
  refine ⟨a1, nmA, p0, [], names, [], rfl, st.ord, st.same _ _ lf.nm, st.same _ _ f2, rel_empty.own (n := 0) (ms := []) (by omega) (by omega) (by omega) nms.nd okn, fun H3 s3 => ?_⟩
  have st := st.on s3
  walk_at "gg"
  refine g_ixL (v := .int (d2 : Nat)) (st.same _ _ lf.dr) (atI_nat (j := 2) rfl) ?_
  walk_at "gg"
  refine ⟨a1, nmA, names, 0, d2, [], rfl, st.ord, st.same _ _ lf.nm, nms, by omega, by omega, (rel_empty (ms := ms)).KN, fun H4 s4 => ?_⟩
  have st := st.on s4
  walk_at "gg"
  refine g_lenL (st.same _ _ lf.wl) ?_
  walk_at "gg"
  rw [lu]
  refine k_forR1 (fun t σ H' => ∃ (F : Hp) (rows rows2 : List URow) (y10 y11 y12 y13 : Option V), σ = [some (.ref sc), some (.ref c), some (.ref wl), some (.ref dr), some (.ref wa), some (.ref nmA), some (.ref w3), some (.ref msA), some (.ref a1), some (.ref a2), y10, y11, y12, y13, none, none] ∧ StO T ⟨a1, x1, e1⟩ ⟨a2, x2, e2⟩ F H' rows rows2 ∧ LF F nmA msA wl dr w3 wa names ms us web d0 d1 d2 words us3 web3 ∧ Rel names ms t rows ∧ Rel (names.take web.length).reverse (noMs web.length) t rows2)
    (by omega) (by omega) ⟨F2, [], [], _, _, _, _, rfl, st, lf, rel_empty, rel_empty⟩ ?_ ?_
  · rintro t σ H5 ht ⟨F, rows, rows2, y10, y11, y12, y13, rfl, st, lf, R, R2⟩
    have ht : t < web.length := by omega
    have ex : names[t]? = some (nmz names t) := nmz_at (by omega)
    generalize nmz names t = x at ex
    have er : web[t]? = some web[t] := List.getElem?_eq_getElem ht
    generalize web[t] = r at er
    have wr := wok.row t r er
    have okx := nms.ok x (List.mem_of_getElem? ex)
    walk_at "gg"
    refine ⟨nmA, wl, dr, names, us, web, t, d0, d1, d2, r, rows, rfl, st.same _ _ lf.nm, st.same _ _ lf.wl, lf.du.up st.same _ _, st.same _ _ lf.dr, nms, er, wr.1, wr.2.1, wr.2.2, by omega, R.KN, fun rp H6 F6 vs rs s6 h6 dv okr => ?_⟩
    obtain ⟨F7, s7, st, frp, dv⟩ := st.glue s6 h6 dv
    have lf := lf.mono s7
    walk_at "gg"
    refine k_forL (st.same _ _ frp) (fun u σ H' => ∃ (F : Hp) (y11 y12 : Option V), σ = [some (.ref sc), some (.ref c), some (.ref wl), some (.ref dr), some (.ref wa), some (.ref nmA), some (.ref w3), some (.ref msA), some (.ref a1), some (.ref a2), some (.int (t : Nat)), y11, y12, y13, none, none] ∧ Same F7 F ∧ StO T ⟨a1, x1, e1⟩ ⟨a2, x2, e2⟩ F H' rows rows2) ⟨F7, _, _, rfl, Same.refl _, st⟩ ?_ ?_ ?_
    · rintro u σ H' _ ⟨F, y11, y12, rfl, sF, st⟩
      exact st.same _ _ (sF _ _ frp)
    · rintro u v σ H8 hv ⟨F8, y11, y12, rfl, sF, st⟩
      obtain ⟨d', hd', dr_⟩ := dv.get hv
      rw [List.getElem?_map] at hd'
      obtain ⟨pr, hpr, rfl⟩ := Option.map_eq_some_iff.mp hd'
      have po := okr pr (List.mem_of_getElem? hpr)
      obtain ⟨ra, rus, rfl, hra, drs⟩ := dq_list dr_
      cases drs with | cons q0 drs => cases drs with | cons q1 drs => cases drs with | cons q2 drs => cases drs with | cons q3 drs => cases drs with | nil =>
      cases q0
      cases q2
      cases q3
      obtain ⟨la, lus, rfl, hla, dls⟩ := dq_list q1
      obtain ⟨px, pps, pk, pz⟩ := pr
      obtain rfl := DqAll.of_strs dls
      have po4 : pk < 4 := po.k4
      have pops : okL pps := po.ok
      have polx : px.length ≤ 1000 := po.lx
      have pol : pps.length ≤ 100 := po.l
      have posz : PyData.strOk pz = true := po.sz
      have poe : putE rows px pps = some (pk, pz) := po.e
      walk_at "gg"
      obtain ⟨nl, kvs, nl2, kvs2, h, ok, ok2⟩ := st
      refine k_lcR1 (by decide) (by decide) h (fun i acc F' O' => acc = (List.range i).map (fun j => V.bl (decide (pk = j))) ∧ F' = F8 ∧ O' = OrdO T a1 x1 e1 nl kvs ++ OrdO T a2 x2 e2 nl2 kvs2) ⟨rfl, rfl, rfl⟩ ?_ ?_
      · rintro i acc F' O' D H9 hi ⟨rfl, rfl, rfl⟩ hh
        have hi : i < 4 := hi
        walk_at "gg"
        refine g_ixL (v := .int (pk : Nat)) (hh.same _ _ (sF _ _ hra)) (atI_nat (j := 2) rfl) ?_
        walk_at "gg"
        have ed : decide ((pk : Int) = (i : Int)) = decide (pk = i) := decide_eq_decide.mpr (by omega)
        rw [ed]
        refine k_turn hh (by rw [List.length_map, List.length_range]; omega) ⟨?_, rfl, rfl⟩
        rw [map_range1]
      rintro acc F' O' fp H9 ⟨rfl, rfl, rfl⟩ h9
      have h9 : Has F' ((fp, .lst ((List.range 4).map (fun j => V.bl (decide (pk = j))))) :: (OrdO T a1 x1 e1 nl kvs ++ OrdO T a2 x2 e2 nl2 kvs2)) H9 := h9
      have s9 := h9.grow
      have ffp : upd F' fp (.lst ((List.range 4).map (fun j => V.bl (decide (pk = j))))) fp = some (.lst ((List.range 4).map (fun j => V.bl (decide (pk = j))))) := upd_same
      have st : StO T ⟨a1, x1, e1⟩ ⟨a2, x2, e2⟩ _ H9 rows rows2 := ⟨nl, kvs, nl2, kvs2, h9.frz, ok.mono s9, ok2.mono s9⟩
      generalize upd F' fp (.lst ((List.range 4).map (fun j => V.bl (decide (pk = j))))) = F9 at st s9 ffp
      have sF := sF.trans s9
      clear h9 h ok ok2
      walk_at "gg"
      refine g_ixL (v := .str px) (st.same _ _ (sF _ _ hra)) (atI_nat (j := 0) rfl) ?_
      walk_at "gg"
      refine g_ixL (v := .ref la) (st.same _ _ (sF _ _ hra)) (atI_nat (j := 1) rfl) ?_
      walk_at "gg"
      refine ⟨⟨a1, x1, e1⟩, ⟨a2, x2, e2⟩, [], F9, rows, rows2, px, la, pps, rfl, st.r, AtL.f (sF _ _ hla), pops, by omega, by omega, by have := R.len; omega, (fun e => by rw [poe] at e; cases e), fun k' z' e p H10 F10 s10 st d => ?_⟩
      have st := st.o
      rw [poe] at e
      injection e with e
      injection e with e1_ e2_
      subst e1_
      subst e2_
      have sF := sF.trans s10
      walk_at "gg"
      refine g_ixL (v := .str pz) (st.same _ _ (sF _ _ hra)) (atI_nat (j := 3) rfl) ?_
      walk_at "gg"
      refine st.lst (by show 3 ≤ 100000; decide) (fun du H11 F11 s11 f11 st => ?_)
      have shb : Sh 2 (badD pk pz) := sh_pd4 posz
      walk_at "gg"
      refine g_neD (d.up (s11.trans st.same) _ _) ((dq_bad13 f11 ((s10.trans s11) _ _ ffp)).up st.same _ _) (shb.ok (by decide)) (shb.ok (by decide)) ?_
      rw [SeqAt.eqv_refl _ shb.1]
      walk_at "gg"
      exact ⟨F11, _, _, rfl, sF.trans s11, st⟩
    rintro σ H8 ⟨F8, y11, y12, rfl, sF, st⟩
    have lf := lf.mono sF
    -- ahead of the put
    walk_at "gg"
    refine st.sl lf.ms (fun sl H9 n9 h9 st => ?_)
    rw [rowI_take] at h9
    walk_at "gg"
    refine ⟨a1, nmA, sl, rows, names, ms.take t, rfl, st.ord, st.same _ _ lf.nm, h9, R.own (by omega) (by omega) (by omega) nms.nd okn, fun H10 s10 => ?_⟩
    have st := st.on s10
    walk_at "gg"
    obtain ⟨rw_, ev, hrw⟩ := web_row lf.du er
    refine g_ixL (v := .ref rw_) (st.same _ _ lf.wl) (atI_nat ev) ?_
    walk_at "gg"
    obtain ⟨nl, kvs, nl2, kvs2, h, ok, ok2⟩ := st
    refine k_lcL (h.same _ _ hrw) h (fun j acc F' O' => acc = ((r.take j).map (nmz names)).map V.str ∧ F' = F8 ∧ O' = OrdO T a1 x1 e1 nl kvs ++ OrdO T a2 x2 e2 nl2 kvs2) ⟨rfl, rfl, rfl⟩ ?_ ?_ ?_
    · rintro j acc F' O' H3 ⟨_, rfl, rfl⟩ hh
      exact hh.same _ _ hrw
    · rintro j v acc F' O' D H3 hv ⟨rfl, rfl, rfl⟩ hh
      unfold rowI at hv
      rw [List.getElem?_map] at hv
      obtain ⟨b, hb, rfl⟩ := Option.map_eq_some_iff.mp hv
      have lb := wr.2.1 b (List.mem_of_getElem? hb)
      have ez := nmz_at (names := names) (a := b) (by omega)
      walk_at "gg"
      refine g_ixL (v := .str (nmz names b)) (hh.same _ _ lf.nm) (atI_nat (by rw [List.getElem?_map, ez]; rfl)) ?_
      refine k_turn hh (by rw [List.length_map, List.length_map, List.length_take]; omega) ⟨?_, rfl, rfl⟩
      rw [map_take1 (nmz names) hb, List.map_append]
      rfl
    rintro acc F' O' pl H11 ⟨rfl, rfl, rfl⟩ hh
    unfold rowI at hh
    rw [List.length_map, List.take_length] at hh
    have st : StR T ⟨a1, x1, e1⟩ ⟨a2, x2, e2⟩ [(pl, .lst ((r.map (nmz names)).map V.str))] F' H11 rows rows2 := StR.of (A := ⟨a1, x1, e1⟩) (B := ⟨a2, x2, e2⟩) hh ok ok2
    clear hh h ok ok2
    have okp : okL (r.map (nmz names)) := fun z hz => by
      obtain ⟨b, hb, rfl⟩ := List.mem_map.mp hz
      have := wr.2.1 b hb
      exact okn _ (List.mem_of_getElem? (nmz_at (by omega)))
    walk_at "gg"
    refine g_ixL (v := .str x) (st.same _ _ lf.nm) (atI_nat (by rw [List.getElem?_map, ex]; rfl)) ?_
    have l2x := okx.l2
    have rp_ := rel_put R nms.nd ex okx wr.1 wr.2.1
    walk_at "gg"
    refine ⟨⟨a1, x1, e1⟩, ⟨a2, x2, e2⟩, _, F', rows, rows2, x, pl, r.map (nmz names), rfl, st, AtL.r, okp, by omega, by rw [List.length_map]; omega, by have := R.len; omega, fun _ p H12 F12 uu s12 st pu d => ?_, fun k z e => by rw [rp_] at e; cases e⟩
    have lf := lf.mono s12
    walk_at "gg"
    refine st.lst (by show 0 ≤ 100000; decide) (fun g0 H13 F13 s13 f13 st => ?_)
    walk_at "gg"
    refine st.lst (by show 3 ≤ 100000; decide) (fun g1 H14 F14 s14 f14 st => ?_)
    have lf := lf.mono (s13.trans s14)
    walk_at "gg"
    refine g_neD (d.up ((s13.trans s14).trans st.same) _ _) ((dq_good f14 (s14 _ _ f13)).up st.same _ _) (sh_good.ok (by decide)) (sh_good.ok (by decide)) ?_
    rw [SeqAt.eqv_refl _ sh_good.1]
    obtain ⟨nl, kvs, nl2, kvs2, h, ok, ok2⟩ := st
    have h := h.perm (O' := (pl, HO.lst ((r.map (nmz names)).map V.str)) :: (OrdO T a1 x1 e1 nl kvs ++ OrdO T a2 x2 e2 nl2 kvs2)) (by rw [← List.append_assoc]; exact (List.perm_append_singleton _ _).symm)
    walk_at "gg"
    refine g_append h .hd (szl (by rw [List.length_map, List.length_map]; omega)) (fun H15 h => ?_)
    have st : StO T ⟨a1, x1, e1⟩ ⟨a2, x2, e2⟩ F14 H15 (rows ++ [(x, uu)]) rows2 := ⟨nl, kvs, nl2, kvs2, h.drop, ok, ok2⟩
    have R := rel_step R nms.nd wok mok ex er pu (nmz_mem (fun a ha => by have := wr.2.1 a ha; omega))
    generalize rows ++ [(x, uu)] = rows at st R
    clear h ok ok2 d f13 f14
    -- the twin
    walk_at "gg"
    refine g_lenL (st.same _ _ lf.wl) ?_
    rw [lu]
    walk_at "gg"
    have eN : ((web.length : Nat) : Int) - 1 - (t : Int) = ((web.length - 1 - t : Nat) : Int) := by omega
    rw [eN]
    have ez : names[web.length - 1 - t]? = some (nmz names (web.length - 1 - t)) := nmz_at (by omega)
    generalize nmz names (web.length - 1 - t) = z at ez
    have okz := nms.ok z (List.mem_of_getElem? ez)
    have l2z := okz.l2
    have ez2 : ((names.take web.length).reverse)[t]? = some z := by
      rw [List.getElem?_reverse (by rw [List.length_take]; omega), List.length_take, List.getElem?_take_of_lt (by omega), show min web.length names.length - 1 - t = web.length - 1 - t by omega]
      exact ez
    have ndr : ((names.take web.length).reverse).Nodup := (List.reverse_perm _).nodup_iff.mpr (nms.nd.sublist (List.take_sublist _ _))
    have rp2 := rel_put (r := []) R2 ndr ez2 okz List.nodup_nil (fun a h => (List.not_mem_nil h).elim)
    refine g_ixL (v := .str z) (st.same _ _ lf.nm) (atI_nat (by rw [List.getElem?_map, ez]; rfl)) ?_
    walk_at "gg"
    refine st.lst (by show 0 ≤ 100000; decide) (fun g2 H16 F16 s16 f16 st => ?_)
    have lf := lf.mono s16
    walk_at "gg"
    refine ⟨⟨a2, x2, e2⟩, ⟨a1, x1, e1⟩, [], F16, rows2, rows, z, g2, [], rfl, st.swap.r, AtL.f f16, (fun y h => (List.not_mem_nil h).elim), by omega, by decide, by have := R2.len; omega, fun _ p H17 F17 uu2 s17 st pu2 d => ?_, fun k y e => by rw [show putE rows2 z [] = none from rp2] at e; cases e⟩
    have st := st.o.swap
    have lf := lf.mono s17
    walk_at "gg"
    refine st.lst (by show 0 ≤ 100000; decide) (fun g0 H18 F18 s18 f18 st => ?_)
    walk_at "gg"
    refine st.lst (by show 3 ≤ 100000; decide) (fun g1 H19 F19 s19 f19 st => ?_)
    have lf := lf.mono (s18.trans s19)
    walk_at "gg"
    refine g_neD (d.up ((s18.trans s19).trans st.same) _ _) ((dq_good f19 (s19 _ _ f18)).up st.same _ _) (sh_good.ok (by decide)) (sh_good.ok (by decide)) ?_
    rw [SeqAt.eqv_refl _ sh_good.1]
    walk_at "gg"
    have er2 : (noWeb web.length)[t]? = some [] := by
      unfold noWeb
      rw [List.getElem?_replicate, if_pos (by omega)]
    have R2 := rel_step R2 ndr (noWeb_ok _) (noMs_ok _) ez2 er2 pu2 (fun p => by simp)
    generalize rows2 ++ [(z, uu2)] = rows2 at st R2
    clear d f18 f19 f16
    have e1t : ((t : Nat) : Int) + 1 = ((t + 1 : Nat) : Int) := by omega
    rw [e1t]
    walk_at "gg"
    refine st.sl lf.ms (fun sl H20 n20 h20 st => ?_)
    rw [rowI_take] at h20
    walk_at "gg"
    refine ⟨a1, nmA, sl, rows, names, ms.take (t + 1), rfl, st.ord, st.same _ _ lf.nm, h20, R.own (by omega) (by omega) (by omega) nms.nd okn, fun H21 s21 => ?_⟩
    have st := st.on s21
    walk_at "gg"
    rw [e1t]
    refine g_ixL (v := .int (d2 : Nat)) (st.same _ _ lf.dr) (atI_nat (j := 2) rfl) ?_
    walk_at "gg"
    refine ⟨a1, nmA, names, t + 1, d2, rows, rfl, st.ord, st.same _ _ lf.nm, nms, by omega, by omega, R.KN, fun H22 s22 => ?_⟩
    have st := st.on s22
    walk_at "gg"
    rw [e1t]
    walk_at "gg"
    refine ⟨⟨a1, x1, e1⟩, ⟨a2, x2, e2⟩, F19, nmA, w3, names, words, t + 1, rows, rows2, rfl, st, lf.nm, lf.ww, nms, by omega, by omega, R.KN, by have := R.len; omega, aw, fun H23 F23 s23 st => ?_⟩
    walk_at "gg"
    exact ⟨F23, rows, rows2, _, _, _, _, rfl, st, lf.mono s23, R, R2⟩
  rintro σ H5 ⟨F, rows, rows2, y10, y11, y12, y13, rfl, st, lf, R, R2⟩
  rw [show ((web.length : Nat) : Int).toNat = web.length by omega] at R R2
  walk_at "gg"
  obtain ⟨nl, kvs, nl2, kvs2, h, ok, ok2⟩ := st
  refine g_addL (h.same _ _ lf.ww) (h.same _ _ lf.nm) (sz (by rw [List.length_map, List.length_map]; omega)) h (fun wa1 H6 n6 h6 => ?_)
  walk_at "gg"
  refine g_klst (by walk_at "sz") h6 (fun wa2 H7 n7 h7 => ?_)
  walk_at "gg"
  refine g_addL (h7.get (by walk_at "m")) (h7.get (List.Mem.head _)) (sz (by rw [List.length_append, List.length_map, List.length_map]; show _ + 1 ≤ _; omega)) h7 (fun wa3 H8 n8 h8 => ?_)
  have h8 := (h8.sub (O' := (wa3, _) :: (OrdO T a1 x1 e1 nl kvs ++ OrdO T a2 x2 e2 nl2 kvs2)) (List.Sublist.cons_cons _ (List.Sublist.cons _ (List.Sublist.cons _ (List.Sublist.refl _)))))
  have s8 := h8.grow
  have fwa3 : upd F wa3 (.lst (words.map V.str ++ names.map V.str ++ [V.str "n0n"])) wa3 = some (.lst ((words ++ names ++ [("n0n" : Str)]).map V.str)) := by
    rw [List.map_append, List.map_append]
    exact upd_same
  have st : StO T ⟨a1, x1, e1⟩ ⟨a2, x2, e2⟩ _ H8 rows rows2 := ⟨nl, kvs, nl2, kvs2, h8.frz, ok.mono s8, ok2.mono s8⟩
  generalize upd F wa3 (.lst (words.map V.str ++ names.map V.str ++ [V.str "n0n"])) = F8 at st s8 fwa3
  have lf := lf.mono s8
  clear h h6 h7 h8 ok ok2
  walk_at "gg"
  refine g_lenL (st.same _ _ lf.wl) ?_
  rw [lu]
  walk_at "gg"
  refine ⟨⟨a1, x1, e1⟩, ⟨a2, x2, e2⟩, F8, nmA, wa3, names, words ++ names ++ [("n0n" : Str)], web.length, rows, rows2, rfl, st, lf.nm, fwa3, nms, by omega, by omega, R.KN, by have := R.len; omega, (fun z hz => by
    rcases List.mem_append.mp hz with hz | hz
    · rcases List.mem_append.mp hz with hz | hz
      · exact aw z hz
      · have := (nms.ok z hz).l2
        exact ⟨okn z hz, by omega⟩
    · rw [List.mem_singleton.mp hz]
      exact ⟨s0ok, by decide +kernel⟩), fun H9 F9 s9 st => ?_⟩
  have lf := lf.mono s9
  walk_at "gg"
  have O1 := R.own (by omega) (by omega) (by omega) nms.nd okn
  rw [List.take_of_length_le (by omega)] at O1
  refine ⟨a1, nmA, msA, rows, names, ms, rfl, st.ord, st.same _ _ lf.nm, st.same _ _ lf.ms, O1, fun H10 s10 => ?_⟩
  have st := st.on s10
  walk_at "gg"
  refine g_lenL (st.same _ _ lf.wl) ?_
  rw [lu]
  obtain ⟨nl, kvs, nl2, kvs2, h, ok, ok2⟩ := st
  walk_at "gg"
  refine k_lcR1 (by omega) (by omega) h (fun i acc F' O' => acc = rowI ((List.range i).map (2 ^ ·)) ∧ F' = F9 ∧ O' = OrdO T a1 x1 e1 nl kvs ++ OrdO T a2 x2 e2 nl2 kvs2) ⟨rfl, rfl, rfl⟩ ?_ ?_
  · rintro i acc F' O' D H11 hi ⟨rfl, rfl, rfl⟩ hh
    have hi : i < web.length := by omega
    walk_at "gg"
    refine g_rI ⟨by omega, by omega, by omega⟩ ?_
    refine k_turn hh (by unfold rowI; rw [List.length_map, List.length_map, List.length_range]; omega) ⟨?_, rfl, rfl⟩
    rw [map_range1]
    unfold rowI
    rw [List.map_append]
    congr 1
    show [V.int (1 * 2 ^ ((i : Int).toNat))] = [V.int ((2 ^ i : Nat) : Int)]
    rw [show ((i : Nat) : Int).toNat = i by omega]
    simp
  rintro acc F' O' mt H11 ⟨rfl, rfl, rfl⟩ h11
  rw [show ((web.length : Nat) : Int).toNat = web.length by omega] at h11
  have h11 : Has F' ((mt, .lst (rowI (noMs web.length))) :: (OrdO T a1 x1 e1 nl kvs ++ OrdO T a2 x2 e2 nl2 kvs2)) H11 := h11
  have fmt := h11.get (List.Mem.head _)
  have st : StO T ⟨a1, x1, e1⟩ ⟨a2, x2, e2⟩ F' H11 rows rows2 := ⟨nl, kvs, nl2, kvs2, h11.drop, ok, ok2⟩
  clear h h11 ok ok2
  walk_at "gg"
  refine ⟨a2, nmA, mt, rows2, names, noMs web.length, rfl, st.swap.ord, st.same _ _ lf.nm, fmt, twin_own R2 (by omega) (by omega) nms.nd okn, fun H12 s12 => ?_⟩
  have st := st.on s12
  walk_at "gg"
  -- the third order
  obtain ⟨nl, kvs, nl2, kvs2, h, ok, ok2⟩ := st
  have hwa := lf.lg
  have dw := lf.dg
  have fdr := lf.dr
  have lu3 : us3.length = web3.length := by rw [dw.len, List.length_map]
  have h := h.sub (List.sublist_append_right _ _)
  clear lf R R2 O1
  generalize hbb : 1 + d2 = b
  have hb0 : 0 < b := by omega
  have hb1 : b < 61 := by omega
  refine g_lenL (h.same _ _ hwa) ?_
  walk_at "gg"
  rw [lu3]
  refine k_lcR1 (by omega) (by omega) h (fun i acc F2 O' => acc = (wN b i).map V.str ∧ F2 = F' ∧ O' = OrdO T a2 x2 e2 nl2 kvs2) ⟨rfl, rfl, rfl⟩ ?_ ?_
  · rintro i acc F2 O' D H13 hi ⟨rfl, rfl, rfl⟩ hh
    have hi : i < web3.length := by omega
    walk_at "gg"
    refine g_ixL (v := .int (d2 : Nat)) (hh.same _ _ fdr) (atI_nat (j := 2) rfl) ?_
    walk_at "gg"
    refine g_mulI (.inl ⟨by omega, by omega⟩) ?_
    walk_at "gg"
    refine g_rI (by show (0 : Int) < 61; decide) ?_
    walk_at "gg"
    have er : ((1 + (d2 : Int)) * (i : Int)) % 61 = ((b * i % 61 : Nat) : Int) := by rw [← hbb]; push_cast; rfl
    rw [er]
    have hr : b * i % 61 < 61 := Nat.mod_lt _ (by decide)
    refine g_strI (log_small (by omega)) ?_
    have wln := wW_len ⟨b * i % 61, hr⟩
    have wln : (Str.ofString (toString (7 + ((b * i % 61 : Nat) : Int)))).length ≤ 2 := wln
    refine g_addS (sz (by show 1 + (Str.ofString (toString (7 + ((b * i % 61 : Nat) : Int)))).length ≤ _; omega)) ?_
    refine k_turn hh (by rw [List.length_map, wN_len]; omega) ⟨?_, rfl, rfl⟩
    unfold wN
    rw [List.range_succ, List.map_append, List.map_append]
    rfl
  rintro acc F2 O' nw H13 ⟨rfl, rfl, rfl⟩ h13
  have eT : ((web3.length : Nat) : Int).toNat = web3.length := by omega
  rw [eT] at h13
  have ln3 := wN_len b web3.length
  have nd3 := wN_nd (m := web3.length) hb0 hb1 (by omega)
  have nmk3 : ∀ z ∈ wN b web3.length, NmOk z := fun z hz => wN_ok hz
  generalize wN b web3.length = names3 at h13 ln3 nd3 nmk3
  have s13 := h13.grow
  have h13 := h13.frz
  have fnw : upd F2 nw (.lst (names3.map V.str)) nw = some (.lst (names3.map V.str)) := upd_same
  have ok2 := ok2.mono s13
  generalize upd F2 nw (.lst (names3.map V.str)) = F13 at h13 s13 fnw ok2
  walk_at "gg"
  refine ⟨wa, us3, web3, rfl, h13.same _ _ (s13 _ _ hwa), (dw.up s13 _ _).up h13.same _ _, wok3, by omega, fun mw H14 ms3 s14 n14 hmw mok3 => ?_⟩
  have h14 := h13.made n14 s14 hmw
  have s1314 := h14.grow
  have h14 := h14.frz
  have fmw : upd F13 mw (.lst (rowI ms3)) mw = some (.lst (rowI ms3)) := upd_same
  have ok2 := ok2.mono s1314
  generalize upd F13 mw (.lst (rowI ms3)) = F14 at h14 s1314 fmw ok2
  have lw : LW F14 nw mw wa names3 ms3 us3 web3 := ⟨s1314 _ _ fnw, fmw, s1314 _ _ (s13 _ _ hwa), (dw.up s13 _ _).up s1314 _ _⟩
  clear hmw fnw fmw hwa dw fdr h13 h
  have lm3 : ms3.length = names3.length := by rw [mok3.len, ln3]
  have okn3 : okL names3 := fun z hz => (nmk3 z hz).strOk
  walk_at "gg"
  refine g_kmake h14 (fun a3 x3 H15 n15 h15 => ?_)
  refine ⟨a3, x3, F14, rfl, h15.sub (List.sublist_append_left [(a3, HO.ins T.C_Order x3 []), (x3, HO.own a3)] _), fun e3 nl3 H16 F16 nd16 hb16 g16 h16 fnl3 => ⟨rfl, ?_⟩⟩
  have h16 := Has.grownA (A := [(a3, .ins T.C_Order x3 []), (x3, .own a3)]) (R := OrdO T a2 x2 e2 nl2 kvs2) h15 hb16 g16 h16 (init_addr nd16)
  have st : StO T ⟨a3, x3, e3⟩ ⟨a2, x2, e2⟩ F16 H16 [] rows2 := ⟨nl3, [], nl2, kvs2, h16, OrdOk.empty fnl3, ok2.mono g16.1⟩
  have lw := lw.mono g16.1
  generalize F16 = F at st lw
  clear h14 h15 h16 fnl3 g16 ok2
  walk_at "gg"
  refine g_lenL (st.same _ _ lw.wa) ?_
  walk_at "gg"
  rw [lu3]
  refine k_forR1 (fun t σ H' => ∃ (F : Hp) (rows : List URow) (y10 : Option V), σ = [some (.ref sc), some (.ref c), some (.ref wl), some (.ref dr), some (.ref wa), some (.ref nmA), some (.ref nw), some (.ref mw), some (.ref a3), some (.ref a2), y10, y11, y12, y13, none, none] ∧ StO T ⟨a3, x3, e3⟩ ⟨a2, x2, e2⟩ F H' rows rows2 ∧ LW F nw mw wa names3 ms3 us3 web3 ∧ Rel names3 ms3 t rows)
    (by omega) (by omega) ⟨F, [], _, rfl, st, lw, rel_empty⟩ ?_ ?_
  · rintro t σ H2 ht ⟨F, rows, y10, rfl, st, lw, R⟩
    have ht : t < web3.length := by omega
    have ex : names3[t]? = some (nmz names3 t) := nmz_at (by omega)
    generalize nmz names3 t = x at ex
    have er : web3[t]? = some web3[t] := List.getElem?_eq_getElem ht
    generalize web3[t] = r at er
    have wr := wok3.row t r er
    have okx := nmk3 x (List.mem_of_getElem? ex)
    obtain ⟨rw_, ev, hrw⟩ := web_row lw.dw er
    walk_at "gg"
    obtain ⟨nl_, ins⟩ := st.ins
    refine g_kmeth ins rfl ?_
    walk_at "gg"
    refine g_ixL (v := .str x) (st.same _ _ lw.nm) (atI_nat (by rw [List.getElem?_map, ex]; rfl)) ?_
    walk_at "gg"
    refine g_ixL (v := .ref rw_) (st.same _ _ lw.wa) (atI_nat ev) ?_
    walk_at "gg"
    obtain ⟨nl, kvs, nl2, kvs2, h, ok, ok2⟩ := st
    refine k_lcL (h.same _ _ hrw) h (fun j acc F' O' => acc = ((r.take j).map (nmz names3)).map V.str ∧ F' = F ∧ O' = OrdO T a3 x3 e3 nl kvs ++ OrdO T a2 x2 e2 nl2 kvs2) ⟨rfl, rfl, rfl⟩ ?_ ?_ ?_
    · rintro j acc F' O' H3 ⟨_, rfl, rfl⟩ hh
      exact hh.same _ _ hrw
    · rintro j v acc F' O' D H3 hv ⟨rfl, rfl, rfl⟩ hh
      unfold rowI at hv
      rw [List.getElem?_map] at hv
      obtain ⟨b', hb', rfl⟩ := Option.map_eq_some_iff.mp hv
      have lb := wr.2.1 b' (List.mem_of_getElem? hb')
      have ez := nmz_at (names := names3) (a := b') (by omega)
      walk_at "gg"
      refine g_ixL (v := .str (nmz names3 b')) (hh.same _ _ lw.nm) (atI_nat (by rw [List.getElem?_map, ez]; rfl)) ?_
      refine k_turn hh (by rw [List.length_map, List.length_map, List.length_take]; omega) ⟨?_, rfl, rfl⟩
      rw [map_take1 (nmz names3) hb', List.map_append]
      rfl
    rintro acc F' O' pl H3 ⟨rfl, rfl, rfl⟩ hh
    unfold rowI at hh
    rw [List.length_map, List.take_length] at hh
    have sp := hh.grow
    have fpl : upd F' pl (.lst ((r.map (nmz names3)).map V.str)) pl = some (.lst ((r.map (nmz names3)).map V.str)) := upd_same
    have st : StO T ⟨a3, x3, e3⟩ ⟨a2, x2, e2⟩ (upd F' pl (.lst ((r.map (nmz names3)).map V.str))) H3 rows rows2 := ⟨nl, kvs, nl2, kvs2, hh.frz, ok.mono sp, ok2.mono sp⟩
    have lw := lw.mono sp
    generalize upd F' pl (.lst ((r.map (nmz names3)).map V.str)) = F1 at st lw fpl
    have rp_ := rel_put R nd3 ex okx wr.1 wr.2.1
    have l2x := okx.l2
    walk_at "gg"
    refine StR.put13 (A := ⟨a3, x3, e3⟩) (B := ⟨a2, x2, e2⟩) st.r (st.same _ _ fpl) (by omega) (by rw [List.length_map]; omega) (by have := R.len; omega) (fun _ H4 F4 uu s4 st pu => ?_) (fun z e => by rw [rp_] at e; cases e) (fun z e => by rw [rp_] at e; cases e) (fun z e => by rw [rp_] at e; cases e) (fun z e => by rw [rp_] at e; cases e)
    have st := st.o
    have R := rel_step R nd3 wok3 mok3 ex er pu (nmz_mem (fun a ha => by have := wr.2.1 a ha; omega))
    walk_at "gg"
    exact ⟨F4, _, _, rfl, st, lw.mono s4, R⟩
  rintro σ H2 ⟨F, rows, y10, rfl, st, lw, R⟩
  rw [eT] at R
  walk_at "gg"
  have O3 := R.own (by omega) (by omega) (by omega) nd3 okn3
  rw [List.take_of_length_le (by omega)] at O3
  refine ⟨a3, nw, mw, rows, names3, ms3, rfl, st.ord, st.same _ _ lw.nm, st.same _ _ lw.ms, O3, fun H3 s3 => ?_⟩
  walk_at "gg"
  exact q _
end

end K13

namespace K13
open PySem PySem.Spec PyProof.Rows L2 Qk
local macro_rules | `(tactic| walk_at "m") => `(tactic| ((repeat (first | exact List.Mem.head _ | apply List.Mem.tail)); done))
local macro_rules | `(tactic| walk_at "h") => `(tactic| first | assumption | exact Has.gF (by assumption) (by assumption) | exact Has.get (by assumption) (by walk_at "m"))
local macro_rules | `(tactic| walk_at "c") => `(tactic| ((repeat (first | exact Chg.hd | apply Chg.tl)); done))
local macro_rules | `(tactic| walk_at "is") => `(tactic| first
  | ((with_reducible refine' is2_non ?gh ?_); (case gh => walk_at "h"))
  | (with_reducible refine is_int_list ?_)
  | (with_reducible refine is_int_tuple ?_)
  | (with_reducible refine is_int_dict ?_)
  | (with_reducible refine is_int_int ?_)
  | (with_reducible refine is_int_bool ?_)
  | (with_reducible refine is_int_str ?_)
  | ((with_reducible refine' is2_int ?gh ?_); (case gh => walk_at "h"))
  | (with_reducible refine is_str_list ?_)
  | (with_reducible refine is_str_tuple ?_)
  | (with_reducible refine is_str_dict ?_)
  | (with_reducible refine is_str_int ?_)
  | (with_reducible refine is_str_bool ?_)
  | (with_reducible refine is_str_str ?_)
  | ((with_reducible refine' is2_str ?gh ?_); (case gh => walk_at "h"))
  | (with_reducible refine is_bool_list ?_)
  | (with_reducible refine is_bool_tuple ?_)
  | (with_reducible refine is_bool_dict ?_)
  | (with_reducible refine is_bool_int ?_)
  | (with_reducible refine is_bool_bool ?_)
  | (with_reducible refine is_bool_str ?_)
  | ((with_reducible refine' is2_bool ?gh ?_); (case gh => walk_at "h"))
  | ((with_reducible refine' is_list_list ?gh ?_); (case gh => walk_at "h"))
  | ((with_reducible refine' is_list_tuple ?gh ?_); (case gh => walk_at "h"))
  | ((with_reducible refine' is_list_dict ?gh ?_); (case gh => walk_at "h"))
  | ((with_reducible refine' is_list_int ?gh ?_); (case gh => walk_at "h"))
  | ((with_reducible refine' is_list_bool ?gh ?_); (case gh => walk_at "h"))
  | ((with_reducible refine' is_list_str ?gh ?_); (case gh => walk_at "h"))
  | ((with_reducible refine' is2_list ?ga ?gb ?_); (case ga => walk_at "h"); (case gb => walk_at "h"))
  | ((with_reducible refine' is_tuple_list ?gh ?_); (case gh => walk_at "h"))
  | ((with_reducible refine' is_tuple_tuple ?gh ?_); (case gh => walk_at "h"))
  | ((with_reducible refine' is_tuple_dict ?gh ?_); (case gh => walk_at "h"))
  | ((with_reducible refine' is_tuple_int ?gh ?_); (case gh => walk_at "h"))
  | ((with_reducible refine' is_tuple_bool ?gh ?_); (case gh => walk_at "h"))
  | ((with_reducible refine' is_tuple_str ?gh ?_); (case gh => walk_at "h"))
  | ((with_reducible refine' is2_tuple ?ga ?gb ?_); (case ga => walk_at "h"); (case gb => walk_at "h"))
  | ((with_reducible refine' is_dict_list ?gh ?_); (case gh => walk_at "h"))
  | ((with_reducible refine' is_dict_tuple ?gh ?_); (case gh => walk_at "h"))
  | ((with_reducible refine' is_dict_dict ?gh ?_); (case gh => walk_at "h"))
  | ((with_reducible refine' is_dict_int ?gh ?_); (case gh => walk_at "h"))
  | ((with_reducible refine' is_dict_bool ?gh ?_); (case gh => walk_at "h"))
  | ((with_reducible refine' is_dict_str ?gh ?_); (case gh => walk_at "h"))
  | ((with_reducible refine' is2_dict ?ga ?gb ?_); (case ga => walk_at "h"); (case gb => walk_at "h")))
local macro_rules | `(tactic| walk_at "g") => `(tactic| first
  | (with_reducible refine g_seq ?_)
  | (with_reducible refine g_asg ?_)
  | ((with_reducible refine g_name ?_); dsimp only [List.set, wipe, List.map])
  | ((with_reducible refine' g_var ?gv ?_); (case gv => exact rfl))
  | (with_reducible refine g_c ?_)
  | (with_reducible refine g_op ?_)
  | (with_reducible refine g_cons ?_)
  | (with_reducible refine g_nil ?_)
  | (with_reducible refine g_cb ?_)
  | (with_reducible refine g_call ?_)
  | (with_reducible refine g_tup ?_)
  | (with_reducible refine g_lst ?_)
  | (with_reducible refine g_bm ?_)
  | (with_reducible refine g_bm0 ?_)
  | ((with_reducible refine' g_kbm ?gh ?_); (case gh => walk_at "h"))
  | (with_reducible refine g_drop ?_)
  | (with_reducible refine g_ret ?_)
  | (with_reducible refine g_retN ?_)
  | (with_reducible refine g_next ?_)
  | (with_reducible refine g_brk ?_)
  | (with_reducible refine g_cont ?_)
  | (with_reducible refine g_if ?_)
  | ((with_reducible refine' g_aug ?gv ?_); (case gv => exact rfl))
  | (with_reducible refine g_ipI ?_)
  | (with_reducible refine g_test ?_)
  | (with_reducible refine g_tB ?_)
  | (with_reducible refine g_kB ?_)
  | (with_reducible refine g_not ?_)
  | (with_reducible refine g_and ?_)
  | (with_reducible refine g_or ?_)
  | (with_reducible refine g_andV ?_)
  | (with_reducible refine g_orV ?_)
  | (with_reducible refine g_notV ?_)
  | (with_reducible refine g_ifE ?_)
  | (with_reducible refine g_addI ?_)
  | (with_reducible refine g_rI0 ?_)
  | (with_reducible refine g_eqI ?_)
  | (with_reducible refine g_eqS ?_)
  | (with_reducible refine g_neI ?_)
  | (with_reducible refine g_neS ?_)
  | (with_reducible refine g_isN ?_)
  | (with_reducible refine g_notN ?_)
  | (with_reducible refine g_int ?_)
  | (with_reducible refine g_max2 ?_)
  | (with_reducible refine g_min2 ?_)
  | ((with_reducible refine' g_lenL ?gh ?_); (case gh => walk_at "h"))
  | (with_reducible refine g_sub ?_)
  | (with_reducible refine g_gcons ?_)
  | (with_reducible refine g_gnil ?_)
  | (with_reducible refine g_un ?_)
  | (with_reducible refine g_rU ?_)
  | (with_reducible refine g_forL ?_)
  | (with_reducible refine g_forS ?_)
  | (with_reducible refine g_forR1 ?_)
  | (with_reducible refine g_forR2 ?_)
  | (with_reducible refine g_forR3 ?_)
  | (with_reducible refine g_lcL ?_)
  | (with_reducible refine g_lcR1 ?_)
  | (with_reducible refine g_lcR2 ?_)
  | (with_reducible refine g_slice ?_)
  | (with_reducible refine g_part ?_)
  | (with_reducible refine g_kOI ?_)
  | (with_reducible refine g_nopart ?_)
  | (with_reducible refine g_yes ?_)
  | ((with_reducible refine' g_wipe ?gv ?_); (case gv => exact rfl))
  | (with_reducible refine iteT ?_)
  | (with_reducible refine iteF ?_)
  | (with_reducible refine i_nf ?_)
  | (with_reducible refine i_nt ?_)
  | ((with_reducible refine' g_gtup ?gh ?gl ?_); (case gh => walk_at "h"); (case gl => exact rfl))
  | ((with_reducible refine' g_notinI ?gh ?_); (case gh => walk_at "h"))
  | ((with_reducible refine' g_inI ?gh ?_); (case gh => walk_at "h"))
  | ((with_reducible refine' g_kget2 ?gh ?_); (case gh => walk_at "h"))
  | ((with_reducible refine' g_kgotI ?gh ?_); (case gh => walk_at "h"))
  | (with_reducible refine g_tRev ?_)
  | (with_reducible refine g_neB ?_)
  | (with_reducible refine g_eqB ?_)
  | ((with_reducible refine' g_lenT ?gh ?_); (case gh => walk_at "h"))
  | (with_reducible refine g_star ?_)
  | ((with_reducible refine' g_kstarL ?gh ?_); (case gh => walk_at "h"))
  | ((with_reducible refine' g_kstarT ?gh ?_); (case gh => walk_at "h"))
  | (with_reducible refine g_tru ?_)
  | ((with_reducible refine' g_truL ?gh ?_); (case gh => walk_at "h"))
  | (with_reducible refine g_get2 ?_)
  | (with_reducible refine g_try ?_)
  | (with_reducible refine g_fld ?_)
  | (with_reducible refine g_sfld ?_)
  | (with_reducible refine g_meth ?_)
  | (with_reducible refine g_make ?_)
  | (with_reducible refine g_del ?_)
  | (with_reducible refine g_callS ?_)
  | (with_reducible refine g_raise ?_)
  | (with_reducible refine g_xf ?_)
  | (with_reducible refine g_m0 ?_)
  | (with_reducible refine g_km0 ?_)
  | walk_at "is")
local macro_rules | `(tactic| walk_at "gg") => `(tactic| repeat walk_at "g")
local macro_rules | `(tactic| walk_at "sz") => `(tactic| (refine sz ?_; simp only [List.length_cons, List.length_nil, List.length_map, List.length_append, List.length_replicate]; omega))
local macro_rules | `(tactic| walk_at "sub") => `(tactic| ((repeat (first | exact List.Sublist.slnil | with_reducible apply List.Sublist.cons_cons | with_reducible apply List.Sublist.cons)); done))

set_option maxHeartbeats 4000000
theorem all_mk {l : PySem.W.OpenLaw} {w : World} {K : PySem.W.Frag} {h : Heap} {mg : Str → Option Value} {fa f1 f2 f3 f4 f5 f6 f7 f8 f9 f10 f11 f12 f13 f14 f15 f16 f17 f18 f19 f20 f21 f22 f23 f24 f25 f26 c_Order c_PartError c_BadName c_Taken c_Unknown c_Repeated fi_BadName fi_Taken fi_Unknown fi_Repeated : Addr} (X : K.In h) (G : h.Ns mainGlobals mg) (hfa : mg "law" = some (.ref fa))
    {od1 an1 od2 an2 od3 an3 od4 an4 od5 an5 od6 an6 od7 an7 od8 an8 od9 an9 od10 an10 od11 an11 od12 an12 od13 an13 od14 an14 od15 an15 od16 an16 od17 an17 od18 an18 od19 an19 od20 an20 od21 an21 od22 an22 od23 an23 od24 an24 od25 an25 od26 an26 : Option Addr} {sl1 sl2 sl3 sl4 sl5 sl6 sl7 sl8 sl9 sl10 sl11 sl12 sl13 sl14 sl15 sl16 sl17 sl18 sl19 sl20 sl21 sl22 sl23 sl24 sl25 sl26 : Array (Option Value)} {oc1 kV1 dc1 pm1 cd1 ct1 oc2 kV2 dc2 pm2 cd2 ct2 oc3 kV3 dc3 pm3 cd3 ct3 oc4 kV4 dc4 pm4 cd4 ct4 oc5 kV5 dc5 pm5 cd5 ct5 oc6 kV6 dc6 pm6 cd6 ct6 oc7 kV7 dc7 pm7 cd7 ct7 oc8 kV8 dc8 pm8 cd8 ct8 oc9 kV9 dc9 pm9 cd9 ct9 oc10 kV10 dc10 pm10 cd10 ct10 oc11 kV11 dc11 pm11 cd11 ct11 oc12 kV12 dc12 pm12 cd12 ct12 oc13 kV13 dc13 pm13 cd13 ct13 oc14 kV14 dc14 pm14 cd14 ct14 oc15 kV15 dc15 pm15 cd15 ct15 oc16 kV16 dc16 pm16 cd16 ct16 oc17 kV17 dc17 pm17 cd17 ct17 oc18 kV18 dc18 pm18 cd18 ct18 oc19 kV19 dc19 pm19 cd19 ct19 oc20 kV20 dc20 pm20 cd20 ct20 oc21 kV21 dc21 pm21 cd21 ct21 oc22 kV22 dc22 pm22 cd22 ct22 oc23 kV23 dc23 pm23 cd23 ct23 oc24 kV24 dc24 pm24 cd24 ct24 oc25 kV25 dc25 pm25 cd25 ct25 oc26 kV26 dc26 pm26 cd26 ct26 : Value}
    (ac_Order : PySem.W.nsIn K mainGlobals "Order" = some (some (.ref c_Order)))
    (pg_Order : PySem.W.plainGet K c_Order Str.empty = true)
    (hd_Order : PySem.W.hasDictIn K c_Order = true)
    (po_Order : PySem.W.plainOver K c_Order = true)
    (sa_Order : PySem.W.findIn K (.ref c_Order) "__setattr__" = some (some (.builtin "object.__setattr__")))
    (mk_Order : PySem.W.makesIn K c_Order = true)
    (kc_Order : PySem.W.keepIn K (.ref c_Order) = true)
    (na__names_Order : PySem.W.findIn K (.ref c_Order) "_names" = some none)
    (na__under_Order : PySem.W.findIn K (.ref c_Order) "_under" = some none)
    (na___len___Order : PySem.W.findIn K (.ref c_Order) "__len__" = some none)
    (na___length_hint___Order : PySem.W.findIn K (.ref c_Order) "__length_hint__" = some none)
    (ica_Order : PySem.W.findIn K (.ref c_Order) "__class__" = some (some (.builtin "object.__class__")))
    (icn_Order : PySem.W.specialIn K (.builtin "object.__class__") "__get__" = some (some (.builtin "getset_descriptor.__get__")))
    (ict_Order : PySem.W.takesIn K (.builtin "object.__class__") = some true)
    (icm_Order : PySem.W.mroIn K c_Order (.type "object") = some true)
    (a1 : PySem.W.nsIn K mainGlobals "is_name" = some (some (.ref f1))) (l1 : K.lookup f1 = some ⟨oc1, od1, .func (PySem.W.fnOf "is_name" "is_name" (defArgs s_is_name) (defBody s_is_name) (defScope s_is_name) .none kV1 dc1 pm1 an1 cd1 ct1), sl1⟩) (c1 : PySem.W.codeIn K cd1 "is_name" = true) (k1 : PySem.W.keepIn K (.ref f1) = true)
    (a2 : PySem.W.nsIn K mainGlobals "_law_cells" = some (some (.ref f2))) (l2 : K.lookup f2 = some ⟨oc2, od2, .func (PySem.W.fnOf "_law_cells" "_law_cells" (defArgs s_l_cells) (defBody s_l_cells) (defScope s_l_cells) .none kV2 dc2 pm2 an2 cd2 ct2), sl2⟩) (c2 : PySem.W.codeIn K cd2 "_law_cells" = true) (k2 : PySem.W.keepIn K (.ref f2) = true)
    (a3 : PySem.W.nsIn K mainGlobals "_law_next" = some (some (.ref f3))) (l3 : K.lookup f3 = some ⟨oc3, od3, .func (PySem.W.fnOf "_law_next" "_law_next" (defArgs s_l_next) (defBody s_l_next) (defScope s_l_next) .none kV3 dc3 pm3 an3 cd3 ct3), sl3⟩) (c3 : PySem.W.codeIn K cd3 "_law_next" = true) (k3 : PySem.W.keepIn K (.ref f3) = true)
    (a4 : PySem.W.nsIn K mainGlobals "_law_named" = some (some (.ref f4))) (l4 : K.lookup f4 = some ⟨oc4, od4, .func (PySem.W.fnOf "_law_named" "_law_named" (defArgs s_l_named) (defBody s_l_named) (defScope s_l_named) .none kV4 dc4 pm4 an4 cd4 ct4), sl4⟩) (c4 : PySem.W.codeIn K cd4 "_law_named" = true) (k4 : PySem.W.keepIn K (.ref f4) = true)
    (a5 : PySem.W.nsIn K mainGlobals "_law_drawn" = some (some (.ref f5))) (l5 : K.lookup f5 = some ⟨oc5, od5, .func (PySem.W.fnOf "_law_drawn" "_law_drawn" (defArgs s_l_drawn) (defBody s_l_drawn) (defScope s_l_drawn) .none kV5 dc5 pm5 an5 cd5 ct5), sl5⟩) (c5 : PySem.W.codeIn K cd5 "_law_drawn" = true) (k5 : PySem.W.keepIn K (.ref f5) = true)
    (a6 : PySem.W.nsIn K mainGlobals "_law_large" = some (some (.ref f6))) (l6 : K.lookup f6 = some ⟨oc6, od6, .func (PySem.W.fnOf "_law_large" "_law_large" (defArgs s_l_large) (defBody s_l_large) (defScope s_l_large) .none kV6 dc6 pm6 an6 cd6 ct6), sl6⟩) (c6 : PySem.W.codeIn K cd6 "_law_large" = true) (k6 : PySem.W.keepIn K (.ref f6) = true)
    (a7 : PySem.W.nsIn K mainGlobals "_law_walked" = some (some (.ref f7))) (l7 : K.lookup f7 = some ⟨oc7, od7, .func (PySem.W.fnOf "_law_walked" "_law_walked" (defArgs s_l_walked) (defBody s_l_walked) (defScope s_l_walked) .none kV7 dc7 pm7 an7 cd7 ct7), sl7⟩) (c7 : PySem.W.codeIn K cd7 "_law_walked" = true) (k7 : PySem.W.keepIn K (.ref f7) = true)
    (a8 : PySem.W.nsIn K mainGlobals "_law_among" = some (some (.ref f8))) (l8 : K.lookup f8 = some ⟨oc8, od8, .func (PySem.W.fnOf "_law_among" "_law_among" (defArgs s_l_among) (defBody s_l_among) (defScope s_l_among) .none kV8 dc8 pm8 an8 cd8 ct8), sl8⟩) (c8 : PySem.W.codeIn K cd8 "_law_among" = true) (k8 : PySem.W.keepIn K (.ref f8) = true)
    (a9 : PySem.W.nsIn K mainGlobals "_law_string" = some (some (.ref f9))) (l9 : K.lookup f9 = some ⟨oc9, od9, .func (PySem.W.fnOf "_law_string" "_law_string" (defArgs s_l_string) (defBody s_l_string) (defScope s_l_string) .none kV9 dc9 pm9 an9 cd9 ct9), sl9⟩) (c9 : PySem.W.codeIn K cd9 "_law_string" = true) (k9 : PySem.W.keepIn K (.ref f9) = true)
    (a10 : PySem.W.nsIn K mainGlobals "_law_is_good" = some (some (.ref f10))) (l10 : K.lookup f10 = some ⟨oc10, od10, .func (PySem.W.fnOf "_law_is_good" "_law_is_good" (defArgs s_l_is_good) (defBody s_l_is_good) (defScope s_l_is_good) .none kV10 dc10 pm10 an10 cd10 ct10), sl10⟩) (c10 : PySem.W.codeIn K cd10 "_law_is_good" = true) (k10 : PySem.W.keepIn K (.ref f10) = true)
    (a11 : PySem.W.nsIn K mainGlobals "_law_put" = some (some (.ref f11))) (l11 : K.lookup f11 = some ⟨oc11, od11, .func (PySem.W.fnOf "_law_put" "_law_put" (defArgs s_l_put) (defBody s_l_put) (defScope s_l_put) .none kV11 dc11 pm11 an11 cd11 ct11), sl11⟩) (c11 : PySem.W.codeIn K cd11 "_law_put" = true) (k11 : PySem.W.keepIn K (.ref f11) = true)
    (a12 : PySem.W.nsIn K mainGlobals "_law_refused" = some (some (.ref f12))) (l12 : K.lookup f12 = some ⟨oc12, od12, .func (PySem.W.fnOf "_law_refused" "_law_refused" (defArgs s_l_refused) (defBody s_l_refused) (defScope s_l_refused) .none kV12 dc12 pm12 an12 cd12 ct12), sl12⟩) (c12 : PySem.W.codeIn K cd12 "_law_refused" = true) (k12 : PySem.W.keepIn K (.ref f12) = true)
    (a13 : PySem.W.nsIn K mainGlobals "_law_as_own" = some (some (.ref f13))) (l13 : K.lookup f13 = some ⟨oc13, od13, .func (PySem.W.fnOf "_law_as_own" "_law_as_own" (defArgs s_l_as_own) (defBody s_l_as_own) (defScope s_l_as_own) .none kV13 dc13 pm13 an13 cd13 ct13), sl13⟩) (c13 : PySem.W.codeIn K cd13 "_law_as_own" = true) (k13 : PySem.W.keepIn K (.ref f13) = true)
    (a14 : PySem.W.nsIn K mainGlobals "_law_asked" = some (some (.ref f14))) (l14 : K.lookup f14 = some ⟨oc14, od14, .func (PySem.W.fnOf "_law_asked" "_law_asked" (defArgs s_l_asked) (defBody s_l_asked) (defScope s_l_asked) .none kV14 dc14 pm14 an14 cd14 ct14), sl14⟩) (c14 : PySem.W.codeIn K cd14 "_law_asked" = true) (k14 : PySem.W.keepIn K (.ref f14) = true)
    (a15 : PySem.W.nsIn K mainGlobals "_law_strangers" = some (some (.ref f15))) (l15 : K.lookup f15 = some ⟨oc15, od15, .func (PySem.W.fnOf "_law_strangers" "_law_strangers" (defArgs s_l_strangers) (defBody s_l_strangers) (defScope s_l_strangers) .none kV15 dc15 pm15 an15 cd15 ct15), sl15⟩) (c15 : PySem.W.codeIn K cd15 "_law_strangers" = true) (k15 : PySem.W.keepIn K (.ref f15) = true)
    (a16 : PySem.W.nsIn K mainGlobals "_law_spelt" = some (some (.ref f16))) (l16 : K.lookup f16 = some ⟨oc16, od16, .func (PySem.W.fnOf "_law_spelt" "_law_spelt" (defArgs s_l_spelt) (defBody s_l_spelt) (defScope s_l_spelt) .none kV16 dc16 pm16 an16 cd16 ct16), sl16⟩) (c16 : PySem.W.codeIn K cd16 "_law_spelt" = true) (k16 : PySem.W.keepIn K (.ref f16) = true)
    (a17 : PySem.W.nsIn K mainGlobals "law" = some (some (.ref f17))) (l17 : K.lookup f17 = some ⟨oc17, od17, .func (PySem.W.fnOf "law" "law" (defArgs s_law) (defBody s_law) (defScope s_law) .none kV17 dc17 pm17 an17 cd17 ct17), sl17⟩) (c17 : PySem.W.codeIn K cd17 "law" = true) (k17 : PySem.W.keepIn K (.ref f17) = true)
    (a18 : PySem.W.findIn K (.ref c_Order) "__init__" = some (some (.ref f18))) (i18 : PySem.W.isFn K (.ref f18) = true) (l18 : K.lookup f18 = some ⟨oc18, od18, .func (PySem.W.fnOf "__init__" "Order.__init__" (defArgs s_Order___init__) (defBody s_Order___init__) (defScope s_Order___init__) .none kV18 dc18 pm18 an18 cd18 ct18), sl18⟩) (c18 : PySem.W.codeIn K cd18 "Order.__init__" = true) (k18 : PySem.W.keepIn K (.ref f18) = true)
    (a19 : PySem.W.findIn K (.ref c_Order) "put" = some (some (.ref f19))) (i19 : PySem.W.isFn K (.ref f19) = true) (l19 : K.lookup f19 = some ⟨oc19, od19, .func (PySem.W.fnOf "put" "Order.put" (defArgs s_Order_put) (defBody s_Order_put) (defScope s_Order_put) .none kV19 dc19 pm19 an19 cd19 ct19), sl19⟩) (c19 : PySem.W.codeIn K cd19 "Order.put" = true) (k19 : PySem.W.keepIn K (.ref f19) = true)
    (a20 : PySem.W.findIn K (.ref c_Order) "__iter__" = some (some (.ref f20))) (i20 : PySem.W.isFn K (.ref f20) = true) (l20 : K.lookup f20 = some ⟨oc20, od20, .func (PySem.W.fnOf "__iter__" "Order.__iter__" (defArgs s_Order___iter__) (defBody s_Order___iter__) (defScope s_Order___iter__) .none kV20 dc20 pm20 an20 cd20 ct20), sl20⟩) (c20 : PySem.W.codeIn K cd20 "Order.__iter__" = true) (k20 : PySem.W.keepIn K (.ref f20) = true)
    (a21 : PySem.W.findIn K (.ref c_Order) "names" = some (some (.ref f21))) (i21 : PySem.W.isFn K (.ref f21) = true) (l21 : K.lookup f21 = some ⟨oc21, od21, .func (PySem.W.fnOf "names" "Order.names" (defArgs s_Order_names) (defBody s_Order_names) (defScope s_Order_names) .none kV21 dc21 pm21 an21 cd21 ct21), sl21⟩) (c21 : PySem.W.codeIn K cd21 "Order.names" = true) (k21 : PySem.W.keepIn K (.ref f21) = true)
    (a22 : PySem.W.findIn K (.ref c_Order) "has" = some (some (.ref f22))) (i22 : PySem.W.isFn K (.ref f22) = true) (l22 : K.lookup f22 = some ⟨oc22, od22, .func (PySem.W.fnOf "has" "Order.has" (defArgs s_Order_has) (defBody s_Order_has) (defScope s_Order_has) .none kV22 dc22 pm22 an22 cd22 ct22), sl22⟩) (c22 : PySem.W.codeIn K cd22 "Order.has" = true) (k22 : PySem.W.keepIn K (.ref f22) = true)
    (a23 : PySem.W.findIn K (.ref c_Order) "under" = some (some (.ref f23))) (i23 : PySem.W.isFn K (.ref f23) = true) (l23 : K.lookup f23 = some ⟨oc23, od23, .func (PySem.W.fnOf "under" "Order.under" (defArgs s_Order_under) (defBody s_Order_under) (defScope s_Order_under) .none kV23 dc23 pm23 an23 cd23 ct23), sl23⟩) (c23 : PySem.W.codeIn K cd23 "Order.under" = true) (k23 : PySem.W.keepIn K (.ref f23) = true)
    (a24 : PySem.W.findIn K (.ref c_Order) "is_under" = some (some (.ref f24))) (i24 : PySem.W.isFn K (.ref f24) = true) (l24 : K.lookup f24 = some ⟨oc24, od24, .func (PySem.W.fnOf "is_under" "Order.is_under" (defArgs s_Order_is_under) (defBody s_Order_is_under) (defScope s_Order_is_under) .none kV24 dc24 pm24 an24 cd24 ct24), sl24⟩) (c24 : PySem.W.codeIn K cd24 "Order.is_under" = true) (k24 : PySem.W.keepIn K (.ref f24) = true)
    (a25 : PySem.W.findIn K (.ref c_Order) "nearest" = some (some (.ref f25))) (i25 : PySem.W.isFn K (.ref f25) = true) (l25 : K.lookup f25 = some ⟨oc25, od25, .func (PySem.W.fnOf "nearest" "Order.nearest" (defArgs s_Order_nearest) (defBody s_Order_nearest) (defScope s_Order_nearest) .none kV25 dc25 pm25 an25 cd25 ct25), sl25⟩) (c25 : PySem.W.codeIn K cd25 "Order.nearest" = true) (k25 : PySem.W.keepIn K (.ref f25) = true)
    (a26 : PySem.W.findIn K (.ref c_Order) "checked" = some (some (.ref f26))) (i26 : PySem.W.isFn K (.ref f26) = true) (l26 : K.lookup f26 = some ⟨oc26, od26, .func (PySem.W.fnOf "checked" "Order.checked" (defArgs s_Order_checked) (defBody s_Order_checked) (defScope s_Order_checked) .none kV26 dc26 pm26 an26 cd26 ct26), sl26⟩) (c26 : PySem.W.codeIn K cd26 "Order.checked" = true) (k26 : PySem.W.keepIn K (.ref f26) = true)
    (ac_PartError : PySem.W.nsIn K mainGlobals "PartError" = some (some (.ref c_PartError)))
    (ec_PartError : PySem.W.subIn K (.ref c_PartError) (.type "BaseException") = some true)
    (tc_PartError : PySem.W.typeIn K (.ref c_PartError) = some (.type "type"))
    (ic_PartError : PySem.W.isClsIn K c_PartError = true)
    (ac_BadName : PySem.W.nsIn K mainGlobals "BadName" = some (some (.ref c_BadName)))
    (ec_BadName : PySem.W.subIn K (.ref c_BadName) (.type "BaseException") = some true)
    (tc_BadName : PySem.W.typeIn K (.ref c_BadName) = some (.type "type"))
    (ic_BadName : PySem.W.isClsIn K c_BadName = true)
    {nm_BadName q_BadName : Str} {ns_BadName : Addr} {bs_BadName : List Value} {sn_BadName : List Str} {sub_BadName : List Value} {ab_BadName : Bool} {col_BadName : Option Bool} {dd_BadName : Option Addr} {m0_BadName m1_BadName m2_BadName m3_BadName m5_BadName : Option Value}
    (xL_BadName : K.lookup c_BadName = some (excClassObj nm_BadName q_BadName c_BadName ns_BadName bs_BadName [.ref c_PartError, .type "ValueError", .type "Exception", .type "BaseException", .type "object"] true sn_BadName sub_BadName ab_BadName col_BadName dd_BadName m0_BadName m1_BadName m2_BadName m3_BadName m5_BadName "ValueError.__new__"))
    (sa_BadName : PySem.W.findIn K (.ref c_BadName) "__setattr__" = some (some (.builtin "object.__setattr__")))
    (ga_BadName : PySem.W.findIn K (.ref c_BadName) "__getattribute__" = some (some (.builtin "BaseException.__getattribute__")))
    (gg_BadName : PySem.W.findIn K (.ref c_BadName) "__getattr__" = some none)
    (gk_BadName : PySem.W.findIn K (.ref c_BadName) "__class__" = some (some (.builtin "object.__class__")))
    (gm_BadName : PySem.W.mroIn K c_BadName (.type "object") = some true)
    (n_name_BadName : PySem.W.findIn K (.ref c_BadName) "name" = some none)
    (ai_BadName : PySem.W.findIn K (.ref c_BadName) "__init__" = some (some (.ref fi_BadName)))
    (ti_BadName : PySem.W.typeIn K (.ref fi_BadName) = some (.type "function"))
    {odi_BadName ani_BadName : Option Addr} {sli_BadName : Array (Option Value)} {oci_BadName kVi_BadName dci_BadName pmi_BadName cdi_BadName cti_BadName : Value}
    (li_BadName : K.lookup fi_BadName = some ⟨oci_BadName, odi_BadName, .func (PySem.W.fnOf "__init__" "BadName.__init__" (defArgs (inClass (topS 2) 0)) (defBody (inClass (topS 2) 0)) (defScope (inClass (topS 2) 0)) .none kVi_BadName dci_BadName pmi_BadName ani_BadName cdi_BadName cti_BadName), sli_BadName⟩)
    (ci_BadName : PySem.W.codeIn K cdi_BadName "BadName.__init__" = true)
    (ki_BadName : PySem.W.keepIn K (.ref fi_BadName) = true)
    (kc_BadName : PySem.W.keepIn K (.ref c_BadName) = true)
    (hc_BadName : PySem.W.hasDictIn K c_BadName = true)
    (ac_Taken : PySem.W.nsIn K mainGlobals "Taken" = some (some (.ref c_Taken)))
    (ec_Taken : PySem.W.subIn K (.ref c_Taken) (.type "BaseException") = some true)
    (tc_Taken : PySem.W.typeIn K (.ref c_Taken) = some (.type "type"))
    (ic_Taken : PySem.W.isClsIn K c_Taken = true)
    {nm_Taken q_Taken : Str} {ns_Taken : Addr} {bs_Taken : List Value} {sn_Taken : List Str} {sub_Taken : List Value} {ab_Taken : Bool} {col_Taken : Option Bool} {dd_Taken : Option Addr} {m0_Taken m1_Taken m2_Taken m3_Taken m5_Taken : Option Value}
    (xL_Taken : K.lookup c_Taken = some (excClassObj nm_Taken q_Taken c_Taken ns_Taken bs_Taken [.ref c_PartError, .type "ValueError", .type "Exception", .type "BaseException", .type "object"] true sn_Taken sub_Taken ab_Taken col_Taken dd_Taken m0_Taken m1_Taken m2_Taken m3_Taken m5_Taken "ValueError.__new__"))
    (sa_Taken : PySem.W.findIn K (.ref c_Taken) "__setattr__" = some (some (.builtin "object.__setattr__")))
    (ga_Taken : PySem.W.findIn K (.ref c_Taken) "__getattribute__" = some (some (.builtin "BaseException.__getattribute__")))
    (gg_Taken : PySem.W.findIn K (.ref c_Taken) "__getattr__" = some none)
    (gk_Taken : PySem.W.findIn K (.ref c_Taken) "__class__" = some (some (.builtin "object.__class__")))
    (gm_Taken : PySem.W.mroIn K c_Taken (.type "object") = some true)
    (n_name_Taken : PySem.W.findIn K (.ref c_Taken) "name" = some none)
    (ai_Taken : PySem.W.findIn K (.ref c_Taken) "__init__" = some (some (.ref fi_Taken)))
    (ti_Taken : PySem.W.typeIn K (.ref fi_Taken) = some (.type "function"))
    {odi_Taken ani_Taken : Option Addr} {sli_Taken : Array (Option Value)} {oci_Taken kVi_Taken dci_Taken pmi_Taken cdi_Taken cti_Taken : Value}
    (li_Taken : K.lookup fi_Taken = some ⟨oci_Taken, odi_Taken, .func (PySem.W.fnOf "__init__" "Taken.__init__" (defArgs (inClass (topS 3) 0)) (defBody (inClass (topS 3) 0)) (defScope (inClass (topS 3) 0)) .none kVi_Taken dci_Taken pmi_Taken ani_Taken cdi_Taken cti_Taken), sli_Taken⟩)
    (ci_Taken : PySem.W.codeIn K cdi_Taken "Taken.__init__" = true)
    (ki_Taken : PySem.W.keepIn K (.ref fi_Taken) = true)
    (kc_Taken : PySem.W.keepIn K (.ref c_Taken) = true)
    (hc_Taken : PySem.W.hasDictIn K c_Taken = true)
    (ac_Unknown : PySem.W.nsIn K mainGlobals "Unknown" = some (some (.ref c_Unknown)))
    (ec_Unknown : PySem.W.subIn K (.ref c_Unknown) (.type "BaseException") = some true)
    (tc_Unknown : PySem.W.typeIn K (.ref c_Unknown) = some (.type "type"))
    (ic_Unknown : PySem.W.isClsIn K c_Unknown = true)
    {nm_Unknown q_Unknown : Str} {ns_Unknown : Addr} {bs_Unknown : List Value} {sn_Unknown : List Str} {sub_Unknown : List Value} {ab_Unknown : Bool} {col_Unknown : Option Bool} {dd_Unknown : Option Addr} {m0_Unknown m1_Unknown m2_Unknown m3_Unknown m5_Unknown : Option Value}
    (xL_Unknown : K.lookup c_Unknown = some (excClassObj nm_Unknown q_Unknown c_Unknown ns_Unknown bs_Unknown [.ref c_PartError, .type "ValueError", .type "Exception", .type "BaseException", .type "object"] true sn_Unknown sub_Unknown ab_Unknown col_Unknown dd_Unknown m0_Unknown m1_Unknown m2_Unknown m3_Unknown m5_Unknown "ValueError.__new__"))
    (sa_Unknown : PySem.W.findIn K (.ref c_Unknown) "__setattr__" = some (some (.builtin "object.__setattr__")))
    (ga_Unknown : PySem.W.findIn K (.ref c_Unknown) "__getattribute__" = some (some (.builtin "BaseException.__getattribute__")))
    (gg_Unknown : PySem.W.findIn K (.ref c_Unknown) "__getattr__" = some none)
    (gk_Unknown : PySem.W.findIn K (.ref c_Unknown) "__class__" = some (some (.builtin "object.__class__")))
    (gm_Unknown : PySem.W.mroIn K c_Unknown (.type "object") = some true)
    (n_name_Unknown : PySem.W.findIn K (.ref c_Unknown) "name" = some none)
    (ai_Unknown : PySem.W.findIn K (.ref c_Unknown) "__init__" = some (some (.ref fi_Unknown)))
    (ti_Unknown : PySem.W.typeIn K (.ref fi_Unknown) = some (.type "function"))
    {odi_Unknown ani_Unknown : Option Addr} {sli_Unknown : Array (Option Value)} {oci_Unknown kVi_Unknown dci_Unknown pmi_Unknown cdi_Unknown cti_Unknown : Value}
    (li_Unknown : K.lookup fi_Unknown = some ⟨oci_Unknown, odi_Unknown, .func (PySem.W.fnOf "__init__" "Unknown.__init__" (defArgs (inClass (topS 4) 0)) (defBody (inClass (topS 4) 0)) (defScope (inClass (topS 4) 0)) .none kVi_Unknown dci_Unknown pmi_Unknown ani_Unknown cdi_Unknown cti_Unknown), sli_Unknown⟩)
    (ci_Unknown : PySem.W.codeIn K cdi_Unknown "Unknown.__init__" = true)
    (ki_Unknown : PySem.W.keepIn K (.ref fi_Unknown) = true)
    (kc_Unknown : PySem.W.keepIn K (.ref c_Unknown) = true)
    (hc_Unknown : PySem.W.hasDictIn K c_Unknown = true)
    (ac_Repeated : PySem.W.nsIn K mainGlobals "Repeated" = some (some (.ref c_Repeated)))
    (ec_Repeated : PySem.W.subIn K (.ref c_Repeated) (.type "BaseException") = some true)
    (tc_Repeated : PySem.W.typeIn K (.ref c_Repeated) = some (.type "type"))
    (ic_Repeated : PySem.W.isClsIn K c_Repeated = true)
    {nm_Repeated q_Repeated : Str} {ns_Repeated : Addr} {bs_Repeated : List Value} {sn_Repeated : List Str} {sub_Repeated : List Value} {ab_Repeated : Bool} {col_Repeated : Option Bool} {dd_Repeated : Option Addr} {m0_Repeated m1_Repeated m2_Repeated m3_Repeated m5_Repeated : Option Value}
    (xL_Repeated : K.lookup c_Repeated = some (excClassObj nm_Repeated q_Repeated c_Repeated ns_Repeated bs_Repeated [.ref c_PartError, .type "ValueError", .type "Exception", .type "BaseException", .type "object"] true sn_Repeated sub_Repeated ab_Repeated col_Repeated dd_Repeated m0_Repeated m1_Repeated m2_Repeated m3_Repeated m5_Repeated "ValueError.__new__"))
    (sa_Repeated : PySem.W.findIn K (.ref c_Repeated) "__setattr__" = some (some (.builtin "object.__setattr__")))
    (ga_Repeated : PySem.W.findIn K (.ref c_Repeated) "__getattribute__" = some (some (.builtin "BaseException.__getattribute__")))
    (gg_Repeated : PySem.W.findIn K (.ref c_Repeated) "__getattr__" = some none)
    (gk_Repeated : PySem.W.findIn K (.ref c_Repeated) "__class__" = some (some (.builtin "object.__class__")))
    (gm_Repeated : PySem.W.mroIn K c_Repeated (.type "object") = some true)
    (n_name_Repeated : PySem.W.findIn K (.ref c_Repeated) "name" = some none)
    (ai_Repeated : PySem.W.findIn K (.ref c_Repeated) "__init__" = some (some (.ref fi_Repeated)))
    (ti_Repeated : PySem.W.typeIn K (.ref fi_Repeated) = some (.type "function"))
    {odi_Repeated ani_Repeated : Option Addr} {sli_Repeated : Array (Option Value)} {oci_Repeated kVi_Repeated dci_Repeated pmi_Repeated cdi_Repeated cti_Repeated : Value}
    (li_Repeated : K.lookup fi_Repeated = some ⟨oci_Repeated, odi_Repeated, .func (PySem.W.fnOf "__init__" "Repeated.__init__" (defArgs (inClass (topS 5) 0)) (defBody (inClass (topS 5) 0)) (defScope (inClass (topS 5) 0)) .none kVi_Repeated dci_Repeated pmi_Repeated ani_Repeated cdi_Repeated cti_Repeated), sli_Repeated⟩)
    (ci_Repeated : PySem.W.codeIn K cdi_Repeated "Repeated.__init__" = true)
    (ki_Repeated : PySem.W.keepIn K (.ref fi_Repeated) = true)
    (kc_Repeated : PySem.W.keepIn K (.ref c_Repeated) = true)
    (hc_Repeated : PySem.W.hasDictIn K c_Repeated = true)
    (ss_BadName_BadName : PySem.W.subIn K (.ref c_BadName) (.ref c_BadName) = some true)
    (ss_BadName_PartError : PySem.W.subIn K (.ref c_BadName) (.ref c_PartError) = some true)
    (ss_BadName_Repeated : PySem.W.subIn K (.ref c_BadName) (.ref c_Repeated) = some false)
    (ss_BadName_Taken : PySem.W.subIn K (.ref c_BadName) (.ref c_Taken) = some false)
    (ss_BadName_Unknown : PySem.W.subIn K (.ref c_BadName) (.ref c_Unknown) = some false)
    (sv_BadName : PySem.W.subIn K (.ref c_BadName) (.type "ValueError") = some true)
    (ss_Taken_BadName : PySem.W.subIn K (.ref c_Taken) (.ref c_BadName) = some false)
    (ss_Taken_PartError : PySem.W.subIn K (.ref c_Taken) (.ref c_PartError) = some true)
    (ss_Taken_Repeated : PySem.W.subIn K (.ref c_Taken) (.ref c_Repeated) = some false)
    (ss_Taken_Taken : PySem.W.subIn K (.ref c_Taken) (.ref c_Taken) = some true)
    (ss_Taken_Unknown : PySem.W.subIn K (.ref c_Taken) (.ref c_Unknown) = some false)
    (sv_Taken : PySem.W.subIn K (.ref c_Taken) (.type "ValueError") = some true)
    (ss_Unknown_BadName : PySem.W.subIn K (.ref c_Unknown) (.ref c_BadName) = some false)
    (ss_Unknown_PartError : PySem.W.subIn K (.ref c_Unknown) (.ref c_PartError) = some true)
    (ss_Unknown_Repeated : PySem.W.subIn K (.ref c_Unknown) (.ref c_Repeated) = some false)
    (ss_Unknown_Taken : PySem.W.subIn K (.ref c_Unknown) (.ref c_Taken) = some false)
    (ss_Unknown_Unknown : PySem.W.subIn K (.ref c_Unknown) (.ref c_Unknown) = some true)
    (sv_Unknown : PySem.W.subIn K (.ref c_Unknown) (.type "ValueError") = some true)
    (ss_Repeated_BadName : PySem.W.subIn K (.ref c_Repeated) (.ref c_BadName) = some false)
    (ss_Repeated_PartError : PySem.W.subIn K (.ref c_Repeated) (.ref c_PartError) = some true)
    (ss_Repeated_Repeated : PySem.W.subIn K (.ref c_Repeated) (.ref c_Repeated) = some true)
    (ss_Repeated_Taken : PySem.W.subIn K (.ref c_Repeated) (.ref c_Taken) = some false)
    (ss_Repeated_Unknown : PySem.W.subIn K (.ref c_Repeated) (.ref c_Unknown) = some false)
    (sv_Repeated : PySem.W.subIn K (.ref c_Repeated) (.type "ValueError") = some true)
    (xn : PySem.W.specialIn K (.builtin "object.__class__") "__get__" = some (some (.builtin "getset_descriptor.__get__"))) (xt : PySem.W.takesIn K (.builtin "object.__class__") = some true)
    (z_ValueError : PySem.W.nsIn K mainGlobals "ValueError" = some none)
    (z_abs : PySem.W.nsIn K mainGlobals "abs" = some none)
    (z_bool : PySem.W.nsIn K mainGlobals "bool" = some none)
    (z_int : PySem.W.nsIn K mainGlobals "int" = some none)
    (z_isinstance : PySem.W.nsIn K mainGlobals "isinstance" = some none)
    (z_iter : PySem.W.nsIn K mainGlobals "iter" = some none)
    (z_len : PySem.W.nsIn K mainGlobals "len" = some none)
    (z_list : PySem.W.nsIn K mainGlobals "list" = some none)
    (z_max : PySem.W.nsIn K mainGlobals "max" = some none)
    (z_range : PySem.W.nsIn K mainGlobals "range" = some none)
    (z_sorted : PySem.W.nsIn K mainGlobals "sorted" = some none)
    (z_str : PySem.W.nsIn K mainGlobals "str" = some none)
    {ut_NAME_LETTERS : Tok} (y_NAME_LETTERS : PySem.W.nsIn K mainGlobals "NAME_LETTERS" = some (some (.str "abcdefghijklmnopqrstuvwxyz" ut_NAME_LETTERS)))
    {ut_NAME_DIGITS : Tok} (y_NAME_DIGITS : PySem.W.nsIn K mainGlobals "NAME_DIGITS" = some (some (.str "0123456789" ut_NAME_DIGITS)))
    {ut_NAME_LENGTH : Tok} (y_NAME_LENGTH : PySem.W.nsIn K mainGlobals "NAME_LENGTH" = some (some (.int 6 ut_NAME_LENGTH))) :
    ∃ fd : FuncData, (∀ (s : Shared) (v : Value), BindsTo s fd ⟨[v], []⟩ [("script", v)]) ∧ ∀ base : Heap, K.In base → base.Ns mainGlobals mg → FnOk l.prog w K mg base CX0 7 fa fd ["script"] (sp_law K) := by
  have e := hfa.symm.trans (PySem.W.mg_of X G a17)
  cases e
  have F1 := fun_mk (st := s_is_name) l1 c1 k1
  have b1 := F1.binds (ps := ["value"]) fun _ _ _ _ _ _ us hl => match us, hl with | [_], _ => rfl
  have F2 := fun_mk (st := s_l_cells) l2 c2 k2
  have b2 := F2.binds (ps := ["script"]) fun _ _ _ _ _ _ us hl => match us, hl with | [_], _ => rfl
  have F3 := fun_mk (st := s_l_next) l3 c3 k3
  have b3 := F3.binds (ps := ["feed", "many"]) fun _ _ _ _ _ _ us hl => match us, hl with | [_, _], _ => rfl
  have F4 := fun_mk (st := s_l_named) l4 c4 k4
  have b4 := F4.binds (ps := ["feed", "count"]) fun _ _ _ _ _ _ us hl => match us, hl with | [_, _], _ => rfl
  have F5 := fun_mk (st := s_l_drawn) l5 c5 k5
  have b5 := F5.binds (ps := ["feed"]) fun _ _ _ _ _ _ us hl => match us, hl with | [_], _ => rfl
  have F6 := fun_mk (st := s_l_large) l6 c6 k6
  have b6 := F6.binds (ps := ["feed"]) fun _ _ _ _ _ _ us hl => match us, hl with | [_], _ => rfl
  have F7 := fun_mk (st := s_l_walked) l7 c7 k7
  have b7 := F7.binds (ps := ["web"]) fun _ _ _ _ _ _ us hl => match us, hl with | [_], _ => rfl
  have F8 := fun_mk (st := s_l_among) l8 c8 k8
  have b8 := F8.binds (ps := ["names", "mask"]) fun _ _ _ _ _ _ us hl => match us, hl with | [_, _], _ => rfl
  have F9 := fun_mk (st := s_l_string) l9 c9 k9
  have b9 := F9.binds (ps := ["feed"]) fun _ _ _ _ _ _ us hl => match us, hl with | [_], _ => rfl
  have F10 := fun_mk (st := s_l_is_good) l10 c10 k10
  have b10 := F10.binds (ps := ["word"]) fun _ _ _ _ _ _ us hl => match us, hl with | [_], _ => rfl
  have F11 := fun_mk (st := s_l_put) l11 c11 k11
  have b11 := F11.binds (ps := ["order", "name", "parents"]) fun _ _ _ _ _ _ us hl => match us, hl with | [_, _, _], _ => rfl
  have F12 := fun_mk (st := s_l_refused) l12 c12 k12
  have b12 := F12.binds (ps := ["names", "web", "i", "draws"]) fun _ _ _ _ _ _ us hl => match us, hl with | [_, _, _, _], _ => rfl
  have F13 := fun_mk (st := s_l_as_own) l13 c13 k13
  have b13 := F13.binds (ps := ["order", "names", "masks"]) fun _ _ _ _ _ _ us hl => match us, hl with | [_, _, _], _ => rfl
  have F14 := fun_mk (st := s_l_asked) l14 c14 k14
  have b14 := F14.binds (ps := ["order", "which", "words"]) fun _ _ _ _ _ _ us hl => match us, hl with | [_, _, _], _ => rfl
  have F15 := fun_mk (st := s_l_strangers) l15 c15 k15
  have b15 := F15.binds (ps := ["order", "names", "count", "draw"]) fun _ _ _ _ _ _ us hl => match us, hl with | [_, _, _, _], _ => rfl
  have F16 := fun_mk (st := s_l_spelt) l16 c16 k16
  have b16 := F16.binds (ps := ["order", "names", "words", "count"]) fun _ _ _ _ _ _ us hl => match us, hl with | [_, _, _, _], _ => rfl
  have F17 := fun_mk (st := s_law) l17 c17 k17
  have b17 := F17.binds (ps := ["script"]) fun _ _ _ _ _ _ us hl => match us, hl with | [_], _ => rfl
  have F18 := fun_mk (st := s_Order___init__) l18 c18 k18
  have b18 := F18.binds (ps := ["self"]) fun _ _ _ _ _ _ us hl => match us, hl with | [_], _ => rfl
  have F19 := fun_mk (st := s_Order_put) l19 c19 k19
  have b19 := F19.binds (ps := ["self", "name", "parents"]) fun _ _ _ _ _ _ us hl => match us, hl with | [_, _, _], _ => rfl
  have F20 := fun_mk (st := s_Order___iter__) l20 c20 k20
  have b20 := F20.binds (ps := ["self"]) fun _ _ _ _ _ _ us hl => match us, hl with | [_], _ => rfl
  have F21 := fun_mk (st := s_Order_names) l21 c21 k21
  have b21 := F21.binds (ps := ["self"]) fun _ _ _ _ _ _ us hl => match us, hl with | [_], _ => rfl
  have F22 := fun_mk (st := s_Order_has) l22 c22 k22
  have b22 := F22.binds (ps := ["self", "name"]) fun _ _ _ _ _ _ us hl => match us, hl with | [_, _], _ => rfl
  have F23 := fun_mk (st := s_Order_under) l23 c23 k23
  have b23 := F23.binds (ps := ["self", "name"]) fun _ _ _ _ _ _ us hl => match us, hl with | [_, _], _ => rfl
  have F24 := fun_mk (st := s_Order_is_under) l24 c24 k24
  have b24 := F24.binds (ps := ["self", "low", "high"]) fun _ _ _ _ _ _ us hl => match us, hl with | [_, _, _], _ => rfl
  have F25 := fun_mk (st := s_Order_nearest) l25 c25 k25
  have b25 := F25.binds (ps := ["self", "name"]) fun _ _ _ _ _ _ us hl => match us, hl with | [_, _], _ => rfl
  have F26 := fun_mk (st := s_Order_checked) l26 c26 k26
  have b26 := F26.binds (ps := ["self", "names"]) fun _ _ _ _ _ _ us hl => match us, hl with | [_, _], _ => rfl
  have Fi_BadName := fun_mk (st := inClass (topS 2) 0) li_BadName ci_BadName ki_BadName
  have bi_BadName := Fi_BadName.binds (ps := ["self", "name"]) fun _ _ _ _ _ _ us hl => match us, hl with | [_, _], _ => rfl
  have Fi_Taken := fun_mk (st := inClass (topS 3) 0) li_Taken ci_Taken ki_Taken
  have bi_Taken := Fi_Taken.binds (ps := ["self", "name"]) fun _ _ _ _ _ _ us hl => match us, hl with | [_, _], _ => rfl
  have Fi_Unknown := fun_mk (st := inClass (topS 4) 0) li_Unknown ci_Unknown ki_Unknown
  have bi_Unknown := Fi_Unknown.binds (ps := ["self", "name"]) fun _ _ _ _ _ _ us hl => match us, hl with | [_, _], _ => rfl
  have Fi_Repeated := fun_mk (st := inClass (topS 5) 0) li_Repeated ci_Repeated ki_Repeated
  have bi_Repeated := Fi_Repeated.binds (ps := ["self", "name"]) fun _ _ _ _ _ _ us hl => match us, hl with | [_, _], _ => rfl
  exact ⟨_, fun s v => .of_eq rfl, fun base _ _ => ok_law ⟨_, _, F1, PySem.W.mg_of X G a1, b1, _, _, F2, PySem.W.mg_of X G a2, b2, _, _, F3, PySem.W.mg_of X G a3, b3, _, _, F4, PySem.W.mg_of X G a4, b4, _, _, F5, PySem.W.mg_of X G a5, b5, _, _, F6, PySem.W.mg_of X G a6, b6, _, _, F7, PySem.W.mg_of X G a7, b7, _, _, F8, PySem.W.mg_of X G a8, b8, _, _, F9, PySem.W.mg_of X G a9, b9, _, _, F10, PySem.W.mg_of X G a10, b10, _, _, F11, PySem.W.mg_of X G a11, b11, _, _, F12, PySem.W.mg_of X G a12, b12, _, _, F13, PySem.W.mg_of X G a13, b13, _, _, F14, PySem.W.mg_of X G a14, b14, _, _, F15, PySem.W.mg_of X G a15, b15, _, _, F16, PySem.W.mg_of X G a16, b16, _, _, F17, PySem.W.mg_of X G a17, b17, _, _, F18, b18, _, _, F19, b19, _, _, F20, b20, _, _, F21, b21, _, _, F22, b22, _, _, F23, b23, _, _, F24, b24, _, _, F25, b25, _, _, F26, b26, c_Order, PySem.W.mg_of X G ac_Order, ⟨pg_Order, hd_Order, po_Order, sa_Order⟩, na__names_Order, na__under_Order, na___len___Order, na___length_hint___Order, ⟨ica_Order, icn_Order, ict_Order, icm_Order⟩, ⟨mk_Order, a18, i18, kc_Order⟩, ⟨a19, i19, k19⟩, ⟨a20, i20, k20⟩, ⟨a21, i21, k21⟩, ⟨a22, i22, k22⟩, ⟨a23, i23, k23⟩, ⟨a24, i24, k24⟩, ⟨a25, i25, k25⟩, ⟨a26, i26, k26⟩, c_PartError, PySem.W.mg_of X G ac_PartError, c_BadName, PySem.W.mg_of X G ac_BadName, fi_BadName, _, Fi_BadName, bi_BadName, ⟨⟨_, _, _, _, _, _, _, _, _, _, _, _, _, _, _, xL_BadName, by rfl⟩, sa_BadName, ec_BadName, tc_BadName, kc_BadName⟩, ai_BadName, ti_BadName, n_name_BadName, ⟨ga_BadName, gg_BadName, ec_BadName, hc_BadName⟩, ⟨by unfold PySem.W.clsIn; rw [xL_BadName] <;> rfl, ga_BadName, gg_BadName, ec_BadName, hc_BadName, gk_BadName, xn, xt, gm_BadName⟩, c_Taken, PySem.W.mg_of X G ac_Taken, fi_Taken, _, Fi_Taken, bi_Taken, ⟨⟨_, _, _, _, _, _, _, _, _, _, _, _, _, _, _, xL_Taken, by rfl⟩, sa_Taken, ec_Taken, tc_Taken, kc_Taken⟩, ai_Taken, ti_Taken, n_name_Taken, ⟨ga_Taken, gg_Taken, ec_Taken, hc_Taken⟩, ⟨by unfold PySem.W.clsIn; rw [xL_Taken] <;> rfl, ga_Taken, gg_Taken, ec_Taken, hc_Taken, gk_Taken, xn, xt, gm_Taken⟩, c_Unknown, PySem.W.mg_of X G ac_Unknown, fi_Unknown, _, Fi_Unknown, bi_Unknown, ⟨⟨_, _, _, _, _, _, _, _, _, _, _, _, _, _, _, xL_Unknown, by rfl⟩, sa_Unknown, ec_Unknown, tc_Unknown, kc_Unknown⟩, ai_Unknown, ti_Unknown, n_name_Unknown, ⟨ga_Unknown, gg_Unknown, ec_Unknown, hc_Unknown⟩, ⟨by unfold PySem.W.clsIn; rw [xL_Unknown] <;> rfl, ga_Unknown, gg_Unknown, ec_Unknown, hc_Unknown, gk_Unknown, xn, xt, gm_Unknown⟩, c_Repeated, PySem.W.mg_of X G ac_Repeated, fi_Repeated, _, Fi_Repeated, bi_Repeated, ⟨⟨_, _, _, _, _, _, _, _, _, _, _, _, _, _, _, xL_Repeated, by rfl⟩, sa_Repeated, ec_Repeated, tc_Repeated, kc_Repeated⟩, ai_Repeated, ti_Repeated, n_name_Repeated, ⟨ga_Repeated, gg_Repeated, ec_Repeated, hc_Repeated⟩, ⟨by unfold PySem.W.clsIn; rw [xL_Repeated] <;> rfl, ga_Repeated, gg_Repeated, ec_Repeated, hc_Repeated, gk_Repeated, xn, xt, gm_Repeated⟩, exm_own ec_PartError ic_PartError tc_PartError ss_BadName_PartError, kit_own ss_BadName_BadName ss_BadName_BadName ic_BadName tc_BadName, kit_own ss_BadName_BadName ss_BadName_Repeated ic_Repeated tc_Repeated, kit_own ss_BadName_BadName ss_BadName_Taken ic_Taken tc_Taken, kit_own ss_BadName_BadName ss_BadName_Unknown ic_Unknown tc_Unknown, kit_ve sv_BadName, exm_own ec_PartError ic_PartError tc_PartError ss_Taken_PartError, kit_own ss_Taken_Taken ss_Taken_BadName ic_BadName tc_BadName, kit_own ss_Taken_Taken ss_Taken_Repeated ic_Repeated tc_Repeated, kit_own ss_Taken_Taken ss_Taken_Taken ic_Taken tc_Taken, kit_own ss_Taken_Taken ss_Taken_Unknown ic_Unknown tc_Unknown, kit_ve sv_Taken, exm_own ec_PartError ic_PartError tc_PartError ss_Unknown_PartError, kit_own ss_Unknown_Unknown ss_Unknown_BadName ic_BadName tc_BadName, kit_own ss_Unknown_Unknown ss_Unknown_Repeated ic_Repeated tc_Repeated, kit_own ss_Unknown_Unknown ss_Unknown_Taken ic_Taken tc_Taken, kit_own ss_Unknown_Unknown ss_Unknown_Unknown ic_Unknown tc_Unknown, kit_ve sv_Unknown, exm_own ec_PartError ic_PartError tc_PartError ss_Repeated_PartError, kit_own ss_Repeated_Repeated ss_Repeated_BadName ic_BadName tc_BadName, kit_own ss_Repeated_Repeated ss_Repeated_Repeated ic_Repeated tc_Repeated, kit_own ss_Repeated_Repeated ss_Repeated_Taken ic_Taken tc_Taken, kit_own ss_Repeated_Repeated ss_Repeated_Unknown ic_Unknown tc_Unknown, kit_ve sv_Repeated, PySem.W.mg_none_of X G z_ValueError, PySem.W.mg_none_of X G z_abs, PySem.W.mg_none_of X G z_bool, PySem.W.mg_none_of X G z_int, PySem.W.mg_none_of X G z_isinstance, PySem.W.mg_none_of X G z_iter, PySem.W.mg_none_of X G z_len, PySem.W.mg_none_of X G z_list, PySem.W.mg_none_of X G z_max, PySem.W.mg_none_of X G z_range, PySem.W.mg_none_of X G z_sorted, PySem.W.mg_none_of X G z_str, ⟨_, PySem.W.mg_of X G y_NAME_LETTERS, _, rfl⟩, ⟨_, PySem.W.mg_of X G y_NAME_DIGITS, _, rfl⟩, ⟨_, PySem.W.mg_of X G y_NAME_LENGTH, _, rfl⟩⟩⟩
end K13
open PySem PySem.W PyProof.Rows
set_option maxHeartbeats 0 in
theorem PySem.Challenge.cw_partclones_k13_order_under_holds : PySem.Challenge.rw_partclones_k13_order_under.Holds := by
  w_on; o_law; k_head; (case hw => w_witness2)
  k_fill
  refine L2.walk_of (l := PySem.Challenge.rw_partclones_k13_order_under) (n := 63) (k := 7) (x := "script") (CX := fun _ => L2.CX0) (sp := fun w => K13.sp_law _) rfl (by decide) rfl ⟨rfl, by decide, by decide⟩ (fun w h Y => PySem.W.kIn_of Y) ?F (fun _ H a ns hl _ hS => K13.sp_law_start hl hS) (fun _ _ _ _ _ h => h)
  case F =>
    intro w mg fa h KX G hmg
    refine' K13.all_mk KX G hmg ?ac_Order ?pg_Order ?hd_Order ?po_Order ?sa_Order ?mk_Order ?kc_Order ?na__names_Order ?na__under_Order ?na___len___Order ?na___length_hint___Order ?ica_Order ?icn_Order ?ict_Order ?icm_Order ?a1 ?l1 ?c1 ?k1 ?a2 ?l2 ?c2 ?k2 ?a3 ?l3 ?c3 ?k3 ?a4 ?l4 ?c4 ?k4 ?a5 ?l5 ?c5 ?k5 ?a6 ?l6 ?c6 ?k6 ?a7 ?l7 ?c7 ?k7 ?a8 ?l8 ?c8 ?k8 ?a9 ?l9 ?c9 ?k9 ?a10 ?l10 ?c10 ?k10 ?a11 ?l11 ?c11 ?k11 ?a12 ?l12 ?c12 ?k12 ?a13 ?l13 ?c13 ?k13 ?a14 ?l14 ?c14 ?k14 ?a15 ?l15 ?c15 ?k15 ?a16 ?l16 ?c16 ?k16 ?a17 ?l17 ?c17 ?k17 ?a18 ?i18 ?l18 ?c18 ?k18 ?a19 ?i19 ?l19 ?c19 ?k19 ?a20 ?i20 ?l20 ?c20 ?k20 ?a21 ?i21 ?l21 ?c21 ?k21 ?a22 ?i22 ?l22 ?c22 ?k22 ?a23 ?i23 ?l23 ?c23 ?k23 ?a24 ?i24 ?l24 ?c24 ?k24 ?a25 ?i25 ?l25 ?c25 ?k25 ?a26 ?i26 ?l26 ?c26 ?k26 ?ac_PartError ?ec_PartError ?tc_PartError ?ic_PartError ?ac_BadName ?ec_BadName ?tc_BadName ?ic_BadName ?xL_BadName ?sa_BadName ?ga_BadName ?gg_BadName ?gk_BadName ?gm_BadName ?n_name_BadName ?ai_BadName ?ti_BadName ?li_BadName ?ci_BadName ?ki_BadName ?kc_BadName ?hc_BadName ?ac_Taken ?ec_Taken ?tc_Taken ?ic_Taken ?xL_Taken ?sa_Taken ?ga_Taken ?gg_Taken ?gk_Taken ?gm_Taken ?n_name_Taken ?ai_Taken ?ti_Taken ?li_Taken ?ci_Taken ?ki_Taken ?kc_Taken ?hc_Taken ?ac_Unknown ?ec_Unknown ?tc_Unknown ?ic_Unknown ?xL_Unknown ?sa_Unknown ?ga_Unknown ?gg_Unknown ?gk_Unknown ?gm_Unknown ?n_name_Unknown ?ai_Unknown ?ti_Unknown ?li_Unknown ?ci_Unknown ?ki_Unknown ?kc_Unknown ?hc_Unknown ?ac_Repeated ?ec_Repeated ?tc_Repeated ?ic_Repeated ?xL_Repeated ?sa_Repeated ?ga_Repeated ?gg_Repeated ?gk_Repeated ?gm_Repeated ?n_name_Repeated ?ai_Repeated ?ti_Repeated ?li_Repeated ?ci_Repeated ?ki_Repeated ?kc_Repeated ?hc_Repeated ?ss_BadName_BadName ?ss_BadName_PartError ?ss_BadName_Repeated ?ss_BadName_Taken ?ss_BadName_Unknown ?sv_BadName ?ss_Taken_BadName ?ss_Taken_PartError ?ss_Taken_Repeated ?ss_Taken_Taken ?ss_Taken_Unknown ?sv_Taken ?ss_Unknown_BadName ?ss_Unknown_PartError ?ss_Unknown_Repeated ?ss_Unknown_Taken ?ss_Unknown_Unknown ?sv_Unknown ?ss_Repeated_BadName ?ss_Repeated_PartError ?ss_Repeated_Repeated ?ss_Repeated_Taken ?ss_Repeated_Unknown ?sv_Repeated ?xn ?xt ?z_ValueError ?z_abs ?z_bool ?z_int ?z_isinstance ?z_iter ?z_len ?z_list ?z_max ?z_range ?z_sorted ?z_str ?y_NAME_LETTERS ?y_NAME_DIGITS ?y_NAME_LENGTH
    (case ac_Order => k_is)
    (case pg_Order => k_is)
    (case hd_Order => k_is)
    (case po_Order => k_is)
    (case sa_Order => k_is)
    (case mk_Order => k_is)
    (case kc_Order => k_is)
    (case na__names_Order => k_is)
    (case na__under_Order => k_is)
    (case na___len___Order => k_is)
    (case na___length_hint___Order => k_is)
    (case ica_Order => k_is)
    (case icn_Order => k_is)
    (case ict_Order => k_is)
    (case icm_Order => k_is)
    (case a1 => k_is)
    (case l1 => k_is)
    (case c1 => k_is)
    (case k1 => k_is)
    (case a2 => k_is)
    (case l2 => k_is)
    (case c2 => k_is)
    (case k2 => k_is)
    (case a3 => k_is)
    (case l3 => k_is)
    (case c3 => k_is)
    (case k3 => k_is)
    (case a4 => k_is)
    (case l4 => k_is)
    (case c4 => k_is)
    (case k4 => k_is)
    (case a5 => k_is)
    (case l5 => k_is)
    (case c5 => k_is)
    (case k5 => k_is)
    (case a6 => k_is)
    (case l6 => k_is)
    (case c6 => k_is)
    (case k6 => k_is)
    (case a7 => k_is)
    (case l7 => k_is)
    (case c7 => k_is)
    (case k7 => k_is)
    (case a8 => k_is)
    (case l8 => k_is)
    (case c8 => k_is)
    (case k8 => k_is)
    (case a9 => k_is)
    (case l9 => k_is)
    (case c9 => k_is)
    (case k9 => k_is)
    (case a10 => k_is)
    (case l10 => k_is)
    (case c10 => k_is)
    (case k10 => k_is)
    (case a11 => k_is)
    (case l11 => k_is)
    (case c11 => k_is)
    (case k11 => k_is)
    (case a12 => k_is)
    (case l12 => k_is)
    (case c12 => k_is)
    (case k12 => k_is)
    (case a13 => k_is)
    (case l13 => k_is)
    (case c13 => k_is)
    (case k13 => k_is)
    (case a14 => k_is)
    (case l14 => k_is)
    (case c14 => k_is)
    (case k14 => k_is)
    (case a15 => k_is)
    (case l15 => k_is)
    (case c15 => k_is)
    (case k15 => k_is)
    (case a16 => k_is)
    (case l16 => k_is)
    (case c16 => k_is)
    (case k16 => k_is)
    (case a17 => k_is)
    (case l17 => k_is)
    (case c17 => k_is)
    (case k17 => k_is)
    (case a18 => k_is)
    (case i18 => k_is)
    (case l18 => k_is)
    (case c18 => k_is)
    (case k18 => k_is)
    (case a19 => k_is)
    (case i19 => k_is)
    (case l19 => k_is)
    (case c19 => k_is)
    (case k19 => k_is)
    (case a20 => k_is)
    (case i20 => k_is)
    (case l20 => k_is)
    (case c20 => k_is)
    (case k20 => k_is)
    (case a21 => k_is)
    (case i21 => k_is)
    (case l21 => k_is)
    (case c21 => k_is)
    (case k21 => k_is)
    (case a22 => k_is)
    (case i22 => k_is)
    (case l22 => k_is)
    (case c22 => k_is)
    (case k22 => k_is)
    (case a23 => k_is)
    (case i23 => k_is)
    (case l23 => k_is)
    (case c23 => k_is)
    (case k23 => k_is)
    (case a24 => k_is)
    (case i24 => k_is)
    (case l24 => k_is)
    (case c24 => k_is)
    (case k24 => k_is)
    (case a25 => k_is)
    (case i25 => k_is)
    (case l25 => k_is)
    (case c25 => k_is)
    (case k25 => k_is)
    (case a26 => k_is)
    (case i26 => k_is)
    (case l26 => k_is)
    (case c26 => k_is)
    (case k26 => k_is)
    (case ac_PartError => k_is)
    (case ec_PartError => k_is)
    (case tc_PartError => k_is)
    (case ic_PartError => k_is)
    (case ac_BadName => k_is)
    (case ec_BadName => k_is)
    (case tc_BadName => k_is)
    (case ic_BadName => k_is)
    (case xL_BadName => k_is)
    (case sa_BadName => k_is)
    (case ga_BadName => k_is)
    (case gg_BadName => k_is)
    (case gk_BadName => k_is)
    (case gm_BadName => k_is)
    (case n_name_BadName => k_is)
    (case ai_BadName => k_is)
    (case ti_BadName => k_is)
    (case li_BadName => k_is)
    (case ci_BadName => k_is)
    (case ki_BadName => k_is)
    (case kc_BadName => k_is)
    (case hc_BadName => k_is)
    (case ac_Taken => k_is)
    (case ec_Taken => k_is)
    (case tc_Taken => k_is)
    (case ic_Taken => k_is)
    (case xL_Taken => k_is)
    (case sa_Taken => k_is)
    (case ga_Taken => k_is)
    (case gg_Taken => k_is)
    (case gk_Taken => k_is)
    (case gm_Taken => k_is)
    (case n_name_Taken => k_is)
    (case ai_Taken => k_is)
    (case ti_Taken => k_is)
    (case li_Taken => k_is)
    (case ci_Taken => k_is)
    (case ki_Taken => k_is)
    (case kc_Taken => k_is)
    (case hc_Taken => k_is)
    (case ac_Unknown => k_is)
    (case ec_Unknown => k_is)
    (case tc_Unknown => k_is)
    (case ic_Unknown => k_is)
    (case xL_Unknown => k_is)
    (case sa_Unknown => k_is)
    (case ga_Unknown => k_is)
    (case gg_Unknown => k_is)
    (case gk_Unknown => k_is)
    (case gm_Unknown => k_is)
    (case n_name_Unknown => k_is)
    (case ai_Unknown => k_is)
    (case ti_Unknown => k_is)
    (case li_Unknown => k_is)
    (case ci_Unknown => k_is)
    (case ki_Unknown => k_is)
    (case kc_Unknown => k_is)
    (case hc_Unknown => k_is)
    (case ac_Repeated => k_is)
    (case ec_Repeated => k_is)
    (case tc_Repeated => k_is)
    (case ic_Repeated => k_is)
    (case xL_Repeated => k_is)
    (case sa_Repeated => k_is)
    (case ga_Repeated => k_is)
    (case gg_Repeated => k_is)
    (case gk_Repeated => k_is)
    (case gm_Repeated => k_is)
    (case n_name_Repeated => k_is)
    (case ai_Repeated => k_is)
    (case ti_Repeated => k_is)
    (case li_Repeated => k_is)
    (case ci_Repeated => k_is)
    (case ki_Repeated => k_is)
    (case kc_Repeated => k_is)
    (case hc_Repeated => k_is)
    (case ss_BadName_BadName => k_is)
    (case ss_BadName_PartError => k_is)
    (case ss_BadName_Repeated => k_is)
    (case ss_BadName_Taken => k_is)
    (case ss_BadName_Unknown => k_is)
    (case sv_BadName => k_is)
    (case ss_Taken_BadName => k_is)
    (case ss_Taken_PartError => k_is)
    (case ss_Taken_Repeated => k_is)
    (case ss_Taken_Taken => k_is)
    (case ss_Taken_Unknown => k_is)
    (case sv_Taken => k_is)
    (case ss_Unknown_BadName => k_is)
    (case ss_Unknown_PartError => k_is)
    (case ss_Unknown_Repeated => k_is)
    (case ss_Unknown_Taken => k_is)
    (case ss_Unknown_Unknown => k_is)
    (case sv_Unknown => k_is)
    (case ss_Repeated_BadName => k_is)
    (case ss_Repeated_PartError => k_is)
    (case ss_Repeated_Repeated => k_is)
    (case ss_Repeated_Taken => k_is)
    (case ss_Repeated_Unknown => k_is)
    (case sv_Repeated => k_is)
    (case xn => k_is)
    (case xt => k_is)
    (case z_ValueError => k_is)
    (case z_abs => k_is)
    (case z_bool => k_is)
    (case z_int => k_is)
    (case z_isinstance => k_is)
    (case z_iter => k_is)
    (case z_len => k_is)
    (case z_list => k_is)
    (case z_max => k_is)
    (case z_range => k_is)
    (case z_sorted => k_is)
    (case z_str => k_is)
    (case y_NAME_LETTERS => k_is)
    (case y_NAME_DIGITS => k_is)
    (case y_NAME_LENGTH => k_is)

