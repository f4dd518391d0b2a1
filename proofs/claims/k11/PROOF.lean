import PyProof.Rows.All
import Wide.All
import OpenK.AllK
import Wide.FinOn
import HandS.ForMost
import HandS.Small
import HandS.Style
import HandS.Flow
import HandS.Deep
import HandS.IsInst
import HandS.More
import HandS.Star
import HandS.TupAny
import KE.KExcIs
import HandS.ExcCtx
import HandS.ExcInit
import HandS.ExcField
import HandS.HotCalls
import HandS.Wide
import HandS.Strs
import HandS.SetKeys
import HandS.Text
import HandS.Iter
import HandS.WideBits
import HandS.Dict
import HandS.WordsDict
import HandS.Conv
import HandS.List
import HandS.SetBool
import HandS.DictComp
import HandS.ListItems
import HandS.Ends
import HandS.GenList
import HandS.GenYield
import HandS.GenBody
import HandS.SuiteRaise
import KE.KAsSuite
import HandS.ExcInitHot
import HandS.RaiseFrom
import HandS.OwnIter
import HandS.IterNext
import HandS.TupSets
import PySem.Challenge.RW_partclones_k11_checked_texts_trees
set_option Elab.async false
set_option linter.all false
set_option maxRecDepth 100000
namespace Qk
open PySem PySem.Spec PyProof.Rows L2

/-! ### heaps -/
abbrev Own := List (Addr × HO)
structure Has (F : Hp) (O : Own) (H : Hp) : Prop where
  same : Same F H
  own : ∀ p ∈ O, F p.1 = none ∧ H p.1 = some p.2
  nd : (O.map (·.1)).Nodup

/-- O with the object at a changed from o to o' -/
inductive Chg : Own → Addr → HO → HO → Own → Prop
  | hd {a : Addr} {o o' : HO} {O : Own} : Chg ((a, o) :: O) a o o' ((a, o') :: O)
  | tl {a : Addr} {o o' : HO} {O O' : Own} {x : Addr × HO} : Chg O a o o' O' → Chg (x :: O) a o o' (x :: O')
theorem Chg.mem {O O' : Own} {a : Addr} {o o' : HO} (c : Chg O a o o' O') : (a, o) ∈ O := by
  induction c with
  | hd => exact List.Mem.head _
  | tl _ ih => exact List.Mem.tail _ ih
theorem Chg.fst {O O' : Own} {a : Addr} {o o' : HO} (c : Chg O a o o' O') : O'.map (·.1) = O.map (·.1) := by
  induction c with
  | hd => rfl
  | tl _ ih => rw [List.map_cons, List.map_cons, ih]
theorem Chg.own {O O' : Own} {a : Addr} {o o' : HO} (c : Chg O a o o' O') (nd : (O.map (·.1)).Nodup) : ∀ p ∈ O', p = (a, o') ∨ (p ∈ O ∧ p.1 ≠ a) := by
  induction c with
  | @hd a o o' O =>
    intro p hp
    rw [List.map_cons] at nd
    have nm := (List.nodup_cons.mp nd).1
    rcases List.mem_cons.mp hp with e | hp
    · exact .inl e
    · refine .inr ⟨List.mem_cons_of_mem _ hp, fun e => nm ?_⟩
      exact List.mem_map.mpr ⟨p, hp, e⟩
  | @tl a o o' O O' x c ih =>
    intro p hp
    rw [List.map_cons] at nd
    have nm := List.nodup_cons.mp nd
    rcases List.mem_cons.mp hp with e | hp
    · subst e
      refine .inr ⟨List.mem_cons_self, fun e => nm.1 ?_⟩
      rw [e]
      exact List.mem_map.mpr ⟨_, c.mem, rfl⟩
    · rcases ih nm.2 p hp with e | ⟨e, ne⟩
      · exact .inl e
      · exact .inr ⟨List.mem_cons_of_mem _ e, ne⟩

section
variable {F F' : Hp} {O O' : Own} {H H' : Hp} {a p : Addr} {o o' : HO} {K : PySem.W.Frag} {xs : List V}
theorem Has.start (H : Hp) : Has H [] H := ⟨Same.refl H, fun _ h => (List.not_mem_nil h).elim, List.nodup_nil⟩
theorem Has.get (h : Has F O H) (m : (a, o) ∈ O) : H a = some o := (h.own _ m).2
theorem Has.but (h : Has F O H) (c : Chg O a o o' O') (s : ∀ b u, b ≠ a → H b = some u → H' b = some u) (e : H' a = some o') : Has F O' H' := by
  have fa : F a = none := (h.own _ c.mem).1
  refine ⟨fun b u q => s b u (fun z => by rw [z, fa] at q; cases q) (h.same b u q), fun q hq => ?_, by rw [c.fst]; exact h.nd⟩
  rcases c.own h.nd q hq with rfl | ⟨m, ne⟩
  · exact ⟨fa, e⟩
  · exact ⟨(h.own _ m).1, s _ _ ne (h.own _ m).2⟩
theorem Has.put (h : Has F O H) (c : Chg O a o o' O') : Has F O' (upd H a o') := h.but c (fun b u ne q => by rw [upd_ne ne]; exact q) upd_same
theorem Has.on (h : Has F O H) (s : Same H H') : Has F O H' := ⟨h.same.trans s, fun q hq => ⟨(h.own q hq).1, s _ _ (h.own q hq).2⟩, h.nd⟩
theorem Has.made (h : Has F O H) (n : H p = none) (s : Same H H') (e : H' p = some o) : Has F ((p, o) :: O) H' := by
  refine ⟨h.same.trans s, fun q hq => ?_, ?_⟩
  · rcases List.mem_cons.mp hq with rfl | hq
    · exact ⟨h.same.free n, e⟩
    · exact ⟨(h.own q hq).1, s _ _ (h.own q hq).2⟩
  · rw [List.map_cons]
    refine List.nodup_cons.mpr ⟨fun m => ?_, h.nd⟩
    obtain ⟨q, hq, e'⟩ := List.mem_map.mp m
    have z := (h.own q hq).2
    rw [e', n] at z
    cases z
theorem same_upd (n : H p = none) : Same H (upd H p o) := fun b u q => by
  rw [upd_ne (ne_of_none q n)]
  exact q
theorem Has.new (h : Has F O H) (n : H p = none) : Has F ((p, o) :: O) (upd H p o) := h.made n (same_upd n) upd_same
theorem Has.drop {x : Addr × HO} (h : Has F (x :: O) H) : Has F O H := ⟨h.same, fun q hq => h.own q (List.mem_cons_of_mem _ hq), (List.nodup_cons.mp (by have := h.nd; rw [List.map_cons] at this; exact this)).2⟩
theorem Has.sub (h : Has F O H) (s : O'.Sublist O) : Has F O' H := ⟨h.same, fun q hq => h.own q (s.subset hq), (s.map _).nodup h.nd⟩
theorem Has.perm (h : Has F O H) (s : O'.Perm O) : Has F O' H := ⟨h.same, fun q hq => h.own q (s.subset hq), (s.map _).nodup_iff.mpr h.nd⟩
/-- the first owned object stands still from now on -/
theorem Has.frz (h : Has F ((p, o) :: O) H) : Has (upd F p o) O H := by
  have hp := h.own (p, o) List.mem_cons_self
  have nd : p ∉ O.map (·.1) ∧ (O.map (·.1)).Nodup := List.nodup_cons.mp (by have := h.nd; rw [List.map_cons] at this; exact this)
  refine ⟨fun b u q => ?_, fun q hq => ⟨?_, (h.own q (List.mem_cons_of_mem _ hq)).2⟩, nd.2⟩
  · by_cases e : b = p
    · subst e
      rw [upd_same] at q
      cases q
      exact hp.2
    · rw [upd_ne e] at q
      exact h.same b u q
  · rw [upd_ne (fun z => nd.1 (List.mem_map.mpr ⟨q, hq, z⟩))]
    exact (h.own q (List.mem_cons_of_mem _ hq)).1
theorem Has.free (h : Has F ((p, o) :: O) H) : F p = none := (h.own _ List.mem_cons_self).1
theorem Has.grow (h : Has F ((p, o) :: O) H) : Same F (upd F p o) := same_upd h.free
/-- all stands still from now on -/
theorem Has.all (h : Has F O H) : Has H [] H := Has.start H
/-- F grown by what O knows nothing of -/
theorem Has.up (h : Has F O H) (s2 : Same F' H') (s : Same H H') (d : ∀ p ∈ O, F' p.1 = none) : Has F' O H' :=
  ⟨s2, fun q hq => ⟨d q hq, s _ _ (h.own q hq).2⟩, h.nd⟩
theorem Has.sqO (h : Has F O H) (m : (a, .lst xs) ∈ O) : SqL K H a xs := SqL.of (h.get m)
theorem Has.sqF (h : Has F O H) (m : SqL K F a xs) : SqL K H a xs := h.same.seq m
theorem Same.tup {K : PySem.W.Frag} (e : Same H H') (h : SqT K H a xs) : SqT K H' a xs := by
  rcases h with (h | ⟨o, h⟩) | h
  · exact .inl (.inl (e _ _ h))
  · exact .inl (.inr ⟨o, e _ _ h⟩)
  · exact .inr h
theorem Has.stF (h : Has F O H) (m : SqT K F a xs) : SqT K H a xs := Same.tup h.same m
theorem Has.stO (h : Has F O H) (m : (a, .tup xs) ∈ O) : SqT K H a xs := SqT.of (h.get m)
end

/-! ### data -/
mutual
inductive Dq (H : Hp) : V → PyData → Prop
  | non : Dq H .non .none
  | bl (b : Bool) : Dq H (.bl b) (.bool b)
  | int (i : Int) : Dq H (.int i) (.int i)
  | str (x : Str) : Dq H (.str x) (.str x)
  | lst {a : Addr} {xs : List V} {ds : List PyData} : H a = some (.lst xs) → DqAll H xs ds → Dq H (.ref a) (.list ds)
  | tup {a : Addr} {xs : List V} {ds : List PyData} : H a = some (.tup xs) → DqAll H xs ds → Dq H (.ref a) (.tuple ds)
inductive DqAll (H : Hp) : List V → List PyData → Prop
  | nil : DqAll H [] []
  | cons {v : V} {vs : List V} {d : PyData} {ds : List PyData} : Dq H v d → DqAll H vs ds → DqAll H (v :: vs) (d :: ds)
end
mutual
theorem Dq.up {H H' : Hp} (e : Same H H') : ∀ (d : PyData) (v : V), Dq H v d → Dq H' v d
  | _, _, .non => .non
  | _, _, .bl b => .bl b
  | _, _, .int i => .int i
  | _, _, .str x => .str x
  | .list ds, _, .lst s a => .lst (e _ _ s) (DqAll.up e ds _ a)
  | .tuple ds, _, .tup s a => .tup (e _ _ s) (DqAll.up e ds _ a)
theorem DqAll.up {H H' : Hp} (e : Same H H') : ∀ (ds : List PyData) (vs : List V), DqAll H vs ds → DqAll H' vs ds
  | _, _, .nil => .nil
  | d :: ds, _, .cons h t => .cons (Dq.up e d _ h) (DqAll.up e ds _ t)
end
mutual
theorem Dq.dp (K : PySem.W.Frag) {H : Hp} : ∀ (d : PyData) (v : V), Dq H v d → Dp K H v d
  | _, _, .non => .non
  | _, _, .bl b => .bl b
  | _, _, .int i => .int i
  | _, _, .str x => .str x
  | .list ds, _, .lst s a => .lst (SqL.of s) (DqAll.dp K ds _ a)
  | .tuple ds, _, .tup s a => .tup (SqT.of s) (DqAll.dp K ds _ a)
theorem DqAll.dp (K : PySem.W.Frag) {H : Hp} : ∀ (ds : List PyData) (vs : List V), DqAll H vs ds → DpAll K H vs ds
  | _, _, .nil => .nil
  | d :: ds, _, .cons h t => .cons (Dq.dp K d _ h) (DqAll.dp K ds _ t)
end
theorem DqAll.len {H : Hp} : ∀ {vs : List V} {ds : List PyData}, DqAll H vs ds → vs.length = ds.length
  | _, _, .nil => rfl
  | _, _, .cons _ t => by rw [List.length_cons, List.length_cons, t.len]
theorem DqAll.get {H : Hp} : ∀ {vs : List V} {ds : List PyData} {i : Nat} {v : V}, DqAll H vs ds → vs[i]? = some v → ∃ d, ds[i]? = some d ∧ Dq H v d
  | _, _, _, _, .nil, e => by simp at e
  | _, _, 0, _, .cons h _, e => ⟨_, rfl, by have e' := Option.some.inj e; rw [← e']; exact h⟩
  | _, _, i + 1, _, .cons _ t, e => t.get (i := i) e
theorem DqAll.snoc {H : Hp} : ∀ {vs : List V} {ds : List PyData} {v : V} {d : PyData}, DqAll H vs ds → Dq H v d → DqAll H (vs ++ [v]) (ds ++ [d])
  | _, _, _, _, .nil, h => .cons h .nil
  | _, _, _, _, .cons h t, h' => .cons h (t.snoc h')
theorem DqAll.app {H : Hp} : ∀ {vs ws : List V} {ds es : List PyData}, DqAll H vs ds → DqAll H ws es → DqAll H (vs ++ ws) (ds ++ es)
  | _, _, _, _, .nil, h => h
  | _, _, _, _, .cons h t, h' => .cons h (t.app h')
theorem DqAll.rev {H : Hp} : ∀ {vs : List V} {ds : List PyData}, DqAll H vs ds → DqAll H vs.reverse ds.reverse
  | _, _, .nil => .nil
  | _, _, .cons h t => by
    rw [List.reverse_cons, List.reverse_cons]
    exact t.rev.snoc h
theorem DqAll.strs {H : Hp} : ∀ (xs : List Str), DqAll H (xs.map V.str) (xs.map PyData.str)
  | [] => .nil
  | x :: xs => .cons (.str x) (DqAll.strs xs)
theorem DqAll.ints {H : Hp} : ∀ (xs : List Int), DqAll H (xs.map V.int) (xs.map PyData.int)
  | [] => .nil
  | x :: xs => .cons (.int x) (DqAll.ints xs)
theorem DqAll.of_strs {H : Hp} : ∀ {vs : List V} {xs : List Str}, DqAll H vs (xs.map PyData.str) → vs = xs.map V.str
  | _, [], .nil => rfl
  | _, x :: xs, .cons h t => by
    cases h
    rw [List.map_cons, t.of_strs]
theorem Dq.of_strs {H : Hp} {v : V} {xs : List Str} (h : Dq H v (.list (xs.map PyData.str))) : ∃ a, v = .ref a ∧ H a = some (.lst (xs.map V.str)) := by
  cases h with
  | lst s a =>
    rw [a.of_strs] at s
    exact ⟨_, rfl, s⟩
theorem Dq.strs {H : Hp} {a : Addr} {xs : List Str} (h : H a = some (.lst (xs.map V.str))) : Dq H (.ref a) (.list (xs.map PyData.str)) := .lst h (DqAll.strs xs)
theorem Dq.ints {H : Hp} {a : Addr} {xs : List Int} (h : H a = some (.lst (xs.map V.int))) : Dq H (.ref a) (.list (xs.map PyData.int)) := .lst h (DqAll.ints xs)
theorem Has.gF {F : Hp} {O : Own} {H : Hp} {a : Addr} {o : HO} (h : Has F O H) (e : F a = some o) : H a = some o := h.same _ _ e
theorem Has.dq {F : Hp} {O : Own} {H : Hp} (h : Has F O H) {v : V} {d : PyData} (p : Dq F v d) : Dq H v d := p.up h.same d v

/-! ### == of data -/
theorem eqvAll_strs : ∀ xs ys : List Str, PyData.eqvAll (xs.map PyData.str) (ys.map PyData.str) = decide (xs = ys)
  | [], [] => by simp [PyData.eqvAll]
  | [], y :: ys => by simp [PyData.eqvAll]
  | x :: xs, [] => by simp [PyData.eqvAll]
  | x :: xs, y :: ys => by
    rw [List.map_cons, List.map_cons, PyData.eqvAll, eqvAll_strs xs ys, PyData.eqv]
    by_cases h : x = y
    · subst h; simp
    · simp [h]
theorem eqv_strs (xs ys : List Str) : PyData.eqv (.list (xs.map PyData.str)) (.list (ys.map PyData.str)) = decide (xs = ys) := by
  rw [PyData.eqv, eqvAll_strs]
theorem eqvAll_ints : ∀ xs ys : List Int, PyData.eqvAll (xs.map PyData.int) (ys.map PyData.int) = decide (xs = ys)
  | [], [] => by simp [PyData.eqvAll]
  | [], y :: ys => by simp [PyData.eqvAll]
  | x :: xs, [] => by simp [PyData.eqvAll]
  | x :: xs, y :: ys => by
    rw [List.map_cons, List.map_cons, PyData.eqvAll, eqvAll_ints xs ys, PyData.eqv]
    by_cases h : x = y
    · subst h; simp
    · simp [h]
theorem eqv_ints (xs ys : List Int) : PyData.eqv (.list (xs.map PyData.int)) (.list (ys.map PyData.int)) = decide (xs = ys) := by
  rw [PyData.eqv, eqvAll_ints]
theorem canLayAll_mem : ∀ {ds : List PyData}, (∀ d ∈ ds, d.canLay0 = true) → PyData.canLayAll0 ds = true
  | [], _ => rfl
  | d :: ds, h => by
    rw [PyData.canLayAll0, h d List.mem_cons_self, canLayAll_mem fun x hx => h x (List.mem_cons_of_mem _ hx)]
    rfl
theorem depthAll_le {n : Nat} : ∀ {ds : List PyData}, (∀ d ∈ ds, d.depth ≤ n) → PyData.depthAll ds ≤ n
  | [], _ => Nat.zero_le _
  | d :: ds, h => by
    rw [PyData.depthAll]
    exact Nat.max_le.mpr ⟨h d List.mem_cons_self, depthAll_le fun x hx => h x (List.mem_cons_of_mem _ hx)⟩
/-- data of depth n that can be compared -/
def Sh (n : Nat) (d : PyData) : Prop := d.canLay0 = true ∧ d.depth ≤ n
theorem Sh.list {n : Nat} {ds : List PyData} (h : ∀ d ∈ ds, Sh n d) : Sh (n + 1) (.list ds) := by
  refine ⟨?_, ?_⟩
  · rw [PyData.canLay0]
    exact canLayAll_mem fun d hd => (h d hd).1
  · rw [PyData.depth]
    have := depthAll_le (n := n) fun d hd => (h d hd).2
    omega
theorem Sh.tuple {n : Nat} {ds : List PyData} (h : ∀ d ∈ ds, Sh n d) : Sh (n + 1) (.tuple ds) := by
  refine ⟨?_, ?_⟩
  · rw [PyData.canLay0]
    exact canLayAll_mem fun d hd => (h d hd).1
  · rw [PyData.depth]
    have := depthAll_le (n := n) fun d hd => (h d hd).2
    omega
theorem Sh.ok {n : Nat} {d : PyData} (h : Sh n d) (hn : n ≤ 64) : SeqAt.shaped d = true := by
  unfold SeqAt.shaped
  rw [h.1, Bool.true_and]
  exact decide_eq_true (Nat.le_trans h.2 hn)
theorem Sh.int {n : Nat} (i : Int) : Sh n (.int i) := ⟨rfl, Nat.zero_le _⟩
theorem Sh.non {n : Nat} : Sh n .none := ⟨rfl, Nat.zero_le _⟩
theorem Sh.bl {n : Nat} (b : Bool) : Sh n (.bool b) := ⟨rfl, Nat.zero_le _⟩
theorem Sh.str {n : Nat} {x : Str} (h : PyData.strOk x = true) : Sh n (.str x) := ⟨h, Nat.zero_le _⟩
theorem Sh.strs {n : Nat} {xs : List Str} (h : ∀ x ∈ xs, PyData.strOk x = true) : Sh (n + 1) (.list (xs.map PyData.str)) := Sh.list fun d hd => by
  obtain ⟨x, hx, rfl⟩ := List.mem_map.mp hd
  exact Sh.str (h x hx)
theorem Sh.ints {n : Nat} {xs : List Int} : Sh (n + 1) (.list (xs.map PyData.int)) := Sh.list fun d hd => by
  obtain ⟨x, hx, rfl⟩ := List.mem_map.mp hd
  exact Sh.int x

/-! ### readings, in order -/
def kB (x : V) (H : Hp) (R : Bool → Hp → Prop) : Prop := ∃ k, x = .bl k ∧ R k H
def kTup (xs : List V) (H : Hp) (Q : VK) : Prop := xs.length ≤ sizeLine ∧ ∀ p, H p = none → Q (.ref p) (upd H p (.tup xs))
def kLst (xs : List V) (H : Hp) (Q : VK) : Prop := xs.length ≤ sizeLine ∧ ∀ p, H p = none → Q (.ref p) (upd H p (.lst xs))
def kBM (K : PySem.W.Frag) (T : String) (r : V → List V → Hp → VK → Prop) (t : TA) (σ : L2.St) (x : V) (H : Hp) (Q : VK) : Prop := tyV K T x H ∧ t σ H fun xs H2 => r x xs H2 Q
section
variable {K : PySem.W.Frag} {σ : L2.St} {F : Hp} {O O' : Own} {H : Hp} {Q : VK} {ta tb tc te : TE} {x y v : V} {D : Ends} {t1 t2 : TS}
theorem g_var {i : Nat} (h : σ[i]? = some (some v)) (q : Q v H) : tVar i σ H Q := ⟨v, h, q⟩
theorem g_c (q : Q v H) : tC v σ H Q := q
theorem g_op {r : R2} (q : ta σ H fun x H1 => tb σ H1 fun y H2 => r x y H2 Q) : tOp r ta tb σ H Q := q
theorem g_un {r : V → Hp → VK → Prop} (q : ta σ H fun x H1 => r x H1 Q) : tUn r ta σ H Q := q
theorem g_cons {tr : TA} {QA : List V → Hp → Prop} (q : ta σ H fun x H1 => tr σ H1 fun xs H2 => QA (x :: xs) H2) : tCons ta tr σ H QA := q
theorem g_nil {QA : List V → Hp → Prop} (q : QA [] H) : tNil σ H QA := q
theorem g_cb {r : List V → Hp → VK → Prop} {t : TA} (q : t σ H fun vs H1 => r vs H1 Q) : tCB r t σ H Q := q
theorem g_call {sp : Sp} {E : XK} {t : TA} (q : t σ H fun vs H1 => sp vs H1 Q E) : tCall sp [] E t σ H Q := by
  unfold tCall
  simp only [List.append_nil]
  exact q
theorem g_tup {t : TA} (q : t σ H fun xs H1 => kTup xs H1 Q) : tTup t σ H Q := q
theorem g_lst {t : TA} (q : t σ H fun xs H1 => kLst xs H1 Q) : tLst t σ H Q := q
theorem g_bm {T : String} {r : V → List V → Hp → VK → Prop} {t : TA} (q : ta σ H fun x H1 => kBM K T r t σ x H1 Q) : tBM K T r ta t σ H Q := q
theorem g_bm0 {T : String} {r : V → List V → Hp → VK → Prop} (q : ta σ H fun x H1 => kBM K T r tNil σ x H1 Q) : tBM0 K T r ta σ H Q := q
theorem g_kbm {r : V → List V → Hp → VK → Prop} {t : TA} {a : Addr} {xs : List V} (h : H a = some (.lst xs)) (q : t σ H fun vs H2 => r (.ref a) vs H2 Q) : kBM K "list" r t σ (.ref a) H Q := ⟨.inl ⟨rfl, _, SqL.of h⟩, q⟩
theorem g_ktup {xs : List V} (hl : xs.length ≤ sizeLine) (hH : Has F O H) (q : ∀ p H', H p = none → Has F ((p, .tup xs) :: O) H' → Q (.ref p) H') : kTup xs H Q := ⟨hl, fun p n => q p _ n (hH.new n)⟩
theorem g_klst {xs : List V} (hl : xs.length ≤ sizeLine) (hH : Has F O H) (q : ∀ p H', H p = none → Has F ((p, .lst xs) :: O) H' → Q (.ref p) H') : kLst xs H Q := ⟨hl, fun p n => q p _ n (hH.new n)⟩
/-- a tuple that stands still at once -/
theorem g_ktupF {xs : List V} (hl : xs.length ≤ sizeLine) (hH : Has F O H) (q : ∀ p H' F', H p = none → Same F F' → F' p = some (.tup xs) → Has F' O H' → Q (.ref p) H') : kTup xs H Q :=
  ⟨hl, fun p n => q p _ (upd F p (.tup xs)) n (same_upd (hH.same.free n)) upd_same (hH.new n).frz⟩
theorem g_klstF {xs : List V} (hl : xs.length ≤ sizeLine) (hH : Has F O H) (q : ∀ p H' F', H p = none → Same F F' → F' p = some (.lst xs) → Has F' O H' → Q (.ref p) H') : kLst xs H Q :=
  ⟨hl, fun p n => q p _ (upd F p (.lst xs)) n (same_upd (hH.same.free n)) upd_same (hH.new n).frz⟩
theorem g_seq (h : t1 { D with nx := t2 D } σ H) : tSeq t1 t2 D σ H := h
theorem g_asg {g : TG} (q : te σ H fun x H1 => g x σ H1 D.nx) : tAsg te g D σ H := q
theorem g_name {i : Nat} {R : L2.St → Hp → Prop} (q : R (σ.set i (some v)) H) : gName i v σ H R := q
theorem g_drop (q : te σ H fun _ H1 => D.nx σ H1) : tDrop te D σ H := q
theorem g_ret (q : te σ H fun x H1 => D.rt x H1) : tRet te D σ H := q
theorem g_retN (q : D.rt .non H) : tRetN D σ H := q
theorem g_next (q : D.nx σ H) : tNext D σ H := q
theorem g_brk (q : D.bk σ H) : tBreak D σ H := q
theorem g_cont (q : D.ct σ H) : tCont D σ H := q
theorem g_if {c : TT} (q : c σ H fun b H1 => if b = true then t1 D σ H1 else t2 D σ H1) : tIfS c t1 t2 D σ H := q
theorem g_aug {i : Nat} {ti : TIp} (h : σ[i]? = some (some x)) (q : te σ H fun y H1 => ti x y H1 fun z H2 => D.nx (σ.set i (some z)) H2) : tAug i te ti D σ H := ⟨x, h, q⟩
theorem g_ipI {f : Int → Int → Int} {i j : Int} (q : Q (.int (f i j)) H) : ipI f (.int i) (.int j) H Q := ⟨i, j, rfl, rfl, q⟩
theorem g_test {R : Bool → Hp → Prop} (q : te σ H fun x H1 => kB x H1 R) : tTest te σ H R := q
theorem g_tB {R : Bool → Hp → Prop} (q : te σ H fun x H1 => kB x H1 R) : tB te σ H R := q
theorem g_kB {b : Bool} {R : Bool → Hp → Prop} (q : R b H) : kB (.bl b) H R := ⟨b, rfl, q⟩
theorem g_not {t : TT} {R : Bool → Hp → Prop} (q : t σ H fun c H1 => R (!c) H1) : tNot t σ H R := q
theorem g_and {t u : TT} {R : Bool → Hp → Prop} (q : t σ H fun c H1 => if c = true then u σ H1 R else R false H1) : tAnd t u σ H R := q
theorem g_or {t u : TT} {R : Bool → Hp → Prop} (q : t σ H fun c H1 => if c = true then R true H1 else u σ H1 R) : tOr t u σ H R := q
theorem g_andV (q : ta σ H fun x H1 => kB x H1 fun c H2 => if c = true then tb σ H2 Q else Q (.bl false) H2) : tAndV ta tb σ H Q := q
theorem g_orV (q : ta σ H fun x H1 => kB x H1 fun c H2 => if c = true then Q (.bl true) H2 else tb σ H2 Q) : tOrV ta tb σ H Q := q
theorem g_notV (q : ta σ H fun x H1 => kB x H1 fun c H2 => Q (.bl (!c)) H2) : tNotV ta σ H Q := q
theorem g_ifE {t : TT} (q : t σ H fun c H1 => if c = true then ta σ H1 Q else tb σ H1 Q) : tIf t ta tb σ H Q := q
theorem i_d {c A B : Prop} [Decidable c] (h1 : c → A) (h2 : ¬ c → B) : if decide c = true then A else B := by
  by_cases h : c
  · rw [if_pos (decide_eq_true h)]
    exact h1 h
  · rw [if_neg (by rw [decide_eq_false h]; exact Bool.false_ne_true)]
    exact h2 h
theorem i_n {c A B : Prop} [Decidable c] (h1 : ¬ c → A) (h2 : c → B) : if (!decide c) = true then A else B := by
  by_cases h : c
  · rw [decide_eq_true h, if_neg (by decide)]
    exact h2 h
  · rw [decide_eq_false h, if_pos (by decide)]
    exact h1 h
theorem i_b {b : Bool} {A B : Prop} (h1 : b = true → A) (h2 : b = false → B) : if b = true then A else B := by
  cases b with
  | true => rw [if_pos rfl]; exact h1 rfl
  | false => rw [if_neg Bool.false_ne_true]; exact h2 rfl
theorem i_nb {b : Bool} {A B : Prop} (h1 : b = false → A) (h2 : b = true → B) : if (!b) = true then A else B := by
  cases b with
  | false =>
    show (if true = true then A else B)
    rw [if_pos rfl]
    exact h1 rfl
  | true =>
    show (if false = true then A else B)
    rw [if_neg Bool.false_ne_true]
    exact h2 rfl
/-- a test by its answer -/
theorem g_bool {t : TT} {R : Bool → Hp → Prop} (b : Bool) (h : ∀ R : Bool → Hp → Prop, R b H → t σ H R) (q : R b H) : t σ H R := h R q

/-! ### operators -/
def rAdd (K : PySem.W.Frag) : R2 := fun x y H Q => (rI0 (fun i j => .int (i + j)) x y H Q ∨ ∃ i j, x = .str i ∧ y = .str j ∧ i.length + j.length ≤ sizeLine ∧ Q (.str (i ++ j)) H) ∨ rCat x y H Q ∨ rCatA K x y H Q
theorem g_addI {i j : Int} (q : Q (.int (i + j)) H) : rAdd K (.int i) (.int j) H Q := .inl (.inl ⟨i, j, rfl, rfl, q⟩)
theorem g_addS {i j : Str} (hl : i.length + j.length ≤ sizeLine) (q : Q (.str (i ++ j)) H) : rAdd K (.str i) (.str j) H Q := .inl (.inr ⟨i, j, rfl, rfl, hl, q⟩)
theorem g_addL {a b : Addr} {xs ys : List V} (h1 : H a = some (.lst xs)) (h2 : H b = some (.lst ys)) (hl : xs.length + ys.length ≤ sizeLine) (hH : Has F O H) (q : ∀ p H', H p = none → Has F ((p, .lst (xs ++ ys)) :: O) H' → Q (.ref p) H') : rAdd K (.ref a) (.ref b) H Q :=
  .inr (.inl ⟨a, b, xs, ys, rfl, rfl, h1, h2, hl, fun p n => q p _ n (hH.new n)⟩)
theorem g_rI0 {g : Int → Int → V} {i j : Int} (q : Q (g i j) H) : rI0 g (.int i) (.int j) H Q := ⟨i, j, rfl, rfl, q⟩
theorem g_rI {C : Int → Int → Prop} {g : Int → Int → V} {i j : Int} (hc : C i j) (q : Q (g i j) H) : rI C g (.int i) (.int j) H Q := ⟨i, j, rfl, rfl, hc, q⟩
theorem g_rU {g : Int → V} {i : Int} (q : Q (g i) H) : rU g (.int i) H Q := ⟨i, rfl, q⟩
def rMul : R2 := fun x y H Q => rI CMul (fun i j => .int (i * j)) x y H Q ∨ rRep x y H Q
theorem g_mulI {i j : Int} (hc : CMul i j) (q : Q (.int (i * j)) H) : rMul (.int i) (.int j) H Q := .inl ⟨i, j, rfl, rfl, hc, q⟩
theorem g_mulL {a : Addr} {k : Int} {xs : List V} (h : H a = some (.lst xs)) (h1 : -(2 ^ 63) ≤ k) (h2 : k < 2 ^ 63) (hl : xs.length * k.toNat ≤ sizeLine) (hH : Has F O H)
    (q : ∀ p H', H p = none → Has F ((p, .lst (List.replicate k.toNat xs).flatten) :: O) H' → Q (.ref p) H') : rMul (.ref a) (.int k) H Q := .inr ⟨a, k, xs, rfl, rfl, h, h1, h2, hl, fun p n => q p _ n (hH.new n)⟩
def rEqA (K : PySem.W.Frag) : R2 := fun x y H Q => rEq x y H Q ∨ rEqD K x y H Q
def rNeA (K : PySem.W.Frag) : R2 := fun x y H Q => rNe x y H Q ∨ rNeD K x y H Q
theorem g_eqI {i j : Int} (q : Q (.bl (decide (i = j))) H) : rEqA K (.int i) (.int j) H Q := .inl ⟨rfl, by rw [dec_int, Bool.beq_eq_decide_eq]; exact q⟩
theorem g_eqS {i j : Str} (q : Q (.bl (decide (i = j))) H) : rEqA K (.str i) (.str j) H Q := .inl ⟨rfl, by rw [dec_str, Bool.beq_eq_decide_eq]; exact q⟩
theorem g_neI {i j : Int} (q : Q (.bl (!decide (i = j))) H) : rNeA K (.int i) (.int j) H Q := .inl ⟨rfl, by rw [dec_int, Bool.beq_eq_decide_eq]; exact q⟩
theorem g_neS {i j : Str} (q : Q (.bl (!decide (i = j))) H) : rNeA K (.str i) (.str j) H Q := .inl ⟨rfl, by rw [dec_str, Bool.beq_eq_decide_eq]; exact q⟩
theorem g_eqD {d e : PyData} (hx : Dq H x d) (hy : Dq H y e) (sd : SeqAt.shaped d = true) (se : SeqAt.shaped e = true) (q : Q (.bl (PyData.eqv d e)) H) : rEqA K x y H Q := .inr ⟨d, e, hx.dp K d x, hy.dp K e y, sd, se, q⟩
theorem g_neD {d e : PyData} (hx : Dq H x d) (hy : Dq H y e) (sd : SeqAt.shaped d = true) (se : SeqAt.shaped e = true) (q : Q (.bl (!PyData.eqv d e)) H) : rNeA K x y H Q := .inr ⟨d, e, hx.dp K d x, hy.dp K e y, sd, se, q⟩
def rIsN : R2 := fun x y H Q => y = .non ∧ Q (.bl (decide (x = .non))) H
def rNotN : R2 := fun x y H Q => y = .non ∧ Q (.bl (!decide (x = .non))) H
theorem g_isN (q : Q (.bl (decide (x = .non))) H) : rIsN x .non H Q := ⟨rfl, q⟩
theorem g_notN (q : Q (.bl (!decide (x = .non))) H) : rNotN x .non H Q := ⟨rfl, q⟩
def rIxD : R2 := fun x y H Q => ∃ a v, x = .ref a ∧ DGet H a y (some v) ∧ Q v H
def rIxA (K : PySem.W.Frag) : R2 := fun x y H Q => rIx K x y H Q ∨ rIxD x y H Q
theorem g_ixL {a : Addr} {xs : List V} {i : Int} (h : H a = some (.lst xs)) (ha : atI xs i = some v) (q : Q v H) : rIxA K (.ref a) (.int i) H Q := .inl <| .inl ⟨a, xs, i, v, rfl, rfl, SqL.of h, ha, q⟩
theorem g_ixT {a : Addr} {xs : List V} {i : Int} (h : H a = some (.tup xs)) (ha : atI xs i = some v) (q : Q v H) : rIxA K (.ref a) (.int i) H Q := .inl (.inr (.inl ⟨a, xs, i, v, rfl, rfl, SqT.of h, ha, q⟩))
theorem g_ixS {z : Str} {i : Int} {c : Nat} (hl : z.length ≤ sizeLine) (ha : atI z.cps.toList i = some c) (q : Q (.str ⟨#[c]⟩) H) : rIxA K (.str z) (.int i) H Q := .inl (.inr (.inr ⟨z, i, c, rfl, rfl, hl, ha, q⟩))
theorem at_n {xs : List V} {i : Int} (h0 : 0 ≤ i) (h : xs[i.toNat]? = some v) : atI xs i = some v := by
  have e : i = (i.toNat : Int) := by omega
  rw [e]
  exact atI_nat h

/-! ### calls of what is built in -/
def rLen (K : PySem.W.Frag) : List V → Hp → VK → Prop := fun xs H Q => (∃ p ys, xs = [.ref p] ∧ (SqL K H p ys ∨ SqT K H p ys) ∧ Q (.int ys.length) H) ∨ ∃ z, xs = [.str z] ∧ z.length ≤ sizeLine ∧ Q (.int z.length) H
theorem g_lenL {a : Addr} {xs : List V} (h : H a = some (.lst xs)) (q : Q (.int (xs.length : Int)) H) : rLen K [.ref a] H Q := .inl ⟨a, xs, rfl, .inl (SqL.of h), q⟩
theorem g_lenT {a : Addr} {xs : List V} (h : H a = some (.tup xs)) (q : Q (.int (xs.length : Int)) H) : rLen K [.ref a] H Q := .inl ⟨a, xs, rfl, .inr (SqT.of h), q⟩
theorem g_lenS {z : Str} (h : z.length ≤ sizeLine) (q : Q (.int (z.length : Int)) H) : rLen K [.str z] H Q := .inr ⟨z, rfl, h, q⟩
def rInt1 : List V → Hp → VK → Prop := fun xs H Q => (∃ i, xs = [.int i] ∧ Q (.int i) H) ∨ ∃ k, xs = [.bl k] ∧ Q (.int (if k then 1 else 0)) H
theorem g_int {i : Int} (q : Q (.int i) H) : rInt1 [.int i] H Q := .inl ⟨i, rfl, q⟩
theorem g_intB {k : Bool} (q : Q (.int (if k then 1 else 0)) H) : rInt1 [.bl k] H Q := .inr ⟨k, rfl, q⟩
def rAbs1 : List V → Hp → VK → Prop := fun xs H Q => ∃ i, xs = [.int i] ∧ Q (.int (if i < 0 then -i else i)) H
theorem g_abs {i : Int} (q : ∀ j : Int, 0 ≤ j → Q (.int j) H) : rAbs1 [.int i] H Q := ⟨i, rfl, q _ (by split <;> omega)⟩
def rMax2 : List V → Hp → VK → Prop := fun xs H Q => ∃ i j, xs = [.int i, .int j] ∧ Q (.int (if j > i then j else i)) H
theorem g_max2 {i j : Int} (q : Q (.int (max i j)) H) : rMax2 [.int i, .int j] H Q := ⟨i, j, rfl, by
  have e : (if j > i then j else i) = max i j := by split <;> omega
  rw [e]
  exact q⟩
def rListOf (K : PySem.W.Frag) : List V → Hp → VK → Prop := fun xs H Q => ∃ p ys, xs = [.ref p] ∧ (SqL K H p ys ∨ SqT K H p ys) ∧ ∀ l, H l = none → Q (.ref l) (upd H l (.lst ys))
theorem g_listL {a : Addr} {xs : List V} (h : H a = some (.lst xs)) (hH : Has F O H) (q : ∀ p H', H p = none → Has F ((p, .lst xs) :: O) H' → Q (.ref p) H') : rListOf K [.ref a] H Q := ⟨a, xs, rfl, .inl (SqL.of h), fun p n => q p _ n (hH.new n)⟩
theorem g_listT {a : Addr} {xs : List V} (h : H a = some (.tup xs)) (hH : Has F O H) (q : ∀ p H', H p = none → Has F ((p, .lst xs) :: O) H' → Q (.ref p) H') : rListOf K [.ref a] H Q := ⟨a, xs, rfl, .inr (SqT.of h), fun p n => q p _ n (hH.new n)⟩
def rTupleOf (K : PySem.W.Frag) : List V → Hp → VK → Prop := fun xs H Q => ∃ p ys, xs = [.ref p] ∧ ((SqL K H p ys ∧ ∀ l, H l = none → Q (.ref l) (upd H l (.tup ys))) ∨ (SqT K H p ys ∧ Q (.ref p) H))
theorem g_tupleL {a : Addr} {xs : List V} (h : H a = some (.lst xs)) (hH : Has F O H) (q : ∀ p H' F', H p = none → Same F F' → F' p = some (.tup xs) → Has F' O H' → Q (.ref p) H') : rTupleOf K [.ref a] H Q :=
  ⟨a, xs, rfl, .inl ⟨SqL.of h, fun p n => q p _ (upd F p (.tup xs)) n (same_upd (hH.same.free n)) upd_same (hH.new n).frz⟩⟩
theorem g_tupleT {a : Addr} {xs : List V} (h : H a = some (.tup xs)) (q : Q (.ref a) H) : rTupleOf K [.ref a] H Q := ⟨a, xs, rfl, .inr ⟨SqT.of h, q⟩⟩

/-! ### methods of lists, stores -/
theorem g_append {a : Addr} {xs : List V} (hH : Has F O H) (c : Chg O a (.lst xs) (.lst (xs ++ [y])) O') (hl : xs.length < sizeLine) (q : ∀ H', Has F O' H' → Q .non H') : rAppend (.ref a) [y] H Q :=
  ⟨a, xs, y, rfl, rfl, hH.get c.mem, hl, q _ (hH.put c)⟩
theorem g_popAt {a : Addr} {xs : List V} {i : Int} {k : Nat} (hH : Has F O H) (c : Chg O a (.lst xs) (.lst (xs.eraseIdx k)) O') (h1 : -(2 ^ 63) ≤ i) (h2 : i < 2 ^ 63) (hk : seqIndex? i xs.length = some k) (hy : xs[k]? = some y)
    (q : ∀ H', Has F O' H' → Q y H') : rPopAt (.ref a) [.int i] H Q := ⟨a, xs, i, k, y, rfl, rfl, hH.get c.mem, h1, h2, hk, hy, q _ (hH.put c)⟩
theorem g_clear {a : Addr} {xs : List V} (hH : Has F O H) (c : Chg O a (.lst xs) (.lst []) O') (q : ∀ H', Has F O' H' → Q .non H') : rClear (.ref a) [] H Q := ⟨a, xs, rfl, rfl, hH.get c.mem, q _ (hH.put c)⟩
/-- o[i] = v -/
def kSet (t : TSet) (R : L2.St → Hp → Prop) (σ : L2.St) (o i v : V) (H : Hp) : Prop := t o i v H fun H3 => R σ H3
theorem g_sub {to ti : TE} {t : TSet} {R : L2.St → Hp → Prop} (q : to σ H fun o H1 => ti σ H1 fun i H2 => kSet t R σ o i v H2) : gSub to ti t v σ H R := q
theorem g_setL {R : L2.St → Hp → Prop} {a : Addr} {xs : List V} {k : Int} {j : Nat} (hH : Has F O H) (c : Chg O a (.lst xs) (.lst (xs.set j v)) O') (hj : ixN xs.length k = some j) (q : ∀ H', Has F O' H' → R σ H') : kSet rSetL R σ (.ref a) (.int k) v H :=
  ⟨a, xs, k, j, rfl, rfl, hH.get c.mem, hj, q _ (hH.put c)⟩
theorem ixN_nat {n : Nat} {k : Int} (h0 : 0 ≤ k) (h : k < n) : ixN n k = some k.toNat := by
  unfold ixN
  rw [if_pos h0, if_pos h]
/-- a, b = a tuple -/
theorem g_gtup {n : Nat} {t : TGs} {a : Addr} {xs : List V} {R : L2.St → Hp → Prop} (h : H a = some (.tup xs)) (hl : xs.length = n) (q : t xs σ H R) : gTup K n t (.ref a) σ H R := ⟨a, xs, rfl, SqT.of h, hl, q⟩
theorem g_gcons {t : TG} {u : TGs} {r : List V} {R : L2.St → Hp → Prop} (q : t v σ H fun σ' H' => u r σ' H' R) : gCons t u (v :: r) σ H R := ⟨v, r, rfl, q⟩
theorem g_gnil {R : L2.St → Hp → Prop} (q : R σ H) : gNil [] σ H R := ⟨rfl, q⟩
/-- slices -/
def kSl (r : V → Option Int → Option Int → Hp → VK → Prop) (tl th : TO) (σ : L2.St) (x : V) (H : Hp) (Q : VK) : Prop := tl σ H fun l H2 => th σ H2 fun u H3 => r x l u H3 Q
theorem g_sl {r : V → Option Int → Option Int → Hp → VK → Prop} {tl th : TO} (q : te σ H fun x H1 => kSl r tl th σ x H1 Q) : tSl r te tl th σ H Q := q
theorem g_kslN {r : V → Option Int → Option Int → Hp → VK → Prop} (q : r x none none H Q) : kSl r tNoPart tNoPart σ x H Q := q
theorem g_kslL {r : V → Option Int → Option Int → Hp → VK → Prop} {tl : TE} {i : Int} (q : tl σ H fun z H1 => ∃ i, z = .int i ∧ r x (some i) none H1 Q) : kSl r (tPart tl) tNoPart σ x H Q := q
theorem g_kslH {r : V → Option Int → Option Int → Hp → VK → Prop} {tl : TE} {i : Int} (q : tl σ H fun z H1 => ∃ i, z = .int i ∧ r x none (some i) H1 Q) : kSl r tNoPart (tPart tl) σ x H Q := q
def rRevL (K : PySem.W.Frag) (x : V) (H : Hp) (Q : VK) : Prop := ∃ a xs, x = .ref a ∧ SqL K H a xs ∧ ∀ p, H p = none → Q (.ref p) (upd H p (.lst xs.reverse))
end

/-! ### loops -/
def kW (J : It) (g : TG) (tb : TS) (D : Ends) (σ : L2.St) (H : Hp) : Prop := ∃ W : Nat → Nat → L2.St → Hp → Prop, (∃ m, W 0 m σ H) ∧ ∀ i m σ H, W i m σ H →
  (J.stop i H ∧ D.nx σ H) ∨ (J.go i H ∧ ∃ N : L2.St → Hp → Prop, (∀ σ' H', N σ' H' → ∃ m', m' < m ∧ W (i + 1) m' σ' H') ∧ ∀ x H', J.yld i H x H' → g x σ H' fun σ2 H2 => tb { D with nx := N, ct := N, bk := D.nx } σ2 H2)
def kForL (K : PySem.W.Frag) (g : TG) (tb : TS) (D : Ends) (σ : L2.St) (x : V) (H : Hp) : Prop := ∃ a, x = .ref a ∧ (∃ xs, SqL K H a xs) ∧ kW (Itl K a) g tb D σ H
def kForR1 (g : TG) (tb : TS) (D : Ends) (σ : L2.St) (vs : List V) (H : Hp) : Prop := ∃ j : Int, vs = [.int j] ∧ -(2 ^ 62) ≤ j ∧ j < 2 ^ 62 ∧ kW (Itr 0 j.toNat) g tb D σ H
def kForR2 (g : TG) (tb : TS) (D : Ends) (σ : L2.St) (vs : List V) (H : Hp) : Prop := ∃ i j : Int, vs = [.int i, .int j] ∧ (-(2 ^ 62) ≤ i ∧ i < 2 ^ 62 ∧ -(2 ^ 62) ≤ j ∧ j < 2 ^ 62) ∧ kW (Itr i (j - i).toNat) g tb D σ H
def kForR3 (g : TG) (tb : TS) (D : Ends) (σ : L2.St) (vs : List V) (H : Hp) : Prop := ∃ (i j c : Int) (n : Nat), vs = [.int i, .int j, .int c] ∧ RgC i j c n ∧ kW (Itc i c n) g tb D σ H
section
variable {K : PySem.W.Frag} {σ : L2.St} {F : Hp} {O O' : Own} {H : Hp} {Q : VK} {ta tb tc te : TE} {x y v : V} {D : Ends} {t1 t2 ts : TS} {g : TG}
theorem g_forL (q : te σ H fun x H1 => kForL K g ts D σ x H1) : tFor (iList K te) g ts D σ H := q
theorem g_forR1 {ta : TA} (q : ta σ H fun vs H1 => kForR1 g ts D σ vs H1) : tFor (iRng1 ta) g ts D σ H := q
theorem g_forR2 {ta : TA} (q : ta σ H fun vs H1 => kForR2 g ts D σ vs H1) : tFor (iRng2 ta) g ts D σ H := q
theorem g_forR3 {ta : TA} (q : ta σ H fun vs H1 => kForR3 g ts D σ vs H1) : tFor (iRng3 ta) g ts D σ H := q
theorem k_forL {a : Addr} {xs : List V} (h : H a = some (.lst xs)) (Pv : Nat → L2.St → Hp → Prop) (h0 : Pv 0 σ H) (hl : ∀ i σ H, i ≤ xs.length → Pv i σ H → H a = some (.lst xs))
    (hs : ∀ i x σ H, xs[i]? = some x → Pv i σ H → g x σ H fun σ2 H2 => ts { D with nx := Pv (i + 1), ct := Pv (i + 1), bk := D.nx } σ2 H2) (hd : ∀ σ H, Pv xs.length σ H → D.nx σ H) : kForL K g ts D σ (.ref a) H :=
  ⟨a, rfl, ⟨xs, SqL.of h⟩, for_list Pv h0 (fun i σ H hi p => SqL.of (hl i σ H hi p)) hs hd⟩
theorem k_forR1 {j : Int} (Pv : Nat → L2.St → Hp → Prop) (h1 : -(2 ^ 62) ≤ j) (h2 : j < 2 ^ 62) (h0 : Pv 0 σ H)
    (hs : ∀ i σ H, i < j.toNat → Pv i σ H → g (.int (i : Int)) σ H fun σ2 H2 => ts { D with nx := Pv (i + 1), ct := Pv (i + 1), bk := D.nx } σ2 H2) (hd : ∀ σ H, Pv j.toNat σ H → D.nx σ H) : kForR1 g ts D σ [.int j] H :=
  ⟨j, rfl, h1, h2, for_range Pv h0 (fun i σ H hi p => by rw [Int.zero_add]; exact hs i σ H hi p) hd⟩
/-- n - 1 down to 0 -/
theorem k_forDown {n : Nat} {j : Int} (hj : j = (n : Int) - 1) (hn : n < 2 ^ 60) (Pv : Nat → L2.St → Hp → Prop) (h0 : Pv n σ H)
    (hs : ∀ i σ H, i < n → Pv (i + 1) σ H → g (.int (i : Int)) σ H fun σ2 H2 => ts { D with nx := Pv i, ct := Pv i, bk := D.nx } σ2 H2) (hd : ∀ σ H, Pv 0 σ H → D.nx σ H) : kForR3 g ts D σ [.int j, .int (-1), .int (-1)] H := by
  subst hj
  have e : (((n : Int) - 1) - (-1)).toNat = n := by omega
  have rg := RgC.neg (i := (n : Int) - 1) (j := -1) (by omega) (by omega) (by decide) (by decide)
  rw [e] at rg
  refine ⟨_, _, _, n, rfl, rg, for_rangeC (fun i => Pv (n - i)) h0 (fun i σ H hi p => ?_) (fun σ H p => ?_)⟩
  · have e1 : (n : Int) - 1 + (i : Nat) * (-1) = ((n - (i + 1) : Nat) : Int) := by omega
    have e2 : n - i = (n - (i + 1)) + 1 := by omega
    rw [e1]
    have p' : Pv ((n - (i + 1)) + 1) σ H := by rw [← e2]; exact p
    exact hs _ σ H (by omega) p'
  · have p' : Pv (n - n) σ H := p
    rw [Nat.sub_self] at p'
    exact hd σ H p'
/-- while -/
def kWh (Pv : Nat → L2.St → Hp → Prop) (m : Nat) (tb : TS) (D : Ends) (σ : L2.St) (b : Bool) (H : Hp) : Prop := if b = true then ∃ N : L2.St → Hp → Prop, (∀ σ' H', N σ' H' → ∃ m', m' < m ∧ Pv m' σ' H') ∧ tb { D with nx := N, ct := N, bk := D.nx } σ H else D.nx σ H
theorem g_while {c : TT} (Pv : Nat → L2.St → Hp → Prop) (m : Nat) (h0 : Pv m σ H) (hs : ∀ m σ H, Pv m σ H → c σ H fun b H1 => kWh Pv m ts D σ b H1) : tWhile c ts D σ H := ⟨Pv, ⟨m, h0⟩, hs⟩
theorem kwh_t {Pv : Nat → L2.St → Hp → Prop} {m : Nat} (q : ts { D with nx := fun σ' H' => ∃ m', m' < m ∧ Pv m' σ' H', ct := fun σ' H' => ∃ m', m' < m ∧ Pv m' σ' H', bk := D.nx } σ H) : kWh Pv m ts D σ true H := by
  unfold kWh
  rw [if_pos rfl]
  exact ⟨_, fun _ _ h => h, q⟩
theorem kwh_f {Pv : Nat → L2.St → Hp → Prop} {m : Nat} (q : D.nx σ H) : kWh Pv m ts D σ false H := by
  unfold kWh
  rw [if_neg Bool.false_ne_true]
  exact q

/-! ### list comprehensions -/
def kLc (J : It) (g : TG) (tt : TT) (te : TE) (vs : List Nat) (σ : L2.St) (H1 : Hp) (Q : VK) : Prop := ∀ D, H1 D = none → ∃ W : Nat → Nat → Hp → Prop, (∃ m, W 0 m (upd H1 D (.lst []))) ∧ ∀ i m H, W i m H →
  (J.stop i H ∧ Q (.ref D) H) ∨ (J.go i H ∧ ∃ Nx : Hp → Prop, (∀ H', Nx H' → ∃ m', m' < m ∧ W (i + 1) m' H') ∧ ∀ x H', J.yld i H x H' → g x (wipe σ vs) H' fun σ2 H2 => wipe σ2 vs = wipe σ vs ∧ tt σ2 H2 fun b H3 =>
    if b = true then te σ2 H3 fun y H4 => ∃ acc, H4 D = some (.lst acc) ∧ acc.length < sizeLine ∧ Nx (upd H4 D (.lst (acc ++ [y]))) else Nx H3)
def kLcL (K : PySem.W.Frag) (g : TG) (tt : TT) (te : TE) (vs : List Nat) (σ : L2.St) (x : V) (H : Hp) (Q : VK) : Prop := ∃ a, x = .ref a ∧ (∃ xs, SqL K H a xs) ∧ kLc (Itl K a) g tt te vs σ H Q
def kLcR1 (g : TG) (tt : TT) (te : TE) (ws : List Nat) (σ : L2.St) (vs : List V) (H : Hp) (Q : VK) : Prop := ∃ j : Int, vs = [.int j] ∧ -(2 ^ 62) ≤ j ∧ j < 2 ^ 62 ∧ kLc (Itr 0 j.toNat) g tt te ws σ H Q
theorem g_lcL {tt : TT} {vs : List Nat} (q : ta σ H fun x H1 => kLcL K g tt te vs σ x H1 Q) : tLc (iList K ta) g tt te vs σ H Q := q
theorem g_lcR1 {ta : TA} {tt : TT} {vs : List Nat} (q : ta σ H fun xs H1 => kLcR1 g tt te vs σ xs H1 Q) : tLc (iRng1 ta) g tt te vs σ H Q := q
/-- what a turn is to leave -/
def kNx (S : Nat → List V → Hp → Own → Prop) (i : Nat) (D : Addr) (H : Hp) : Prop := ∃ acc F' O', S (i + 1) acc F' O' ∧ Has F' ((D, .lst acc) :: O') H
def kTurn (D : Addr) (Nx : Hp → Prop) (y : V) (H : Hp) : Prop := ∃ acc, H D = some (.lst acc) ∧ acc.length < sizeLine ∧ Nx (upd H D (.lst (acc ++ [y])))
theorem k_turn {S : Nat → List V → Hp → Own → Prop} {i : Nat} {D : Addr} {acc : List V} {y : V} {H : Hp} {F : Hp} {O : Own} (h : Has F ((D, .lst acc) :: O) H) (hl : acc.length ≤ 100000) (s : S (i + 1) (acc ++ [y]) F O) : kTurn D (kNx S i D) y H :=
  ⟨acc, h.get (List.Mem.head _), by rw [sizeLine_eq]; omega, _, F, O, s, h.put .hd⟩
theorem k_skip {S : Nat → List V → Hp → Own → Prop} {i : Nat} {D : Addr} {acc : List V} {H : Hp} {F : Hp} {O : Own} (h : Has F ((D, .lst acc) :: O) H) (s : S (i + 1) acc F O) : kNx S i D H := ⟨acc, F, O, s, h⟩
theorem k_lc {J : It} {tt : TT} {vs : List Nat} (hH : Has F O H) (n : Nat) (S : Nat → List V → Hp → Own → Prop) (h0 : S 0 [] F O)
    (go : ∀ i acc F O D H, i < n → S i acc F O → Has F ((D, .lst acc) :: O) H → J.go i H) (stop : ∀ acc F O D H, S n acc F O → Has F ((D, .lst acc) :: O) H → J.stop n H)
    (hs : ∀ i x acc F O D H H', i < n → J.yld i H x H' → S i acc F O → Has F ((D, .lst acc) :: O) H → g x (wipe σ vs) H' fun σ2 H2 => wipe σ2 vs = wipe σ vs ∧ tt σ2 H2 fun b H3 => if b = true then te σ2 H3 fun y H4 => kTurn D (kNx S i D) y H4 else kNx S i D H3)
    (hd : ∀ acc F O D H, S n acc F O → Has F ((D, .lst acc) :: O) H → Q (.ref D) H) : kLc J g tt te vs σ H Q := by
  intro D hD
  refine ⟨fun i m H => m = n - i ∧ i ≤ n ∧ ∃ acc F O, S i acc F O ∧ Has F ((D, .lst acc) :: O) H, ⟨n, by simp, Nat.zero_le _, [], F, O, h0, hH.new hD⟩, ?_⟩
  rintro i m H1 ⟨rfl, hi, acc, F1, O1, s1, hH1⟩
  by_cases hlt : i < n
  · exact .inr ⟨go i acc F1 O1 D H1 hlt s1 hH1, kNx S i D, fun H' p => ⟨n - (i + 1), by omega, rfl, hlt, p⟩, fun x H' y => hs i x acc F1 O1 D H1 H' hlt y s1 hH1⟩
  · have e : i = n := by omega
    subst e
    exact .inl ⟨stop acc F1 O1 D H1 s1 hH1, hd acc F1 O1 D H1 s1 hH1⟩
/-- over a list that stands still -/
theorem k_lcL {a : Addr} {xs : List V} {tt : TT} {vs : List Nat} (h : H a = some (.lst xs)) (hH : Has F O H) (S : Nat → List V → Hp → Own → Prop) (h0 : S 0 [] F O) (hl : ∀ i acc F O H, S i acc F O → Has F O H → H a = some (.lst xs))
    (hs : ∀ i x acc F O D H, xs[i]? = some x → S i acc F O → Has F ((D, .lst acc) :: O) H → g x (wipe σ vs) H fun σ2 H2 => wipe σ2 vs = wipe σ vs ∧ tt σ2 H2 fun b H3 => if b = true then te σ2 H3 fun y H4 => kTurn D (kNx S i D) y H4 else kNx S i D H3)
    (hd : ∀ acc F O D H, S xs.length acc F O → Has F ((D, .lst acc) :: O) H → Q (.ref D) H) : kLcL K g tt te vs σ (.ref a) H Q := by
  refine ⟨a, rfl, ⟨xs, SqL.of h⟩, k_lc hH xs.length S h0 (fun i acc F O D H hi s hh => ?_) (fun acc F O D H s hh => ?_) (fun i x acc F O D H H' hi y s hh => ?_) hd⟩
  · exact ⟨xs, xs[i], SqL.of (hl i acc F O H s hh.drop), List.getElem?_eq_getElem hi⟩
  · exact ⟨xs, SqL.of (hl _ acc F O H s hh.drop), Nat.le_refl _⟩
  · obtain ⟨e, y⟩ := y
    subst e
    exact hs i x acc F O D _ (y xs (SqL.of (hl i acc F O _ s hh.drop))) s hh
theorem k_lcR1 {j : Int} {tt : TT} {vs : List Nat} (h1 : -(2 ^ 62) ≤ j) (h2 : j < 2 ^ 62) (hH : Has F O H) (S : Nat → List V → Hp → Own → Prop) (h0 : S 0 [] F O)
    (hs : ∀ i acc F O D H, i < j.toNat → S i acc F O → Has F ((D, .lst acc) :: O) H → g (.int (i : Int)) (wipe σ vs) H fun σ2 H2 => wipe σ2 vs = wipe σ vs ∧ tt σ2 H2 fun b H3 => if b = true then te σ2 H3 fun y H4 => kTurn D (kNx S i D) y H4 else kNx S i D H3)
    (hd : ∀ acc F O D H, S j.toNat acc F O → Has F ((D, .lst acc) :: O) H → Q (.ref D) H) : kLcR1 g tt te vs σ [.int j] H Q := by
  refine ⟨j, rfl, h1, h2, k_lc hH j.toNat S h0 (fun i acc F O D H hi s hh => hi) (fun acc F O D H s hh => Nat.le_refl _) (fun i x acc F O D H H' hi y s hh => ?_) hd⟩
  obtain ⟨e, y⟩ := y
  subst e y
  rw [Int.zero_add]
  exact hs i acc F O D _ hi s hh
end

/-! ### the rules' own soundness: one operator for several kinds -/
section
variable {X : Cx}
theorem op_addA : OpR X (binaryOp .Add) (rAdd X.K) := by
  intro pins s σ H x y v u Q I rx ry h
  rcases h with (h | h) | h | h
  · exact op_add pins s σ H x y v u Q I rx ry h
  · exact op_add_str pins s σ H x y v u Q I rx ry h
  · exact op_cat pins s σ H x y v u Q I rx ry h
  · exact op_catA pins s σ H x y v u Q I rx ry h
theorem op_mulA : OpR X (binaryOp .Mult) rMul := by
  intro pins s σ H x y v u Q I rx ry h
  rcases h with h | h
  · exact op_mul pins s σ H x y v u Q I rx ry h
  · exact op_rep pins s σ H x y v u Q I rx ry h
theorem op_eqA (hu : X.A.units + 64 < cLine) : OpR X (compareOp .Eq) (rEqA X.K) := by
  intro pins s σ H x y v u Q I rx ry h
  rcases h with h | h
  · exact op_eq pins s σ H x y v u Q I rx ry h
  · exact op_eqD hu pins s σ H x y v u Q I rx ry h
theorem op_neA (hu : X.A.units + 64 < cLine) : OpR X (compareOp .NotEq) (rNeA X.K) := by
  intro pins s σ H x y v u Q I rx ry h
  rcases h with h | h
  · exact op_ne pins s σ H x y v u Q I rx ry h
  · exact op_neD hu pins s σ H x y v u Q I rx ry h
theorem op_isNA : OpR X (compareOp .Is) rIsN := op_isN
theorem op_notNA : OpR X (compareOp .IsNot) rNotN := op_notN
theorem cr_len : CallR X (.builtin "len") (rLen X.K) := by
  intro pins s σ H xs us Q I r h
  rcases h with h | h
  · exact call_len_seq pins s σ H xs us Q I r h
  · exact call_len_str pins s σ H xs us Q I r h
theorem cr_int1 : CallR X (.type "int") rInt1 := call_int1
theorem cr_abs1 : CallR X (.builtin "abs") rAbs1 := call_abs
theorem cr_max2 (hc : X.calm = true) : CallR X (.builtin "max") rMax2 := call_max2 hc
theorem cr_listOf : CallR X (.type "list") (rListOf X.K) := call_list_of
theorem cr_tupleOf : CallR X (.type "tuple") (rTupleOf X.K) := call_tuple_of
end

/-! ### dicts -/
def rInDc : R2 := fun x y H Q => ∃ a o, y = .ref a ∧ DGet H a x o ∧ Q (.bl o.isSome) H
def rNotInDc : R2 := fun x y H Q => ∃ a o, y = .ref a ∧ DGet H a x o ∧ Q (.bl (!o.isSome)) H
section
variable {X : Cx}
theorem op_inDc (hu : X.A.units + 1 < cLine) : OpR X (compareOp .In) rInDc := by
  intro pins s σ H x y v u Q I rx ry h
  obtain ⟨a, o, rfl, g, q⟩ := h
  cases ry
  exact d_in hu I g rx fun s' I' => ⟨.bl _, H, I', rfl, q⟩
theorem op_notinDc (hu : X.A.units + 1 < cLine) : OpR X (compareOp .NotIn) rNotInDc := by
  intro pins s σ H x y v u Q I rx ry h
  obtain ⟨a, o, rfl, g, q⟩ := h
  cases ry
  exact d_notIn hu I g rx fun s' I' => ⟨.bl _, H, I', rfl, q⟩
end
def kGet2 (ty tx : TE) (σ : L2.St) (x : V) (H : Hp) (Q : VK) : Prop := ∃ a, x = .ref a ∧ IsD H a ∧ ty σ H fun y H2 => tx σ H2 fun z H3 => ∃ o, DGet H3 a y o ∧ Q (o.getD z) H3
def kGot (a : Addr) (y z : V) (H : Hp) (Q : VK) : Prop := ∃ o, DGet H a y o ∧ Q (o.getD z) H
section
variable {K : PySem.W.Frag} {σ : L2.St} {F : Hp} {O O' : Own} {H : Hp} {Q : VK} {ta tb tc te : TE} {x y v : V} {D : Ends} {t1 t2 ts : TS} {g : TG}
theorem g_dnew (hH : Has F O H) (q : ∀ p H', H p = none → Has F ((p, .dK []) :: O) H' → Q (.ref p) H') : tDNewK σ H Q := fun p n => q p _ n (hH.new n)
theorem g_inDI {a : Addr} {kvs : List (Key × V)} {i : Int} (h : H a = some (.dK kvs)) (q : Q (.bl (valV kvs (.inl i)).isSome) H) : rInDc (.int i) (.ref a) H Q := ⟨a, _, rfl, DGet.k (k := .inl i) h, q⟩
theorem g_notinDI {a : Addr} {kvs : List (Key × V)} {i : Int} (h : H a = some (.dK kvs)) (q : Q (.bl (!(valV kvs (.inl i)).isSome)) H) : rNotInDc (.int i) (.ref a) H Q := ⟨a, _, rfl, DGet.k (k := .inl i) h, q⟩
theorem g_setDI {R : L2.St → Hp → Prop} {a : Addr} {kvs : List (Key × V)} {i : Int} (hH : Has F O H) (c : Chg O a (.dK kvs) (.dK (putK kvs (.inl i) v)) O') (hl : kvs.length < sizeLine) (q : ∀ H', Has F O' H' → R σ H') : kSet rSetD R σ (.ref a) (.int i) v H :=
  ⟨a, _, rfl, DPut.k (k := .inl i) (hH.get c.mem) hl, q _ (hH.put c)⟩
theorem g_get2 (q : ta σ H fun x H1 => kGet2 tb tc σ x H1 Q) : tDGet2 ta tb tc σ H Q := q
theorem g_kget2 {a : Addr} {kvs : List (Key × V)} (h : H a = some (.dK kvs)) (q : tb σ H fun y H2 => tc σ H2 fun z H3 => kGot a y z H3 Q) : kGet2 tb tc σ (.ref a) H Q := ⟨a, rfl, .inl ⟨kvs, .inl h⟩, q⟩
theorem g_kgotI {a : Addr} {kvs : List (Key × V)} {i : Int} {z : V} (h : H a = some (.dK kvs)) (q : Q ((valV kvs (.inl i)).getD z) H) : kGot a (.int i) z H Q := ⟨_, DGet.k (k := .inl i) h, q⟩
theorem g_kgotS {a : Addr} {kvs : List (Key × V)} {i : Str} {z : V} (h : H a = some (.dK kvs)) (q : Q ((valV kvs (.inr i)).getD z) H) : kGot a (.str i) z H Q := ⟨_, DGet.k (k := .inr i) h, q⟩
end

/-! ### in, not in; o[i] = v: any of the kinds -/
def rInA (K : PySem.W.Frag) : R2 := fun x y H Q => (rIn K false x y H Q ∨ rInDc x y H Q) ∨ (∃ i j, x = .str i ∧ y = .str j ∧ Q (.bl (!(Builtin.Str.occurrences j i 0 j.length 1).isEmpty)) H) ∨ rInD K x y H Q
def rNotInA (K : PySem.W.Frag) : R2 := fun x y H Q => (rIn K true x y H Q ∨ rNotInDc x y H Q) ∨ (∃ i j, x = .str i ∧ y = .str j ∧ Q (.bl (!(!(Builtin.Str.occurrences j i 0 j.length 1).isEmpty))) H) ∨ rNotInD K x y H Q
def rSetA : TSet := fun o i v H Q => rSetL o i v H Q ∨ rSetD o i v H Q
section
variable {X : Cx}
theorem op_inA (hu : X.A.units + 64 < cLine) (hu' : X.A.units + 65 < cLine) : OpR X (compareOp .In) (rInA X.K) := by
  intro pins s σ H x y v u Q I rx ry h
  rcases h with (h | h) | h | h
  · exact op_in_seq pins s σ H x y v u Q I rx ry h
  · exact op_inDc (by omega) pins s σ H x y v u Q I rx ry h
  · exact op_in_str pins s σ H x y v u Q I rx ry h
  · exact op_inD hu' pins s σ H x y v u Q I rx ry h
theorem op_notinA (hu : X.A.units + 64 < cLine) (hu' : X.A.units + 65 < cLine) : OpR X (compareOp .NotIn) (rNotInA X.K) := by
  intro pins s σ H x y v u Q I rx ry h
  rcases h with (h | h) | h | h
  · exact op_notIn_seq pins s σ H x y v u Q I rx ry h
  · exact op_notinDc (by omega) pins s σ H x y v u Q I rx ry h
  · exact L2.op_notIn_str pins s σ H x y v u Q I rx ry h
  · exact op_notInD hu' pins s σ H x y v u Q I rx ry h
theorem set_any (hu : X.A.units + 1 < cLine) : PSet X rSetA := by
  intro pins s σ H o i v ov iv u Q I ro ri rv h
  rcases h with h | h
  · exact set_list pins s σ H o i v ov iv u Q I ro ri rv h
  · exact set_dict hu pins s σ H o i v ov iv u Q I ro ri rv h
theorem u65 {k : Nat} {A : Around} (r : Room k A) : A.units + 65 < cLine := by have := r.un; omega
end
section
variable {K : PySem.W.Frag} {σ : L2.St} {F : Hp} {O O' : Own} {H : Hp} {Q : VK} {x y v : V}
theorem g_inFL {a : Addr} {xs : List V} (h : H a = some (.lst xs)) (hx : flatV x = true) (hf : xs.all flatV = true) (q : Q (.bl (inV x xs)) H) : rInA K x (.ref a) H Q := .inl (.inl ⟨a, xs, rfl, .inl (SqL.of h), hx, hf, q⟩)
theorem g_notinFL {a : Addr} {xs : List V} (h : H a = some (.lst xs)) (hx : flatV x = true) (hf : xs.all flatV = true) (q : Q (.bl (!inV x xs)) H) : rNotInA K x (.ref a) H Q := .inl (.inl ⟨a, xs, rfl, .inl (SqL.of h), hx, hf, q⟩)
theorem g_inI {a : Addr} {kvs : List (Key × V)} {i : Int} (h : H a = some (.dK kvs)) (q : Q (.bl (valV kvs (.inl i)).isSome) H) : rInA K (.int i) (.ref a) H Q := .inl (.inr ⟨a, _, rfl, DGet.k (k := .inl i) h, q⟩)
theorem g_notinI {a : Addr} {kvs : List (Key × V)} {i : Int} (h : H a = some (.dK kvs)) (q : Q (.bl (!(valV kvs (.inl i)).isSome)) H) : rNotInA K (.int i) (.ref a) H Q := .inl (.inr ⟨a, _, rfl, DGet.k (k := .inl i) h, q⟩)
theorem g_inS {a : Addr} {kvs : List (Key × V)} {i : Str} (h : H a = some (.dK kvs)) (q : Q (.bl (valV kvs (.inr i)).isSome) H) : rInA K (.str i) (.ref a) H Q := .inl (.inr ⟨a, _, rfl, DGet.k (k := .inr i) h, q⟩)
theorem g_notinS {a : Addr} {kvs : List (Key × V)} {i : Str} (h : H a = some (.dK kvs)) (q : Q (.bl (!(valV kvs (.inr i)).isSome)) H) : rNotInA K (.str i) (.ref a) H Q := .inl (.inr ⟨a, _, rfl, DGet.k (k := .inr i) h, q⟩)
theorem g_stL {R : L2.St → Hp → Prop} {a : Addr} {xs : List V} {k : Int} {j : Nat} (hH : Has F O H) (c : Chg O a (.lst xs) (.lst (xs.set j v)) O') (hj : ixN xs.length k = some j) (q : ∀ H', Has F O' H' → R σ H') : kSet rSetA R σ (.ref a) (.int k) v H :=
  .inl ⟨a, xs, k, j, rfl, rfl, hH.get c.mem, hj, q _ (hH.put c)⟩
theorem g_stD {R : L2.St → Hp → Prop} {a : Addr} {kvs : List (Key × V)} {k : Key} {z : V} (ez : z = kV k) (hH : Has F O H) (c : Chg O a (.dK kvs) (.dK (putK kvs k v)) O') (hl : kvs.length < sizeLine) (q : ∀ H', Has F O' H' → R σ H') : kSet rSetA R σ (.ref a) z v H := by
  subst ez
  exact .inr ⟨a, _, rfl, DPut.k (hH.get c.mem) hl, q _ (hH.put c)⟩
end

/-! ### an argument that is changed -/
def rm (H : Hp) (a : Addr) : Hp := fun b => if b = a then none else H b
/-- all but a stands as it stood -/
def But (a : Addr) (H H' : Hp) : Prop := ∀ b u, b ≠ a → H b = some u → H' b = some u
theorem rm_at {H : Hp} {a : Addr} : rm H a a = none := if_pos rfl
theorem rm_ne {H : Hp} {a b : Addr} (h : b ≠ a) : rm H a b = H b := if_neg h
theorem Has.arg {H : Hp} {a : Addr} {o : HO} (h : H a = some o) : Has (rm H a) [(a, o)] H := by
  refine ⟨fun b u q => ?_, fun p hp => ?_, by simp⟩
  · by_cases e : b = a
    · subst e; rw [rm_at] at q; cases q
    · rw [rm_ne e] at q; exact q
  · have e : p = (a, o) := by simpa using hp
    subst e
    exact ⟨rm_at, h⟩
theorem But.of {H H' : Hp} {a : Addr} (h : Same (rm H a) H') : But a H H' := fun b u ne q => h b u (by rw [rm_ne ne]; exact q)
theorem But.trans {a : Addr} {H H1 H2 : Hp} (x : But a H H1) (y : But a H1 H2) : But a H H2 := fun b u ne q => y b u ne (x b u ne q)
theorem But.same {a : Addr} {H H1 H2 : Hp} (x : But a H H1) (y : Same H1 H2) : But a H H2 := fun b u ne q => y b u (x b u ne q)
section
variable {K : PySem.W.Frag} {σ : L2.St} {F : Hp} {O O' : Own} {H : Hp} {Q : VK} {x y v : V}
/-- a test by a fact about its answer -/
theorem g_fact {t : TT} {R : Bool → Hp → Prop} (C : Bool → Prop) (h : ∀ R : Bool → Hp → Prop, (∀ b, C b → R b H) → t σ H R) (q : ∀ b, C b → R b H) : t σ H R := h R q
theorem g_ixV {a : Addr} {xs : List V} {i : Int} (h : H a = some (.lst xs)) (h0 : 0 ≤ i) (hl : i < xs.length) (q : ∀ v, xs[i.toNat]? = some v → Q v H) : rIxA K (.ref a) (.int i) H Q := by
  have e : i.toNat < xs.length := by omega
  exact g_ixL h (at_n h0 (List.getElem?_eq_getElem e)) (q _ (List.getElem?_eq_getElem e))
theorem g_ixI {a : Addr} {xs : List Int} {i : Int} (h : H a = some (.lst (xs.map V.int))) (h0 : 0 ≤ i) (hl : i < xs.length) (q : ∀ z, xs[i.toNat]? = some z → Q (.int z) H) : rIxA K (.ref a) (.int i) H Q := by
  have e : i.toNat < xs.length := by omega
  refine g_ixL h (at_n h0 (v := .int xs[i.toNat]) ?_) (q _ (List.getElem?_eq_getElem e))
  rw [List.getElem?_map, List.getElem?_eq_getElem e]
  rfl
theorem g_ixZ {a : Addr} {xs : List Str} {i : Int} (h : H a = some (.lst (xs.map V.str))) (h0 : 0 ≤ i) (hl : i < xs.length) (q : ∀ z, xs[i.toNat]? = some z → Q (.str z) H) : rIxA K (.ref a) (.int i) H Q := by
  have e : i.toNat < xs.length := by omega
  refine g_ixL h (at_n h0 (v := .str xs[i.toNat]) ?_) (q _ (List.getElem?_eq_getElem e))
  rw [List.getElem?_map, List.getElem?_eq_getElem e]
  rfl
theorem g_stI {R : L2.St → Hp → Prop} {a : Addr} {xs : List Int} {k z : Int} (hH : Has F O H) (c : Chg O a (.lst (xs.map V.int)) (.lst ((xs.set k.toNat z).map V.int)) O') (h0 : 0 ≤ k) (hl : k < xs.length) (q : ∀ H', Has F O' H' → R σ H') : kSet rSetA R σ (.ref a) (.int k) (.int z) H := by
  refine g_stL (xs := xs.map V.int) (j := k.toNat) hH ?_ (ixN_nat h0 (by rw [List.length_map]; exact hl)) q
  rw [← List.map_set]
  exact c
theorem g_popAtI {a : Addr} {xs : List Int} {i : Int} (hH : Has F O H) (c : Chg O a (.lst (xs.map V.int)) (.lst ((xs.eraseIdx i.toNat).map V.int)) O') (h0 : 0 ≤ i) (hl : i < xs.length) (h2 : xs.length ≤ 1000) (q : ∀ H' z, Has F O' H' → Q (.int z) H') : rPopAt (.ref a) [.int i] H Q := by
  have e : i.toNat < xs.length := by omega
  refine g_popAt (xs := xs.map V.int) (k := i.toNat) (y := .int xs[i.toNat]) hH ?_ (by omega) (by omega) ?_ ?_ (fun H' h => q H' _ h)
  · have : (xs.map V.int).eraseIdx i.toNat = (xs.eraseIdx i.toNat).map V.int := by
      rw [List.eraseIdx_eq_take_drop_succ, List.eraseIdx_eq_take_drop_succ, List.map_append, List.map_take, List.map_drop]
    rw [this]
    exact c
  · have := (ixN_seq (n := (xs.map V.int).length) (i := i) (j := i.toNat) (ixN_nat h0 (by rw [List.length_map]; exact hl))).1
    exact this
  · rw [List.getElem?_map, List.getElem?_eq_getElem e]
    rfl
end
theorem sz {n : Nat} (h : n ≤ 100000) : n ≤ sizeLine := by rw [sizeLine_eq]; omega
theorem szl {n : Nat} (h : n < 100000) : n < sizeLine := by rw [sizeLine_eq]; omega

section
variable {K : PySem.W.Frag} {σ : L2.St} {F : Hp} {O O' : Own} {H : Hp} {Q : VK} {x y v : V} {te ta : TE}
theorem g_yes {R : Bool → Hp → Prop} (q : R true H) : tYes σ H R := q
theorem g_wipe {σ1 σ2 : L2.St} {B : Prop} (e : σ1 = σ2) (q : B) : σ1 = σ2 ∧ B := ⟨e, q⟩
def kOI (x : V) (H : Hp) (R : Option Int → Hp → Prop) : Prop := ∃ i, x = .int i ∧ R (some i) H
theorem g_part {R : Option Int → Hp → Prop} (q : te σ H fun x H1 => kOI x H1 R) : tPart te σ H R := q
theorem g_kOI {R : Option Int → Hp → Prop} {i : Int} (q : R (some i) H) : kOI (.int i) H R := ⟨i, rfl, q⟩
theorem g_nopart {R : Option Int → Hp → Prop} (q : R none H) : tNoPart σ H R := q
theorem g_slice {r : V → Option Int → Option Int → Hp → VK → Prop} {tl th : TO} (q : te σ H fun x H1 => tl σ H1 fun l H2 => th σ H2 fun u H3 => r x l u H3 Q) : tSl r te tl th σ H Q := q
def rSlB (K : PySem.W.Frag) : V → Option Int → Option Int → Hp → VK → Prop := fun x lo hi H Q => rSlL K x lo hi H Q ∨ rSlA K x lo hi H Q
theorem g_slS {a : Addr} {xs : List V} {lo hi : Option Int} (h : SqL K H a xs) (hH : Has F O H) (q : ∀ p H', H p = none → Has F ((p, .lst (cutV xs lo hi)) :: O) H' → Q (.ref p) H') : rSlB K (.ref a) lo hi H Q := .inl ⟨a, xs, rfl, h, fun p n => q p _ n (hH.new n)⟩
theorem g_slTF {a : Addr} {xs : List V} {lo hi : Option Int} (h : F a = some (.tup xs)) (hH : Has F O H) (q : ∀ p H' F', Same F F' → F' p = some (.tup (cutV xs lo hi)) → Has F' O H' → Q (.ref p) H') : rSlB K (.ref a) lo hi H Q :=
  .inr ⟨a, xs, rfl, SqT.of (hH.same _ _ h), fun w => q a H F (Same.refl _) (by
    have e : cutV xs lo hi = xs := by
      unfold cutV
      rw [w.1, w.2, List.drop_zero, Nat.sub_zero, List.take_length]
    rw [e]; exact h) hH, fun _ p n => q p _ (upd F p (.tup (cutV xs lo hi))) (same_upd (hH.same.free n)) upd_same (hH.new n).frz⟩
theorem g_addTF {a b : Addr} {xs ys : List V} (h1 : F a = some (.tup xs)) (h2 : F b = some (.tup ys)) (hl : xs.length + ys.length ≤ sizeLine) (hH : Has F O H) (q : ∀ p H' F', Same F F' → F' p = some (.tup (xs ++ ys)) → Has F' O H' → Q (.ref p) H') : rAdd K (.ref a) (.ref b) H Q :=
  .inr (.inr ⟨a, b, xs, ys, rfl, rfl, SqT.of (hH.same _ _ h1), SqT.of (hH.same _ _ h2), hl, fun e => q b H F (Same.refl _) (by rw [e]; exact h2) hH, fun _ e => q a H F (Same.refl _) (by rw [e, List.append_nil]; exact h1) hH,
    fun _ _ p n => q p _ (upd F p (.tup (xs ++ ys))) (same_upd (hH.same.free n)) upd_same (hH.new n).frz⟩)
theorem g_slL {a : Addr} {xs : List V} {lo hi : Option Int} (h : H a = some (.lst xs)) (hH : Has F O H) (q : ∀ p H', H p = none → Has F ((p, .lst (cutV xs lo hi)) :: O) H' → Q (.ref p) H') : rSlB K (.ref a) lo hi H Q := g_slS (SqL.of h) hH q
theorem cutV_ints (ns : List Int) (lo hi : Option Int) : ∃ ms : List Int, cutV (ns.map V.int) lo hi = ms.map V.int ∧ ms.length ≤ ns.length := by
  refine ⟨(ns.drop (HT.sIx ns.length 0 lo)).take (HT.sIx ns.length ns.length hi - HT.sIx ns.length 0 lo), ?_, ?_⟩
  · unfold cutV
    rw [List.length_map, List.map_take, List.map_drop]
  · rw [List.length_take, List.length_drop]
    omega
theorem g_revL {a : Addr} {xs : List V} (h : H a = some (.lst xs)) (hH : Has F O H) (q : ∀ p H', H p = none → Has F ((p, .lst xs.reverse) :: O) H' → Q (.ref p) H') : (∃ b ys, V.ref a = .ref b ∧ SqL K H b ys ∧ ∀ p, H p = none → Q (.ref p) (upd H p (.lst ys.reverse))) :=
  ⟨a, xs, rfl, SqL.of h, fun p n => q p _ n (hH.new n)⟩
theorem g_tRev (q : te σ H fun x H1 => rRevL K x H1 Q) : tRevL K te σ H Q := q
theorem g_rRev {a : Addr} {xs : List V} (h : H a = some (.lst xs)) (hH : Has F O H) (q : ∀ p H', H p = none → Has F ((p, .lst xs.reverse) :: O) H' → Q (.ref p) H') : rRevL K (.ref a) H Q := ⟨a, xs, rfl, SqL.of h, fun p n => q p _ n (hH.new n)⟩
/-- an item of a list of texts that are in order, of ints from 0 to n -/
def okS : V → Bool
  | .str z => PyData.strOk z
  | _ => false
def okI (n : Int) : V → Bool
  | .int z => decide (0 ≤ z ∧ z ≤ n)
  | _ => false
theorem g_ixM {a : Addr} {xs : List V} {i : Int} (h : H a = some (.lst xs)) (ok : xs.all okS = true) (h0 : 0 ≤ i) (hl : i < xs.length) (q : ∀ z, PyData.strOk z = true → Q (.str z) H) : rIxA K (.ref a) (.int i) H Q := by
  refine g_ixV h h0 hl fun v hv => ?_
  have m := List.all_eq_true.mp ok v (List.mem_of_getElem? hv)
  cases v with
  | str z => exact q z m
  | _ => cases m
theorem g_ixN {n : Int} {a : Addr} {xs : List V} {i : Int} (h : H a = some (.lst xs)) (ok : xs.all (okI n) = true) (h0 : 0 ≤ i) (hl : i < xs.length) (q : ∀ z, 0 ≤ z → z ≤ n → Q (.int z) H) : rIxA K (.ref a) (.int i) H Q := by
  refine g_ixV h h0 hl fun v hv => ?_
  have m := List.all_eq_true.mp ok v (List.mem_of_getElem? hv)
  cases v with
  | int z =>
    have := of_decide_eq_true (show decide (0 ≤ z ∧ z ≤ n) = true from m)
    exact q z this.1 this.2
  | _ => cases m
end

/-! ### tables of ints: a list of rows -/
def rowO (r : Addr × List Int) : Addr × HO := (r.1, .lst (r.2.map V.int))
def tabO (t : Addr) (rows : List (Addr × List Int)) : Own := (t, .lst (rows.map fun r => V.ref r.1)) :: rows.map rowO
theorem Chg.row {r : Addr × List Int} {zs : List Int} {O : Own} : ∀ {rows : List (Addr × List Int)} {k : Nat}, rows[k]? = some r → Chg (rows.map rowO ++ O) r.1 (.lst (r.2.map V.int)) (.lst (zs.map V.int)) ((rows.set k (r.1, zs)).map rowO ++ O)
  | [], k, h => by simp at h
  | x :: rows, 0, h => by
    have e : x = r := Option.some.inj h
    subst e
    exact .hd
  | x :: rows, k + 1, h => .tl (Chg.row (rows := rows) (k := k) h)
theorem rows_ref {r : Addr × List Int} {zs : List Int} : ∀ {rows : List (Addr × List Int)} {k : Nat}, rows[k]? = some r → (rows.set k (r.1, zs)).map (fun r => V.ref r.1) = rows.map fun r => V.ref r.1
  | [], k, h => by simp at h
  | x :: rows, 0, h => by
    have e : x = r := Option.some.inj h
    subst e
    rfl
  | x :: rows, k + 1, h => by
    have := rows_ref (rows := rows) (k := k) (zs := zs) h
    show V.ref x.1 :: (rows.set k (r.1, zs)).map (fun r => V.ref r.1) = _
    rw [this]
    rfl
section
variable {K : PySem.W.Frag} {σ : L2.St} {F : Hp} {O O' : Own} {H : Hp} {Q : VK} {t : Addr} {rows : List (Addr × List Int)}
theorem Has.row {r : Addr × List Int} {k : Nat} (hH : Has F (tabO t rows ++ O) H) (hr : rows[k]? = some r) : H r.1 = some (.lst (r.2.map V.int)) :=
  hH.get (List.mem_append_left _ (List.mem_cons_of_mem _ (List.mem_map.mpr ⟨r, List.mem_of_getElem? hr, rfl⟩)))
theorem Has.tab (hH : Has F (tabO t rows ++ O) H) : H t = some (.lst (rows.map fun r => V.ref r.1)) := hH.get (List.mem_append_left _ List.mem_cons_self)
theorem g_ixRow {i : Int} (hH : Has F (tabO t rows ++ O) H) (h0 : 0 ≤ i) (hl : i < rows.length) (q : ∀ r, rows[i.toNat]? = some r → H r.1 = some (.lst (r.2.map V.int)) → Q (.ref r.1) H) : rIxA K (.ref t) (.int i) H Q := by
  have e : i.toNat < rows.length := by omega
  have hr := List.getElem?_eq_getElem e
  refine g_ixL hH.tab (at_n h0 (v := .ref rows[i.toNat].1) ?_) (q _ hr (hH.row hr))
  rw [List.getElem?_map, hr]
  rfl
theorem g_setRow {R : L2.St → Hp → Prop} {r : Addr × List Int} {k : Nat} {j z : Int} (hH : Has F (tabO t rows ++ O) H) (hr : rows[k]? = some r) (h0 : 0 ≤ j) (hl : j < r.2.length) (q : ∀ H', Has F (tabO t (rows.set k (r.1, r.2.set j.toNat z)) ++ O) H' → R σ H') :
    kSet rSetA R σ (.ref r.1) (.int j) (.int z) H := by
  refine g_stI hH (xs := r.2) ?_ h0 hl q
  have c := Chg.row (O := O) (zs := r.2.set j.toNat z) hr
  unfold tabO
  rw [List.cons_append, List.cons_append, rows_ref hr]
  exact .tl c
end

/-! ### the rules with the written part by its name -/
section
variable {X : Cx}
theorem op_addK (K : PySem.W.Frag) (e : X.K = K := by rfl) : OpR X (binaryOp .Add) (rAdd K) := by subst e; exact op_addA
theorem op_eqK (K : PySem.W.Frag) (hu : X.A.units + 64 < cLine) (e : X.K = K := by rfl) : OpR X (compareOp .Eq) (rEqA K) := by subst e; exact op_eqA hu
theorem op_neK (K : PySem.W.Frag) (hu : X.A.units + 64 < cLine) (e : X.K = K := by rfl) : OpR X (compareOp .NotEq) (rNeA K) := by subst e; exact op_neA hu
theorem op_inK (K : PySem.W.Frag) (hu : X.A.units + 64 < cLine) (hu' : X.A.units + 65 < cLine) (e : X.K = K := by rfl) : OpR X (compareOp .In) (rInA K) := by subst e; exact op_inA hu hu'
theorem op_notinK (K : PySem.W.Frag) (hu : X.A.units + 64 < cLine) (hu' : X.A.units + 65 < cLine) (e : X.K = K := by rfl) : OpR X (compareOp .NotIn) (rNotInA K) := by subst e; exact op_notinA hu hu'
theorem ix_dict (hu : X.A.units + 1 < cLine) : IxR X rIxD := by
  intro value slice pins s σ H x y v u Q I rx ry h hs
  obtain ⟨a, z, rfl, g, q⟩ := h
  cases rx
  have hT := dict_typeIs I g
  have fin : wpAny (model X.prog X.w) X.A (subscripted slice false (.ref a) u) (fun r s₃ => wpAny (model X.prog X.w) X.A (letTemporaryGo value (.ref a) r >>= fun _ => pure r) (EP X pins σ Q) X.xe s₃) X.xe s := by
    rw [hs]
    exact wpAny_operating (wpAny_mono (d_getItem hu I g ry (Q := fun r s' => EP X pins σ Q r s') fun w' s3 I3 rw' => ⟨z, H, I3, rw', q⟩) (fun r s₃ h₃ => wpAny_bind (wpAny_letTemporaryGo (wpAny_pure h₃))) fun _ _ x => x)
  unfold subscriptTail
  refine wpAny_bind ?_
  rw [getitemInPython_of_ne hT.not_modules]
  refine wpAny_bind (wpAny_specialOf hT PySem.F.slot_dict_getitem.lookup ?_)
  first
    | exact wpAny_pure (wpAny_bind fin)
    | exact wpAny_bind (wpAny_pure (wpAny_bind fin))
    | exact wpAny_bind fin
theorem ix_K (K : PySem.W.Frag) (hu : X.A.units + 1 < cLine) (e : X.K = K := by rfl) : IxR X (rIxA K) := by subst e; exact ix_seq.or (ix_dict hu)
theorem cr_lenK (K : PySem.W.Frag) (e : X.K = K := by rfl) : CallR X (.builtin "len") (rLen K) := by subst e; exact cr_len
theorem cr_listK (K : PySem.W.Frag) (e : X.K = K := by rfl) : CallR X (.type "list") (rListOf K) := by subst e; exact cr_listOf
theorem cr_tupleK (K : PySem.W.Frag) (e : X.K = K := by rfl) : CallR X (.type "tuple") (rTupleOf K) := by subst e; exact cr_tupleOf
theorem sl_all : SlR X (rSlB X.K) := by
  intro pins s σ H x v vl vu lo hi sl Q I rx hs pl pu h
  rcases h with h | h
  · exact sl_list pins s σ H x v vl vu lo hi sl Q I rx hs pl pu h
  · exact sl_tupA pins s σ H x v vl vu lo hi sl Q I rx hs pl pu h
theorem sl_K (K : PySem.W.Frag) (e : X.K = K := by rfl) : SlR X (rSlB K) := by subst e; exact sl_all
theorem k_bm {ex : Expr} {T : String} {r : V → List V → Hp → VK → Prop} {to : TE} {t : TA} (K : PySem.W.Frag) (h : PE X ex (tBM X.K T r to t)) (e : X.K = K := by rfl) : PE X ex (tBM K T r to t) := by subst e; exact h
theorem k_bm0 {ex : Expr} {T : String} {r : V → List V → Hp → VK → Prop} {to : TE} (K : PySem.W.Frag) (h : PE X ex (tBM0 X.K T r to)) (e : X.K = K := by rfl) : PE X ex (tBM0 K T r to) := by subst e; exact h
theorem k_rev {ex : Expr} {to : TE} (K : PySem.W.Frag) (h : PE X ex (tRevL X.K to)) (e : X.K = K := by rfl) : PE X ex (tRevL K to) := by subst e; exact h
theorem k_il {tg l : Expr} {tl : TE} (K : PySem.W.Frag) (h : PI X tg l (iList X.K tl)) (e : X.K = K := by rfl) : PI X tg l (iList K tl) := by subst e; exact h
theorem k_gt {tg : Expr} {n : Nat} {t : TGs} (K : PySem.W.Frag) (h : PG X tg (gTup X.K n t)) (e : X.K = K := by rfl) : PG X tg (gTup K n t) := by subst e; exact h
end
theorem g_start {t : TS} {D : Ends} {σ σ' : L2.St} {H : Hp} (e : σ = σ') (h : t D σ' H) : t D σ H := by subst e; exact h

theorem Has.argFree {H H' : Hp} {a D : Addr} {o : HO} {O : Own} (h : Has (rm H a) ((D, o) :: O) H') (m : a ∈ O.map (·.1)) : H D = none := by
  have nd : D ∉ O.map (·.1) ∧ (O.map (·.1)).Nodup := List.nodup_cons.mp (by have := h.nd; rw [List.map_cons] at this; exact this)
  have e := h.free
  rw [rm_ne (fun z => nd.1 (by rw [z]; exact m))] at e
  exact e

theorem Has.but2 {F H H' : Hp} {O O' : Own} {a p : Addr} {o o' op : HO} (h : Has F O H) (c : Chg O a o o' O') (hb : But a H H') (e : H' a = some o') (n : H p = none) (ep : H' p = some op) : Has F ((p, op) :: O') H' := by
  have h' := h.but c hb e
  refine ⟨h'.same, fun q hq => ?_, ?_⟩
  · rcases List.mem_cons.mp hq with rfl | hq
    · exact ⟨h.same.free n, ep⟩
    · exact h'.own q hq
  · rw [List.map_cons]
    refine List.nodup_cons.mpr ⟨fun m => ?_, h'.nd⟩
    rw [c.fst] at m
    obtain ⟨q, hq, e'⟩ := List.mem_map.mp m
    have z := (h.own q hq).2
    rw [e', n] at z
    cases z

theorem Has.mono {F F' H : Hp} {O : Own} (h : Has F O H) (s : Same F' F) : Has F' O H := ⟨s.trans h.same, fun q hq => ⟨s.free (h.own q hq).1, (h.own q hq).2⟩, h.nd⟩
theorem same_rm {F H : Hp} {a : Addr} (s : Same F H) (n : F a = none) : Same F (rm H a) := fun b u q => by
  rw [rm_ne (ne_of_none q n)]
  exact s b u q
theorem take_foldl {α β : Type} {f : β → α → β} {z : β} {l : List α} {i : Nat} {x : α} (h : l[i]? = some x) : (l.take (i + 1)).foldl f z = f ((l.take i).foldl f z) x := by
  rw [List.take_add_one, h, List.foldl_append]
  rfl

/-! ### isinstance -/
def rIsA (K : PySem.W.Frag) : List V → Hp → VK → Prop := fun xs H Q => rIsi K xs H Q ∨ rIsiT K xs H Q
theorem cr_isK {X : Cx} (K : PySem.W.Frag) (e : X.K = K := by rfl) : CallR X (.builtin "isinstance") (rIsA K) := by
  subst e
  intro pins s σ H xs us Q I r h
  rcases h with h | h
  · exact call_isi pins s σ H xs us Q I r h
  · exact call_isiT pins s σ H xs us Q I r h
theorem g_is {K : PySem.W.Frag} {H : Hp} {Q : VK} {x : V} {t n : String} {b : Bool} (ty : TyX K H x (.type t)) (e : kitB t n = some b) (q : Q (.bl b) H) : rIsA K [x, .ty n] H Q := .inl ⟨x, .ty n, _, _, b, rfl, .ty n, ty, kit_ty e, q⟩
theorem g_is2 {K : PySem.W.Frag} {H : Hp} {Q : VK} {x : V} {t n m : String} {a b : Bool} {tp : Addr} (h : H tp = some (.tup [.ty n, .ty m])) (ty : TyX K H x (.type t)) (ea : kitB t n = some a) (eb : kitB t m = some b) (q : Q (.bl (a || b)) H) : rIsA K [x, .ref tp] H Q := by
  refine .inr ⟨x, tp, _, _, _, a || b, rfl, h, .cons (.ty n) (.cons (.ty m) .nil), ty, ?_, q⟩
  refine kitAny_cons (kit_ty ea) (fun z => ?_) (fun z => by rw [z]; rfl)
  refine kitAny_cons (kit_ty eb) (fun y => ?_) (fun y => by rw [z, y]; rfl)
  rw [z, y]
  exact kitAny_nil
theorem kit_list_list : kitB "list" "list" = some true := by decide +kernel
theorem kit_list_tuple : kitB "list" "tuple" = some false := by decide +kernel
theorem kit_list_dict : kitB "list" "dict" = some false := by decide +kernel
theorem kit_list_int : kitB "list" "int" = some false := by decide +kernel
theorem kit_list_bool : kitB "list" "bool" = some false := by decide +kernel
theorem kit_list_str : kitB "list" "str" = some false := by decide +kernel
theorem kit_tuple_list : kitB "tuple" "list" = some false := by decide +kernel
theorem kit_tuple_tuple : kitB "tuple" "tuple" = some true := by decide +kernel
theorem kit_tuple_dict : kitB "tuple" "dict" = some false := by decide +kernel
theorem kit_tuple_int : kitB "tuple" "int" = some false := by decide +kernel
theorem kit_tuple_bool : kitB "tuple" "bool" = some false := by decide +kernel
theorem kit_tuple_str : kitB "tuple" "str" = some false := by decide +kernel
theorem kit_dict_list : kitB "dict" "list" = some false := by decide +kernel
theorem kit_dict_tuple : kitB "dict" "tuple" = some false := by decide +kernel
theorem kit_dict_dict : kitB "dict" "dict" = some true := by decide +kernel
theorem kit_dict_int : kitB "dict" "int" = some false := by decide +kernel
theorem kit_dict_bool : kitB "dict" "bool" = some false := by decide +kernel
theorem kit_dict_str : kitB "dict" "str" = some false := by decide +kernel
theorem kit_int_list : kitB "int" "list" = some false := by decide +kernel
theorem kit_int_tuple : kitB "int" "tuple" = some false := by decide +kernel
theorem kit_int_dict : kitB "int" "dict" = some false := by decide +kernel
theorem kit_int_int : kitB "int" "int" = some true := by decide +kernel
theorem kit_int_bool : kitB "int" "bool" = some false := by decide +kernel
theorem kit_int_str : kitB "int" "str" = some false := by decide +kernel
theorem kit_bool_list : kitB "bool" "list" = some false := by decide +kernel
theorem kit_bool_tuple : kitB "bool" "tuple" = some false := by decide +kernel
theorem kit_bool_dict : kitB "bool" "dict" = some false := by decide +kernel
theorem kit_bool_int : kitB "bool" "int" = some true := by decide +kernel
theorem kit_bool_bool : kitB "bool" "bool" = some true := by decide +kernel
theorem kit_bool_str : kitB "bool" "str" = some false := by decide +kernel
theorem kit_str_list : kitB "str" "list" = some false := by decide +kernel
theorem kit_str_tuple : kitB "str" "tuple" = some false := by decide +kernel
theorem kit_str_dict : kitB "str" "dict" = some false := by decide +kernel
theorem kit_str_int : kitB "str" "int" = some false := by decide +kernel
theorem kit_str_bool : kitB "str" "bool" = some false := by decide +kernel
theorem kit_str_str : kitB "str" "str" = some true := by decide +kernel
section
variable {K : PySem.W.Frag} {H : Hp} {Q : VK}
theorem is_list_list {a : Addr} {xs : List V} (h : H a = some (.lst xs)) (q : Q (.bl true) H) : rIsA K [.ref a, .ty "list"] H Q := g_is (.base (.lst h)) kit_list_list q
theorem is_list_tuple {a : Addr} {xs : List V} (h : H a = some (.lst xs)) (q : Q (.bl false) H) : rIsA K [.ref a, .ty "tuple"] H Q := g_is (.base (.lst h)) kit_list_tuple q
theorem is_list_dict {a : Addr} {xs : List V} (h : H a = some (.lst xs)) (q : Q (.bl false) H) : rIsA K [.ref a, .ty "dict"] H Q := g_is (.base (.lst h)) kit_list_dict q
theorem is_list_int {a : Addr} {xs : List V} (h : H a = some (.lst xs)) (q : Q (.bl false) H) : rIsA K [.ref a, .ty "int"] H Q := g_is (.base (.lst h)) kit_list_int q
theorem is_list_bool {a : Addr} {xs : List V} (h : H a = some (.lst xs)) (q : Q (.bl false) H) : rIsA K [.ref a, .ty "bool"] H Q := g_is (.base (.lst h)) kit_list_bool q
theorem is_list_str {a : Addr} {xs : List V} (h : H a = some (.lst xs)) (q : Q (.bl false) H) : rIsA K [.ref a, .ty "str"] H Q := g_is (.base (.lst h)) kit_list_str q
theorem is2_list {a : Addr} {xs : List V} (h : H a = some (.lst xs)) {tp : Addr} (hp : H tp = some (.tup [.ty "list", .ty "tuple"])) (q : Q (.bl true) H) : rIsA K [.ref a, .ref tp] H Q := g_is2 hp (.base (.lst h)) kit_list_list kit_list_tuple q
theorem is_tuple_list {a : Addr} {xs : List V} (h : H a = some (.tup xs)) (q : Q (.bl false) H) : rIsA K [.ref a, .ty "list"] H Q := g_is (.base (.tup h)) kit_tuple_list q
theorem is_tuple_tuple {a : Addr} {xs : List V} (h : H a = some (.tup xs)) (q : Q (.bl true) H) : rIsA K [.ref a, .ty "tuple"] H Q := g_is (.base (.tup h)) kit_tuple_tuple q
theorem is_tuple_dict {a : Addr} {xs : List V} (h : H a = some (.tup xs)) (q : Q (.bl false) H) : rIsA K [.ref a, .ty "dict"] H Q := g_is (.base (.tup h)) kit_tuple_dict q
theorem is_tuple_int {a : Addr} {xs : List V} (h : H a = some (.tup xs)) (q : Q (.bl false) H) : rIsA K [.ref a, .ty "int"] H Q := g_is (.base (.tup h)) kit_tuple_int q
theorem is_tuple_bool {a : Addr} {xs : List V} (h : H a = some (.tup xs)) (q : Q (.bl false) H) : rIsA K [.ref a, .ty "bool"] H Q := g_is (.base (.tup h)) kit_tuple_bool q
theorem is_tuple_str {a : Addr} {xs : List V} (h : H a = some (.tup xs)) (q : Q (.bl false) H) : rIsA K [.ref a, .ty "str"] H Q := g_is (.base (.tup h)) kit_tuple_str q
theorem is2_tuple {a : Addr} {xs : List V} (h : H a = some (.tup xs)) {tp : Addr} (hp : H tp = some (.tup [.ty "list", .ty "tuple"])) (q : Q (.bl true) H) : rIsA K [.ref a, .ref tp] H Q := g_is2 hp (.base (.tup h)) kit_tuple_list kit_tuple_tuple q
theorem is_dict_list {a : Addr} {kvs : List (Key × V)} (h : H a = some (.dK kvs)) (q : Q (.bl false) H) : rIsA K [.ref a, .ty "list"] H Q := g_is (.base (.dK h)) kit_dict_list q
theorem is_dict_tuple {a : Addr} {kvs : List (Key × V)} (h : H a = some (.dK kvs)) (q : Q (.bl false) H) : rIsA K [.ref a, .ty "tuple"] H Q := g_is (.base (.dK h)) kit_dict_tuple q
theorem is_dict_dict {a : Addr} {kvs : List (Key × V)} (h : H a = some (.dK kvs)) (q : Q (.bl true) H) : rIsA K [.ref a, .ty "dict"] H Q := g_is (.base (.dK h)) kit_dict_dict q
theorem is_dict_int {a : Addr} {kvs : List (Key × V)} (h : H a = some (.dK kvs)) (q : Q (.bl false) H) : rIsA K [.ref a, .ty "int"] H Q := g_is (.base (.dK h)) kit_dict_int q
theorem is_dict_bool {a : Addr} {kvs : List (Key × V)} (h : H a = some (.dK kvs)) (q : Q (.bl false) H) : rIsA K [.ref a, .ty "bool"] H Q := g_is (.base (.dK h)) kit_dict_bool q
theorem is_dict_str {a : Addr} {kvs : List (Key × V)} (h : H a = some (.dK kvs)) (q : Q (.bl false) H) : rIsA K [.ref a, .ty "str"] H Q := g_is (.base (.dK h)) kit_dict_str q
theorem is2_dict {a : Addr} {kvs : List (Key × V)} (h : H a = some (.dK kvs)) {tp : Addr} (hp : H tp = some (.tup [.ty "list", .ty "tuple"])) (q : Q (.bl false) H) : rIsA K [.ref a, .ref tp] H Q := g_is2 hp (.base (.dK h)) kit_dict_list kit_dict_tuple q
theorem is_int_list {i : Int} (q : Q (.bl false) H) : rIsA K [.int i, .ty "list"] H Q := g_is (.base (.int i)) kit_int_list q
theorem is_int_tuple {i : Int} (q : Q (.bl false) H) : rIsA K [.int i, .ty "tuple"] H Q := g_is (.base (.int i)) kit_int_tuple q
theorem is_int_dict {i : Int} (q : Q (.bl false) H) : rIsA K [.int i, .ty "dict"] H Q := g_is (.base (.int i)) kit_int_dict q
theorem is_int_int {i : Int} (q : Q (.bl true) H) : rIsA K [.int i, .ty "int"] H Q := g_is (.base (.int i)) kit_int_int q
theorem is_int_bool {i : Int} (q : Q (.bl false) H) : rIsA K [.int i, .ty "bool"] H Q := g_is (.base (.int i)) kit_int_bool q
theorem is_int_str {i : Int} (q : Q (.bl false) H) : rIsA K [.int i, .ty "str"] H Q := g_is (.base (.int i)) kit_int_str q
theorem is2_int {i : Int} {tp : Addr} (hp : H tp = some (.tup [.ty "list", .ty "tuple"])) (q : Q (.bl false) H) : rIsA K [.int i, .ref tp] H Q := g_is2 hp (.base (.int i)) kit_int_list kit_int_tuple q
theorem is_bool_list {b : Bool} (q : Q (.bl false) H) : rIsA K [.bl b, .ty "list"] H Q := g_is (.base (.bl b)) kit_bool_list q
theorem is_bool_tuple {b : Bool} (q : Q (.bl false) H) : rIsA K [.bl b, .ty "tuple"] H Q := g_is (.base (.bl b)) kit_bool_tuple q
theorem is_bool_dict {b : Bool} (q : Q (.bl false) H) : rIsA K [.bl b, .ty "dict"] H Q := g_is (.base (.bl b)) kit_bool_dict q
theorem is_bool_int {b : Bool} (q : Q (.bl true) H) : rIsA K [.bl b, .ty "int"] H Q := g_is (.base (.bl b)) kit_bool_int q
theorem is_bool_bool {b : Bool} (q : Q (.bl true) H) : rIsA K [.bl b, .ty "bool"] H Q := g_is (.base (.bl b)) kit_bool_bool q
theorem is_bool_str {b : Bool} (q : Q (.bl false) H) : rIsA K [.bl b, .ty "str"] H Q := g_is (.base (.bl b)) kit_bool_str q
theorem is2_bool {b : Bool} {tp : Addr} (hp : H tp = some (.tup [.ty "list", .ty "tuple"])) (q : Q (.bl false) H) : rIsA K [.bl b, .ref tp] H Q := g_is2 hp (.base (.bl b)) kit_bool_list kit_bool_tuple q
theorem is_str_list {z : Str} (q : Q (.bl false) H) : rIsA K [.str z, .ty "list"] H Q := g_is (.base (.str z)) kit_str_list q
theorem is_str_tuple {z : Str} (q : Q (.bl false) H) : rIsA K [.str z, .ty "tuple"] H Q := g_is (.base (.str z)) kit_str_tuple q
theorem is_str_dict {z : Str} (q : Q (.bl false) H) : rIsA K [.str z, .ty "dict"] H Q := g_is (.base (.str z)) kit_str_dict q
theorem is_str_int {z : Str} (q : Q (.bl false) H) : rIsA K [.str z, .ty "int"] H Q := g_is (.base (.str z)) kit_str_int q
theorem is_str_bool {z : Str} (q : Q (.bl false) H) : rIsA K [.str z, .ty "bool"] H Q := g_is (.base (.str z)) kit_str_bool q
theorem is_str_str {z : Str} (q : Q (.bl true) H) : rIsA K [.str z, .ty "str"] H Q := g_is (.base (.str z)) kit_str_str q
theorem is2_str {z : Str} {tp : Addr} (hp : H tp = some (.tup [.ty "list", .ty "tuple"])) (q : Q (.bl false) H) : rIsA K [.str z, .ref tp] H Q := g_is2 hp (.base (.str z)) kit_str_list kit_str_tuple q
end
section
variable {K : PySem.W.Frag} {σ : L2.St} {F : Hp} {O O' : Own} {H : Hp} {Q : VK} {x y v : V}
theorem g_neB {i j : Bool} (q : Q (.bl (!decide (i = j))) H) : rNeA K (.bl i) (.bl j) H Q := .inl ⟨rfl, by rw [dec_bl, Bool.beq_eq_decide_eq]; exact q⟩
theorem g_eqB {i j : Bool} (q : Q (.bl (decide (i = j))) H) : rEqA K (.bl i) (.bl j) H Q := .inl ⟨rfl, by rw [dec_bl, Bool.beq_eq_decide_eq]; exact q⟩
/-! ### insert, max, the last item -/
def rInsert : V → List V → Hp → VK → Prop := fun x vs H Q => ∃ (l : Addr) (xs : List V) (i : Int) (y : V), x = .ref l ∧ vs = [.int i, y] ∧ H l = some (.lst xs) ∧ xs.length < sizeLine ∧ 0 ≤ i ∧ i < 2 ^ 63 ∧ Q .non (upd H l (.lst (xs.take i.toNat ++ [y] ++ xs.drop i.toNat)))
theorem mt_insertA {X : Cx} : MtR X "list.insert" rInsert := mt_insert
theorem g_insert {a : Addr} {xs : List V} {i : Int} (hH : Has F O H) (c : Chg O a (.lst xs) (.lst (xs.take i.toNat ++ [y] ++ xs.drop i.toNat)) O') (hl : xs.length < sizeLine) (h0 : 0 ≤ i) (h1 : i < 2 ^ 63) (q : ∀ H', Has F O' H' → Q .non H') : rInsert (.ref a) [.int i, y] H Q :=
  ⟨a, xs, i, y, rfl, rfl, hH.get c.mem, hl, h0, h1, q _ (hH.put c)⟩
theorem cr_maxK {X : Cx} (K : PySem.W.Frag) (hc : X.calm = true) (e : X.K = K := by rfl) : CallR X (.builtin "max") (rMax K) := by subst e; exact cr_max hc
theorem g_max {a : Addr} {ns : List Int} (h : H a = some (.lst (ns.map V.int))) (hl : 0 < ns.length) (q : ∀ m, m ∈ ns → (∀ y, y ∈ ns → y ≤ m) → Q (.int m) H) : rMax K [.ref a] H Q := ⟨a, ns, rfl, SqL.of h, hl, q⟩
theorem g_ixLast {a : Addr} {xs : List V} {v : V} (h : H a = some (.lst xs)) (hl : xs.getLast? = some v) (q : Q v H) : rIxA K (.ref a) (.int (-1)) H Q := by
  obtain ⟨ys, rfl⟩ := List.getLast?_eq_some_iff.mp hl
  exact g_ixL h (atI_last ys v) q
end
theorem cutV_nat (xs : List V) (a b : Nat) : cutV xs (some (a : Int)) (some (b : Int)) = (xs.drop a).take (b - a) := by
  unfold cutV
  rw [HT.sIx_nat, HT.sIx_nat]
  by_cases h : a ≤ xs.length
  · rw [Nat.min_eq_left h]
    rcases Nat.le_total b xs.length with hb | hb
    · rw [Nat.min_eq_left hb]
    · rw [Nat.min_eq_right hb, List.take_of_length_le (by rw [List.length_drop]; omega), List.take_of_length_le (by rw [List.length_drop]; omega)]
  · rw [Nat.min_eq_right (show xs.length ≤ a by omega), List.drop_of_length_le (Nat.le_refl _), List.drop_of_length_le (show xs.length ≤ a by omega), List.take_nil, List.take_nil]
theorem cutV_from (xs : List V) (a : Nat) : cutV xs (some (a : Int)) none = xs.drop a := by
  unfold cutV
  rw [HT.sIx_nat, HT.sIx_none]
  by_cases h : a ≤ xs.length
  · rw [Nat.min_eq_left h, List.take_of_length_le (by rw [List.length_drop]; omega)]
  · rw [Nat.min_eq_right (show xs.length ≤ a by omega), List.drop_of_length_le (Nat.le_refl _), List.drop_of_length_le (show xs.length ≤ a by omega), List.take_nil]
theorem cutV_to (xs : List V) (b : Nat) : cutV xs none (some (b : Int)) = xs.take b := by
  unfold cutV
  rw [HT.sIx_none, HT.sIx_nat, List.drop_zero, Nat.sub_zero]
  rcases Nat.le_total b xs.length with hb | hb
  · rw [Nat.min_eq_left hb]
  · rw [Nat.min_eq_right hb, List.take_length, List.take_of_length_le hb]
/-! ### a def that adds to what stands still -/
def Grow (F H F' : Hp) : Prop := Same F F' ∧ ∀ b, H b ≠ none → F' b = F b
theorem Has.grown {F F' H H' : Hp} {O O' : Own} {a : Addr} {o o' : HO} (h : Has F O H) (c : Chg O a o o' O') (hb : But a H H') (g : Grow F H F') (s : Same F' H') (e : H' a = some o') : Has F' O' H' := by
  have h' := h.but c hb e
  refine ⟨s, fun q hq => ⟨?_, (h'.own q hq).2⟩, h'.nd⟩
  rcases c.own h.nd q hq with rfl | ⟨m, _⟩
  · rw [g.2 a (by rw [h.get c.mem]; exact fun z => by cases z)]
    exact (h.own _ c.mem).1
  · rw [g.2 q.1 (by rw [(h.own q m).2]; exact fun z => by cases z)]
    exact (h.own q m).1

section
variable {K : PySem.W.Frag} {H : Hp} {Q : VK}
theorem g_ixVT {a : Addr} {xs : List V} {i : Int} (h : H a = some (.tup xs)) (h0 : 0 ≤ i) (hl : i < xs.length) (q : ∀ v, xs[i.toNat]? = some v → Q v H) : rIxA K (.ref a) (.int i) H Q := by
  have e : i.toNat < xs.length := by omega
  exact g_ixT h (at_n h0 (List.getElem?_eq_getElem e)) (q _ (List.getElem?_eq_getElem e))
theorem is2_non {tp : Addr} (hp : H tp = some (.tup [.ty "list", .ty "tuple"])) (q : Q (.bl false) H) : rIsA K [.non, .ref tp] H Q := g_is2 hp (.base .non) (by decide +kernel : kitB "NoneType" "list" = some false) (by decide +kernel : kitB "NoneType" "tuple" = some false) q
end

theorem i_nf {A B : Prop} (h : A) : if (!false) = true then A else B := by
  show (if true = true then A else B)
  rw [if_pos rfl]
  exact h
theorem i_nt {A B : Prop} (h : B) : if (!true) = true then A else B := by
  show (if false = true then A else B)
  rw [if_neg Bool.false_ne_true]
  exact h

/-- ways that meet: what holds where they meet -/
theorem g_join {t : TS} {D : Ends} {σ : L2.St} {H : Hp} (M : L2.St → Hp → Prop) (h : ∀ σ' H', M σ' H' → D.nx σ' H') (q : (∀ σ' H', M σ' H' → D.nx σ' H') → t D σ H) : t D σ H := q h

/-! ### all that is not owned stands still from now on -/
def rmO (O : Own) (H : Hp) : Hp := fun b => if b ∈ O.map (·.1) then none else H b
section
variable {F H : Hp} {O : Own}
theorem Has.re (h : Has F O H) : Has (rmO O H) O H := by
  refine ⟨fun b u e => ?_, fun p hp => ⟨if_pos (List.mem_map.mpr ⟨p, hp, rfl⟩), (h.own p hp).2⟩, h.nd⟩
  unfold rmO at e
  split at e
  · cases e
  · exact e
theorem Has.reF (h : Has F O H) : Same F (rmO O H) := fun b u e => by
  unfold rmO
  rw [if_neg]
  · exact h.same b u e
  · intro m
    obtain ⟨p, hp, rfl⟩ := List.mem_map.mp m
    rw [(h.own p hp).1] at e
    cases e
theorem Has.re_of (h : Has F O H) {b : Addr} {u : HO} (e : H b = some u) (ne : ∀ p ∈ O, p.2 ≠ u) : rmO O H b = some u := by
  unfold rmO
  rw [if_neg]
  · exact e
  · intro m
    obtain ⟨p, hp, rfl⟩ := List.mem_map.mp m
    rw [(h.own p hp).2] at e
    exact ne p hp (Option.some.inj e)
end

section
variable {K : PySem.W.Frag} {σ : L2.St} {F : Hp} {O O' : Own} {H : Hp} {Q : VK} {x y v : V} {ta te : TE}
theorem g_ixDI {a : Addr} {kvs : List (Key × V)} {i : Int} (h : H a = some (.dK kvs)) (hv : valV kvs (.inl i) = some v) (q : Q v H) : rIxA K (.ref a) (.int i) H Q := .inr ⟨a, v, rfl, hv ▸ DGet.k (k := .inl i) h, q⟩
theorem g_ixDS {a : Addr} {kvs : List (Key × V)} {i : Str} (h : H a = some (.dK kvs)) (hv : valV kvs (.inr i) = some v) (q : Q v H) : rIxA K (.ref a) (.str i) H Q := .inr ⟨a, v, rfl, hv ▸ DGet.k (k := .inr i) h, q⟩
/-! ### [*xs, y]; if xs:; dict(pairs) -/
def kStar (K : PySem.W.Frag) (t : TA) (σ : L2.St) (x : V) (H : Hp) (Q : List V → Hp → Prop) : Prop := ∃ p xs, x = V.ref p ∧ (SqT K H p xs ∨ SqL K H p xs) ∧ t σ H fun ys H2 => Q (xs ++ ys) H2
theorem g_star {t : TA} {QA : List V → Hp → Prop} (q : te σ H fun x H1 => kStar K t σ x H1 QA) : StX.tStar K te t σ H QA := q
theorem g_kstarL {t : TA} {QA : List V → Hp → Prop} {a : Addr} {xs : List V} (h : H a = some (.lst xs)) (q : t σ H fun ys H2 => QA (xs ++ ys) H2) : kStar K t σ (.ref a) H QA := ⟨a, xs, rfl, .inr (SqL.of h), q⟩
theorem g_kstarT {t : TA} {QA : List V → Hp → Prop} {a : Addr} {xs : List V} (h : H a = some (.tup xs)) (q : t σ H fun ys H2 => QA (xs ++ ys) H2) : kStar K t σ (.ref a) H QA := ⟨a, xs, rfl, .inl (SqT.of h), q⟩
theorem k_star {X : Cx} {es : List Expr} {t : TA} {ex : Expr} {p : Pos} (K : PySem.W.Frag) (h : PA X (.Starred ex p :: es) (StX.tStar X.K te t)) (e : X.K = K := by rfl) : PA X (.Starred ex p :: es) (StX.tStar K te t) := by subst e; exact h
def kTru (K : PySem.W.Frag) (x : V) (H : Hp) (R : Bool → Hp → Prop) : Prop := ∃ k, TruV K x H k ∧ R k H
def tTru (K : PySem.W.Frag) (te : TE) : TT := fun σ H R => te σ H fun x H1 => kTru K x H1 R
theorem pt_tru {X : Cx} {a : Expr} (K : PySem.W.Frag) (ha : PE X a ta) (he : ∀ whole, isTrue a X.env whole = (do let v ← whole; standAt a.pos; holding [v] (truthy v)) := by intro _; rfl) (e : X.K = K := by rfl) : PT X a (tTru K ta) := by subst e; exact pt_truth ha he
theorem g_tru {R : Bool → Hp → Prop} (q : te σ H fun x H1 => kTru K x H1 R) : tTru K te σ H R := q
theorem g_truL {R : Bool → Hp → Prop} {a : Addr} {xs : List V} (h : H a = some (.lst xs)) (q : R (!xs.isEmpty) H) : kTru K (.ref a) H R := ⟨_, .inl ⟨xs, SqL.of h, rfl⟩, q⟩
def rDictP (K : PySem.W.Frag) : List V → Hp → VK → Prop := fun xs H Q => ∃ (a : Addr) (ps : List Addr) (kvs : List (Key × V)), xs = [.ref a] ∧ SqL K H a (ps.map V.ref) ∧ Paired (fun p kv => SqT K H p [kV kv.1, kv.2]) ps kvs ∧ ∀ p, H p = none → Q (.ref p) (upd H p (.dK (mergeK [] kvs)))
theorem cr_dictP {X : Cx} (K : PySem.W.Frag) (hc : X.calm = true) (e : X.K = K := by rfl) : CallR X (.type "dict") (rDictP K) := by subst e; exact call_dictP hc
theorem g_dictP {a : Addr} {ps : List Addr} {kvs : List (Key × V)} (h : H a = some (.lst (ps.map V.ref))) (hp : Paired (fun p kv => SqT K H p [kV kv.1, kv.2]) ps kvs) (hH : Has F O H) (q : ∀ p H', H p = none → Has F ((p, .dK (mergeK [] kvs)) :: O) H' → Q (.ref p) H') : rDictP K [.ref a] H Q :=
  ⟨a, ps, kvs, rfl, SqL.of h, hp, fun p n => q p _ n (hH.new n)⟩
end
/-! ### data without lists; tuples of ints; pairs to a dict -/
mutual
def noL : PyData → Bool
  | .list _ => false
  | .dict _ => false
  | .tuple ds => noLs ds
  | _ => true
def noLs : List PyData → Bool
  | [] => true
  | d :: ds => noL d && noLs ds
end
theorem noLs_mem : ∀ {ds : List PyData}, (∀ d ∈ ds, noL d = true) → noLs ds = true
  | [], _ => by rw [noLs]
  | d :: ds, h => by
    rw [noLs, h d List.mem_cons_self, noLs_mem fun x hx => h x (List.mem_cons_of_mem _ hx)]
    rfl
mutual
theorem Dq.keep {H H' : Hp} (e : ∀ b xs, H b = some (.tup xs) → H' b = some (.tup xs)) : ∀ (d : PyData) (v : V), noL d = true → Dq H v d → Dq H' v d
  | _, _, _, .non => .non
  | _, _, _, .bl b => .bl b
  | _, _, _, .int i => .int i
  | _, _, _, .str x => .str x
  | .list ds, _, n, .lst s a => by rw [noL] at n; cases n
  | .tuple ds, _, n, .tup s a => .tup (e _ _ s) (DqAll.keep e ds _ (by rw [noL] at n; exact n) a)
theorem DqAll.keep {H H' : Hp} (e : ∀ b xs, H b = some (.tup xs) → H' b = some (.tup xs)) : ∀ (ds : List PyData) (vs : List V), noLs ds = true → DqAll H vs ds → DqAll H' vs ds
  | _, _, _, .nil => .nil
  | d :: ds, _, n, .cons h t => by
    rw [noLs, Bool.and_eq_true] at n
    exact .cons (Dq.keep e d _ n.1 h) (DqAll.keep e ds _ n.2 t)
end
theorem Has.keep {F H : Hp} {O : Own} (h : Has F O H) (ho : ∀ p ∈ O, ∀ xs, p.2 ≠ .tup xs) {ds : List PyData} {vs : List V} (n : ∀ d ∈ ds, noL d = true) (d : DqAll H vs ds) : DqAll (rmO O H) vs ds :=
  d.keep (fun _ _ e => h.re_of e fun p hp => ho p hp _) _ _ (noLs_mem n)
theorem eqv_tints (xs ys : List Int) : PyData.eqv (.tuple (xs.map PyData.int)) (.tuple (ys.map PyData.int)) = decide (xs = ys) := by
  rw [PyData.eqv, eqvAll_ints]
theorem eqv_tstrs (xs ys : List Str) : PyData.eqv (.tuple (xs.map PyData.str)) (.tuple (ys.map PyData.str)) = decide (xs = ys) := by
  rw [PyData.eqv, eqvAll_strs]
theorem ixN_last (n : Nat) : ixN (n + 1) (-1) = some n := by
  unfold ixN
  rw [if_neg (by decide), if_pos (by omega)]
  congr 1
  omega
theorem valV_merge (i : Key) : ∀ (kvs acc : List (Key × V)), valV (mergeK acc kvs) i = (valV kvs.reverse i).or (valV acc i)
  | [], acc => by simp [mergeK, valV]
  | p :: r, acc => by
    show valV (mergeK (putK acc p.1 p.2) r) i = _
    rw [valV_merge i r, valV_put, List.reverse_cons]
    unfold valV
    rw [List.find?_append]
    cases h : r.reverse.find? fun kv => decide (kv.1 = i) with
    | some x => simp
    | none =>
      by_cases e : p.1 = i
      · simp [List.find?_cons, e]
      · rw [if_neg (fun z => e z.symm)]; simp [List.find?_cons, e]
def kLcR2 (g : TG) (tt : TT) (te : TE) (ws : List Nat) (σ : L2.St) (vs : List V) (H : Hp) (Q : VK) : Prop := ∃ i j : Int, vs = [.int i, .int j] ∧ (-(2 ^ 62) ≤ i ∧ i < 2 ^ 62 ∧ -(2 ^ 62) ≤ j ∧ j < 2 ^ 62) ∧ kLc (Itr i (j - i).toNat) g tt te ws σ H Q
section
variable {K : PySem.W.Frag} {σ : L2.St} {F : Hp} {O O' : Own} {H : Hp} {Q : VK} {x y v : V} {ta te : TE} {g : TG}
theorem g_lcR2 {ta : TA} {tt : TT} {vs : List Nat} (q : ta σ H fun xs H1 => kLcR2 g tt te vs σ xs H1 Q) : tLc (iRng2 ta) g tt te vs σ H Q := q
theorem k_lcR2 {lo j : Int} {tt : TT} {vs : List Nat} (h0 : -(2 ^ 62) ≤ lo ∧ lo < 2 ^ 62 ∧ -(2 ^ 62) ≤ j ∧ j < 2 ^ 62) (hH : Has F O H) (S : Nat → List V → Hp → Own → Prop) (h0 : S 0 [] F O)
    (hs : ∀ i acc F O D H, i < (j - lo).toNat → S i acc F O → Has F ((D, .lst acc) :: O) H → g (.int (lo + (i : Nat))) (wipe σ vs) H fun σ2 H2 => wipe σ2 vs = wipe σ vs ∧ tt σ2 H2 fun b H3 => if b = true then te σ2 H3 fun y H4 => kTurn D (kNx S i D) y H4 else kNx S i D H3)
    (hd : ∀ acc F O D H, S (j - lo).toNat acc F O → Has F ((D, .lst acc) :: O) H → Q (.ref D) H) : kLcR2 g tt te vs σ [.int lo, .int j] H Q := by
  refine ⟨lo, j, rfl, by assumption, k_lc hH (j - lo).toNat S h0 (fun i acc F O D H hi s hh => hi) (fun acc F O D H s hh => Nat.le_refl _) (fun i x acc F O D H H' hi y s hh => ?_) hd⟩
  obtain ⟨e, y⟩ := y
  subst e y
  exact hs i acc F O D _ hi s hh
theorem g_truT {R : Bool → Hp → Prop} {a : Addr} {xs : List V} (h : H a = some (.tup xs)) (q : R (!xs.isEmpty) H) : kTru K (.ref a) H R := ⟨_, .inr (.inl ⟨xs, SqT.of h, rfl⟩), q⟩
end
/-! ### list.extend by a list, by a tuple -/
theorem ext_tup (l : Addr) (items : Array Value) (n : Nat) (b : Addr) (items2 : Array Value) (n2 : Nat) (d0 : Option Addr) (sl : Array (Option Value)) (hs0 : ¬(!items.isEmpty && Builtin.List.listTooLong (items.size + items2.size)) = true) (hs1 : items.size ≤ sizeLine) (hs2 : items.size + items2.size ≤ sizeLine + 1) :
    Meets (Builtin.«list.extend» ⟨[.ref l, .ref b], []⟩) (fun _ R s => s.heap.get? l = some { cls := .type "list", dict := none, data := .seq items n, slots := #[] } ∧ s.heap.get? b = some { cls := .type "tuple", dict := d0, data := .seq items2 n2, slots := sl } ∧ R (.ok (.ret Value.none)) { s with heap := s.heap.update l (Obj.mapSeq fun x => x ++ items2), toks := s.toks }) :=
  .of_wp fun prog w A R s h => by
    obtain ⟨hp, g, d, tk, os⟩ := s
    obtain ⟨hl, hb, h⟩ := h
    have f1 := PySem.AutoSeq1.sub_tuple_tuple
    have f2 := PySem.AutoSeq1.sub_list_list
    have f3 := PySem.AutoSeq1.sub_tuple_list
    have f4 := PySem.AutoSeq1.sub_list_tuple
    have hz' : (items ++ items2).size ≤ sizeLine + 1 := by rw [Array.size_append]; exact hs2
    wp_walk using (wpAny_updateSeq hl rfl (hz := hs1) (_hz' := hz')), PySem.AutoSeq1.wpAny_loadPart' hl, PySem.AutoSeq1.wpAny_loadPart' hb
    exact ⟨_, rfl, h⟩
section
variable {X : Cx}
def rExtendT (K : PySem.W.Frag) : V → List V → Hp → VK → Prop := fun x vs H Q => ∃ l b xs zs, x = .ref l ∧ vs = [.ref b] ∧ H l = some (.lst xs) ∧ SqT K H b zs ∧ xs.length + zs.length ≤ sizeLine ∧ Q .non (upd H l (.lst (xs ++ zs)))
theorem mt_extendT : MtM X "list.extend" (rExtendT X.K) := by
  intro pins s σ H x vs v us Q I rx rv h
  obtain ⟨l, b, xs, zs, rfl, rfl, hH, hB, hz, q⟩ := h
  cases rx
  obtain ⟨u, rfl, ru⟩ := rv.one
  cases ru
  obtain ⟨z, its, n, r, hl, e⟩ := I.lstM hH
  obtain ⟨its2, r2, ⟨⟨cl, dc, da, so⟩, e2, hc, n2, hd⟩, z2⟩ := I.tuple hB
  have hc : cl = .type "tuple" := hc
  have hd : da = .seq its2.toArray n2 := hd
  subst hc hd
  have hl2 := r2.length
  have hsz : its.toArray.size + its2.toArray.size ≤ sizeLine := by rw [List.size_toArray, List.size_toArray]; omega
  have hlong : ¬ (!its.toArray.isEmpty && Builtin.List.listTooLong (its.toArray.size + its2.toArray.size)) = true := by
    rw [notLongL hsz, Bool.and_false]
    exact Bool.false_ne_true
  refine call_meets F.slot_list_extend ⟨_, e, rfl⟩ F.entry_list_extend (F.args_list_extend_2 _ _) (ext_tup l its.toArray n b its2.toArray n2 dc so hlong (by rw [List.size_toArray]; omega) (by omega)) ⟨e, e2, ?_⟩
  refine ⟨.non, _, I.lset (its' := its ++ its2) hH e (by simp) (r.append r2) ?_, rfl, q⟩
  rw [List.length_append]
  omega
def rExtendA (K : PySem.W.Frag) : V → List V → Hp → VK → Prop := fun x vs H Q => rExtend x vs H Q ∨ rExtendT K x vs H Q
theorem mt_extendA (K : PySem.W.Frag) (e : X.K = K := by rfl) : MtR X "list.extend" (rExtendA K) := by
  subst e
  intro pins s σ H x vs v us Q I rx rv h
  rcases h with h | h
  · exact mt_extend pins s σ H x vs v us Q I rx rv h
  · exact mt_extendT pins s σ H x vs v us Q I rx rv h
end
section
variable {K : PySem.W.Frag} {F : Hp} {O O' : Own} {H : Hp} {Q : VK}
theorem g_extL {a b : Addr} {xs zs : List V} (hH : Has F O H) (hb : H b = some (.lst zs)) (c : Chg O a (.lst xs) (.lst (xs ++ zs)) O') (hl : xs.length + zs.length ≤ sizeLine) (q : ∀ H', Has F O' H' → Q .non H') : rExtendA K (.ref a) [.ref b] H Q :=
  .inl ⟨a, b, xs, zs, rfl, rfl, hH.get c.mem, hb, hl, q _ (hH.put c)⟩
theorem g_extT {a b : Addr} {xs zs : List V} (hH : Has F O H) (hb : H b = some (.tup zs)) (c : Chg O a (.lst xs) (.lst (xs ++ zs)) O') (hl : xs.length + zs.length ≤ sizeLine) (q : ∀ H', Has F O' H' → Q .non H') : rExtendA K (.ref a) [.ref b] H Q :=
  .inr ⟨a, b, xs, zs, rfl, rfl, hH.get c.mem, SqT.of hb, hl, q _ (hH.put c)⟩
end
theorem Has.made2 {F H H' : Hp} {O : Own} {p l : Addr} {o u : HO} (h : Has F O H) (np : H p = none) (nl : H l = none) (s : Same H H') (ep : H' p = some o) (el : H' l = some u) (ne : p ≠ l) : Has F ((p, o) :: (l, u) :: O) H' := by
  have h1 := h.made nl s el
  refine ⟨h1.same, fun q hq => ?_, ?_⟩
  · rcases List.mem_cons.mp hq with rfl | hq
    · exact ⟨h.same.free np, ep⟩
    · exact h1.own q hq
  · rw [List.map_cons]
    refine List.nodup_cons.mpr ⟨fun m => ?_, h1.nd⟩
    obtain ⟨q, hq, e⟩ := List.mem_map.mp m
    rcases List.mem_cons.mp hq with rfl | hq
    · exact ne e.symm
    · have := (h.own q hq).2
      rw [e, np] at this
      cases this
end Qk

namespace Qk
open PySem PySem.Spec PyProof.Rows L2

/-! ### defs that raise -/
section
variable {P : Program} {w : World} {K : PySem.W.Frag} {mg : Str → Option Value} {base : Heap}
theorem Fun.okN {x qual : Str} {st : Stmt} {f : Addr} {fd : FuncData} {N ps : List Str} {k : Nat} {sp : Sp} (F : Fun K x qual st f fd) (S : FnScope N ps (defScope st)) (len : ∀ vs H Q E, sp vs H Q E → vs.length = ps.length)
    (hbody : ∀ (cdv : Value) (A : Around) (outer : List Env) (s : Shared) (H : Hp) (vs : List V) (Q : VK) (E : XK), Room k (A.deeper (envOfC qual (defScope st) s.heap.objs.size f cdv)) → sp vs H Q E →
      ∃ t, PSs (cxOf (L2N.CX P w) P w K mg base N qual (defScope st) f cdv A outer s H E) (defBody st) t ∧ t { nx := fun _ H' => Q .non H', rt := Q } (start N vs) H) : FnOk P w K mg base (L2N.CX P w) (k + 1) f fd ps sp := by
  obtain ⟨oc, od, kV, doc, pm, an, cdv, ct, osl, rfl, lk, hcd⟩ := F.ex
  exact fn_of lk hcd S len fun A outer s H vs Q E hr hsp => hbody cdv A outer s H vs Q E hr hsp
/-- a def that is called in a suite -/
theorem Fun.okH {x qual : Str} {st : Stmt} {f : Addr} {fd : FuncData} {N ps : List Str} {k : Nat} {sp : Sp} (F : Fun K x qual st f fd) (S : FnScope N ps (defScope st)) (len : ∀ vs H Q E, sp vs H Q E → vs.length = ps.length)
    (hbody : ∀ (cdv : Value) (A : Around) (outer : List Env) (s : Shared) (H : Hp) (vs : List V) (Q : VK) (E : XK) (p : Addr × Obj), L2H.Hot1 A p → L2H.RoomH k (A.deeper (envOfC qual (defScope st) s.heap.objs.size f cdv)) → sp vs H Q E →
      ∃ t, PSs (L2H.cxH CX0 P w K mg base N qual (defScope st) f cdv A outer s H E p) (defBody st) t ∧ t { nx := fun _ H' => Q .non H', rt := Q } (start N vs) H) : L2H.FnH P w K mg base CX0 (k + 1) f fd ps sp := by
  obtain ⟨oc, od, kV, doc, pm, an, cdv, ct, osl, rfl, lk, hcd⟩ := F.ex
  exact L2H.fn_ofH lk hcd S len fun A outer s H vs Q E p hot hr hsp => hbody cdv A outer s H vs Q E p hot hr hsp
end
theorem passN {X : Cx} : Passes (L2N.CX X.prog X.w) X E0 := fun _ _ _ _ _ _ _ h => by
  obtain ⟨_, _, _, _, _, _, _, _, _, _, _, _, z⟩ := h
  exact z.elim
theorem takesN {X : Cx} : L2N.Takes X (fun _ _ _ _ => False) := fun _ _ x => by
  obtain ⟨_, _, _, _, _, _, _, _, _, _, _, _, _, _, _, _, z⟩ := x
  exact z.elim

theorem _root_.L2H.RoomH.units {k : Nat} {A : Around} (r : L2H.RoomH k A) : A.units + 64 < cLine := by
  have := r.un
  omega
theorem roomS {k j : Nat} {A : Around} {h : Option Value} (r : Room k A) (e : j ≤ k) : L2H.RoomH j (A.mark h) := by
  have h1 := r.dp
  have h2 := r.un
  exact ⟨by show A.depth + 3 * j + 5 < _; omega, by show A.units + 16 * j + 200 < _; omega⟩
theorem huH {k : Nat} {A : Around} (r : L2H.RoomH k A) : A.units + 1 < cLine := by
  have := r.un
  omega
theorem u65H {k : Nat} {A : Around} (r : L2H.RoomH k A) : A.units + 65 < cLine := by
  have := r.un
  omega
/-- ways that meet in one heap fact: refine' g_merge (F := F) (O := O) (R := _) ?a ?b -/
theorem g_merge {F : Hp} {O : Own} {G : Prop} {R : Hp → Prop} (h1 : (∀ H', Has F O H' → R H') → G) (h2 : ∀ H', Has F O H' → R H') : G := h1 h2
theorem g_merge2 {α : Type} {G : Prop} {R : α → Hp → Prop} (P : α → Hp → Prop) (h1 : (∀ x H', P x H' → R x H') → G) (h2 : ∀ x H', P x H' → R x H') : G := h1 h2
theorem g_mergeP {F : Hp} {O : Own} {P G : Prop} {R : Hp → Prop} (h1 : (∀ H', Has F O H' → P → R H') → G) (h2 : ∀ H', Has F O H' → P → R H') : G := h1 h2
/-- a constant of the program's text -/
theorem pe_gc {X : Cx} {x : Str} {pos : Pos} {v : V} (hg : Gl X x) (h : ∃ u, X.mg x = some u ∧ RelV v u) (hd : (x == ("__debug__" : Str)) = false := by decide) : PE X (.Name x pos) (tC v) := by
  obtain ⟨u, hm, r⟩ := h
  exact pe_glob hg hm r hd
/-! ### raise C(e, ..) -/
section
variable {X : Cx} {pins : List (Addr × Obj)} {σ : L2.St} {H : Hp} {hp : Heap} {g : Array GenState} {dr : Drawn} {tk : Nat} {os : OsState} {C : Addr}
/-- the tuple of the arguments and the bare exception laid behind the heap -/
abbrev barePut (hp : Heap) (C : Addr) (us : List Value) : Heap := (hp.push (PySem.W.kdv_tup us)).push (PySem.HandSPX.excO C hp.objs.size)
theorem barePut_keeps {us : List Value} (b : Addr) (o : Obj) (e : hp.get? b = some o) : (barePut hp C us).get? b = some o := Heap.get?_push_of_some _ (Heap.get?_push_of_some _ e)
theorem barePut_inv (I : Inv X pins σ H ⟨hp, g, dr, tk, os⟩) (us : List Value) : Inv X pins σ (upd H (hp.objs.size + 1) (exo (hp.objs.size + 1) C none)) ⟨barePut hp C us, g, dr, tk, os⟩ := by
  refine I.laid (t' := tk) barePut_keeps (Nat.le_succ _) (exo_ok (t1 := hp.objs.size) ?_)
  unfold barePut
  heap_get
/-- what an __init__ leaves, as an exception in hand -/
theorem in_hand {H2 : Hp} {Q : XK} {us : List Value} {s' : Shared} {d : Addr} {fs : List (Str × V)} (T : OexC X.K C) (I : Inv X pins σ H ⟨hp, g, dr, tk, os⟩) (un : Un (frs X.stack) [] (upd H (hp.objs.size + 1) (exo (hp.objs.size + 1) C none)) H2 (barePut hp C us) s'.heap)
    (ok : HOk X.prog X.w H2 s'.heap) (eo : s'.os = os) (bare : AllBare s'.gens) (ea : H2 (hp.objs.size + 1) = some (exo (hp.objs.size + 1) C (some d))) (ed : H2 d = some (exd d fs)) (nd : H d = none)
    (q : Q (.ref C) (some d) (upd (del H2 (hp.objs.size + 1)) d (.xd fs))) : L2N.MkP X pins σ Q (.ref (hp.objs.size + 1)) s' := by
  obtain ⟨h2, g2, d2, t2, o2⟩ := s'
  obtain ⟨tt, G, J, kG, gone, there, free⟩ := mk_end0 (t2 := t2) (d2 := d2) I (Nat.le_succ _) barePut_keeps un ok eo bare ea ed nd
  have zn : L2N.Zn (.ref C) (some d) ({ cls := .ref C, dict := some d, data := .fields #[.ref tt, .none, .none, .none, .bool false, .none] } : Obj) := ⟨rfl, rfl, fun vs hv => by cases hv; rfl⟩
  exact ⟨_, _, _, ⟨G, g2, d2, t2, o2⟩, _, _, some d, rfl, J, kG, gone, there, zn, rfl, rfl, free, rfl, bare, raises_own T.exC T.tyC, q⟩
end
theorem pmk_oexN {X : Cx} {e : Expr} {es : List Expr} {ta : TA} {p pos : Pos} {CX : CXT} {x : Str} {C fI : Addr} {k : Nat} {fd : FuncData} {ps : List Str} {sp : Sp} (T : OexC X.K C) (iC : PySem.W.findIn X.K (.ref C) "__init__" = some (some (.ref fI))) (tI : PySem.W.typeIn X.K (.ref fI) = some (.type "function"))
    (Fi : FnOk X.prog X.w X.K X.mg X.base CX k fI fd ps sp) (room : Room (k + 1) X.A) (binds : Binds X.K fd ps []) (pass : Passes CX X (fun _ _ _ => False)) (gl : Gl X x) (gm : X.mg x = some (.ref C)) (args : PA X (e :: es) ta)
    (dbg : (x == ("__debug__" : Str)) = false := by decide) (star : starEach (e :: es) X.env = (false, eval e X.env) :: starEach es X.env := by rfl) (plain : (backTo pos (starEach es X.env)).any (·.1) = false := by rfl) :
    L2N.PMk X (.Call (.Name x p) (e :: es) [] pos) (tMkO C sp [] ta) := fun pins s σ H Q I h => by
  obtain ⟨_, _, _, _, bm, _, _, _, _, _, _, _, _, _, _, cl, rf⟩ := T.cls
  refine wpAny_Call_Name_kw (ld_glob I gl gm (PySem.W.callWith_K (h₀ := X.base) I.ok.mod.kin T.kC (thn (args.run pos pins s σ H _ I h) fun us s1 hs => ?_) star plain) dbg)
  obtain ⟨vs, H1, J, rel, few, spq⟩ := hs
  refine ⟨J.kIn, ?_⟩
  obtain ⟨hp, g, dr, tk, os⟩ := s1
  have J2 := barePut_inv (C := C) J us
  have start := spq (hp.objs.size + 1) (J.hok.fresh (Nat.le_succ _))
  rw [List.append_nil] at start
  have vals : Vals (V.ref (hp.objs.size + 1) :: vs) (Value.ref (hp.objs.size + 1) :: us) := .cons rfl rel
  have many : (Value.ref (hp.objs.size + 1) :: us).length = ps.length := vals.length.symm.trans (Fi.len _ _ _ _ start)
  have bd := binds _ (Value.ref (hp.objs.size + 1) :: us) J2.kIn (by rw [List.append_nil]; exact many)
  rw [List.append_nil] at bd
  have room2 : us.length ≤ sizeLine := sz (by have := Paired.length rel; omega)
  have run := Fi.run _ X.stack _ _ ⟨Value.ref (hp.objs.size + 1) :: us, []⟩ (Value.ref (hp.objs.size + 1) :: us) _ _ (fun _ _ _ => False) (room.make C us []) (J2.env0.make C us []) bd vals start
  show wpAny (model X.prog X.w) X.A (call (.ref C) us) _ _ _
  refine wpAny_call (PySem.HandSPX.call_own F.excBase_ValueError (fun Y => PySem.HandSPX.refsVE_contains Y bm rf) (J.kIn _ _ cl) (PySem.W.looks_findIn J.kIn iC) (fun self => PySem.W.bind_fn J.kIn self tI) room2 (codeAny_mono run fun r s' end_ => ?_))
  match r, end_ with
  | .error er, end_ => exact pass pins σ _ _ er s' J2 end_
  | .ok (.ret u), ⟨v, H2, eo, bare, un, ok, ru, ev, d, fs, ea, ed, nd, q⟩ =>
    subst ev
    exact ⟨ru, in_hand T J un ok eo bare ea ed nd q⟩
  | .ok .next, end_ => exact end_.elim
  | .ok .brk, end_ => exact end_.elim
  | .ok .cont, end_ => exact end_.elim

/-! ### readings in order -/
/-- raise C(vs) -/
def kMk (C : Addr) (sp : Sp) (vs : List V) (H : Hp) (Q : XK) : Prop := vs.length ≤ 1000 ∧ ∀ a, H a = none → sp (.ref a :: (vs ++ [])) (upd H a (exo a C none))
  (fun v H2 => v = .non ∧ ∃ (d : Addr) (fs : List (Str × V)), H2 a = some (exo a C (some d)) ∧ H2 d = some (exd d fs) ∧ H d = none ∧ Q (.ref C) (some d) (upd (del H2 a) d (.xd fs))) (fun _ _ _ => False)
def tRaise (W : WX) (C : Addr) (sp : Sp) (ta : TA) : TS := fun _ σ H => tMkO C sp [] ta σ H fun cls d H' => W cls d σ H'
theorem k_raise {X : Cx} {W : WX} {e : Expr} {C : Addr} {sp : Sp} {ta : TA} {pos : Pos} (hc : X.calm = true) (tk : L2N.Takes X W) (he : L2N.PMk X e (tMkO C sp [] ta)) : PS X (.Raise (some e) none pos) (tRaise W C sp ta) := L2N.ps_raise hc tk he
theorem g_raise {W : WX} {C : Addr} {sp : Sp} {ta : TA} {D : Ends} {σ : L2.St} {H : Hp} (q : ta σ H fun vs H1 => kMk C sp vs H1 fun cls d H' => W cls d σ H') : tRaise W C sp ta D σ H := q
/-- try: body, except c as i: suite -/
def tTry (K : PySem.W.Frag) (c : Value) (i : Nat) (tb : WX → TS) (ts : Addr → Value → Option Addr → TS) (Wout : WX) : TS := fun D σ H => tb (wAs K c i ts Wout D) D σ H
theorem k_try {X : Cx} {x n : Str} {c : Value} {i : Nat} {body suite : List Stmt} {b₀ : Stmt} {np pos pos' : Pos} {tb : WX → TS} {ts : Addr → Value → Option Addr → TS} {Wout : WX} (K : PySem.W.Frag)
    (hs : X.stack = X.env :: X.outer) (hf : X.env.frame = some X.env.locals) (hN : X.N.Nodup) (hi : X.N[i]? = some n) (hln : X.env.kindOf n = some .local) (hc : Names X x c) (tk : L2N.Takes X Wout)
    (hb : ∀ (W : WX) (pn : List (Addr × Obj)) (xe : Value → Shared → Prop), L2N.Takes (X.tr pn xe) W → PassesOwn (model X.prog X.w) X.A X.env xe → PSs (X.tr pn xe) body (tb W))
    (hsu : ∀ (a : Addr) (oe : Obj) (cls : Value) (d : Option Addr) (pn : List (Addr × Obj)), L2N.Zn cls d oe → (∃ vs, oe.data = .fields vs) → PSs (X.suite a ((a, oe) :: pn)) (b₀ :: suite) (ts a cls d)) (e : X.K = K := by rfl) :
    PS X (.Try body [.ExceptHandler (some (.Name x np)) (some n) (b₀ :: suite) pos'] [] [] pos) (tTry K c i tb ts Wout) := by subst e; exact L2N.ps_try_as hs hf hN hi hln hc tk hb hsu
/-- the way into the suite -/
theorem g_caught {K : PySem.W.Frag} {c cls : Value} {i : Nat} {ts : Addr → Value → Option Addr → TS} {Wout : WX} {D : Ends} {d : Option Addr} {σ : L2.St} {H : Hp} (m : PySem.W.exmOne K cls c = some true)
    (q : ∀ a, H a = none → ts a cls d { nx := fun σ' H' => D.nx (σ'.set i none) H', rt := D.rt, bk := fun σ' H' => D.bk (σ'.set i none) H', ct := fun σ' H' => D.ct (σ'.set i none) H' } (σ.set i (some (.ref a))) H) : wAs K c i ts Wout D cls d σ H :=
  ⟨true, m, fun _ => q, fun z => by cases z⟩
theorem g_try {K : PySem.W.Frag} {c : Value} {i : Nat} {tb : WX → TS} {ts : Addr → Value → Option Addr → TS} {Wout : WX} {D : Ends} {σ : L2.St} {H : Hp} (q : tb (wAs K c i ts Wout D) D σ H) : tTry K c i tb ts Wout D σ H := q
theorem g_callS {sp : Sp} {E : L2.St → XK} {t : TA} {σ : L2.St} {H : Hp} {Q : VK} (q : t σ H fun vs H1 => sp vs H1 Q (E σ)) : tCallS sp E t σ H Q := q

theorem g_ost {K : PySem.W.Frag} {f : Str} {to te : TE} {D : Ends} {σ : L2.St} {H : Hp} (q : tOst K f to te D σ H) : tOst K f to te D σ H := q
theorem upd_over {H : Hp} {dx a : Addr} {e1 e2 x : HO} (ne : dx ≠ a) : upd (upd (upd H dx e1) a x) dx e2 = upd (upd H dx e2) a x := by
  funext b
  by_cases h1 : b = dx
  · subst h1
    rw [upd_same, upd_ne ne, upd_same]
  · rw [upd_ne h1]
    by_cases h2 : b = a
    · subst h2
      rw [upd_same, upd_same]
    · rw [upd_ne h2, upd_ne h2, upd_ne h1, upd_ne h1]
/-- __init__ that keeps each argument in a field of its name -/
def sp_oinit (C : Addr) (names : List Str) : Sp := fun vs H Q _ => ∃ (a : Addr) (ws : List V), vs = .ref a :: ws ∧ ws.length = names.length ∧ H a = some (exo a C none) ∧
  ∀ dx, H dx = none → dx ≠ a → Q .non (upd (upd H dx (exd dx (names.zip ws).reverse)) a (exo a C (some dx)))
theorem sp_oinit_len {C : Addr} {names : List Str} {vs H Q E} (h : sp_oinit C names vs H Q E) : vs.length = names.length + 1 := by
  obtain ⟨a, ws, rfl, hl, _⟩ := h
  rw [List.length_cons, hl]
theorem g_mk {C : Addr} {names : List Str} {vs : List V} {F H : Hp} {O : Own} {Q : XK} (hl : vs.length = names.length) (hs : names.length ≤ 1000) (hH : Has F O H) (q : ∀ d H', H d = none → Has F ((d, .xd (names.zip vs).reverse) :: O) H' → Q (.ref C) (some d) H') : kMk C (sp_oinit C names) vs H Q := by
  refine ⟨by omega, fun a n => ⟨a, vs ++ [], rfl, by rw [List.append_nil]; exact hl, upd_same, fun dx n1 ne => ⟨rfl, dx, (names.zip vs).reverse, upd_same, ?_, ?_, ?_⟩⟩⟩
  · rw [upd_ne ne, upd_same, List.append_nil]
  · rw [upd_ne ne] at n1
    exact n1
  · rw [upd_ne ne] at n1
    have e : upd (del (upd (upd (upd H a (exo a C none)) dx (exd dx (names.zip (vs ++ [])).reverse)) a (exo a C (some dx))) a) dx (.xd (names.zip vs).reverse) = upd H dx (.xd (names.zip vs).reverse) := by
      funext b
      by_cases h1 : b = dx
      · subst h1
        rw [upd_same, upd_same]
      · rw [upd_ne h1, upd_ne h1]
        by_cases h2 : b = a
        · subst h2
          rw [del_same, n]
        · rw [del_ne h2, upd_ne h2, upd_ne h1, upd_ne h2]
    rw [e]
    exact q dx _ n1 (hH.new n1)
/-! ### in a suite: isinstance, a field, a call -/
structure IsC (K : PySem.W.Frag) (D : Addr) : Prop where
  cl : (PySem.W.clsIn K D).isSome = true
  hg : PySem.W.findIn K (.ref D) "__getattribute__" = some (some (.builtin "BaseException.__getattribute__"))
  hk : PySem.W.findIn K (.ref D) "__getattr__" = some none
  hs : PySem.W.subIn K (.ref D) (.type "BaseException") = some true
  hd : PySem.W.hasDictIn K D = true
  ha : PySem.W.findIn K (.ref D) "__class__" = some (some (.builtin "object.__class__"))
  hn : PySem.W.specialIn K (.builtin "object.__class__") "__get__" = some (some (.builtin "getset_descriptor.__get__"))
  ht : PySem.W.takesIn K (.builtin "object.__class__") = some true
  hm : PySem.W.mroIn K D (.type "object") = some true
/-- isinstance(e, c) for the caught e: a is where it stands -/
def rIsX (K : PySem.W.Frag) (a : Addr) (cls : Value) (d : Option Addr) : List V → Hp → VK → Prop := fun xs H Q => ∃ (D : Addr) (c : V) (cv : Value) (b : Bool), cls = .ref D ∧ IsC K D ∧ (d = none ∨ ∃ dd fs, d = some dd ∧ H dd = some (.xd fs)) ∧ xs = [.ref a, c] ∧ (∀ u, RelV c u → u = cv) ∧ PySem.W.kitOne K (.ref D) cv = some b ∧ Q (.bl b) H
def rIsY (K : PySem.W.Frag) (a : Addr) (cls : Value) (d : Option Addr) : List V → Hp → VK → Prop := fun xs H Q => rIsX K a cls d xs H Q ∨ rIsA K xs H Q
theorem cr_isX {X : Cx} {a : Addr} {oe : Obj} {cls : Value} {d : Option Addr} {pn : List (Addr × Obj)} (K : PySem.W.Frag) (hz : L2.Zc cls d oe) (hf : ∃ vs, oe.data = .fields vs) (e : X.K = K := by rfl) : CallR (X.suite a ((a, oe) :: pn)) (.builtin "isinstance") (rIsY K a cls d) := by
  subst e
  intro pins s σ H xs us Q I r h
  rcases h with h | h
  · obtain ⟨D, c, cv, b, ecl, C, hd, rfl, hcv, e, q⟩ := h
    cases r with
    | cons rx rr =>
      cases rr with
      | cons rt rr =>
        cases rr
        cases rx
        have ec := hcv _ rt
        subst ec
        obtain ⟨hget, _⟩ := I.pin (a, oe) (List.mem_append.mpr (.inl List.mem_cons_self))
        obtain ⟨vs, hv⟩ := hf
        have hcl : oe.cls = .ref D := hz.1.trans ecl
        have hdx := hz.2
        have key : ∀ od, PySem.W.InstAt s.heap a oe D od → wpAny (model X.prog X.w) (X.suite a ((a, oe) :: pn)).A (call (.builtin "isinstance") [.ref a, _]) (EP (X.suite a ((a, oe) :: pn)) pins σ Q) (X.suite a ((a, oe) :: pn)).xe s := fun od J =>
          PySem.W.kia_one (PySem.W.kitx_exc C.cl C.hg C.hk C.hs C.ha C.hn C.ht C.hm) I.kIn J e (fun z => nomatch z) fun tk => ⟨.bl b, H, I.kept (t' := tk) fun _ _ z => z, rfl, q⟩
        rcases hd with hd | ⟨dd, fs, hd, ea⟩
        · refine key none ?_
          rw [hd] at hdx
          exact ⟨hget, hcl, by unfold PySem.W.notCls; rw [hv] <;> rfl, by rw [hdx]; trivial⟩
        · have hx : ObjOk X.prog X.w H s.heap dd (.xd fs) := I.hok dd _ ea
          obtain ⟨mA, hns, hr⟩ := hx
          obtain ⟨od, ho, hl⟩ := lookIn_ns hns
          refine key (some od) ?_
          rw [hd] at hdx
          exact ⟨hget, hcl, by unfold PySem.W.notCls; rw [hv] <;> rfl, by rw [hdx]; exact ho⟩
  · exact cr_isK X.K (X := X.suite a ((a, oe) :: pn)) rfl pins s σ H xs us Q I r h
/-- e.f for the caught e -/
def tXfA (K : PySem.W.Frag) (a : Addr) (cls : Value) (d : Option Addr) (f : Str) (te : TE) : TE := fun σ H Q => te σ H fun x H1 => x = .ref a ∧ ∃ (C dd : Addr) (fs : List (Str × V)) (v : V), cls = .ref C ∧ XfC K C ∧ PySem.W.findIn K (.ref C) f = some none ∧ d = some dd ∧ H1 dd = some (.xd fs) ∧ fs.lookup f = some v ∧ Q v H1
theorem pe_xfA {X : Cx} {a : Addr} {oe : Obj} {cls : Value} {d : Option Addr} {pn : List (Addr × Obj)} {e : Expr} {te : TE} {pos : Pos} {n : Str} (K : PySem.W.Frag) (hz : L2.Zc cls d oe) (hf : ∃ vs, oe.data = .fields vs) (he : PE (X.suite a ((a, oe) :: pn)) e te) (ek : X.K = K := by rfl) (hb : attributeBase e n X.env (eval e X.env) = eval e X.env := by rfl) :
    PE (X.suite a ((a, oe) :: pn)) (.Attribute e n pos) (tXfA K a cls d n te) := by
  subst ek
  refine ⟨fun pins s σ H Q I h => ?_⟩
  refine attr_of hb (thn (he.run pins s σ H _ I h) fun u s1 hh => ?_)
  obtain ⟨x, H1, I1, rx, ex, C, dd, fs, v, ec, T, hno, ed, ea, l, q⟩ := hh
  subst ex
  obtain rfl : u = Value.ref a := rx
  subst ec
  subst ed
  obtain ⟨ha, _⟩ := I1.pin (a, oe) (List.mem_append_left _ List.mem_cons_self)
  obtain ⟨vs, hd⟩ := hf
  have hx : ObjOk X.prog X.w H1 s1.heap dd (.xd fs) := I1.hok dd _ ea
  obtain ⟨mA, hns, hr⟩ := hx
  obtain ⟨od, ho, hl⟩ := lookIn_ns hns
  obtain ⟨u, hu, ru⟩ := RelO.some_of (v := v) (o := mA n) (by rw [← l]; exact hr n)
  have J : PySem.W.InstAt s1.heap a oe C (some od) := ⟨ha, hz.1, by unfold PySem.W.notCls; rw [hd] <;> rfl, by rw [hz.2]; exact ho⟩
  exact HandSPX.exc_get I1.kIn J T.ga T.gg T.exC (PySem.W.findObj_own T.hdC hno rfl (by rw [hl, hu])) (handed_of ru) ⟨v, H1, I1.tok _, ru, q⟩
def kXf (K : PySem.W.Frag) (a : Addr) (cls : Value) (d : Option Addr) (f : Str) (x : V) (H1 : Hp) (Q : VK) : Prop := x = .ref a ∧ ∃ (C dd : Addr) (fs : List (Str × V)) (v : V), cls = .ref C ∧ XfC K C ∧ PySem.W.findIn K (.ref C) f = some none ∧ d = some dd ∧ H1 dd = some (.xd fs) ∧ fs.lookup f = some v ∧ Q v H1
theorem g_xf {K : PySem.W.Frag} {a : Addr} {cls : Value} {d : Option Addr} {f : Str} {te : TE} {σ : L2.St} {H : Hp} {Q : VK} (q : te σ H fun x H1 => kXf K a cls d f x H1 Q) : tXfA K a cls d f te σ H Q := q
theorem g_kxf {K : PySem.W.Frag} {a C dd : Addr} {f : Str} {fs : List (Str × V)} {v : V} {H : Hp} {Q : VK} (X : XfC K C) (n : PySem.W.findIn K (.ref C) f = some none) (hd : H dd = some (.xd fs)) (l : fs.lookup f = some v) (q : Q v H) : kXf K a (.ref C) (some dd) f (.ref a) H Q :=
  ⟨rfl, C, dd, fs, v, rfl, X, n, rfl, hd, l, q⟩
theorem g_isX {K : PySem.W.Frag} {a D C dd : Addr} {fs : List (Str × V)} {b : Bool} {H : Hp} {Q : VK} (I : IsC K D) (hd : H dd = some (.xd fs)) (k : PySem.W.kitOne K (.ref D) (.ref C) = some b) (q : Q (.bl b) H) : rIsY K a (.ref D) (some dd) [.ref a, .ref C] H Q :=
  .inl ⟨D, .ref C, .ref C, b, rfl, I, .inr ⟨dd, fs, rfl, hd⟩, rfl, fun u r => r, k, q⟩
theorem g_isXT {K : PySem.W.Frag} {a D dd : Addr} {n : String} {fs : List (Str × V)} {b : Bool} {H : Hp} {Q : VK} (I : IsC K D) (hd : H dd = some (.xd fs)) (k : PySem.W.kitOne K (.ref D) (.type n) = some b) (q : Q (.bl b) H) : rIsY K a (.ref D) (some dd) [.ref a, .ty n] H Q :=
  .inl ⟨D, .ty n, .type n, b, rfl, I, .inr ⟨dd, fs, rfl, hd⟩, rfl, fun u r => r, k, q⟩
theorem exm_own {K : PySem.W.Frag} {C : Addr} {cls : Value} {b : Bool} (h1 : PySem.W.subIn K (.ref C) (.type "BaseException") = some true) (hc : PySem.W.isClsIn K C = true) (ht : PySem.W.typeIn K (.ref C) = some (.type "type")) (h4 : PySem.W.subIn K cls (.ref C) = some b) : PySem.W.exmOne K cls (.ref C) = some b := by
  have hc' : (PySem.W.clsIn K C).isSome = true := hc
  have e1 : (PySem.W.subIn K (.ref C) (.type "BaseException") == some true) = true := by rw [h1] <;> rfl
  have e2 : ((PySem.W.clsIn K C).isSome && PySem.W.typeIn K (.ref C) == some (.type "type")) = true := by rw [hc', ht] <;> rfl
  show (if (PySem.W.subIn K (.ref C) (.type "BaseException") == some true) = true then (if ((PySem.W.clsIn K C).isSome && PySem.W.typeIn K (.ref C) == some (.type "type")) = true then PySem.W.subIn K cls (.ref C) else none) else none) = some b
  rw [if_pos e1, if_pos e2]
  exact h4
theorem kit_own {K : PySem.W.Frag} {D C : Addr} {b : Bool} (hs : PySem.W.subIn K (.ref D) (.ref D) = some true) (h4 : PySem.W.subIn K (.ref D) (.ref C) = some b) (hc : PySem.W.isClsIn K C = true) (ht : PySem.W.typeIn K (.ref C) = some (.type "type")) : PySem.W.kitOne K (.ref D) (.ref C) = some b := by
  have hc' : (PySem.W.clsIn K C).isSome = true := hc
  unfold PySem.W.kitOne
  by_cases e : (Value.ref D == Value.ref C) = true
  · rw [if_pos e]
    have e2 : D = C := Value.ref.inj (beq_iff_eq.mp e)
    subst e2
    rw [hs] at h4
    exact h4
  · rw [if_neg e]
    have e2 : ((PySem.W.clsIn K C).isSome && PySem.W.typeIn K (.ref C) == some (.type "type")) = true := by rw [hc', ht] <;> rfl
    show (if ((PySem.W.clsIn K C).isSome && PySem.W.typeIn K (.ref C) == some (.type "type")) = true then PySem.W.subIn K (.ref D) (.ref C) else none) = some b
    rw [if_pos e2]
    exact h4
theorem kit_ve {K : PySem.W.Frag} {D : Addr} (h : PySem.W.subIn K (.ref D) (.type "ValueError") = some true) : PySem.W.kitOne K (.ref D) (.type "ValueError") = some true := by
  have e : ¬ (Value.ref D == Value.type "ValueError") = true := by
    intro z
    cases (beq_iff_eq.mp z)
  unfold PySem.W.kitOne
  rw [if_neg e]
  show (if PySem.W.kitMeta "ValueError" = true then PySem.W.subIn K (.ref D) (.type "ValueError") else none) = some true
  rw [if_pos (by decide +kernel)]
  exact h
theorem hot_suite {X : Cx} {a : Addr} {oe : Obj} {cls : Value} {d : Option Addr} {pn : List (Addr × Obj)} (hz : L2N.Zn cls d oe) (hf : ∃ vs, oe.data = .fields vs) : L2H.HotC (X.suite a ((a, oe) :: pn)) := by
  obtain ⟨vs, hv⟩ := hf
  exact ⟨(a, oe), ⟨rfl, vs, hv, hz.2.2 vs hv⟩, List.mem_cons_self⟩

/-! ### objects -/
section
variable {X : Cx} {K : PySem.W.Frag} {σ : L2.St} {F : Hp} {O O' : Own} {H : Hp} {Q : VK} {ta te tv : TE} {x y v : V} {D : Ends}
theorem k_fld {ex : Expr} {f : Str} (K : PySem.W.Frag) (h : PE X ex (tFld X.K te f)) (e : X.K = K := by rfl) : PE X ex (tFld K te f) := by subst e; exact h
def kFld (K : PySem.W.Frag) (f : Str) (x : V) (H1 : Hp) (Q : VK) : Prop := ∃ a C dx fs v, x = .ref a ∧ H1 a = some (.ins C dx fs) ∧ Cls K C ∧ NoAttr K C f ∧ fs.lookup f = some v ∧ Q v H1
theorem g_fld {f : Str} (q : te σ H fun x H1 => kFld K f x H1 Q) : tFld K te f σ H Q := q
theorem g_kfld {a C dx : Addr} {fs : List (Str × V)} {f : Str} (h : H a = some (.ins C dx fs)) (c : Cls K C) (n : NoAttr K C f) (l : fs.lookup f = some v) (q : Q v H) : kFld K f (.ref a) H Q := ⟨a, C, dx, fs, v, rfl, h, c, n, l, q⟩
theorem k_sfld {st : Stmt} {f : Str} (K : PySem.W.Frag) (h : PS X st (sFld X.K ta tv f)) (e : X.K = K := by rfl) : PS X st (sFld K ta tv f) := by subst e; exact h
def kSFld (K : PySem.W.Frag) (f : Str) (x y : V) (D : Ends) (σ : L2.St) (H2 : Hp) : Prop := ∃ a C dx fs, x = .ref a ∧ H2 a = some (.ins C dx fs) ∧ Cls K C ∧ NoAttr K C f ∧ fs.length < 1000 ∧ D.nx σ (upd H2 a (.ins C dx (putF f y fs)))
theorem g_sfld {f : Str} (q : tv σ H fun y H1 => ta σ H1 fun x H2 => kSFld K f x y D σ H2) : sFld K ta tv f D σ H := q
theorem g_ksfld {a C dx : Addr} {fs fs' : List (Str × V)} {f : Str} (hH : Has F O H) (c : Chg O a (.ins C dx fs) (.ins C dx fs') O') (e : putF f y fs = fs') (cl : Cls K C) (n : NoAttr K C f) (hl : fs.length < 1000) (q : ∀ H', Has F O' H' → D.nx σ H') : kSFld K f (.ref a) y D σ H := by
  subst e
  exact ⟨a, C, dx, fs, rfl, hH.get c.mem, cl, n, hl, q _ (hH.put c)⟩
/-- o.m(..), what is let out told at the slots -/
def tMethS (C : Addr) (m : Str) (sp : Sp) (E : L2.St → XK) (ta : TE) (t : TA) : TE := fun σ H Q => ta σ H fun x H1 => ∃ a dx fs, x = .ref a ∧ H1 a = some (.ins C dx fs) ∧ fs.lookup m = none ∧ t σ H1 fun vs H2 => sp (x :: vs) H2 Q (E σ)
def kMeth (C : Addr) (m : Str) (sp : Sp) (E : L2.St → XK) (t : TA) (σ : L2.St) (x : V) (H1 : Hp) (Q : VK) : Prop := ∃ a dx fs, x = .ref a ∧ H1 a = some (.ins C dx fs) ∧ fs.lookup m = none ∧ t σ H1 fun vs H2 => sp (x :: vs) H2 Q (E σ)
theorem g_meth {C : Addr} {m : Str} {sp : Sp} {E : L2.St → XK} {t : TA} (q : ta σ H fun x H1 => kMeth C m sp E t σ x H1 Q) : tMethS C m sp E ta t σ H Q := q
theorem g_kmeth {C : Addr} {m : Str} {sp : Sp} {E : L2.St → XK} {t : TA} {a dx : Addr} {fs : List (Str × V)} (h : H a = some (.ins C dx fs)) (l : fs.lookup m = none) (q : t σ H fun vs H2 => sp (.ref a :: vs) H2 Q (E σ)) : kMeth C m sp E t σ (.ref a) H Q := ⟨a, dx, fs, rfl, h, l, q⟩
variable {CX : CXT} {k : Nat} {f C : Addr} {fd : FuncData} {ps : List Str} {sp : Sp} {E : L2.St → XK} {m : Str} {pos apos : Pos} {e o : Expr} {es : List Expr} {t : TA}
theorem pe_methW {pl : Sem Bool} (ho : PE X o ta) (cl : Cls X.K C) (me : Meth X.K C m f) (G : FnOk X.prog X.w X.K X.mg X.base CX k f fd ps sp) (room : Room k X.A) (bd : Binds X.K fd ps []) (pass : ∀ σ, PassesAt CX X σ (E σ)) (args : PA X (e :: es) t)
    (star : starEach (e :: es) X.env = (false, eval e X.env) :: starEach es X.env := by rfl) (plain : (backTo pos (starEach es X.env)).any (·.1) = false := by rfl)
    (tree : eval (.Call (.Attribute o m apos) (e :: es) [] pos) X.env = (do
      let ov ← eval o X.env
      standAt apos.atName
      let (f, first) ← holding [ov] (getMethod ov m pl)
      callWith pos f first (backTo pos (starEach (e :: es) X.env)) (backToKw pos (keywordEach [] X.env))) := by rfl) :
    PE X (.Call (.Attribute o m apos) (e :: es) [] pos) (tMethS C m sp E ta t) := ⟨fun pins s σ H Q I h => by
  refine PySem.W.methodCall_KW (pl := pl) (thn (ho.run pins s σ H _ I h) fun u s1 hu => ?_) tree
  obtain ⟨x, H1, J, rx, a, dx, fs, rfl, there, none_, go⟩ := hu
  cases (show u = Value.ref a from rx)
  refine getmeth_ok J there cl me none_ (PySem.W.callWith_K (first := [.ref a]) (h₀ := X.base) I.ok.mod.kin me.kp (thn (args.run pos pins s1 σ H1 _ J go) fun us s2 hs => ?_) star plain)
  obtain ⟨vs, H2, J2, rel, pr⟩ := hs
  exact ⟨J2.kIn, run_fnS (us := .ref a :: us) (vs := .ref a :: vs) G room bd (pass σ) J2 (.cons rfl rel) pr⟩⟩
theorem pe_methW0 {pl : Sem Bool} (ho : PE X o ta) (cl : Cls X.K C) (me : Meth X.K C m f) (G : FnOk X.prog X.w X.K X.mg X.base CX k f fd ps sp) (room : Room k X.A) (bd : Binds X.K fd ps []) (pass : ∀ σ, PassesAt CX X σ (E σ))
    (tree : eval (.Call (.Attribute o m apos) [] [] pos) X.env = (do
      let ov ← eval o X.env
      standAt apos.atName
      let (f, first) ← holding [ov] (getMethod ov m pl)
      callWith pos f first (backTo pos (starEach [] X.env)) (backToKw pos (keywordEach [] X.env))) := by rfl) :
    PE X (.Call (.Attribute o m apos) [] [] pos) (tMethS C m sp E ta tNil) := ⟨fun pins s σ H Q I h => by
  refine PySem.W.methodCall_KW (pl := pl) (thn (ho.run pins s σ H _ I h) fun u s1 hu => ?_) tree
  obtain ⟨x, H1, J, rx, a, dx, fs, rfl, there, none_, go⟩ := hu
  cases (show u = Value.ref a from rx)
  exact getmeth_ok J there cl me none_ (PySem.W.callWith_K0 (first := [.ref a]) J.kIn me.kp (run_fnS (us := [.ref a]) (vs := [.ref a]) G room bd (pass σ) J (.cons rfl .nil) go))⟩
theorem pass0S {X : Cx} {E : L2.St → XK} : ∀ σ, PassesAt CX0 X σ (E σ) := fun _ _ _ _ _ _ _ h => h.elim
theorem passNS {X : Cx} : ∀ σ, PassesAt (L2N.CX X.prog X.w) X σ ((fun _ => E0) σ) := fun _ _ _ _ _ _ _ h => by
  obtain ⟨_, _, _, _, _, _, _, _, _, _, _, _, z⟩ := h
  exact z.elim
/-- C(..) -/
def kMake (C : Addr) (sp : Sp) (E : XK) (vs : List V) (H1 : Hp) (Q : VK) : Prop := ∀ x dx, H1 x = none → H1 dx = none → dx ≠ x → sp (.ref x :: (vs ++ [])) (upd (upd H1 dx (.own x)) x (.ins C dx [])) (fun v H2 => v = .non ∧ Q (.ref x) H2) E
theorem g_make {E : XK} (q : t σ H fun vs H1 => kMake C sp E vs H1 Q) : tMake C sp [] E t σ H Q := q
theorem g_kmake {E : XK} {vs : List V} (hH : Has F O H) (q : ∀ x dx H', H x = none → Has F ((x, .ins C dx []) :: (dx, .own x) :: O) H' → sp (.ref x :: vs) H' (fun v H2 => v = .non ∧ Q (.ref x) H2) E) : kMake C sp E vs H Q := by
  intro x dx nx nd ne
  rw [List.append_nil]
  refine q x dx _ nx ((hH.new nd).new (by rw [upd_ne (Ne.symm ne)]; exact nx))
/-- del d[k] -/
def kDel (x y : V) (D : Ends) (σ : L2.St) (H2 : Hp) : Prop := ∃ a kvs k, x = .ref a ∧ H2 a = some (.dK kvs) ∧ y = kV k ∧ (valV kvs k).isSome = true ∧ D.nx σ (upd H2 a (.dK (dropK kvs k)))
end
section
variable {X : Cx} {K : PySem.W.Frag} {σ : L2.St} {F : Hp} {O O' : Own} {H : Hp} {Q : VK} {td ty : TE} {D : Ends}
theorem g_del (q : td σ H fun x H1 => ty σ H1 fun y H2 => kDel x y D σ H2) : sDDel td ty D σ H := q
theorem g_kdel {a : Addr} {kvs : List (Key × V)} {z : V} {k : Key} (ez : z = kV k) (hH : Has F O H) (c : Chg O a (.dK kvs) (.dK (dropK kvs k)) O') (i : (valV kvs k).isSome = true) (q : ∀ H', Has F O' H' → D.nx σ H') : kDel (.ref a) z D σ H :=
  ⟨a, kvs, k, rfl, hH.get c.mem, ez, i, q _ (hH.put c)⟩
theorem g_dnewK (hH : Has F O H) (q : ∀ p H', H p = none → Has F ((p, .dK []) :: O) H' → Q (.ref p) H') : tDNewK σ H Q := fun p n => q p _ n (hH.new n)
/-! ### sorted -/
def rSortA (K : PySem.W.Frag) : List V → Hp → VK → Prop := fun vs H Q => (rSorted K vs H Q ∨ rSortedS K vs H Q) ∨
  (∃ (a : Addr) (kvs : List (Key × V)) (ks : List Str), vs = [.ref a] ∧ Rd H a (.dK kvs) ∧ kvs.map (·.1) = ks.map Sum.inr ∧ ks.length < 64 ∧ ∀ ys p, ys.Perm ks → sortedS ys = true → H p = none → Q (.ref p) (upd H p (.lst (ys.map V.str)))) ∨
  (∃ (a : Addr) (kvs : List (Key × V)) (ks : List Int), vs = [.ref a] ∧ Rd H a (.dK kvs) ∧ kvs.map (·.1) = ks.map Sum.inl ∧ ks.length < 64 ∧ ∀ (ys : List Int) (p : Addr), ys.Perm ks → ys.Pairwise (· ≤ ·) → H p = none → Q (.ref p) (upd H p (.lst (ys.map V.int))))
theorem cr_sortA (K : PySem.W.Frag) (hc : X.calm = true) (e : X.K = K := by rfl) : CallR X (.builtin "sorted") (rSortA K) := by
  subst e
  intro pins s σ H xs us Q I r h
  rcases h with (h | h) | h | h
  · exact cr_sorted pins s σ H xs us Q I r h
  · exact cr_sortedS pins s σ H xs us Q I r h
  · exact call_sortedD hc pins s σ H xs us Q I r h
  · exact call_sortedDI hc pins s σ H xs us Q I r h
theorem g_sortI {a : Addr} {ns : List Int} (h : H a = some (.lst (ns.map V.int))) (l : ns.length < 64) (hH : Has F O H) (q : ∀ (ys : List Int) p H', ys.Perm ns → ys.Pairwise (· ≤ ·) → H p = none → Has F ((p, .lst (ys.map V.int)) :: O) H' → Q (.ref p) H') : rSortA K [.ref a] H Q :=
  .inl (.inl ⟨a, ns, rfl, SqL.of h, l, fun ys p e s n => q ys p _ e s n (hH.new n)⟩)
theorem g_sortS {a : Addr} {ns : List Str} (h : H a = some (.lst (ns.map V.str))) (l : ns.length < 64) (hH : Has F O H) (q : ∀ (ys : List Str) p H', ys.Perm ns → sortedS ys = true → H p = none → Has F ((p, .lst (ys.map V.str)) :: O) H' → Q (.ref p) H') : rSortA K [.ref a] H Q :=
  .inl (.inr ⟨a, ns, rfl, SqL.of h, l, fun ys p e s n => q ys p _ e s n (hH.new n)⟩)
theorem g_sortDS {a : Addr} {kvs : List (Key × V)} {ks : List Str} (h : H a = some (.dK kvs)) (e : kvs.map (·.1) = ks.map Sum.inr) (l : ks.length < 64) (hH : Has F O H) (q : ∀ (ys : List Str) p H', ys.Perm ks → sortedS ys = true → H p = none → Has F ((p, .lst (ys.map V.str)) :: O) H' → Q (.ref p) H') : rSortA K [.ref a] H Q :=
  .inr (.inl ⟨a, kvs, ks, rfl, .inl h, e, l, fun ys p e s n => q ys p _ e s n (hH.new n)⟩)
theorem g_sortDI {a : Addr} {kvs : List (Key × V)} {ks : List Int} (h : H a = some (.dK kvs)) (e : kvs.map (·.1) = ks.map Sum.inl) (l : ks.length < 64) (hH : Has F O H) (q : ∀ (ys : List Int) p H', ys.Perm ks → ys.Pairwise (· ≤ ·) → H p = none → Has F ((p, .lst (ys.map V.int)) :: O) H' → Q (.ref p) H') : rSortA K [.ref a] H Q :=
  .inr (.inr ⟨a, kvs, ks, rfl, .inl h, e, l, fun ys p e s n => q ys p _ e s n (hH.new n)⟩)
end
/-! ### what a method changes -/
section
variable {F F1 F' H H' H1 : Hp} {A A' R : Own}
def ButA (A : Own) (H H' : Hp) : Prop := ∀ b u, b ∉ A.map (·.1) → H b = some u → H' b = some u
theorem Has.grownA (h : Has F (A ++ R) H) (hb : ButA A H H') (g : Grow F H F') (hA : Has F' A' H') (ea : ∀ q ∈ A', q.1 ∈ A.map (·.1) ∨ H q.1 = none) : Has F' (A' ++ R) H' := by
  have nd := h.nd
  rw [List.map_append, List.nodup_append] at nd
  refine ⟨hA.same, fun q hq => ?_, ?_⟩
  · rcases List.mem_append.mp hq with hq | hq
    · exact hA.own q hq
    · obtain ⟨f0, h0⟩ := h.own q (List.mem_append_right _ hq)
      refine ⟨by rw [g.2 _ (by rw [h0]; exact fun z => by cases z)]; exact f0, hb _ _ (fun m => ?_) h0⟩
      exact nd.2.2 _ m _ (List.mem_map.mpr ⟨q, hq, rfl⟩) rfl
  · rw [List.map_append, List.nodup_append]
    refine ⟨hA.nd, nd.2.1, fun x hx y hy e => ?_⟩
    obtain ⟨q, hq, rfl⟩ := List.mem_map.mp hx
    obtain ⟨r, hr, rfl⟩ := List.mem_map.mp hy
    rcases ea q hq with m | n
    · exact nd.2.2 _ m _ (List.mem_map.mpr ⟨r, hr, rfl⟩) e
    · rw [e, (h.own r (List.mem_append_right _ hr)).2] at n
      cases n
theorem Grow.refl : Grow F H F := ⟨Same.refl F, fun _ _ => rfl⟩
/-- what stands still: of old what stood still, of new what stands still now -/
def mixF (F H F1 : Hp) : Hp := fun b => match H b with
  | none => F1 b
  | some _ => F b
theorem mix_at {b : Addr} (n : H b = none) : mixF F H F1 b = F1 b := by
  unfold mixF
  rw [n]
theorem mix_old {b : Addr} (n : H b ≠ none) : mixF F H F1 b = F b := by
  unfold mixF
  cases e : H b with
  | none => exact (n e).elim
  | some u => rfl
theorem mix_grow (h : Has F A H) (s : Same (rmO A H) F1) : Grow F H (mixF F H F1) := by
  refine ⟨fun b u e => ?_, fun b n => mix_old n⟩
  rw [mix_old (by rw [h.same _ _ e]; exact fun z => by cases z)]
  exact e
theorem mix_but (h : Has F A H) (s : Same (rmO A H) F1) (h1 : Has F1 A' H1) : ButA A H H1 := fun b u n e => h1.same _ _ (s _ _ (by
  unfold rmO
  rw [if_neg n]
  exact e))
theorem mix_has (h : Has F A H) (s : Same (rmO A H) F1) (h1 : Has F1 A' H1) (ea : ∀ q ∈ A', q.1 ∈ A.map (·.1) ∨ H q.1 = none) : Has (mixF F H F1) A' H1 := by
  refine ⟨fun b u e => ?_, fun q hq => ⟨?_, (h1.own q hq).2⟩, h1.nd⟩
  · cases eh : H b with
    | none =>
      rw [mix_at eh] at e
      exact h1.same _ _ e
    | some o =>
      rw [mix_old (by rw [eh]; exact fun z => by cases z)] at e
      have := h.same _ _ e
      refine mix_but h s h1 b u (fun m => ?_) this
      obtain ⟨q, hq, rfl⟩ := List.mem_map.mp m
      rw [(h.own q hq).1] at e
      cases e
  · rcases ea q hq with m | n
    · obtain ⟨p, hp, e⟩ := List.mem_map.mp m
      have o := h.own p hp
      rw [← e, mix_old (by rw [o.2]; exact fun z => by cases z)]
      exact o.1
    · rw [mix_at n]
      exact (h1.own q hq).1
end
theorem ButA.step {F H H1 H2 : Hp} {A O1 O2 : Own} (hb : ButA A H H1) (h1 : Has F O1 H1) (nw : ∀ x ∈ O1, x.1 ∈ A.map (·.1) ∨ H x.1 = none) (h2 : Has (rmO O1 H1) O2 H2) : ButA A H H2 := fun b u n e => h2.same _ _ (by
  unfold rmO
  rw [if_neg (fun m => ?_)]
  · exact hb b u n e
  · obtain ⟨x, hx, rfl⟩ := List.mem_map.mp m
    rcases nw x hx with m' | z
    · exact n m'
    · rw [e] at z; cases z)
/-- what is new now was new then -/
theorem newp {F F1 H H1 : Hp} {A O1 : Own} {p : Addr} (h : Has F A H) (hb : ButA A H H1) (h1 : Has F1 O1 H1) (ea : ∀ q ∈ A, q.1 ∈ O1.map (·.1)) (n : H1 p = none) : H p = none := by
  cases e : H p with
  | none => rfl
  | some u =>
    by_cases m : p ∈ A.map (·.1)
    · obtain ⟨q, hq, rfl⟩ := List.mem_map.mp m
      obtain ⟨x, hx, ex⟩ := List.mem_map.mp (ea q hq)
      have := (h1.own x hx).2
      rw [ex, n] at this
      cases this
    · rw [hb p u m e] at n
      cases n
end Qk

/-! Qs: sets of keys made of lists; membership of more kinds -/
namespace Qk
open PySem PySem.Spec PyProof.Rows L2
/-! ### set(a list of keys) -/
section
variable {prog : Program} {w : World} {A : Around} {R : Result → Shared → Prop} {I : Addr} {fp wr : List Addr} {G : Array GenState → Array GenState → Prop} {n : Nat} {P : Nat → Value → Prop} {St : Nat → Shared → Prop}
/-- the loop puts in all keys from the i-th on -/
theorem loop_keys (W : WalksS prog w A.in1 I fp wr G n P St) (D : Addr) (hD : D ∉ fp) (ks : List Key) (hn : ks.length = n) (hb : n + 1 < scanBound)
    (hv : ∀ i v, P i v → ∃ k, ks[i]? = some k ∧ (mixKind prog w).is k v = true ∧ v.scannable = true) :
    ∀ (d i m : Nat) (T : Key → Bool) (s : Shared), i + d = n → m ≤ i → St i s → s.heap.SetOf (mixKind prog w) D T m →
      (∀ s' T' m', Moved (D :: wr) G s s' → s'.heap.SetOf (mixKind prog w) D T' m' → m' ≤ n → (∀ k, T' k = (T k || (ks.drop i).any fun j => decide (k = j))) → R (.ok (.ret .none)) s') →
      codeAny (model prog w) A (.builtin "set.update.loop" ⟨[.ref D, .ref I], []⟩) R s
  | 0, i, m, T, s, e, hm, st, hT, q => by
    refine codeAny_builtin F.entry_set_update_loop ?_
    rw [Around.under_plainId F.plain_set_update_loop _]
    show wpAny _ A.in1 (pyNext (.ref I) >>= _) _ _ s
    rw [Nat.add_zero] at e
    subst e
    refine wpAny_bind (W.done s _ _ st fun s1 mv => ?_)
    show wpAny _ A.in1 (ret Value.none) _ _ s1
    obtain ⟨o, es, ep, t, ho, rest⟩ := hT
    refine wpAny_pure (q s1 T m (mv.mono fun b hb => List.mem_cons_of_mem _ hb) ⟨o, es, ep, t, mv.heap D _ (fun z => hD (W.sub _ z)) ho, rest⟩ hm fun k => ?_)
    rw [← hn, List.drop_length]
    simp
  | d + 1, i, m, T, s, e, hm, st, hT, q => by
    refine codeAny_builtin F.entry_set_update_loop ?_
    rw [Around.under_plainId F.plain_set_update_loop _]
    show wpAny _ A.in1 (pyNext (.ref I) >>= _) _ _ s
    have hi : i < n := by omega
    refine wpAny_bind (W.item i s _ _ hi st fun v s1 pv st1 mv => ?_)
    obtain ⟨k, ek, his, hsc⟩ := hv i v pv
    obtain ⟨o, es, ep, t, ho, rest⟩ := hT
    have hT1 : s1.heap.SetOf (mixKind prog w) D T m := ⟨o, es, ep, t, mv.heap D _ (fun z => hD (W.sub _ z)) ho, rest⟩
    show wpAny _ A.in1 (holding [v] (setAdd D v) >>= _) _ _ s1
    refine wpAny_bind (wpAny_holding ?_)
    unfold setAdd
    refine wpAny_holding ?_
    refine wpAny_bind ((mixKind prog w).pyHash his ?_)
    refine wpAny_setAddHashed_of (knd := mixKind prog w) (s := { s1 with toks := s1.toks + 1 }) his hsc hT1 (by omega) fun h2 sb hT2 => ?_
    refine wpAny_pure ⟨plainId_quiet F.plain_set_update_loop _, loop_keys W D hD ks hn hb hv d (i + 1) _ _ _ (by omega) ?_ (W.frame _ s1 _ _ st1 (Nat.le_succ _) fun b hb o e => ?_) hT2 fun s3 T3 m3 mv3 hT3 le eq => ?_⟩
    · split <;> omega
    · rw [sb.2 b (fun z => hD (by rw [← z]; exact hb))]
      exact e
    · refine q s3 T3 m3 (Moved.trans W.gtrans ((mv.mono fun b hb => List.mem_cons_of_mem _ hb).then_heap (Nat.le_succ _) fun b o hb e => ?_) mv3) hT3 le fun k' => ?_
      · rw [sb.2 b (fun z => hb (by rw [z]; exact List.mem_cons_self))]
        exact e
      · rw [eq k']
        have hlt : i < ks.length := by omega
        have ek' : ks[i] = k := by rw [List.getElem?_eq_getElem hlt] at ek; exact Option.some.inj ek
        rw [List.drop_eq_getElem_cons hlt, ek', Bool.or_assoc]
        congr 1
end
section
variable {prog : Program} {w : World} {A : Around} {E : Value → Shared → Prop} {s : Shared}
def newSetObj (led : Bool) : Obj := { cls := .type "set", dict := none, data := .set #[] 0 (.fresh 0 0 led) }
/-- what the filling of the new set leaves -/
def Filled (prog : Program) (w : World) (ks : List Key) (s s2 : Shared) : Prop := ∃ h' tk T m, s2 = { s with heap := h', toks := tk } ∧ h'.SetOf (mixKind prog w) s.heap.objs.size T m ∧ m ≤ ks.length ∧
  (∀ k, T k = ks.any fun j => decide (k = j)) ∧ ∀ b o, b < s.heap.objs.size → s.heap.get? b = some o → h'.get? b = some o
set_option maxHeartbeats 4000000 in
theorem call_set_keys {l : Addr} {items : Array Value} {ks : List Key} {Q : Value → Shared → Prop} (hh : A.handled = none) (hl : s.heap.IsList l items) (hsz : items.size = ks.length)
    (hv : ∀ (i : Nat) (v : Value), items[i]? = some v → ∃ k, ks[i]? = some k ∧ (mixKind prog w).is k v = true ∧ v.scannable = true) (hb : ks.length + 1 < scanBound) (q : ∀ s2, Filled prog w ks s s2 → Q (.ref s.heap.objs.size) s2) :
    wpAny (model prog w) A (call (.type "set") [.ref l]) Q E s := by
  obtain ⟨c, tl, hmro⟩ := PySem.F.called_set.mro
  have hmade := PySem.F.called_set.made
  have hsub := PySem.F.called_set.sub
  have h1 := PySem.F.called_set.notType
  have h2 := PySem.F.called_set.canCreate
  have hct := PySem.F.typeCall_set_1 (.ref l)
  refine wpAny_call (codeAny_of_tree ?_)
  show wpAny _ _ (callAny (.type "set") _) _ _ _
  refine wpAny_pure ⟨Code.quiet_builtin _ (by decide +kernel), codeAny_builtin PySem.F.entry_type_call ?_⟩
  rw [Around.under_plain (weight_type_call_type "set" [.ref l] []) rfl]
  repeat (any_goals (first | assumption | wp_step))
  refine codeAny_mono (code_set_new_1 (.ref l) (E := E) (Q₁ := fun obj s₁ => ∃ led : Bool, obj = .ref s.heap.objs.size ∧ s₁ = { s with heap := s.heap.push (newSetObj led) }) fun led => ⟨led, rfl, rfl⟩) fun r s₁ hr => ?_
  cases r with
  | error e => exact hr
  | ok fl =>
    cases fl with
    | ret obj =>
      obtain ⟨led, rfl, rfl⟩ := hr
      have hS : (s.heap.push (newSetObj led)).get? s.heap.objs.size = some (newSetObj led) := Heap.get?_push_size _ rfl
      have hT : Shared.TypeIs { s with heap := s.heap.push (newSetObj led) } (.ref s.heap.objs.size) "set" := ⟨_, hS, rfl⟩
      have hli := PySem.F.called_set.init.lookup
      have hbi := PySem.F.called_set.init.bind (.ref s.heap.objs.size)
      repeat (any_goals (first | assumption | wp_step))
      refine codeAny_mono (codeAny_call_builtin (R := wants (fun r s₂ => r = .none ∧ Filled prog w ks s s₂) E) PySem.F.called_set.init.plain PySem.F.entry_set_init (check_set_init_1 hT ?_)) fun r₂ s₂ hr₂ => ?_
      · obtain ⟨ol, hol, hcl, nl, hdl⟩ := hl
        obtain ⟨ocls, odict, odata, oslots⟩ := ol
        simp only at hcl hdl
        subst hcl
        subst hdl
        have hol' : (s.heap.push (newSetObj led)).get? l = some { cls := .type "list", dict := odict, data := .seq items nl, slots := oslots } := Heap.get?_push_of_some _ hol
        have hsls := PySem.F.sub_list_set
        have hslf := PySem.F.sub_list_frozenset
        have hne : (Value.type "list" == Value.type "dict") = false := by decide
        have hl1 : (s.heap.push (newSetObj led)).IsList l items := ⟨_, hol', rfl, nl, rfl⟩
        unfold Builtin.«set.__init__» noKeywords Builtin.Frozenset.updateFrom
        generalize hPI : pyIter = PI
        wp_walk
        subst hPI
        refine wpAny_pyIter_list hl1 ?_
        refine wpAny_bind (wpAny_runValue ?_)
        have hlS : l < s.heap.objs.size := Heap.lt_size hol
        have hh3 : A.in1.in1.in1.handled = none := by simp [hh]
        have nI : l ≠ (s.heap.push (newSetObj led)).objs.size := by
          rw [Heap.size_push]
          exact Nat.ne_of_lt (Nat.lt_succ_of_lt hlS)
        have nS : s.heap.objs.size ∉ [(s.heap.push (newSetObj led)).objs.size, l] := by
          rw [Heap.size_push]
          simp only [List.mem_cons, List.not_mem_nil, or_false, not_or]
          exact ⟨Nat.ne_of_lt (Nat.lt_succ_self _), Nat.ne_of_gt hlS⟩
        refine loop_keys ((Walks.list hh3 _ l nI items).toS) s.heap.objs.size nS ks hsz.symm (by rw [hsz]; exact hb) hv items.size 0 0 (fun _ => false) _ (Nat.zero_add _) (Nat.le_refl _)
          ⟨⟨_, Heap.get?_push_size _ rfl, rfl, rfl⟩, hl1.push _⟩ ?hA ?hB
        case hA =>
          have hg : ((s.heap.push (newSetObj led)).push { cls := .type "list_iterator", data := .fields #[.ref l, .int 0 0] }).get? s.heap.objs.size = some (newSetObj led) := Heap.get?_push_of_some _ hS
          exact ⟨_, #[], 0, _, hg, ⟨rfl, rfl, rfl⟩, rfl, (fun e he => by simp at he), (fun k => by simp), (by decide), (by rfl), rfl⟩
        case hB =>
          intro s' T' m' mv hT' le eq
          obtain ⟨h', g', d', tk', os'⟩ := s'
          have eg : g' = s.gens := mv.gens
          have ed : d' = s.drawn := mv.drawn
          have eo : os' = s.os := mv.os
          subst eg
          subst ed
          subst eo
          show wpAny _ _ _ _ _ _
          refine wpAny_pure ?_
          show wpAny _ _ (ret Value.none) _ _ _
          refine wpAny_pure ⟨rfl, h', tk', T', m', rfl, hT', by omega, fun k => by rw [eq k]; rfl, fun b o hb e => ?_⟩
          refine mv.heap b o ?_ (Heap.get?_push_of_some _ (Heap.get?_push_of_some _ e))
          simp only [List.mem_cons, List.not_mem_nil, or_false, not_or]
          exact ⟨Nat.ne_of_lt hb, by rw [Heap.size_push]; exact Nat.ne_of_lt (Nat.lt_succ_of_lt hb)⟩
      · cases r₂ with
        | error e => exact hr₂
        | ok fl₂ =>
          cases fl₂ with
          | ret r =>
            obtain ⟨rfl, hf⟩ := hr₂
            repeat (any_goals (first | assumption | wp_step))
            exact q _ hf
          | _ => exact hr₂.elim
    | _ => exact hr.elim
end
/-- the keys of a list as values -/
theorem keys_vals {P : Program} {w : World} : ∀ {ks : List Key} {us : List Value}, Vals (ks.map kV) us → ∀ (i : Nat) (v : Value), us[i]? = some v → ∃ k, ks[i]? = some k ∧ (mixKind P w).is k v = true ∧ v.scannable = true
  | [], _, .nil, i, v, e => by simp at e
  | k :: ks, _, .cons r t, 0, v, e => by
    simp at e
    subst e
    exact ⟨k, rfl, kV_is r, key_scan r⟩
  | k :: ks, _, .cons r t, i + 1, v, e => by
    simp only [List.getElem?_cons_succ] at e ⊢
    exact keys_vals t i v e
section
variable {X : Cx}
/-- set(a list of texts) -/
def rSetTx (K : PySem.W.Frag) (P : Program) (w : World) : List V → Hp → VK → Prop := fun xs H Q => ∃ (l : Addr) (zs : List Str), xs = [.ref l] ∧ SqL K H l (zs.map V.str) ∧ zs.length < 1000 ∧
  ∀ a n T, H a = none → n ≤ zs.length → (∀ z, T (Sum.inr z) = decide (z ∈ zs)) → Q (.ref a) (upd H a (SetK P w a T n))
theorem cr_setTx (K : PySem.W.Frag) (hc : X.calm = true) (e : X.K = K := by rfl) : CallR X (.type "set") (rSetTx K X.prog X.w) := by
  subst e
  intro pins s σ H xs us Q I r h
  obtain ⟨l, zs, rfl, hl, hf, q⟩ := h
  rw [Vals.ref1 r]
  obtain ⟨its, rv, pl, hz⟩ := I.list hl
  have rv : Vals ((zs.map Sum.inr).map kV) its := by
    rw [List.map_map]
    exact rv
  have hle : its.length = zs.length := by rw [← rv.length, List.length_map, List.length_map]
  have hn : H s.heap.objs.size = none := I.hok.fresh (Nat.le_refl _)
  refine call_set_keys (ks := zs.map Sum.inr) (I.ok.hd hc) pl.isList (by rw [List.size_toArray, hle, List.length_map]) (fun i v e => keys_vals rv i v (by simpa using e)) (by rw [List.length_map]; unfold scanBound; omega) fun s2 F => ?_
  obtain ⟨h', tk, T, m, rfl, hT, hm, eT, k⟩ := F
  rw [List.length_map] at hm
  refine ⟨.ref s.heap.objs.size, upd H s.heap.objs.size (SetK X.prog X.w s.heap.objs.size T m), I.laid (t' := tk) (fun b o e => k b o (Heap.lt_size e) e) (Nat.le_refl _) (setK_new hT), rfl, q _ m T hn hm fun z => ?_⟩
  rw [eT, Bool.eq_iff_iff]
  simp [List.any_eq_true]
end
end Qk

/-! Qt: membership in sets, slices of texts, loops over texts, dict displays, bits -/
namespace Qk
open PySem PySem.Spec PyProof.Rows L2
/-! ### in, not in: also sets -/
def rInM (K : PySem.W.Frag) (P : Program) (w : World) : R2 := fun x y H Q => rInA K x y H Q ∨ rSInK P w false x y H Q
def rNotInM (K : PySem.W.Frag) (P : Program) (w : World) : R2 := fun x y H Q => rNotInA K x y H Q ∨ rSInK P w true x y H Q
section
variable {X : Cx}
theorem op_inM (K : PySem.W.Frag) (P : Program) (w : World) (hu : X.A.units + 64 < cLine) (hu' : X.A.units + 65 < cLine) (e : X.K = K := by rfl) (eP : X.prog = P := by rfl) (ew : X.w = w := by rfl) : OpR X (compareOp .In) (rInM K P w) := by
  subst e
  subst eP
  subst ew
  intro pins s σ H x y v u Q I rx ry h
  rcases h with h | h
  · exact op_inA hu hu' pins s σ H x y v u Q I rx ry h
  · exact or_sinK pins s σ H x y v u Q I rx ry h
theorem op_notinM (K : PySem.W.Frag) (P : Program) (w : World) (hu : X.A.units + 64 < cLine) (hu' : X.A.units + 65 < cLine) (e : X.K = K := by rfl) (eP : X.prog = P := by rfl) (ew : X.w = w := by rfl) : OpR X (compareOp .NotIn) (rNotInM K P w) := by
  subst e
  subst eP
  subst ew
  intro pins s σ H x y v u Q I rx ry h
  rcases h with h | h
  · exact op_notinA hu hu' pins s σ H x y v u Q I rx ry h
  · exact or_snotinK pins s σ H x y v u Q I rx ry h
/-- slices of lists, tuples, texts -/
def rSlM (K : PySem.W.Frag) : V → Option Int → Option Int → Hp → VK → Prop := fun x lo hi H Q => rSlB K x lo hi H Q ∨ rSlS x lo hi H Q
theorem sl_M (K : PySem.W.Frag) (e : X.K = K := by rfl) : SlR X (rSlM K) := by
  subst e
  intro pins s σ H x v vl vu lo hi sl Q I rx hs pl pu h
  rcases h with h | h
  · exact sl_all pins s σ H x v vl vu lo hi sl Q I rx hs pl pu h
  · exact sl_str pins s σ H x v vl vu lo hi sl Q I rx hs pl pu h
end
section
variable {K : PySem.W.Frag} {P : Program} {w : World} {σ : L2.St} {F : Hp} {O O' : Own} {H : Hp} {Q : VK} {x y v : V} {te ta tk tv : TE} {D : Ends} {ts : TS} {g : TG}
theorem g_inM (q : rInA K x y H Q) : rInM K P w x y H Q := .inl q
theorem g_notinM (q : rNotInA K x y H Q) : rNotInM K P w x y H Q := .inl q
theorem g_inK {a : Addr} {T : Key → Bool} {n : Nat} {k : Key} (ek : x = kV k) (h : H a = some (SetK P w a T n)) (q : Q (.bl (T k)) H) : rInM K P w x (.ref a) H Q := .inr ⟨k, a, T, n, ek, rfl, h, q⟩
theorem g_notinK {a : Addr} {T : Key → Bool} {n : Nat} {k : Key} (ek : x = kV k) (h : H a = some (SetK P w a T n)) (q : Q (.bl (!T k)) H) : rNotInM K P w x (.ref a) H Q := .inr ⟨k, a, T, n, ek, rfl, h, q⟩
theorem g_inC {c : Nat} {z : Str} (q : Q (.bl (decide (c ∈ z.cps.toList))) H) : rInA K (.str ⟨#[c]⟩) (.str z) H Q := .inr (.inl ⟨_, _, rfl, rfl, by rw [PySem.StrLaws.found_one z c]; exact q⟩)
theorem g_notinC {c : Nat} {z : Str} (q : Q (.bl (!decide (c ∈ z.cps.toList))) H) : rNotInA K (.str ⟨#[c]⟩) (.str z) H Q := .inr (.inl ⟨_, _, rfl, rfl, by rw [PySem.StrLaws.found_one z c]; exact q⟩)
theorem g_slM {lo hi : Option Int} (q : rSlB K x lo hi H Q) : rSlM K x lo hi H Q := .inl q
theorem g_slZ {z : Str} {lo hi : Option Int} (hl : z.length ≤ sizeLine) (q : Q (.str (cutS z lo hi)) H) : rSlM K (.str z) lo hi H Q := .inr ⟨z, rfl, hl, q⟩
/-! ### loops over a text -/
def kForS (g : TG) (tb : TS) (D : Ends) (σ : L2.St) (x : V) (H : Hp) : Prop := ∃ z, x = .str z ∧ kW (Its z) g tb D σ H
theorem g_forS (q : te σ H fun x H1 => kForS g ts D σ x H1) : tFor (iStr te) g ts D σ H := q
theorem k_forS {z : Str} (Pv : Nat → L2.St → Hp → Prop) (h0 : Pv 0 σ H)
    (hs : ∀ i c σ H, z.cps[i]? = some c → Pv i σ H → g (.str ⟨#[c]⟩) σ H fun σ2 H2 => ts { D with nx := Pv (i + 1), ct := Pv (i + 1), bk := D.nx } σ2 H2) (hd : ∀ σ H, Pv z.length σ H → D.nx σ H) : kForS g ts D σ (.str z) H := by
  refine ⟨z, rfl, fun i m σ H => m = z.length - i ∧ i ≤ z.length ∧ Pv i σ H, ⟨z.length, rfl, Nat.zero_le _, h0⟩, ?_⟩
  rintro i m σ H ⟨rfl, hi, p⟩
  by_cases hlt : i < z.length
  · refine .inr ⟨hlt, Pv (i + 1), fun σ' H' p' => ⟨z.length - (i + 1), by omega, rfl, hlt, p'⟩, fun x H' y => ?_⟩
    obtain ⟨e, c, hc, rfl⟩ := y
    subst e
    exact hs i c σ _ hc p
  · have e : i = z.length := by omega
    subst e
    exact .inl ⟨Nat.le_refl _, hd σ H p⟩
/-! ### {k: v} -/
def kDisp1 (p : Addr) (x y : V) (H : Hp) (Q : VK) : Prop := H p = some (.dK []) ∧ ∃ kvs : List (Key × V), [(x, y)] = kvs.map (fun kv => (kV kv.1, kv.2)) ∧ kvs.length ≤ 15 ∧ Q (.ref p) (upd H p (.dK (mergeK [] kvs)))
theorem g_disp1 (hH : Has F O H) (q : ∀ p H1, H p = none → Has F ((p, .dK []) :: O) H1 → tk σ H1 fun x H2 => tv σ H2 fun y H3 => kDisp1 p x y H3 Q) : tDisp [(tk, tv)] σ H Q := fun p n => q p _ n (hH.new n)
theorem g_kdisp1 {p : Addr} {z : V} {k : Key} (h : Has F ((p, .dK []) :: O) H) (ez : z = kV k) (q : ∀ H', Has F ((p, .dK [(k, y)]) :: O) H' → Q (.ref p) H') : kDisp1 p z y H Q := by
  subst ez
  exact ⟨h.get (List.Mem.head _), [(k, y)], rfl, Nat.succ_le_succ (Nat.zero_le _), q _ (h.put .hd)⟩
/-! ### sum, str, set -/
theorem cr_setTxK {X : Cx} (K : PySem.W.Frag) (P : Program) (w : World) (hc : X.calm = true) (e : X.K = K := by rfl) (eP : X.prog = P := by rfl) (ew : X.w = w := by rfl) : CallR X (.type "set") (rSetTx K P w) := by
  subst e
  subst eP
  subst ew
  exact cr_setTx _ hc
theorem g_sum {a : Addr} {ns : List Int} (h : H a = some (.lst (ns.map V.int))) (q : Q (.int ns.sum) H) : rSum K [.ref a] H Q := ⟨a, ns, rfl, SqL.of h, q⟩
def rStrI : List V → Hp → VK → Prop := fun xs H Q => ∃ i : Int, xs = [.int i] ∧ i.natAbs.log2 < 1920 ∧ Q (.str (toString i)) H
theorem cr_strI {X : Cx} : CallR X (.type "str") rStrI := call_str_int
theorem g_strI {i : Int} (h : i.natAbs.log2 < 1920) (q : Q (.str (toString i)) H) : rStrI [.int i] H Q := ⟨i, rfl, h, q⟩
theorem cr_sumK {X : Cx} (K : PySem.W.Frag) (hc : X.calm = true) (e : X.K = K := by rfl) : CallR X (.builtin "sum") (rSum K) := by subst e; exact cr_sum hc
theorem g_setOf {a : Addr} {zs : List Str} (h : H a = some (.lst (zs.map V.str))) (hl : zs.length < 1000) (hH : Has F O H) (q : ∀ p n T H', H p = none → (∀ z, T (Sum.inr z) = decide (z ∈ zs)) → Has F ((p, SetK P w p T n) :: O) H' → Q (.ref p) H') : rSetTx K P w [.ref a] H Q :=
  ⟨a, zs, rfl, SqL.of h, hl, fun p n T np _ eT => q p n T _ np eT (hH.new np)⟩
/-! ### methods of texts -/
def kM0 (r : V → List V → Hp → VK → Prop) (x : V) (H : Hp) (Q : VK) : Prop := (∃ a, x = .str a) ∧ r x [] H Q
theorem g_m0 {r : V → List V → Hp → VK → Prop} (q : ta σ H fun x H1 => kM0 r x H1 Q) : tM0 r ta σ H Q := q
theorem g_km0 {r : V → List V → Hp → VK → Prop} {z : Str} (q : r (.str z) [] H Q) : kM0 r (.str z) H Q := ⟨⟨z, rfl⟩, q⟩
end
/-! ### ways that meet, the rest of the way out of sight -/
theorem g_joinD {t : TS} {D : Ends} {σ : L2.St} {H : Hp} (M : L2.St → Hp → Prop) (h : ∀ σ' H', M σ' H' → D.nx σ' H') (q : ∀ nx' : L2.St → Hp → Prop, (∀ σ' H', M σ' H' → nx' σ' H') → t { D with nx := nx' } σ H) : t D σ H := q D.nx h
end Qk

/-! Qu: sets of keys that can be gone through: set(list), sorted(set), in -/
namespace Qk
open PySem PySem.Spec PyProof.Rows L2
/-- the entries of a set and their keys -/
structure KE (P : Program) (w : World) (es : Array (Int × Value)) (ks : List Key) : Prop where
  ex : ∃ kes : List (Key × (Int × Value)), (kes.map (·.2)).Perm es.toList ∧ (∀ p ∈ kes, (mixKind P w).is p.1 p.2.2 = true) ∧ kes.map (·.1) = ks
  nd : ks.Nodup
def KR (P : Program) (w : World) (h : Heap) (a : Addr) (T : Key → Bool) (n : Nat) : Prop :=
  ∃ (o : Obj) (es : Array (Int × Value)) (ep : Nat) (t : SetTable) (ks : List Key), h.get? a = some o ∧ o.ExactSet ∧ o.data = .set es ep t ∧ ElemsOf (mixKind P w) es.toList ∧ KE P w es ks ∧ (∀ k, T k = true ↔ k ∈ ks) ∧
    es.size < scanBound ∧ t.fits es.size = true ∧ es.size = n ∧ Ris t.place.toList ∧ (w.params.followText "set-order" = true ∨ t.led = true)
section
variable {P : Program} {w : World} {h h' : Heap} {a : Addr} {T : Key → Bool} {n : Nat}
theorem KE.mem {es : Array (Int × Value)} {ks : List Key} (e : KE P w es ks) (k : Key) : k ∈ ks ↔ ∃ x, x ∈ es.toList ∧ (mixKind P w).is k x.2 = true := by
  obtain ⟨kes, pm, hi, rfl⟩ := e.ex
  rw [List.mem_map]
  constructor
  · rintro ⟨p, hp, rfl⟩
    exact ⟨p.2, pm.mem_iff.mp (List.mem_map.mpr ⟨p, hp, rfl⟩), hi p hp⟩
  · rintro ⟨x, hx, hk⟩
    obtain ⟨p, hp, rfl⟩ := List.mem_map.mp (pm.mem_iff.mpr hx)
    exact ⟨p, hp, (mixKind P w).inj _ _ _ (hi p hp) hk⟩
theorem KE.len {es : Array (Int × Value)} {ks : List Key} (e : KE P w es ks) : ks.length = es.size := by
  obtain ⟨kes, pm, _, rfl⟩ := e.ex
  rw [List.length_map, ← Array.length_toList, ← pm.length_eq, List.length_map]
theorem KR.setOf (r : KR P w h a T n) : h.SetOf (mixKind P w) a T n := by
  obtain ⟨o, es, ep, t, ks, h1, h2, h3, h4, h5, h6, h7, h8, h9, _⟩ := r
  exact ⟨o, es, ep, t, h1, h2, h3, h4, fun k => (h6 k).trans (h5.mem k), h7, h8, h9⟩
theorem KR.at_ (r : KR P w h a T n) (s : ∀ o, h.get? a = some o → h'.get? a = some o) : KR P w h' a T n := by
  obtain ⟨o, es, ep, t, ks, h1, rest⟩ := r
  exact ⟨o, es, ep, t, ks, s _ h1, rest⟩
theorem KR.congr {T' : Key → Bool} (r : KR P w h a T n) (e : ∀ k, T' k = T k) : KR P w h a T' n := by
  have : T' = T := funext e
  rw [this]
  exact r
end
def SetQ (P : Program) (w : World) (a : Addr) (T : Key → Bool) (n : Nat) : HO := HO.ext fun h => KR P w h a T n
theorem setQ_get {X : Cx} {pins : List (Addr × Obj)} {σ : L2.St} {H : Hp} {s : Shared} {a : Addr} {T : Key → Bool} {n : Nat} (I : L2.Inv X pins σ H s) (ha : H a = some (SetQ X.prog X.w a T n)) : KR X.prog X.w s.heap a T n := (I.hok a _ ha).1
theorem setQ_new {P : Program} {w : World} {H : Hp} {h : Heap} {a : Addr} {T : Key → Bool} {n : Nat} (r : KR P w h a T n) : ObjOk P w H h a (SetQ P w a T n) := by
  obtain ⟨o, _, _, _, _, ho, _⟩ := id r
  exact ⟨r, ⟨o, ho⟩, fun h1 h2 r1 s => KR.at_ r1 s⟩
/-! ### one more key -/
section
variable {P : Program} {w : World} {A : Around} {E : Value → Shared → Prop} {s : Shared} {a : Addr}
theorem KE.push {es es1 : Array (Int × Value)} {ks : List Key} (e : KE P w es ks) {k : Key} {x : Value} {hx : Int} (hk : (mixKind P w).is k x = true) (nk : k ∉ ks) (pm : es1.toList.Perm (es.push (hx, x)).toList) : KE P w es1 (ks ++ [k]) := by
  obtain ⟨kes, p0, hi, rfl⟩ := e.ex
  refine ⟨⟨kes ++ [(k, (hx, x))], ?_, ?_, by rw [List.map_append]; rfl⟩, ?_⟩
  · rw [List.map_append]
    refine List.Perm.trans (List.Perm.append_right _ p0) ?_
    rw [Array.toList_push] at pm
    exact pm.symm
  · intro p hp
    rcases List.mem_append.mp hp with hp | hp
    · exact hi p hp
    · rw [List.mem_singleton.mp hp]; exact hk
  · rw [List.nodup_append]
    refine ⟨e.nd, List.nodup_cons.mpr ⟨fun h => (by cases h), List.nodup_nil⟩, fun x hx y hy e => ?_⟩
    rw [List.mem_singleton.mp hy] at e
    exact nk (e ▸ hx)
theorem KE.perm {es es1 : Array (Int × Value)} {ks : List Key} (e : KE P w es ks) (pm : es1.toList.Perm es.toList) : KE P w es1 ks := by
  obtain ⟨kes, p0, hi, ek⟩ := e.ex
  exact ⟨⟨kes, p0.trans pm.symm, hi, ek⟩, e.nd⟩
theorem kr_tail {g : Bool → Sem Unit} (hg : ∀ (b : Bool) (s₁ : Shared) (Q' : Unit → Shared → Prop), Q' () s₁ → wpAny (model P w) A (g b) Q' E s₁) {o : Obj} {es : Array (Int × Value)} {ep : Nat} {t : SetTable}
    (ho : s.heap.get? a = some o) (hx : o.ExactSet) (hd : o.data = .set es ep t) {es1 : Array (Int × Value)} {t2 : SetTable} {T' : Key → Bool} {ks : List Key}
    (he : ElemsOf (mixKind P w) es1.toList) (hk : KE P w es1 ks) (hT : ∀ k, T' k = true ↔ k ∈ ks) (hsz : es1.size < scanBound) (hf : t2.fits es1.size = true) (hr : Ris t2.place.toList) (hl : w.params.followText "set-order" = true ∨ t2.led = true)
    {wasDummy : Bool} {R : Option Bool → Shared → Prop} (q : ∀ h', Heap.SameBut a s.heap h' → KR P w h' a T' es1.size → R (some true) { s with heap := h' }) :
    wpAny (model P w) A (do
      storeSet a es1 t2
      if (!wasDummy && t2.tooFull) = true then do
          g (relayAll t2 es1 (SetTable.grown es1.size)).snd.snd
          storeSet a (relayAll t2 es1 (SetTable.grown es1.size)).fst (relayAll t2 es1 (SetTable.grown es1.size)).snd.fst
          pure (some true)
        else pure (some true)) R E s := by
  refine wpAny_bind (wpAny_storeSet_of ho hd ?_ (fits_of_scanBound hsz))
  have h1 := store_at (es' := es1) (t' := t2) ho hd
  have b1 := Heap.SameBut.update s.heap a (Obj.putSet es1 t2)
  split
  · refine wpAny_bind (hg _ _ _ ?_)
    have pm := relayAll_perm t2 es1 (SetTable.grown es1.size)
    have fit := relayAll_fits t2 es1 (SetTable.grown es1.size)
    have ris := relayAll_ris t2 es1 (SetTable.grown es1.size)
    have led := relayAll_led t2 es1 (SetTable.grown es1.size)
    generalize relayAll t2 es1 (SetTable.grown es1.size) = rl at pm fit ris led
    obtain ⟨es2, t3, gv⟩ := rl
    have es_sz : es2.size = es1.size := by
      have := pm.length_eq
      rwa [Array.length_toList, Array.length_toList] at this
    refine wpAny_bind (wpAny_storeSet_of h1 rfl ?_ (fits_of_scanBound (by show es2.size < _; omega)))
    refine wpAny_pure (q _ (b1.trans (Heap.SameBut.update _ a _)) ?_)
    refine ⟨_, es2, ep + 1 + 1, t3, ks, store_at (es' := es2) (t' := t3) h1 rfl, ⟨hx.1, hx.2.1, hx.2.2⟩, rfl, he.perm pm, hk.perm pm, hT, by omega, fit, es_sz, ris, ?_⟩
    rcases hl with hl | hl
    · exact .inl hl
    · exact .inr (led.trans hl)
  · exact wpAny_pure (q _ b1 ⟨_, es1, ep + 1, t2, ks, h1, ⟨hx.1, hx.2.1, hx.2.2⟩, rfl, he, hk, hT, hsz, hf, rfl, hr, hl⟩)
theorem kr_add {T : Key → Bool} {n : Nat} {k : Key} {x : Value} {Q : Bool → Shared → Prop} (his : (mixKind P w).is k x = true) (hsc : x.scannable = true) (hT : KR P w s.heap a T n) (hn : n + 1 < scanBound)
    (q : ∀ h', Heap.SameBut a s.heap h' → KR P w h' a (fun k' => T k' || decide (k' = k)) (if T k = true then n else n + 1) → Q (!T k) { s with heap := h' }) : wpAny (model P w) A (setAddHashed a x ((mixKind P w).hash k)) Q E s := by
  obtain ⟨o, es, ep, t, ks, ho, hx, hd, he, hk, hT', hsz, hf, hn', hr, hl⟩ := hT
  unfold setAddHashed
  refine wpAny_holding ?_
  rw [setAddHashedIn.eq_def]
  dsimp only
  refine wpAny_bind (wpAny_setState_of ho hd hf ?_)
  dsimp only
  rw [if_pos (byScan_of (knd := mixKind P w) hsc hsz he)]
  refine wpAny_bind ?_
  unfold setAddByScan
  refine wpAny_bind (wpAny_rule ?_)
  refine wpAny_bind (wpAny_setScan_of (knd := mixKind P w) his ho hd hf he ?_)
  cases hfi : List.findIdx? (fun e => (mixKind P w).is k e.2) es.toList with
  | some j =>
    have hk1 : T k = true := by
      rw [hT' k, hk.mem k]
      have h1 := List.findIdx?_eq_some_iff_getElem.mp hfi
      obtain ⟨hj, hp, _⟩ := h1
      exact ⟨_, List.getElem_mem hj, hp⟩
    dsimp only
    refine wpAny_pure ?_
    dsimp only
    refine wpAny_pure ?_
    have q' := q s.heap (Heap.SameBut.refl _ _) ?_
    · rw [hk1] at q'
      exact q'
    · rw [if_pos hk1]
      refine KR.congr ⟨o, es, ep, t, ks, ho, hx, hd, he, hk, hT', hsz, hf, hn', hr, hl⟩ fun k' => ?_
      by_cases e : k' = k
      · rw [e, hk1]; rfl
      · rw [decide_eq_false e, Bool.or_false]
  | none =>
    have hk0 : T k = false := by
      cases e : T k with
      | false => rfl
      | true =>
        obtain ⟨x', hx', hi'⟩ := (hk.mem k).mp ((hT' k).mp e)
        have := List.findIdx?_eq_none_iff.mp hfi x' hx'
        rw [hi'] at this
        cases this
    have nk : k ∉ ks := fun m => by
      have := (hT' k).mpr m
      rw [hk0] at this
      cases this
    dsimp only
    have pm := layNew_perm t es ((mixKind P w).hash k) x
    have fit := layNew_fits t es ((mixKind P w).hash k) x
    have ris := layNew_ris t es ((mixKind P w).hash k) x hr
    have led := layNew_led t es ((mixKind P w).hash k) x
    generalize layNew t es ((mixKind P w).hash k) x = ln at pm fit ris led
    obtain ⟨es1, t1, wd, gv⟩ := ln
    dsimp only at pm fit ris led ⊢
    have sz1 : es1.size = es.size + 1 := by
      have := pm.length_eq
      rwa [Array.length_toList, Array.length_toList, Array.size_push] at this
    have he1 : ElemsOf (mixKind P w) es1.toList := by
      have := he.push his hsc
      rw [← Array.toList_push] at this
      exact this.perm pm
    have hk1 := hk.push his nk pm
    have hT1 : ∀ k', (T k' || decide (k' = k)) = true ↔ k' ∈ ks ++ [k] := fun k' => by
      rw [Bool.or_eq_true, decide_eq_true_eq, hT' k', List.mem_append, List.mem_singleton]
    have hsz1 : es1.size < scanBound := by omega
    have led1 : w.params.followText "set-order" = true ∨ t1.led = true := by
      rcases hl with hl | hl
      · exact .inl hl
      · exact .inr (led.trans hl)
    rw [hk0] at q
    have fin : ∀ h', Heap.SameBut a s.heap h' → KR P w h' a (fun k' => T k' || decide (k' = k)) es1.size → Q true { s with heap := h' } := fun h' b r => q h' b (by rw [sz1, hn'] at r; exact r)
    have tl : ∀ b : Bool, (if b = true then t1 else { t1 with plain := false }).fits es1.size = true ∧ Ris (if b = true then t1 else { t1 with plain := false }).place.toList ∧ (w.params.followText "set-order" = true ∨ (if b = true then t1 else { t1 with plain := false }).led = true) := fun b => by
      cases b
      · exact ⟨SetTable.fits_plain_off fit, ris, led1⟩
      · exact ⟨fit, ris, led1⟩
    refine wpAny_bind ?_
    cases gv <;> (first | refine wpAny_pure ?_ | refine wpAny_rule ?_)
    all_goals
      split
      · rw [hashByValue_scannable _ hsc]
        refine wpAny_bind (wpAny_pure ?_)
        refine kr_tail ?_ ho hx hd he1 hk1 hT1 hsz1 (tl _).1 (tl _).2.1 (tl _).2.2 (fun h' sb r => ?_)
        · intro b s₁ Q' h
          cases b <;> (first | exact wpAny_pure h | exact wpAny_rule h)
        · exact wpAny_pure (fin h' sb r)
      · refine wpAny_bind (wpAny_pure ?_)
        refine kr_tail ?_ ho hx hd he1 hk1 hT1 hsz1 (tl true).1 (tl true).2.1 (tl true).2.2 (fun h' sb r => ?_)
        · intro b s₁ Q' h
          cases b <;> (first | exact wpAny_pure h | exact wpAny_rule h)
        · exact wpAny_pure (fin h' sb r)
end
theorem code_set_led1 {P : Program} {w : World} {A : Around} {E : Value → Shared → Prop} {s : Shared} (a : Value) {Q₁ : Value → Shared → Prop}
    (q : Q₁ (.ref s.heap.objs.size) { s with heap := s.heap.push { cls := .type "set", data := .set #[] 0 (.fresh 0 0 !w.params.followText "set-order") } }) :
    codeAny (model P w) A (.call (.builtin "set.__new__") ⟨[.type "set", a], []⟩) (wants Q₁ E) s := by
  refine codeAny_of_tree ?_
  show wpAny _ _ (_ >>= _) _ _ _
  refine wpAny_bind ?_
  refine wpAny_of_eq (PySem.F.newCall_set_1 a) ?_
  refine wpAny_pure ?_
  refine ⟨plainId_quiet F.plain_set_new _, codeAny_builtin F.entry_set_new ?_⟩
  rw [Around.under_plainId F.plain_set_new _]
  show wpAny _ _ (Builtin.«set.__new__» _) _ _ _
  unfold Builtin.«set.__new__» Builtin.Frozenset.newClass newSet
  dsimp only
  have hs := @PySem.sub_set_self
  repeat (any_goals (first | assumption | wp_step))
  refine wpAny_askSetting ?_
  refine wpAny_pure ?_
  dsimp only
  unfold newObj
  repeat (any_goals (first | assumption | wp_step))

/-! ### set(a list of keys) -/
section
variable {prog : Program} {w : World} {A : Around} {R : Result → Shared → Prop} {I : Addr} {fp wr : List Addr} {G : Array GenState → Array GenState → Prop} {n : Nat} {P : Nat → Value → Prop} {St : Nat → Shared → Prop}
/-- the loop puts in all keys from the i-th on -/
theorem loop_keysQ (W : WalksS prog w A.in1 I fp wr G n P St) (D : Addr) (hD : D ∉ fp) (ks : List Key) (hn : ks.length = n) (hb : n + 1 < scanBound)
    (hv : ∀ i v, P i v → ∃ k, ks[i]? = some k ∧ (mixKind prog w).is k v = true ∧ v.scannable = true) :
    ∀ (d i m : Nat) (T : Key → Bool) (s : Shared), i + d = n → m ≤ i → St i s → KR prog w s.heap D T m →
      (∀ s' T' m', Moved (D :: wr) G s s' → KR prog w s'.heap D T' m' → m' ≤ n → (∀ k, T' k = (T k || (ks.drop i).any fun j => decide (k = j))) → R (.ok (.ret .none)) s') →
      codeAny (model prog w) A (.builtin "set.update.loop" ⟨[.ref D, .ref I], []⟩) R s
  | 0, i, m, T, s, e, hm, st, hT, q => by
    refine codeAny_builtin F.entry_set_update_loop ?_
    rw [Around.under_plainId F.plain_set_update_loop _]
    show wpAny _ A.in1 (pyNext (.ref I) >>= _) _ _ s
    rw [Nat.add_zero] at e
    subst e
    refine wpAny_bind (W.done s _ _ st fun s1 mv => ?_)
    show wpAny _ A.in1 (ret Value.none) _ _ s1
    refine wpAny_pure (q s1 T m (mv.mono fun b hb => List.mem_cons_of_mem _ hb) (hT.at_ fun o ho => mv.heap D _ (fun z => hD (W.sub _ z)) ho) hm fun k => ?_)
    rw [← hn, List.drop_length]
    simp
  | d + 1, i, m, T, s, e, hm, st, hT, q => by
    refine codeAny_builtin F.entry_set_update_loop ?_
    rw [Around.under_plainId F.plain_set_update_loop _]
    show wpAny _ A.in1 (pyNext (.ref I) >>= _) _ _ s
    have hi : i < n := by omega
    refine wpAny_bind (W.item i s _ _ hi st fun v s1 pv st1 mv => ?_)
    obtain ⟨k, ek, his, hsc⟩ := hv i v pv
    have hT1 : KR prog w s1.heap D T m := hT.at_ fun o ho => mv.heap D _ (fun z => hD (W.sub _ z)) ho
    show wpAny _ A.in1 (holding [v] (setAdd D v) >>= _) _ _ s1
    refine wpAny_bind (wpAny_holding ?_)
    unfold setAdd
    refine wpAny_holding ?_
    refine wpAny_bind ((mixKind prog w).pyHash his ?_)
    refine kr_add (s := { s1 with toks := s1.toks + 1 }) his hsc hT1 (by omega) fun h2 sb hT2 => ?_
    refine wpAny_pure ⟨plainId_quiet F.plain_set_update_loop _, loop_keysQ W D hD ks hn hb hv d (i + 1) _ _ _ (by omega) ?_ (W.frame _ s1 _ _ st1 (Nat.le_succ _) fun b hb o e => ?_) hT2 fun s3 T3 m3 mv3 hT3 le eq => ?_⟩
    · split <;> omega
    · rw [sb.2 b (fun z => hD (by rw [← z]; exact hb))]
      exact e
    · refine q s3 T3 m3 (Moved.trans W.gtrans ((mv.mono fun b hb => List.mem_cons_of_mem _ hb).then_heap (Nat.le_succ _) fun b o hb e => ?_) mv3) hT3 le fun k' => ?_
      · rw [sb.2 b (fun z => hb (by rw [z]; exact List.mem_cons_self))]
        exact e
      · rw [eq k']
        have hlt : i < ks.length := by omega
        have ek' : ks[i] = k := by rw [List.getElem?_eq_getElem hlt] at ek; exact Option.some.inj ek
        rw [List.drop_eq_getElem_cons hlt, ek', Bool.or_assoc]
        congr 1
end
section
variable {prog : Program} {w : World} {A : Around} {E : Value → Shared → Prop} {s : Shared}
def newSetQ (w : World) : Obj := { cls := .type "set", dict := none, data := .set #[] 0 (.fresh 0 0 !w.params.followText "set-order") }
/-- what the filling of the new set leaves -/
def FilledQ (prog : Program) (w : World) (ks : List Key) (s s2 : Shared) : Prop := ∃ h' tk T m, s2 = { s with heap := h', toks := tk } ∧ KR prog w h' s.heap.objs.size T m ∧ m ≤ ks.length ∧
  (∀ k, T k = ks.any fun j => decide (k = j)) ∧ ∀ b o, b < s.heap.objs.size → s.heap.get? b = some o → h'.get? b = some o
set_option maxHeartbeats 4000000 in
theorem call_set_keysQ {l : Addr} {items : Array Value} {ks : List Key} {Q : Value → Shared → Prop} (hh : A.handled = none) (hl : s.heap.IsList l items) (hsz : items.size = ks.length)
    (hv : ∀ (i : Nat) (v : Value), items[i]? = some v → ∃ k, ks[i]? = some k ∧ (mixKind prog w).is k v = true ∧ v.scannable = true) (hb : ks.length + 1 < scanBound) (q : ∀ s2, FilledQ prog w ks s s2 → Q (.ref s.heap.objs.size) s2) :
    wpAny (model prog w) A (call (.type "set") [.ref l]) Q E s := by
  obtain ⟨c, tl, hmro⟩ := PySem.F.called_set.mro
  have hmade := PySem.F.called_set.made
  have hsub := PySem.F.called_set.sub
  have h1 := PySem.F.called_set.notType
  have h2 := PySem.F.called_set.canCreate
  have hct := PySem.F.typeCall_set_1 (.ref l)
  refine wpAny_call (codeAny_of_tree ?_)
  show wpAny _ _ (callAny (.type "set") _) _ _ _
  refine wpAny_pure ⟨Code.quiet_builtin _ (by decide +kernel), codeAny_builtin PySem.F.entry_type_call ?_⟩
  rw [Around.under_plain (weight_type_call_type "set" [.ref l] []) rfl]
  repeat (any_goals (first | assumption | wp_step))
  refine codeAny_mono (code_set_led1 (.ref l) (E := E) (Q₁ := fun obj s₁ => obj = .ref s.heap.objs.size ∧ s₁ = { s with heap := s.heap.push (newSetQ w) }) ⟨rfl, rfl⟩) fun r s₁ hr => ?_
  cases r with
  | error e => exact hr
  | ok fl =>
    cases fl with
    | ret obj =>
      obtain ⟨rfl, rfl⟩ := hr
      have hS : (s.heap.push (newSetQ w)).get? s.heap.objs.size = some (newSetQ w) := Heap.get?_push_size _ rfl
      have hT : Shared.TypeIs { s with heap := s.heap.push (newSetQ w) } (.ref s.heap.objs.size) "set" := ⟨_, hS, rfl⟩
      have hli := PySem.F.called_set.init.lookup
      have hbi := PySem.F.called_set.init.bind (.ref s.heap.objs.size)
      repeat (any_goals (first | assumption | wp_step))
      refine codeAny_mono (codeAny_call_builtin (R := wants (fun r s₂ => r = .none ∧ FilledQ prog w ks s s₂) E) PySem.F.called_set.init.plain PySem.F.entry_set_init (check_set_init_1 hT ?_)) fun r₂ s₂ hr₂ => ?_
      · obtain ⟨ol, hol, hcl, nl, hdl⟩ := hl
        obtain ⟨ocls, odict, odata, oslots⟩ := ol
        simp only at hcl hdl
        subst hcl
        subst hdl
        have hol' : (s.heap.push (newSetQ w)).get? l = some { cls := .type "list", dict := odict, data := .seq items nl, slots := oslots } := Heap.get?_push_of_some _ hol
        have hsls := PySem.F.sub_list_set
        have hslf := PySem.F.sub_list_frozenset
        have hne : (Value.type "list" == Value.type "dict") = false := by decide
        have hl1 : (s.heap.push (newSetQ w)).IsList l items := ⟨_, hol', rfl, nl, rfl⟩
        unfold Builtin.«set.__init__» noKeywords Builtin.Frozenset.updateFrom
        generalize hPI : pyIter = PI
        wp_walk
        subst hPI
        refine wpAny_pyIter_list hl1 ?_
        refine wpAny_bind (wpAny_runValue ?_)
        have hlS : l < s.heap.objs.size := Heap.lt_size hol
        have hh3 : A.in1.in1.in1.handled = none := by simp [hh]
        have nI : l ≠ (s.heap.push (newSetQ w)).objs.size := by
          rw [Heap.size_push]
          exact Nat.ne_of_lt (Nat.lt_succ_of_lt hlS)
        have nS : s.heap.objs.size ∉ [(s.heap.push (newSetQ w)).objs.size, l] := by
          rw [Heap.size_push]
          simp only [List.mem_cons, List.not_mem_nil, or_false, not_or]
          exact ⟨Nat.ne_of_lt (Nat.lt_succ_self _), Nat.ne_of_gt hlS⟩
        refine loop_keysQ ((Walks.list hh3 _ l nI items).toS) s.heap.objs.size nS ks hsz.symm (by rw [hsz]; exact hb) hv items.size 0 0 (fun _ => false) _ (Nat.zero_add _) (Nat.le_refl _)
          ⟨⟨_, Heap.get?_push_size _ rfl, rfl, rfl⟩, hl1.push _⟩ ?hA ?hB
        case hA =>
          have hg : ((s.heap.push (newSetQ w)).push { cls := .type "list_iterator", data := .fields #[.ref l, .int 0 0] }).get? s.heap.objs.size = some (newSetQ w) := Heap.get?_push_of_some _ hS
          refine ⟨_, #[], 0, _, [], hg, ⟨rfl, rfl, rfl⟩, rfl, (fun e he => by simp at he), ⟨⟨[], List.Perm.refl _, (fun p h => by cases h), rfl⟩, List.nodup_nil⟩, (fun k => by simp), (by decide), (by rfl), rfl, List.Pairwise.nil, ?_⟩
          show _ ∨ (!w.params.followText "set-order") = true
          cases w.params.followText "set-order" <;> simp
        case hB =>
          intro s' T' m' mv hT' le eq
          obtain ⟨h', g', d', tk', os'⟩ := s'
          have eg : g' = s.gens := mv.gens
          have ed : d' = s.drawn := mv.drawn
          have eo : os' = s.os := mv.os
          subst eg
          subst ed
          subst eo
          show wpAny _ _ _ _ _ _
          refine wpAny_pure ?_
          show wpAny _ _ (ret Value.none) _ _ _
          refine wpAny_pure ⟨rfl, h', tk', T', m', rfl, hT', by omega, fun k => by rw [eq k]; rfl, fun b o hb e => ?_⟩
          refine mv.heap b o ?_ (Heap.get?_push_of_some _ (Heap.get?_push_of_some _ e))
          simp only [List.mem_cons, List.not_mem_nil, or_false, not_or]
          exact ⟨Nat.ne_of_lt hb, by rw [Heap.size_push]; exact Nat.ne_of_lt (Nat.lt_succ_of_lt hb)⟩
      · cases r₂ with
        | error e => exact hr₂
        | ok fl₂ =>
          cases fl₂ with
          | ret r =>
            obtain ⟨rfl, hf⟩ := hr₂
            repeat (any_goals (first | assumption | wp_step))
            exact q _ hf
          | _ => exact hr₂.elim
    | _ => exact hr.elim
end
section
variable {X : Cx}
/-- set(a list of texts), to be gone through -/
def rSetTQ (K : PySem.W.Frag) (P : Program) (w : World) : List V → Hp → VK → Prop := fun xs H Q => ∃ (l : Addr) (zs : List Str), xs = [.ref l] ∧ SqL K H l (zs.map V.str) ∧ zs.length < 1000 ∧
  ∀ a n T, H a = none → n ≤ zs.length → (∀ k, T k = true ↔ ∃ z, k = Sum.inr z ∧ z ∈ zs) → Q (.ref a) (upd H a (SetQ P w a T n))
theorem cr_setTQ (K : PySem.W.Frag) (P : Program) (w : World) (hc : X.calm = true) (e : X.K = K := by rfl) (eP : X.prog = P := by rfl) (ew : X.w = w := by rfl) : CallR X (.type "set") (rSetTQ K P w) := by
  subst e
  subst eP
  subst ew
  intro pins s σ H xs us Q I r h
  obtain ⟨l, zs, rfl, hl, hf, q⟩ := h
  rw [Vals.ref1 r]
  obtain ⟨its, rv, pl, hz⟩ := I.list hl
  have rv : Vals ((zs.map Sum.inr).map kV) its := by
    rw [List.map_map]
    exact rv
  have hle : its.length = zs.length := by rw [← rv.length, List.length_map, List.length_map]
  have hn : H s.heap.objs.size = none := I.hok.fresh (Nat.le_refl _)
  refine call_set_keysQ (ks := zs.map Sum.inr) (I.ok.hd hc) pl.isList (by rw [List.size_toArray, hle, List.length_map]) (fun i v e => keys_vals rv i v (by simpa using e)) (by rw [List.length_map]; unfold scanBound; omega) fun s2 F => ?_
  obtain ⟨h', tk, T, m, rfl, hT, hm, eT, k⟩ := F
  rw [List.length_map] at hm
  refine ⟨.ref s.heap.objs.size, upd H s.heap.objs.size (SetQ X.prog X.w s.heap.objs.size T m), I.laid (t' := tk) (fun b o e => k b o (Heap.lt_size e) e) (Nat.le_refl _) (setQ_new hT), rfl, q _ m T hn hm fun z => ?_⟩
  rw [eT, List.any_eq_true]
  constructor
  · rintro ⟨x, hx, e⟩
    obtain ⟨z', hz', rfl⟩ := List.mem_map.mp hx
    exact ⟨z', of_decide_eq_true e, hz'⟩
  · rintro ⟨z', rfl, hz'⟩
    exact ⟨_, List.mem_map.mpr ⟨z', hz', rfl⟩, decide_eq_true rfl⟩
end
end Qk

/-! Qv: sorted(a set of texts), in, not in -/
namespace Qk
open PySem PySem.Spec PyProof.Rows L2
section
variable {P : Program} {w : World} {A : Around} {E : Value → Shared → Prop} {s : Shared} {a : Addr} {T : Key → Bool} {n : Nat} {Q : Value → Shared → Prop}
theorem strs_of : ∀ (l : List Value) (zs : List Str), l.length = zs.length → (∀ i (h : i < l.length) (h' : i < zs.length), ∃ tk, l[i] = .str zs[i] tk) → StrsAre l zs
  | [], [], _, _ => .nil
  | [], _ :: _, e, _ => by cases e
  | _ :: _, [], e, _ => by cases e
  | v :: l, z :: zs, e, h => by
    obtain ⟨tk, hv⟩ := h 0 (Nat.zero_lt_succ _) (Nat.zero_lt_succ _)
    have hv : v = .str z tk := hv
    subst hv
    exact .cons z tk (strs_of l zs (by simpa using e) fun i h1 h2 => h (i + 1) (Nat.succ_lt_succ h1) (Nat.succ_lt_succ h2))
/-- values whose keys are all texts -/
theorem strs_ex : ∀ (l : List Value), (∀ v ∈ l, ∃ z tk, v = .str z tk) → ∃ zs, StrsAre l zs
  | [], _ => ⟨[], .nil⟩
  | v :: l, h => by
    obtain ⟨z, tk, rfl⟩ := h v List.mem_cons_self
    obtain ⟨zs, hz⟩ := strs_ex l fun u hu => h u (List.mem_cons_of_mem _ hu)
    exact ⟨z :: zs, .cons z tk hz⟩
theorem strs_len {l : List Value} {zs : List Str} (h : StrsAre l zs) : zs.length = l.length := by
  induction h with
  | nil => rfl
  | cons y t r ih => simp [ih]
theorem is_text {z : Str} {v : Value} (h : (mixKind P w).is (Sum.inr z) v = true) : ∃ tk, v = .str z tk := by
  have h : keyIs (Sum.inr z) v = true := h
  have h : v.isStrOf z = true := h
  cases v <;> simp [Value.isStrOf] at h ⊢
  exact h
/-- the texts of values, found by their keys -/
theorem strs_keys : ∀ (l : List (Key × (Int × Value))), (∀ p ∈ l, (mixKind P w).is p.1 p.2.2 = true) → (∀ p ∈ l, ∃ z, p.1 = Sum.inr z) → ∃ zs, StrsAre (l.map (·.2.2)) zs ∧ l.map (·.1) = zs.map Sum.inr
  | [], _, _ => ⟨[], .nil, rfl⟩
  | p :: l, h1, h2 => by
    obtain ⟨z, ez⟩ := h2 p List.mem_cons_self
    have hi := h1 p List.mem_cons_self
    rw [ez] at hi
    obtain ⟨tk, ev⟩ := is_text hi
    obtain ⟨zs, hz, e⟩ := strs_keys l (fun q hq => h1 q (List.mem_cons_of_mem _ hq)) fun q hq => h2 q (List.mem_cons_of_mem _ hq)
    refine ⟨z :: zs, ?_, ?_⟩
    · rw [List.map_cons, ev]
      exact .cons z tk hz
    · rw [List.map_cons, ez, e]
      rfl
theorem StrsAre.perm {l l' : List Value} (pm : l.Perm l') : ∀ {zs : List Str}, StrsAre l zs → ∃ zs', StrsAre l' zs' ∧ zs.Perm zs' := by
  induction pm with
  | nil => intro zs h; exact ⟨zs, h, List.Perm.refl _⟩
  | cons x _ ih =>
    intro zs h
    cases h with
    | cons y t r =>
      obtain ⟨zs', h', p⟩ := ih r
      exact ⟨y :: zs', .cons y t h', p.cons y⟩
  | swap x y l =>
    intro zs h
    cases h with
    | cons a t r =>
      cases r with
      | cons b t' r => exact ⟨_, .cons b t' (.cons a t r), List.Perm.swap _ _ _⟩
  | trans _ _ ih1 ih2 =>
    intro zs h
    obtain ⟨z1, h1, p1⟩ := ih1 h
    obtain ⟨z2, h2, p2⟩ := ih2 h1
    exact ⟨z2, h2, p1.trans p2⟩
theorem sorted_setQ (R : KR P w s.heap a T n) (hh : A.handled = none) (hn : n < 64) (ht : ∀ k, T k = true → ∃ z, k = Sum.inr z)
    (q : ∀ (s' : Shared) (p : Nat) (out : Array Value) (c : Nat) (zs : List Str), (∀ (b : Addr) (o : Obj), s.heap.get? b = some o → s'.heap.get? b = some o) → s'.gens = s.gens → s'.os = s.os → s.heap.objs.size ≤ p →
      s'.heap.get? p = some (seqObj "list" out c) → StrsAre out.toList zs → sortedS zs = true → zs.Nodup → (∀ z, z ∈ zs ↔ T (Sum.inr z) = true) → zs.length = n → Q (.ref p) s') :
    wpAny (model P w) A (call (.builtin "sorted") [.ref a]) Q E s := by
  obtain ⟨o, es, ep, t, ks, ho, hx, hd, he, hk, hT, hsz, hf, hn', hr, hl⟩ := R
  obtain ⟨kes, pm, hi, ek⟩ := hk.ex
  refine Calls.call_function_entry kind_sorted plain_sorted entry_sorted (args_sorted1 _) ?_
  unfold Builtin.sorted
  refine wpAny_bind (wpAny_pure ?_)
  refine wpAny_bind (collect_set (by simpa using hh) ⟨o, ho, hx.1, hd⟩ hf hsz hr hl fun s1 out k1 z1 g1 o1 p1 => ?_)
  have hall : ∀ p ∈ kes, ∃ z, p.1 = Sum.inr z := fun p hp => ht _ ((hT _).mpr (by rw [← ek]; exact List.mem_map.mpr ⟨p, hp, rfl⟩))
  obtain ⟨zs, hz, ez⟩ := strs_keys kes hi hall
  have pv : (kes.map (·.2.2)).Perm out := by
    have := pm.map (·.2)
    rw [List.map_map] at this
    exact this.trans p1.symm
  obtain ⟨zs', hz', pz⟩ := StrsAre.perm pv hz
  have lo : out.length = n := by rw [p1.length_eq, List.length_map, Array.length_toList, hn']
  refine wpAny_bind (wpAny_newList ?_ (by rw [lo, sizeLine_eq]; omega))
  refine wpAny_bind (wpAny_holding ?_)
  have hp : (s1.heap.push { cls := Value.type "list", data := Data.seq out.toArray }).get? s1.heap.objs.size = some (seqObj "list" out.toArray 0) := Heap.get?_push_size _ rfl
  refine wpAny_call_entry slot_list_sort ⟨_, hp, rfl⟩ entry_list_sort ?_ (args_list_sort _)
  refine list_sort_treeK strKind_oneLt hp hz'.keysOf (fun v1 v2 rest e => by subst e; exact keyKind_strs hz') (by omega) fun st' pa so => ?_
  obtain ⟨ss, h1, h2, h3⟩ := sorted_out_str hz' pa so
  refine ⟨.none, rfl, ?_⟩
  refine wpAny_pure ⟨_, rfl, ?_⟩
  obtain ⟨c, hc⟩ := sortedHeap_at (out := Array.map (fun x => x.snd) (arrOf st')) hp
  have nds : ss.Nodup := by
    have nz : zs.Nodup := by
      have := hk.nd
      rw [← ek, ez] at this
      exact (List.pairwise_map.mp this).imp fun h e => h (by rw [e])
    exact (h2.trans pz.symm).nodup_iff.mpr nz
  refine q _ s1.heap.objs.size _ c ss (fun b u e => ?_) g1 o1 z1 hc h1 h3 nds (fun z => ?_) ?_
  · have e1 := k1 b u e
    have l1 := Heap.lt_size e1
    have e2 := sortedHeap_old (h := s1.heap.push { cls := Value.type "list", data := Data.seq out.toArray }) (vs := out) (out := Array.map (fun x => x.snd) (arrOf st')) (Nat.ne_of_lt l1) (by rw [size_push']; exact Nat.lt_succ_of_lt l1)
    exact e2.trans (Heap.get?_push_of_some _ e1)
  · rw [h2.mem_iff, ← pz.mem_iff, hT, ← ek, ez, List.mem_map]
    constructor
    · intro h
      exact ⟨z, h, rfl⟩
    · rintro ⟨z', h, e⟩
      injection e with e
      rw [← e]
      exact h
  · rw [h2.length_eq, strs_len hz', lo]
end
/-! ### the rules -/
def rSortQ (P : Program) (w : World) : List V → Hp → VK → Prop := fun xs H Q => ∃ (a : Addr) (T : Key → Bool) (n : Nat), xs = [.ref a] ∧ H a = some (SetQ P w a T n) ∧ n < 64 ∧ (∀ k, T k = true → ∃ z, k = Sum.inr z) ∧
  ∀ (zs : List Str) (p : Addr), sortedS zs = true → zs.Nodup → (∀ z, z ∈ zs ↔ T (Sum.inr z) = true) → zs.length = n → H p = none → Q (.ref p) (upd H p (.lst (zs.map V.str)))
section
variable {X : Cx}
theorem cr_sortQ (P : Program) (w : World) (hc : X.calm = true) (eP : X.prog = P := by rfl) (ew : X.w = w := by rfl) : CallR X (.builtin "sorted") (rSortQ P w) := by
  subst eP
  subst ew
  intro pins s σ H xs us Q I r h
  obtain ⟨a, T, n, rfl, ha, hn, ht, q⟩ := h
  rw [Vals.ref1 r]
  refine sorted_setQ (setQ_get I ha) (I.ok.hd hc) hn ht fun s' p out c zs k g o hp hg hi hs nd hm hl => ?_
  have hl' : (zs.map V.str).length ≤ sizeLine := by rw [List.length_map, hl, sizeLine_eq]; omega
  have hn : H p = none := I.hok.fresh hp
  obtain ⟨heap, gens, drawn, toks, os⟩ := s'
  have g : gens = s.gens := g
  have o : os = s.os := o
  subst g
  subst o
  have hob : ObjOk X.prog X.w (upd H p (.lst (zs.map V.str))) heap p (.lst (zs.map V.str)) := ⟨hl', out.toList, c, vals_of_strs hi, hg⟩
  have J := I.call (ch := []) (d' := drawn) (t' := toks) (g' := s.gens) (Un.laid k hp hn) (HOk.laid I.hok k hp hob) I.bare (fun x z => (by cases z))
  exact ⟨.ref p, upd H p (.lst (zs.map V.str)), J, rfl, q zs p hs nd hm hl hn⟩
def rInQ (P : Program) (w : World) (neg : Bool) : R2 := fun x y H Q => ∃ (k : Key) (a : Addr) (T : Key → Bool) (n : Nat), x = kV k ∧ y = .ref a ∧ H a = some (SetQ P w a T n) ∧ Q (.bl (if neg = true then !T k else T k)) H
theorem or_inQ : OpR X (compareOp .In) (rInQ X.prog X.w false) := by
  intro pins s σ H x y v u Q I rx ry h
  obtain ⟨k, a, T, n, rfl, rfl, ha, q⟩ := h
  have eu : u = .ref a := ry
  subst eu
  refine wpAny_inSet_of (knd := mixKind X.prog X.w) (kV_is rx) (key_scan rx) (setQ_get I ha).setOf ?_
  exact ⟨.bl (T k), H, I.tok _, rfl, q⟩
theorem or_notinQ : OpR X (compareOp .NotIn) (rInQ X.prog X.w true) := by
  intro pins s σ H x y v u Q I rx ry h
  obtain ⟨k, a, T, n, rfl, rfl, ha, q⟩ := h
  have eu : u = .ref a := ry
  subst eu
  refine wpAny_notInSet_of (knd := mixKind X.prog X.w) (kV_is rx) (key_scan rx) (setQ_get I ha).setOf ?_
  exact ⟨.bl (!T k), H, I.tok _, rfl, q⟩
end
/-! ### in, not in: lists, texts, sets of both kinds -/
def rInN (K : PySem.W.Frag) (P : Program) (w : World) : R2 := fun x y H Q => rInM K P w x y H Q ∨ rInQ P w false x y H Q
def rNotInN (K : PySem.W.Frag) (P : Program) (w : World) : R2 := fun x y H Q => rNotInM K P w x y H Q ∨ rInQ P w true x y H Q
def rSortN (K : PySem.W.Frag) (P : Program) (w : World) : List V → Hp → VK → Prop := fun xs H Q => rSortA K xs H Q ∨ rSortQ P w xs H Q
section
variable {X : Cx}
theorem op_inN (K : PySem.W.Frag) (P : Program) (w : World) (hu : X.A.units + 64 < cLine) (hu' : X.A.units + 65 < cLine) (e : X.K = K := by rfl) (eP : X.prog = P := by rfl) (ew : X.w = w := by rfl) : OpR X (compareOp .In) (rInN K P w) := by
  subst e
  subst eP
  subst ew
  intro pins s σ H x y v u Q I rx ry h
  rcases h with h | h
  · exact op_inM _ _ _ hu hu' rfl rfl rfl pins s σ H x y v u Q I rx ry h
  · exact or_inQ pins s σ H x y v u Q I rx ry h
theorem op_notinN (K : PySem.W.Frag) (P : Program) (w : World) (hu : X.A.units + 64 < cLine) (hu' : X.A.units + 65 < cLine) (e : X.K = K := by rfl) (eP : X.prog = P := by rfl) (ew : X.w = w := by rfl) : OpR X (compareOp .NotIn) (rNotInN K P w) := by
  subst e
  subst eP
  subst ew
  intro pins s σ H x y v u Q I rx ry h
  rcases h with h | h
  · exact op_notinM _ _ _ hu hu' rfl rfl rfl pins s σ H x y v u Q I rx ry h
  · exact or_notinQ pins s σ H x y v u Q I rx ry h
theorem cr_sortN (K : PySem.W.Frag) (P : Program) (w : World) (hc : X.calm = true) (c : CallR X (.builtin "sorted") (rSortA K)) (eP : X.prog = P := by rfl) (ew : X.w = w := by rfl) : CallR X (.builtin "sorted") (rSortN K P w) := by
  intro pins s σ H xs us Q I r h
  rcases h with h | h
  · exact c pins s σ H xs us Q I r h
  · exact cr_sortQ P w hc eP ew pins s σ H xs us Q I r h
end
section
variable {K : PySem.W.Frag} {P : Program} {w : World} {F : Hp} {O O' : Own} {H : Hp} {Q : VK} {x y v : V}
theorem g_inNM (q : rInM K P w x y H Q) : rInN K P w x y H Q := .inl q
theorem g_notinNM (q : rNotInM K P w x y H Q) : rNotInN K P w x y H Q := .inl q
theorem g_inNQ {a : Addr} {T : Key → Bool} {n : Nat} {k : Key} (ek : x = kV k) (h : H a = some (SetQ P w a T n)) (q : Q (.bl (T k)) H) : rInN K P w x (.ref a) H Q := .inr ⟨k, a, T, n, ek, rfl, h, q⟩
theorem g_notinNQ {a : Addr} {T : Key → Bool} {n : Nat} {k : Key} (ek : x = kV k) (h : H a = some (SetQ P w a T n)) (q : Q (.bl (!T k)) H) : rNotInN K P w x (.ref a) H Q := .inr ⟨k, a, T, n, ek, rfl, h, q⟩
theorem g_sortNA {xs : List V} (q : rSortA K xs H Q) : rSortN K P w xs H Q := .inl q
theorem g_sortNQ {a : Addr} {T : Key → Bool} {n : Nat} (h : H a = some (SetQ P w a T n)) (hn : n < 64) (ht : ∀ k, T k = true → ∃ z, k = Sum.inr z) (hH : Has F O H)
    (q : ∀ (zs : List Str) p H', sortedS zs = true → zs.Nodup → (∀ z, z ∈ zs ↔ T (Sum.inr z) = true) → zs.length = n → H p = none → Has F ((p, .lst (zs.map V.str)) :: O) H' → Q (.ref p) H') : rSortN K P w [.ref a] H Q :=
  .inr ⟨a, T, n, rfl, h, hn, ht, fun zs p s nd m l np => q zs p _ s nd m l np (hH.new np)⟩
theorem g_setOfQ {a : Addr} {zs : List Str} (h : H a = some (.lst (zs.map V.str))) (hl : zs.length < 1000) (hH : Has F O H) (q : ∀ p n T H', H p = none → n ≤ zs.length → (∀ k, T k = true ↔ ∃ z, k = Sum.inr z ∧ z ∈ zs) → Has F ((p, SetQ P w p T n) :: O) H' → Q (.ref p) H') : rSetTQ K P w [.ref a] H Q :=
  ⟨a, zs, rfl, SqL.of h, hl, fun p n T np le eT => q p n T _ np le eT (hH.new np)⟩
end
/-! ### min of two numbers -/
def rMin2 : List V → Hp → VK → Prop := fun xs H Q => ∃ i j, xs = [.int i, .int j] ∧ Q (.int (if j < i then j else i)) H
theorem cr_min2 {X : Cx} (hc : X.calm = true) : CallR X (.builtin "min") rMin2 := call_min2 hc
theorem g_min2 {i j : Int} {H : Hp} {Q : VK} (q : Q (.int (min i j)) H) : rMin2 [.int i, .int j] H Q := ⟨i, j, rfl, by
  have e : (if j < i then j else i) = min i j := by split <;> omega
  rw [e]
  exact q⟩
/-! ### any, all of a list of truth values -/
theorem cr_anyK {X : Cx} (K : PySem.W.Frag) (hc : X.calm = true) (e : X.K = K := by rfl) : CallR X (.builtin "any") (rAny K) := by subst e; exact cr_any hc
theorem cr_allK {X : Cx} (K : PySem.W.Frag) (hc : X.calm = true) (e : X.K = K := by rfl) : CallR X (.builtin "all") (rAll K) := by subst e; exact cr_all hc
theorem g_any {K : PySem.W.Frag} {a : Addr} {bs : List Bool} {H : Hp} {Q : VK} (h : H a = some (.lst (bs.map V.bl))) (q : Q (.bl (bs.any id)) H) : rAny K [.ref a] H Q := ⟨a, bs, rfl, SqL.of h, q⟩
theorem g_all {K : PySem.W.Frag} {a : Addr} {bs : List Bool} {H : Hp} {Q : VK} (h : H a = some (.lst (bs.map V.bl))) (q : Q (.bl (bs.all id)) H) : rAll K [.ref a] H Q := ⟨a, bs, rfl, SqL.of h, q⟩
end Qk

/-! Qz: loops over the keys of a dict (locked meanwhile), len of a dict, texts in order, reverse -/
namespace Qk
open PySem PySem.Spec PyProof.Rows L2
def kForK (d : Addr) (od : Obj) (kvs : List (Key × V)) (g : TG) (tb : TS) (D : Ends) (σ : L2.St) (H : Hp) : Prop := kW (Itk d od kvs) g tb D σ H
/-- the ends of a statement under a lock -/
def lockD (d : Addr) (od : Obj) (u : HO) (D : Ends) : Ends := ⟨fun σ' H' => H' d = some (.frz od u) ∧ D.nx σ' (upd H' d u), fun v H' => H' d = some (.frz od u) ∧ D.rt v (upd H' d u), fun σ' H' => H' d = some (.frz od u) ∧ D.bk σ' (upd H' d u), fun σ' H' => H' d = some (.frz od u) ∧ D.ct σ' (upd H' d u)⟩
def kForKx (g : TG) (tb : TS) (D : Ends) (σ : L2.St) (x : V) (H1 : Hp) : Prop := ∃ d o, x = .ref d ∧ ((∃ kvs, H1 d = some (.frz o (.dK kvs)) ∧ kForK d o kvs g tb D σ H1) ∨ ∃ kvs, H1 d = some (.frz o (.dT kvs)) ∧ kW (Itkt d o kvs) g tb D σ H1)
section
variable {K : PySem.W.Frag} {σ : L2.St} {F : Hp} {O O' : Own} {H : Hp} {Q : VK} {te : TE} {x y v : V} {D : Ends} {ts : TS} {g : TG} {d : Addr} {od : Obj} {kvs : List (Key × V)}
theorem g_forK (q : te σ H fun x H1 => kForKx g ts D σ x H1) : tFor (iKeys te) g ts D σ H := q
theorem g_kforKx (h : H d = some (.frz od (.dK kvs))) (q : kForK d od kvs g ts D σ H) : kForKx g ts D σ (.ref d) H := ⟨d, od, rfl, .inl ⟨kvs, h, q⟩⟩
theorem g_lockK {i : Nat} (hv : σ[i]? = some (some (.ref d))) (h : H d = some (.dK kvs)) (q : ∀ od, kForK d od kvs g ts (lockD d od (.dK kvs) D) σ (upd H d (.frz od (.dK kvs)))) : tLock (tFor (iKeys (tVar i)) g ts) D σ H :=
  ⟨d, .dK kvs, h, trivial, fun od => ⟨.ref d, hv, d, od, rfl, .inl ⟨kvs, upd_same, q od⟩⟩⟩
theorem k_forK (Pv : Nat → L2.St → Hp → Prop) (h0 : Pv 0 σ H) (hl : ∀ i σ H, Pv i σ H → H d = some (.frz od (.dK kvs)))
    (hs : ∀ i k v σ H, kvs[i]? = some (k, v) → Pv i σ H → g (kV k) σ H fun σ2 H2 => ts { D with nx := Pv (i + 1), ct := Pv (i + 1), bk := D.nx } σ2 H2) (hd : ∀ σ H, Pv kvs.length σ H → D.nx σ H) : kForK d od kvs g ts D σ H := by
  refine ⟨fun i m σ H => m = kvs.length - i ∧ i ≤ kvs.length ∧ Pv i σ H, ⟨_, rfl, Nat.zero_le _, h0⟩, ?_⟩
  rintro i m σ H1 ⟨rfl, hi, p⟩
  have hq := hl i σ H1 p
  by_cases hlt : i < kvs.length
  · refine .inr ⟨⟨hq, hlt⟩, Pv (i + 1), fun σ' H' p' => ⟨kvs.length - (i + 1), by omega, rfl, hlt, p'⟩, ?_⟩
    rintro x H' ⟨rfl, k, v, e, rfl⟩
    exact hs i k v σ _ e p
  · have e : i = kvs.length := by omega
    subst e
    exact .inl ⟨⟨hq, Nat.le_refl _⟩, hd σ H1 p⟩
end
/-! ### a locked thing -/
section
variable {F H H' : Hp} {O : Own} {d a : Addr} {od : Obj} {u o : HO} {kvs : List (Key × V)}
theorem Has.lock (h : Has F O H) (e : F d = some u) : Has (upd F d (.frz od u)) O (upd H d (.frz od u)) := by
  refine ⟨fun b v q => ?_, fun p hp => ?_, h.nd⟩
  · by_cases c : b = d
    · subst c
      rw [upd_same] at q ⊢
      exact q
    · rw [upd_ne c] at q ⊢
      exact h.same b v q
  · have f := h.own p hp
    have ne : p.1 ≠ d := fun z => by
      rw [z, e] at f
      cases f.1
    rw [upd_ne ne, upd_ne ne]
    exact f
theorem lock_at (e : H d = some u) (h : H a = some o) (ne : o ≠ u) : upd H d (.frz od u) a = some o := by
  rw [upd_ne (fun z => ?_)]
  · exact h
  · subst z
    rw [e] at h
    exact ne (Option.some.inj h).symm
theorem unlock_at (e : H' d = some (.frz od u)) (h : H' a = some o) (ne : o ≠ .frz od u) : upd H' d u a = some o := by
  rw [upd_ne (fun z => ?_)]
  · exact h
  · subst z
    rw [e] at h
    exact ne (Option.some.inj h).symm
theorem unlock_same (e : H d = some u) (s : Same (upd H d (.frz od u)) H') : Same H (upd H' d u) := fun b v q => by
  by_cases c : b = d
  · subst c
    rw [upd_same]
    rw [e] at q
    exact q
  · rw [upd_ne c]
    exact s b v (by rw [upd_ne c]; exact q)
theorem Has.unlock (h : Has F O H) (e : F d = some (.frz od u)) : Has (upd F d u) O (upd H d u) := by
  refine ⟨fun b v q => ?_, fun p hp => ?_, h.nd⟩
  · by_cases c : b = d
    · subst c
      rw [upd_same] at q ⊢
      exact q
    · rw [upd_ne c] at q ⊢
      exact h.same b v q
  · have f := h.own p hp
    have ne : p.1 ≠ d := fun z => by
      rw [z, e] at f
      cases f.1
    rw [upd_ne ne, upd_ne ne]
    exact f
end
mutual
theorem Dq.upL {H H' : Hp} (e1 : ∀ a xs, H a = some (.lst xs) → H' a = some (.lst xs)) (e2 : ∀ a xs, H a = some (.tup xs) → H' a = some (.tup xs)) : ∀ (d : PyData) (v : V), Dq H v d → Dq H' v d
  | _, _, .non => .non
  | _, _, .bl b => .bl b
  | _, _, .int i => .int i
  | _, _, .str x => .str x
  | .list ds, _, .lst s a => .lst (e1 _ _ s) (DqAll.upL e1 e2 ds _ a)
  | .tuple ds, _, .tup s a => .tup (e2 _ _ s) (DqAll.upL e1 e2 ds _ a)
theorem DqAll.upL {H H' : Hp} (e1 : ∀ a xs, H a = some (.lst xs) → H' a = some (.lst xs)) (e2 : ∀ a xs, H a = some (.tup xs) → H' a = some (.tup xs)) : ∀ (ds : List PyData) (vs : List V), DqAll H vs ds → DqAll H' vs ds
  | _, _, .nil => .nil
  | d :: ds, _, .cons h t => .cons (Dq.upL e1 e2 d _ h) (DqAll.upL e1 e2 ds _ t)
end
theorem DqAll.lockK {H : Hp} {d : Addr} {od : Obj} {kvs : List (Key × V)} (e : H d = some (.dK kvs)) {ds : List PyData} {vs : List V} (h : DqAll H vs ds) : DqAll (upd H d (.frz od (.dK kvs))) vs ds :=
  h.upL (fun a xs q => lock_at e q (fun z => by cases z)) (fun a xs q => lock_at e q (fun z => by cases z)) ds vs
/-! ### len, also of a dict -/
def rLenN (K : PySem.W.Frag) : List V → Hp → VK → Prop := fun xs H Q => rLen K xs H Q ∨ ∃ a kvs, xs = [V.ref a] ∧ H a = some (.dK kvs) ∧ Q (.int kvs.length) H
theorem cr_lenN {X : Cx} (K : PySem.W.Frag) (e : X.K = K := by rfl) : CallR X (.builtin "len") (rLenN K) := by
  subst e
  intro pins s σ H xs us Q I r h
  rcases h with h | h
  · exact cr_len pins s σ H xs us Q I r h
  · exact call_lenD pins s σ H xs us Q I r h
section
variable {K : PySem.W.Frag} {H : Hp} {Q : VK}
theorem g_lenNL {a : Addr} {xs : List V} (h : H a = some (.lst xs)) (q : Q (.int (xs.length : Int)) H) : rLenN K [.ref a] H Q := .inl (g_lenL h q)
theorem g_lenNT {a : Addr} {xs : List V} (h : H a = some (.tup xs)) (q : Q (.int (xs.length : Int)) H) : rLenN K [.ref a] H Q := .inl (g_lenT h q)
theorem g_lenNS {z : Str} (h : z.length ≤ sizeLine) (q : Q (.int (z.length : Int)) H) : rLenN K [.str z] H Q := .inl (g_lenS h q)
theorem g_lenND {a : Addr} {kvs : List (Key × V)} (h : H a = some (.dK kvs)) (q : Q (.int (kvs.length : Int)) H) : rLenN K [.ref a] H Q := .inr ⟨a, kvs, rfl, h, q⟩
end
/-! ### texts in order -/
def rLtA : R2 := fun x y H Q => (rI0 (fun i j => .bl (decide (i < j))) x y H Q) ∨ ∃ i j, x = .str i ∧ y = .str j ∧ Q (.bl (decide (i.cps.toList < j.cps.toList))) H
theorem op_ltA {X : Cx} : OpR X (compareOp .Lt) rLtA := by
  intro pins s σ H x y v u Q I rx ry h
  rcases h with h | h
  · exact op_lt pins s σ H x y v u Q I rx ry h
  · exact op_lt_str pins s σ H x y v u Q I rx ry h
theorem g_ltI {i j : Int} {H : Hp} {Q : VK} (q : Q (.bl (decide (i < j))) H) : rLtA (.int i) (.int j) H Q := .inl ⟨i, j, rfl, rfl, q⟩
theorem g_ltS {i j : Str} {H : Hp} {Q : VK} (q : Q (.bl (decide (i.cps.toList < j.cps.toList))) H) : rLtA (.str i) (.str j) H Q := .inr ⟨i, j, rfl, rfl, q⟩
/-! ### reverse -/
def rRevA : V → List V → Hp → VK → Prop := fun x vs H Q => ∃ l xs, x = .ref l ∧ vs = [] ∧ H l = some (.lst xs) ∧ Q .non (upd H l (.lst xs.reverse))
theorem mt_revA {X : Cx} : MtR X "list.reverse" rRevA := mt_reverse
theorem g_revA {F H : Hp} {O O' : Own} {Q : VK} {a : Addr} {xs : List V} (hH : Has F O H) (c : Chg O a (.lst xs) (.lst xs.reverse) O') (q : ∀ H', Has F O' H' → Q .non H') : rRevA (.ref a) [] H Q :=
  ⟨a, xs, rfl, rfl, hH.get c.mem, q _ (hH.put c)⟩
/-! ### list(range(n)) -/
def kLstRg (x : V) (H1 : Hp) (Q : VK) : Prop := ∃ n, x = .int n ∧ (RgOk 0 n ∧ ∀ q, H1 q = none → Q (.ref q) (upd H1 q (.lst (rgV 0 n))))
section
variable {σ : L2.St} {F : Hp} {O : Own} {H : Hp} {Q : VK} {ta : TE}
theorem g_lstRg (q : ta σ H fun x H1 => kLstRg x H1 Q) : tLstRg (tRg1 ta) σ H Q := q
theorem g_kLstRg {n : Nat} (hn : n ≤ 1000) (hH : Has F O H) (q : ∀ p H', H p = none → Has F ((p, .lst ((List.range n).map fun (a : Nat) => V.int (a : Int))) :: O) H' → Q (.ref p) H') : kLstRg (.int (n : Int)) H Q := by
  refine ⟨n, rfl, RgOk.of_le (by omega) (by omega) (by omega) (by omega), fun p np => q p _ np ?_⟩
  have e : rgV 0 (n : Int) = (List.range n).map fun (a : Nat) => V.int (a : Int) := by
    unfold rgV
    have : ((n : Int) - 0).toNat = n := by omega
    rw [this]
    apply List.map_congr_left
    intro a _
    rw [Int.zero_add]
  rw [e]
  exact hH.new np
end
/-! ### dicts read whether locked or not -/
section
variable {K : PySem.W.Frag} {P : Program} {w : World} {H : Hp} {Q : VK} {a : Addr} {kvs : List (Key × V)} {i : Str} {v : V}
theorem g_ixDR (h : Rd H a (.dK kvs)) (hv : valV kvs (.inr i) = some v) (q : Q v H) : rIxA K (.ref a) (.str i) H Q := .inr ⟨a, v, rfl, .inl ⟨kvs, .inr i, h, rfl, hv.symm⟩, q⟩
theorem g_inSR (h : Rd H a (.dK kvs)) (q : Q (.bl (valV kvs (.inr i)).isSome) H) : rInA K (.str i) (.ref a) H Q := .inl (.inr ⟨a, _, rfl, .inl ⟨kvs, .inr i, h, rfl, rfl⟩, q⟩)
theorem g_notinSR (h : Rd H a (.dK kvs)) (q : Q (.bl (!(valV kvs (.inr i)).isSome)) H) : rNotInA K (.str i) (.ref a) H Q := .inl (.inr ⟨a, _, rfl, .inl ⟨kvs, .inr i, h, rfl, rfl⟩, q⟩)
end
end Qk

/-! Qd: a set comprehension of keys with two clauses; set.add; a dict comprehension stored under a name -/
namespace Qk
open PySem PySem.Spec PyProof.Rows L2
theorem kr_fresh (P : Program) (w : World) {h : Heap} : KR P w (h.push (newSetQ w)) h.objs.size (fun _ => false) 0 := by
  refine ⟨_, #[], 0, _, [], Heap.get?_push_size _ rfl, ⟨rfl, rfl, rfl⟩, rfl, (fun e he => by simp at he), ⟨⟨[], List.Perm.refl _, (fun p h => by cases h), rfl⟩, List.nodup_nil⟩, (fun k => by simp), (by decide), (by rfl), rfl, List.Pairwise.nil, ?_⟩
  show _ ∨ (!w.params.followText "set-order") = true
  cases w.params.followText "set-order" <;> simp
theorem newSetQ_ok {P : Program} {w : World} {A : Around} {E : Value → Shared → Prop} {s : Shared} {Q : Value → Shared → Prop} (h : Q (.ref s.heap.objs.size) { s with heap := s.heap.push (newSetQ w) }) : wpAny (model P w) A (newSet (.type "set")) Q E s := PpSet.newSet_ok h
/-- a.add(x) of a key -/
theorem kq_add {P : Program} {w : World} {A : Around} {E : Value → Shared → Prop} {s : Shared} {a : Addr} {T : Key → Bool} {n : Nat} {k : Key} {x : Value} {Q : Value → Shared → Prop} (his : (mixKind P w).is k x = true) (hsc : x.scannable = true) (R : KR P w s.heap a T n) (room : n + 1 < scanBound)
    (q : ∀ h', Heap.SameBut a s.heap h' → KR P w h' a (fun k' => T k' || decide (k' = k)) (if T k = true then n else n + 1) → Q .none { s with heap := h', toks := s.toks + 1 }) : wpAny (model P w) A (call (.builtin "set.add") [.ref a, x]) Q E s := by
  refine wpAny_call_entry F.slot_set_add R.setOf.typeIs F.entry_set_add ?_ (F.args_set_add_2 _ _)
  unfold Builtin.«set.add» Builtin.Frozenset.oneOther
  simp only [List.isEmpty_nil, bind_assoc]
  unfold Builtin.Frozenset.addrOf setAdd
  refine wpAny_bind (wpAny_pure ?_)
  try dsimp only
  refine wpAny_bind (wpAny_pure ?_)
  try dsimp only
  refine wpAny_bind ?_
  refine wpAny_holding ?_
  refine wpAny_bind ((mixKind P w).pyHash his ?_)
  refine kr_add (s := { s with toks := s.toks + 1 }) his hsc R room fun h' sb r => ?_
  show wpAny _ _ (ret Value.none) _ _ _
  exact wpAny_pure ⟨_, rfl, q h' sb r⟩
theorem addQ_ok {X : Cx} {pins : List (Addr × Obj)} {σ : L2.St} {H : Hp} {s : Shared} {E : Value → Shared → Prop} {D : Addr} {T : Key → Bool} {n : Nat} {k : Key} {u : Value} {Q : Value → Shared → Prop} (I : Inv X pins σ H s) (hD : H D = some (SetQ X.prog X.w D T n)) (ru : RelV (kV k) u) (room : n + 1 < scanBound)
    (q : ∀ s', Inv X pins σ (upd H D (SetQ X.prog X.w D (fun k' => T k' || decide (k' = k)) (if T k = true then n else n + 1))) s' → Q .none s') : wpAny (model X.prog X.w) X.A (call (.builtin "set.add") [.ref D, u]) Q E s := by
  refine kq_add (kV_is ru) (key_scan ru) (setQ_get I hD) room fun h' sb new => ?_
  have he : ∃ o, h'.get? D = some o := by
    obtain ⟨o, _, _, _, _, ho, _⟩ := id new
    exact ⟨o, ho⟩
  exact q _ (I.write (e := D) (t' := s.toks + 1) (by rw [hD]; trivial) (.inl rfl) (fun b o hb e => (sb.2 b hb).trans e) he (setQ_new new))
theorem compTurnS2_out (el ta ia tb ib : Expr) (fa fb : List Expr) (sco : Scope) (pos : Pos) (itr ac : Value) (env : Env) :
    compTurn (.SetComp el [⟨ta, ia, fa, 0⟩, ⟨tb, ib, fb, 0⟩] sco pos) 0 itr ac env = (do
      standAt ia.pos
      match ← pyNext itr with
      | none => pure (.done .next)
      | some v =>
        letOwnedTupleGo ta itr v
        assign ta env v
        let mut ok := true
        for c in fa do
          if ok then ok ← isTrue c env (eval c env)
        if ok then
          let x ← eval ib env
          standAt ib.pos
          let x ← foldedSetIterable ib env x
          let _ ← runOwn (.compStart (.SetComp el [⟨ta, ia, fa, 0⟩, ⟨tb, ib, fb, 0⟩] sco pos) 1 (← holding [x] (pyIter x)) ac env) env
        again (.compLoop (.SetComp el [⟨ta, ia, fa, 0⟩, ⟨tb, ib, fb, 0⟩] sco pos) 0 itr ac env)) := by rfl
theorem compTurnS2_in (el ta ia tb ib : Expr) (fa fb : List Expr) (sco : Scope) (pos : Pos) (itr ac : Value) (env : Env) :
    compTurn (.SetComp el [⟨ta, ia, fa, 0⟩, ⟨tb, ib, fb, 0⟩] sco pos) 1 itr ac env = (do
      standAt ib.pos
      match ← pyNext itr with
      | none => pure (.done .next)
      | some v =>
        letOwnedTupleGo tb itr v
        assign tb env v
        let mut ok := true
        for c in fb do
          if ok then ok ← isTrue c env (eval c env)
        if ok then
          (do let v ← eval el env; standAt el.pos; let _ ← call (.builtin "set.add") [ac, v])
        again (.compLoop (.SetComp el [⟨ta, ia, fa, 0⟩, ⟨tb, ib, fb, 0⟩] sco pos) 1 itr ac env)) := by rfl

section
variable {prog : Program} {w : World} {A : Around} {R : Result → Shared → Prop} {s : Shared} {el ta ia tb ib : Expr} {fa fb : List Expr} {sco : Scope} {pos : Pos} {itr ac : Value} {env : Env}
/-- the loop of the first clause -/
theorem compLoopS2_out (hs : ∀ x, foldedSetIterable ib env x = pure x) (I : Nat → Shared → Prop)
    (trn : ∀ n s, I n s → wpAny (model prog w) A (pyNext itr) (fun r s₁ => match r with
      | none => R (.ok .next) s₁
      | some v => wpAny (model prog w) A (letOwnedTupleGo ta itr v) (fun _ s₁' => wpAny (model prog w) A (assign ta env v) (fun _ s₂ =>
          wpAny (model prog w) A (forIn fa true fun c r => if r = true then do let ok ← isTrue c env (eval c env); pure (ForInStep.yield ok) else pure (ForInStep.yield r)) (fun ok s₃ =>
            if ok = true then wpAny (model prog w) A (eval ib env) (fun x s₄ => wpAny (model prog w) A (pyIter x) (fun it1 s₅ =>
              codeAny (model prog w) A (.compStart (.SetComp el [⟨ta, ia, fa, 0⟩, ⟨tb, ib, fb, 0⟩] sco pos) 1 it1 ac env) (fun r s' => match r with
                | .ok _ => ∃ m, m < n ∧ I m s'
                | .error _ => False) s₅) (notedBy (model prog w) A env fun e s' => R (.error e) s') s₄) (notedBy (model prog w) A env fun e s' => R (.error e) s') s₃
            else ∃ m, m < n ∧ I m s₃) (notedBy (model prog w) A env fun e s' => R (.error e) s') s₂) (notedBy (model prog w) A env fun e s' => R (.error e) s') s₁') (notedBy (model prog w) A env fun e s' => R (.error e) s') s₁) (notedBy (model prog w) A env fun e s' => R (.error e) s') s)
    (n : Nat) (h : I n s) :
    codeAny (model prog w) A (.compLoop (.SetComp el [⟨ta, ia, fa, 0⟩, ⟨tb, ib, fb, 0⟩] sco pos) 0 itr ac env) R s := by
  refine codeAny_loop rfl I (fun n s hI => ?_) n h
  show wpAny _ A ((compTurn (.SetComp el [⟨ta, ia, fa, 0⟩, ⟨tb, ib, fb, 0⟩] sco pos) 0 itr ac env).onRaise (fun x => do noteFrame x env; theTreesLotGoes x)) _ _ s
  refine wpAny_noted ?_
  rw [compTurnS2_out]
  refine wpAny_bind (wpAny_standAt (wpAny_bind (wpAny_mono (trn n s hI) (fun r s₁ h₁ => ?_) fun _ _ h' => h')))
  cases r with
  | none => exact wpAny_pure h₁
  | some v =>
    refine wpAny_bind (wpAny_mono h₁ (fun _ s₁' h₁' => ?_) fun _ _ h' => h')
    refine wpAny_bind (wpAny_mono h₁' (fun _ s₂ h₂ => wpAny_bind (wpAny_mono h₂ (fun ok s₃ h₃ => ?_) fun _ _ h' => h')) fun _ _ h' => h')
    cases ok with
    | false => exact wpAny_pure ⟨rfl, h₃⟩
    | true =>
      refine wpAny_bind (wpAny_mono h₃ (fun x s₄ h₄ => ?_) fun _ _ h' => h')
      refine wpAny_bind (wpAny_standAt (wpAny_bind (wpAny_of_eq (hs x) (wpAny_bind (wpAny_holding (wpAny_mono h₄ (fun it1 s₅ h₅ => ?_) fun _ _ h' => h'))))))
      refine wpAny_bind (wpAny_runOwn ?_)
      rw [Around.mark_none]
      refine codeAny_mono h₅ fun r s' hr => ?_
      cases r with
      | ok f =>
        first
          | exact wpAny_pure ⟨rfl, hr⟩
          | exact wpAny_bind (wpAny_pure (wpAny_pure ⟨rfl, hr⟩))
      | error e => exact hr.elim
/-- the loop of the second -/
theorem compLoopS2_in (I : Nat → Shared → Prop)
    (trn : ∀ n s, I n s → wpAny (model prog w) A (pyNext itr) (fun r s₁ => match r with
      | none => R (.ok .next) s₁
      | some v => wpAny (model prog w) A (letOwnedTupleGo tb itr v) (fun _ s₁' => wpAny (model prog w) A (assign tb env v) (fun _ s₂ =>
          wpAny (model prog w) A (forIn fb true fun c r => if r = true then do let ok ← isTrue c env (eval c env); pure (ForInStep.yield ok) else pure (ForInStep.yield r)) (fun ok s₃ =>
            if ok = true then wpAny (model prog w) A (eval el env) (fun x s₄ =>
              wpAny (model prog w) A (call (.builtin "set.add") [ac, x]) (fun _ s₅ => ∃ m, m < n ∧ I m s₅) (notedBy (model prog w) A env fun e s' => R (.error e) s') s₄) (notedBy (model prog w) A env fun e s' => R (.error e) s') s₃
            else ∃ m, m < n ∧ I m s₃) (notedBy (model prog w) A env fun e s' => R (.error e) s') s₂) (notedBy (model prog w) A env fun e s' => R (.error e) s') s₁') (notedBy (model prog w) A env fun e s' => R (.error e) s') s₁) (notedBy (model prog w) A env fun e s' => R (.error e) s') s)
    (n : Nat) (h : I n s) :
    codeAny (model prog w) A (.compLoop (.SetComp el [⟨ta, ia, fa, 0⟩, ⟨tb, ib, fb, 0⟩] sco pos) 1 itr ac env) R s := by
  refine codeAny_loop rfl I (fun n s hI => ?_) n h
  show wpAny _ A ((compTurn (.SetComp el [⟨ta, ia, fa, 0⟩, ⟨tb, ib, fb, 0⟩] sco pos) 1 itr ac env).onRaise (fun x => do noteFrame x env; theTreesLotGoes x)) _ _ s
  refine wpAny_noted ?_
  rw [compTurnS2_in]
  refine wpAny_bind (wpAny_standAt (wpAny_bind (wpAny_mono (trn n s hI) (fun r s₁ h₁ => ?_) fun _ _ h' => h')))
  cases r with
  | none => exact wpAny_pure h₁
  | some v =>
    refine wpAny_bind (wpAny_mono h₁ (fun _ s₁' h₁' => ?_) fun _ _ h' => h')
    refine wpAny_bind (wpAny_mono h₁' (fun _ s₂ h₂ => wpAny_bind (wpAny_mono h₂ (fun ok s₃ h₃ => ?_) fun _ _ h' => h')) fun _ _ h' => h')
    cases ok with
    | false => exact wpAny_pure ⟨rfl, h₃⟩
    | true =>
      exact wpAny_bind (wpAny_bind (wpAny_mono h₃ (fun x s₄ h₄ => wpAny_bind (wpAny_standAt (wpAny_bind (wpAny_mono h₄ (fun _ s₅ h₅ => wpAny_pure (wpAny_pure ⟨rfl, h₅⟩)) fun _ _ h' => h')))) fun _ _ h' => h'))
/-- the second clause's start -/
theorem compStartS1_ok (h0 : codeAny (model prog w) A (.compLoop (.SetComp el [⟨ta, ia, fa, 0⟩, ⟨tb, ib, fb, 0⟩] sco pos) 1 itr ac env) R s)
    (h : wpAny (model prog w) A (pyIter itr) (fun it' s' => codeAny (model prog w) A (.compLoop (.SetComp el [⟨ta, ia, fa, 0⟩, ⟨tb, ib, fb, 0⟩] sco pos) 1 it' ac env) R s')
      (notedBy (model prog w) A env fun x s' => R (.error x) s') s) :
    codeAny (model prog w) A (.compStart (.SetComp el [⟨ta, ia, fa, 0⟩, ⟨tb, ib, fb, 0⟩] sco pos) 1 itr ac env) R s := by
  refine codeAny_of_tree ?_
  show wpAny _ _ ((compStart (.SetComp el [⟨ta, ia, fa, 0⟩, ⟨tb, ib, fb, 0⟩] sco pos) 1 itr ac env).onRaise (fun x => do noteFrame x env; standAt theWindowsPlace)) _ _ s
  refine wpAny_notedAt ?_
  unfold compStart
  show wpAny _ _ (ask >>= _) _ _ s
  refine wpAny_bind (wpAny_askSetting (wpAny_ite ?_))
  split
  · first
      | exact wpAny_bind (wpAny_pure (wpAny_pure (And.intro rfl h0)))
      | exact wpAny_pure (And.intro rfl h0)
  · first
      | exact wpAny_bind (wpAny_rule (wpAny_bind (wpAny_standAt (wpAny_bind (wpAny_mono h (fun it' s' h' => wpAny_pure (And.intro rfl h')) fun _ _ x => x)))))
      | (refine wpAny_bind (wpAny_rule ?_); show wpAny _ _ (standAt ib.pos >>= _) _ _ s; exact wpAny_bind (wpAny_standAt (wpAny_bind (wpAny_mono h (fun it' s' h' => wpAny_pure (And.intro rfl h')) fun _ _ x => x))))
end

section
variable {X : Cx}
/-- [el for tg in ita if .. for tgb in itb if ..]: behind the first clause's store and tests the second source's own loop, from which Nx is reached. vs: the block's names; vs1: those of the second target -/
def tSc2 (P : Program) (w : World) (wi : TI) (g : TG) (tt : TT) (wib : TI) (gb : TG) (ttb : TT) (te : TE) (vs vs1 : List Nat) : TE := fun σ H Q => wi σ H fun J H1 => ∀ D, H1 D = none → ∃ W : Nat → Nat → Hp → Prop, (∃ m, W 0 m (upd H1 D (SetQ P w D (fun _ => false) 0))) ∧ ∀ i m H, W i m H →
  (J.stop i H ∧ Q (.ref D) H) ∨ (J.go i H ∧ ∃ Nx : Hp → Prop, (∀ H', Nx H' → ∃ m', m' < m ∧ W (i + 1) m' H') ∧ ∀ x H', J.yld i H x H' → g x (wipe σ vs) H' fun σ2 H2 => wipe σ2 vs = wipe σ vs ∧ tt σ2 H2 fun b H3 =>
    if b = true then ∃ (d : Addr) (u : HO), H3 d = some u ∧ Mut (some u) ∧ ∀ od, wib σ2 (upd H3 d (.frz od u)) fun J1 H4 => ∃ W1 : Nat → Nat → Hp → Prop, (∃ m, W1 0 m H4) ∧ ∀ j k H, W1 j k H →
      (J1.stop j H ∧ H d = some (.frz od u) ∧ Nx (upd H d u)) ∨ (J1.go j H ∧ ∃ Nx1 : Hp → Prop, (∀ H', Nx1 H' → ∃ k', k' < k ∧ W1 (j + 1) k' H') ∧ ∀ x H', J1.yld j H x H' → gb x (wipe σ2 vs1) H' fun σ3 H5 => wipe σ3 vs1 = wipe σ2 vs1 ∧ ttb σ3 H5 fun b H6 =>
        if b = true then te σ3 H6 fun y H7 => ∃ (k : Key) (T : Key → Bool) (n : Nat), y = kV k ∧ H7 D = some (SetQ P w D T n) ∧ n + 1 < scanBound ∧ Nx1 (upd H7 D (SetQ P w D (fun k' => T k' || decide (k' = k)) (if T k = true then n else n + 1))) else Nx1 H6)
    else Nx H3)
theorem sc2_core {pins : List (Addr × Obj)} {s : Shared} {σ : L2.St} {H : Hp} {Q : VK} {el tg ita tgb itb : Expr} {fs fb : List Expr} {sco : Scope} {own : List (Str × Nat)} {vs1 : List Nat} {pos pos' : Pos} {wi wib : TI} {g gb : TG} {tt ttb : TT} {te : TE} {use : Option (Value → Sem Unit)} {Qf : Value → Shared → Prop}
    (hc : X.calm = true) (hN : X.N.Nodup) (I : Inv X pins σ H s) (hi : PI X tg ita wi) (ok : BlkOk X.N X.env.scope sco own) (hv : ∀ i ∈ vs1, i ∈ own.map (·.2))
    (hg : ∀ (s : Shared) (H : Hp) (C : Addr) (cl : List (Str × Addr)) (fp : List Addr), PG (X.blk s H sco (compEnvC sco cl C X.env) fp) tg g) (ht : ∀ (s : Shared) (H : Hp) (C : Addr) (cl : List (Str × Addr)) (fp : List Addr), PTs (X.blk s H sco (compEnvC sco cl C X.env) fp) fs tt)
    (he : ∀ (s : Shared) (H : Hp) (C : Addr) (cl : List (Str × Addr)) (fp : List Addr), PE (X.blk s H sco (compEnvC sco cl C X.env) fp) el te) (hs : ∀ x, foldedSetIterable ita X.env x = pure x)
    (hi1 : ∀ (s : Shared) (H : Hp) (C : Addr) (cl : List (Str × Addr)) (fp : List Addr), PI (X.blk s H sco (compEnvC sco cl C X.env) fp) tgb itb wib)
    (hg1 : ∀ (s : Shared) (H : Hp) (C : Addr) (cl : List (Str × Addr)) (fp : List Addr), PG (X.blk s H sco (compEnvC sco cl C X.env) fp) tgb gb)
    (ht1 : ∀ (s : Shared) (H : Hp) (C : Addr) (cl : List (Str × Addr)) (fp : List Addr), PTs (X.blk s H sco (compEnvC sco cl C X.env) fp) fb ttb)
    (hs1 : ∀ env x, foldedSetIterable itb env x = pure x)
    (h : tSc2 X.prog X.w wi g tt wib gb ttb te (own.map (·.2)) vs1 σ H Q)
    (hRR : ∀ D C s' m H', Inv X pins σ H' s' → Q (.ref D) H' → s'.heap.Ns C m → FpOk X pins H' C → compPost (model X.prog X.w) X.A X.xe use Qf (.ref D) C (.ok .next) s') :
    wpAny (model X.prog X.w) X.A (comprehension (.SetComp el [⟨tg, ita, fs, 0⟩, ⟨tgb, itb, fb, 0⟩] sco pos) sco X.env pos' (newSet (.type "set")) false (eval ita X.env) use) Qf X.xe s := by
  have freeC : ∀ y ∈ sco.names, y.2 = .free → ∃ c, X.env.cells.lookup y.1 = some c := fun y hy e => by
    rcases ok.free y hy e with k | k
    · exact I.ok.has _ (.inl k)
    · exact I.ok.has _ (.inr k)
  refine wpAny_comprehension_free (use := use) rfl hs (closure_ok freeC) ok.kind (fun y hy e => by rw [ok.uniq y hy, e])
    (thn (hi.run pins s σ H _ I h) fun xv s1 hx => thn hx fun itv s2 h2 => ?_)
  obtain ⟨itr, fp, tn, J, H2, e, I2, T, st2, f2, q⟩ := h2
  subst e
  refine newSetQ_ok (newEnv_comp ?_)
  generalize hD : s2.heap.objs.size = D
  have hDn : H2 D = none := I2.hok.fresh (Nat.le_of_eq hD)
  obtain ⟨W, ⟨m0, w0⟩, trn⟩ := q D hDn
  -- the new list
  generalize hs3 : ({ s2 with heap := s2.heap.push (newSetQ X.w) } : Shared) = s3
  have I3 : Inv X pins σ (upd H2 D (SetQ X.prog X.w D (fun _ => false) 0)) s3 := by
    rw [← hs3]
    refine I2.laid (t' := s2.toks) (fun b o e => Heap.get?_push_of_some _ e) (Nat.le_of_eq hD) ?_
    rw [← hD]
    exact setQ_new (kr_fresh X.prog X.w)
  have h3 : s3.heap = s2.heap.push (newSetQ X.w) := by rw [← hs3]
  have sz : ∀ b ∈ fp, b < s2.heap.objs.size := fun b hb => by
    obtain ⟨o, e, _⟩ := T.obj _ _ st2 b hb
    exact Heap.lt_size e
  have f3 : ∀ b ∈ fp, FpOk X pins (upd H2 D (SetQ X.prog X.w D (fun _ => false) 0)) b ∧ b < s3.heap.objs.size := fun b hb => by
    have hlt := sz b hb
    refine ⟨⟨?_, (f2 b hb).2⟩, by rw [h3, Heap.size_push]; exact Nat.lt_succ_of_lt hlt⟩
    rw [upd_ne (by rw [← hD]; exact Nat.ne_of_lt hlt)]
    exact (f2 b hb).1
  have st3 : tn 0 s3.heap := T.keep _ _ _ st2 fun b _ o e => by rw [h3]; exact Heap.get?_push_of_some _ e
  have I4 := block_start I3 ok hN f3
  have qg := hg s3 (upd H2 D (SetQ X.prog X.w D (fun _ => false) 0)) s3.heap.objs.size (cellsFrom (s3.heap.objs.size + 1) sco.names (cloFrom X.env.cells sco.names [])) fp
  have qt := ht s3 (upd H2 D (SetQ X.prog X.w D (fun _ => false) 0)) s3.heap.objs.size (cellsFrom (s3.heap.objs.size + 1) sco.names (cloFrom X.env.cells sco.names [])) fp
  have qe := he s3 (upd H2 D (SetQ X.prog X.w D (fun _ => false) 0)) s3.heap.objs.size (cellsFrom (s3.heap.objs.size + 1) sco.names (cloFrom X.env.cells sco.names [])) fp
  have qib := hi1 s3 (upd H2 D (SetQ X.prog X.w D (fun _ => false) 0)) s3.heap.objs.size (cellsFrom (s3.heap.objs.size + 1) sco.names (cloFrom X.env.cells sco.names [])) fp
  have qgb := hg1 s3 (upd H2 D (SetQ X.prog X.w D (fun _ => false) 0)) s3.heap.objs.size (cellsFrom (s3.heap.objs.size + 1) sco.names (cloFrom X.env.cells sco.names [])) fp
  have qtb := ht1 s3 (upd H2 D (SetQ X.prog X.w D (fun _ => false) 0)) s3.heap.objs.size (cellsFrom (s3.heap.objs.size + 1) sco.names (cloFrom X.env.cells sco.names [])) fp
  show codeAny _ _ (.compStart (.SetComp el [⟨tg, ita, fs, 0⟩, ⟨tgb, itb, fb, 0⟩] sco pos) 0 (.ref itr) (.ref D) (compEnvC sco (cellsFrom (s3.heap.objs.size + 1) sco.names (cloFrom X.env.cells sco.names [])) s3.heap.objs.size X.env)) (compPost (model X.prog X.w) X.A X.xe use Qf (.ref D) s3.heap.objs.size) { s3 with heap := pushCells (s3.heap.push { cls := .type "dict", data := .dict #[] }) sco.names }
  have noFp : ∀ b ∈ fp, (upd H2 D (SetQ X.prog X.w D (fun _ => false) 0)) b = none := fun b hb => (f3 b hb).1.1
  generalize hce : compEnvC sco (cellsFrom (s3.heap.objs.size + 1) sco.names (cloFrom X.env.cells sco.names [])) s3.heap.objs.size X.env = ce at I4 qg qt qe qib qgb qtb ⊢
  have cL : ce.locals = s3.heap.objs.size := by subst hce; rfl
  generalize hH3 : upd H2 D (SetQ X.prog X.w D (fun _ => false) 0) = H3 at I3 I4 qg qt qe qib qgb qtb w0 noFp f3
  generalize hs4 : ({ s3 with heap := pushCells (s3.heap.push { cls := .type "dict", data := .dict #[] }) sco.names } : Shared) = s4 at I4 ⊢
  have st4 : tn 0 s4.heap := T.keep _ _ _ st3 fun b _ o e => by rw [← hs4]; exact pushCells_keeps _ _ _ _ (Heap.get?_push_of_some _ e)
  have still : ∀ {σ' : L2.St} {H' : Hp} {s' : Shared}, Inv (X.blk s3 H3 sco ce fp) [] σ' H' s' → (∀ b ∈ fp, H' b = none) → ∀ b ∈ fp, FpOk (X.blk s3 H3 sco ce fp) [] H' b := fun {σ' H' s'} I' hn b hb =>
    ⟨hn b hb, (I'.ok.exf b hb).1, I'.ok.exfs b hb, .inl hb, fun x c e => (I'.ok.exf b hb).2 x c e, fun p hp => absurd (show p ∈ ([] : List (Addr × Obj)) ++ [] from hp) (by simp)⟩
  have loop : codeAny (model X.prog X.w) X.A (.compLoop (.SetComp el [⟨tg, ita, fs, 0⟩, ⟨tgb, itb, fb, 0⟩] sco pos) 0 (.ref itr) (.ref D) ce) (compPost (model X.prog X.w) X.A X.xe use Qf (.ref D) s3.heap.objs.size) s4 := by
    refine compLoopS2_out (hs1 ce) (fun n s' => ∃ i H', Inv (X.blk s3 H3 sco ce fp) [] (wipe σ (own.map (·.2))) H' s' ∧ tn i s'.heap ∧ (∀ b ∈ fp, H' b = none) ∧ W i n H') ?_ m0 ⟨0, H3, I4, st4, noFp, w0⟩
    rintro n s5 ⟨i, H5, I5, st5, n5, w5⟩
    rcases trn i n H5 w5 with ⟨stop, qq⟩ | ⟨go, Nx, hNx, step⟩
    · have td := T.done (X.blk s3 H3 sco ce fp) rfl rfl rfl hc i [] s5 _ H5 (fun _ _ => False) I5 (still I5 n5) st5 stop
      refine thnF td fun r s6 ⟨hr, I6⟩ => ?_
      subst hr
      -- back in the def's context
      have I7 : Inv X pins σ H5 s6 := I3.call' (ch := fp) I6.os I6.base I6.hok I6.bare fun b hb => ⟨(f3 b hb).1.2.2.2.1, (f3 b hb).1.2.1, (f3 b hb).1.2.2.2.2.1, (f3 b hb).1.2.2.2.2.2⟩
      have nC : H5 s3.heap.objs.size = none := by
        have z : H5 ce.locals = none := I6.free
        rw [cL] at z
        exact z
      obtain ⟨m, hn, _⟩ := I6.loc
      have hn : s6.heap.Ns ce.locals m := hn
      rw [cL] at hn
      exact hRR D s3.heap.objs.size s6 m H5 I7 qq hn (I3.fpOk (Nat.le_refl _) nC)
    · have ti := T.item (X.blk s3 H3 sco ce fp) rfl rfl rfl hc i [] s5 _ H5 (fun _ _ => False) I5 (still I5 n5) st5 go
      refine thnF ti fun r s6 ⟨u, hr, h6⟩ => ?_
      subst hr
      refine thnF h6 fun _ s7 ⟨x, H7, I7, r7, y7, st7, n7⟩ => ?_
      have I7' := I7.pinned (still I7 n7) (T.obj _ _ st7)
      refine thnF (qg.run _ s7 _ H7 x u _ I7' r7 (step x H7 y7)) fun _ s8 ⟨σ8, H8, I8, hw8, q8⟩ => ?_
      refine thnF (qt.run _ s8 σ8 H8 _ I8 q8) fun b s9 ⟨H9, I9, q9⟩ => ?_
      -- the turn's end, from any slots that know what the block knew at its start
      have last : ∀ {σ9 : L2.St} {s' : Shared} {H' : Hp}, Inv (X.blk s3 H3 sco ce fp) ([] ++ pinsAt fp s7.heap) σ9 H' s' → (wipe σ (own.map (·.2))).length = σ9.length → (∀ (j : Nat) v, (wipe σ (own.map (·.2)))[j]? = some (some v) → σ9[j]? = some (some v)) → Nx H' →
          ∃ m, m < n ∧ ∃ i H', Inv (X.blk s3 H3 sco ce fp) [] (wipe σ (own.map (·.2))) H' s' ∧ tn i s'.heap ∧ (∀ b ∈ fp, H' b = none) ∧ W i m H' := fun {σ9 s' H'} I' hl hk nx => by
        obtain ⟨m', hm, w'⟩ := hNx H' nx
        have pin' : ∀ b ∈ fp, ∀ o, s7.heap.get? b = some o → s'.heap.get? b = some o ∧ H' b = none := fun b hb o e =>
          let z := I'.pin (b, o) (List.mem_append_right _ (List.mem_append_right _ (mem_pinsAt hb e)))
          ⟨z.1, z.2.1⟩
        refine ⟨m', hm, i + 1, H', (I'.unpinned (pins := [])).weak hl hk, T.keep _ _ _ st7 fun b hb o e => (pin' b hb o e).1, fun b hb => ?_, w'⟩
        obtain ⟨o, e, _⟩ := T.obj _ _ st7 b hb
        exact (pin' b hb o e).2
      have hl8 : (wipe σ (own.map (·.2))).length = σ8.length := by rw [← hw8, wipe_length]
      have hk8 : ∀ (j : Nat) v, (wipe σ (own.map (·.2)))[j]? = some (some v) → σ8[j]? = some (some v) := fun j v e => by
        rw [← hw8] at e
        exact (wipe_some e).1
      have hk9 : ∀ (j : Nat) v, (wipe σ (own.map (·.2)))[j]? = some (some v) → (wipe σ8 vs1)[j]? = some (some v) := fun j v e => by
        rw [← hw8] at e
        obtain ⟨e1, e2⟩ := wipe_some e
        rw [wipe_out fun z => e2 (hv j z)]
        exact e1
      cases b with
      | false =>
        simp only [Bool.false_eq_true, if_false] at q9 ⊢
        exact last I9 hl8 hk8 q9
      | true =>
        simp only [if_true] at q9 ⊢
        obtain ⟨dl, ul, hdl, mul, q9⟩ := q9
        have nfz := I9.nofrz hdl mul
        obtain ⟨odl, I9⟩ := I9.lock hdl mul
        refine thnF (qib.run _ s9 σ8 _ _ I9 (q9 odl)) fun xv s10 hx => thnF hx fun itv s11 h11 => ?_
        obtain ⟨it1, fp1, tn1, J1, H11, e1, I11, T1, st11, f11, W1, ⟨m1, w1⟩, trn1⟩ := h11
        subst e1
        -- the inner loop
        have still1 : ∀ {H' : Hp}, (∀ b ∈ fp1, H' b = none) → ∀ b ∈ fp1, FpOk (X.blk s3 H3 sco ce fp) ([] ++ pinsAt fp s7.heap) H' b := fun hn b hb => ⟨hn b hb, (f11 b hb).2⟩
        have loop1 : codeAny (model X.prog X.w) X.A (.compLoop (.SetComp el [⟨tg, ita, fs, 0⟩, ⟨tgb, itb, fb, 0⟩] sco pos) 1 (.ref it1) (.ref D) ce)
            (fun r s' => match r with
              | .ok _ => ∃ m, m < n ∧ ∃ i H', Inv (X.blk s3 H3 sco ce fp) [] (wipe σ (own.map (·.2))) H' s' ∧ tn i s'.heap ∧ (∀ b ∈ fp, H' b = none) ∧ W i m H'
              | .error _ => False) s11 := by
          refine compLoopS2_in (fun k s' => ∃ j H', Inv (X.blk s3 H3 sco ce fp) ([] ++ pinsAt fp s7.heap) (wipe σ8 vs1) H' s' ∧ tn1 j s'.heap ∧ (∀ b ∈ fp1, H' b = none) ∧ W1 j k H') ?_ m1 ⟨0, H11, I11.weak (wipe_length _ _) (fun j v e => (wipe_some e).1), st11, fun b hb => (f11 b hb).1, w1⟩
          rintro k s12 ⟨j, H12, I12, st12, n12, w12⟩
          rcases trn1 j k H12 w12 with ⟨stop1, lk1, nx1⟩ | ⟨go1, Nx1, hNx1, step1⟩
          · refine thnF (T1.done (X.blk s3 H3 sco ce fp) rfl rfl rfl hc j _ s12 (wipe σ8 vs1) H12 (fun _ _ => False) I12 (still1 n12) st12 stop1) fun r s13 ⟨hr, I13⟩ => ?_
            subst hr
            exact last (I13.unlock lk1 nfz) (hl8.trans (wipe_length σ8 vs1).symm) hk9 nx1
          · refine thnF (T1.item (X.blk s3 H3 sco ce fp) rfl rfl rfl hc j _ s12 (wipe σ8 vs1) H12 (fun _ _ => False) I12 (still1 n12) st12 go1) fun r s13 ⟨u1, hr, h13⟩ => ?_
            subst hr
            refine thnF h13 fun _ s14 ⟨x1, H14, I14, r14, y14, st14, n14⟩ => ?_
            have I14' := I14.pinned (still1 n14) (T1.obj _ _ st14)
            refine thnF (qgb.run _ s14 (wipe σ8 vs1) H14 x1 u1 _ I14' r14 (step1 x1 H14 y14)) fun _ s15 ⟨σ15, H15, I15, hw15, q15⟩ => ?_
            refine thnF (qtb.run _ s15 σ15 H15 _ I15 q15) fun b1 s16 ⟨H16, I16, q16⟩ => ?_
            have last1 : ∀ {s' : Shared} {H' : Hp}, Inv (X.blk s3 H3 sco ce fp) (([] ++ pinsAt fp s7.heap) ++ pinsAt fp1 s14.heap) σ15 H' s' → Nx1 H' → ∃ m, m < k ∧ ∃ j H', Inv (X.blk s3 H3 sco ce fp) ([] ++ pinsAt fp s7.heap) (wipe σ8 vs1) H' s' ∧ tn1 j s'.heap ∧ (∀ b ∈ fp1, H' b = none) ∧ W1 j m H' := fun {s' H'} I' nx => by
              obtain ⟨m', hm, w'⟩ := hNx1 H' nx
              have pin' : ∀ b ∈ fp1, ∀ o, s14.heap.get? b = some o → s'.heap.get? b = some o ∧ H' b = none := fun b hb o e =>
                let z := I'.pin (b, o) (List.mem_append_right _ (List.mem_append_right _ (mem_pinsAt hb e)))
                ⟨z.1, z.2.1⟩
              refine ⟨m', hm, j + 1, H', I'.unpinned.weak (by rw [← hw15, wipe_length]) (fun j v e => by rw [← hw15] at e; exact (wipe_some e).1), T1.keep _ _ _ st14 fun b hb o e => (pin' b hb o e).1, fun b hb => ?_, w'⟩
              obtain ⟨o, e, _⟩ := T1.obj _ _ st14 b hb
              exact (pin' b hb o e).2
            cases b1 with
            | false =>
              simp only [Bool.false_eq_true, if_false] at q16 ⊢
              exact last1 I16 q16
            | true =>
              simp only [if_true] at q16 ⊢
              refine thnF (qe.run _ s16 σ15 H16 _ I16 q16) fun z s17 ⟨yv, H17, I17, r17, k0, T0, n0, ek0, hD17, hz17, nx⟩ => ?_
              subst ek0
              exact addQ_ok (X := X.blk s3 H3 sco ce fp) I17 hD17 r17 hz17 fun s18 I18 => last1 I18 nx
        exact compStartS1_ok loop1 (T1.self X.A 0 _ _ _ st11 loop1)
  exact PpSet.codeAny_compStart_set loop (T.self X.A 0 _ _ _ st4 loop)
/-- as a value -/
theorem pe_sc2 {el tg ita tgb itb : Expr} {fs fb : List Expr} {sco : Scope} {own : List (Str × Nat)} {vs1 : List Nat} {pos : Pos} {wi wib : TI} {g gb : TG} {tt ttb : TT} {te : TE} (hc : X.calm = true) (hN : X.N.Nodup) (hi : PI X tg ita wi) (ok : BlkOk X.N X.env.scope sco own) (hv : ∀ i ∈ vs1, i ∈ own.map (·.2))
    (hg : ∀ (s : Shared) (H : Hp) (C : Addr) (cl : List (Str × Addr)) (fp : List Addr), PG (X.blk s H sco (compEnvC sco cl C X.env) fp) tg g) (ht : ∀ (s : Shared) (H : Hp) (C : Addr) (cl : List (Str × Addr)) (fp : List Addr), PTs (X.blk s H sco (compEnvC sco cl C X.env) fp) fs tt)
    (hi1 : ∀ (s : Shared) (H : Hp) (C : Addr) (cl : List (Str × Addr)) (fp : List Addr), PI (X.blk s H sco (compEnvC sco cl C X.env) fp) tgb itb wib)
    (hg1 : ∀ (s : Shared) (H : Hp) (C : Addr) (cl : List (Str × Addr)) (fp : List Addr), PG (X.blk s H sco (compEnvC sco cl C X.env) fp) tgb gb) (ht1 : ∀ (s : Shared) (H : Hp) (C : Addr) (cl : List (Str × Addr)) (fp : List Addr), PTs (X.blk s H sco (compEnvC sco cl C X.env) fp) fb ttb)
    (he : ∀ (s : Shared) (H : Hp) (C : Addr) (cl : List (Str × Addr)) (fp : List Addr), PE (X.blk s H sco (compEnvC sco cl C X.env) fp) el te) (hs : ∀ x, foldedSetIterable ita X.env x = pure x := by intro _; rfl) (hs1 : ∀ env x, foldedSetIterable itb env x = pure x := by intro _ _; rfl) :
    PE X (.SetComp el [⟨tg, ita, fs, 0⟩, ⟨tgb, itb, fb, 0⟩] sco pos) (tSc2 X.prog X.w wi g tt wib gb ttb te (own.map (·.2)) vs1) := by
  refine ⟨fun pins s σ H Q I h => ?_⟩
  rw [PpSet.eval_SetComp]
  refine sc2_core hc hN I hi ok hv hg ht he hs hi1 hg1 ht1 hs1 h fun D C s' m H' I' q hn f => ⟨m, hn, fun h'' sb => ?_⟩
  obtain ⟨f0, f1, f2, f3, f4, f5⟩ := f
  exact ⟨.ref D, H', I'.turned (t' := s'.toks) (fun b o hb e => (sb.2 b hb).trans e) f0 f1 f3 f4 f5, rfl, q⟩
theorem ps_setSc2 {i : Nat} {y : Str} {py : Pos} {el tg ita tgb itb : Expr} {fs fb : List Expr} {sco : Scope} {own : List (Str × Nat)} {vs1 : List Nat} {pos spos : Pos} {wi wib : TI} {g gb : TG} {tt ttb : TT} {te : TE} (hc : X.calm = true) (hN : X.N.Nodup) (hy : X.N[i]? = some y) (hyl : X.env.scope.names.lookup y = some .local)
    (hsw : swapsWith (.SetComp el [⟨tg, ita, fs, 0⟩, ⟨tgb, itb, fb, 0⟩] sco pos) (some (.Name y py)) spos.line X.env = pure true) (hi : PI X tg ita wi) (ok : BlkOk X.N X.env.scope sco own) (hv : ∀ i ∈ vs1, i ∈ own.map (·.2))
    (hg : ∀ (s : Shared) (H : Hp) (C : Addr) (cl : List (Str × Addr)) (fp : List Addr), PG (X.blk s H sco (compEnvC sco cl C X.env) fp) tg g) (ht : ∀ (s : Shared) (H : Hp) (C : Addr) (cl : List (Str × Addr)) (fp : List Addr), PTs (X.blk s H sco (compEnvC sco cl C X.env) fp) fs tt)
    (hi1 : ∀ (s : Shared) (H : Hp) (C : Addr) (cl : List (Str × Addr)) (fp : List Addr), PI (X.blk s H sco (compEnvC sco cl C X.env) fp) tgb itb wib)
    (hg1 : ∀ (s : Shared) (H : Hp) (C : Addr) (cl : List (Str × Addr)) (fp : List Addr), PG (X.blk s H sco (compEnvC sco cl C X.env) fp) tgb gb) (ht1 : ∀ (s : Shared) (H : Hp) (C : Addr) (cl : List (Str × Addr)) (fp : List Addr), PTs (X.blk s H sco (compEnvC sco cl C X.env) fp) fb ttb)
    (he : ∀ (s : Shared) (H : Hp) (C : Addr) (cl : List (Str × Addr)) (fp : List Addr), PE (X.blk s H sco (compEnvC sco cl C X.env) fp) el te) (hs : ∀ x, foldedSetIterable ita X.env x = pure x := by intro _; rfl) (hs1 : ∀ env x, foldedSetIterable itb env x = pure x := by intro _ _; rfl) :
    PS X (.Assign [.Name y py] (.SetComp el [⟨tg, ita, fs, 0⟩, ⟨tgb, itb, fb, 0⟩] sco pos) spos) (tAsg (tSc2 X.prog X.w wi g tt wib gb ttb te (own.map (·.2)) vs1) (gName i)) := by
  refine ⟨fun pins s σ H D I h => ?_⟩
  rw [exec_Assign_Name_used _ _ _ _ hsw]
  refine wpAny_bind (wpAny_standAt (wpAny_bind ?_))
  show wpAny _ X.A (do let _ ← comprehension (.SetComp el [⟨tg, ita, fs, 0⟩, ⟨tgb, itb, fb, 0⟩] sco pos) sco X.env (firstIterPos [⟨tg, ita, fs, 0⟩, ⟨tgb, itb, fb, 0⟩] pos) (newSet (.type "set")) false (eval ita X.env) (some (assign (.Name y py) X.env))) _ _ s
  have h : tSc2 X.prog X.w wi g tt wib gb ttb te (own.map (·.2)) vs1 σ H (fun x H1 => gName i x σ H1 D.nx) := h
  refine wpAny_bind (thn (sc2_core (Qf := fun _ s' => SP X pins D .next s') hc hN I hi ok hv hg ht he hs hi1 hg1 ht1 hs1 h fun L C s' m H' I' q hn f => ?_) fun _ s' hq => wpAny_pure (wpAny_pure hq))
  show wpAny _ _ (assign (.Name y py) X.env (.ref L)) _ _ _
  refine wpAny_assign_Name (store_ok2 (v := V.ref L) I' hN hy (.inl hyl) rfl (fun s2 I2 ⟨a, sb, ha⟩ => ?_) (.inr hyl))
  obtain ⟨f0, f1, f2, f3, f4, f5⟩ := f
  have haC : C ≠ a := by
    rcases ha with z | z
    · rw [z]; exact f1
    · exact fun e => f4 y a z e.symm
  refine ⟨m, hn.sameBut sb haC, fun h3 sb3 => ?_⟩
  exact ⟨_, H', I2.turned (t' := s2.toks) (fun b o hb e => (sb3.2 b hb).trans e) f0 f1 f3 f4 f5, q⟩

end
/-! ### {k for d in ds for k in d}: ds a list of dicts -/
def kSc2 (P : Program) (w : World) (J : It) (g : TG) (tt : TT) (wi1 : TI) (g1 : TG) (tt1 : TT) (te : TE) (vs vs1 : List Nat) (σ : L2.St) (H1 : Hp) (Q : VK) : Prop := ∀ D, H1 D = none → ∃ W : Nat → Nat → Hp → Prop, (∃ m, W 0 m (upd H1 D (SetQ P w D (fun _ => false) 0))) ∧ ∀ i m H, W i m H →
  (J.stop i H ∧ Q (.ref D) H) ∨ (J.go i H ∧ ∃ Nx : Hp → Prop, (∀ H', Nx H' → ∃ m', m' < m ∧ W (i + 1) m' H') ∧ ∀ x H', J.yld i H x H' → g x (wipe σ vs) H' fun σ2 H2 => wipe σ2 vs = wipe σ vs ∧ tt σ2 H2 fun b H3 =>
    if b = true then ∃ (d : Addr) (u : HO), H3 d = some u ∧ Mut (some u) ∧ ∀ od, wi1 σ2 (upd H3 d (.frz od u)) fun J1 H4 => ∃ W1 : Nat → Nat → Hp → Prop, (∃ m, W1 0 m H4) ∧ ∀ j k H, W1 j k H →
      (J1.stop j H ∧ H d = some (.frz od u) ∧ Nx (upd H d u)) ∨ (J1.go j H ∧ ∃ Nx1 : Hp → Prop, (∀ H', Nx1 H' → ∃ k', k' < k ∧ W1 (j + 1) k' H') ∧ ∀ x H', J1.yld j H x H' → g1 x (wipe σ2 vs1) H' fun σ3 H5 => wipe σ3 vs1 = wipe σ2 vs1 ∧ tt1 σ3 H5 fun b H6 =>
        if b = true then te σ3 H6 fun y H7 => ∃ (k : Key) (T : Key → Bool) (n : Nat), y = kV k ∧ H7 D = some (SetQ P w D T n) ∧ n + 1 < scanBound ∧ Nx1 (upd H7 D (SetQ P w D (fun k' => T k' || decide (k' = k)) (if T k = true then n else n + 1))) else Nx1 H6)
    else Nx H3)
def kSc2L (K : PySem.W.Frag) (P : Program) (w : World) (g : TG) (tt : TT) (wi1 : TI) (g1 : TG) (tt1 : TT) (te : TE) (vs vs1 : List Nat) (σ : L2.St) (x : V) (H1 : Hp) (Q : VK) : Prop := ∃ a, x = .ref a ∧ (∃ xs, SqL K H1 a xs) ∧ kSc2 P w (Itl K a) g tt wi1 g1 tt1 te vs vs1 σ H1 Q
theorem g_sc2 {K : PySem.W.Frag} {P : Program} {w : World} {g : TG} {tt : TT} {wi1 : TI} {g1 : TG} {tt1 : TT} {tl te : TE} {vs vs1 : List Nat} {σ : L2.St} {H : Hp} {Q : VK} (q : tl σ H fun x H1 => kSc2L K P w g tt wi1 g1 tt1 te vs vs1 σ x H1 Q) : tSc2 P w (iList K tl) g tt wi1 g1 tt1 te vs vs1 σ H Q := q
/-- the number of entries of the dicts -/
def sumL (kv : Addr → List (Key × V)) : List Addr → Nat
  | [] => 0
  | d :: ds => (kv d).length + sumL kv ds
theorem sumL_app (kv : Addr → List (Key × V)) : ∀ xs ys : List Addr, sumL kv (xs ++ ys) = sumL kv xs + sumL kv ys
  | [], ys => (Nat.zero_add _).symm
  | x :: xs, ys => by
    show (kv x).length + sumL kv (xs ++ ys) = (kv x).length + sumL kv xs + sumL kv ys
    rw [sumL_app kv xs ys]
    omega
theorem sumL_take (kv : Addr → List (Key × V)) (xs : List Addr) (i : Nat) : sumL kv (xs.take i) ≤ sumL kv xs := by
  have := sumL_app kv (xs.take i) (xs.drop i)
  rw [List.take_append_drop] at this
  omega
theorem setQ_frz {P : Program} {w : World} {D : Addr} {T : Key → Bool} {n : Nat} {u : HO} (h : ∀ h', u ≠ .ext h') : SetQ P w D T n ≠ u := fun e => h _ e.symm
theorem k_keysOf {K : PySem.W.Frag} {P : Program} {w : World} {i j : Nat} {σ : L2.St} {F H1 : Hp} {O : Own} {Q : VK} {a : Addr} {ds : List Addr} (hH : Has F O H1) (ha : F a = some (.lst (ds.map V.ref)) ∨ (a, .lst (ds.map V.ref)) ∈ O) (kv : Addr → List (Key × V)) (hd : ∀ d ∈ ds, F d = some (.dK (kv d)))
    (hl : sumL kv ds ≤ 1000) (hi : i < σ.length) (hj : j < σ.length) (ne : i ≠ j)
    (q : ∀ D H' T n, H1 D = none → (∀ k, T k = true ↔ ∃ d ∈ ds, ∃ v, (k, v) ∈ kv d) → n ≤ sumL kv ds → Has F ((D, SetQ P w D T n) :: O) H' → Q (.ref D) H') :
    kSc2L K P w (gName i) tYes (iKeys (tVar i)) (gName j) tYes (tVar j) [i, j] [j] σ (.ref a) H1 Q := by
  have la : ∀ {H' : Hp} {D : Addr} {o : HO}, Has F ((D, o) :: O) H' → H' a = some (.lst (ds.map V.ref)) := fun {H' D o} h => by
    rcases ha with h' | h'
    · exact h.same _ _ h'
    · exact h.get (List.mem_cons_of_mem _ h')
  have la1 : H1 a = some (.lst (ds.map V.ref)) := by
    rcases ha with h' | h'
    · exact hH.same _ _ h'
    · exact hH.get h'
  refine ⟨a, rfl, ⟨_, SqL.of la1⟩, fun D nD => ?_⟩
  refine ⟨fun t m H => m = ds.length - t ∧ t ≤ ds.length ∧ ∃ T n, Has F ((D, SetQ P w D T n) :: O) H ∧ (∀ k, T k = true ↔ ∃ d ∈ ds.take t, ∃ v, (k, v) ∈ kv d) ∧ n ≤ sumL kv (ds.take t),
    ⟨_, rfl, Nat.zero_le _, _, _, hH.new nD, fun k => by simp, Nat.le_refl _⟩, ?_⟩
  rintro t m H ⟨rfl, ht, T, n, hh, hT, hn⟩
  by_cases hlt : t < ds.length
  · have ed : ds[t]? = some ds[t] := List.getElem?_eq_getElem hlt
    generalize ds[t] = d at ed
    have dm := List.mem_of_getElem? ed
    have ex : (ds.map V.ref)[t]? = some (.ref d) := by rw [List.getElem?_map, ed]; rfl
    have tk : ds.take (t + 1) = ds.take t ++ [d] := by rw [List.take_add_one, ed]; rfl
    refine .inr ⟨⟨_, _, SqL.of (la hh), ex⟩, fun H' => ∃ T n, Has F ((D, SetQ P w D T n) :: O) H' ∧ (∀ k, T k = true ↔ ∃ d ∈ ds.take (t + 1), ∃ v, (k, v) ∈ kv d) ∧ n ≤ sumL kv (ds.take (t + 1)), fun H' z => ⟨ds.length - (t + 1), by omega, rfl, hlt, z⟩, ?_⟩
    rintro x H' ⟨rfl, y⟩
    have exx := (y _ (SqL.of (la hh))).symm.trans ex
    injection exx with exx
    subst exx
    have w2 : wipe ((wipe σ [i, j]).set i (some (V.ref d))) [i, j] = wipe σ [i, j] := by
      dsimp only [wipe]
      apply List.ext_getElem?
      intro z
      simp only [List.getElem?_set]
      split <;> split <;> simp_all
    refine ⟨w2, ?_⟩
    refine g_yes (iteT ?_)
    have fd := hd d dm
    have hld := hh.same _ _ fd
    refine ⟨d, _, hld, trivial, fun od => ?_⟩
    have hL := hh.lock (od := od) fd
    have gi : ((wipe σ [i, j]).set i (some (V.ref d)))[i]? = some (some (V.ref d)) := by
      dsimp only [wipe]
      simp [hi]
    refine ⟨.ref d, gi, d, od, rfl, .inl ⟨_, upd_same, ?_⟩⟩
    have lkv : sumL kv (ds.take t) + (kv d).length ≤ 1000 := by
      have h1 := sumL_take kv ds (t + 1)
      rw [tk, sumL_app] at h1
      have h2 : sumL kv [d] = (kv d).length := Nat.add_zero _
      omega
    refine ⟨fun u k H => k = (kv d).length - u ∧ u ≤ (kv d).length ∧ ∃ T n, Has (upd F d (.frz od (.dK (kv d)))) ((D, SetQ P w D T n) :: O) H ∧ (∀ k, T k = true ↔ (∃ d ∈ ds.take t, ∃ v, (k, v) ∈ kv d) ∨ ∃ v, (k, v) ∈ (kv d).take u) ∧ n ≤ sumL kv (ds.take t) + u,
      ⟨_, rfl, Nat.zero_le _, T, n, hL, fun k => by rw [hT k]; simp, by omega⟩, ?_⟩
    rintro u k H ⟨rfl, hu, T, n, hh, hT, hn⟩
    have hfz : H d = some (.frz od (.dK (kv d))) := hh.same _ _ upd_same
    by_cases hul : u < (kv d).length
    · have ep : (kv d)[u]? = some (kv d)[u] := List.getElem?_eq_getElem hul
      generalize (kv d)[u] = p at ep
      have tk2 : (kv d).take (u + 1) = (kv d).take u ++ [p] := by rw [List.take_add_one, ep]; rfl
      refine .inr ⟨⟨hfz, hul⟩, fun H' => ∃ T n, Has (upd F d (.frz od (.dK (kv d)))) ((D, SetQ P w D T n) :: O) H' ∧ (∀ k, T k = true ↔ (∃ d ∈ ds.take t, ∃ v, (k, v) ∈ kv d) ∨ ∃ v, (k, v) ∈ (kv d).take (u + 1)) ∧ n ≤ sumL kv (ds.take t) + (u + 1), fun H' z => ⟨(kv d).length - (u + 1), by omega, rfl, hul, z⟩, ?_⟩
      rintro x H' ⟨rfl, k0, v0, ek, rfl⟩
      rw [ep] at ek
      injection ek with ek
      subst ek
      have w3 : wipe ((wipe ((wipe σ [i, j]).set i (some (V.ref d))) [j]).set j (some (kV k0))) [j] = wipe ((wipe σ [i, j]).set i (some (V.ref d))) [j] := by
        dsimp only [wipe]
        rw [List.set_set]
        rw [List.set_set]
      refine ⟨w3, ?_⟩
      refine g_yes (iteT ?_)
      have gj : ((wipe ((wipe σ [i, j]).set i (some (V.ref d))) [j]).set j (some (kV k0)))[j]? = some (some (kV k0)) := by
        dsimp only [wipe]
        simp [hj]
      refine ⟨_, gj, k0, T, n, rfl, hh.get (List.Mem.head _), by unfold scanBound; omega, _, _, hh.put .hd, fun k' => ?_, ?_⟩
      · rw [Bool.or_eq_true, hT k', decide_eq_true_eq, tk2]
        constructor
        · rintro ((h | ⟨v, h⟩) | h)
          · exact .inl h
          · exact .inr ⟨v, List.mem_append_left _ h⟩
          · subst h
            exact .inr ⟨v0, List.mem_append_right _ (List.mem_singleton.mpr rfl)⟩
        · rintro (h | ⟨v, h⟩)
          · exact .inl (.inl h)
          · rcases List.mem_append.mp h with h | h
            · exact .inl (.inr ⟨v, h⟩)
            · have := List.mem_singleton.mp h
              injection this with e1 e2
              exact .inr e1
      · split <;> omega
    · have e : u = (kv d).length := by omega
      subst e
      refine .inl ⟨⟨hfz, Nat.le_refl _⟩, hfz, ?_⟩
      have hU := hh.unlock (od := od) (u := .dK (kv d)) upd_same
      have eF : upd (upd F d (.frz od (.dK (kv d)))) d (.dK (kv d)) = F := by
        funext b
        by_cases e : b = d
        · subst e
          rw [upd_same, fd]
        · rw [upd_ne e, upd_ne e]
      rw [eF] at hU
      refine ⟨T, n, hU, fun k => ?_, ?_⟩
      · rw [hT k, List.take_length, tk]
        constructor
        · rintro (⟨d', hd', v, h⟩ | ⟨v, h⟩)
          · exact ⟨d', List.mem_append_left _ hd', v, h⟩
          · exact ⟨d, List.mem_append_right _ (List.mem_singleton.mpr rfl), v, h⟩
        · rintro ⟨d', hd', v, h⟩
          rcases List.mem_append.mp hd' with hd' | hd'
          · exact .inl ⟨d', hd', v, h⟩
          · rw [List.mem_singleton.mp hd'] at h
            exact .inr ⟨v, h⟩
      · rw [tk, sumL_app]
        show n ≤ sumL kv (ds.take t) + ((kv d).length + 0)
        omega
  · have e : t = ds.length := by omega
    subst e
    rw [List.take_length] at hT hn
    refine .inl ⟨⟨_, SqL.of (la hh), by rw [List.length_map]; exact Nat.le_refl _⟩, q D H T n nD hT hn hh⟩
section
variable {X : Cx} {ex : Expr} {st : Stmt} {wi wi1 : TI} {g g1 : TG} {tt tt1 : TT} {te : TE} {vs vs1 : List Nat} {i : Nat}
theorem k_sc2 (P : Program) (w : World) (h : PE X ex (tSc2 X.prog X.w wi g tt wi1 g1 tt1 te vs vs1)) (eP : X.prog = P := by rfl) (ew : X.w = w := by rfl) : PE X ex (tSc2 P w wi g tt wi1 g1 tt1 te vs vs1) := by
  subst eP
  subst ew
  exact h
theorem k_sc2S (P : Program) (w : World) (h : PS X st (tAsg (tSc2 X.prog X.w wi g tt wi1 g1 tt1 te vs vs1) (gName i))) (eP : X.prog = P := by rfl) (ew : X.w = w := by rfl) : PS X st (tAsg (tSc2 P w wi g tt wi1 g1 tt1 te vs vs1) (gName i)) := by
  subst eP
  subst ew
  exact h
end
section
variable {elt kx vx : Expr} {gs : List Comprehension} {sco : Scope} {pos py : Pos} {y : Str} {l : Nat} {env : Env}
theorem sw_trueS (hk : env.scope.kind = .function) (hy : env.scope.names.lookup y = some .local) (hl : (py.line == pos.line) = true) (ha : (sco.names.any fun (n, k) => n == y && (k == .local || k == .cell)) = false) : swapsWith (.SetComp elt gs sco pos) (some (.Name y py)) l env = pure true := by
  have ky : env.kindOf y = some .local := hy
  have hb : env.blockKind = .function := by
    unfold Env.blockKind
    rw [hk]
    rfl
  unfold swapsWith
  simp only [hb, ky, ha, Expr.pos, hl]
  rfl
theorem sw_trueD (hk : env.scope.kind = .function) (hy : env.scope.names.lookup y = some .local) (hl : (py.line == pos.line) = true) (ha : (sco.names.any fun (n, k) => n == y && (k == .local || k == .cell)) = false) : swapsWith (.DictComp kx vx gs sco pos) (some (.Name y py)) l env = pure true := by
  have ky : env.kindOf y = some .local := hy
  have hb : env.blockKind = .function := by
    unfold Env.blockKind
    rw [hk]
    rfl
  unfold swapsWith
  simp only [hb, ky, ha, Expr.pos, hl]
  rfl
end
end Qk

/-! Qtr: dicts of lists: list(d), list(d.items()), d.get(k), dict comprehensions -/
namespace Qk
open PySem PySem.Spec PyProof.Rows L2
/-! ### list(d) -/
def rListD : List V → Hp → VK → Prop := fun xs H Q => ∃ (a : Addr) (kvs : List (Key × V)), xs = [.ref a] ∧ Rd H a (.dK kvs) ∧ ∀ p, H p = none → Q (.ref p) (upd H p (.lst (kvs.map fun kv => kV kv.1)))
theorem cr_listD {X : Cx} (hc : X.calm = true) : CallR X (.type "list") rListD := call_listD hc
section
variable {K : PySem.W.Frag} {σ : L2.St} {F : Hp} {O O' : Own} {H : Hp} {Q : VK} {te ta tb : TE} {x y v : V}
theorem g_listD {a : Addr} {kvs : List (Key × V)} (h : H a = some (.dK kvs)) (hH : Has F O H) (q : ∀ p H', H p = none → Has F ((p, .lst (kvs.map fun kv => kV kv.1)) :: O) H' → Q (.ref p) H') : rListD [.ref a] H Q :=
  ⟨a, kvs, rfl, .inl h, fun p n => q p _ n (hH.new n)⟩
/-! ### d.get(k) -/
def kGet1 (ty : TE) (σ : L2.St) (x : V) (H : Hp) (Q : VK) : Prop := ∃ a, x = .ref a ∧ IsD H a ∧ ty σ H fun y H2 => ∃ o, DGet H2 a y o ∧ Q (o.getD .non) H2
theorem g_get1 (q : ta σ H fun x H1 => kGet1 tb σ x H1 Q) : tDGet1 ta tb σ H Q := q
theorem g_kget1 {a : Addr} {kvs : List (Key × V)} (h : H a = some (.dK kvs)) (q : tb σ H fun y H2 => kGot a y .non H2 Q) : kGet1 tb σ (.ref a) H Q := ⟨a, rfl, .inl ⟨kvs, .inl h⟩, q⟩
/-! ### list(d.items()) -/
theorem g_listItems (q : te σ H fun x H1 => LiI.rItemsL x H1 Q) : LiI.tListItems te σ H Q := q
theorem g_items {d : Addr} {kvs : List (Key × V)} (h : H d = some (.dK kvs)) (q : ∀ p H' ts, Same H H' → H p = none → H' p = some (.lst (ts.map V.ref)) → Paired (fun (t : Addr) (q : Key × V) => H' t = some (.tup [kV q.1, q.2])) ts kvs → Q (.ref p) H') : LiI.rItemsL (.ref d) H Q :=
  ⟨d, kvs, rfl, h, fun H' p ts s n _ _ e pd => q p H' ts s n e pd⟩
end
end Qk

/-! Qtm: texts that may lack, trees as dicts of lists -/
namespace Qk
open PySem PySem.Spec PyProof.Rows L2
abbrev Tx := List Str
def txD (t : Tx) : PyData := .list (t.map PyData.str)
def oxD : Option Tx → PyData
  | none => .none
  | some t => txD t
def okX (t : Tx) : Prop := ∀ z ∈ t, PyData.strOk z = true
def okO (o : Option Tx) : Prop := ∀ t, o = some t → okX t
theorem eqv_oxD : ∀ a b : Option Tx, PyData.eqv (oxD a) (oxD b) = decide (a = b)
  | none, none => by rw [oxD, PyData.eqv]; rfl
  | none, some t => by rw [oxD, oxD, txD, PyData.eqv]; rfl
  | some t, none => by rw [oxD, oxD, txD, PyData.eqv]; rfl
  | some s, some t => by
    rw [oxD, oxD, txD, txD, eqv_strs]
    rw [Bool.eq_iff_iff, decide_eq_true_eq, decide_eq_true_eq]
    exact ⟨fun h => by rw [h], fun h => Option.some.inj h⟩
theorem eqvAll_oxD : ∀ xs ys : List (Option Tx), PyData.eqvAll (xs.map oxD) (ys.map oxD) = decide (xs = ys)
  | [], [] => by rw [List.map_nil, PyData.eqvAll]; rfl
  | [], y :: ys => by rw [List.map_nil, List.map_cons, PyData.eqvAll]; rfl
  | x :: xs, [] => by rw [List.map_nil, List.map_cons, PyData.eqvAll]; rfl
  | x :: xs, y :: ys => by
    rw [List.map_cons, List.map_cons, PyData.eqvAll, eqv_oxD, eqvAll_oxD xs ys]
    by_cases e : x = y
    · subst e
      simp
    · simp [e]
theorem eqv_oxL (xs ys : List (Option Tx)) : PyData.eqv (.list (xs.map oxD)) (.list (ys.map oxD)) = decide (xs = ys) := by rw [PyData.eqv, eqvAll_oxD]
theorem any_oxD (xs : List (Option Tx)) (x : Option Tx) : ((xs.map oxD).any fun z => PyData.eqv z (oxD x)) = decide (x ∈ xs) := by
  rw [List.any_map, Bool.eq_iff_iff, List.any_eq_true, decide_eq_true_eq]
  constructor
  · rintro ⟨y, hy, e⟩
    have e : PyData.eqv (oxD y) (oxD x) = true := e
    rw [eqv_oxD] at e
    rw [← of_decide_eq_true e]
    exact hy
  · intro h
    refine ⟨x, h, ?_⟩
    show PyData.eqv (oxD x) (oxD x) = true
    rw [eqv_oxD]
    exact decide_eq_true rfl
theorem sh_oxD {o : Option Tx} (h : okO o) : Sh 1 (oxD o) := by
  cases o with
  | none => exact Sh.non
  | some t => exact Sh.strs (h t rfl)
theorem shL_oxD {xs : List (Option Tx)} (h : ∀ o ∈ xs, okO o) : Sh 2 (.list (xs.map oxD)) := Sh.list fun d hd => by
  obtain ⟨o, ho, rfl⟩ := List.mem_map.mp hd
  exact sh_oxD (h o ho)
theorem okO_some {t : Tx} (h : okX t) : okO (some t) := fun _ e => by
  injection e with e
  rw [← e]
  exact h
theorem okO_none : okO none := fun _ e => by cases e
/-! ### the chosen one -/
def oth (base : Option Tx) (vs : List (Option Tx)) : List (Option Tx) := vs.foldl (fun acc v => if v = base then acc else if v ∈ acc then acc else acc ++ [v]) []
def cho (base : Option Tx) (vs : List (Option Tx)) : Option Tx := if (oth base vs).length = 1 then (oth base vs).headD base else base
theorem oth_step {base : Option Tx} {vs : List (Option Tx)} {i : Nat} {v : Option Tx} (h : vs[i]? = some v) : oth base (vs.take (i + 1)) = if v = base then oth base (vs.take i) else if v ∈ oth base (vs.take i) then oth base (vs.take i) else oth base (vs.take i) ++ [v] := take_foldl h
theorem oth_inv (base : Option Tx) : ∀ (vs acc : List (Option Tx)), acc.Nodup → (vs.foldl (fun acc v => if v = base then acc else if v ∈ acc then acc else acc ++ [v]) acc).Nodup ∧ ∀ v, v ∈ vs.foldl (fun acc v => if v = base then acc else if v ∈ acc then acc else acc ++ [v]) acc ↔ v ∈ acc ∨ (v ∈ vs ∧ v ≠ base)
  | [], acc, n => ⟨n, fun v => by simp⟩
  | x :: vs, acc, n => by
    rw [List.foldl_cons]
    by_cases e : x = base
    · rw [if_pos e]
      obtain ⟨h1, h2⟩ := oth_inv base vs acc n
      refine ⟨h1, fun v => ?_⟩
      rw [h2, List.mem_cons]
      refine or_congr Iff.rfl ⟨fun h => ⟨.inr h.1, h.2⟩, fun h => ?_⟩
      rcases h.1 with h' | h'
      · exact (h.2 (h'.trans e)).elim
      · exact ⟨h', h.2⟩
    · rw [if_neg e]
      by_cases m : x ∈ acc
      · rw [if_pos m]
        obtain ⟨h1, h2⟩ := oth_inv base vs acc n
        refine ⟨h1, fun v => ?_⟩
        rw [h2, List.mem_cons]
        constructor
        · rintro (h | h)
          · exact .inl h
          · exact .inr ⟨.inr h.1, h.2⟩
        · rintro (h | ⟨h | h, k⟩)
          · exact .inl h
          · exact .inl (h ▸ m)
          · exact .inr ⟨h, k⟩
      · rw [if_neg m]
        have n' : (acc ++ [x]).Nodup := by
          rw [List.nodup_append]
          refine ⟨n, by simp, fun a ha b hb e => m ?_⟩
          rw [List.mem_singleton.mp hb] at e
          exact e ▸ ha
        obtain ⟨h1, h2⟩ := oth_inv base vs (acc ++ [x]) n'
        refine ⟨h1, fun v => ?_⟩
        rw [h2, List.mem_append, List.mem_singleton, List.mem_cons]
        constructor
        · rintro ((h | h) | h)
          · exact .inl h
          · subst h
            exact .inr ⟨.inl rfl, e⟩
          · exact .inr ⟨.inr h.1, h.2⟩
        · rintro (h | ⟨h | h, k⟩)
          · exact .inl (.inl h)
          · exact .inl (.inr h)
          · exact .inr ⟨h, k⟩
theorem oth_nd (base : Option Tx) (vs : List (Option Tx)) : (oth base vs).Nodup := (oth_inv base vs [] .nil).1
theorem oth_mem {base : Option Tx} {vs : List (Option Tx)} {v : Option Tx} : v ∈ oth base vs ↔ v ∈ vs ∧ v ≠ base := by
  have := (oth_inv base vs [] .nil).2 v
  rw [show oth base vs = vs.foldl (fun acc v => if v = base then acc else if v ∈ acc then acc else acc ++ [v]) [] from rfl, this]
  simp
theorem oth_len (base : Option Tx) (vs : List (Option Tx)) : (oth base vs).length ≤ vs.length := by
  have : ∀ (ws acc : List (Option Tx)), (ws.foldl (fun acc v => if v = base then acc else if v ∈ acc then acc else acc ++ [v]) acc).length ≤ acc.length + ws.length := by
    intro ws
    induction ws with
    | nil => intro acc; exact Nat.le_refl _
    | cons x ws ih =>
      intro acc
      rw [List.foldl_cons, List.length_cons]
      split
      · have := ih acc; omega
      · split
        · have := ih acc; omega
        · have := ih (acc ++ [x])
          rw [List.length_append, List.length_singleton] at this
          omega
  have h := this vs []
  rw [List.length_nil, Nat.zero_add] at h
  exact h
theorem cho_congr {base : Option Tx} {vs ws : List (Option Tx)} (h : ∀ v, v ≠ base → (v ∈ vs ↔ v ∈ ws)) : cho base vs = cho base ws := by
  have m : ∀ v, v ∈ oth base vs ↔ v ∈ oth base ws := fun v => by
    rw [oth_mem, oth_mem]
    exact ⟨fun k => ⟨(h v k.2).mp k.1, k.2⟩, fun k => ⟨(h v k.2).mpr k.1, k.2⟩⟩
  have pm : (oth base vs).Perm (oth base ws) := (List.perm_ext_iff_of_nodup (oth_nd _ _) (oth_nd _ _)).mpr m
  have l := pm.length_eq
  unfold cho
  rw [l]
  by_cases e : (oth base ws).length = 1
  · rw [if_pos e, if_pos e]
    obtain ⟨a, ea⟩ := List.length_eq_one_iff.mp e
    obtain ⟨b, eb⟩ := List.length_eq_one_iff.mp (l.trans e)
    rw [ea, eb] at pm ⊢
    rw [List.perm_singleton.mp pm]
  · rw [if_neg e, if_neg e]
theorem cho_nil (base : Option Tx) : cho base [] = base := rfl
theorem cho_mem {base : Option Tx} {vs : List (Option Tx)} : cho base vs = base ∨ cho base vs ∈ vs := by
  unfold cho
  by_cases e : (oth base vs).length = 1
  · rw [if_pos e]
    obtain ⟨a, ea⟩ := List.length_eq_one_iff.mp e
    have : a ∈ oth base vs := by rw [ea]; exact List.mem_singleton.mpr rfl
    rw [ea]
    exact .inr (oth_mem.mp this).1
  · rw [if_neg e]
    exact .inl rfl
/-- none, or a new list -/
def Fr (H H' : Hp) (v : V) (o : Option Tx) : Prop := (v = .non ∧ o = none) ∨ ∃ p t, v = .ref p ∧ o = some t ∧ H p = none ∧ H' p = some (.lst (t.map V.str))
theorem Dq.non_inv {H : Hp} {v : V} (h : Dq H v .none) : v = .non := by
  cases h
  rfl
/-! ### trees -/
abbrev Tr := List (Str × Tx)
def kS (z : Str) : Key := Sum.inr z
def getT : Tr → Str → Option Tx
  | [], _ => none
  | p :: r, z => if p.1 = z then some p.2 else getT r z
theorem getT_mem : ∀ {A : Tr} {z : Str} {t : Tx}, getT A z = some t → (z, t) ∈ A
  | [], _, _, h => by cases h
  | p :: r, z, t, h => by
    unfold getT at h
    by_cases e : p.1 = z
    · rw [if_pos e] at h
      injection h with h
      subst e
      subst h
      exact List.mem_cons_self
    · rw [if_neg e] at h
      exact List.mem_cons_of_mem _ (getT_mem h)
theorem getT_of : ∀ {A : Tr} {z : Str} {t : Tx}, (A.map (·.1)).Nodup → (z, t) ∈ A → getT A z = some t
  | [], _, _, _, h => by cases h
  | p :: r, z, t, n, h => by
    rw [List.map_cons] at n
    have n' := List.nodup_cons.mp n
    unfold getT
    rcases List.mem_cons.mp h with e | m
    · subst e
      rw [if_pos rfl]
    · rw [if_neg (fun e => n'.1 ?_)]
      · exact getT_of n'.2 m
      · rw [e]
        exact List.mem_map.mpr ⟨_, m, rfl⟩
theorem getT_none : ∀ {A : Tr} {z : Str}, getT A z = none ↔ z ∉ A.map (·.1)
  | [], _ => by simp [getT]
  | p :: r, z => by
    unfold getT
    rw [List.map_cons, List.mem_cons]
    by_cases e : p.1 = z
    · rw [if_pos e]
      simp [e]
    · rw [if_neg e, getT_none]
      constructor
      · rintro h (k | k)
        · exact e k.symm
        · exact h k
      · exact fun h k => h (.inr k)
/-- a dict of lists, locked or not -/
def RT (H : Hp) (d : Addr) (A : Tr) : Prop := ∃ kvs : List (Key × V), Rd H d (.dK kvs) ∧ kvs.map (·.1) = A.map (fun p => kS p.1) ∧ (A.map (·.1)).Nodup ∧ DqAll H (kvs.map (·.2)) (A.map fun p => txD p.2)
def TrAt (H : Hp) (d : Addr) (A : Tr) : Prop := ∃ kvs : List (Key × V), H d = some (.dK kvs) ∧ kvs.map (·.1) = A.map (fun p => kS p.1) ∧ (A.map (·.1)).Nodup ∧ DqAll H (kvs.map (·.2)) (A.map fun p => txD p.2)
theorem TrAt.rt {H : Hp} {d : Addr} {A : Tr} (h : TrAt H d A) : RT H d A := by
  obtain ⟨kvs, e, r⟩ := h
  exact ⟨kvs, .inl e, r⟩
theorem TrAt.up {H H' : Hp} {d : Addr} {A : Tr} (h : TrAt H d A) (s : Same H H') : TrAt H' d A := by
  obtain ⟨kvs, e, k, n, q⟩ := h
  exact ⟨kvs, s _ _ e, k, n, q.up s _ _⟩
theorem RT.up {H H' : Hp} {d : Addr} {A : Tr} (h : RT H d A) (s : Same H H') : RT H' d A := by
  obtain ⟨kvs, e, k, n, q⟩ := h
  refine ⟨kvs, ?_, k, n, q.up s _ _⟩
  rcases e with e | ⟨o, e⟩
  · exact .inl (s _ _ e)
  · exact .inr ⟨o, s _ _ e⟩
theorem RT.lock {H : Hp} {d e : Addr} {od : Obj} {ks : List (Key × V)} {A : Tr} (he : H e = some (.dK ks)) (h : RT H d A) : RT (upd H e (.frz od (.dK ks))) d A := by
  obtain ⟨kvs, r, k, n, q⟩ := h
  refine ⟨kvs, ?_, k, n, q.lockK he⟩
  by_cases c : d = e
  · subst c
    rcases r with r | ⟨o, r⟩
    · rw [he] at r
      injection r with r
      injection r with r
      subst r
      exact .inr ⟨od, upd_same⟩
    · rw [he] at r
      cases r
  · rcases r with r | ⟨o, r⟩
    · exact .inl (by rw [upd_ne c]; exact r)
    · exact .inr ⟨o, by rw [upd_ne c]; exact r⟩
theorem tr_get {H : Hp} : ∀ {kvs : List (Key × V)} {A : Tr} (z : Str), kvs.map (·.1) = A.map (fun p => kS p.1) → DqAll H (kvs.map (·.2)) (A.map fun p => txD p.2) → Dq H ((valV kvs (.inr z)).getD .non) (oxD (getT A z)) ∧ (valV kvs (.inr z)).isSome = (getT A z).isSome
  | [], [], z, _, _ => ⟨.non, rfl⟩
  | [], _ :: _, _, e, _ => by cases e
  | _ :: _, [], _, e, _ => by cases e
  | kv :: kvs, p :: A, z, e, q => by
    rw [List.map_cons, List.map_cons] at e
    injection e with e1 e2
    rw [List.map_cons, List.map_cons] at q
    cases q with
    | cons q1 q2 =>
    unfold getT
    by_cases c : p.1 = z
    · rw [if_pos c, valV_pos (by rw [e1, c]; rfl)]
      exact ⟨q1, rfl⟩
    · rw [if_neg c, valV_neg (fun h => c (by rw [e1] at h; exact Sum.inr.inj h))]
      exact tr_get z e2 q2
theorem tr_at {H : Hp} {kvs : List (Key × V)} {A : Tr} {z : Str} {t : Tx} (k : kvs.map (·.1) = A.map (fun p => kS p.1)) (q : DqAll H (kvs.map (·.2)) (A.map fun p => txD p.2)) (e : getT A z = some t) : ∃ l, valV kvs (.inr z) = some (.ref l) ∧ H l = some (.lst (t.map V.str)) := by
  obtain ⟨h1, h2⟩ := tr_get z k q
  rw [e] at h1 h2
  cases c : valV kvs (.inr z) with
  | none => rw [c] at h2; cases h2
  | some v =>
    rw [c] at h1
    obtain ⟨l, rfl, hl⟩ := Dq.of_strs (xs := t) h1
    exact ⟨l, rfl, hl⟩
theorem tr_len {kvs : List (Key × V)} {A : Tr} (k : kvs.map (·.1) = A.map (fun p => kS p.1)) : kvs.length = A.length := by
  have := congrArg List.length k
  rw [List.length_map, List.length_map] at this
  exact this
theorem tr_key {kvs : List (Key × V)} {A : Tr} (k : kvs.map (·.1) = A.map (fun p => kS p.1)) {i : Nat} {x : Key} {v : V} (e : kvs[i]? = some (x, v)) : ∃ p, A[i]? = some p ∧ x = .inr p.1 := by
  have e2 : (kvs.map (·.1))[i]? = some x := by rw [List.getElem?_map, e]; rfl
  rw [k, List.getElem?_map] at e2
  obtain ⟨p, ep, e3⟩ := Option.map_eq_some_iff.mp e2
  exact ⟨p, ep, e3.symm⟩
theorem tr_keys {kvs : List (Key × V)} {A : Tr} (k : kvs.map (·.1) = A.map (fun p => kS p.1)) : (kvs.map fun kv => kV kv.1) = (A.map (·.1)).map V.str := by
  have := congrArg (List.map kV) k
  rw [List.map_map, List.map_map] at this
  rw [List.map_map]
  exact this
/-! ### a tree just made: its own lists -/
abbrev Bt := List (Str × Addr × Tx)
def bK (B : Bt) : List (Key × V) := B.map fun b => (kS b.1, V.ref b.2.1)
def bO (B : Bt) : Own := B.map fun b => (b.2.1, HO.lst (b.2.2.map V.str))
def bA (B : Bt) : Tr := B.map fun b => (b.1, b.2.2)
theorem bA_keys (B : Bt) : (bA B).map (·.1) = B.map (·.1) := by
  unfold bA
  rw [List.map_map]
  rfl
theorem bK_keys (B : Bt) : (bK B).map (·.1) = (bA B).map (fun p => kS p.1) := by
  unfold bK bA
  rw [List.map_map, List.map_map]
  rfl
theorem bK_none {B : Bt} {z : Str} (h : z ∉ B.map (·.1)) : valV (bK B) (.inr z) = none := by
  have : ∀ C : Bt, z ∉ C.map (·.1) → valV (bK C) (.inr z) = none := by
    intro C
    induction C with
    | nil => intro _; rfl
    | cons b C ih =>
      intro n
      rw [List.map_cons, List.mem_cons] at n
      show valV ((kS b.1, V.ref b.2.1) :: bK C) (.inr z) = none
      rw [valV_neg (fun e => n (.inl (Sum.inr.inj e).symm))]
      exact ih fun m => n (.inr m)
  exact this B h
theorem bK_snoc (B : Bt) (z : Str) (p : Addr) (t : Tx) : bK (B ++ [(z, p, t)]) = bK B ++ [(kS z, V.ref p)] := by
  unfold bK
  rw [List.map_append]
  rfl
theorem bO_snoc (B : Bt) (z : Str) (p : Addr) (t : Tx) : bO (B ++ [(z, p, t)]) = bO B ++ [(p, HO.lst (t.map V.str))] := by
  unfold bO
  rw [List.map_append]
  rfl
theorem bA_snoc (B : Bt) (z : Str) (p : Addr) (t : Tx) : bA (B ++ [(z, p, t)]) = bA B ++ [(z, t)] := by
  unfold bA
  rw [List.map_append]
  rfl
theorem bK_dq {H : Hp} : ∀ {B : Bt}, (∀ b ∈ B, H b.2.1 = some (.lst (b.2.2.map V.str))) → DqAll H ((bK B).map (·.2)) ((bA B).map fun p => txD p.2)
  | [], _ => .nil
  | b :: B, h => .cons (Dq.strs (xs := b.2.2) (h b List.mem_cons_self)) (bK_dq fun c hc => h c (List.mem_cons_of_mem _ hc))
theorem Has.built {F H : Hp} {d : Addr} {B : Bt} {O : Own} (h : Has F ((d, .dK (bK B)) :: (bO B ++ O)) H) (n : (B.map (·.1)).Nodup) : TrAt H d (bA B) :=
  ⟨bK B, h.get List.mem_cons_self, bK_keys B, by rw [bA_keys]; exact n, bK_dq fun b hb => h.get (List.mem_cons_of_mem _ (List.mem_append_left _ (List.mem_map.mpr ⟨b, hb, rfl⟩)))⟩
/-- one more path, not there yet -/
theorem Has.bput {F H : Hp} {d p : Addr} {B : Bt} {O : Own} {z : Str} {t : Tx} (h : Has F ((p, .lst (t.map V.str)) :: (d, .dK (bK B ++ [(kS z, V.ref p)])) :: (bO B ++ O)) H) : Has F ((d, .dK (bK (B ++ [(z, p, t)]))) :: (bO (B ++ [(z, p, t)]) ++ O)) H := by
  refine h.perm ?_
  rw [bK_snoc, bO_snoc, List.append_assoc, List.singleton_append]
  exact List.perm_middle (a := (p, HO.lst (t.map V.str))) (l₁ := (d, HO.dK (bK B ++ [(kS z, V.ref p)])) :: bO B) (l₂ := O)
/-! ### a loop over the keys of a dict that stands still -/
theorem k_forDK {i : Nat} {d : Addr} {kvs : List (Key × V)} {g : TG} {ts : TS} {D : Ends} {σ : L2.St} {F H : Hp} {O : Own} (hv : σ[i]? = some (some (.ref d))) (fd : F d = some (.dK kvs)) (hH : Has F O H) (S : Nat → L2.St → Own → Prop) (h0 : S 0 σ O)
    (hs : ∀ t k v σ O H od, kvs[t]? = some (k, v) → S t σ O → Has (upd F d (.frz od (.dK kvs))) O H → g (kV k) σ H fun σ2 H2 => ts { lockD d od (.dK kvs) D with nx := fun σ' H' => ∃ O', S (t + 1) σ' O' ∧ Has (upd F d (.frz od (.dK kvs))) O' H', ct := fun σ' H' => ∃ O', S (t + 1) σ' O' ∧ Has (upd F d (.frz od (.dK kvs))) O' H', bk := (lockD d od (.dK kvs) D).nx } σ2 H2)
    (hd : ∀ σ O H, S kvs.length σ O → Has F O H → D.nx σ H) : tLock (tFor (iKeys (tVar i)) g ts) D σ H := by
  refine g_lockK hv (hH.same _ _ fd) (fun od => ?_)
  refine k_forK (fun t σ H' => ∃ O', S t σ O' ∧ Has (upd F d (.frz od (.dK kvs))) O' H') ⟨O, h0, hH.lock fd⟩ ?_ ?_ ?_
  · rintro t σ H' ⟨O', _, h⟩
    exact h.same _ _ upd_same
  · rintro t k v σ H' e ⟨O', s, h⟩
    exact hs t k v σ O' H' od e s h
  · rintro σ H' ⟨O', s, h⟩
    have e : upd (upd F d (.frz od (.dK kvs))) d (.dK kvs) = F := by
      funext b
      by_cases c : b = d
      · subst c
        rw [upd_same, fd]
      · rw [upd_ne c, upd_ne c]
    have h2 := h.unlock (od := od) (u := .dK kvs) upd_same
    rw [e] at h2
    exact ⟨h.same _ _ upd_same, hd σ O' _ s h2⟩
theorem nd_inj {α : Type} {xs : List α} (nd : xs.Nodup) {i j : Nat} {z : α} (h1 : xs[i]? = some z) (h2 : xs[j]? = some z) : i = j := by
  obtain ⟨l1, e1⟩ := List.getElem?_eq_some_iff.mp h1
  obtain ⟨l2, e2⟩ := List.getElem?_eq_some_iff.mp h2
  have pw := List.pairwise_iff_getElem.mp nd
  rcases Nat.lt_trichotomy i j with c | c | c
  · exact (pw i j l1 l2 c (by rw [e1, e2])).elim
  · exact c
  · exact (pw j i l2 l1 c (by rw [e1, e2])).elim
theorem nd_new {α : Type} {xs : List α} (nd : xs.Nodup) {t : Nat} {z : α} (e : xs[t]? = some z) : z ∉ xs.take t := fun m => by
  obtain ⟨j, hj⟩ := List.mem_iff_getElem?.mp m
  have lj := (List.getElem?_eq_some_iff.mp hj).1
  rw [List.length_take] at lj
  rw [List.getElem?_take_of_lt (by omega)] at hj
  have := nd_inj nd hj e
  omega
theorem Has.b0 {F H : Hp} {d : Addr} {O : Own} (h : Has F ((d, .dK []) :: O) H) : Has F ((d, .dK (bK [])) :: (bO [] ++ O)) H := h
/-- what came out stands still from now on -/
theorem Has.fr {F H H' : Hp} {O : Own} {v : V} {o : Option Tx} (h : Has F O H) (s : Same H H') (f : Fr H H' v o) : ∃ F', Same F F' ∧ Has F' O H' ∧ Dq F' v (oxD o) := by
  rcases f with ⟨rfl, rfl⟩ | ⟨p, t, rfl, rfl, n, e⟩
  · exact ⟨F, Same.refl _, h.on s, .non⟩
  · have h2 := h.made n s e
    exact ⟨_, h2.grow, h2.frz, Dq.strs (xs := t) upd_same⟩
theorem oxL_take {H : Hp} {acc : List V} {xs : List (Option Tx)} {i : Nat} {o : Option Tx} {v : V} (h : DqAll H acc ((xs.take i).map oxD)) (e : xs[i]? = some o) (d : Dq H v (oxD o)) : DqAll H (acc ++ [v]) ((xs.take (i + 1)).map oxD) := by
  rw [List.take_add_one, e, List.map_append]
  exact h.snoc d
/-- texts of a bounded length -/
def lnO (o : Option Tx) : Prop := ∀ t, o = some t → t.length ≤ 1000
theorem cho_all {Pr : Option Tx → Prop} {b : Option Tx} {ts : List (Option Tx)} (hb : Pr b) (ht : ∀ o ∈ ts, Pr o) : Pr (cho b ts) := by
  rcases cho_mem (base := b) (vs := ts) with e | m
  · rw [e]; exact hb
  · exact ht _ m
/-! ### lists of trees -/
inductive Trs (H : Hp) : List Addr → List Tr → Prop
  | nil : Trs H [] []
  | cons {d : Addr} {A : Tr} {ds : List Addr} {As : List Tr} : TrAt H d A → Trs H ds As → Trs H (d :: ds) (A :: As)
theorem Trs.len {H : Hp} : ∀ {ds : List Addr} {As : List Tr}, Trs H ds As → ds.length = As.length
  | _, _, .nil => rfl
  | _, _, .cons _ t => by rw [List.length_cons, List.length_cons, t.len]
theorem Trs.up {H H' : Hp} (s : Same H H') : ∀ {ds : List Addr} {As : List Tr}, Trs H ds As → Trs H' ds As
  | _, _, .nil => .nil
  | _, _, .cons h t => .cons (h.up s) (t.up s)
theorem Trs.get {H : Hp} : ∀ {ds : List Addr} {As : List Tr} {i : Nat} {d : Addr}, Trs H ds As → ds[i]? = some d → ∃ A, As[i]? = some A ∧ TrAt H d A
  | _, _, _, _, .nil, e => by simp at e
  | _, _, 0, _, .cons h _, e => by
    have e := Option.some.inj e
    subst e
    exact ⟨_, rfl, h⟩
  | _, _, i + 1, _, .cons _ t, e => t.get (i := i) e
theorem Trs.app {H : Hp} : ∀ {ds es : List Addr} {As Bs : List Tr}, Trs H ds As → Trs H es Bs → Trs H (ds ++ es) (As ++ Bs)
  | _, _, _, _, .nil, h => h
  | _, _, _, _, .cons h t, h' => .cons h (t.app h')
theorem Trs.rev {H : Hp} : ∀ {ds : List Addr} {As : List Tr}, Trs H ds As → Trs H ds.reverse As.reverse
  | _, _, .nil => .nil
  | _, _, .cons h t => by
    rw [List.reverse_cons, List.reverse_cons]
    exact t.rev.app (.cons h .nil)
theorem Trs.snoc {H : Hp} {ds : List Addr} {As : List Tr} {d : Addr} {A : Tr} (h : Trs H ds As) (t : TrAt H d A) : Trs H (ds ++ [d]) (As ++ [A]) := h.app (.cons t .nil)
/-- the entries of the dict at d -/
def kvOf (H : Hp) (d : Addr) : List (Key × V) := match H d with
  | some (.dK kvs) => kvs
  | _ => []
theorem kvOf_at {H : Hp} {d : Addr} {kvs : List (Key × V)} (h : H d = some (.dK kvs)) : kvOf H d = kvs := by
  unfold kvOf
  rw [h]
theorem Trs.at_ {H : Hp} : ∀ {ds : List Addr} {As : List Tr}, Trs H ds As → ∀ d ∈ ds, H d = some (.dK (kvOf H d))
  | _, _, .nil, _, h => by cases h
  | _, _, .cons h t, d, m => by
    rcases List.mem_cons.mp m with rfl | m
    · obtain ⟨kvs, e, _⟩ := h
      rw [kvOf_at e]
      exact e
    · exact t.at_ d m
theorem TrAt.keys {H : Hp} {d : Addr} {A : Tr} (h : TrAt H d A) {k : Key} : (∃ v, (k, v) ∈ kvOf H d) ↔ ∃ z, k = Sum.inr z ∧ z ∈ A.map (·.1) := by
  obtain ⟨kvs, e, ek, _, _⟩ := h
  rw [kvOf_at e]
  constructor
  · rintro ⟨v, m⟩
    have m2 : k ∈ kvs.map (·.1) := List.mem_map.mpr ⟨_, m, rfl⟩
    rw [ek] at m2
    obtain ⟨p, hp, e2⟩ := List.mem_map.mp m2
    exact ⟨p.1, e2.symm, List.mem_map.mpr ⟨p, hp, rfl⟩⟩
  · rintro ⟨z, rfl, m⟩
    obtain ⟨p, hp, rfl⟩ := List.mem_map.mp m
    have m2 : (Sum.inr p.1 : Key) ∈ kvs.map (·.1) := by
      rw [ek]
      exact List.mem_map.mpr ⟨p, hp, rfl⟩
    obtain ⟨q, hq, e2⟩ := List.mem_map.mp m2
    exact ⟨q.2, by rw [← e2]; exact hq⟩
theorem TrAt.klen {H : Hp} {d : Addr} {A : Tr} (h : TrAt H d A) : (kvOf H d).length = A.length := by
  obtain ⟨kvs, e, ek, _, _⟩ := h
  rw [kvOf_at e]
  exact tr_len ek
theorem Trs.keys {H : Hp} : ∀ {ds : List Addr} {As : List Tr}, Trs H ds As → ∀ {k : Key}, (∃ d ∈ ds, ∃ v, (k, v) ∈ kvOf H d) ↔ ∃ z, k = Sum.inr z ∧ ∃ A ∈ As, z ∈ A.map (·.1)
  | _, _, .nil, k => by simp
  | _, _, .cons h t, k => by
    constructor
    · rintro ⟨d, hd, hv⟩
      rcases List.mem_cons.mp hd with rfl | hd
      · obtain ⟨z, e, m⟩ := h.keys.mp hv
        exact ⟨z, e, _, List.mem_cons_self, m⟩
      · obtain ⟨z, e, A, hA, m⟩ := t.keys.mp ⟨d, hd, hv⟩
        exact ⟨z, e, A, List.mem_cons_of_mem _ hA, m⟩
    · rintro ⟨z, e, A, hA, m⟩
      rcases List.mem_cons.mp hA with rfl | hA
      · exact ⟨_, List.mem_cons_self, h.keys.mpr ⟨z, e, m⟩⟩
      · obtain ⟨d, hd, hv⟩ := t.keys.mpr ⟨z, e, A, hA, m⟩
        exact ⟨d, List.mem_cons_of_mem _ hd, hv⟩
theorem Trs.sum {H : Hp} {m : Nat} : ∀ {ds : List Addr} {As : List Tr}, Trs H ds As → (∀ A ∈ As, A.length ≤ m) → sumL (kvOf H) ds ≤ m * As.length
  | _, _, .nil, _ => Nat.zero_le _
  | _, _, .cons (A := A) (As := As) h t, l => by
    have h1 := t.sum fun A hA => l A (List.mem_cons_of_mem _ hA)
    have h2 := h.klen
    have h3 := l A List.mem_cons_self
    show _ + sumL _ _ ≤ _
    rw [List.length_cons, Nat.mul_succ]
    omega
theorem getT_in {A : Tr} {z : Str} {Pr : Option Tx → Prop} (h0 : Pr none) (h : ∀ p ∈ A, Pr (some p.2)) : Pr (getT A z) := by
  cases e : getT A z with
  | none => exact h0
  | some t => exact h _ (getT_mem e)
/-! ### what a call has made -/
theorem Has.join {F H H' : Hp} {O N : Own} (h : Has F O H) (n : Has H N H') : ∃ F', Same F F' ∧ Has F' O H' ∧ ∀ p ∈ N, F' p.1 = some p.2 := by
  refine ⟨fun b => if b ∈ N.map (·.1) then H' b else F b, fun b u e => ?_, ⟨fun b u e => ?_, fun p hp => ⟨?_, ?_⟩, h.nd⟩, fun p hp => ?_⟩
  · have ne : b ∉ N.map (·.1) := fun m => by
      obtain ⟨p, hp, rfl⟩ := List.mem_map.mp m
      have := (n.own p hp).1
      rw [h.same _ _ e] at this
      cases this
    show (if b ∈ N.map (·.1) then H' b else F b) = some u
    rw [if_neg ne]
    exact e
  · have e : (if b ∈ N.map (·.1) then H' b else F b) = some u := e
    split at e
    · exact e
    · exact n.same _ _ (h.same _ _ e)
  · have ne : p.1 ∉ N.map (·.1) := fun m => by
      obtain ⟨q, hq, e⟩ := List.mem_map.mp m
      have := (n.own q hq).1
      rw [e, (h.own p hp).2] at this
      cases this
    show (if p.1 ∈ N.map (·.1) then H' p.1 else F p.1) = none
    rw [if_neg ne]
    exact (h.own p hp).1
  · exact n.same _ _ (h.own p hp).2
  · show (if p.1 ∈ N.map (·.1) then H' p.1 else F p.1) = some p.2
    rw [if_pos (List.mem_map.mpr ⟨p, hp, rfl⟩)]
    exact (n.own p hp).2
theorem Has.plus {F H H' : Hp} {O N : Own} (h : Has F O H) (n : Has H N H') : Has F (N ++ O) H' := by
  refine ⟨h.same.trans n.same, fun p hp => ?_, ?_⟩
  · rcases List.mem_append.mp hp with m | m
    · exact ⟨h.same.free (n.own p m).1, (n.own p m).2⟩
    · exact ⟨(h.own p m).1, n.same _ _ (h.own p m).2⟩
  · rw [List.map_append, List.nodup_append]
    refine ⟨n.nd, h.nd, fun a ha b hb e => ?_⟩
    subst e
    obtain ⟨p, hp, rfl⟩ := List.mem_map.mp ha
    obtain ⟨q, hq, e⟩ := List.mem_map.mp hb
    have := (n.own p hp).1
    rw [← e, (h.own q hq).2] at this
    cases this
theorem tr_own {F : Hp} {d : Addr} {B : Bt} (h : ∀ p ∈ (d, HO.dK (bK B)) :: bO B, F p.1 = some p.2) (n : (B.map (·.1)).Nodup) : TrAt F d (bA B) :=
  ⟨bK B, h _ List.mem_cons_self, bK_keys B, by rw [bA_keys]; exact n, bK_dq fun b hb => h _ (List.mem_cons_of_mem _ (List.mem_map.mpr ⟨b, hb, rfl⟩))⟩
/-- a path laid anew -/
theorem bK_put {b : Str × Addr × Tx} {p : Addr} {x : Tx} : ∀ {B : Bt} {j : Nat}, (B.map (·.1)).Nodup → B[j]? = some b → (bK B).map (fun kv => if kv.1 = kS b.1 then (kv.1, V.ref p) else kv) = bK (B.set j (b.1, p, x))
  | [], j, _, h => by simp at h
  | c :: B, 0, n, h => by
    have e : c = b := Option.some.inj h
    subst e
    rw [List.map_cons] at n
    have n' := List.nodup_cons.mp n
    show (if kS c.1 = kS c.1 then (kS c.1, V.ref p) else _) :: (bK B).map _ = (kS c.1, V.ref p) :: bK B
    rw [if_pos rfl]
    congr 1
    have : ∀ kv ∈ bK B, (if kv.1 = kS c.1 then (kv.1, V.ref p) else kv) = kv := fun kv hkv => by
      obtain ⟨r, hr, rfl⟩ := List.mem_map.mp hkv
      rw [if_neg]
      intro e
      refine n'.1 ?_
      rw [← show r.1 = c.1 from Sum.inr.inj e]
      exact List.mem_map.mpr ⟨r, hr, rfl⟩
    rw [List.map_congr_left this, List.map_id']
  | c :: B, j + 1, n, h => by
    rw [List.map_cons] at n
    have n' := List.nodup_cons.mp n
    have ih := bK_put (p := p) (x := x) n'.2 (j := j) h
    show (if kS c.1 = kS b.1 then (kS c.1, V.ref p) else (kS c.1, V.ref c.2.1)) :: (bK B).map _ = (kS c.1, V.ref c.2.1) :: bK (B.set j _)
    rw [ih, if_neg]
    intro e
    refine n'.1 ?_
    rw [show c.1 = b.1 from Sum.inr.inj e]
    exact List.mem_map.mpr ⟨b, List.mem_of_getElem? h, rfl⟩
theorem putK_rep {b : Str × Addr × Tx} {p : Addr} {x : Tx} {B : Bt} {j : Nat} (n : (B.map (·.1)).Nodup) (h : B[j]? = some b) : putK (bK B) (kS b.1) (V.ref p) = bK (B.set j (b.1, p, x)) := by
  have a : ((bK B).any fun kv => decide (kv.1 = kS b.1)) = true := List.any_eq_true.mpr ⟨(kS b.1, V.ref b.2.1), List.mem_map.mpr ⟨b, List.mem_of_getElem? h, rfl⟩, decide_eq_true rfl⟩
  unfold putK
  rw [if_pos a]
  exact bK_put n h
theorem Has.brep {F H : Hp} {d p : Addr} {B : Bt} {O : Own} {j : Nat} {b : Str × Addr × Tx} {x : Tx} {u : HO} (e : B[j]? = some b) (h : Has F ((p, .lst (x.map V.str)) :: (d, u) :: (bO B ++ O)) H) : Has F ((d, u) :: (bO (B.set j (b.1, p, x)) ++ O)) H := by
  obtain ⟨l, eb⟩ := List.getElem?_eq_some_iff.mp e
  have e1 : B = B.take j ++ b :: B.drop (j + 1) := by
    rw [← eb, ← List.drop_eq_getElem_cons l, List.take_append_drop]
  have e2 : B.set j (b.1, p, x) = B.take j ++ (b.1, p, x) :: B.drop (j + 1) := List.set_eq_take_append_cons_drop.trans (if_pos l)
  rw [e2]
  rw [e1] at h
  have o : ∀ (c : Str × Addr × Tx), bO (B.take j ++ c :: B.drop (j + 1)) ++ O = bO (B.take j) ++ (c.2.1, HO.lst (c.2.2.map V.str)) :: (bO (B.drop (j + 1)) ++ O) := fun c => by
    unfold bO
    rw [List.map_append, List.map_cons, List.append_assoc, List.cons_append]
  rw [o] at h ⊢
  have h2 : Has F ((p, .lst (x.map V.str)) :: (d, u) :: (bO (B.take j) ++ (bO (B.drop (j + 1)) ++ O))) H := h.sub (List.Sublist.cons_cons _ (List.Sublist.cons_cons _ (List.Sublist.append (List.Sublist.refl _) (List.Sublist.cons _ (List.Sublist.refl _)))))
  exact h2.perm (List.perm_middle (a := (p, HO.lst (x.map V.str))) (l₁ := (d, u) :: bO (B.take j)) (l₂ := bO (B.drop (j + 1)) ++ O))
theorem bA_set {B : Bt} {j : Nat} {b : Str × Addr × Tx} {p : Addr} (e : B[j]? = some b) : bA (B.set j (b.1, p, b.2.2)) = bA B := by
  unfold bA
  rw [List.map_set]
  refine List.ext_getElem? fun i => ?_
  rw [List.getElem?_set]
  split
  · rename_i c
    subst c
    split
    · rw [List.getElem?_map, e]
      rfl
    · rename_i c
      rw [List.length_map] at c
      exact (c (List.getElem?_eq_some_iff.mp e).1).elim
  · rfl
theorem DqAll.tak {H : Hp} : ∀ {vs : List V} {ds : List PyData} (n : Nat), DqAll H vs ds → DqAll H (vs.take n) (ds.take n)
  | _, _, 0, _ => .nil
  | _, _, n + 1, .nil => .nil
  | _, _, n + 1, .cons h t => .cons h (DqAll.tak n t)
theorem DqAll.dro {H : Hp} : ∀ {vs : List V} {ds : List PyData} (n : Nat), DqAll H vs ds → DqAll H (vs.drop n) (ds.drop n)
  | _, _, 0, h => h
  | _, _, n + 1, .nil => .nil
  | _, _, n + 1, .cons _ t => DqAll.dro n t
theorem ox_at {H : Hp} {ws : List V} {os : List (Option Tx)} {i : Nat} {v : V} (h : DqAll H ws (os.map oxD)) (e : ws[i]? = some v) : ∃ o, os[i]? = some o ∧ Dq H v (oxD o) := by
  obtain ⟨d, ed, q⟩ := h.get e
  rw [List.getElem?_map] at ed
  obtain ⟨o, eo, rfl⟩ := Option.map_eq_some_iff.mp ed
  exact ⟨o, eo, q⟩
theorem ox_len {H : Hp} {ws : List V} {os : List (Option Tx)} (h : DqAll H ws (os.map oxD)) : ws.length = os.length := by rw [h.len, List.length_map]
/-! ### what a call has made beside what is owned -/
theorem Has.glue {F F' H H' : Hp} {O N : Own} (h : Has F O H) (s : Same H F') (n : Has F' N H') : Has (rmO O F') (N ++ O) H' ∧ Same F (rmO O F') := by
  have off : ∀ p ∈ O, ∀ q ∈ N, q.1 ≠ p.1 := fun p hp q hq e => by
    have := (n.own q hq).1
    rw [e, s _ _ (h.own p hp).2] at this
    cases this
  refine ⟨⟨fun b u e => ?_, fun p hp => ?_, ?_⟩, fun b u e => ?_⟩
  · unfold rmO at e
    split at e
    · cases e
    · exact n.same _ _ e
  · rcases List.mem_append.mp hp with m | m
    · refine ⟨?_, (n.own p m).2⟩
      unfold rmO
      split
      · rfl
      · exact (n.own p m).1
    · exact ⟨if_pos (List.mem_map.mpr ⟨p, m, rfl⟩), n.same _ _ (s _ _ (h.own p m).2)⟩
  · rw [List.map_append, List.nodup_append]
    refine ⟨n.nd, h.nd, fun a ha b hb e => ?_⟩
    obtain ⟨q, hq, rfl⟩ := List.mem_map.mp ha
    obtain ⟨p, hp, rfl⟩ := List.mem_map.mp hb
    exact off p hp q hq e
  · unfold rmO
    rw [if_neg]
    · exact s _ _ (h.same _ _ e)
    · intro m
      obtain ⟨p, hp, rfl⟩ := List.mem_map.mp m
      rw [(h.own p hp).1] at e
      cases e
/-- a call that changes what is owned ahead -/
theorem Has.swap {F H H' : Hp} {A A' R : Own} (h : Has F (A ++ R) H) (h' : Has (rmO A H) A' H') : Has F (A' ++ R) H' := by
  have nd := h.nd
  rw [List.map_append, List.nodup_append] at nd
  have inA : ∀ b, F b ≠ none → b ∉ A.map (·.1) := fun b e m => by
    obtain ⟨p, hp, rfl⟩ := List.mem_map.mp m
    exact e (h.own p (List.mem_append_left _ hp)).1
  have at_ : ∀ b, b ∉ A.map (·.1) → rmO A H b = H b := fun b n => if_neg n
  have sF : ∀ b u, F b = some u → rmO A H b = some u := fun b u e => by
    rw [at_ b (inA b (by rw [e]; exact fun z => by cases z))]
    exact h.same _ _ e
  have aR : ∀ p ∈ R, rmO A H p.1 = some p.2 := fun p hp => by
    rw [at_ p.1 (fun m => nd.2.2 _ m _ (List.mem_map.mpr ⟨p, hp, rfl⟩) rfl)]
    exact (h.own p (List.mem_append_right _ hp)).2
  refine ⟨fun b u e => h'.same _ _ (sF b u e), fun p hp => ?_, ?_⟩
  · rcases List.mem_append.mp hp with m | m
    · refine ⟨?_, (h'.own p m).2⟩
      cases e : F p.1 with
      | none => rfl
      | some u =>
        have := (h'.own p m).1
        rw [sF _ _ e] at this
        cases this
    · exact ⟨(h.own p (List.mem_append_right _ m)).1, h'.same _ _ (aR p m)⟩
  · rw [List.map_append, List.nodup_append]
    refine ⟨h'.nd, nd.2.1, fun a ha b hb e => ?_⟩
    subst e
    obtain ⟨p, hp, rfl⟩ := List.mem_map.mp ha
    obtain ⟨q, hq, e⟩ := List.mem_map.mp hb
    have := (h'.own p hp).1
    rw [← e, aR q hq] at this
    cases this
def treeO (d : Addr) (B : Bt) : Own := (d, HO.dK (bK B)) :: bO B
def tO (Bs : List (Addr × Bt)) : Own := Bs.flatMap fun q => treeO q.1 q.2
theorem tO_snoc (Bs : List (Addr × Bt)) (q : Addr × Bt) : tO (Bs ++ [q]) = tO Bs ++ treeO q.1 q.2 := by
  unfold tO
  rw [List.flatMap_append]
  simp
theorem tO_at {Bs : List (Addr × Bt)} {q : Addr × Bt} (h : q ∈ Bs) : ∀ p ∈ treeO q.1 q.2, p ∈ tO Bs := fun p hp => List.mem_flatMap.mpr ⟨q, h, hp⟩
theorem tr_in {F H : Hp} {O : Own} {d : Addr} {B : Bt} (h : Has F O H) (m : ∀ p ∈ treeO d B, p ∈ O) (n : (B.map (·.1)).Nodup) : TrAt H d (bA B) := tr_own (fun p hp => h.get (m p hp)) n
abbrev Tre := Tr
theorem Chg.right {O O' A : Own} {a : Addr} {o o' : HO} (c : Chg O a o o' O') : Chg (A ++ O) a o o' (A ++ O') := by
  induction A with
  | nil => exact c
  | cons x A ih => exact .tl ih
end Qk

/-! Qtt: loops and comprehensions over a tuple -/
namespace Qk
open PySem PySem.Spec PyProof.Rows L2
theorem k_it {X : Cx} {tg l : Expr} {tl : TE} (K : PySem.W.Frag) (h : PI X tg l (iTup X.K tl)) (e : X.K = K := by rfl) : PI X tg l (iTup K tl) := by subst e; exact h
def kLcT (K : PySem.W.Frag) (g : TG) (tt : TT) (te : TE) (vs : List Nat) (σ : L2.St) (x : V) (H : Hp) (Q : VK) : Prop := ∃ a, x = .ref a ∧ (∃ xs, SqT K H a xs) ∧ kLc (Itt K a) g tt te vs σ H Q
def kForT (K : PySem.W.Frag) (g : TG) (tb : TS) (D : Ends) (σ : L2.St) (x : V) (H : Hp) : Prop := ∃ a, x = .ref a ∧ (∃ xs, SqT K H a xs) ∧ kW (Itt K a) g tb D σ H
section
variable {K : PySem.W.Frag} {σ : L2.St} {F : Hp} {O O' : Own} {H : Hp} {Q : VK} {ta te : TE} {D : Ends} {ts : TS} {g : TG}
theorem g_lcT {tt : TT} {vs : List Nat} (q : ta σ H fun x H1 => kLcT K g tt te vs σ x H1 Q) : tLc (iTup K ta) g tt te vs σ H Q := q
theorem g_forT (q : te σ H fun x H1 => kForT K g ts D σ x H1) : tFor (iTup K te) g ts D σ H := q
/-- over a tuple that stands still -/
theorem k_lcT {a : Addr} {xs : List V} {tt : TT} {vs : List Nat} (h : H a = some (.tup xs)) (hH : Has F O H) (S : Nat → List V → Hp → Own → Prop) (h0 : S 0 [] F O) (hl : ∀ i acc F O H, S i acc F O → Has F O H → H a = some (.tup xs))
    (hs : ∀ i x acc F O D H, xs[i]? = some x → S i acc F O → Has F ((D, .lst acc) :: O) H → g x (wipe σ vs) H fun σ2 H2 => wipe σ2 vs = wipe σ vs ∧ tt σ2 H2 fun b H3 => if b = true then te σ2 H3 fun y H4 => kTurn D (kNx S i D) y H4 else kNx S i D H3)
    (hd : ∀ acc F O D H, S xs.length acc F O → Has F ((D, .lst acc) :: O) H → Q (.ref D) H) : kLcT K g tt te vs σ (.ref a) H Q := by
  refine ⟨a, rfl, ⟨xs, SqT.of h⟩, k_lc hH xs.length S h0 (fun i acc F O D H hi s hh => ?_) (fun acc F O D H s hh => ?_) (fun i x acc F O D H H' hi y s hh => ?_) hd⟩
  · exact ⟨xs, xs[i], SqT.of (hl i acc F O H s hh.drop), List.getElem?_eq_getElem hi⟩
  · exact ⟨xs, SqT.of (hl _ acc F O H s hh.drop), Nat.le_refl _⟩
  · obtain ⟨e, y⟩ := y
    subst e
    exact hs i x acc F O D _ (y xs (SqT.of (hl i acc F O _ s hh.drop))) s hh
theorem k_forT {a : Addr} {xs : List V} (h : H a = some (.tup xs)) (Pv : Nat → L2.St → Hp → Prop) (h0 : Pv 0 σ H) (hl : ∀ i σ H, i ≤ xs.length → Pv i σ H → H a = some (.tup xs))
    (hs : ∀ i x σ H, xs[i]? = some x → Pv i σ H → g x σ H fun σ2 H2 => ts { D with nx := Pv (i + 1), ct := Pv (i + 1), bk := D.nx } σ2 H2) (hd : ∀ σ H, Pv xs.length σ H → D.nx σ H) : kForT K g ts D σ (.ref a) H := by
  refine ⟨a, rfl, ⟨xs, SqT.of h⟩, fun i m σ H => m = xs.length - i ∧ i ≤ xs.length ∧ Pv i σ H, ⟨_, rfl, Nat.zero_le _, h0⟩, ?_⟩
  rintro i m σ H1 ⟨rfl, hi, p⟩
  have hq : SqT K H1 a xs := SqT.of (hl i σ H1 hi p)
  by_cases hlt : i < xs.length
  · refine .inr ⟨⟨xs, xs[i], hq, List.getElem?_eq_getElem hlt⟩, Pv (i + 1), fun σ' H' p' => ⟨xs.length - (i + 1), by omega, rfl, hlt, p'⟩, ?_⟩
    rintro x H' ⟨rfl, y⟩
    exact hs i x σ _ (y xs hq) p
  · have e : i = xs.length := by omega
    subst e
    exact .inl ⟨⟨xs, hq, Nat.le_refl _⟩, hd σ H1 p⟩
end
end Qk

/-! Qw: try with several clauses «except c as n», one name in all -/
namespace Qk
open PySem PySem.Spec PyProof.Rows L2
abbrev Cls3 := Addr → Value → Option Addr → TS
/-- the wish of the clauses, the first that fits takes it -/
def wAsM (K : PySem.W.Frag) (i : Nat) (Wout : WX) (D : Ends) : List (Value × Cls3) → WX
  | [] => Wout
  | p :: r => wAs K p.1 i p.2 (wAsM K i Wout D r) D
inductive Clauses (X : Cx) (n : Str) : List ExceptHandler → List (Value × Cls3) → Prop
  | nil : Clauses X n [] []
  | cons {x : Str} {c : Value} {ts : Cls3} {b : Stmt} {su : List Stmt} {q1 q2 : Pos} {hs : List ExceptHandler} {l : List (Value × Cls3)} (nm : Names X x c)
      (sp : ∀ (a : Addr) (o : Obj) (cls : Value) (d : Option Addr) (pn : List (Addr × Obj)), L2N.Zn cls d o → (∃ vs, o.data = .fields vs) → PSs (X.suite a ((a, o) :: pn)) (b :: su) (ts a cls d)) (rest : Clauses X n hs l) :
      Clauses X n (.ExceptHandler (some (.Name x q1)) (some n) (b :: su) q2 :: hs) ((c, ts) :: l)
set_option maxHeartbeats 4000000 in
theorem ps_tryM {X : Cx} {n : Str} {i : Nat} {body : List Stmt} {h0 : ExceptHandler} {hds : List ExceptHandler} {l : List (Value × Cls3)} {pos : Pos} {tb : WX → TS} {Wout : WX}
    (st : X.stack = X.env :: X.outer) (fr : X.env.frame = some X.env.locals) (nd : X.N.Nodup) (ni : X.N[i]? = some n) (lo : X.env.kindOf n = some .local) (tk : L2N.Takes X Wout)
    (hb : ∀ (W : WX) (pn : List (Addr × Obj)) (xe : Value → Shared → Prop), L2N.Takes (X.tr pn xe) W → PassesOwn (model X.prog X.w) X.A X.env xe → PSs (X.tr pn xe) body (tb W))
    (cs : Clauses X n (h0 :: hds) l) : PS X (.Try body (h0 :: hds) [] [] pos) (fun D σ H => tb (wAsM X.K i Wout D l) D σ H) := by
  refine ⟨fun pins s σ H D I want => ?_⟩
  have I0 := I.ok
  have frs0 : X.A.frames = some (X.env :: X.outer) := by rw [I0.frames, st]
  refine wpAny_Try_except ?_
  let caught : Value → Shared → Prop := fun e s1 => wpAny (model X.prog X.w) X.A (noteFrame e X.env) (fun _ s2 => wpAny (model X.prog X.w) X.A (setFlight e none) (fun _ s3 => wpAny (model X.prog X.w) X.A (handleBy e X.env (h0 :: hds)) (SP X pins D) X.xe s3) X.xe s2) X.xe s1
  have take : L2N.Takes (X.tr (X.pn ++ pins) caught) (wAsM X.K i Wout D l) := fun u s' xx => by
    obtain ⟨a, B, sI, pins', σ1, H1, cls, d, rfl, J', nb, up, sky, na, os, ag, w⟩ := xx
    have J : Inv X pins σ1 H1 sI := J'.ofTry I0
    have sk : Sky B (X.env :: X.outer) a (L2N.Zn cls d) X.env.locals s'.heap := by rw [← st]; exact sky
    show wpAny (model X.prog X.w) X.A (noteFrame (.ref a) X.env) _ _ _
    refine L2N.Sky.land L2N.Zn.steady frs0 fr sk fun h3 f3 u3 => ?_
    have J3 : Inv X pins σ1 H1 { s' with heap := h3 } := J.landed nb f3.1 (up.trans u3) os ag
    obtain ⟨o3, vs3, at3, z3, d3⟩ := f3.there
    have noFrame : a ∉ frs (X.env :: X.outer) := fun m => by
      obtain ⟨_, o', e', bad⟩ := f3.2.2.1.mem m
      rw [at3] at e'
      cases e'
      exact bad _ d3
    have nL : a ≠ X.env.locals := fun z => noFrame (List.mem_filterMap.mpr ⟨X.env, List.mem_cons_self, by rw [fr, z]⟩)
    have nF : a ∉ X.fs := fun m => by
      obtain ⟨e, he, q⟩ := List.mem_filterMap.mp m
      exact noFrame (List.mem_filterMap.mpr ⟨e, List.mem_cons_of_mem _ he, q⟩)
    have S3 := J3.suite at3 d3 na nL nF
    have step : ∀ {hs : List ExceptHandler} {l' : List (Value × Cls3)}, Clauses X n hs l' → wAsM X.K i Wout D l' cls d σ1 H1 → wpAny (model X.prog X.w) X.A (handleBy (.ref a) X.env hs) (SP X pins D) X.xe { s' with heap := h3 } := by
      intro hs l' c
      induction c with
      | nil =>
        intro w0
        refine wpAny_handleBy_nil ?_
        obtain ⟨_, _, _, oe, vs, T, _, _, he, _, hd, h1, _⟩ := id f3
        unfold PySem.passOn
        refine wpAny_bind (wpAny_field he hd h1 ?_)
        have nn : ¬ (Value.ref T == Value.none) = true := by simp
        rw [if_neg nn]
        have off : wpAny (model X.prog X.w) X.A (setFlight (.ref a) X.env.frame) (fun _ s4 => wpAny (model X.prog X.w) X.A (throw (.ref a) : Sem Flow) (SP X pins D) X.xe s4) X.xe { s' with heap := h3 } := by
          rw [fr]
          refine HandSPX.setFlight_upZ f3 fun h4 g4 u4 => wpAny_throw (tk _ _ ?_)
          exact ⟨a, B, sI, pins, σ1, H1, cls, d, rfl, J, nb, (up.trans u3).trans u4, .inr (.inr (by rw [st]; exact g4)), na, os, ag, w0⟩
        first
          | exact wpAny_bind (wpAny_pure (wpAny_bind off))
          | exact wpAny_bind off
      | @cons x c ts b su q1 q2 hs2 l2 nm sp rest ih =>
        intro w0
        obtain ⟨yes, fits, inS, goOn⟩ := w0
        refine wpAny_handleBy_cons (codeAny_handlers_test ?_) (by intro q; cases q)
        have ty : PySem.W.Looks (model X.prog X.w) h3 (typeOf (.ref a)) cls := fun _ _ _ _ k q => wpAny_typeOf_ref (k _ _ at3) (by rw [z3.1]; exact q)
        have look := PySem.W.exm_one (M := model X.prog X.w) J3.kIn ty fits
        have named : ∀ {Q : Value → Shared → Prop} {E : Value → Shared → Prop}, Q c { s' with heap := h3 } → wpAny (model X.prog X.w) (X.A.mark (some (.ref a))) (eval (.Name x q1) X.env) Q E { s' with heap := h3 } := fun {Q E} q => by
          obtain ⟨g1, g2, g3 | ⟨g3, g4, g5⟩⟩ := nm
          · exact ld_glob (X := X.suite a ((a, o3) :: (X.pn ++ pins))) S3 g1 g3 q g2
          · exact ld_blt (X := X.suite a ((a, o3) :: (X.pn ++ pins))) S3 g1 g3 g4 q g5 g2
        refine named (look.here ?_)
        cases yes with
        | false =>
          show wpAny _ X.A (handleBy (.ref a) X.env hs2) _ _ _
          exact ih (goOn rfl)
        | true =>
          refine codeAny_handlers_suite_as ?_
          refine HandSPX.lands_againZ f3 fun h4 f4 u4 => ?_
          have J4 : Inv X pins σ1 H1 { s' with heap := h4 } := J.landed nb f4.1 ((up.trans u3).trans u4) os ag
          obtain ⟨o4, vs4, at4, z4, d4⟩ := f4.there
          have S4 := J4.suite at4 d4 na nL nF
          refine store_ok (X := X.suite a ((a, o4) :: (X.pn ++ pins))) (v := .ref a) S4 nd ni (.inl lo) rfl (fun s5 S5 => ?_) (.inr lo)
          refine wpAny_mono ((sp a o4 cls d (X.pn ++ pins) z4 ⟨_, d4⟩).run [] s5 _ H1 _ S5 (inS rfl a na)) (fun f s6 got => ?_) (fun _ _ z => z.elim)
          have done : ∀ {σ6 : L2.St} {H6 : Hp} {Q : Shared → Prop}, Inv (X.suite a ((a, o4) :: (X.pn ++ pins))) [] σ6 H6 s6 → (∀ s7, Inv X pins (σ6.set i none) H6 s7 → Q s7) → wpAny (model X.prog X.w) X.A (do bindName X.env n .none; unbindBehindTheSuite X.env n q2) (fun _ s7 => Q s7) X.xe s6 :=
            fun S6 hq => gone_ok (S6.unsuite I0) nd ni lo hq
          match f, got with
          | .next, ⟨_, _, S6, q6⟩ => exact done S6 fun s7 J7 => ⟨_, _, J7, q6⟩
          | .brk, ⟨_, _, S6, q6⟩ => exact done S6 fun s7 J7 => ⟨_, _, J7, q6⟩
          | .cont, ⟨_, _, S6, q6⟩ => exact done S6 fun s7 J7 => ⟨_, _, J7, q6⟩
          | .ret _, ⟨_, _, _, S6, r6, q6⟩ => exact done S6 fun s7 J7 => ⟨_, _, _, J7, r6, q6⟩
    exact step cs w
  refine wpAny_mono ((hb (wAsM X.K i Wout D l) (X.pn ++ pins) caught take PassesOwn.looking).run [] s σ H D (I.toTry _) want) (fun f s1 got => ?_) (fun e s1 he => he)
  match f, got with
  | .next, ⟨_, _, J', q⟩ => exact wpAny_execs_nil ⟨_, _, J'.ofTry I0, q⟩
  | .brk, ⟨_, _, J', q⟩ => exact ⟨_, _, J'.ofTry I0, q⟩
  | .cont, ⟨_, _, J', q⟩ => exact ⟨_, _, J'.ofTry I0, q⟩
  | .ret _, ⟨_, _, _, J', r, q⟩ => exact ⟨_, _, _, J'.ofTry I0, r, q⟩
def tTryM (K : PySem.W.Frag) (i : Nat) (tb : WX → TS) (l : List (Value × Cls3)) (Wout : WX) : TS := fun D σ H => tb (wAsM K i Wout D l) D σ H
theorem k_tryM {X : Cx} {n : Str} {i : Nat} {body : List Stmt} {h0 : ExceptHandler} {hds : List ExceptHandler} {l : List (Value × Cls3)} {pos : Pos} {tb : WX → TS} {Wout : WX} (K : PySem.W.Frag)
    (st : X.stack = X.env :: X.outer) (fr : X.env.frame = some X.env.locals) (nd : X.N.Nodup) (ni : X.N[i]? = some n) (lo : X.env.kindOf n = some .local) (tk : L2N.Takes X Wout)
    (hb : ∀ (W : WX) (pn : List (Addr × Obj)) (xe : Value → Shared → Prop), L2N.Takes (X.tr pn xe) W → PassesOwn (model X.prog X.w) X.A X.env xe → PSs (X.tr pn xe) body (tb W))
    (cs : Clauses X n (h0 :: hds) l) (e : X.K = K := by rfl) : PS X (.Try body (h0 :: hds) [] [] pos) (tTryM K i tb l Wout) := by
  subst e
  exact ps_tryM st fr nd ni lo tk hb cs
theorem g_tryM {K : PySem.W.Frag} {i : Nat} {tb : WX → TS} {l : List (Value × Cls3)} {Wout : WX} {D : Ends} {σ : L2.St} {H : Hp} (q : tb (wAsM K i Wout D l) D σ H) : tTryM K i tb l Wout D σ H := q
theorem g_caughtM {K : PySem.W.Frag} {c cls : Value} {i : Nat} {ts : Cls3} {r : List (Value × Cls3)} {Wout : WX} {D : Ends} {d : Option Addr} {σ : L2.St} {H : Hp} (m : PySem.W.exmOne K cls c = some true)
    (q : ∀ a, H a = none → ts a cls d { nx := fun σ' H' => D.nx (σ'.set i none) H', rt := D.rt, bk := fun σ' H' => D.bk (σ'.set i none) H', ct := fun σ' H' => D.ct (σ'.set i none) H' } (σ.set i (some (.ref a))) H) : wAsM K i Wout D ((c, ts) :: r) cls d σ H :=
  g_caught m q
theorem g_passM {K : PySem.W.Frag} {c cls : Value} {i : Nat} {ts : Cls3} {r : List (Value × Cls3)} {Wout : WX} {D : Ends} {d : Option Addr} {σ : L2.St} {H : Hp} (m : PySem.W.exmOne K cls c = some false) (q : wAsM K i Wout D r cls d σ H) : wAsM K i Wout D ((c, ts) :: r) cls d σ H :=
  ⟨false, m, (fun z => by cases z), fun _ => q⟩
end Qk

set_option maxHeartbeats 2000000
/-! Qh: where an exception is handled: a list comprehension over range(n), all() of a list of truth values. -/
namespace Qk
open PySem PySem.Spec PyProof.Rows L2 HotX L2H
/-! ### a list's end, all() -/
section
variable {prog : Program} {w : World} {A : Around} {E : Value → Shared → Prop} {s : Shared}
theorem next_list_endH {it l x1 : Addr} {i : Nat} {items : Array Value} {Q : Option Value → Shared → Prop} (hot : HotAt A x1 s.heap) (hit : s.heap.IsListIter it l i) (hl : s.heap.IsList l items) (hx : items[i]? = none) (hne : x1 ≠ it)
    (hQ : ∀ h', (∀ b o, b ≠ it → s.heap.get? b = some o → h'.get? b = some o) → Q none { s with heap := h' }) : wpAny (model prog w) A (pyNext (.ref it)) Q E s := by
  obtain ⟨o, ho, hc, hd⟩ := id hit
  obtain ⟨ol, hol, _, nl, hdl⟩ := hl
  obtain ⟨hh, o1, vs1, h1, d1, c1⟩ := hot
  unfold pyNext
  refine wpAny_bind (wpAny_attempt (wpAny_callSpecial?_slot (name := Str.ofString "__next__") hit.typeIs slot_listiter_next
    (wpAny_call_entry slot_listiter_next hit.typeIs entry_listiter_next ?_ (args_listiter_next _))))
  show wpAny _ _ (field (.ref it) 0 >>= _) _ _ s
  refine wpAny_bind (wpAny_field ho hd (x := .ref l) rfl ?_)
  show wpAny _ _ (if (Value.ref l == Value.none) = true then _ else _) _ _ s
  rw [if_neg (show ¬ ((Value.ref l == Value.none) = true) from Bool.false_ne_true)]
  show wpAny _ _ (field (.ref it) 1 >>= _) _ _ s
  refine wpAny_bind (wpAny_field ho hd (x := .int i 0) rfl ?_)
  show wpAny _ _ (seqItems? (.ref l) >>= _) _ _ s
  refine wpAny_bind (wpAny_seqItems hol hdl ?_)
  simp only [Int.toNat_natCast, hx]
  refine wpAny_bind (wpAny_rule (wpAny_bind (wpAny_setField ho hd (by simp) ?_)))
  have k0 : ∀ b u, b ≠ it → s.heap.get? b = some u → (s.heap.update it (Obj.mapFields (·.setIfInBounds 0 .none))).get? b = some u := fun b u ne e => by
    rw [Heap.get?_update_other _ _ (Ne.symm ne)]
    exact e
  show wpAny _ _ (newExc (.type "StopIteration") [] >>= _) _ _ _
  refine wpAny_bind ?_
  simp only [newExc, newTuple]
  refine wpAny_bind (wpAny_newObj_type ?_ (by size_fits))
  refine wpAny_bind (m := firstArgMember _ _) (wpAny_of_eq (a := Value.none) (by first | rfl | (simp only [firstArgMember]; rfl)) ?_)
  refine wpAny_newObj_type ?_ (by size_fits)
  refine raiseNew_hot ⟨hh, o1, vs1, Heap.get?_push_of_some _ (Heap.get?_push_of_some _ (k0 _ _ hne h1)), d1, c1⟩ (Nat.ne_of_lt (Heap.lt_size (Heap.get?_push_of_some _ (k0 _ _ hne h1)))) (Heap.get?_push_size _ rfl) rfl (by first | (simp; done) | (simp; omega) | (simp only [Array.size_append]; simp; omega)) ?_
  refine wpAny_bind (wpAny_isInstance (T := "StopIteration") (b := true) ⟨_, Heap.get?_update_self _ (Heap.get?_push_size _ rfl) rfl, rfl⟩ isSubtype_stop ?_)
  refine wpAny_pure (hQ _ fun b u ne e => ?_)
  rw [Heap.get?_update_other _ _ (Nat.ne_of_gt (Heap.lt_size (Heap.get?_push_of_some _ (k0 b u ne e))))]
  exact Heap.get?_push_of_some _ (Heap.get?_push_of_some _ (k0 b u ne e))
end
theorem walks_listH {prog : Program} {w : World} {A : Around} {x1 : Addr} (I ax : Addr) (hne : ax ≠ I) (hn1 : x1 ≠ I) (items : Array Value) :
    Walks prog w A I [I, ax, x1] [I] items.size (fun i v => items[i]? = some v) (fun i h => (h.IsListIter I ax i ∧ h.IsList ax items) ∧ HotAt A x1 h) where
  sub := fun b hb => by simp at hb; simp [hb]
  frame := fun _ _ _ st hk => by
    obtain ⟨⟨s1, s2⟩, hh, o1, vs1, h1, d1, c1⟩ := st
    exact ⟨⟨s1.at fun o e => hk I (by simp) o e, s2.at fun o e => hk ax (by simp) o e⟩, hh, o1, vs1, hk x1 (by simp) _ h1, d1, c1⟩
  item := fun i s Q E hi st hQ => by
    obtain ⟨⟨s1, s2⟩, hh, o1, vs1, h1, d1, c1⟩ := st
    refine wpAny_pyNext_list_item s1 s2 (x := items[i]) (by simp [hi]) fun h' hit' hs' => ?_
    exact hQ _ h' s.toks (by simp [hi]) ⟨⟨hit', s2.extBut hs'.extBut hne⟩, hh, o1, vs1, hs'.extBut x1 o1 hn1 h1, d1, c1⟩ fun b o hb e => hs'.extBut b o (fun h => hb (by simp [h])) e
  done := fun s Q E st hQ => next_list_endH st.2 st.1.1 st.1.2 (by simp) hn1 fun h' he' => hQ h' s.toks fun b o hb e => he' b o (fun h => hb (by simp [h])) e
  self := fun _ _ _ _ st hQ => wpAny_pyIter_listiter st.1.1 hQ
theorem cr_allH {X : Cx} (K : PySem.W.Frag) (hc : HotC X) (e : X.K = K := by rfl) : CallR X (.builtin "all") (rAll K) := by
  subst e
  intro pins s σ H vs us Q I r h
  obtain ⟨a, bs, rfl, hs, q⟩ := h
  obtain ⟨its, rv, hl, _⟩ := I.list hs
  rw [Vals.ref1 r]
  have hb := rv.bls
  obtain ⟨x1, hh, o1, vs1, h1, d1, c1⟩ := hc.at I
  refine call_all_walk (iter_any hl.isList fun s₂ e2 st hne => ?_)
  subst e2
  have n1 : x1 ≠ s.heap.objs.size := Nat.ne_of_lt (Heap.lt_size h1)
  refine ⟨_, _, _, _, _, _, _, rfl, walks_listH (A := X.A.in1) (x1 := x1) _ a hne n1 its.toArray, ⟨st, hh, o1, vs1, Heap.get?_push_of_some _ h1, d1, c1⟩, truth_bools hb, fun h' tk hk => ?_⟩
  refine ⟨.bl _, H, I.kept fun b o eo => hk b o (fun hmem => ?_) (Heap.get?_push_of_some _ eo), ?_, q⟩
  · rcases List.mem_cons.mp hmem with e1 | hmem
    · exact absurd (e1 ▸ Heap.lt_size eo) (Nat.lt_irrefl _)
    · cases hmem
  · show Value.bool _ = Value.bool _
    rw [← L2.all_range, hb, List.size_toArray, List.length_map]
/-! ### the comprehension's block, the handled exception kept in sight -/
abbrev blkH (X : Cx) (s : Shared) (H : Hp) (scope : Scope) (cenv : Env) (fp : List Addr) (p : Addr × Obj) : Cx := { X.blk s H scope cenv fp with pn := [p] }
theorem blkH_ok {X : Cx} {s : Shared} {H : Hp} {scope : Scope} {cenv : Env} {fp : List Addr} {p : Addr × Obj} (ok : (X.blk s H scope cenv fp).Ok) : (blkH X s H scope cenv fp p).Ok :=
  ⟨ok.mod, ok.kind, ok.glob, ok.blt, ok.above, ok.inj, ok.has, ok.cab, ok.hd, ok.frames, ok.stk, ok.exf, ok.bs, ok.bsz, ok.noex, ok.exfs, ok.funs, ok.frf⟩
section
variable {X : Cx}
theorem lcH {pins : List (Addr × Obj)} {s : Shared} {σ : L2.St} {H : Hp} {Q : VK} {elt tg iter : Expr} {ifs : List Expr} {scope : Scope} {own : List (Str × Nat)} {pos pos' : Pos} {wi : TI} {g : TG} {tt : TT} {te : TE} {use : Option (Value → Sem Unit)} {Qf : Value → Shared → Prop}
    (hc : HotC X) (hN : X.N.Nodup) (I : Inv X pins σ H s) (hi : PIH X tg iter wi) (ok : BlkOk X.N X.env.scope scope own)
    (hg : ∀ (s : Shared) (H : Hp) (C : Addr) (cl : List (Str × Addr)) (fp : List Addr) (p : Addr × Obj), Hot1 X.A p → PG (blkH X s H scope (compEnvC scope cl C X.env) fp p) tg g) (ht : ∀ (s : Shared) (H : Hp) (C : Addr) (cl : List (Str × Addr)) (fp : List Addr) (p : Addr × Obj), Hot1 X.A p → PTs (blkH X s H scope (compEnvC scope cl C X.env) fp p) ifs tt)
    (he : ∀ (s : Shared) (H : Hp) (C : Addr) (cl : List (Str × Addr)) (fp : List Addr) (p : Addr × Obj), Hot1 X.A p → PE (blkH X s H scope (compEnvC scope cl C X.env) fp p) elt te) (hs : ∀ x, foldedSetIterable iter X.env x = pure x)
    (h : tLc wi g tt te (own.map (·.2)) σ H Q)
    (hRR : ∀ D C s' m H', Inv X pins σ H' s' → Q (.ref D) H' → s'.heap.Ns C m → FpOk X pins H' C → compPost (model X.prog X.w) X.A X.xe use Qf (.ref D) C (.ok .next) s') :
    wpAny (model X.prog X.w) X.A (comprehension (.ListComp elt [⟨tg, iter, ifs, 0⟩] scope pos) scope X.env pos' (newList []) false (eval iter X.env) use) Qf X.xe s := by
  obtain ⟨p, hot, hp⟩ := hc
  have hfree : ∀ y ∈ scope.names, y.2 = .free → ∃ c, X.env.cells.lookup y.1 = some c := fun y hy e => by
    rcases ok.free y hy e with k | k
    · exact I.ok.has _ (.inl k)
    · exact I.ok.has _ (.inr k)
  refine wpAny_comprehension_free (use := use) rfl hs (closure_ok hfree) ok.kind (fun y hy e => by rw [ok.uniq y hy, e])
    (thn (hi.run pins s σ H _ I h) fun xv s1 hx => thn hx fun itv s2 h2 => ?_)
  obtain ⟨it, fp, tn, J, H2, e, I2, T, st2, f2, q⟩ := h2
  subst e
  refine wpAny_newObj_type (newEnv_comp ?_) (by show 0 ≤ sizeLine; decide)
  generalize hD : s2.heap.objs.size = D
  have hDn : H2 D = none := I2.hok.fresh (Nat.le_of_eq hD)
  obtain ⟨W, ⟨m0, w0⟩, turn⟩ := q D hDn
  generalize hs3 : ({ s2 with heap := s2.heap.push { cls := .type "list", data := .seq ([] : List Value).toArray } } : Shared) = s3
  have I3 : Inv X pins σ (upd H2 D (.lst [])) s3 := by
    rw [← hs3]
    refine I2.laid (t' := s2.toks) (fun b o e => Heap.get?_push_of_some _ e) (Nat.le_of_eq hD) ⟨Nat.zero_le _, [], 0, .nil, ?_⟩
    rw [← hD]
    exact Heap.get?_push_size _ rfl
  have h3 : s3.heap = s2.heap.push { cls := .type "list", data := .seq ([] : List Value).toArray } := by rw [← hs3]
  have sz : ∀ b ∈ fp, b < s2.heap.objs.size := fun b hb => by
    obtain ⟨o, e, _⟩ := T.obj _ _ st2 b hb
    exact Heap.lt_size e
  have f3 : ∀ b ∈ fp, FpOk X pins (upd H2 D (.lst [])) b ∧ b < s3.heap.objs.size := fun b hb => by
    have hlt := sz b hb
    refine ⟨⟨?_, (f2 b hb).2⟩, by rw [h3, Heap.size_push]; exact Nat.lt_succ_of_lt hlt⟩
    rw [upd_ne (by rw [← hD]; exact Nat.ne_of_lt hlt)]
    exact (f2 b hb).1
  have st3 : tn 0 s3.heap := T.keep _ _ _ st2 fun b _ o e => by rw [h3]; exact Heap.get?_push_of_some _ e
  have P3 := I3.pin p (List.mem_append_left _ hp)
  have I4' := block_start I3 ok hN f3
  have I4 : Inv (blkH X s3 (upd H2 D (.lst [])) scope (compEnvC scope (cellsFrom (s3.heap.objs.size + 1) scope.names (cloFrom X.env.cells scope.names [])) s3.heap.objs.size X.env) fp p) [] (wipe σ (own.map (·.2))) (upd H2 D (.lst [])) { s3 with heap := pushCells (s3.heap.push { cls := .type "dict", data := .dict #[] }) scope.names } := by
    refine ⟨blkH_ok I4'.ok, I4'.os, I4'.bare, I4'.base, I4'.loc, I4'.cell, I4'.free, I4'.freeC, fun q hq => ?_, I4'.hok, I4'.len⟩
    have e : q = p := by simpa using hq
    subst e
    refine ⟨pushCells_keeps _ _ _ _ (Heap.get?_push_of_some _ P3.1), P3.2.1, ?_, ?_, P3.2.2.2.2⟩
    · show q.1 ≠ s3.heap.objs.size
      exact Nat.ne_of_lt (Heap.lt_size P3.1)
    · intro hm
      exact (List.mem_cons.mp (I3.stkSub q.1 hm)).elim P3.2.2.1 P3.2.2.2.1
  have pg := hg s3 (upd H2 D (.lst [])) s3.heap.objs.size (cellsFrom (s3.heap.objs.size + 1) scope.names (cloFrom X.env.cells scope.names [])) fp p hot
  have pt := ht s3 (upd H2 D (.lst [])) s3.heap.objs.size (cellsFrom (s3.heap.objs.size + 1) scope.names (cloFrom X.env.cells scope.names [])) fp p hot
  have pe := he s3 (upd H2 D (.lst [])) s3.heap.objs.size (cellsFrom (s3.heap.objs.size + 1) scope.names (cloFrom X.env.cells scope.names [])) fp p hot
  clear I4'
  show codeAny _ _ (.compStart (.ListComp elt [⟨tg, iter, ifs, 0⟩] scope pos) 0 (.ref it) (.ref D) (compEnvC scope (cellsFrom (s3.heap.objs.size + 1) scope.names (cloFrom X.env.cells scope.names [])) s3.heap.objs.size X.env)) (compPost (model X.prog X.w) X.A X.xe use Qf (.ref D) s3.heap.objs.size) { s3 with heap := pushCells (s3.heap.push { cls := .type "dict", data := .dict #[] }) scope.names }
  have nfp : ∀ b ∈ fp, (upd H2 D (.lst [])) b = none := fun b hb => (f3 b hb).1.1
  generalize hce : compEnvC scope (cellsFrom (s3.heap.objs.size + 1) scope.names (cloFrom X.env.cells scope.names [])) s3.heap.objs.size X.env = ce at I4 pg pt pe ⊢
  have cL : ce.locals = s3.heap.objs.size := by subst hce; rfl
  generalize hH3 : upd H2 D (.lst []) = H3 at I3 I4 pg pt pe w0 nfp f3 P3
  generalize hs4 : ({ s3 with heap := pushCells (s3.heap.push { cls := .type "dict", data := .dict #[] }) scope.names } : Shared) = s4 at I4 ⊢
  have st4 : tn 0 s4.heap := T.keep _ _ _ st3 fun b _ o e => by rw [← hs4]; exact pushCells_keeps _ _ _ _ (Heap.get?_push_of_some _ e)
  have hcB : HotC (blkH X s3 H3 scope ce fp p) := ⟨p, hot, List.mem_singleton.mpr rfl⟩
  have stat : ∀ {σ' : L2.St} {H' : Hp} {s' : Shared}, Inv (blkH X s3 H3 scope ce fp p) [] σ' H' s' → (∀ b ∈ fp, H' b = none) → ∀ b ∈ fp, FpOk (blkH X s3 H3 scope ce fp p) [] H' b := fun {σ' H' s'} I' hn b hb =>
    ⟨hn b hb, (I'.ok.exf b hb).1, I'.ok.exfs b hb, .inl hb, fun x c e => (I'.ok.exf b hb).2 x c e, fun q hq => by
      have e : q = p := by simpa using hq
      subst e
      exact (f3 b hb).1.2.2.2.2.2 q (List.mem_append_left _ hp)⟩
  have loop : codeAny (model X.prog X.w) X.A (.compLoop (.ListComp elt [⟨tg, iter, ifs, 0⟩] scope pos) 0 (.ref it) (.ref D) ce) (compPost (model X.prog X.w) X.A X.xe use Qf (.ref D) s3.heap.objs.size) s4 := by
    refine compLoop_any (fun n s' => ∃ i H', Inv (blkH X s3 H3 scope ce fp p) [] (wipe σ (own.map (·.2))) H' s' ∧ tn i s'.heap ∧ (∀ b ∈ fp, H' b = none) ∧ W i n H') ?_ m0 ⟨0, H3, I4, st4, nfp, w0⟩
    rintro n s5 ⟨i, H5, I5, st5, n5, w5⟩
    rcases turn i n H5 w5 with ⟨stop, qq⟩ | ⟨go, Nx, hNx, step⟩
    · have td := T.done (blkH X s3 H3 scope ce fp p) rfl rfl rfl hcB i [] s5 _ H5 (fun _ _ => False) I5 (stat I5 n5) st5 stop
      refine thnF td fun r s6 ⟨hr, I6⟩ => ?_
      subst hr
      have I7 : Inv X pins σ H5 s6 := I3.call' (ch := fp) I6.os I6.base I6.hok I6.bare fun b hb => ⟨(f3 b hb).1.2.2.2.1, (f3 b hb).1.2.1, (f3 b hb).1.2.2.2.2.1, (f3 b hb).1.2.2.2.2.2⟩
      have nC : H5 s3.heap.objs.size = none := by
        have z : H5 ce.locals = none := I6.free
        rw [cL] at z
        exact z
      obtain ⟨m, hn, _⟩ := I6.loc
      have hn : s6.heap.Ns ce.locals m := hn
      rw [cL] at hn
      exact hRR D s3.heap.objs.size s6 m H5 I7 qq hn (I3.fpOk (Nat.le_refl _) nC)
    · have ti := T.item (blkH X s3 H3 scope ce fp p) rfl rfl rfl hcB i [] s5 _ H5 (fun _ _ => False) I5 (stat I5 n5) st5 go
      refine thnF ti fun r s6 ⟨u, hr, h6⟩ => ?_
      subst hr
      refine thnF h6 fun _ s7 ⟨x, H7, I7, r7, y7, st7, n7⟩ => ?_
      have I7' := I7.pinned (stat I7 n7) (T.obj _ _ st7)
      refine thnF (pg.run _ s7 _ H7 x u _ I7' r7 (step x H7 y7)) fun _ s8 ⟨σ8, H8, I8, hw8, q8⟩ => ?_
      refine thnF (pt.run _ s8 σ8 H8 _ I8 q8) fun b s9 ⟨H9, I9, q9⟩ => ?_
      have fin : ∀ {s' : Shared} {H' : Hp}, Inv (blkH X s3 H3 scope ce fp p) ([] ++ pinsAt fp s7.heap) σ8 H' s' → Nx H' → ∃ m, m < n ∧ ∃ i H', Inv (blkH X s3 H3 scope ce fp p) [] (wipe σ (own.map (·.2))) H' s' ∧ tn i s'.heap ∧ (∀ b ∈ fp, H' b = none) ∧ W i m H' := fun {s' H'} I' nx => by
        obtain ⟨m', hm, w'⟩ := hNx H' nx
        have pin' : ∀ b ∈ fp, ∀ o, s7.heap.get? b = some o → s'.heap.get? b = some o ∧ H' b = none := fun b hb o e =>
          let z := I'.pin (b, o) (List.mem_append_right _ (List.mem_append_right _ (mem_pinsAt hb e)))
          ⟨z.1, z.2.1⟩
        have hl : (wipe σ (own.map (·.2))).length = σ8.length := by rw [← hw8, wipe_length]
        refine ⟨m', hm, i + 1, H', (I'.unpinned (pins := [])).weak hl (fun j v e => ?_), T.keep _ _ _ st7 fun b hb o e => (pin' b hb o e).1, fun b hb => ?_, w'⟩
        · rw [← hw8] at e
          exact (wipe_some e).1
        · obtain ⟨o, e, _⟩ := T.obj _ _ st7 b hb
          exact (pin' b hb o e).2
      cases b with
      | false =>
        simp only [Bool.false_eq_true, if_false] at q9 ⊢
        exact fin I9 q9
      | true =>
        simp only [if_true] at q9 ⊢
        refine thnF (pe.run _ s9 σ8 H9 _ I9 q9) fun z s10 ⟨yv, H10, I10, r10, acc, hD10, hz10, nx⟩ => ?_
        exact app_ok (X := blkH X s3 H3 scope ce fp p) I10 hD10 hz10 r10 fun s11 I11 => fin I11 nx
  exact codeAny_compStart_list loop (T.self X.A 0 _ _ _ st4 loop)
theorem pe_lcH {elt tg iter : Expr} {ifs : List Expr} {scope : Scope} {own : List (Str × Nat)} {pos : Pos} {wi : TI} {g : TG} {tt : TT} {te : TE} (hc : HotC X) (hN : X.N.Nodup) (hi : PIH X tg iter wi) (ok : BlkOk X.N X.env.scope scope own)
    (hg : ∀ (s : Shared) (H : Hp) (C : Addr) (cl : List (Str × Addr)) (fp : List Addr) (p : Addr × Obj), Hot1 X.A p → PG (blkH X s H scope (compEnvC scope cl C X.env) fp p) tg g) (ht : ∀ (s : Shared) (H : Hp) (C : Addr) (cl : List (Str × Addr)) (fp : List Addr) (p : Addr × Obj), Hot1 X.A p → PTs (blkH X s H scope (compEnvC scope cl C X.env) fp p) ifs tt)
    (he : ∀ (s : Shared) (H : Hp) (C : Addr) (cl : List (Str × Addr)) (fp : List Addr) (p : Addr × Obj), Hot1 X.A p → PE (blkH X s H scope (compEnvC scope cl C X.env) fp p) elt te) (hs : ∀ x, foldedSetIterable iter X.env x = pure x := by intro _; rfl) :
    PE X (.ListComp elt [⟨tg, iter, ifs, 0⟩] scope pos) (tLc wi g tt te (own.map (·.2))) := by
  refine ⟨fun pins s σ H Q I h => ?_⟩
  rw [eval_ListComp]
  refine lcH hc hN I hi ok hg ht he hs h fun D C s' m H' I' q hn f => ⟨m, hn, fun h'' sb => ?_⟩
  obtain ⟨f0, f1, f2, f3, f4, f5⟩ := f
  exact ⟨.ref D, H', I'.turned (t' := s'.toks) (fun b o hb e => (sb.2 b hb).trans e) f0 f1 f3 f4 f5, rfl, q⟩
end
/-! ### in a suite: isinstance(e, (c, d)) -/
theorem vals_refs : ∀ {cs : List Addr} {its : List Value}, Vals (cs.map V.ref) its → its = cs.map Value.ref
  | [], _, .nil => rfl
  | c :: cs, _, .cons r rr => by
    obtain rfl := (show _ = Value.ref c from r)
    rw [vals_refs rr]
    rfl
def rIsXU (K : PySem.W.Frag) (a : Addr) (cls : Value) (d : Option Addr) : List V → Hp → VK → Prop := fun xs H Q => ∃ (D tp : Addr) (cs : List Addr) (b : Bool), cls = .ref D ∧ IsC K D ∧ (d = none ∨ ∃ dd fs, d = some dd ∧ H dd = some (.xd fs)) ∧ xs = [.ref a, .ref tp] ∧ H tp = some (.tup (cs.map V.ref)) ∧ PySem.W.kitAny K (.ref D) (cs.map Value.ref) = some b ∧ Q (.bl b) H
theorem cr_isXU {X : Cx} {a : Addr} {oe : Obj} {cls : Value} {d : Option Addr} {pn : List (Addr × Obj)} (K : PySem.W.Frag) (hz : L2.Zc cls d oe) (hf : ∃ vs, oe.data = .fields vs) (e : X.K = K := by rfl) : CallR (X.suite a ((a, oe) :: pn)) (.builtin "isinstance") (rIsXU K a cls d) := by
  subst e
  intro pins s σ H xs us Q I r h
  obtain ⟨D, tp, cs, b, ecl, C, hd, rfl, hT, e, q⟩ := h
  obtain ⟨u1, u2, rfl, r1, r2⟩ := vals2 r
  cases (show u1 = Value.ref a from r1)
  cases (show u2 = Value.ref tp from r2)
  obtain ⟨hget, _⟩ := I.pin (a, oe) (List.mem_append.mpr (.inl List.mem_cons_self))
  obtain ⟨vs, hv⟩ := hf
  have hcl : oe.cls = .ref D := hz.1.trans ecl
  have hdx := hz.2
  obtain ⟨_, its, rv, o, h1, h2, n, h3⟩ := (show ObjOk X.prog X.w H s.heap tp (.tup (cs.map V.ref)) from I.hok tp _ hT)
  have e3 := vals_refs rv
  subst e3
  obtain ⟨oc, od, dt, sl⟩ := o
  simp only at h2 h3
  subst h2 h3
  have key : ∀ od, PySem.W.InstAt s.heap a oe D od → wpAny (model X.prog X.w) (X.suite a ((a, oe) :: pn)).A (call (.builtin "isinstance") [.ref a, .ref tp]) (EP (X.suite a ((a, oe) :: pn)) pins σ Q) (X.suite a ((a, oe) :: pn)).xe s := fun od J =>
    PySem.W.kia_tup (PySem.W.kitx_exc C.cl C.hg C.hk C.hs C.ha C.hn C.ht C.hm) I.kIn J h1 e (fun z => nomatch z) fun tk => ⟨.bl b, H, I.kept (t' := tk) fun _ _ z => z, rfl, q⟩
  rcases hd with hd | ⟨dd, fs, hd, ea⟩
  · refine key none ?_
    rw [hd] at hdx
    exact ⟨hget, hcl, by unfold PySem.W.notCls; rw [hv] <;> rfl, by rw [hdx]; trivial⟩
  · have hx : ObjOk X.prog X.w H s.heap dd (.xd fs) := I.hok dd _ ea
    obtain ⟨mA, hns, hr⟩ := hx
    obtain ⟨od, ho, hl⟩ := lookIn_ns hns
    refine key (some od) ?_
    rw [hd] at hdx
    exact ⟨hget, hcl, by unfold PySem.W.notCls; rw [hv] <;> rfl, by rw [hdx]; exact ho⟩
theorem g_isXU {K : PySem.W.Frag} {a D C1 C2 dd tp : Addr} {fs : List (Str × V)} {b1 b2 : Bool} {H : Hp} {Q : VK} (I : IsC K D) (hd : H dd = some (.xd fs)) (ht : H tp = some (.tup [.ref C1, .ref C2])) (k1 : PySem.W.kitOne K (.ref D) (.ref C1) = some b1) (k2 : PySem.W.kitOne K (.ref D) (.ref C2) = some b2) (q : Q (.bl (b1 || b2)) H) : rIsXU K a (.ref D) (some dd) [.ref a, .ref tp] H Q := by
  refine ⟨D, tp, [C1, C2], b1 || b2, rfl, I, .inr ⟨dd, fs, rfl, hd⟩, rfl, ht, ?_, q⟩
  refine kitAny_cons k1 (fun z => ?_) (fun z => by rw [z]; rfl)
  refine kitAny_cons k2 (fun y => ?_) (fun y => by rw [z, y]; rfl)
  rw [z, y]
  exact kitAny_nil
end Qk

set_option maxHeartbeats 2000000
/-! Qg: a for loop in a generator's body. -/
namespace Qk
open PySem PySem.Spec PyProof.Rows GenW L2
section
variable {M : Model} {A : Around} {R : GenEnd} {Y : Protocol} {n : Nat} {s₀ : Shared} {c : Code} {fs : List Frame} {s : Shared} {env : Env}
theorem segw_bind {α β : Type} {m : Sem α} {f : α → Sem β} {K : β → Sem PySem.Fin} {J : Value → Sem PySem.Fin} {gd : Bool → Bool} {lv : List Value → List Value}
    (h : wpAny M (A.over c fs) m (fun a s' => Seg M A R Y n s₀ c ((f a).wrap K J gd lv) fs s') (fun x s' => Seg M A R Y n s₀ c (J x) fs s') s) : Seg M A R Y n s₀ c ((m >>= f).wrap K J gd lv) fs s := by
  rw [Sem.bind_eq_wrap', Sem.wrap_wrap]
  exact seg_wrap h
theorem seg_For {K : Flow → Sem PySem.Fin} {H : Value → Sem PySem.Fin} {gd : Bool → Bool} {lv : List Value → List Value} {target iter : Expr} {body orelse : List Stmt} {pos : Pos} (hs : ∀ x, foldedSetIterable iter env x = pure x)
    (h : wpAny M (A.over c fs) (eval iter env) (fun x s₁ => wpAny M (A.over c fs) (pyIter x) (fun it s₂ => ∀ p, Seg M A R Y n s₀ (.forLoop target it body orelse env) (M.den (.forLoop target it body orelse env))
      (.ret (fun r => ((match r with | .ok f => (.pure f : Sem Flow) | .error e => .raise e).onRaise (cameBack env)).wrap K H gd lv) none (gd false) (lv []) c p [] :: fs) s₂) (fun x s' => Seg M A R Y n s₀ c (H x) fs s') s₁) (fun x s' => Seg M A R Y n s₀ c (H x) fs s') s) :
    Seg M A R Y n s₀ c ((exec (.For target iter body orelse pos) env).wrap K H gd lv) fs s := by
  rw [exec_For]
  refine segw_bind (wpAny_standAt ?_)
  refine segw_bind (wpAny_mono h (fun v s1 h1 => ?_) fun _ _ hx => hx)
  refine segw_bind (wpAny_of_eq (hs v) ?_)
  refine segw_bind (wpAny_standAt ?_)
  refine segw_bind (wpAny_holding (wpAny_mono h1 (fun it s2 h2 => ?_) fun _ _ hx => hx))
  exact seg_call h2
end
section
variable {prog : Program} {w : World} {A : Around} {R : GenEnd} {Y : Protocol} {n : Nat} {s₀ : Shared} {fs : List Frame} {s : Shared} {env : Env}
abbrev exF (env : Env) (e : Value) : Sem PySem.Fin := (do noteFrame e env; theTreesLotGoes e : Sem Unit).bind fun _ => .raise e
theorem seg_forLoop {target : Expr} {it : Value} {body : List Stmt}
    (h : wpAny (model prog w) (A.over (.forLoop target it body [] env) fs) (pyNext it) (fun r s1 => match r with
      | none => Seg (model prog w) A R Y n s₀ (.block [] env) ((model prog w).den (.block [] env)) fs s1
      | some v => wpAny (model prog w) (A.over (.forLoop target it body [] env) fs) (letOwnedTupleGo target it v) (fun _ s' => wpAny (model prog w) (A.over (.forLoop target it body [] env) fs) (assign target env v) (fun _ s2 =>
          Seg (model prog w) A R Y n s₀ (.forLoop target it body [] env) ((execs body env).wrap (fun f => match f with
            | .next | .cont => .pure (.again (.forLoop target it body [] env))
            | .brk => .pure (.done .next)
            | .ret v => .pure (.done (.ret v))) (exF env) id id) fs s2) (fun x s' => Seg (model prog w) A R Y n s₀ (.forLoop target it body [] env) (exF env x) fs s') s') (fun x s' => Seg (model prog w) A R Y n s₀ (.forLoop target it body [] env) (exF env x) fs s') s1)
      (fun x s' => Seg (model prog w) A R Y n s₀ (.forLoop target it body [] env) (exF env x) fs s') s) :
    Seg (model prog w) A R Y n s₀ (.forLoop target it body [] env) ((model prog w).den (.forLoop target it body [] env)) fs s := by
  show Seg _ A R Y n s₀ _ ((forTurn target it body [] env).onRaise (fun x => do noteFrame x env; theTreesLotGoes x)) fs s
  rw [Sem.onRaise_eq_wrap]
  unfold forTurn
  refine segw_bind (wpAny_standAt ?_)
  refine segw_bind (wpAny_onRaise (wpAny_mono h (fun r s1 h1 => ?_) fun _ _ h' => wpAny_standAt h'))
  cases r with
  | none => exact seg_again rfl h1
  | some v =>
    refine segw_bind (wpAny_mono h1 (fun _ s' h' => ?_) fun _ _ hx => hx)
    refine segw_bind (wpAny_mono h' (fun _ s2 h2 => ?_) fun _ _ hx => hx)
    show Seg _ A R Y n s₀ _ (Sem.wrap _ _ _ _ (execs body env >>= _)) fs s2
    rw [Sem.bind_eq_wrap', Sem.wrap_wrap]
    have e : ∀ K1 : Flow → Sem PySem.Fin, (∀ f, K1 f = match f with
            | .next | .cont => .pure (.again (.forLoop target it body [] env))
            | .brk => .pure (.done .next)
            | .ret v => .pure (.done (.ret v))) → Seg (model prog w) A R Y n s₀ (.forLoop target it body [] env) ((execs body env).wrap K1 (exF env) id id) fs s2 := fun K1 hK => by
      rw [funext hK]
      exact h2
    exact e _ fun f => by cases f <;> rfl
end
/-! ### the statement -/
def tGFor (wi : TI) (g : TG) (tb : TGn) : TGn := fun D ys σ H => wi σ H fun J H1 => ∃ W : Nat → Nat → List V → L2.St → Hp → Prop, (∃ m, W 0 m ys σ H1) ∧ ∀ i m ys σ H, W i m ys σ H →
  (J.stop i H ∧ D.nx ys σ H) ∨ (J.go i H ∧ ∃ N : List V → L2.St → Hp → Prop, (∀ ys' σ' H', N ys' σ' H' → ∃ m', m' < m ∧ W (i + 1) m' ys' σ' H') ∧ ∀ x H', J.yld i H x H' → g x σ H' fun σ2 H2 => tb { D with nx := N, ct := N, bk := D.nx } ys σ2 H2)
section
variable {X : Cx}
theorem gs_for {tg iter : Expr} {body : List Stmt} {wi : TI} {g : TG} {tb : TGn} {pos : Pos} (hp : PassesOwn (model X.prog X.w) X.A X.env X.xe) (hc : X.calm = true) (hi : PI X tg iter wi) (hg : PG X tg g) (hb : GSs X body tb)
    (hs : ∀ x, foldedSetIterable iter X.env x = pure x := by intro _; rfl) : GS X (.For tg iter body [] pos) (tGFor wi g tb) := by
  refine ⟨fun A S ip R n ys s₀ c fs K J gd lv s σ H D g_ hn k hI ht => ?_⟩
  obtain ⟨acc, cc, r, I⟩ := hI
  refine seg_For hs ?_
  rw [g_.over]
  refine wpAny_mono (hi.run _ s σ H _ I ht) (fun v s1 h1 => wpAny_mono h1 (fun itv s2 h2 => ?_) fun x s' hx => k.exc n s₀ x s' hx) fun x s' hx => k.exc n s₀ x s' hx
  obtain ⟨it, fp, tn, Jt, H2, e, I2, T, st2, f2, W, ⟨m0, w0⟩, turn⟩ := h2
  subst e
  intro p
  have gl := fun (kk : Result → Sem PySem.Fin) => gc_loop (k := kk) (c' := .forLoop tg (.ref it) body [] X.env) (l := lv []) (kp := []) (p := p) g_ rfl rfl
  have neS : ∀ b ∈ fp, S ≠ b := fun b hb => (f2 b hb).2.2.2.2.2 (S, lstObj acc cc) (List.mem_append_right _ List.mem_cons_self)
  have stat : ∀ {H' : Hp} {acc' : Array Value} {cc' : Nat}, (∀ b ∈ fp, H' b = none) → ∀ b ∈ fp, FpOk X ((S, lstObj acc' cc') :: ip) H' b := fun hn b hb =>
    ⟨hn b hb, (f2 b hb).2.1, (f2 b hb).2.2.1, (f2 b hb).2.2.2.1, (f2 b hb).2.2.2.2.1, fun q hq => by
      rcases List.mem_append.mp hq with hq | hq
      · exact (f2 b hb).2.2.2.2.2 q (List.mem_append_left _ hq)
      · rcases List.mem_cons.mp hq with rfl | hq
        · exact neS b hb
        · exact (f2 b hb).2.2.2.2.2 q (List.mem_append_right _ (List.mem_cons_of_mem _ hq))⟩
  have loop : ∀ (m n i : Nat) (ys : List V) (s₀ s : Shared) (σ : L2.St) (H : Hp), n + ys.length = sizeLine → W i m ys σ H → GI X S ip ys σ H s → tn i s.heap → (∀ b ∈ fp, H b = none) →
      Seg (model X.prog X.w) A R (GY X S) n s₀ (.forLoop tg (.ref it) body [] X.env) ((model X.prog X.w).den (.forLoop tg (.ref it) body [] X.env))
        (.ret (fun r => ((match r with | .ok f => (.pure f : Sem Flow) | .error e => .raise e).onRaise (cameBack X.env)).wrap K J gd lv) none (gd false) (lv []) c p [] :: fs) s := by
    intro m
    induction m using Nat.strongRecOn with
    | ind m ih =>
      intro n i ys s₀ s σ H hn w hI st fr
      have ee : ∀ (n : Nat) (s₀ : Shared) (x : Value) (s' : Shared), X.xe x s' → Seg (model X.prog X.w) A R (GY X S) n s₀ (.forLoop tg (.ref it) body [] X.env) (exF X.env x)
          (.ret (fun r => ((match r with | .ok f => (.pure f : Sem Flow) | .error e => .raise e).onRaise (cameBack X.env)).wrap K J gd lv) none (gd false) (lv []) c p [] :: fs) s' := fun n s₀ x s' hx => by
        show Seg _ _ _ _ _ _ _ ((do noteFrame x X.env; theTreesLotGoes x : Sem Unit).bind fun _ => .raise x) _ _
        rw [Sem.bind_eq_wrap]
        refine seg_wrap ?_
        rw [(gl _).over]
        refine wpAny_bind (wpAny_mono (hp x s' hx) (fun _ s'' hcb => wpAny_theTreesLotGoes ?_) fun y s'' hcb => ?_)
        · exact seg_leaf (.error x) (seg_cameBack g_ k hcb)
        · exact seg_leaf (.error y) (seg_cameBack g_ k hcb)
      refine seg_forLoop ?_
      rw [(gl _).over]
      obtain ⟨acc', cc', r', I3⟩ := hI
      rcases turn i m ys σ H w with ⟨stop, qn⟩ | ⟨go, N, hN, step⟩
      · refine wpAny_mono (T.done X rfl rfl rfl hc i _ s σ H _ I3 (stat fr) st stop) (fun r s4 ⟨hr, I4⟩ => ?_) fun _ _ hx => hx
        subst hr
        exact seg_leaf (.ok .next) (k.ok n ys s₀ s4 .next hn ⟨σ, H, ⟨acc', cc', r', I4⟩, qn⟩)
      · refine wpAny_mono (T.item X rfl rfl rfl hc i _ s σ H _ I3 (stat fr) st go) (fun r s4 ⟨u, hr, h4⟩ => ?_) fun _ _ hx => hx
        subst hr
        refine wpAny_mono h4 (fun _ s5 ⟨x, H5, I5, r5, y5, st5, fr5⟩ => ?_) fun _ _ hx => hx
        have I5' := I5.pinned (stat fr5) (T.obj _ _ st5)
        refine wpAny_mono (hg.run _ s5 σ H5 x u _ I5' r5 (step x H5 y5)) (fun _ s6 ⟨σ6, H6, I6, q6⟩ => ?_) fun x s' hx => ee n s₀ x s' hx
        have gg := gl (fun r => ((match r with | .ok f => (.pure f : Sem Flow) | .error e => .raise e).onRaise (cameBack X.env)).wrap K J gd lv)
        have gb : GC X S (ip ++ pinsAt fp s5.heap) A (.forLoop tg (.ref it) body [] X.env) (.ret (fun r => ((match r with | .ok f => (.pure f : Sem Flow) | .error e => .raise e).onRaise (cameBack X.env)).wrap K J gd lv) none (gd false) (lv []) c p [] :: fs) id :=
          ⟨gg.pn, fun q hq => by
            rcases List.mem_append.mp hq with hq | hq
            · exact gg.ip q hq
            · exact fun e => neS q.1 (of_pinsAt hq).1 e.symm, gg.apart, gg.over, gg.split, gg.guard, gg.gd⟩
        have off : ∀ {ys' : List V} {σ' : L2.St} {H' : Hp} {s' : Shared}, GI X S (ip ++ pinsAt fp s5.heap) ys' σ' H' s' → GI X S ip ys' σ' H' s' ∧ tn (i + 1) s'.heap ∧ ∀ b ∈ fp, H' b = none := fun {ys' σ' H' s'} h => by
          obtain ⟨a2, c2, r2, I7⟩ := h
          have pin : ∀ b ∈ fp, ∀ o, s5.heap.get? b = some o → s'.heap.get? b = some o ∧ H' b = none := fun b hb o e =>
            let z := I7.pin (b, o) (List.mem_append_right _ (List.mem_cons_of_mem _ (List.mem_append_right _ (mem_pinsAt hb e))))
            ⟨z.1, z.2.1⟩
          refine ⟨⟨a2, c2, r2, I7.pins_of fun q hq => I7.pin q ?_⟩, T.keep _ _ _ st5 fun b hb o e => (pin b hb o e).1, fun b hb => ?_⟩
          · rcases List.mem_cons.mp hq with rfl | hq
            · exact List.mem_append_right _ List.mem_cons_self
            · exact List.mem_append_right _ (List.mem_cons_of_mem _ (List.mem_append_left _ hq))
          · obtain ⟨o, e, _⟩ := T.obj _ _ st5 b hb
            exact (pin b hb o e).2
        refine hb.run A S (ip ++ pinsAt fp s5.heap) R n ys s₀ _ _ _ _ id id s6 σ6 H6 { D with nx := N, ct := N, bk := D.nx } gb hn ⟨fun n' ys' s₀' s3 f hn' hs' => ?_, fun n' s₀' x s3 hx => ee n' s₀' x s3 hx⟩ ⟨acc', cc', r', I6⟩ q6
        cases f with
        | next =>
          obtain ⟨σ3, H3, I3, n3⟩ := hs'
          obtain ⟨m', hm, w3⟩ := hN ys' σ3 H3 n3
          obtain ⟨o1, o2, o3⟩ := off I3
          exact seg_again rfl (ih m' hm n' (i + 1) ys' s₀' s3 σ3 H3 hn' w3 o1 o2 o3)
        | cont =>
          obtain ⟨σ3, H3, I3, n3⟩ := hs'
          obtain ⟨m', hm, w3⟩ := hN ys' σ3 H3 n3
          obtain ⟨o1, o2, o3⟩ := off I3
          exact seg_again rfl (ih m' hm n' (i + 1) ys' s₀' s3 σ3 H3 hn' w3 o1 o2 o3)
        | brk =>
          obtain ⟨σ3, H3, I3, q3⟩ := hs'
          exact seg_leaf (.ok .next) (k.ok n' ys' s₀' s3 .next hn' ⟨σ3, H3, (off I3).1, q3⟩)
        | ret v =>
          obtain ⟨x3, σ3, H3, I3, rv, q3⟩ := hs'
          exact seg_leaf (.ok (.ret v)) (k.ok n' ys' s₀' s3 (.ret v) hn' ⟨x3, σ3, H3, (off I3).1, rv, q3⟩)
  exact loop m0 n 0 ys s₀ s2 σ H2 hn w0 ⟨acc, cc, r, I2⟩ st2 fun b hb => (f2 b hb).1
end
/-! ### the loops in continuation form -/
def kWG (J : It) (g : TG) (tb : TGn) (D : GEnds) (ys : List V) (σ : L2.St) (H : Hp) : Prop := ∃ W : Nat → Nat → List V → L2.St → Hp → Prop, (∃ m, W 0 m ys σ H) ∧ ∀ i m ys σ H, W i m ys σ H →
  (J.stop i H ∧ D.nx ys σ H) ∨ (J.go i H ∧ ∃ N : List V → L2.St → Hp → Prop, (∀ ys' σ' H', N ys' σ' H' → ∃ m', m' < m ∧ W (i + 1) m' ys' σ' H') ∧ ∀ x H', J.yld i H x H' → g x σ H' fun σ2 H2 => tb { D with nx := N, ct := N, bk := D.nx } ys σ2 H2)
def kGForL (K : PySem.W.Frag) (g : TG) (tb : TGn) (D : GEnds) (ys : List V) (σ : L2.St) (x : V) (H : Hp) : Prop := ∃ a, x = .ref a ∧ (∃ xs, SqL K H a xs) ∧ kWG (Itl K a) g tb D ys σ H
def kGForE (K : PySem.W.Frag) (g : TG) (tb : TGn) (D : GEnds) (ys : List V) (σ : L2.St) (vs : List V) (H : Hp) : Prop := ∃ a xs, vs = [.ref a] ∧ SqL K H a xs ∧ kWG (Ite K a) g tb D ys σ H
section
variable {K : PySem.W.Frag} {σ : L2.St} {H : Hp} {D : GEnds} {ys : List V} {ts : TGn} {g : TG}
theorem g_gforL {te : TE} (q : te σ H fun x H1 => kGForL K g ts D ys σ x H1) : tGFor (iList K te) g ts D ys σ H := q
theorem g_gforE {ta : TA} (q : ta σ H fun vs H1 => kGForE K g ts D ys σ vs H1) : tGFor (iEnum K ta) g ts D ys σ H := q
theorem k_gforL {a : Addr} {xs : List V} (h : H a = some (.lst xs)) (Pv : Nat → List V → L2.St → Hp → Prop) (h0 : Pv 0 ys σ H) (hl : ∀ i ys σ H, Pv i ys σ H → H a = some (.lst xs))
    (hs : ∀ i x ys σ H, xs[i]? = some x → Pv i ys σ H → g x σ H fun σ2 H2 => ts { D with nx := Pv (i + 1), ct := Pv (i + 1), bk := D.nx } ys σ2 H2) (hd : ∀ ys σ H, Pv xs.length ys σ H → D.nx ys σ H) : kGForL K g ts D ys σ (.ref a) H := by
  refine ⟨a, rfl, ⟨xs, SqL.of h⟩, fun i m ys σ H => m = xs.length - i ∧ i ≤ xs.length ∧ Pv i ys σ H, ⟨_, rfl, Nat.zero_le _, h0⟩, ?_⟩
  rintro i m ys σ H1 ⟨rfl, hi, p⟩
  have hq : SqL K H1 a xs := SqL.of (hl i ys σ H1 p)
  by_cases hlt : i < xs.length
  · refine .inr ⟨⟨xs, xs[i], hq, List.getElem?_eq_getElem hlt⟩, Pv (i + 1), fun ys' σ' H' p' => ⟨xs.length - (i + 1), by omega, rfl, hlt, p'⟩, ?_⟩
    rintro x H' ⟨e, y⟩
    subst e
    exact hs i x ys σ _ (y xs hq) p
  · have e : i = xs.length := by omega
    subst e
    exact .inl ⟨⟨xs, hq, Nat.le_refl _⟩, hd ys σ H1 p⟩
theorem k_gforE {a : Addr} {xs : List V} (h : H a = some (.lst xs)) (Pv : Nat → List V → L2.St → Hp → Prop) (h0 : Pv 0 ys σ H) (hl : ∀ i ys σ H, Pv i ys σ H → H a = some (.lst xs))
    (hs : ∀ i x ys σ H T, xs[i]? = some x → Pv i ys σ H → H T = none → g (.ref T) σ (upd H T (.tup [.int (i : Nat), x])) fun σ2 H2 => ts { D with nx := Pv (i + 1), ct := Pv (i + 1), bk := D.nx } ys σ2 H2) (hd : ∀ ys σ H, Pv xs.length ys σ H → D.nx ys σ H) : kGForE K g ts D ys σ [.ref a] H := by
  refine ⟨a, xs, rfl, SqL.of h, fun i m ys σ H => m = xs.length - i ∧ i ≤ xs.length ∧ Pv i ys σ H, ⟨_, rfl, Nat.zero_le _, h0⟩, ?_⟩
  rintro i m ys σ H1 ⟨rfl, hi, p⟩
  have hq : SqL K H1 a xs := SqL.of (hl i ys σ H1 p)
  by_cases hlt : i < xs.length
  · refine .inr ⟨⟨xs, xs[i], hq, List.getElem?_eq_getElem hlt⟩, Pv (i + 1), fun ys' σ' H' p' => ⟨xs.length - (i + 1), by omega, rfl, hlt, p'⟩, ?_⟩
    rintro x H' ⟨T, y, rfl, n, rfl, e⟩
    exact hs i y ys σ H1 T (e xs hq) p n
  · have e : i = xs.length := by omega
    subst e
    exact .inl ⟨⟨xs, hq, Nat.le_refl _⟩, hd ys σ H1 p⟩
/-- the other statements -/
theorem g_gplain {t : TS} (q : t (D.at ys) σ H) : tPlain t D ys σ H := q
theorem g_gthen {t u : TGn} (q : t { D with nx := fun ys' σ' H' => u D ys' σ' H' } ys σ H) : tGThen t u D ys σ H := q
theorem g_gyield {te : TE} (l : ys.length < sizeLine) (q : te σ H fun x H1 => D.nx (ys ++ [x]) σ H1) : tGYield te D ys σ H := ⟨l, q⟩
theorem g_g0 (q : D.nx ys σ H) : tG0 D ys σ H := q
end
/-! ### an exception whose context is None is one -/
theorem cxN_cx {P : Program} {w : World} {outer : List Env} {H : Hp} {s : Shared} {E : XK} {u : Value} {s' : Shared} (c : L2N.CX P w outer H s E u s') : L2.CX P w outer H s E u s' := by
  obtain ⟨a, B, H', cls, d, e, fl, r⟩ := c
  exact ⟨a, B, H', cls, d, e, L2H.flyingZ_imp (fun _ z => z.zc) fl, r⟩
theorem passAtG {X : Cx} {W : WX} (tk : L2.Takes X W) (σ : L2.St) : PassesAt (L2N.CX X.prog X.w) X σ (WE W σ) := fun p H s e s' I c => L2.passAt tk σ p H s e s' I (cxN_cx c)
theorem Fun.okG {P : Program} {w : World} {K : PySem.W.Frag} {mg : Str → Option Value} {base : Heap} {x qual : Str} {st : Stmt} {f : Addr} {fd : FuncData} {N ps : List Str} {k : Nat} {sp : SpG} (F : Fun K x qual st f fd) (S : GScope N ps (defScope st)) (len : ∀ vs H Q E, sp vs H Q E → vs.length = ps.length)
    (hbody : ∀ (cdv : Value) (A : Around) (outer : List Env) (s : Shared) (H : Hp) (vs : List V) (Q : List V → Hp → Prop) (E : XK) (pn : List (Addr × Obj)), Room k (A.deeper (envOfC qual (defScope st) s.heap.objs.size f cdv)) → sp vs H Q E →
      ∃ t, GSs (gcxOf P w K mg base N qual (defScope st) f cdv A outer s H E pn) (defBody st) t ∧ t { nx := fun ys _ H' => Q ys H', rt := fun ys v H' => v = .non ∧ Q ys H' } [] (L2.start N vs) H) : GFn P w K mg base (k + 1) f fd ps sp := by
  obtain ⟨oc, od, kV, doc, pm, an, cdv, ct, osl, rfl, lk, hcd⟩ := F.ex
  exact gfn_of lk hcd S len fun A outer s H vs Q E pn hr h => hbody cdv A outer s H vs Q E pn hr h
end Qk

/-! Qc: exceptions of which no more is known than class and dict: those out of list(g); try with several clauses over them -/
namespace Qk
open PySem PySem.Spec PyProof.Rows GenW L2
inductive ClausesC (X : Cx) (n : Str) : List ExceptHandler → List (Value × Cls3) → Prop
  | nil : ClausesC X n [] []
  | cons {x : Str} {c : Value} {ts : Cls3} {b : Stmt} {su : List Stmt} {q1 q2 : Pos} {hs : List ExceptHandler} {l : List (Value × Cls3)} (nm : Names X x c)
      (sp : ∀ (a : Addr) (o : Obj) (cls : Value) (d : Option Addr) (pn : List (Addr × Obj)), L2.Zc cls d o → (∃ vs, o.data = .fields vs) → PSs (X.suite a ((a, o) :: pn)) (b :: su) (ts a cls d)) (rest : ClausesC X n hs l) :
      ClausesC X n (.ExceptHandler (some (.Name x q1)) (some n) (b :: su) q2 :: hs) ((c, ts) :: l)
set_option maxHeartbeats 4000000 in
theorem ps_tryC {X : Cx} {n : Str} {i : Nat} {body : List Stmt} {h0 : ExceptHandler} {hds : List ExceptHandler} {l : List (Value × Cls3)} {pos : Pos} {tb : WX → TS} {Wout : WX}
    (st : X.stack = X.env :: X.outer) (fr : X.env.frame = some X.env.locals) (nd : X.N.Nodup) (ni : X.N[i]? = some n) (lo : X.env.kindOf n = some .local) (tk : L2.Takes X Wout)
    (hb : ∀ (W : WX) (pn : List (Addr × Obj)) (xe : Value → Shared → Prop), L2.Takes (X.tr pn xe) W → PassesOwn (model X.prog X.w) X.A X.env xe → PSs (X.tr pn xe) body (tb W))
    (cs : ClausesC X n (h0 :: hds) l) : PS X (.Try body (h0 :: hds) [] [] pos) (fun D σ H => tb (wAsM X.K i Wout D l) D σ H) := by
  refine ⟨fun pins s σ H D I want => ?_⟩
  have I0 := I.ok
  have frs0 : X.A.frames = some (X.env :: X.outer) := by rw [I0.frames, st]
  refine wpAny_Try_except ?_
  let caught : Value → Shared → Prop := fun e s1 => wpAny (model X.prog X.w) X.A (noteFrame e X.env) (fun _ s2 => wpAny (model X.prog X.w) X.A (setFlight e none) (fun _ s3 => wpAny (model X.prog X.w) X.A (handleBy e X.env (h0 :: hds)) (SP X pins D) X.xe s3) X.xe s2) X.xe s1
  have take : L2.Takes (X.tr (X.pn ++ pins) caught) (wAsM X.K i Wout D l) := fun u s' xx => by
    obtain ⟨a, B, sI, pins', σ1, H1, cls, d, rfl, J', nb, up, sky, na, os, ag, w⟩ := xx
    have J : Inv X pins σ1 H1 sI := J'.ofTry I0
    have sk : Sky B (X.env :: X.outer) a (L2.Zc cls d) X.env.locals s'.heap := by rw [← st]; exact sky
    show wpAny (model X.prog X.w) X.A (noteFrame (.ref a) X.env) _ _ _
    refine L2.Sky.land L2.Zc.steady frs0 fr sk fun h3 f3 u3 => ?_
    have J3 : Inv X pins σ1 H1 { s' with heap := h3 } := J.landed nb f3.1 (up.trans u3) os ag
    obtain ⟨o3, vs3, at3, z3, d3⟩ := f3.there
    have noFrame : a ∉ frs (X.env :: X.outer) := fun m => by
      obtain ⟨_, o', e', bad⟩ := f3.2.2.1.mem m
      rw [at3] at e'
      cases e'
      exact bad _ d3
    have nL : a ≠ X.env.locals := fun z => noFrame (List.mem_filterMap.mpr ⟨X.env, List.mem_cons_self, by rw [fr, z]⟩)
    have nF : a ∉ X.fs := fun m => by
      obtain ⟨e, he, q⟩ := List.mem_filterMap.mp m
      exact noFrame (List.mem_filterMap.mpr ⟨e, List.mem_cons_of_mem _ he, q⟩)
    have S3 := J3.suite at3 d3 na nL nF
    have step : ∀ {hs : List ExceptHandler} {l' : List (Value × Cls3)}, ClausesC X n hs l' → wAsM X.K i Wout D l' cls d σ1 H1 → wpAny (model X.prog X.w) X.A (handleBy (.ref a) X.env hs) (SP X pins D) X.xe { s' with heap := h3 } := by
      intro hs l' c
      induction c with
      | nil =>
        intro w0
        refine wpAny_handleBy_nil ?_
        obtain ⟨_, _, _, oe, vs, T, _, _, he, _, hd, h1, _⟩ := id f3
        unfold PySem.passOn
        refine wpAny_bind (wpAny_field he hd h1 ?_)
        have nn : ¬ (Value.ref T == Value.none) = true := by simp
        rw [if_neg nn]
        have off : wpAny (model X.prog X.w) X.A (setFlight (.ref a) X.env.frame) (fun _ s4 => wpAny (model X.prog X.w) X.A (throw (.ref a) : Sem Flow) (SP X pins D) X.xe s4) X.xe { s' with heap := h3 } := by
          rw [fr]
          refine HandSPX.setFlight_upZ f3 fun h4 g4 u4 => wpAny_throw (tk _ _ ?_)
          exact ⟨a, B, sI, pins, σ1, H1, cls, d, rfl, J, nb, (up.trans u3).trans u4, .inr (.inr (by rw [st]; exact g4)), na, os, ag, w0⟩
        first
          | exact wpAny_bind (wpAny_pure (wpAny_bind off))
          | exact wpAny_bind off
      | @cons x c ts b su q1 q2 hs2 l2 nm sp rest ih =>
        intro w0
        obtain ⟨yes, fits, inS, goOn⟩ := w0
        refine wpAny_handleBy_cons (codeAny_handlers_test ?_) (by intro q; cases q)
        have ty : PySem.W.Looks (model X.prog X.w) h3 (typeOf (.ref a)) cls := fun _ _ _ _ k q => wpAny_typeOf_ref (k _ _ at3) (by rw [z3.1]; exact q)
        have look := PySem.W.exm_one (M := model X.prog X.w) J3.kIn ty fits
        have named : ∀ {Q : Value → Shared → Prop} {E : Value → Shared → Prop}, Q c { s' with heap := h3 } → wpAny (model X.prog X.w) (X.A.mark (some (.ref a))) (eval (.Name x q1) X.env) Q E { s' with heap := h3 } := fun {Q E} q => by
          obtain ⟨g1, g2, g3 | ⟨g3, g4, g5⟩⟩ := nm
          · exact ld_glob (X := X.suite a ((a, o3) :: (X.pn ++ pins))) S3 g1 g3 q g2
          · exact ld_blt (X := X.suite a ((a, o3) :: (X.pn ++ pins))) S3 g1 g3 g4 q g5 g2
        refine named (look.here ?_)
        cases yes with
        | false =>
          show wpAny _ X.A (handleBy (.ref a) X.env hs2) _ _ _
          exact ih (goOn rfl)
        | true =>
          refine codeAny_handlers_suite_as ?_
          refine HandSPX.lands_againZ f3 fun h4 f4 u4 => ?_
          have J4 : Inv X pins σ1 H1 { s' with heap := h4 } := J.landed nb f4.1 ((up.trans u3).trans u4) os ag
          obtain ⟨o4, vs4, at4, z4, d4⟩ := f4.there
          have S4 := J4.suite at4 d4 na nL nF
          refine store_ok (X := X.suite a ((a, o4) :: (X.pn ++ pins))) (v := .ref a) S4 nd ni (.inl lo) rfl (fun s5 S5 => ?_) (.inr lo)
          refine wpAny_mono ((sp a o4 cls d (X.pn ++ pins) z4 ⟨_, d4⟩).run [] s5 _ H1 _ S5 (inS rfl a na)) (fun f s6 got => ?_) (fun _ _ z => z.elim)
          have done : ∀ {σ6 : L2.St} {H6 : Hp} {Q : Shared → Prop}, Inv (X.suite a ((a, o4) :: (X.pn ++ pins))) [] σ6 H6 s6 → (∀ s7, Inv X pins (σ6.set i none) H6 s7 → Q s7) → wpAny (model X.prog X.w) X.A (do bindName X.env n .none; unbindBehindTheSuite X.env n q2) (fun _ s7 => Q s7) X.xe s6 :=
            fun S6 hq => gone_ok (S6.unsuite I0) nd ni lo hq
          match f, got with
          | .next, ⟨_, _, S6, q6⟩ => exact done S6 fun s7 J7 => ⟨_, _, J7, q6⟩
          | .brk, ⟨_, _, S6, q6⟩ => exact done S6 fun s7 J7 => ⟨_, _, J7, q6⟩
          | .cont, ⟨_, _, S6, q6⟩ => exact done S6 fun s7 J7 => ⟨_, _, J7, q6⟩
          | .ret _, ⟨_, _, _, S6, r6, q6⟩ => exact done S6 fun s7 J7 => ⟨_, _, _, J7, r6, q6⟩
    exact step cs w
  refine wpAny_mono ((hb (wAsM X.K i Wout D l) (X.pn ++ pins) caught take PassesOwn.looking).run [] s σ H D (I.toTry _) want) (fun f s1 got => ?_) (fun e s1 he => he)
  match f, got with
  | .next, ⟨_, _, J', q⟩ => exact wpAny_execs_nil ⟨_, _, J'.ofTry I0, q⟩
  | .brk, ⟨_, _, J', q⟩ => exact ⟨_, _, J'.ofTry I0, q⟩
  | .cont, ⟨_, _, J', q⟩ => exact ⟨_, _, J'.ofTry I0, q⟩
  | .ret _, ⟨_, _, _, J', r, q⟩ => exact ⟨_, _, _, J'.ofTry I0, r, q⟩
theorem k_tryC {X : Cx} {n : Str} {i : Nat} {body : List Stmt} {h0 : ExceptHandler} {hds : List ExceptHandler} {l : List (Value × Cls3)} {pos : Pos} {tb : WX → TS} {Wout : WX} (K : PySem.W.Frag)
    (st : X.stack = X.env :: X.outer) (fr : X.env.frame = some X.env.locals) (nd : X.N.Nodup) (ni : X.N[i]? = some n) (lo : X.env.kindOf n = some .local) (tk : L2.Takes X Wout)
    (hb : ∀ (W : WX) (pn : List (Addr × Obj)) (xe : Value → Shared → Prop), L2.Takes (X.tr pn xe) W → PassesOwn (model X.prog X.w) X.A X.env xe → PSs (X.tr pn xe) body (tb W))
    (cs : ClausesC X n (h0 :: hds) l) (e : X.K = K := by rfl) : PS X (.Try body (h0 :: hds) [] [] pos) (tTryM K i tb l Wout) := by
  subst e
  exact ps_tryC st fr nd ni lo tk hb cs
theorem takesC {X : Cx} : L2.Takes X (fun _ _ _ _ => False) := fun _ _ x => by
  obtain ⟨_, _, _, _, _, _, _, _, _, _, _, _, _, _, _, _, z⟩ := x
  exact z.elim
theorem passC0 {X : Cx} : Passes (L2.CX X.prog X.w) X E0 := fun _ _ _ _ _ _ _ h => by
  obtain ⟨_, _, _, _, _, _, _, _, _, _, _, _, z⟩ := h
  exact z.elim
theorem passC0S {X : Cx} : ∀ σ, PassesAt (L2.CX X.prog X.w) X σ ((fun _ => E0) σ) := fun _ _ _ _ _ _ _ h => by
  obtain ⟨_, _, _, _, _, _, _, _, _, _, _, _, z⟩ := h
  exact z.elim
section
variable {P : Program} {w : World} {K : PySem.W.Frag} {mg : Str → Option Value} {base : Heap}
theorem Fun.okC {x qual : Str} {st : Stmt} {f : Addr} {fd : FuncData} {N ps : List Str} {k : Nat} {sp : Sp} (F : Fun K x qual st f fd) (S : FnScope N ps (defScope st)) (len : ∀ vs H Q E, sp vs H Q E → vs.length = ps.length)
    (hbody : ∀ (cdv : Value) (A : Around) (outer : List Env) (s : Shared) (H : Hp) (vs : List V) (Q : VK) (E : XK), Room k (A.deeper (envOfC qual (defScope st) s.heap.objs.size f cdv)) → sp vs H Q E →
      ∃ t, PSs (cxOf (L2.CX P w) P w K mg base N qual (defScope st) f cdv A outer s H E) (defBody st) t ∧ t { nx := fun _ H' => Q .non H', rt := Q } (start N vs) H) : FnOk P w K mg base (L2.CX P w) (k + 1) f fd ps sp := by
  obtain ⟨oc, od, kV, doc, pm, an, cdv, ct, osl, rfl, lk, hcd⟩ := F.ex
  exact fn_of lk hcd S len fun A outer s H vs Q E hr hsp => hbody cdv A outer s H vs Q E hr hsp
end
/-! ### list(f(..)) of a generator def whose errors are wished for by names -/
/-- the wish, and that no StopIteration comes -/
def EG (K : PySem.W.Frag) (W : WX) (σ : L2.St) : XK := fun cls d H => PySem.W.subIn K cls (.type "StopIteration") = some false ∧ W cls d σ H
def tListC (sp : SpG) (E : L2.St → XK) (t : TA) : TE := fun σ H Q => t σ H fun vs H1 => sp vs H1 (fun out H2 => ∀ p, H2 p = none → Q (.ref p) (upd H2 p (.lst out))) (E σ)
section
variable {X : Cx} {k : Nat} {f : Addr} {fd : FuncData} {ps : List Str} {sp : SpG} {x nm : Str} {p p' pos pos' : Pos} {E : L2.St → XK}
theorem pe_listC {e : Expr} {es : List Expr} {t : TA} (F : GFn X.prog X.w X.K X.mg X.base k f fd ps sp) (hx : ∀ σ, PassesAt (L2.CX X.prog X.w) X σ (E σ)) (hns : ∀ σ, NoStop X.K (E σ)) (hr : Room (k + 3) X.A) (hg : Gl X nm) (hmg : X.mg nm = none) (hv : bootBuiltins nm = some (.type "list"))
    (hgf : Gl X x) (hm : X.mg x = some (.ref f)) (hk : PySem.W.keepIn X.K (.ref f) = true) (hb : Binds X.K fd ps []) (ha : PA X (e :: es) t) (hnm : nm ≠ "__name__" := by decide) (hdb : (nm == ("__debug__" : Str)) = false := by decide) (hdf : (x == ("__debug__" : Str)) = false := by decide)
    (hef : starEach (e :: es) X.env = (false, eval e X.env) :: starEach es X.env := by rfl) (hpl : (backTo pos' (starEach es X.env)).any (·.1) = false := by rfl)
    (he : starEach [.Call (.Name x p') (e :: es) [] pos'] X.env = (false, eval (.Call (.Name x p') (e :: es) [] pos') X.env) :: starEach [] X.env := by rfl) : PE X (.Call (.Name nm p) [.Call (.Name x p') (e :: es) [] pos'] [] pos) (tListC sp E t) := by
  refine ⟨fun pins s σ H Q I hq => ?_⟩
  have G : PGen X k (.Call (.Name x p') (e :: es) [] pos') (tCallG sp [] (E σ) t) (E σ) := pgen_call F (hr.mono (by omega)) hgf hm hk hb .nil ha hdf hef hpl
  refine wpAny_Call_Name_kw (ld_blt I hg hmg hv ?_ hnm hdb)
  refine PyProof.Rows.callWith_type1 ?_ he rfl
  rw [he]
  show wpAny _ _ (spliced ((false, eval (.Call (.Name x p') (e :: es) [] pos') X.env) :: backTo pos (starEach [] X.env))) _ _ s
  have hq' : tCallG sp [] (E σ) t σ H (fun out H2 => ∀ p, H2 p = none → Q (.ref p) (upd H2 p (.lst out))) := by
    unfold tCallG
    simp only [List.append_nil]
    exact hq
  refine Calls.spliced_cons (thn (G.run pins s σ H _ I hq') fun u s1 ⟨H1, sc, ex, I1, hex, hG⟩ => ?_)
  refine Calls.spliced_nil ?_
  have hsz : sc.heap.objs.size ≤ s1.heap.objs.size := by
    obtain ⟨a, g, c, _, h1, h2, _⟩ := hG
    exact Nat.le_trans h1 (Nat.le_of_lt h2)
  refine call_list_new hr I1.ok.frames hG (fun S s' acc c H' ys q0 q1 q2 hl q3 q4 q5 q6 q7 q8 => ?_) fun e s' g hc => ?_
  · exact ⟨.ref S, upd H' S (.lst ys), I1.drained (Nat.le_trans hsz q0) hl q1 q2 hex q3 q4 q5 q6 q7, rfl, q8 S q7⟩
  · have kin : X.K.In s'.heap := by
      obtain ⟨a, B, H', cls, d, _, fl, _, ub, _⟩ := id hc
      refine I1.ok.mod.kin.keeps fun b o eb => fl.1 b o (ub.keep b o (I1.bs b o eb).1 (I1.bs b o eb).2 fun hm => ?_)
      rcases List.mem_cons.mp (I1.stkSub b hm) with z | z
      · have h1 := Heap.lt_size eb
        have h2 := Nat.le_trans I1.ok.bsz I1.ok.above
        rw [z] at h1
        exact absurd (Nat.lt_of_lt_of_le h1 h2) (Nat.lt_irrefl _)
      · exact I1.ok.nofr eb z
    refine ⟨notStop_of (hns σ) kin hc, hx σ pins H1 sc e _ I1 ?_⟩
    obtain ⟨a, B, H', cls, d, z1, fl, z2, ub, z3, z4, z5, z6⟩ := hc
    exact ⟨a, B, H', cls, d, z1, fl, z2, ub, z3, z4, allBare_setGen z5 rfl, z6⟩
end
theorem passEG {X : Cx} {W : WX} (K : PySem.W.Frag) (tk : L2.Takes X W) (σ : L2.St) : PassesAt (L2.CX X.prog X.w) X σ (EG K W σ) := fun p H s e s' I c => by
  obtain ⟨a, B, H', cls, d, z1, fl, z2, ub, z3, z4, z5, z6⟩ := c
  exact L2.passAt tk σ p H s e s' I ⟨a, B, H', cls, d, z1, fl, z2, ub, z3, z4, z5, z6.2⟩
theorem nsEG {K : PySem.W.Frag} {W : WX} (σ : L2.St) : NoStop K (EG K W σ) := fun _ _ _ h => h.1
theorem ns0 {K : PySem.W.Frag} (σ : L2.St) : NoStop K ((fun _ => E0) σ) := fun _ _ _ h => h.elim
theorem g_listC {sp : SpG} {E : L2.St → XK} {t : TA} {σ : L2.St} {H : Hp} {Q : VK} (q : t σ H fun vs H1 => sp vs H1 (fun out H2 => ∀ p, H2 p = none → Q (.ref p) (upd H2 p (.lst out))) (E σ)) : tListC sp E t σ H Q := q
end Qk

set_option maxHeartbeats 2000000
/-! Qr: raise C(..) from e in the suite that caught e -/
namespace Qk
open PySem PySem.Spec PyProof.Rows L2 HotX
def causeAt (hp : Heap) (n c : Addr) : Heap :=
  (hp.update n (Obj.mapFields (fun us => us.setIfInBounds 3 (.ref c)))).update n (Obj.mapFields (fun us => us.setIfInBounds 4 (.bool true)))
theorem causeAt_self {hp : Heap} {n c : Addr} {ob : Obj} {us : Array Value} (hn : hp.get? n = some ob) (hu : ob.data = .fields us) :
    (causeAt hp n c).get? n = some ((ob.mapFields (fun us => us.setIfInBounds 3 (.ref c))).mapFields (fun us => us.setIfInBounds 4 (.bool true))) ∧
    ((ob.mapFields (fun us => us.setIfInBounds 3 (.ref c))).mapFields (fun us => us.setIfInBounds 4 (.bool true))).data = .fields ((us.setIfInBounds 3 (.ref c)).setIfInBounds 4 (.bool true)) := by
  have d3 := Obj.data_mapFields hu (fun us => us.setIfInBounds 3 (.ref c))
  have g3 := Heap.get?_update_self (Obj.mapFields (fun us => us.setIfInBounds 3 (.ref c))) hn (Obj.isFreed_of_fields d3)
  have d4 := Obj.data_mapFields d3 (fun us => us.setIfInBounds 4 (.bool true))
  exact ⟨Heap.get?_update_self (Obj.mapFields (fun us => us.setIfInBounds 4 (.bool true))) g3 (Obj.isFreed_of_fields d4), d4⟩
theorem causeAt_ne {hp : Heap} {n c b : Addr} (ne : n ≠ b) : (causeAt hp n c).get? b = hp.get? b :=
  (Heap.get?_update_other _ _ ne).trans (Heap.get?_update_other _ _ ne)
theorem raise_from_hot {P : Program} {w : World} {B : Around} {Er : Value → Shared → Prop} {env : Env} {s0 : Shared} {mk cs : Sem Value} {QF : Flow → Shared → Prop} {c : Addr}
    (hmk : wpAny (model P w) B mk (fun u s1 => ∃ n ob us cl cl1, u = .ref n ∧ s1.heap.get? n = some ob ∧ ob.cls = cl ∧ ob.data = .fields us ∧ us[1]? = some .none ∧ 4 < us.size ∧ c ≠ n ∧ HotAt B c s1.heap ∧
      (∀ QC : Value → Shared → Prop, QC (.ref c) s1 → wpAny (model P w) B cs QC Er s1) ∧
      PySem.W.Looks (model P w) s1.heap (typeOf (.ref c)) cl1 ∧ PySem.W.Looks (model P w) s1.heap (isSubtype cl1 (.type "BaseException")) true ∧
      PySem.W.Looks (model P w) s1.heap (isSubtype cl (.type "BaseException")) true ∧ PySem.W.Looks (model P w) (causeAt s1.heap n c) (typeOf cl) (.type "type") ∧
      Er (.ref n) { s1 with heap := (causeAt s1.heap n c).update n (Obj.mapFields (·.setIfInBounds 2 (.ref c))) }) Er s0) :
    wpAny (model P w) B (raiseStmt env (some mk) (some cs)) QF Er s0 := by
  unfold raiseStmt
  dsimp only
  refine wpAny_bind (wpAny_mono hmk (fun u s1 hu => ?_) fun _ _ z => z)
  obtain ⟨n, ob, us, cl, cl1, rfl, gn, ec, du, u1, big, cn, hot, ev, lt1, ls1, lsn, ltn, fin⟩ := hu
  have tyN : PySem.W.Looks (model P w) s1.heap (typeOf (.ref n)) cl := fun _ _ _ s2 k q => wpAny_typeOf_ref (k _ _ gn) (by rw [ec]; exact q)
  have insN : PySem.W.Looks (model P w) s1.heap (isInstance (.ref n) (.type "BaseException")) true := tyN.andThen lsn
  have insC : PySem.W.Looks (model P w) s1.heap (isInstance (.ref c) (.type "BaseException")) true := lt1.andThen ls1
  have noTy : ∀ {b : Addr} {o : Obj} {vs : Array Value} {s2 : Shared} {QB : Bool → Shared → Prop}, s2.heap.get? b = some o → o.data = .fields vs → QB false s2 → wpAny (model P w) B (isType (.ref b)) QB Er s2 := by
    intro b o vs s2 QB hb hd hq
    simp only [isType, loadHead]
    refine wpAny_bind (wpAny_loadPart hb ?_)
    rw [hd]
    exact wpAny_pure hq
  obtain ⟨hh, oc, vc, gc, dc, ctx⟩ := id hot
  have d3 := Obj.data_mapFields du (fun us => us.setIfInBounds 3 (.ref c))
  have g3 := Heap.get?_update_self (Obj.mapFields (fun us => us.setIfInBounds 3 (.ref c))) gn (Obj.isFreed_of_fields d3)
  obtain ⟨g4, d4⟩ := causeAt_self (c := c) gn du
  have big4 : 4 < (us.setIfInBounds 3 (Value.ref c)).size := by
    rw [set_size]
    exact big
  have big2 : 2 < ((us.setIfInBounds 3 (Value.ref c)).setIfInBounds 4 (Value.bool true)).size := by
    rw [set_size, set_size]
    omega
  have tb4 : ((us.setIfInBounds 3 (Value.ref c)).setIfInBounds 4 (Value.bool true))[1]? = some Value.none := set_other (by decide) (set_other (by decide) u1)
  have ec4 : ((ob.mapFields (fun us => us.setIfInBounds 3 (.ref c))).mapFields (fun us => us.setIfInBounds 4 (.bool true))).cls = cl := by
    rw [Obj.cls_mapFields, Obj.cls_mapFields]
    exact ec
  have tyN4 : PySem.W.Looks (model P w) (causeAt s1.heap n c) (typeOf (.ref n)) cl := fun _ _ _ s2 k q => wpAny_typeOf_ref (k _ _ g4) (by rw [ec4]; exact q)
  have hot4 : HotAt B c (causeAt s1.heap n c) := ⟨hh, oc, vc, by rw [causeAt_ne (Ne.symm cn)]; exact gc, dc, ctx⟩
  -- behind the two stores
  have tail : wpAny (model P w) B (do
      let ty ← isType (.ref n)
      if ty = true then do
        let x ← holding [.ref n] (raisedFor (.ref n) (.ref n))
        setFlight x none
        raiseNew x
      else do
        let x ← raisedInstance (.ref n)
        setFlight x none
        raiseNew x : Sem Flow) QF Er { s1 with heap := causeAt s1.heap n c } := by
    refine wpAny_bind (noTy (s2 := { s1 with heap := causeAt s1.heap n c }) g4 d4 ?_)
    simp only [Bool.false_eq_true, if_false]
    unfold raisedInstance
    refine wpAny_bind (wpAny_bind (tyN4.here (wpAny_bind (ltn.here ?_))))
    rw [if_pos (beq_self_eq_true _)]
    refine wpAny_pure ?_
    unfold setFlight
    refine wpAny_bind (wpAny_bind (wpAny_field g4 d4 tb4 ?_))
    rw [if_neg (by decide)]
    refine wpAny_pure ?_
    exact raiseNew_hot hot4 cn g4 d4 big2 fin
  refine wpAny_bind (wpAny_holding (ev _ (wpAny_bind (wpAny_pure ?_))))
  dsimp only
  refine wpAny_bind (wpAny_holding ?_)
  unfold excFromValue isExcClass
  refine wpAny_bind (wpAny_bind (noTy gn du ?_))
  simp only [Bool.false_eq_true, if_false]
  refine wpAny_pure ?_
  simp only [Bool.false_eq_true, if_false]
  refine wpAny_bind (insN.here ?_)
  simp only [if_true]
  refine wpAny_pure ?_
  have nn : (Value.ref c == Value.none) = false := rfl
  rw [nn]
  simp only [Bool.false_eq_true, if_false]
  refine wpAny_bind (wpAny_holding (wpAny_bind (wpAny_bind (noTy gc dc ?_))))
  simp only [Bool.false_eq_true, if_false]
  refine wpAny_pure ?_
  simp only [Bool.false_eq_true, if_false]
  refine wpAny_bind (insC.here ?_)
  simp only [if_true]
  refine wpAny_pure ?_
  refine wpAny_bind (wpAny_setField gn du (by omega) ?_)
  refine wpAny_bind (wpAny_setField (s := { s1 with heap := s1.heap.update n (Obj.mapFields (fun us => us.setIfInBounds 3 (.ref c))) }) g3 d3 big4 ?_)
  exact tail
/-- the same state with another object for the frame -/
theorem frame_put {h h2 : Heap} {L : Addr} {o2 : Obj} {m2 : Str → Option Value} (lt : L < h.objs.size) (there : ∃ o, h.get? L = some o) (e2 : h2.get? L = some o2) (n2 : h2.Ns L m2) :
    Heap.SameBut L h (h.update L fun _ => o2) ∧ (h.update L fun _ => o2).Ns L m2 ∧ (h.update L fun _ => o2).get? L = some o2 := by
  obtain ⟨o, eo⟩ := there
  have nf : o2.isFreed = false := (Heap.get?_some_iff.mp e2).2
  have eL : (h.update L fun _ => o2).get? L = some o2 := Heap.get?_update_self (fun _ => o2) eo nf
  refine ⟨⟨?_, fun b hb => Heap.get?_update_other _ _ (Ne.symm hb)⟩, ?_, eL⟩
  · simp [Heap.update]
  · refine n2.at' fun u eu => ?_
    rw [e2] at eu
    rw [← eu]
    exact eL
theorem name_off {X : Cx} {pins : List (Addr × Obj)} {σ : L2.St} {H : Hp} {s : Shared} {i : Nat} {n : Str} {m : Str → Option Value} {h' : Heap} {v : Option Value} (I : Inv X pins σ H s) (nd : X.N.Nodup) (ni : X.N[i]? = some n) (hn : s.heap.Ns X.env.locals m)
    (lk : ∀ (j : Nat) (y : Str) (x : V), X.N[j]? = some y → σ[j]? = some (some x) → Vis X.env.scope y → ∃ u, RelV x u ∧ Look X.env s.heap m y u) (hn' : h'.Ns X.env.locals (fun y => if y = n then v else m y)) (hs : Heap.SameBut X.env.locals s.heap h') :
    Inv X pins (σ.set i none) H { s with heap := h' } := by
  have apart : ∀ b o, X.s_0.heap.get? b = some o → b ≠ X.env.locals := fun b o e => Nat.ne_of_lt (Nat.lt_of_lt_of_le (Heap.lt_size e) I.ok.above)
  have keepB := fun (b : Addr) (o : Obj) (e : X.s_0.heap.get? b = some o) => hs.2 b (apart b o e)
  refine ⟨I.ok, I.os, I.bare, ⟨fun b o e n hb hx => (keepB b o e).trans (I.base.keep b o e n hb hx), fun b o e n hb hx => ?_, I.base.free, fun b o e hx => ?_, I.base.tups, I.base.frzs, I.base.tbls⟩, ⟨_, hn', fun j y x e1 e2 e3 => ?_⟩, fun y c e => ?_, I.free, I.freeC, fun p hp => ?_, fun b ob e => ?_, ?_⟩
  · obtain ⟨sl, q⟩ := I.base.slot b o e n hb hx
    exact ⟨sl, (keepB b o e).trans q⟩
  · obtain ⟨o', q⟩ := I.base.there b o e hx
    exact ⟨o', (keepB b o e).trans q⟩
  · have ne : j ≠ i := fun z => by
      subst z
      by_cases lt : j < σ.length
      · rw [List.getElem?_set_self lt] at e2
        cases e2
      · rw [List.getElem?_eq_none (by simpa using lt)] at e2
        cases e2
    rw [List.getElem?_set_ne (Ne.symm ne)] at e2
    obtain ⟨u, r, q⟩ := lk j y x e1 e2 e3
    refine ⟨u, r, ?_⟩
    rcases q with ⟨k, q⟩ | ⟨k, c, q, z⟩
    · have ny : y ≠ n := fun z => ne (nodup_ix nd e1 (z ▸ ni))
      exact .inl ⟨k, (if_neg ny).trans q⟩
    · exact .inr ⟨k, c, q, z.sameBut hs (I.cne y c q)⟩
  · obtain ⟨x, z⟩ := I.cell y c e
    exact ⟨x, z.sameBut hs (I.cne y c e)⟩
  · obtain ⟨e, n0, ne, nf, dd⟩ := I.pin p hp
    exact ⟨(hs.2 p.1 ne).trans e, n0, ne, nf, dd⟩
  · refine (I.hok b ob e).stay (fun c x hc q => (hs.2 c fun z => ?_).trans q) (fun _ q => q) fun _ _ q => q
    subst z
    rcases hc with hc | hc
    · rw [← hc, I.free] at e
      cases e
    · rw [I.free] at hc
      cases hc
  · rw [List.length_set]
    exact I.len
theorem traced_off {h h' base : Heap} {e L : Addr} {Z : Obj → Prop} {fl : Value} {m : Str → Option Value} (x : HandSPX.TracedZ h base e Z fl) (hn : h.Ns L m) (hs : Heap.SameBut L h h') : HandSPX.TracedZ h' base e Z fl := by
  obtain ⟨oe, vs, T, oT, ts, he, hz, hd, h1, hnT, hTe, hT, hdT, h3⟩ := x
  obtain ⟨oL, es, ep, hoL, hdL, _⟩ := hn
  have noE : e ≠ L := fun q => by
    rw [q, hoL] at he
    injection he with he
    rw [← he, hdL] at hd
    cases hd
  have noT : T ≠ L := fun q => by
    rw [q, hoL] at hT
    injection hT with hT
    rw [← hT, hdL] at hdT
    cases hdT
  exact ⟨oe, vs, T, oT, ts, (hs.2 e noE).trans he, hz, hd, h1, hnT, hTe, (hs.2 T noT).trans hT, hdT, h3⟩
/-- what flies out of a named suite: the name goes, the exception goes on -/
theorem flies_off {X : Cx} {W : WX} {i : Nat} {n : Str} {q2 : Pos} {hd : Option Value} {u : Value} {s' : Shared} {E2 E3 : Value → Shared → Prop} (st : X.stack = X.env :: X.outer) (fr : X.env.frame = some X.env.locals) (nd : X.N.Nodup) (ni : X.N[i]? = some n) (lo : X.env.kindOf n = some .local)
    (tk : L2.Takes X W) (wk : ∀ cls d σ H, W cls d σ H → W cls d (σ.set i none) H) (x : L2.XE X W u s') :
    wpAny (model X.prog X.w) (X.A.mark hd) (noteFrame u X.env) (fun _ s3 => wpAny (model X.prog X.w) (X.A.mark hd) (do bindName X.env n .none; unbindBehindTheSuite X.env n q2)
      (fun _ s4 => wpAny (model X.prog X.w) (X.A.mark hd) (PySem.passOn "try.except-as" u X.env : Sem Flow) (fun _ _ => False) (notedBy (model X.prog X.w) (X.A.mark hd) X.env (cameBackBy (model X.prog X.w) X.A X.env X.xe)) s4) E2 s3) E3 s' := by
  obtain ⟨a, B, sI, pins, σ, H, cls, d, rfl, I, nb, up, sky, na, os, ag, w⟩ := x
  have ok := I.ok
  have frs0 : (X.A.mark hd).frames = some (X.env :: X.outer) := by
    show X.A.frames = _
    rw [ok.frames, st]
  have sk : Sky B (X.env :: X.outer) a (Zc cls d) X.env.locals s'.heap := by rw [← st]; exact sky
  have go : ∀ h1, HandSPX.HeldZ B (X.env :: X.outer) a (Zc cls d) X.env.locals h1 → s'.heap.UpToSlots h1 →
      wpAny (model X.prog X.w) (X.A.mark hd) (do bindName X.env n .none; unbindBehindTheSuite X.env n q2)
        (fun _ s4 => wpAny (model X.prog X.w) (X.A.mark hd) (PySem.passOn "try.except-as" (.ref a) X.env : Sem Flow) (fun _ _ => False) (notedBy (model X.prog X.w) (X.A.mark hd) X.env (cameBackBy (model X.prog X.w) X.A X.env X.xe)) s4) E2 { s' with heap := h1 } := by
    intro h1 held u1
    obtain ⟨b1, b0, f1, t1⟩ := held
    obtain ⟨m, hn, lk⟩ := id I.loc
    have up1 := up.trans u1
    have hn1 : h1.Ns X.env.locals m := up1.ns hn
    have kd : (X.env.scope.kind == .class || (X.env.scope.kind == .module && X.env.locals != X.env.globals)) = false := by rw [ok.kind]; rfl
    have bL : B.get? X.env.locals = none := by
      obtain ⟨_, ⟨L', _, q, z, _⟩, _⟩ := f1
      rw [fr] at q
      injection q with q
      rw [q]
      exact z
    refine wpAny_nameGoes_keeps lo hn1 kd fun h2 v hn2 hs2 => ?_
    have b2 : B.StaysIn h2 := fun b o hb => (hs2.2 b fun z => by rw [z, bL] at hb; cases hb).trans (b1 b o hb)
    have f2 : h2.FunFrames B (X.env :: X.outer) := Heap.FunFrames.sameBut hs2 hn2 f1
    have t2 := traced_off t1 hn1 hs2
    obtain ⟨o2, es2, ep2, eo2, dd2, rest2⟩ := id hn2
    obtain ⟨oI, esI, epI, eoI, ddI, restI⟩ := id hn
    obtain ⟨sb, nsG, atG⟩ := frame_put (h := sI.heap) (Heap.lt_size eoI) ⟨oI, eoI⟩ eo2 hn2
    have J := name_off (h' := sI.heap.update X.env.locals fun _ => o2) I nd ni hn lk nsG sb
    have upG : (sI.heap.update X.env.locals fun _ => o2).UpToSlots h2 := fun b o hb hnf => by
      by_cases c : b = X.env.locals
      · subst c
        rw [atG] at hb
        injection hb with hb
        subst hb
        exact ⟨o2.slots, eo2⟩
      · rw [sb.2 b c] at hb
        obtain ⟨sl, q⟩ := up1 b o hb hnf
        exact ⟨sl, (hs2.2 b c).trans q⟩
    obtain ⟨oe, vs, T, oT, ts, he, hz, hdd, h11, r⟩ := id t2
    unfold PySem.passOn
    refine wpAny_bind (wpAny_field he hdd h11 ?_)
    have nn : ¬ (Value.ref T == Value.none) = true := by simp
    rw [if_neg nn, fr]
    have fin : wpAny (model X.prog X.w) (X.A.mark hd) (setFlight (.ref a) (some X.env.locals)) (fun _ s5 => wpAny (model X.prog X.w) (X.A.mark hd) (throw (.ref a) : Sem Flow) (fun _ _ => False) (notedBy (model X.prog X.w) (X.A.mark hd) X.env (cameBackBy (model X.prog X.w) X.A X.env X.xe)) s5)
        (notedBy (model X.prog X.w) (X.A.mark hd) X.env (cameBackBy (model X.prog X.w) X.A X.env X.xe)) { s' with heap := h2, toks := s'.toks + 1 } := by
      refine HandSPX.setFlight_anyZ (s := { s' with heap := h2, toks := s'.toks + 1 }) b2 f2 t2 fun h3 b3 f3 t3 u3 => wpAny_throw ?_
      show wpAny (model X.prog X.w) (X.A.mark hd) (noteFrame (.ref a) X.env) _ _ _
      refine HandSPX.againZ fr t3 ?_
      obtain ⟨oe', vs', T', oT', ts', he', hz', hd', h1', r'⟩ := id t3
      show wpAny (model X.prog X.w) X.A (do
        if (← field (.ref a) 1) == .none then unsupported "frame.own-activation:exception-without-traceback"
        setFlight (.ref a) X.env.frame) _ _ _
      refine wpAny_bind (wpAny_field he' hd' h1' ?_)
      have nn' : ¬ (Value.ref T' == Value.none) = true := by simp
      rw [if_neg nn', fr]
      refine HandSPX.setFlight_anyZ (s := { s' with heap := h3, toks := s'.toks + 1 }) b3 f3 t3 fun h4 b4 f4 t4 u4 => ?_
      exact tk _ _ ⟨a, B, _, pins, σ.set i none, H, cls, d, rfl, J, fun b o hb hbf => nb b o (by
        rw [sb.2 b (fun z => hbf (by rw [z, st]; exact List.mem_filterMap.mpr ⟨X.env, List.mem_cons_self, fr⟩))] at hb
        exact hb) hbf, (upG.trans u3).trans u4, .inr (.inr (by rw [st]; exact ⟨b4, b0, f4, t4⟩)), na, os, ag, wk _ _ _ _ w⟩
    first
      | exact wpAny_bind (wpAny_pure (wpAny_bind fin))
      | exact wpAny_bind fin
  rcases sk with ⟨hB, hn0, hl, oe, vs, he, hz, hdd, h1⟩ | fl | held
  · exact HandSPX.look_newZ Zc.steady frs0 hl fr he hB hn0 hdd h1 hz go
  · exact HandSPX.looks_onZ Zc.steady frs0 fr fl go
  · exact HandSPX.againZ fr held.2.2.2 (go s'.heap held (Heap.UpToSlots.refl _))
/-- the context of a suite that may raise -/
abbrev sX (X : Cx) (a : Addr) (pn : List (Addr × Obj)) (xe : Value → Shared → Prop) : Cx := { X with A := X.A.mark (some (.ref a)), calm := false, pn := pn, xe := xe }
theorem sX_of {X : Cx} {a : Addr} {pn pins : List (Addr × Obj)} {xe : Value → Shared → Prop} {σ : L2.St} {H : Hp} {s : Shared} (I : Inv (X.suite a pn) pins σ H s) : Inv (sX X a pn xe) pins σ H s := Inv.unwish (X := sX X a pn xe) (E := fun _ _ => False) I
theorem sX_in {X : Cx} {a : Addr} {pn pins : List (Addr × Obj)} {xe : Value → Shared → Prop} {σ : L2.St} {H : Hp} {s : Shared} (I : Inv (sX X a pn xe) pins σ H s) : Inv (X.suite a pn) pins σ H s := I.wish fun _ _ => False
set_option maxHeartbeats 4000000 in
theorem ps_tryX {X : Cx} {n : Str} {i : Nat} {body : List Stmt} {x : Str} {c : Value} {b : Stmt} {su : List Stmt} {q1 q2 : Pos} {pos : Pos} {tb : WX → TS} {ts : Cls3} {Wout Ws : WX}
    (st : X.stack = X.env :: X.outer) (fr : X.env.frame = some X.env.locals) (nd : X.N.Nodup) (ni : X.N[i]? = some n) (lo : X.env.kindOf n = some .local) (tk : L2N.Takes X Wout) (tks : L2.Takes X Ws) (wk : ∀ cls d σ H, Ws cls d σ H → Ws cls d (σ.set i none) H)
    (hb : ∀ (W : WX) (pn : List (Addr × Obj)) (xe : Value → Shared → Prop), L2N.Takes (X.tr pn xe) W → PassesOwn (model X.prog X.w) X.A X.env xe → PSs (X.tr pn xe) body (tb W))
    (nm : Names X x c)
    (sp : ∀ (a : Addr) (o : Obj) (cls : Value) (d : Option Addr) (pn : List (Addr × Obj)) (xe : Value → Shared → Prop), L2N.Zn cls d o → (∃ vs, o.data = .fields vs) → L2.Takes (sX X a ((a, o) :: pn) xe) Ws → L2H.HotC (sX X a ((a, o) :: pn) xe) → PSs (sX X a ((a, o) :: pn) xe) (b :: su) (ts a cls d)) :
    PS X (.Try body [.ExceptHandler (some (.Name x q1)) (some n) (b :: su) q2] [] [] pos) (fun D σ H => tb (wAs X.K c i ts Wout D) D σ H) := by
  refine ⟨fun pins s σ H D I want => ?_⟩
  have I0 := I.ok
  have frs0 : X.A.frames = some (X.env :: X.outer) := by rw [I0.frames, st]
  refine wpAny_Try_except ?_
  let caught : Value → Shared → Prop := fun e s1 => wpAny (model X.prog X.w) X.A (noteFrame e X.env) (fun _ s2 => wpAny (model X.prog X.w) X.A (setFlight e none) (fun _ s3 => wpAny (model X.prog X.w) X.A (handleBy e X.env [.ExceptHandler (some (.Name x q1)) (some n) (b :: su) q2]) (SP X pins D) X.xe s3) X.xe s2) X.xe s1
  have take : L2N.Takes (X.tr (X.pn ++ pins) caught) (wAs X.K c i ts Wout D) := fun u s' xx => by
    obtain ⟨a, B, sI, pins', σ1, H1, cls, d, rfl, J', nb, up, sky, na, os, ag, w⟩ := xx
    have J : Inv X pins σ1 H1 sI := J'.ofTry I0
    have sk : Sky B (X.env :: X.outer) a (L2N.Zn cls d) X.env.locals s'.heap := by rw [← st]; exact sky
    show wpAny (model X.prog X.w) X.A (noteFrame (.ref a) X.env) _ _ _
    refine L2N.Sky.land L2N.Zn.steady frs0 fr sk fun h3 f3 u3 => ?_
    have J3 : Inv X pins σ1 H1 { s' with heap := h3 } := J.landed nb f3.1 (up.trans u3) os ag
    obtain ⟨o3, vs3, at3, z3, d3⟩ := f3.there
    have noFrame : a ∉ frs (X.env :: X.outer) := fun m => by
      obtain ⟨_, o', e', bad⟩ := f3.2.2.1.mem m
      rw [at3] at e'
      cases e'
      exact bad _ d3
    have nL : a ≠ X.env.locals := fun z => noFrame (List.mem_filterMap.mpr ⟨X.env, List.mem_cons_self, by rw [fr, z]⟩)
    have nF : a ∉ X.fs := fun m => by
      obtain ⟨e, he, q⟩ := List.mem_filterMap.mp m
      exact noFrame (List.mem_filterMap.mpr ⟨e, List.mem_cons_of_mem _ he, q⟩)
    have S3 := J3.suite at3 d3 na nL nF
    have none_fits : Wout cls d σ1 H1 → wpAny (model X.prog X.w) X.A (handleBy (.ref a) X.env []) (SP X pins D) X.xe { s' with heap := h3 } := fun w0 => by
      refine wpAny_handleBy_nil ?_
      obtain ⟨_, _, _, oe, vs, T, _, _, he, _, hd, h1, _⟩ := id f3
      unfold PySem.passOn
      refine wpAny_bind (wpAny_field he hd h1 ?_)
      have nn : ¬ (Value.ref T == Value.none) = true := by simp
      rw [if_neg nn]
      have off : wpAny (model X.prog X.w) X.A (setFlight (.ref a) X.env.frame) (fun _ s4 => wpAny (model X.prog X.w) X.A (throw (.ref a) : Sem Flow) (SP X pins D) X.xe s4) X.xe { s' with heap := h3 } := by
        rw [fr]
        refine HandSPX.setFlight_upZ f3 fun h4 g4 u4 => wpAny_throw (tk _ _ ?_)
        exact ⟨a, B, sI, pins, σ1, H1, cls, d, rfl, J, nb, (up.trans u3).trans u4, .inr (.inr (by rw [st]; exact g4)), na, os, ag, w0⟩
      first
        | exact wpAny_bind (wpAny_pure (wpAny_bind off))
        | exact wpAny_bind off
    obtain ⟨yes, fits, inS, goOn⟩ := w
    refine wpAny_handleBy_cons (codeAny_handlers_test ?_) (by intro q; cases q)
    have ty : PySem.W.Looks (model X.prog X.w) h3 (typeOf (.ref a)) cls := fun _ _ _ _ k q => wpAny_typeOf_ref (k _ _ at3) (by rw [z3.1]; exact q)
    have look := PySem.W.exm_one (M := model X.prog X.w) J3.kIn ty fits
    have named : ∀ {Q : Value → Shared → Prop} {E : Value → Shared → Prop}, Q c { s' with heap := h3 } → wpAny (model X.prog X.w) (X.A.mark (some (.ref a))) (eval (.Name x q1) X.env) Q E { s' with heap := h3 } := fun {Q E} q => by
      obtain ⟨g1, g2, g3 | ⟨g3, g4, g5⟩⟩ := nm
      · exact ld_glob (X := X.suite a ((a, o3) :: (X.pn ++ pins))) S3 g1 g3 q g2
      · exact ld_blt (X := X.suite a ((a, o3) :: (X.pn ++ pins))) S3 g1 g3 g4 q g5 g2
    refine named (look.here ?_)
    cases yes with
    | false =>
      show wpAny _ X.A (handleBy (.ref a) X.env []) _ _ _
      exact none_fits (goOn rfl)
    | true =>
      refine codeAny_handlers_suite_as ?_
      refine HandSPX.lands_againZ f3 fun h4 f4 u4 => ?_
      have J4 : Inv X pins σ1 H1 { s' with heap := h4 } := J.landed nb f4.1 ((up.trans u3).trans u4) os ag
      obtain ⟨o4, vs4, at4, z4, d4⟩ := f4.there
      have S4 := J4.suite at4 d4 na nL nF
      let xs : Value → Shared → Prop := fun u sx => wpAny (model X.prog X.w) (X.A.mark (some (.ref a))) (noteFrame u X.env) (fun _ s3 => wpAny (model X.prog X.w) (X.A.mark (some (.ref a))) (do bindName X.env n .none; unbindBehindTheSuite X.env n q2)
        (fun _ s4 => wpAny (model X.prog X.w) (X.A.mark (some (.ref a))) (PySem.passOn "try.except-as" u X.env : Sem Flow) (fun _ _ => False) (notedBy (model X.prog X.w) (X.A.mark (some (.ref a))) X.env (cameBackBy (model X.prog X.w) X.A X.env X.xe)) s4)
        (fun y s4 => wpAny (model X.prog X.w) (X.A.mark (some (.ref a))) (setFlight u none) (fun _ s5 => notedBy (model X.prog X.w) (X.A.mark (some (.ref a))) X.env (cameBackBy (model X.prog X.w) X.A X.env X.xe) y s5) (notedBy (model X.prog X.w) (X.A.mark (some (.ref a))) X.env (cameBackBy (model X.prog X.w) X.A X.env X.xe)) s4) s3)
        (notedBy (model X.prog X.w) (X.A.mark (some (.ref a))) X.env (cameBackBy (model X.prog X.w) X.A X.env X.xe)) sx
      have tkS : L2.Takes (sX X a ((a, o4) :: (X.pn ++ pins)) xs) Ws := fun u2 s2 x2 => by
        obtain ⟨a2, B2, sI2, pn2, σ2, H2, cls2, d2, e2, I2, r2⟩ := x2
        exact flies_off st fr nd ni lo tks wk ⟨a2, B2, sI2, pins, σ2, H2, cls2, d2, e2, (sX_in I2).unsuite I0, r2⟩
      have hot : L2H.HotC (sX X a ((a, o4) :: (X.pn ++ pins)) xs) := ⟨(a, o4), ⟨rfl, vs4, d4, z4.2.2 vs4 d4⟩, List.mem_cons_self⟩
      refine store_ok (X := X.suite a ((a, o4) :: (X.pn ++ pins))) (v := .ref a) S4 nd ni (.inl lo) rfl (fun s5 S5 => ?_) (.inr lo)
      refine wpAny_mono ((sp a o4 cls d (X.pn ++ pins) xs z4 ⟨_, d4⟩ tkS hot).run [] s5 _ H1 _ (sX_of S5) (inS rfl a na)) (fun f s6 got => ?_) (fun e6 s6 z => z)
      have done : ∀ {σ6 : L2.St} {H6 : Hp} {Q : Shared → Prop}, Inv (sX X a ((a, o4) :: (X.pn ++ pins)) xs) [] σ6 H6 s6 → (∀ s7, Inv X pins (σ6.set i none) H6 s7 → Q s7) → wpAny (model X.prog X.w) X.A (do bindName X.env n .none; unbindBehindTheSuite X.env n q2) (fun _ s7 => Q s7) X.xe s6 :=
        fun S6 hq => gone_ok ((sX_in S6).unsuite I0) nd ni lo hq
      match f, got with
      | .next, ⟨_, _, S6, q6⟩ => exact done S6 fun s7 J7 => ⟨_, _, J7, q6⟩
      | .brk, ⟨_, _, S6, q6⟩ => exact done S6 fun s7 J7 => ⟨_, _, J7, q6⟩
      | .cont, ⟨_, _, S6, q6⟩ => exact done S6 fun s7 J7 => ⟨_, _, J7, q6⟩
      | .ret _, ⟨_, _, _, S6, r6, q6⟩ => exact done S6 fun s7 J7 => ⟨_, _, _, J7, r6, q6⟩
  refine wpAny_mono ((hb (wAs X.K c i ts Wout D) (X.pn ++ pins) caught take PassesOwn.looking).run [] s σ H D (I.toTry _) want) (fun f s1 got => ?_) (fun e s1 he => he)
  match f, got with
  | .next, ⟨_, _, J', q⟩ => exact wpAny_execs_nil ⟨_, _, J'.ofTry I0, q⟩
  | .brk, ⟨_, _, J', q⟩ => exact ⟨_, _, J'.ofTry I0, q⟩
  | .cont, ⟨_, _, J', q⟩ => exact ⟨_, _, J'.ofTry I0, q⟩
  | .ret _, ⟨_, _, _, J', r, q⟩ => exact ⟨_, _, _, J'.ofTry I0, r, q⟩
end Qk
namespace Qk
open PySem PySem.Spec PyProof.Rows L2 HotX
/-- raise C(..) from e in the suite that caught e -/
theorem ps_raiseFE {X : Cx} {W : WX} {a : Addr} {oe : Obj} {cls : Value} {d : Option Addr} {pn : List (Addr × Obj)} {xe : Value → Shared → Prop} {e : Expr} {t : L2.St → Hp → XK → Prop} {i : Nat} {nm : Str} {cp pos : Pos}
    (hz : L2N.Zn cls d oe) (hf : ∃ vs, oe.data = .fields vs) (tk : L2.Takes (sX X a ((a, oe) :: pn) xe) W) (he : L2H.PMk5 (sX X a ((a, oe) :: pn) xe) e t) (hi : X.N[i]? = some nm) (hv : X.env.kindOf nm = some .local) (hd : (nm == ("__debug__" : Str)) = false := by decide) :
    PS (sX X a ((a, oe) :: pn) xe) (.Raise (some e) (some (.Name nm cp)) pos) (fun _ σ H => t σ H fun cls' d' H' => σ[i]? = some (some (.ref a)) ∧ PySem.W.subIn X.K cls (.type "BaseException") = some true ∧ W cls' d' σ H') := by
  refine ⟨fun pins s σ H D I want => ?_⟩
  obtain ⟨v1, e1⟩ := hf
  show wpAny _ _ (do standAt pos; raiseStmt X.env (some (do let v ← eval e X.env; standAt pos; pure v)) (some (do let v ← eval (.Name nm cp) X.env; standAt pos; pure v))) _ _ _
  refine wpAny_bind (wpAny_standAt (raise_from_hot (c := a) (wpAny_bind (wpAny_mono (he pins s σ H _ I want) (fun u s1 hu => wpAny_bind (wpAny_standAt (wpAny_pure ?_))) fun _ _ x => x))))
  obtain ⟨⟨n, ob, us, sI, H', cl, d2, rfl, J, k, hne, gn, zn, du, u1, na, os, ag, r, sl, sub, q⟩, six⟩ := hu
  have big : 4 < us.size := six n ob us rfl gn du
  have J1 : Inv (sX X a ((a, oe) :: pn) xe) pins σ H' s1 := by
    have J0 := J.kept (h' := s1.heap) (t' := s1.toks) k
    exact ⟨J0.ok, os.trans J.os, ag, J0.base, J0.loc, J0.cell, J0.free, J0.freeC, J0.pin, J0.hok, J0.len⟩
  have P1 := (J.pin (a, oe) (List.mem_append_left _ List.mem_cons_self)).1
  have apart : n ≠ a := fun z => by
    rw [z] at hne
    have P2 : sI.heap.get? a = some oe := P1
    rw [hne] at P2
    cases P2
  have P3 : s1.heap.get? a = some oe := k _ _ P1
  have keepN : ∀ b o, sI.heap.get? b = some o → (causeAt s1.heap n a).get? b = some o := fun b o z => by
    rw [causeAt_ne (fun y => by rw [← y, hne] at z; cases z)]
    exact k b o z
  obtain ⟨r1, _⟩ := r (model X.prog X.w) s1.heap (J.kIn.keeps k)
  obtain ⟨_, r2⟩ := r (model X.prog X.w) (causeAt s1.heap n a) (J.kIn.keeps keepN)
  obtain ⟨g4, d4⟩ := causeAt_self (c := a) gn du
  have tb : (((us.setIfInBounds 3 (Value.ref a)).setIfInBounds 4 (Value.bool true)).setIfInBounds 2 (Value.ref a))[1]? = some Value.none := set_other (by decide) (set_other (by decide) (set_other (by decide) u1))
  refine ⟨n, ob, us, cl, cls, rfl, gn, zn.1, du, u1, big, Ne.symm apart, ⟨rfl, oe, v1, P3, e1, hz.2.2 v1 e1⟩, fun QC qc => ?_, fun _ _ _ s2 kk qq => wpAny_typeOf_ref (kk _ _ P3) (by rw [hz.1]; exact qq), PySem.W.looks_subIn J1.kIn sub, r1, r2, tk _ _ (XE.new J (fun b u z => ?_) hne (Heap.get?_update_self _ g4 (Obj.isFreed_of_fields (Obj.data_mapFields d4 _)))
    ⟨by rw [Obj.cls_mapFields, Obj.cls_mapFields, Obj.cls_mapFields]; exact zn.1, by rw [HandSPX.dict_mapFields, HandSPX.dict_mapFields, HandSPX.dict_mapFields]; exact zn.2.1⟩ (Obj.data_mapFields d4 _) tb na os ag q)⟩
  · obtain ⟨m, hn, lk⟩ := J1.loc
    obtain ⟨u, ru, l⟩ := lk i nm (.ref a) hi sl (.inl hv)
    obtain rfl : u = Value.ref a := ru
    rcases l with ⟨hk, hm⟩ | ⟨hk, c, hc, hcell⟩
    · exact wpAny_bind (wpAny_Name (wpAny_loadName_local J1.ok.kind hk hn hm (wpAny_bind (wpAny_standAt (wpAny_pure qc)))) hd)
    · rcases hk with hk | hk
      · have hv' : X.env.kindOf nm = some .cell := hk
        rw [hv] at hv'
        cases hv'
      · have hv' : X.env.kindOf nm = some .free := hk
        rw [hv] at hv'
        cases hv'
  · have nab : n ≠ b := fun y => by
      rw [← y, hne] at z
      cases z
    show ((causeAt s1.heap n a).update n (Obj.mapFields (·.setIfInBounds 2 (.ref a)))).get? b = some u
    rw [Heap.get?_update_other _ _ nab]
    exact keepN b u z
end Qk
namespace Qk
open PySem PySem.Spec PyProof.Rows L2
section
variable {X : Cx} {a : Addr} {pn : List (Addr × Obj)} {xe : Value → Shared → Prop}
theorem pe_sX {e : Expr} {te : TE} (h : PE (X.suite a pn) e te) : PE (sX X a pn xe) e te :=
  ⟨fun pins s σ H Q I w => wpAny_mono (h.run pins s σ H Q (sX_in I) w) (fun _ _ ⟨v, H1, I1, r⟩ => ⟨v, H1, sX_of I1, r⟩) fun _ _ z => z.elim⟩
theorem pa_sX {es : List Expr} {ta : TA} (h : PA (X.suite a pn) es ta) : PA (sX X a pn xe) es ta :=
  ⟨fun p pins s σ H Q I w => wpAny_mono (h.run p pins s σ H Q (sX_in I) w) (fun _ _ ⟨v, H1, I1, r⟩ => ⟨v, H1, sX_of I1, r⟩) fun _ _ z => z.elim⟩
end
theorem skyN {B h : Heap} {l : List Env} {a : Addr} {cls : Value} {d : Option Addr} {L : Addr} (x : Sky B l a (L2N.Zn cls d) L h) : Sky B l a (Zc cls d) L h := by
  rcases x with ⟨h1, h2, h3, oe, vs, he, hz, r⟩ | fl | held
  · exact .inl ⟨h1, h2, h3, oe, vs, he, hz.zc, r⟩
  · exact .inr (.inl (L2H.flyingZ_imp (fun _ z => z.zc) fl))
  · exact .inr (.inr ⟨held.1, held.2.1, held.2.2.1, L2H.tracedZ_imp (fun _ z => z.zc) held.2.2.2⟩)
theorem takesCN {X : Cx} {W : WX} (tk : L2.Takes X W) : L2N.Takes X W := fun u s' ⟨a, B, sI, pins, σ, H, cls, d, e, I, nb, up, sky, r⟩ => tk u s' ⟨a, B, sI, pins, σ, H, cls, d, e, I, nb, up, skyN sky, r⟩
/-- raise C(..) where errors are of L2.CX -/
theorem k_raiseC {X : Cx} {W : WX} {e : Expr} {C : Addr} {sp : Sp} {ta : TA} {pos : Pos} (hc : X.calm = true) (tk : L2.Takes X W) (he : L2N.PMk X e (tMkO C sp [] ta)) : PS X (.Raise (some e) none pos) (tRaise W C sp ta) := k_raise hc (takesCN tk) he
/-- try: body, except c as i: a suite that may raise -/
def tTryX (K : PySem.W.Frag) (c : Value) (i : Nat) (tb : WX → TS) (ts : Cls3) (Wout : WX) : TS := fun D σ H => tb (wAs K c i ts Wout D) D σ H
theorem k_tryX {X : Cx} {n : Str} {i : Nat} {body : List Stmt} {x : Str} {c : Value} {b : Stmt} {su : List Stmt} {q1 q2 : Pos} {pos : Pos} {tb : WX → TS} {ts : Cls3} {Wout Ws : WX} (K : PySem.W.Frag)
    (st : X.stack = X.env :: X.outer) (fr : X.env.frame = some X.env.locals) (nd : X.N.Nodup) (ni : X.N[i]? = some n) (lo : X.env.kindOf n = some .local) (tk : L2N.Takes X Wout) (tks : L2.Takes X Ws) (wk : ∀ cls d σ H, Ws cls d σ H → Ws cls d (σ.set i none) H)
    (nm : Names X x c) (hb : ∀ (W : WX) (pn : List (Addr × Obj)) (xe : Value → Shared → Prop), L2N.Takes (X.tr pn xe) W → PassesOwn (model X.prog X.w) X.A X.env xe → PSs (X.tr pn xe) body (tb W))
    (sp : ∀ (a : Addr) (o : Obj) (cls : Value) (d : Option Addr) (pn : List (Addr × Obj)) (xe : Value → Shared → Prop), L2N.Zn cls d o → (∃ vs, o.data = .fields vs) → L2.Takes (sX X a ((a, o) :: pn) xe) Ws → L2H.HotC (sX X a ((a, o) :: pn) xe) → PSs (sX X a ((a, o) :: pn) xe) (b :: su) (ts a cls d)) (e : X.K = K := by rfl) :
    PS X (.Try body [.ExceptHandler (some (.Name x q1)) (some n) (b :: su) q2] [] [] pos) (tTryX K c i tb ts Wout) := by
  subst e
  exact ps_tryX st fr nd ni lo tk tks wk hb nm sp
theorem g_tryX {K : PySem.W.Frag} {c : Value} {i : Nat} {tb : WX → TS} {ts : Cls3} {Wout : WX} {D : Ends} {σ : L2.St} {H : Hp} (q : tb (wAs K c i ts Wout D) D σ H) : tTryX K c i tb ts Wout D σ H := q
/-- raise C(..) from e -/
def tRaiseF (K : PySem.W.Frag) (a : Addr) (cls : Value) (i : Nat) (W : WX) (C : Addr) (sp : Sp) (ta : TA) : TS := fun _ σ H => tMkO C sp [] ta σ H fun cls' d' H' => σ[i]? = some (some (.ref a)) ∧ PySem.W.subIn K cls (.type "BaseException") = some true ∧ W cls' d' σ H'
theorem k_raiseF {X : Cx} {W : WX} {a : Addr} {oe : Obj} {cls : Value} {d : Option Addr} {pn : List (Addr × Obj)} {xe : Value → Shared → Prop} {e : Expr} {i : Nat} {nm : Str} {cp pos : Pos} {C : Addr} {sp : Sp} {ta : TA} (K : PySem.W.Frag)
    (hz : L2N.Zn cls d oe) (hf : ∃ vs, oe.data = .fields vs) (tk : L2.Takes (sX X a ((a, oe) :: pn) xe) W) (he : L2H.PMk5 (sX X a ((a, oe) :: pn) xe) e (tMkO C sp [] ta)) (hi : X.N[i]? = some nm) (hv : X.env.kindOf nm = some .local) (ek : X.K = K := by rfl) (hd : (nm == ("__debug__" : Str)) = false := by decide) :
    PS (sX X a ((a, oe) :: pn) xe) (.Raise (some e) (some (.Name nm cp)) pos) (tRaiseF K a cls i W C sp ta) := by
  subst ek
  exact ps_raiseFE hz hf tk he hi hv hd
theorem g_raiseF {K : PySem.W.Frag} {a : Addr} {cls : Value} {i : Nat} {W : WX} {C : Addr} {sp : Sp} {ta : TA} {D : Ends} {σ : L2.St} {H : Hp} (hs : σ[i]? = some (some (.ref a))) (hb : PySem.W.subIn K cls (.type "BaseException") = some true) (q : ta σ H fun vs H1 => kMk C sp vs H1 fun cls d H' => W cls d σ H') : tRaiseF K a cls i W C sp ta D σ H := by
  have key : (fun cls' d' H' => σ[i]? = some (some (V.ref a)) ∧ PySem.W.subIn K cls (.type "BaseException") = some true ∧ W cls' d' σ H') = fun cls' d' H' => W cls' d' σ H' := by
    funext c' d' H'
    exact propext ⟨fun z => z.2.2, fun z => ⟨hs, hb, z⟩⟩
  show tMkO C sp [] ta σ H _
  rw [key]
  exact q
end Qk

/-! Qdc: dict comprehensions, split, startswith -/
namespace Qk
open PySem PySem.Spec PyProof.Rows L2
def kDc (J : It) (g : TG) (tt : TT) (tk tv : TE) (vs : List Nat) (σ : L2.St) (H1 : Hp) (Q : VK) : Prop := ∀ D, H1 D = none → ∃ W : Nat → Nat → Hp → Prop, (∃ m, W 0 m (upd H1 D (.dK []))) ∧ ∀ i m H, W i m H →
  (J.stop i H ∧ Q (.ref D) H) ∨ (J.go i H ∧ ∃ Nx : Hp → Prop, (∀ H', Nx H' → ∃ m', m' < m ∧ W (i + 1) m' H') ∧ ∀ x H', J.yld i H x H' → g x (wipe σ vs) H' fun σ2 H2 => wipe σ2 vs = wipe σ vs ∧ tt σ2 H2 fun b H3 =>
    if b = true then tk σ2 H3 fun y H4 => tv σ2 H4 fun z H5 => ∃ kvs k, y = kV k ∧ H5 D = some (.dK kvs) ∧ kvs.length < sizeLine ∧ Nx (upd H5 D (.dK (putK kvs k z))) else Nx H3)
def kDNx (S : Nat → List (Key × V) → Hp → Own → Prop) (i : Nat) (D : Addr) (H : Hp) : Prop := ∃ acc F' O', S (i + 1) acc F' O' ∧ Has F' ((D, .dK acc) :: O') H
def kDTurn (D : Addr) (Nx : Hp → Prop) (y z : V) (H : Hp) : Prop := ∃ kvs k, y = kV k ∧ H D = some (.dK kvs) ∧ kvs.length < sizeLine ∧ Nx (upd H D (.dK (putK kvs k z)))
def kDcL (K : PySem.W.Frag) (g : TG) (tt : TT) (tk tv : TE) (vs : List Nat) (σ : L2.St) (x : V) (H : Hp) (Q : VK) : Prop := ∃ a, x = .ref a ∧ (∃ xs, SqL K H a xs) ∧ kDc (Itl K a) g tt tk tv vs σ H Q
def kDcT (K : PySem.W.Frag) (g : TG) (tt : TT) (tk tv : TE) (vs : List Nat) (σ : L2.St) (x : V) (H : Hp) (Q : VK) : Prop := ∃ a, x = .ref a ∧ (∃ xs, SqT K H a xs) ∧ kDc (Itt K a) g tt tk tv vs σ H Q
section
variable {K : PySem.W.Frag} {σ : L2.St} {F : Hp} {O : Own} {H : Hp} {Q : VK} {ta tk tv : TE} {tt : TT} {vs : List Nat} {g : TG}
theorem g_dcL (q : ta σ H fun x H1 => kDcL K g tt tk tv vs σ x H1 Q) : tDc (iList K ta) g tt tk tv vs σ H Q := q
theorem g_dcT (q : ta σ H fun x H1 => kDcT K g tt tk tv vs σ x H1 Q) : tDc (iTup K ta) g tt tk tv vs σ H Q := q
theorem kd_turn {S : Nat → List (Key × V) → Hp → Own → Prop} {i : Nat} {D : Addr} {acc : List (Key × V)} {y z : V} {k : Key} (e : y = kV k) (h : Has F ((D, .dK acc) :: O) H) (hl : acc.length ≤ 100000) (s : S (i + 1) (putK acc k z) F O) : kDTurn D (kDNx S i D) y z H :=
  ⟨acc, k, e, h.get (List.Mem.head _), by rw [sizeLine_eq]; omega, _, F, O, s, h.put .hd⟩
theorem kd_skip {S : Nat → List (Key × V) → Hp → Own → Prop} {i : Nat} {D : Addr} {acc : List (Key × V)} (h : Has F ((D, .dK acc) :: O) H) (s : S (i + 1) acc F O) : kDNx S i D H := ⟨acc, F, O, s, h⟩
theorem k_dc {J : It} (hH : Has F O H) (n : Nat) (S : Nat → List (Key × V) → Hp → Own → Prop) (h0 : S 0 [] F O)
    (go : ∀ i acc F O D H, i < n → S i acc F O → Has F ((D, .dK acc) :: O) H → J.go i H) (stop : ∀ acc F O D H, S n acc F O → Has F ((D, .dK acc) :: O) H → J.stop n H)
    (hs : ∀ i x acc F O D H H', i < n → J.yld i H x H' → S i acc F O → Has F ((D, .dK acc) :: O) H → g x (wipe σ vs) H' fun σ2 H2 => wipe σ2 vs = wipe σ vs ∧ tt σ2 H2 fun b H3 => if b = true then tk σ2 H3 fun y H4 => tv σ2 H4 fun z H5 => kDTurn D (kDNx S i D) y z H5 else kDNx S i D H3)
    (hd : ∀ acc F O D H, S n acc F O → Has F ((D, .dK acc) :: O) H → Q (.ref D) H) : kDc J g tt tk tv vs σ H Q := by
  intro D nD
  refine ⟨fun i m H => m = n - i ∧ i ≤ n ∧ ∃ acc F O, S i acc F O ∧ Has F ((D, .dK acc) :: O) H, ⟨n, by simp, Nat.zero_le _, [], F, O, h0, hH.new nD⟩, ?_⟩
  rintro i m H1 ⟨rfl, le, acc, F1, O1, s1, h1⟩
  by_cases lt : i < n
  · exact .inr ⟨go i acc F1 O1 D H1 lt s1 h1, kDNx S i D, fun H' p => ⟨n - (i + 1), by omega, rfl, lt, p⟩, fun x H' y => hs i x acc F1 O1 D H1 H' lt y s1 h1⟩
  · have e : i = n := by omega
    subst e
    exact .inl ⟨stop acc F1 O1 D H1 s1 h1, hd acc F1 O1 D H1 s1 h1⟩
theorem k_dcL {a : Addr} {xs : List V} (h : H a = some (.lst xs)) (hH : Has F O H) (S : Nat → List (Key × V) → Hp → Own → Prop) (h0 : S 0 [] F O) (hl : ∀ i acc F O H, S i acc F O → Has F O H → H a = some (.lst xs))
    (hs : ∀ i x acc F O D H, xs[i]? = some x → S i acc F O → Has F ((D, .dK acc) :: O) H → g x (wipe σ vs) H fun σ2 H2 => wipe σ2 vs = wipe σ vs ∧ tt σ2 H2 fun b H3 => if b = true then tk σ2 H3 fun y H4 => tv σ2 H4 fun z H5 => kDTurn D (kDNx S i D) y z H5 else kDNx S i D H3)
    (hd : ∀ acc F O D H, S xs.length acc F O → Has F ((D, .dK acc) :: O) H → Q (.ref D) H) : kDcL K g tt tk tv vs σ (.ref a) H Q := by
  refine ⟨a, rfl, ⟨xs, SqL.of h⟩, k_dc hH xs.length S h0 (fun i acc F O D H lt s hh => ⟨xs, xs[i], SqL.of (hl i acc F O H s hh.drop), List.getElem?_eq_getElem lt⟩) (fun acc F O D H s hh => ⟨xs, SqL.of (hl _ acc F O H s hh.drop), Nat.le_refl _⟩) (fun i x acc F O D H H' lt y s hh => ?_) hd⟩
  obtain ⟨e, y⟩ := y
  subst e
  exact hs i x acc F O D _ (y xs (SqL.of (hl i acc F O _ s hh.drop))) s hh
theorem k_dcT {a : Addr} {xs : List V} (h : H a = some (.tup xs)) (hH : Has F O H) (S : Nat → List (Key × V) → Hp → Own → Prop) (h0 : S 0 [] F O) (hl : ∀ i acc F O H, S i acc F O → Has F O H → H a = some (.tup xs))
    (hs : ∀ i x acc F O D H, xs[i]? = some x → S i acc F O → Has F ((D, .dK acc) :: O) H → g x (wipe σ vs) H fun σ2 H2 => wipe σ2 vs = wipe σ vs ∧ tt σ2 H2 fun b H3 => if b = true then tk σ2 H3 fun y H4 => tv σ2 H4 fun z H5 => kDTurn D (kDNx S i D) y z H5 else kDNx S i D H3)
    (hd : ∀ acc F O D H, S xs.length acc F O → Has F ((D, .dK acc) :: O) H → Q (.ref D) H) : kDcT K g tt tk tv vs σ (.ref a) H Q := by
  refine ⟨a, rfl, ⟨xs, SqT.of h⟩, k_dc hH xs.length S h0 (fun i acc F O D H lt s hh => ⟨xs, xs[i], SqT.of (hl i acc F O H s hh.drop), List.getElem?_eq_getElem lt⟩) (fun acc F O D H s hh => ⟨xs, SqT.of (hl _ acc F O H s hh.drop), Nat.le_refl _⟩) (fun i x acc F O D H H' lt y s hh => ?_) hd⟩
  obtain ⟨e, y⟩ := y
  subst e
  exact hs i x acc F O D _ (y xs (SqT.of (hl i acc F O _ s hh.drop))) s hh
end
/-! ### split, startswith -/
def rSplit : V → List V → Hp → VK → Prop := fun x xs H Q => ∃ a b, x = .str a ∧ xs = [.str b] ∧ (b.length == 0) = false ∧ a.length + 2 ≤ sizeLine ∧ rNewStrs (Txt.split a b) H Q
def rStarts : V → List V → Hp → VK → Prop := fun x xs H Q => ∃ a b, x = .str a ∧ xs = [.str b] ∧ Q (.bl (Txt.startswith a b)) H
section
variable {X : Cx} {o e : Expr} {to te : TE}
theorem k_split {apos pos : Pos} (ho : PE X o to) (he : PE X e te) (hs : starEach [e] X.env = [(false, eval e X.env)] := by rfl) (hb : attributeBase o "split" X.env (eval o X.env) = eval o X.env := by rfl) (hl : (apos.endLine == pos.line) = true := by rfl) :
    PE X (.Call (.Attribute o "split" apos) [e] [] pos) (tM1 rSplit to te) := pe_split ho he hs hb hl
theorem k_starts {apos pos : Pos} (ho : PE X o to) (he : PE X e te) (hs : starEach [e] X.env = [(false, eval e X.env)] := by rfl) (hb : attributeBase o "startswith" X.env (eval o X.env) = eval o X.env := by rfl) (hl : (apos.endLine == pos.line) = true := by rfl) :
    PE X (.Call (.Attribute o "startswith" apos) [e] [] pos) (tM1 rStarts to te) := pe_m1 F.slot_str_startswith F.type_str_startswith mt_startswith ho he hs hb hl
end
def kM1 (r : V → List V → Hp → VK → Prop) (te : TE) (σ : L2.St) (x : V) (H : Hp) (Q : VK) : Prop := (∃ a, x = .str a) ∧ te σ H fun y H2 => r x [y] H2 Q
theorem g_m1s {r : V → List V → Hp → VK → Prop} {to te : TE} {σ : L2.St} {H : Hp} {Q : VK} (q : to σ H fun x H1 => kM1 r te σ x H1 Q) : tM1 r to te σ H Q := q
theorem g_km1s {r : V → List V → Hp → VK → Prop} {te : TE} {σ : L2.St} {a : Str} {H : Hp} {Q : VK} (q : te σ H fun y H2 => r (.str a) [y] H2 Q) : kM1 r te σ (.str a) H Q := ⟨⟨a, rfl⟩, q⟩
theorem g_split {F H : Hp} {O : Own} {Q : VK} {a b : Str} (nb : (b.length == 0) = false) (la : a.length ≤ 100000) (hH : Has F O H) (q : ∀ p H', H p = none → Has F ((p, .lst ((Txt.split a b).map V.str)) :: O) H' → Q (.ref p) H') : rSplit (.str a) [.str b] H Q :=
  ⟨a, b, rfl, rfl, nb, by rw [sizeLine_eq]; omega, fun p n => q p _ n (hH.new n)⟩
theorem g_starts {H : Hp} {Q : VK} {a b : Str} (q : Q (.bl (Txt.startswith a b)) H) : rStarts (.str a) [.str b] H Q := ⟨a, b, rfl, rfl, q⟩
/-! ### comprehensions over a text -/
def kLcS (g : TG) (tt : TT) (te : TE) (vs : List Nat) (σ : L2.St) (x : V) (H : Hp) (Q : VK) : Prop := ∃ z, x = .str z ∧ kLc (Its z) g tt te vs σ H Q
theorem g_lcS {ta te : TE} {g : TG} {tt : TT} {vs : List Nat} {σ : L2.St} {H : Hp} {Q : VK} (q : ta σ H fun x H1 => kLcS g tt te vs σ x H1 Q) : tLc (iStr ta) g tt te vs σ H Q := q
theorem k_lcS {z : Str} {te : TE} {g : TG} {tt : TT} {vs : List Nat} {σ : L2.St} {F H : Hp} {O : Own} {Q : VK} (hH : Has F O H) (S : Nat → List V → Hp → Own → Prop) (h0 : S 0 [] F O)
    (hs : ∀ i c acc F O D H, z.cps[i]? = some c → S i acc F O → Has F ((D, .lst acc) :: O) H → g (.str ⟨#[c]⟩) (wipe σ vs) H fun σ2 H2 => wipe σ2 vs = wipe σ vs ∧ tt σ2 H2 fun b H3 => if b = true then te σ2 H3 fun y H4 => kTurn D (kNx S i D) y H4 else kNx S i D H3)
    (hd : ∀ acc F O D H, S z.length acc F O → Has F ((D, .lst acc) :: O) H → Q (.ref D) H) : kLcS g tt te vs σ (.str z) H Q := by
  refine ⟨z, rfl, k_lc hH z.length S h0 (fun i acc F O D H lt s hh => lt) (fun acc F O D H s hh => Nat.le_refl _) (fun i x acc F O D H H' lt y s hh => ?_) hd⟩
  obtain ⟨e, c, hc, rfl⟩ := y
  subst e
  exact hs i c acc F O D _ hc s hh
/-! ### a text times a number -/
def repS (z : Str) (n : Nat) : Str := ⟨(List.replicate n z.cps).foldl (· ++ ·) #[]⟩
theorem foldl_cps (z : Array Nat) : ∀ (n : Nat) (acc : Array Nat), ((List.replicate n z).foldl (· ++ ·) acc).toList = acc.toList ++ (List.replicate n z.toList).flatten
  | 0, acc => by simp
  | n + 1, acc => by
    rw [List.replicate_succ, List.foldl_cons, foldl_cps z n, Array.toList_append, List.replicate_succ, List.flatten_cons, List.append_assoc]
theorem repS_list (z : Str) (n : Nat) : (repS z n).cps.toList = (List.replicate n z.cps.toList).flatten := by
  unfold repS
  rw [foldl_cps]
  rfl
theorem repS_len (z : Str) (n : Nat) : (repS z n).length = n * z.length := by
  have h := congrArg List.length (repS_list z n)
  have e : (repS z n).cps.toList.length = (repS z n).length := Array.length_toList
  rw [e] at h
  rw [h, List.length_flatten, List.map_replicate, List.sum_replicate_nat]
  rfl
def rRepS : R2 := fun x y H Q => ∃ (z : Str) (k : Int), x = .str z ∧ y = .int k ∧ 1 ≤ k ∧ k ≤ 1000 ∧ z.length ≤ 1000 ∧ Q (.str (repS z k.toNat)) H
section
variable {X : Cx}
theorem op_repS : OpR X (binaryOp .Mult) rRepS := by
  intro pins s σ H x y v u Q I rx ry h
  obtain ⟨z, k, rfl, rfl, k1, k2, lz, q⟩ := h
  obtain ⟨t, rfl⟩ := rx
  obtain ⟨t', rfl⟩ := ry
  have e1 : decide (k < -(2 ^ 63 : Int)) = false := decide_eq_false (by omega)
  have e2 : decide (k ≥ 2 ^ 63) = false := decide_eq_false (by omega)
  have big : z.length * k.toNat ≤ 1000000 := Nat.mul_le_mul lz (m₂ := 1000) (by omega)
  refine PySem.P.mul_str (by rw [e1, e2]; rfl) (fun _ _ => ?_) (fun _ _ => ?_) ?_
  · have h1 : (z.length : Int) * k ≤ 2 ^ 63 - 1 := by
      have e : (z.length : Int) * k = ((z.length * k.toNat : Nat) : Int) := by
        rw [Int.natCast_mul, Int.toNat_of_nonneg (by omega)]
      rw [e]
      omega
    have := (Int.le_ediv_iff_mul_le (a := (z.length : Int)) (b := 2 ^ 63 - 1) (c := k) (by omega)).mpr h1
    omega
  · unfold Builtin.Str.tooLong
    simp only [decide_eq_false_iff_not]
    rw [sizeLine_eq]
    omega
  · rw [if_neg (by omega)]
    by_cases c : (k == 1 || z.length == 0) = true
    · rw [if_pos c]
      have e : repS z k.toNat = z := by
        have hl := repS_list z k.toNat
        have : (repS z k.toNat).cps = z.cps := by
          apply Array.ext'
          rw [hl]
          rcases Bool.or_eq_true _ _ ▸ c with c | c
          · have : k = 1 := by simpa using c
            subst this
            simp
          · have c : z.length = 0 := by simpa using c
            have : z.cps.toList = [] := List.eq_nil_of_length_eq_zero (by rw [Array.length_toList]; exact c)
            rw [this]
            simp
        cases z
        exact congrArg Str.mk this
      rw [e] at q
      exact ⟨.str z, H, I, ⟨_, rfl⟩, q⟩
    · rw [if_neg c]
      refine ⟨?_, .str _, H, I.tok _, ⟨_, rfl⟩, q⟩
      have l := repS_len z k.toNat
      have l2 : (repS z k.toNat).length ≤ 1000000 := by rw [l, Nat.mul_comm]; exact big
      rw [sizeLine_eq]
      exact Nat.le_trans l2 (by decide)
end
theorem g_repS {H : Hp} {Q : VK} {z : Str} {k : Int} (k1 : 1 ≤ k) (k2 : k ≤ 1000) (lz : z.length ≤ 1000) (q : Q (.str (repS z k.toNat)) H) : rRepS (.str z) (.int k) H Q := ⟨z, k, rfl, rfl, k1, k2, lz, q⟩
end Qk

/-! Qx: list(o) of an own object whose __iter__ gives an iterator of a list -/
namespace Qk
open PySem PySem.Spec PyProof.Rows L2
section
variable {P : Program} {w : World} {A : Around} {E : Value → Shared → Prop} {s : Shared} {it l : Addr} {i : Nat} {items : Array Value} {Q : Option Value → Shared → Prop}
theorem pyNext_of (ty : s.TypeIs (.ref it) "list_iterator")
    (h : wpAny (model P w) A.in1 (Builtin.«list_iterator.__next__» ⟨[.ref it], []⟩) (fun fin s' => ∃ v, fin = Fin.done (Flow.ret v) ∧ Q (some v) s') (fun e s' => wpAny (model P w) A (do
      let b ← isInstance e (.type "StopIteration")
      if b = true then pure none else throw e) Q E s') s) : wpAny (model P w) A (pyNext (.ref it)) Q E s := by
  unfold pyNext callSpecial?
  refine wpAny_bind (wpAny_attempt (wpAny_bind (wpAny_specialOf ty slot_listiter_next.lookup ?_)))
  dsimp only
  refine wpAny_holding ?_
  rw [slot_listiter_next.bind]
  refine wpAny_bind (wpAny_pure ?_)
  dsimp only
  refine wpAny_bind (wpAny_call_entry slot_listiter_next ty entry_listiter_next ?_ (args_listiter_next _))
  refine wpAny_mono h ?_ ?_
  · rintro fin s' ⟨v, rfl, q⟩
    refine ⟨v, rfl, ?_⟩
    exact wpAny_pure (wpAny_pure q)
  · exact fun e s' q => q
theorem li_next (h : s.heap.get? it = some (GNX.itObj l i)) (hl : s.heap.IsList l items) {x : Value} (hx : items[i]? = some x)
    (q : ∀ h', h'.get? it = some (GNX.itObj l (i + 1)) → Heap.SameBut it s.heap h' → Q (some x) { s with heap := h' }) : wpAny (model P w) A (pyNext (.ref it)) Q E s :=
  pyNext_of ⟨_, h, rfl⟩ (GNX.next_item h hl hx fun h' e b => q h' e b)
theorem li_end (hh : A.handled = none) (h : s.heap.get? it = some (GNX.itObj l i)) (hl : s.heap.IsList l items) (hx : items[i]? = none)
    (q : ∀ h', (∃ o, h'.get? it = some o) → (∀ b o, b ≠ it → s.heap.get? b = some o → h'.get? b = some o) → Q none { s with heap := h' }) : wpAny (model P w) A (pyNext (.ref it)) Q E s := by
  refine pyNext_of ⟨_, h, rfl⟩ (GNX.next_end hh h hl hx fun h1 h' e vs e1 b1 k ne he _ => ?_)
  refine wpAny_bind (wpAny_isInstance ⟨_, he, rfl⟩ (b := true) (by rfl) ?_)
  rw [if_pos rfl]
  refine wpAny_pure (q h' ⟨_, k _ _ e1⟩ fun b o hb ho => k b o ?_)
  rw [b1.2 b hb]
  exact ho
end
def GoneO (it : Addr) : HO := HO.ext fun h => ∃ o, h.get? it = some o
theorem gone_ok {P : Program} {w : World} {H : Hp} {h : Heap} {it : Addr} (e : ∃ o, h.get? it = some o) : ObjOk P w H h it (GoneO it) := ⟨e, e, fun h1 h2 ⟨o, ho⟩ s => ⟨o, s o ho⟩⟩
theorem upd4 {H : Hp} {it q : Addr} {a b a' b' : HO} (ne : it ≠ q) : upd (upd (upd (upd H it a) q b) it a') q b' = upd (upd H it a') q b' := by
  funext x
  by_cases e1 : x = q
  · subst e1; rw [upd_same, upd_same]
  · rw [upd_ne e1, upd_ne e1]
    by_cases e2 : x = it
    · subst e2; rw [upd_same, upd_same]
    · rw [upd_ne e2, upd_ne e1, upd_ne e2, upd_ne e2]
section
variable {X : Cx} {pins : List (Addr × Obj)} {σ : L2.St} {A1 : Around} {Rs : Result → Shared → Prop}
theorem li_loop {it l q : Addr} {ys : List V} {H0 : Hp} (hd : A1.handled = none) (n1 : it ≠ q) (n2 : it ≠ l) (n3 : q ≠ l) (hl : H0 l = some (.lst ys)) (few : ys.length ≤ sizeLine)
    (done : ∀ s', L2.Inv X pins σ (upd (upd H0 it (GoneO it)) q (.lst ys)) s' → Rs (.ok (.ret .none)) s') :
    ∀ (m i : Nat) (s : Shared), i + m = ys.length → L2.Inv X pins σ (upd (upd H0 it (ItO l it i)) q (.lst (ys.take i))) s → codeAny (model X.prog X.w) A1 (.builtin "list.extend.loop" ⟨[.ref q, .ref it, .none], []⟩) Rs s
  | m, i, s, e, I => by
    refine codeAny_builtin F.entry_extend_loop ?_
    rw [Around.under_plainId F.plain_extend_loop _]
    show wpAny _ A1.in1 (pyNext (.ref it) >>= _) _ _ s
    have hit : s.heap.get? it = some (GNX.itObj l i) := itO_get I (by rw [upd_ne n1, upd_same])
    obtain ⟨its, rv, pl, _⟩ := I.list (SqL.of (K := X.K) (a := l) (xs := ys) (by rw [upd_ne n3.symm, upd_ne n2.symm]; exact hl))
    have lits : its.length = ys.length := rv.length.symm
    cases m with
    | zero =>
      have hi : ys[i]? = none := List.getElem?_eq_none_iff.mpr (by omega)
      refine wpAny_bind (li_end (by simpa using hd) hit pl.isList (by rw [List.getElem?_toArray]; exact rv.none_of hi) fun h' ex k => ?_)
      dsimp only
      refine wpAny_pure ?_
      have et : ys.take i = ys := List.take_of_length_le (by omega)
      rw [et] at I
      have J := I.write (x := it) (e := it) (o := GoneO it) (t' := s.toks) (by rw [upd_ne n1, upd_same]; trivial) (.inl rfl) (fun b u hb hu => k b u hb hu) ex (gone_ok ex)
      have J2 := (L2.Inv.lstM J (l := q) (xs := ys) (by rw [upd_ne n1.symm, upd_same]))
      refine done _ ?_
      have eq : upd (upd (upd H0 it (ItO l it i)) q (.lst ys)) it (GoneO it) = upd (upd H0 it (GoneO it)) q (.lst ys) := by
        funext x
        by_cases e1 : x = it
        · subst e1; rw [upd_same, upd_ne n1, upd_same]
        · rw [upd_ne e1]
          by_cases e2 : x = q
          · subst e2; rw [upd_same, upd_same]
          · rw [upd_ne e2, upd_ne e1, upd_ne e2, upd_ne e1]
      rw [eq] at J
      exact J
    | succ m =>
      have hlt : i < ys.length := by omega
      have hy : ys[i]? = some ys[i] := List.getElem?_eq_getElem hlt
      obtain ⟨u, hu, ru⟩ := rv.get hy
      refine wpAny_bind (li_next hit pl.isList (by rw [List.getElem?_toArray]; exact hu) fun h' e1 b1 => ?_)
      dsimp only
      have J := I.write (x := it) (e := it) (o := ItO l it (i + 1)) (h' := h') (t' := s.toks) (by rw [upd_ne n1, upd_same]; trivial) (.inl rfl) (fun b v hb hv => by rw [b1.2 b hb]; exact hv) ⟨_, e1⟩ (itO_ok e1)
      obtain ⟨lq, itsq, nq, vq, eq_, gq⟩ := J.lstM (l := q) (xs := ys.take i) (by rw [upd_ne n1.symm, upd_same])
      show wpAny _ A1.in1 (updateSeq q _ >>= _) _ _ _
      refine wpAny_bind (wpAny_updateSeq gq rfl ?_ (by rw [List.size_toArray, ← eq_]; exact lq) (by rw [Array.size_push, List.size_toArray, ← eq_, List.length_take]; omega))
      refine wpAny_pure ⟨plainId_quiet F.plain_extend_loop _, ?_⟩
      have J2 := J.lset (l := q) (xs := ys.take i) (ys := ys.take (i + 1)) (its' := itsq ++ [u]) (f := fun x => x.push u) (t' := s.toks) (by rw [upd_ne n1.symm, upd_same]) gq (by simp) (by
        rw [List.take_add_one, hy]
        exact vq.append (.cons ru .nil)) (by rw [List.length_take]; omega)
      rw [upd4 n1] at J2
      exact li_loop hd n1 n2 n3 hl few done m (i + 1) _ (by omega) J2
end
/-- what the class of such an object says -/
structure LiC (K : PySem.W.Frag) (C fi : Addr) : Prop where
  it : PySem.W.findIn K (.ref C) "__iter__" = some (some (.ref fi))
  itF : PySem.W.isFn K (.ref fi) = true
  nolen : PySem.W.findIn K (.ref C) "__len__" = some none
  nohint : PySem.W.findIn K (.ref C) "__length_hint__" = some none
theorem li_hint {s : Shared} {C fi a : Addr} {M : Model} {A : Around} {E : Value → Shared → Prop} {Q : Bool → Shared → Prop} {K : PySem.W.Frag} {ox : Obj} {od : Option Obj} (I : LiC K C fi) (kin : K.In s.heap) (inst : PySem.W.InstAt s.heap a ox C od) (q : Q true s) : wpAny M A (Builtin.List.listLengthHint (.ref a)) Q E s := by
  unfold Builtin.List.listLengthHint specialOf
  refine wpAny_bind (wpAny_bind (inst.type.here ?_))
  refine (PySem.W.looks_findIn kin I.nolen).here ?_
  dsimp only
  refine PySem.W.KFB.if_not rfl ?_
  refine PySem.W.KFB.if_not rfl ?_
  refine wpAny_bind (wpAny_bind (inst.type.here ?_))
  refine (PySem.W.looks_findIn kin I.nohint).here ?_
  exact wpAny_pure q
def rListI (C : Addr) (sp : Sp) (EI : XK) : List V → Hp → VK → Prop := fun xs H Q => ∃ a dx fs, xs = [.ref a] ∧ H a = some (.ins C dx fs) ∧ ∀ q, H q = none → sp [.ref a] (upd H q (.lst [])) (fun v H' => ∃ (it l : Addr) (ys : List V), v = .ref it ∧ (∃ dx' fs', H' a = some (.ins C dx' fs')) ∧ H' it = some (ItO l it 0) ∧ H' q = some (.lst []) ∧ H' l = some (.lst ys) ∧
  it ≠ q ∧ it ≠ l ∧ q ≠ l ∧ ys.length ≤ sizeLine ∧ Q (.ref q) (upd (upd H' it (GoneO it)) q (.lst ys))) EI
theorem upd_id {H : Hp} {it q : Addr} {a b : HO} (h1 : H it = some a) (h2 : H q = some b) : upd (upd H it a) q b = H := by
  funext x
  by_cases e1 : x = q
  · subst e1; rw [upd_same, h2]
  · rw [upd_ne e1]
    by_cases e2 : x = it
    · subst e2; rw [upd_same, h1]
    · rw [upd_ne e2]
section
variable {X : Cx} {CI : CXT} {C fi : Addr} {fdI : FuncData} {psI : List Str} {sp : Sp} {EI : XK} {n : Nat}
set_option maxHeartbeats 1000000 in
theorem li_extend {pins : List (Addr × Obj)} {σ : L2.St} {H : Hp} {s : Shared} {a q dx : Addr} {fs : List (Str × V)} {A1 : Around} {Rs : Result → Shared → Prop} {Q : VK} (S : L2.Sub X n A1.in1) (L : LiC X.K C fi) (F : FnOk X.prog X.w X.K X.mg X.base CI n fi fdI psI sp) (bd : L2.Binds X.K fdI psI []) (pass : Passes CI X EI)
    (I : L2.Inv X pins σ H s) (ha : H a = some (.ins C dx fs)) (hq : H q = some (.lst []))
    (hs : sp [.ref a] H (fun v H' => ∃ (it l : Addr) (ys : List V), v = .ref it ∧ (∃ dx' fs', H' a = some (.ins C dx' fs')) ∧ H' it = some (ItO l it 0) ∧ H' q = some (.lst []) ∧ H' l = some (.lst ys) ∧ it ≠ q ∧ it ≠ l ∧ q ≠ l ∧ ys.length ≤ sizeLine ∧ Q (.ref q) (upd (upd H' it (GoneO it)) q (.lst ys))) EI)
    (done : ∀ (H' : Hp) (s' : Shared), L2.Inv X pins σ H' s' → Q (.ref q) H' → Rs (.ok (.ret .none)) s') (err : ∀ (e : Value) (s : Shared), X.xe e s → Rs (.error e) s) :
    wpAny (model X.prog X.w) A1.in1 (Builtin.List.listExtendWith (.ref q) (.ref a) .none) (fun fin s' => match fin with
      | Fin.done f => Rs (.ok f) s'
      | Fin.again c' => c'.quiet = true ∧ codeAny (model X.prog X.w) A1 c' Rs s') (fun e s' => Rs (.error e) s') s := by
  obtain ⟨mA, om, _⟩ := ins_get I.hok ha
  obtain ⟨od, inst, _⟩ := om.look
  obtain ⟨m, fr⟩ := I.fr
  have nqa : q ≠ a := fun e => by
    rw [e, ha] at hq
    cases hq
  unfold Builtin.List.listExtendWith
  refine wpAny_bind (inst.type.here ?_)
  refine PySem.W.KFB.if_not (by
    have : Builtin.List.listSameRef (.ref q) (.ref a) = false := by
      show (q == a) = false
      simpa using nqa
    rw [this]
    rfl) ?_
  refine wpAny_bind (PySem.W.owit_iter fr I.ok.mod.kin inst L.it L.itF ?_)
  refine wpAny_call ?_
  have e0 := I.env0
  have E0 : Env0 X.prog X.w X.K X.mg X.base A1.in1 X.stack s H := ⟨S.fr.trans e0.frames, e0.mod, e0.bs, e0.bsz, e0.funs, e0.frf, e0.hok, e0.bare⟩
  have hps : psI.length = 1 := (F.len _ _ _ _ hs).symm
  have run := F.run A1.in1 X.stack s H ⟨[Value.ref a], []⟩ [Value.ref a] [V.ref a] _ EI S.room E0 (bd s [Value.ref a] I.kIn (by rw [hps]; rfl)) (.cons rfl .nil) hs
  refine codeAny_mono run ?_
  rintro r s' hr
  cases r with
  | error e => exact err e s' (pass pins σ H s e s' I hr)
  | ok fl =>
    cases fl with
    | ret u =>
      obtain ⟨v, H', I', rv, hq'⟩ := I.after hr
      obtain ⟨it, l, ys, rfl, ⟨dx', fs', ha'⟩, hit, hq2, hl, n1, n2, n3, few, qq⟩ := hq'
      have eu : u = .ref it := rv
      subst eu
      show wpAny _ _ (specialOf (.ref it) "__next__") _ _ s'
      refine wpAny_specialOf ⟨_, itO_get I' hit, rfl⟩ slot_listiter_next.lookup ?_
      obtain ⟨mA', om', _⟩ := ins_get I'.hok ha'
      obtain ⟨od', inst', _⟩ := om'.look
      refine wpAny_bind (wpAny_holding (li_hint L I'.kIn inst' ?_))
      dsimp only
      refine wpAny_ite_split (fun _ => ?_) (fun h => (h rfl).elim)
      refine wpAny_bind (wpAny_rule ?_)
      obtain ⟨_, its0, n0, v0, e0', g0⟩ := I'.lstM hq2
      have ei : its0 = [] := List.eq_nil_of_length_eq_zero e0'.symm
      subst ei
      show wpAny _ _ ((updateSeq q _ >>= fun _ => updateSeq q _) >>= _) _ _ _
      refine wpAny_bind (wpAny_bind (wpAny_updateSeq g0 rfl ?_ (by decide) (by rw [sizeLine_eq]; decide)))
      have J1 := I'.lset (l := q) (xs := []) (ys := [.non]) (its' := [.none]) (f := fun x => x.push .none) (t' := s'.toks) hq2 g0 (by simp) (.cons rfl .nil) (by rw [sizeLine_eq]; decide)
      obtain ⟨_, its1, n1', v1, e1', g1⟩ := J1.lstM (l := q) (xs := [.non]) upd_same
      have l1 : its1.length = 1 := e1'.symm
      refine wpAny_updateSeq g1 rfl ?_ (by rw [List.size_toArray, l1, sizeLine_eq]; decide) (by rw [Array.size_pop, List.size_toArray, l1]; exact Nat.zero_le _)
      have J2 := J1.lset (l := q) (xs := [.non]) (ys := []) (its' := []) (f := fun x => x.pop) (t' := s'.toks) upd_same g1 (by
        match its1, l1 with
        | [x], _ => rfl) .nil (Nat.zero_le _)
      have eh : upd (upd H' q (.lst [.non])) q (.lst []) = H' := by
        funext x
        by_cases e : x = q
        · subst e; rw [upd_same, hq2]
        · rw [upd_ne e, upd_ne e]
      rw [eh] at J2
      refine wpAny_pure ⟨plainId_quiet PySem.F.plain_extend_loop _, ?_⟩
      refine li_loop (H0 := H') (ys := ys) (by simpa using S.room.hd) n1 n2 n3 hl few (fun s2 J => done _ s2 J qq) ys.length 0 _ (Nat.zero_add _) ?_
      have e2 : upd (upd H' it (ItO l it 0)) q (.lst (ys.take 0)) = H' := upd_id hit hq2
      rw [e2]
      exact J2
    | _ => exact hr.elim
theorem call_listI (L : LiC X.K C fi) (F : FnOk X.prog X.w X.K X.mg X.base CI n fi fdI psI sp) (bd : L2.Binds X.K fdI psI []) (pass : Passes CI X EI) (room : Room (n + 2) X.A) : CallR X (.type "list") (rListI C sp EI) := by
  intro pins s σ H vs us Q I0 r h
  obtain ⟨a, dx, fs, rfl, ha, h⟩ := h
  rw [Vals.ref1 r]
  have np : H s.heap.objs.size = none := I0.hok.fresh (Nat.le_refl _)
  have hq := h _ np
  have S : L2.Sub X n X.A.in1.in1 := (L2.Sub.in1 (L2.Sub.in1 ⟨room, rfl⟩))
  refine callType_codes PySem.F.called_list (PySem.F.typeCall_list_1 _) PySem.F.entry_list_init (code_list_new _ (Q₁ := fun obj s₁ => obj = .ref s.heap.objs.size ∧ s₁ = { s with heap := s.heap.push { cls := .type "list", data := .seq #[] } }) ⟨rfl, rfl⟩) ?_
  rintro obj s₁ ⟨rfl, rfl⟩
  have hp : (s.heap.push { cls := .type "list", data := .seq #[] }).get? s.heap.objs.size = some { cls := .type "list", data := .seq #[] } := Heap.get?_push_size _ rfl
  refine ⟨⟨_, hp, rfl⟩, PySem.F.args_list_init_2 _ _, ?_⟩
  have I1 := I0.lnew (ys := []) (its := []) (t' := s.toks) .nil (Nat.zero_le _)
  unfold Builtin.«list.__init__»
  dsimp only
  refine PySem.W.KFB.if_not rfl ?_
  rw [if_neg (show ¬ [Value.ref a].length > 1 from by simp)]
  unfold Builtin.List.listItems
  refine wpAny_bind (wpAny_bind (wpAny_seqItems hp rfl (wpAny_pure ?_)))
  show wpAny _ _ (updateSeq s.heap.objs.size _ >>= _) _ _ _
  refine wpAny_bind (wpAny_updateSeq hp rfl ?_ (by decide) (by decide))
  have J := I1.lset (l := s.heap.objs.size) (xs := []) (ys := []) (its := []) (its' := []) (f := fun x => #[]) (t' := s.toks) upd_same hp rfl .nil (Nat.zero_le _)
  have eh : upd (upd H s.heap.objs.size (.lst [])) s.heap.objs.size (.lst []) = upd H s.heap.objs.size (.lst []) := by
    funext x
    by_cases e : x = s.heap.objs.size
    · subst e; rw [upd_same, upd_same]
    · rw [upd_ne e, upd_ne e]
  rw [eh] at J
  refine wpAny_bind (wpAny_letGo ?_)
  have ne : a ≠ s.heap.objs.size := fun e => by
    rw [e, np] at ha
    cases ha
  have ha' : upd H s.heap.objs.size (.lst []) a = some (.ins C dx fs) := by rw [upd_ne ne]; exact ha
  exact li_extend (Rs := wants (fun r s₂ => r = .none ∧ EP X pins σ Q (.ref s.heap.objs.size) s₂) X.xe) S L F bd pass J ha' upd_same hq (fun H' s' I' q => ⟨rfl, V.ref s.heap.objs.size, H', I', rfl, q⟩) (fun e s he => he)
end
/-! ### the rules' steps -/
structure InsC (K : PySem.W.Frag) (C : Addr) : Prop where
  ca : PySem.W.findIn K (.ref C) "__class__" = some (some (.builtin "object.__class__"))
  cn : PySem.W.specialIn K (.builtin "object.__class__") "__get__" = some (some (.builtin "getset_descriptor.__get__"))
  ct : PySem.W.takesIn K (.builtin "object.__class__") = some true
  cm : PySem.W.mroIn K C (.type "object") = some true
theorem cr_isI {X : Cx} (K : PySem.W.Frag) (e : X.K = K := by rfl) : CallR X (.builtin "isinstance") (rIsi K) := by subst e; exact call_isi
theorem cr_iterK {X : Cx} (K : PySem.W.Frag) (e : X.K = K := by rfl) : CallR X (.builtin "iter") (rIter K) := by subst e; exact call_iterL
section
variable {K : PySem.W.Frag} {F : Hp} {O : Own} {H : Hp} {Q : VK}
theorem g_isO {a C dx : Addr} {fs : List (Str × V)} (h : H a = some (.ins C dx fs)) (c : Cls K C) (i : InsC K C) (q : Q (.bl true) H) : rIsi K [.ref a, .ref C] H Q :=
  ⟨.ref a, .ref C, .ref C, .ref C, true, rfl, .own C, .base (.ins h c i.ca i.cn i.ct i.cm), by unfold PySem.W.kitOne; rw [if_pos (beq_self_eq_true _)], q⟩
theorem g_iter {l : Addr} {zs : List V} (h : H l = some (.lst zs)) (q : ∀ it, H it = none → Q (.ref it) (upd H it (ItO l it 0))) : rIter K [.ref l] H Q := ⟨l, zs, rfl, SqL.of h, q⟩
/-- what an __iter__ that gives its list's iterator promises -/
def spIt (C : Addr) (nl : Str) : Sp := fun vs H Q _ => ∃ (a dx : Addr) (fs : List (Str × V)) (l : Addr) (ys : List V), vs = [.ref a] ∧ H a = some (.ins C dx fs) ∧ fs.lookup nl = some (.ref l) ∧ H l = some (.lst ys) ∧ ∀ it, H it = none → Q (.ref it) (upd H it (ItO l it 0))
theorem g_listI {C a dx l : Addr} {fs : List (Str × V)} {nl : Str} {ys : List V} {EI : XK} (h : H a = some (.ins C dx fs)) (lk : fs.lookup nl = some (.ref l)) (hl : H l = some (.lst ys)) (few : ys.length ≤ sizeLine) (hH : Has F O H)
    (q : ∀ p H', H p = none → Has F ((p, .lst ys) :: O) H' → Q (.ref p) H') : rListI C (spIt C nl) EI [.ref a] H Q := by
  refine ⟨a, dx, fs, rfl, h, fun p np => ?_⟩
  have nea : a ≠ p := fun e => by rw [e, np] at h; cases h
  have nel : l ≠ p := fun e => by rw [e, np] at hl; cases hl
  refine ⟨a, dx, fs, l, ys, rfl, by rw [upd_ne nea]; exact h, lk, by rw [upd_ne nel]; exact hl, fun it ni => ?_⟩
  have nip : it ≠ p := fun e => by rw [e, upd_same] at ni; cases ni
  have ni' : H it = none := by rw [upd_ne nip] at ni; exact ni
  have nea' : a ≠ it := fun e => by rw [e, ni'] at h; cases h
  have nel' : l ≠ it := fun e => by rw [e, ni'] at hl; cases hl
  refine ⟨it, l, ys, rfl, ⟨dx, fs, by rw [upd_ne nea', upd_ne nea]; exact h⟩, upd_same, by rw [upd_ne nip.symm, upd_same], by rw [upd_ne nel', upd_ne nel]; exact hl, nip, nel'.symm, nel.symm, few, ?_⟩
  have h1 := hH.new (o := .lst []) np
  have h2 := h1.new (o := ItO l it 0) ni
  have h3 := h2.put (o' := GoneO it) .hd
  have h4 := h3.put (o' := .lst ys) (.tl .hd)
  exact q p _ np h4.drop
end
end Qk

/-! Qy: sorted(triples of small ints), joins of texts -/
namespace Qk
open PySem PySem.Spec PyProof.Rows L2
section
variable {K : PySem.W.Frag} {σ : L2.St} {F : Hp} {O : Own} {H : Hp} {Q : VK}
def rSort3 (K : PySem.W.Frag) : List V → Hp → VK → Prop := rSortU K 3 64
theorem cr_sort3 {X : Cx} (K : PySem.W.Frag) (e : X.K = K := by rfl) : CallR X (.builtin "sorted") (rSort3 K) := by
  subst e
  exact cr_sortT (by decide)
/-- a triple of small ints -/
def Trip (H : Hp) (x : V) (a b c : Int) : Prop := ∃ t, x = .ref t ∧ H t = some (.tup [.int a, .int b, .int c])
theorem code_trip (a b c : Int) : TS.code 64 [a, b, c] = a * 4096 + b * 64 + c := by
  have e2 : (64 : Int) ^ 2 = 4096 := by decide
  have e1 : (64 : Int) ^ 1 = 64 := by decide
  have e0 : (64 : Int) ^ 0 = 1 := by decide
  show a * 64 ^ 2 + (b * 64 ^ 1 + (c * 64 ^ 0 + 0)) = _
  rw [e2, e1, e0]
  omega
theorem g_sort3 {p : Addr} {xs : List V} (h : H p = some (.lst xs)) (l : xs.length < 64) (hx : ∀ x ∈ xs, ∃ a b c, Trip F x a b c ∧ (0 ≤ a ∧ a < 64) ∧ (0 ≤ b ∧ b < 64) ∧ (0 ≤ c ∧ c < 64)) (hH : Has F O H)
    (q : ∀ ys p H', ys.Perm xs → ys.Pairwise (fun x y => ∀ a b c a' b' c', Trip F x a b c → Trip F y a' b' c' → a ≤ a') → H p = none → Has F ((p, .lst ys) :: O) H' → Q (.ref p) H') : rSort3 K [.ref p] H Q := by
  refine ⟨p, xs, rfl, SqL.of h, l, fun x m => ?_, fun ys p2 pm pw n => q ys p2 _ pm ?_ n (hH.new n)⟩
  · obtain ⟨a, b, c, ⟨t, rfl, ht⟩, ba, bb, bc⟩ := hx x m
    refine ⟨[a, b, c], ⟨t, rfl, SqT.of (hH.same _ _ ht)⟩, rfl, fun z hz => ?_⟩
    simp only [List.mem_cons, List.not_mem_nil, or_false] at hz
    rcases hz with rfl | rfl | rfl
    · exact ba
    · exact bb
    · exact bc
  · refine List.Pairwise.imp_of_mem ?_ pw
    intro x y mx my hc a b c a' b' c' tx ty
    obtain ⟨t, ex, ht⟩ := tx
    obtain ⟨u, ey, hu⟩ := ty
    have h := hc [a, b, c] [a', b', c'] ⟨t, ex, SqT.of (hH.same _ _ ht)⟩ ⟨u, ey, SqT.of (hH.same _ _ hu)⟩
    rw [code_trip, code_trip] at h
    obtain ⟨a1, b1, c1, ⟨t1, e1, h1⟩, ba1, bb1, bc1⟩ := hx x (pm.mem_iff.mp mx)
    obtain ⟨a2, b2, c2, ⟨t2, e2, h2⟩, ba2, bb2, bc2⟩ := hx y (pm.mem_iff.mp my)
    rw [ex] at e1
    rw [ey] at e2
    injection e1 with e1
    injection e2 with e2
    rw [← e1, ht] at h1
    rw [← e2, hu] at h2
    simp only [Option.some.injEq, HO.tup.injEq, List.cons.injEq, V.int.injEq, and_true] at h1 h2
    omega
theorem g_m1 {r : V → List V → Hp → VK → Prop} {te : TE} {sep : Str} (q : te σ H fun y H2 => r (.str sep) [y] H2 Q) : tM1 r (tC (.str sep)) te σ H Q := ⟨⟨sep, rfl⟩, q⟩
def rJoin (K : PySem.W.Frag) : V → List V → Hp → VK → Prop := fun x xs H Q => ∃ a p, ∃ ys : List Str, x = .str a ∧ xs = [.ref p] ∧ (SqL K H p (ys.map V.str) ∨ SqT K H p (ys.map V.str)) ∧ (ys.map (·.length)).sum + ys.length * a.length ≤ 16777216 ∧ Q (.str (PySem.Txt.join a ys)) H
theorem pe_joinK {X : Cx} (K : PySem.W.Frag) {o e : Expr} {to te : TE} {apos pos : Pos} (ho : PE X o to) (he : PE X e te) (eK : X.K = K := by rfl) (hs : starEach [e] X.env = [(false, eval e X.env)] := by rfl) (hbase : attributeBase o "join" X.env (eval o X.env) = eval o X.env := by rfl) (hline : (apos.endLine == pos.line) = true := by rfl) :
    PE X (.Call (.Attribute o "join" apos) [e] [] pos) (tM1 (rJoin K) to te) := by
  subst eK
  exact pe_join ho he hs hbase hline
theorem g_joinL {p : Addr} {sep : Str} {ys : List Str} (h : H p = some (.lst (ys.map V.str))) (l : (ys.map (·.length)).sum + ys.length * sep.length ≤ 16777216) (q : Q (.str (PySem.Txt.join sep ys)) H) : rJoin K (.str sep) [.ref p] H Q := ⟨sep, p, ys, rfl, rfl, .inl (SqL.of h), l, q⟩
end
end Qk

namespace K11
open PySem PySem.Spec PyProof.Rows L2 Qk
/-! ### the text -/
def topS (i : Nat) : Stmt := PySem.Challenge.pw_partclones_k11_checked_texts_trees.main.body.getD i (.Pass ⟨0, 0, 0, 0⟩)
abbrev s_is_line : Stmt := topS 8
abbrev n_is_line : List Str := ["value", "sign"]
theorem sc_is_line : FnScope n_is_line ["value"] (defScope s_is_line) := ⟨rfl, rfl, rfl, by decide +kernel, rfl, by decide +kernel, by decide +kernel⟩
abbrev s_checked_text : Stmt := topS 9
abbrev n_checked_text : List Str := ["text", "place", "line"]
theorem sc_checked_text : FnScope n_checked_text ["text"] (defScope s_checked_text) := ⟨rfl, rfl, rfl, by decide +kernel, rfl, by decide +kernel, by decide +kernel⟩
abbrev s_is_word : Stmt := topS 14
abbrev n_is_word : List Str := ["value", "sign"]
theorem sc_is_word : FnScope n_is_word ["value"] (defScope s_is_word) := ⟨rfl, rfl, rfl, by decide +kernel, rfl, by decide +kernel, by decide +kernel⟩
abbrev s_is_path : Stmt := topS 15
abbrev n_is_path : List Str := ["value", "words", "word"]
theorem sc_is_path : FnScope n_is_path ["value"] (defScope s_is_path) := ⟨rfl, rfl, rfl, by decide +kernel, rfl, by decide +kernel, by decide +kernel⟩
abbrev s_below : Stmt := topS 16
abbrev n_below : List Str := ["path", "folder"]
theorem sc_below : FnScope n_below ["path", "folder"] (defScope s_below) := ⟨rfl, rfl, rfl, by decide +kernel, rfl, by decide +kernel, by decide +kernel⟩
abbrev s_checked_tree : Stmt := topS 19
abbrev n_checked_tree : List Str := ["tree", "checked", "count", "path", "e"]
theorem sc_checked_tree : FnScope n_checked_tree ["tree"] (defScope s_checked_tree) := ⟨rfl, rfl, rfl, by decide +kernel, rfl, by decide +kernel, by decide +kernel⟩
abbrev s_files_of : Stmt := topS 20
abbrev n_files_of : List Str := ["tree", "path"]
theorem sc_files_of : FnScope n_files_of ["tree"] (defScope s_files_of) := ⟨rfl, rfl, rfl, by decide +kernel, rfl, by decide +kernel, by decide +kernel⟩
abbrev s_tree_of : Stmt := topS 21
abbrev n_tree_of : List Str := ["files", "path", "lines"]
theorem sc_tree_of : FnScope n_tree_of ["files"] (defScope s_tree_of) := ⟨rfl, rfl, rfl, by decide +kernel, rfl, by decide +kernel, by decide +kernel⟩
abbrev s_l_feed : Stmt := topS 23
abbrev n_l_feed : List Str := ["script", "cell"]
theorem sc_l_feed : FnScope n_l_feed ["script"] (defScope s_l_feed) := ⟨rfl, rfl, rfl, by decide +kernel, rfl, by decide +kernel, by decide +kernel⟩
abbrev s_l_next : Stmt := topS 24
abbrev n_l_next : List Str := ["cells", "many", "number"]
theorem sc_l_next : FnScope n_l_next ["cells", "many"] (defScope s_l_next) := ⟨rfl, rfl, rfl, by decide +kernel, rfl, by decide +kernel, by decide +kernel⟩
abbrev s_l_same : Stmt := topS 25
abbrev n_l_same : List Str := ["told", "due", "k", "key"]
theorem sc_l_same : FnScope n_l_same ["told", "due"] (defScope s_l_same) := ⟨rfl, rfl, rfl, by decide +kernel, rfl, by decide +kernel, by decide +kernel⟩
abbrev s_l_way : Stmt := topS 26
abbrev n_l_way : List Str := ["place", "paths"]
theorem sc_l_way : FnScope n_l_way ["place"] (defScope s_l_way) := ⟨rfl, rfl, rfl, by decide +kernel, rfl, by decide +kernel, by decide +kernel⟩
abbrev s_l_piece : Stmt := topS 27
abbrev n_l_piece : List Str := ["place", "pieces"]
theorem sc_l_piece : FnScope n_l_piece ["place"] (defScope s_l_piece) := ⟨rfl, rfl, rfl, by decide +kernel, rfl, by decide +kernel, by decide +kernel⟩
abbrev s_l_sign : Stmt := topS 28
abbrev n_l_sign : List Str := ["place", "signs"]
theorem sc_l_sign : FnScope n_l_sign ["place"] (defScope s_l_sign) := ⟨rfl, rfl, rfl, by decide +kernel, rfl, by decide +kernel, by decide +kernel⟩
abbrev s_l_signs : Stmt := topS 29
abbrev n_l_signs : List Str := ["word", "signs", "sign"]
theorem sc_l_signs : FnScope n_l_signs ["word", "signs"] (defScope s_l_signs) := ⟨rfl, rfl, rfl, by decide +kernel, rfl, by decide +kernel, by decide +kernel⟩
abbrev s_l_is_line : Stmt := topS 30
abbrev n_l_is_line : List Str := ["value", "signs"]
theorem sc_l_is_line : FnScope n_l_is_line ["value"] (defScope s_l_is_line) := ⟨rfl, rfl, rfl, by decide +kernel, rfl, by decide +kernel, by decide +kernel⟩
abbrev s_l_is_way : Stmt := topS 31
abbrev n_l_is_way : List Str := ["value", "words", "word"]
theorem sc_l_is_way : FnScope n_l_is_way ["value"] (defScope s_l_is_way) := ⟨rfl, rfl, rfl, by decide +kernel, rfl, by decide +kernel, by decide +kernel⟩
abbrev s_l_bad_line : Stmt := topS 32
abbrev n_l_bad_line : List Str := ["text", "k"]
theorem sc_l_bad_line : FnScope n_l_bad_line ["text"] (defScope s_l_bad_line) := ⟨rfl, rfl, rfl, by decide +kernel, rfl, by decide +kernel, by decide +kernel⟩
abbrev s_l_bad_key : Stmt := topS 33
abbrev n_l_bad_key : List Str := ["tree", "keys", "k", "place"]
theorem sc_l_bad_key : FnScope n_l_bad_key ["tree"] (defScope s_l_bad_key) := ⟨rfl, rfl, rfl, by decide +kernel, rfl, by decide +kernel, by decide +kernel⟩
abbrev s_l_copy : Stmt := topS 34
abbrev n_l_copy : List Str := ["tree", "copy", "path"]
theorem sc_l_copy : FnScope n_l_copy ["tree"] (defScope s_l_copy) := ⟨rfl, rfl, rfl, by decide +kernel, rfl, by decide +kernel, by decide +kernel⟩
abbrev s_l_kept : Stmt := topS 35
abbrev n_l_kept : List Str := ["passed", "tree"]
theorem sc_l_kept : FnScope n_l_kept ["passed", "tree"] (defScope s_l_kept) := ⟨rfl, rfl, rfl, by decide +kernel, rfl, by decide +kernel, by decide +kernel⟩
abbrev s_l_rising : Stmt := topS 36
abbrev n_l_rising : List Str := ["tree", "rising", "path"]
theorem sc_l_rising : FnScope n_l_rising ["tree"] (defScope s_l_rising) := ⟨rfl, rfl, rfl, by decide +kernel, rfl, by decide +kernel, by decide +kernel⟩
abbrev s_l_spoil : Stmt := topS 37
abbrev n_l_spoil : List Str := ["tree", "path"]
theorem sc_l_spoil : FnScope n_l_spoil ["tree"] (defScope s_l_spoil) := ⟨rfl, rfl, rfl, by decide +kernel, rfl, by decide +kernel, by decide +kernel⟩
abbrev s_l_asks_text : Stmt := topS 38
abbrev n_l_asks_text : List Str := ["text", "due", "passed", "told", "place", "kinds", "e"]
theorem sc_l_asks_text : FnScope n_l_asks_text ["text"] (defScope s_l_asks_text) := ⟨rfl, rfl, rfl, by decide +kernel, rfl, by decide +kernel, by decide +kernel⟩
abbrev s_l_asks_tree : Stmt := topS 39
abbrev n_l_asks_tree : List Str := ["tree", "due", "passed", "told", "found", "kinds", "e"]
theorem sc_l_asks_tree : FnScope n_l_asks_tree ["tree"] (defScope s_l_asks_tree) := ⟨rfl, rfl, rfl, by decide +kernel, rfl, by decide +kernel, by decide +kernel⟩
abbrev s_l_asks_files : Stmt := topS 40
abbrev n_l_asks_files : List Str := ["tree", "good", "path", "passed", "due", "told"]
theorem sc_l_asks_files : FnScope n_l_asks_files ["tree"] (defScope s_l_asks_files) := ⟨rfl, rfl, rfl, by decide +kernel, rfl, by decide +kernel, by decide +kernel⟩
abbrev s_l_asks_strings : Stmt := topS 41
abbrev n_l_asks_strings : List Str := ["strings", "value"]
theorem sc_l_asks_strings : FnScope n_l_asks_strings ["strings"] (defScope s_l_asks_strings) := ⟨rfl, rfl, rfl, by decide +kernel, rfl, by decide +kernel, by decide +kernel⟩
abbrev s_l_asks_below : Stmt := topS 42
abbrev n_l_asks_below : List Str := ["cells", "menu", "words", "path", "folder", "other", "pairs", "pair", "due", "k"]
theorem sc_l_asks_below : FnScope n_l_asks_below ["cells"] (defScope s_l_asks_below) := ⟨rfl, rfl, rfl, by decide +kernel, rfl, by decide +kernel, by decide +kernel⟩
abbrev s_law : Stmt := topS 43
abbrev n_law : List Str := ["script", "cells", "strings", "k", "picks", "word", "text", "place", "rows", "start", "step", "keys", "texts", "odd", "many", "tree", "j", "pick"]
theorem sc_law : FnScope n_law ["script"] (defScope s_law) := ⟨rfl, rfl, rfl, by decide +kernel, rfl, by decide +kernel, by decide +kernel⟩
set_option maxHeartbeats 4000000 in
structure Txt (K : PySem.W.Frag) (mg : Str → Option Value) where
  f_is_line : Addr
  fd_is_line : FuncData
  F_is_line : Fun K "is_line" "is_line" s_is_line f_is_line fd_is_line
  g_is_line : mg "is_line" = some (.ref f_is_line)
  b_is_line : Binds K fd_is_line ["value"] []
  f_checked_text : Addr
  fd_checked_text : FuncData
  F_checked_text : Fun K "checked_text" "checked_text" s_checked_text f_checked_text fd_checked_text
  g_checked_text : mg "checked_text" = some (.ref f_checked_text)
  b_checked_text : Binds K fd_checked_text ["text"] []
  f_is_word : Addr
  fd_is_word : FuncData
  F_is_word : Fun K "_is_word" "_is_word" s_is_word f_is_word fd_is_word
  g_is_word : mg "_is_word" = some (.ref f_is_word)
  b_is_word : Binds K fd_is_word ["value"] []
  f_is_path : Addr
  fd_is_path : FuncData
  F_is_path : Fun K "is_path" "is_path" s_is_path f_is_path fd_is_path
  g_is_path : mg "is_path" = some (.ref f_is_path)
  b_is_path : Binds K fd_is_path ["value"] []
  f_below : Addr
  fd_below : FuncData
  F_below : Fun K "below" "below" s_below f_below fd_below
  g_below : mg "below" = some (.ref f_below)
  b_below : Binds K fd_below ["path", "folder"] []
  f_checked_tree : Addr
  fd_checked_tree : FuncData
  F_checked_tree : Fun K "checked_tree" "checked_tree" s_checked_tree f_checked_tree fd_checked_tree
  g_checked_tree : mg "checked_tree" = some (.ref f_checked_tree)
  b_checked_tree : Binds K fd_checked_tree ["tree"] []
  f_files_of : Addr
  fd_files_of : FuncData
  F_files_of : Fun K "files_of" "files_of" s_files_of f_files_of fd_files_of
  g_files_of : mg "files_of" = some (.ref f_files_of)
  b_files_of : Binds K fd_files_of ["tree"] []
  f_tree_of : Addr
  fd_tree_of : FuncData
  F_tree_of : Fun K "tree_of" "tree_of" s_tree_of f_tree_of fd_tree_of
  g_tree_of : mg "tree_of" = some (.ref f_tree_of)
  b_tree_of : Binds K fd_tree_of ["files"] []
  f_l_feed : Addr
  fd_l_feed : FuncData
  F_l_feed : Fun K "_law_feed" "_law_feed" s_l_feed f_l_feed fd_l_feed
  g_l_feed : mg "_law_feed" = some (.ref f_l_feed)
  b_l_feed : Binds K fd_l_feed ["script"] []
  f_l_next : Addr
  fd_l_next : FuncData
  F_l_next : Fun K "_law_next" "_law_next" s_l_next f_l_next fd_l_next
  g_l_next : mg "_law_next" = some (.ref f_l_next)
  b_l_next : Binds K fd_l_next ["cells", "many"] []
  f_l_same : Addr
  fd_l_same : FuncData
  F_l_same : Fun K "_law_same" "_law_same" s_l_same f_l_same fd_l_same
  g_l_same : mg "_law_same" = some (.ref f_l_same)
  b_l_same : Binds K fd_l_same ["told", "due"] []
  f_l_way : Addr
  fd_l_way : FuncData
  F_l_way : Fun K "_law_way" "_law_way" s_l_way f_l_way fd_l_way
  g_l_way : mg "_law_way" = some (.ref f_l_way)
  b_l_way : Binds K fd_l_way ["place"] []
  f_l_piece : Addr
  fd_l_piece : FuncData
  F_l_piece : Fun K "_law_piece" "_law_piece" s_l_piece f_l_piece fd_l_piece
  g_l_piece : mg "_law_piece" = some (.ref f_l_piece)
  b_l_piece : Binds K fd_l_piece ["place"] []
  f_l_sign : Addr
  fd_l_sign : FuncData
  F_l_sign : Fun K "_law_sign" "_law_sign" s_l_sign f_l_sign fd_l_sign
  g_l_sign : mg "_law_sign" = some (.ref f_l_sign)
  b_l_sign : Binds K fd_l_sign ["place"] []
  f_l_signs : Addr
  fd_l_signs : FuncData
  F_l_signs : Fun K "_law_signs" "_law_signs" s_l_signs f_l_signs fd_l_signs
  g_l_signs : mg "_law_signs" = some (.ref f_l_signs)
  b_l_signs : Binds K fd_l_signs ["word", "signs"] []
  f_l_is_line : Addr
  fd_l_is_line : FuncData
  F_l_is_line : Fun K "_law_is_line" "_law_is_line" s_l_is_line f_l_is_line fd_l_is_line
  g_l_is_line : mg "_law_is_line" = some (.ref f_l_is_line)
  b_l_is_line : Binds K fd_l_is_line ["value"] []
  f_l_is_way : Addr
  fd_l_is_way : FuncData
  F_l_is_way : Fun K "_law_is_way" "_law_is_way" s_l_is_way f_l_is_way fd_l_is_way
  g_l_is_way : mg "_law_is_way" = some (.ref f_l_is_way)
  b_l_is_way : Binds K fd_l_is_way ["value"] []
  f_l_bad_line : Addr
  fd_l_bad_line : FuncData
  F_l_bad_line : Fun K "_law_bad_line" "_law_bad_line" s_l_bad_line f_l_bad_line fd_l_bad_line
  g_l_bad_line : mg "_law_bad_line" = some (.ref f_l_bad_line)
  b_l_bad_line : Binds K fd_l_bad_line ["text"] []
  f_l_bad_key : Addr
  fd_l_bad_key : FuncData
  F_l_bad_key : Fun K "_law_bad_key" "_law_bad_key" s_l_bad_key f_l_bad_key fd_l_bad_key
  g_l_bad_key : mg "_law_bad_key" = some (.ref f_l_bad_key)
  b_l_bad_key : Binds K fd_l_bad_key ["tree"] []
  f_l_copy : Addr
  fd_l_copy : FuncData
  F_l_copy : Fun K "_law_copy" "_law_copy" s_l_copy f_l_copy fd_l_copy
  g_l_copy : mg "_law_copy" = some (.ref f_l_copy)
  b_l_copy : Binds K fd_l_copy ["tree"] []
  f_l_kept : Addr
  fd_l_kept : FuncData
  F_l_kept : Fun K "_law_kept" "_law_kept" s_l_kept f_l_kept fd_l_kept
  g_l_kept : mg "_law_kept" = some (.ref f_l_kept)
  b_l_kept : Binds K fd_l_kept ["passed", "tree"] []
  f_l_rising : Addr
  fd_l_rising : FuncData
  F_l_rising : Fun K "_law_rising" "_law_rising" s_l_rising f_l_rising fd_l_rising
  g_l_rising : mg "_law_rising" = some (.ref f_l_rising)
  b_l_rising : Binds K fd_l_rising ["tree"] []
  f_l_spoil : Addr
  fd_l_spoil : FuncData
  F_l_spoil : Fun K "_law_spoil" "_law_spoil" s_l_spoil f_l_spoil fd_l_spoil
  g_l_spoil : mg "_law_spoil" = some (.ref f_l_spoil)
  b_l_spoil : Binds K fd_l_spoil ["tree"] []
  f_l_asks_text : Addr
  fd_l_asks_text : FuncData
  F_l_asks_text : Fun K "_law_asks_text" "_law_asks_text" s_l_asks_text f_l_asks_text fd_l_asks_text
  g_l_asks_text : mg "_law_asks_text" = some (.ref f_l_asks_text)
  b_l_asks_text : Binds K fd_l_asks_text ["text"] []
  f_l_asks_tree : Addr
  fd_l_asks_tree : FuncData
  F_l_asks_tree : Fun K "_law_asks_tree" "_law_asks_tree" s_l_asks_tree f_l_asks_tree fd_l_asks_tree
  g_l_asks_tree : mg "_law_asks_tree" = some (.ref f_l_asks_tree)
  b_l_asks_tree : Binds K fd_l_asks_tree ["tree"] []
  f_l_asks_files : Addr
  fd_l_asks_files : FuncData
  F_l_asks_files : Fun K "_law_asks_files" "_law_asks_files" s_l_asks_files f_l_asks_files fd_l_asks_files
  g_l_asks_files : mg "_law_asks_files" = some (.ref f_l_asks_files)
  b_l_asks_files : Binds K fd_l_asks_files ["tree"] []
  f_l_asks_strings : Addr
  fd_l_asks_strings : FuncData
  F_l_asks_strings : Fun K "_law_asks_strings" "_law_asks_strings" s_l_asks_strings f_l_asks_strings fd_l_asks_strings
  g_l_asks_strings : mg "_law_asks_strings" = some (.ref f_l_asks_strings)
  b_l_asks_strings : Binds K fd_l_asks_strings ["strings"] []
  f_l_asks_below : Addr
  fd_l_asks_below : FuncData
  F_l_asks_below : Fun K "_law_asks_below" "_law_asks_below" s_l_asks_below f_l_asks_below fd_l_asks_below
  g_l_asks_below : mg "_law_asks_below" = some (.ref f_l_asks_below)
  b_l_asks_below : Binds K fd_l_asks_below ["cells"] []
  f_law : Addr
  fd_law : FuncData
  F_law : Fun K "law" "law" s_law f_law fd_law
  g_law : mg "law" = some (.ref f_law)
  b_law : Binds K fd_law ["script"] []
  C_PartError : Addr
  g_PartError : mg "PartError" = some (.ref C_PartError)
  C_BadText : Addr
  g_BadText : mg "BadText" = some (.ref C_BadText)
  fi_BadText : Addr
  fdi_BadText : FuncData
  Fi_BadText : Fun K "__init__" "BadText.__init__" (inClass (topS 2) 0) fi_BadText fdi_BadText
  bi_BadText : Binds K fdi_BadText ["self", "place"] []
  O_BadText : OexC K C_BadText
  iC_BadText : PySem.W.findIn K (.ref C_BadText) "__init__" = some (some (.ref fi_BadText))
  tI_BadText : PySem.W.typeIn K (.ref fi_BadText) = some (.type "function")
  N_BadText_place : PySem.W.findIn K (.ref C_BadText) "place" = some none
  XF_BadText : XfC K C_BadText
  IS_BadText : IsC K C_BadText
  C_BadTree : Addr
  g_BadTree : mg "BadTree" = some (.ref C_BadTree)
  fi_BadTree : Addr
  fdi_BadTree : FuncData
  Fi_BadTree : Fun K "__init__" "BadTree.__init__" (inClass (topS 3) 0) fi_BadTree fdi_BadTree
  bi_BadTree : Binds K fdi_BadTree ["self", "path", "place"] []
  O_BadTree : OexC K C_BadTree
  iC_BadTree : PySem.W.findIn K (.ref C_BadTree) "__init__" = some (some (.ref fi_BadTree))
  tI_BadTree : PySem.W.typeIn K (.ref fi_BadTree) = some (.type "function")
  N_BadTree_path : PySem.W.findIn K (.ref C_BadTree) "path" = some none
  N_BadTree_place : PySem.W.findIn K (.ref C_BadTree) "place" = some none
  XF_BadTree : XfC K C_BadTree
  IS_BadTree : IsC K C_BadTree
  M_BadText_BadText : PySem.W.exmOne K (.ref C_BadText) (.ref C_BadText) = some true
  M_BadText_BadTree : PySem.W.exmOne K (.ref C_BadText) (.ref C_BadTree) = some false
  K_BadText_BadText : PySem.W.kitOne K (.ref C_BadText) (.ref C_BadText) = some true
  K_BadText_BadTree : PySem.W.kitOne K (.ref C_BadText) (.ref C_BadTree) = some false
  K_BadText_PartError : PySem.W.kitOne K (.ref C_BadText) (.ref C_PartError) = some true
  K_BadText_ValueError : PySem.W.kitOne K (.ref C_BadText) (.type "ValueError") = some true
  M_BadTree_BadText : PySem.W.exmOne K (.ref C_BadTree) (.ref C_BadText) = some false
  M_BadTree_BadTree : PySem.W.exmOne K (.ref C_BadTree) (.ref C_BadTree) = some true
  K_BadTree_BadText : PySem.W.kitOne K (.ref C_BadTree) (.ref C_BadText) = some false
  K_BadTree_BadTree : PySem.W.kitOne K (.ref C_BadTree) (.ref C_BadTree) = some true
  K_BadTree_PartError : PySem.W.kitOne K (.ref C_BadTree) (.ref C_PartError) = some true
  K_BadTree_ValueError : PySem.W.kitOne K (.ref C_BadTree) (.type "ValueError") = some true
  m_ValueError : mg "ValueError" = none
  m_abs : mg "abs" = none
  m_bool : mg "bool" = none
  m_dict : mg "dict" = none
  m_enumerate : mg "enumerate" = none
  m_int : mg "int" = none
  m_isinstance : mg "isinstance" = none
  m_len : mg "len" = none
  m_list : mg "list" = none
  m_range : mg "range" = none
  m_sorted : mg "sorted" = none
  m_str : mg "str" = none
  m_tuple : mg "tuple" = none
  k_SIGNS : ∃ u, mg "SIGNS" = some u ∧ RelV (.str "abcdefghijklmnopqrstuvwxyz0123456789 <=>|-") u
  k_LINE_LENGTH : ∃ u, mg "LINE_LENGTH" = some u ∧ RelV (.int 20) u
  k_TEXT_LENGTH : ∃ u, mg "TEXT_LENGTH" = some u ∧ RelV (.int 40) u
  k_WORD_SIGNS : ∃ u, mg "WORD_SIGNS" = some u ∧ RelV (.str "abcdefghijklmnopqrstuvwxyz0123456789") u
  k_WORD_LENGTH : ∃ u, mg "WORD_LENGTH" = some u ∧ RelV (.int 6) u
  k_PATH_WORDS : ∃ u, mg "PATH_WORDS" = some u ∧ RelV (.int 3) u
  k_TREE_PATHS : ∃ u, mg "TREE_PATHS" = some u ∧ RelV (.int 8) u
section
variable {P : Program} {w : World} {K : PySem.W.Frag} {mg : Str → Option Value} {base : Heap}
theorem sc_init_BadText : FnScope ["self", "place"] ["self", "place"] (defScope (inClass (topS 2) 0)) := ⟨rfl, rfl, rfl, by decide +kernel, rfl, by decide +kernel, by decide +kernel⟩
theorem ok_init_BadText (T : Txt K mg) : FnOk P w K mg base CX0 1 T.fi_BadText T.fdi_BadText ["self", "place"] (sp_oinit T.C_BadText ["place"]) := by
  refine T.Fi_BadText.ok sc_init_BadText (fun vs H Q E h => sp_oinit_len h) (fun cdv A outer s H vs Q E hr h => ?_)
  refine ⟨_, (pss_one (ps_ost (pv 0) (pv 1))), ?_⟩
  obtain ⟨a, ws, rfl, hl, ha, q⟩ := h
  match ws, hl with
  | [v1], _ =>
  refine ⟨_, rfl, _, rfl, a, T.C_BadText, rfl, T.O_BadText, T.N_BadText_place, .inl ⟨ha, fun dx n ne => ?_⟩⟩
  have z := q dx n ne
  first | exact z | (rw [upd_over ne]; exact z) | (rw [upd_over ne, upd_over ne]; exact z)
theorem sc_init_BadTree : FnScope ["self", "path", "place"] ["self", "path", "place"] (defScope (inClass (topS 3) 0)) := ⟨rfl, rfl, rfl, by decide +kernel, rfl, by decide +kernel, by decide +kernel⟩
theorem ok_init_BadTree (T : Txt K mg) : FnOk P w K mg base CX0 1 T.fi_BadTree T.fdi_BadTree ["self", "path", "place"] (sp_oinit T.C_BadTree ["path", "place"]) := by
  refine T.Fi_BadTree.ok sc_init_BadTree (fun vs H Q E h => sp_oinit_len h) (fun cdv A outer s H vs Q E hr h => ?_)
  refine ⟨_, (pss_cons (ps_ost (pv 0) (pv 1)) (pss_one (ps_ost (pv 0) (pv 2)))), ?_⟩
  obtain ⟨a, ws, rfl, hl, ha, q⟩ := h
  match ws, hl with
  | [v1, v2], _ =>
  refine g_seq ?_
  refine ⟨_, rfl, _, rfl, a, T.C_BadTree, rfl, T.O_BadTree, T.N_BadTree_path, .inl ⟨ha, fun dx n ne => ?_⟩⟩
  refine ⟨_, rfl, _, rfl, a, T.C_BadTree, rfl, T.O_BadTree, T.N_BadTree_place, .inr ⟨dx, _, upd_same, by rw [upd_ne ne, upd_same], Nat.le_of_ble_eq_true rfl, ?_⟩⟩
  have z := q dx n ne
  first | exact z | (rw [upd_over ne]; exact z) | (rw [upd_over ne, upd_over ne]; exact z)
theorem ok_init_BadTree_h (T : Txt K mg) : L2H.FnH P w K mg base CX0 1 T.fi_BadTree T.fdi_BadTree ["self", "path", "place"] (sp_oinit T.C_BadTree ["path", "place"]) := by
  refine Fun.okH T.Fi_BadTree sc_init_BadTree (fun vs H Q E h => sp_oinit_len h) (fun cdv A outer s H vs Q E p hot hr h => ?_)
  refine ⟨_, (pss_cons (ps_ost (pv 0) (pv 1)) (pss_one (ps_ost (pv 0) (pv 2)))), ?_⟩
  obtain ⟨a, ws, rfl, hl, ha, q⟩ := h
  match ws, hl with
  | [v1, v2], _ =>
  refine g_seq ?_
  refine ⟨_, rfl, _, rfl, a, T.C_BadTree, rfl, T.O_BadTree, T.N_BadTree_path, .inl ⟨ha, fun dx n ne => ?_⟩⟩
  refine ⟨_, rfl, _, rfl, a, T.C_BadTree, rfl, T.O_BadTree, T.N_BadTree_place, .inr ⟨dx, _, upd_same, by rw [upd_ne ne, upd_same], Nat.le_of_ble_eq_true rfl, ?_⟩⟩
  have z := q dx n ne
  first | exact z | (rw [upd_over ne]; exact z) | (rw [upd_over ne, upd_over ne]; exact z)
end
local macro_rules | `(tactic| walk_at "m") => `(tactic| ((repeat (first | exact List.Mem.head _ | apply List.Mem.tail)); done))
local macro_rules | `(tactic| walk_at "h") => `(tactic| first | assumption | exact Has.gF (by assumption) (by assumption) | exact Has.get (by assumption) (by walk_at "m"))
local macro_rules | `(tactic| walk_at "c") => `(tactic| ((repeat (first | exact Chg.hd | apply Chg.tl)); done))
local macro_rules | `(tactic| walk_at "is") => `(tactic| first
  | ((with_reducible refine' is2_non ?gh ?_); (case gh => walk_at "h"))
  | (with_reducible refine is_int_list ?_)
  | (with_reducible refine is_int_tuple ?_)
  | (with_reducible refine is_int_dict ?_)
  | (with_reducible refine is_int_int ?_)
  | (with_reducible refine is_int_bool ?_)
  | (with_reducible refine is_int_str ?_)
  | ((with_reducible refine' is2_int ?gh ?_); (case gh => walk_at "h"))
  | (with_reducible refine is_str_list ?_)
  | (with_reducible refine is_str_tuple ?_)
  | (with_reducible refine is_str_dict ?_)
  | (with_reducible refine is_str_int ?_)
  | (with_reducible refine is_str_bool ?_)
  | (with_reducible refine is_str_str ?_)
  | ((with_reducible refine' is2_str ?gh ?_); (case gh => walk_at "h"))
  | (with_reducible refine is_bool_list ?_)
  | (with_reducible refine is_bool_tuple ?_)
  | (with_reducible refine is_bool_dict ?_)
  | (with_reducible refine is_bool_int ?_)
  | (with_reducible refine is_bool_bool ?_)
  | (with_reducible refine is_bool_str ?_)
  | ((with_reducible refine' is2_bool ?gh ?_); (case gh => walk_at "h"))
  | ((with_reducible refine' is_list_list ?gh ?_); (case gh => walk_at "h"))
  | ((with_reducible refine' is_list_tuple ?gh ?_); (case gh => walk_at "h"))
  | ((with_reducible refine' is_list_dict ?gh ?_); (case gh => walk_at "h"))
  | ((with_reducible refine' is_list_int ?gh ?_); (case gh => walk_at "h"))
  | ((with_reducible refine' is_list_bool ?gh ?_); (case gh => walk_at "h"))
  | ((with_reducible refine' is_list_str ?gh ?_); (case gh => walk_at "h"))
  | ((with_reducible refine' is2_list ?ga ?gb ?_); (case ga => walk_at "h"); (case gb => walk_at "h"))
  | ((with_reducible refine' is_tuple_list ?gh ?_); (case gh => walk_at "h"))
  | ((with_reducible refine' is_tuple_tuple ?gh ?_); (case gh => walk_at "h"))
  | ((with_reducible refine' is_tuple_dict ?gh ?_); (case gh => walk_at "h"))
  | ((with_reducible refine' is_tuple_int ?gh ?_); (case gh => walk_at "h"))
  | ((with_reducible refine' is_tuple_bool ?gh ?_); (case gh => walk_at "h"))
  | ((with_reducible refine' is_tuple_str ?gh ?_); (case gh => walk_at "h"))
  | ((with_reducible refine' is2_tuple ?ga ?gb ?_); (case ga => walk_at "h"); (case gb => walk_at "h"))
  | ((with_reducible refine' is_dict_list ?gh ?_); (case gh => walk_at "h"))
  | ((with_reducible refine' is_dict_tuple ?gh ?_); (case gh => walk_at "h"))
  | ((with_reducible refine' is_dict_dict ?gh ?_); (case gh => walk_at "h"))
  | ((with_reducible refine' is_dict_int ?gh ?_); (case gh => walk_at "h"))
  | ((with_reducible refine' is_dict_bool ?gh ?_); (case gh => walk_at "h"))
  | ((with_reducible refine' is_dict_str ?gh ?_); (case gh => walk_at "h"))
  | ((with_reducible refine' is2_dict ?ga ?gb ?_); (case ga => walk_at "h"); (case gb => walk_at "h")))
local macro_rules | `(tactic| walk_at "g") => `(tactic| first
  | (with_reducible refine g_seq ?_)
  | (with_reducible refine g_asg ?_)
  | ((with_reducible refine g_name ?_); dsimp only [List.set, wipe, List.map])
  | ((with_reducible refine' g_var ?gv ?_); (case gv => exact rfl))
  | (with_reducible refine g_c ?_)
  | (with_reducible refine g_op ?_)
  | (with_reducible refine g_cons ?_)
  | (with_reducible refine g_nil ?_)
  | (with_reducible refine g_cb ?_)
  | (with_reducible refine g_call ?_)
  | (with_reducible refine g_tup ?_)
  | (with_reducible refine g_lst ?_)
  | (with_reducible refine g_bm ?_)
  | (with_reducible refine g_bm0 ?_)
  | ((with_reducible refine' g_kbm ?gh ?_); (case gh => walk_at "h"))
  | (with_reducible refine g_drop ?_)
  | (with_reducible refine g_ret ?_)
  | (with_reducible refine g_retN ?_)
  | (with_reducible refine g_next ?_)
  | (with_reducible refine g_brk ?_)
  | (with_reducible refine g_cont ?_)
  | (with_reducible refine g_if ?_)
  | ((with_reducible refine' g_aug ?gv ?_); (case gv => exact rfl))
  | (with_reducible refine g_ipI ?_)
  | (with_reducible refine g_test ?_)
  | (with_reducible refine g_tB ?_)
  | (with_reducible refine g_kB ?_)
  | (with_reducible refine g_not ?_)
  | (with_reducible refine g_and ?_)
  | (with_reducible refine g_or ?_)
  | (with_reducible refine g_andV ?_)
  | (with_reducible refine g_orV ?_)
  | (with_reducible refine g_notV ?_)
  | (with_reducible refine g_ifE ?_)
  | (with_reducible refine g_addI ?_)
  | (with_reducible refine g_rI0 ?_)
  | (with_reducible refine g_eqI ?_)
  | (with_reducible refine g_eqS ?_)
  | (with_reducible refine g_neI ?_)
  | (with_reducible refine g_neS ?_)
  | (with_reducible refine g_isN ?_)
  | (with_reducible refine g_notN ?_)
  | (with_reducible refine g_int ?_)
  | (with_reducible refine g_max2 ?_)
  | (with_reducible refine g_min2 ?_)
  | ((with_reducible refine' g_lenL ?gh ?_); (case gh => walk_at "h"))
  | (with_reducible refine g_sub ?_)
  | (with_reducible refine g_gcons ?_)
  | (with_reducible refine g_gnil ?_)
  | (with_reducible refine g_un ?_)
  | (with_reducible refine g_rU ?_)
  | (with_reducible refine g_forL ?_)
  | (with_reducible refine g_forS ?_)
  | (with_reducible refine g_forR1 ?_)
  | (with_reducible refine g_forR2 ?_)
  | (with_reducible refine g_forR3 ?_)
  | (with_reducible refine g_lcL ?_)
  | (with_reducible refine g_lcR1 ?_)
  | (with_reducible refine g_lcR2 ?_)
  | (with_reducible refine g_slice ?_)
  | (with_reducible refine g_part ?_)
  | (with_reducible refine g_kOI ?_)
  | (with_reducible refine g_nopart ?_)
  | (with_reducible refine g_yes ?_)
  | ((with_reducible refine' g_wipe ?gv ?_); (case gv => exact rfl))
  | (with_reducible refine iteT ?_)
  | (with_reducible refine iteF ?_)
  | (with_reducible refine i_nf ?_)
  | (with_reducible refine i_nt ?_)
  | ((with_reducible refine' g_gtup ?gh ?gl ?_); (case gh => walk_at "h"); (case gl => exact rfl))
  | ((with_reducible refine' g_notinI ?gh ?_); (case gh => walk_at "h"))
  | ((with_reducible refine' g_inI ?gh ?_); (case gh => walk_at "h"))
  | ((with_reducible refine' g_kget2 ?gh ?_); (case gh => walk_at "h"))
  | ((with_reducible refine' g_kgotI ?gh ?_); (case gh => walk_at "h"))
  | (with_reducible refine g_tRev ?_)
  | (with_reducible refine g_neB ?_)
  | (with_reducible refine g_eqB ?_)
  | ((with_reducible refine' g_lenT ?gh ?_); (case gh => walk_at "h"))
  | (with_reducible refine g_star ?_)
  | ((with_reducible refine' g_kstarL ?gh ?_); (case gh => walk_at "h"))
  | ((with_reducible refine' g_kstarT ?gh ?_); (case gh => walk_at "h"))
  | (with_reducible refine g_tru ?_)
  | ((with_reducible refine' g_truL ?gh ?_); (case gh => walk_at "h"))
  | (with_reducible refine g_get2 ?_)
  | (with_reducible refine g_try ?_)
  | (with_reducible refine g_fld ?_)
  | (with_reducible refine g_sfld ?_)
  | (with_reducible refine g_meth ?_)
  | (with_reducible refine g_make ?_)
  | (with_reducible refine g_del ?_)
  | (with_reducible refine g_callS ?_)
  | (with_reducible refine g_raise ?_)
  | (with_reducible refine g_xf ?_)
  | (with_reducible refine g_m0 ?_)
  | (with_reducible refine g_km0 ?_)
  | walk_at "is")
local macro_rules | `(tactic| walk_at "gg") => `(tactic| repeat walk_at "g")
local macro_rules | `(tactic| walk_at "sz") => `(tactic| (refine sz ?_; simp only [List.length_cons, List.length_nil, List.length_map, List.length_append, List.length_replicate]; omega))
local macro_rules | `(tactic| walk_at "sub") => `(tactic| ((repeat (first | exact List.Sublist.slnil | with_reducible apply List.Sublist.cons_cons | with_reducible apply List.Sublist.cons)); done))

/-! ### lists of texts -/
theorem map_take1 {α β : Type} (f : α → β) {l : List α} {i : Nat} {x : α} (h : l[i]? = some x) : (l.take (i + 1)).map f = (l.take i).map f ++ [f x] := by
  rw [List.take_add_one, h, List.map_append]
  rfl
theorem str_at {xs : List Str} {i : Nat} {x : V} (h : (xs.map V.str)[i]? = some x) : ∃ z, xs[i]? = some z ∧ x = .str z := by
  rw [List.getElem?_map] at h
  obtain ⟨z, hz, rfl⟩ := Option.map_eq_some_iff.mp h
  exact ⟨z, hz, rfl⟩

end K11

namespace K11
open PySem PySem.Spec PyProof.Rows L2 Qk
local macro_rules | `(tactic| walk_at "m") => `(tactic| ((repeat (first | exact List.Mem.head _ | apply List.Mem.tail)); done))
local macro_rules | `(tactic| walk_at "h") => `(tactic| first | assumption | exact Has.gF (by assumption) (by assumption) | exact Has.get (by assumption) (by walk_at "m"))
local macro_rules | `(tactic| walk_at "c") => `(tactic| ((repeat (first | exact Chg.hd | apply Chg.tl)); done))
local macro_rules | `(tactic| walk_at "is") => `(tactic| first
  | ((with_reducible refine' is2_non ?gh ?_); (case gh => walk_at "h"))
  | (with_reducible refine is_int_list ?_)
  | (with_reducible refine is_int_tuple ?_)
  | (with_reducible refine is_int_dict ?_)
  | (with_reducible refine is_int_int ?_)
  | (with_reducible refine is_int_bool ?_)
  | (with_reducible refine is_int_str ?_)
  | ((with_reducible refine' is2_int ?gh ?_); (case gh => walk_at "h"))
  | (with_reducible refine is_str_list ?_)
  | (with_reducible refine is_str_tuple ?_)
  | (with_reducible refine is_str_dict ?_)
  | (with_reducible refine is_str_int ?_)
  | (with_reducible refine is_str_bool ?_)
  | (with_reducible refine is_str_str ?_)
  | ((with_reducible refine' is2_str ?gh ?_); (case gh => walk_at "h"))
  | (with_reducible refine is_bool_list ?_)
  | (with_reducible refine is_bool_tuple ?_)
  | (with_reducible refine is_bool_dict ?_)
  | (with_reducible refine is_bool_int ?_)
  | (with_reducible refine is_bool_bool ?_)
  | (with_reducible refine is_bool_str ?_)
  | ((with_reducible refine' is2_bool ?gh ?_); (case gh => walk_at "h"))
  | ((with_reducible refine' is_list_list ?gh ?_); (case gh => walk_at "h"))
  | ((with_reducible refine' is_list_tuple ?gh ?_); (case gh => walk_at "h"))
  | ((with_reducible refine' is_list_dict ?gh ?_); (case gh => walk_at "h"))
  | ((with_reducible refine' is_list_int ?gh ?_); (case gh => walk_at "h"))
  | ((with_reducible refine' is_list_bool ?gh ?_); (case gh => walk_at "h"))
  | ((with_reducible refine' is_list_str ?gh ?_); (case gh => walk_at "h"))
  | ((with_reducible refine' is2_list ?ga ?gb ?_); (case ga => walk_at "h"); (case gb => walk_at "h"))
  | ((with_reducible refine' is_tuple_list ?gh ?_); (case gh => walk_at "h"))
  | ((with_reducible refine' is_tuple_tuple ?gh ?_); (case gh => walk_at "h"))
  | ((with_reducible refine' is_tuple_dict ?gh ?_); (case gh => walk_at "h"))
  | ((with_reducible refine' is_tuple_int ?gh ?_); (case gh => walk_at "h"))
  | ((with_reducible refine' is_tuple_bool ?gh ?_); (case gh => walk_at "h"))
  | ((with_reducible refine' is_tuple_str ?gh ?_); (case gh => walk_at "h"))
  | ((with_reducible refine' is2_tuple ?ga ?gb ?_); (case ga => walk_at "h"); (case gb => walk_at "h"))
  | ((with_reducible refine' is_dict_list ?gh ?_); (case gh => walk_at "h"))
  | ((with_reducible refine' is_dict_tuple ?gh ?_); (case gh => walk_at "h"))
  | ((with_reducible refine' is_dict_dict ?gh ?_); (case gh => walk_at "h"))
  | ((with_reducible refine' is_dict_int ?gh ?_); (case gh => walk_at "h"))
  | ((with_reducible refine' is_dict_bool ?gh ?_); (case gh => walk_at "h"))
  | ((with_reducible refine' is_dict_str ?gh ?_); (case gh => walk_at "h"))
  | ((with_reducible refine' is2_dict ?ga ?gb ?_); (case ga => walk_at "h"); (case gb => walk_at "h")))
local macro_rules | `(tactic| walk_at "g") => `(tactic| first
  | (with_reducible refine g_seq ?_)
  | (with_reducible refine g_asg ?_)
  | ((with_reducible refine g_name ?_); dsimp only [List.set, wipe, List.map])
  | ((with_reducible refine' g_var ?gv ?_); (case gv => exact rfl))
  | (with_reducible refine g_c ?_)
  | (with_reducible refine g_op ?_)
  | (with_reducible refine g_cons ?_)
  | (with_reducible refine g_nil ?_)
  | (with_reducible refine g_cb ?_)
  | (with_reducible refine g_call ?_)
  | (with_reducible refine g_tup ?_)
  | (with_reducible refine g_lst ?_)
  | (with_reducible refine g_bm ?_)
  | (with_reducible refine g_bm0 ?_)
  | ((with_reducible refine' g_kbm ?gh ?_); (case gh => walk_at "h"))
  | (with_reducible refine g_drop ?_)
  | (with_reducible refine g_ret ?_)
  | (with_reducible refine g_retN ?_)
  | (with_reducible refine g_next ?_)
  | (with_reducible refine g_brk ?_)
  | (with_reducible refine g_cont ?_)
  | (with_reducible refine g_if ?_)
  | ((with_reducible refine' g_aug ?gv ?_); (case gv => exact rfl))
  | (with_reducible refine g_ipI ?_)
  | (with_reducible refine g_test ?_)
  | (with_reducible refine g_tB ?_)
  | (with_reducible refine g_kB ?_)
  | (with_reducible refine g_not ?_)
  | (with_reducible refine g_and ?_)
  | (with_reducible refine g_or ?_)
  | (with_reducible refine g_andV ?_)
  | (with_reducible refine g_orV ?_)
  | (with_reducible refine g_notV ?_)
  | (with_reducible refine g_ifE ?_)
  | (with_reducible refine g_addI ?_)
  | (with_reducible refine g_rI0 ?_)
  | (with_reducible refine g_eqI ?_)
  | (with_reducible refine g_eqS ?_)
  | (with_reducible refine g_neI ?_)
  | (with_reducible refine g_neS ?_)
  | (with_reducible refine g_isN ?_)
  | (with_reducible refine g_notN ?_)
  | (with_reducible refine g_int ?_)
  | (with_reducible refine g_max2 ?_)
  | (with_reducible refine g_min2 ?_)
  | ((with_reducible refine' g_lenL ?gh ?_); (case gh => walk_at "h"))
  | (with_reducible refine g_sub ?_)
  | (with_reducible refine g_gcons ?_)
  | (with_reducible refine g_gnil ?_)
  | (with_reducible refine g_un ?_)
  | (with_reducible refine g_rU ?_)
  | (with_reducible refine g_forL ?_)
  | (with_reducible refine g_forS ?_)
  | (with_reducible refine g_forR1 ?_)
  | (with_reducible refine g_forR2 ?_)
  | (with_reducible refine g_forR3 ?_)
  | (with_reducible refine g_lcL ?_)
  | (with_reducible refine g_lcR1 ?_)
  | (with_reducible refine g_lcR2 ?_)
  | (with_reducible refine g_slice ?_)
  | (with_reducible refine g_part ?_)
  | (with_reducible refine g_kOI ?_)
  | (with_reducible refine g_nopart ?_)
  | (with_reducible refine g_yes ?_)
  | ((with_reducible refine' g_wipe ?gv ?_); (case gv => exact rfl))
  | (with_reducible refine iteT ?_)
  | (with_reducible refine iteF ?_)
  | (with_reducible refine i_nf ?_)
  | (with_reducible refine i_nt ?_)
  | ((with_reducible refine' g_gtup ?gh ?gl ?_); (case gh => walk_at "h"); (case gl => exact rfl))
  | ((with_reducible refine' g_notinI ?gh ?_); (case gh => walk_at "h"))
  | ((with_reducible refine' g_inI ?gh ?_); (case gh => walk_at "h"))
  | ((with_reducible refine' g_kget2 ?gh ?_); (case gh => walk_at "h"))
  | ((with_reducible refine' g_kgotI ?gh ?_); (case gh => walk_at "h"))
  | (with_reducible refine g_tRev ?_)
  | (with_reducible refine g_neB ?_)
  | (with_reducible refine g_eqB ?_)
  | ((with_reducible refine' g_lenT ?gh ?_); (case gh => walk_at "h"))
  | (with_reducible refine g_star ?_)
  | ((with_reducible refine' g_kstarL ?gh ?_); (case gh => walk_at "h"))
  | ((with_reducible refine' g_kstarT ?gh ?_); (case gh => walk_at "h"))
  | (with_reducible refine g_tru ?_)
  | ((with_reducible refine' g_truL ?gh ?_); (case gh => walk_at "h"))
  | (with_reducible refine g_get2 ?_)
  | (with_reducible refine g_try ?_)
  | (with_reducible refine g_fld ?_)
  | (with_reducible refine g_sfld ?_)
  | (with_reducible refine g_meth ?_)
  | (with_reducible refine g_make ?_)
  | (with_reducible refine g_del ?_)
  | (with_reducible refine g_callS ?_)
  | (with_reducible refine g_raise ?_)
  | (with_reducible refine g_xf ?_)
  | (with_reducible refine g_m0 ?_)
  | (with_reducible refine g_km0 ?_)
  | walk_at "is")
local macro_rules | `(tactic| walk_at "gg") => `(tactic| repeat walk_at "g")
local macro_rules | `(tactic| walk_at "sz") => `(tactic| (refine sz ?_; simp only [List.length_cons, List.length_nil, List.length_map, List.length_append, List.length_replicate]; omega))
local macro_rules | `(tactic| walk_at "sub") => `(tactic| ((repeat (first | exact List.Sublist.slnil | with_reducible apply List.Sublist.cons_cons | with_reducible apply List.Sublist.cons)); done))

def kForE (K : PySem.W.Frag) (g : TG) (tb : TS) (D : Ends) (σ : L2.St) (vs : List V) (H : Hp) : Prop := ∃ a xs, vs = [.ref a] ∧ SqL K H a xs ∧ kW (Ite K a) g tb D σ H
theorem g_forE {K : PySem.W.Frag} {σ : L2.St} {H : Hp} {D : Ends} {ts : TS} {g : TG} {ta : TA} (q : ta σ H fun vs H1 => kForE K g ts D σ vs H1) : tFor (iEnum K ta) g ts D σ H := by
  have e : (tFor (iEnum K ta) g ts D σ H) = (ta σ H fun vs H1 => kForE K g ts D σ vs H1) := rfl
  rw [e]
  exact q
theorem k_forE {K : PySem.W.Frag} {σ : L2.St} {H : Hp} {D : Ends} {ts : TS} {g : TG} {a : Addr} {xs : List V} (h : H a = some (.lst xs)) (Pv : Nat → L2.St → Hp → Prop) (h0 : Pv 0 σ H) (hl : ∀ i σ H, Pv i σ H → H a = some (.lst xs))
    (hs : ∀ i x σ H T, xs[i]? = some x → Pv i σ H → H T = none → g (.ref T) σ (upd H T (.tup [.int (i : Nat), x])) fun σ2 H2 => ts { D with nx := Pv (i + 1), ct := Pv (i + 1), bk := D.nx } σ2 H2) (hd : ∀ σ H, Pv xs.length σ H → D.nx σ H) : kForE K g ts D σ [.ref a] H := by
  refine ⟨a, xs, rfl, SqL.of h, fun i m σ H => m = xs.length - i ∧ i ≤ xs.length ∧ Pv i σ H, ⟨_, rfl, Nat.zero_le _, h0⟩, ?_⟩
  rintro i m σ H1 ⟨rfl, hi, p⟩
  have hq : SqL K H1 a xs := SqL.of (hl i σ H1 p)
  by_cases hlt : i < xs.length
  · refine .inr ⟨⟨xs, xs[i], hq, List.getElem?_eq_getElem hlt⟩, Pv (i + 1), fun σ' H' p' => ⟨xs.length - (i + 1), by omega, rfl, hlt, p'⟩, ?_⟩
    rintro x H' ⟨T, y, rfl, n, rfl, e⟩
    exact hs i y σ H1 T (e xs hq) p n
  · have e : i = xs.length := by omega
    subst e
    exact .inl ⟨⟨xs, hq, Nat.le_refl _⟩, hd σ H1 p⟩
local macro_rules | `(tactic| walk_at "g") => `(tactic| (with_reducible refine g_forE ?_))

local macro_rules | `(tactic| walk_at "g") => `(tactic| (with_reducible refine g_forE ?_))

local macro_rules | `(tactic| walk_at "g") => `(tactic| first
  | (with_reducible refine g_dcL ?_)
  | (with_reducible refine g_dcT ?_)
  | (with_reducible refine g_m1s ?_)
  | (with_reducible refine g_km1s ?_)
  | (with_reducible refine g_starts ?_)
  | (with_reducible refine g_tryX ?_)
  | (with_reducible refine g_lcS ?_))

/-! ### lines and texts -/
def signsL : List Nat := ("abcdefghijklmnopqrstuvwxyz0123456789 <=>|-" : Str).cps.toList
def allIn (L : List Nat) (z : Str) : Bool := z.cps.toList.all fun c => decide (c ∈ L)
def isLine (z : Str) : Bool := decide (z.length ≤ 20) && allIn signsL z
def badF : Nat → Tx → Option Nat
  | _, [] => none
  | k, z :: r => if 40 ≤ k then some k else if isLine z = true then badF (k + 1) r else some k
def badT (t : Tx) : Option Nat := badF 0 t
theorem badF_drop {t : Tx} {i : Nat} {z : Str} (h : t[i]? = some z) : badF i (t.drop i) = if 40 ≤ i then some i else if isLine z = true then badF (i + 1) (t.drop (i + 1)) else some i := by
  obtain ⟨lt, e⟩ := List.getElem?_eq_some_iff.mp h
  rw [List.drop_eq_getElem_cons lt, e]
  rfl
theorem badF_end (t : Tx) (i : Nat) (h : t.length ≤ i) : badF i (t.drop i) = none := by
  rw [List.drop_of_length_le h]
  rfl
theorem allIn_at {L : List Nat} {z : Str} : allIn L z = true ↔ ∀ (i : Nat) (c : Nat), z.cps[i]? = some c → c ∈ L := by
  unfold allIn
  rw [List.all_eq_true]
  constructor
  · intro h i c e
    exact of_decide_eq_true (h c (by rw [Array.mem_toList_iff]; exact Array.mem_of_getElem? e))
  · intro h c hc
    obtain ⟨i, hi⟩ := Array.getElem?_of_mem (Array.mem_toList_iff.mp hc)
    exact decide_eq_true (h i c hi)
section
variable {P : Program} {w : World} {K : PySem.W.Frag} {mg : Str → Option Value} {base : Heap}
def lost_pl (C : Addr) (H : Hp) (E : XK) (i : Int) : Prop := ∀ e H', Same H H' → H e = none → H' e = some (.xd [("place", .int i)]) → E (.ref C) (some e) H'
def sp_is_line (K : PySem.W.Frag) : Sp := fun vs H Q _ => ∃ z : Str, vs = [.str z] ∧ z.length ≤ 10000 ∧ Q (.bl (isLine z)) H
theorem sp_is_line_len {vs H Q E} (h : sp_is_line K vs H Q E) : vs.length = 1 := by
  obtain ⟨_, rfl, _⟩ := h
  rfl
theorem ok_is_line (T : Txt K mg) : FnOk P w K mg base CX0 1 T.f_is_line T.fd_is_line ["value"] (sp_is_line K) := by
  refine T.F_is_line.ok sc_is_line (fun vs H Q E h => sp_is_line_len h) (fun cdv A outer s H vs Q E hr h => ?_)
  refine ⟨_, (pss_cons (ps_if (pt_cmpR op_gt (pe_callB (cr_lenK K) (by rfl) T.m_len (by decide +kernel) (pa_cons (pv 0) pa_nil)) (pe_gc (v := .int 20) (by rfl) T.k_LINE_LENGTH) (nomark _)) (pss_one (ps_ret pe_bl)) pss_nil)
      (pss_cons (ps_for PassesOwn.never rfl (pi_str (pv 0)) (pg_name (i := 1) sc_is_line.nd rfl (.inl rfl)) (pss_one (ps_if (pt_cmpR (op_notinK K hr.units (u65 hr)) (pv 1) (pe_gc (v := .str "abcdefghijklmnopqrstuvwxyz0123456789 <=>|-") (by rfl) T.k_SIGNS) (by rfl)) (pss_one (ps_ret pe_bl)) pss_nil)))
      (pss_one (ps_ret pe_bl)))), ?_⟩
  obtain ⟨z, rfl, lz, q⟩ := h
  refine g_start (σ' := [some (.str z), none]) rfl ?_
  walk_at "gg"
  refine g_lenS (sz (by omega)) ?_
  walk_at "gg"
  refine i_d (fun e => ?_) (fun e => ?_)
  · walk_at "gg"
    have : isLine z = false := by
      unfold isLine
      rw [decide_eq_false (by omega), Bool.false_and]
    rw [this] at q
    exact q
  walk_at "gg"
  refine k_forS (fun i σ H' => (∃ y1, σ = [some (.str z), y1] ∧ H' = H) ∧ ∀ j c, j < i → z.cps[j]? = some c → c ∈ signsL) ⟨⟨_, rfl, rfl⟩, fun j c h => absurd h (Nat.not_lt_zero _)⟩ ?_ ?_
  · rintro i c σ H' hc ⟨⟨y1, rfl, rfl⟩, ok⟩
    walk_at "gg"
    refine g_notinC ?_
    walk_at "gg"
    refine i_n (fun no => ?_) (fun yes => ?_)
    · walk_at "gg"
      have : isLine z = false := by
        unfold isLine
        cases e : allIn signsL z with
        | false => rw [Bool.and_false]
        | true => exact (no (allIn_at.mp e i c hc)).elim
      rw [this] at q
      exact q
    · walk_at "gg"
      refine ⟨⟨_, rfl, rfl⟩, fun j d lt hd => ?_⟩
      by_cases e : j = i
      · subst e
        rw [hc] at hd
        injection hd with hd
        rw [← hd]
        exact yes
      · exact ok j d (by omega) hd
  · rintro σ H' ⟨⟨y1, rfl, rfl⟩, ok⟩
    walk_at "gg"
    have : isLine z = true := by
      unfold isLine
      rw [decide_eq_true (by omega), Bool.true_and]
      refine allIn_at.mpr fun i c hc => ok i c ?_ hc
      have := (Array.getElem?_eq_some_iff.mp hc).1
      exact this
    rw [this] at q
    exact q
def sp_checked_text (T : Txt K mg) : Sp := fun vs H Q E => ∃ (l : Addr) (t : Tx), vs = [.ref l] ∧ H l = some (.lst (t.map V.str)) ∧ (∀ z ∈ t, z.length ≤ 10000) ∧ t.length ≤ 1000 ∧
  (badT t = none → ∀ p H', Same H H' → H p = none → H' p = some (.lst (t.map V.str)) → Q (.ref p) H') ∧ (∀ k, badT t = some k → lost_pl T.C_BadText H E (k : Nat))
theorem sp_checked_text_len {T : Txt K mg} {vs H Q E} (h : sp_checked_text T vs H Q E) : vs.length = 1 := by
  obtain ⟨_, _, rfl, _⟩ := h
  rfl
theorem ok_checked_text (T : Txt K mg) : FnOk P w K mg base (L2N.CX P w) 3 T.f_checked_text T.fd_checked_text ["text"] (sp_checked_text T) := by
  refine Fun.okN T.F_checked_text sc_checked_text (fun vs H Q E h => sp_checked_text_len h) (fun cdv A outer s H vs Q E hr h => ?_)
  refine ⟨_, (pss_cons (ps_for (L2.passes_of rfl) rfl (pi_enum (by rfl) T.m_enumerate (pa_cons (pv 0) pa_nil)) (k_gt K (pg_tup (by rfl) (pgs_cons (pg_name (i := 1) sc_checked_text.nd rfl (.inl rfl)) (pgs_cons (pg_name (i := 2) sc_checked_text.nd rfl (.inl rfl)) pgs_nil)))) (pss_cons (ps_if (pt_cmpR op_ge (pv 1) (pe_gc (v := .int 40) (by rfl) T.k_TEXT_LENGTH) (nomark _)) (pss_one (k_raise rfl (L2N.takes_of rfl rfl rfl rfl) (pmk_oexN T.O_BadText T.iC_BadText T.tI_BadText (ok_init_BadText T) (hr.mono (by decide)) T.bi_BadText pass0 (by rfl) T.g_BadText (pa_cons (pv 1) pa_nil)))) pss_nil)
      (pss_one (ps_if (pt_not (pt_val (pe_call (ok_is_line T) (hr.mono (by decide)) (by rfl) T.g_is_line T.F_is_line.kp T.b_is_line .nil pass0 (pa_cons (pv 2) pa_nil)))) (pss_one (k_raise rfl (L2N.takes_of rfl rfl rfl rfl) (pmk_oexN T.O_BadText T.iC_BadText T.tI_BadText (ok_init_BadText T) (hr.mono (by decide)) T.bi_BadText pass0 (by rfl) T.g_BadText (pa_cons (pv 1) pa_nil)))) pss_nil))))
      (pss_one (ps_ret (pe_callTy (cr_listK K) (by rfl) T.m_list (by decide +kernel) (pa_cons (pv 0) pa_nil))))), ?_⟩
  obtain ⟨l, t, rfl, hl, lz, lt, q, qe⟩ := h
  refine g_start (σ' := [some (.ref l), none, none]) rfl ?_
  walk_at "gg"
  refine k_forE hl (fun i σ H' => (∃ y1 y2, σ = [some (.ref l), y1, y2] ∧ Same H H') ∧ badT t = badF i (t.drop i)) ⟨⟨_, _, rfl, Same.refl _⟩, by rw [List.drop_zero]; rfl⟩ ?_ ?_ ?_
  · rintro i σ H' ⟨⟨y1, y2, rfl, s⟩, _⟩
    exact s _ _ hl
  · rintro i xx σ H2 T2 hx ⟨⟨y1, y2, rfl, s⟩, eb⟩ nT
    obtain ⟨z, hz, rfl⟩ := str_at hx
    have h2 := (Has.start H2).new (o := .tup [.int (i : Nat), .str z]) nT
    refine g_gtup (h2.get (List.Mem.head _)) rfl ?_
    walk_at "gg"
    have h2 := h2.drop
    generalize upd H2 T2 _ = H3 at h2
    have s3 := s.trans h2.same
    rw [badF_drop hz] at eb
    refine i_d (fun e => ?_) (fun e => ?_)
    · rw [if_pos (by omega)] at eb
      walk_at "gg"
      exact g_mk rfl (by decide) h2 (fun e H' n' h' => qe i eb e H' (s.trans h'.same) (s3.free n') (h'.get (List.Mem.head _)))
    rw [if_neg (by omega)] at eb
    walk_at "gg"
    refine ⟨z, rfl, lz z (List.mem_of_getElem? hz), ?_⟩
    walk_at "gg"
    cases hb : isLine z with
    | false =>
      rw [hb, if_neg (by decide)] at eb
      walk_at "gg"
      exact g_mk rfl (by decide) h2 (fun e H' n' h' => qe i eb e H' (s.trans h'.same) (s3.free n') (h'.get (List.Mem.head _)))
    | true =>
      rw [hb, if_pos rfl] at eb
      walk_at "gg"
      exact ⟨⟨_, _, rfl, s3⟩, eb⟩
  · rintro σ H2 ⟨⟨y1, y2, rfl, s⟩, eb⟩
    rw [badF_end _ _ (by rw [List.length_map]; omega)] at eb
    walk_at "gg"
    refine g_listL (s _ _ hl) (Has.start H2) (fun p H3 n3 h3 => ?_)
    exact q eb p H3 (s.trans h3.same) (s.free n3) (h3.get (List.Mem.head _))
end

end K11

namespace K11
open PySem PySem.Spec PyProof.Rows L2 Qk
local macro_rules | `(tactic| walk_at "m") => `(tactic| ((repeat (first | exact List.Mem.head _ | apply List.Mem.tail)); done))
local macro_rules | `(tactic| walk_at "h") => `(tactic| first | assumption | exact Has.gF (by assumption) (by assumption) | exact Has.get (by assumption) (by walk_at "m"))
local macro_rules | `(tactic| walk_at "c") => `(tactic| ((repeat (first | exact Chg.hd | apply Chg.tl)); done))
local macro_rules | `(tactic| walk_at "is") => `(tactic| first
  | ((with_reducible refine' is2_non ?gh ?_); (case gh => walk_at "h"))
  | (with_reducible refine is_int_list ?_)
  | (with_reducible refine is_int_tuple ?_)
  | (with_reducible refine is_int_dict ?_)
  | (with_reducible refine is_int_int ?_)
  | (with_reducible refine is_int_bool ?_)
  | (with_reducible refine is_int_str ?_)
  | ((with_reducible refine' is2_int ?gh ?_); (case gh => walk_at "h"))
  | (with_reducible refine is_str_list ?_)
  | (with_reducible refine is_str_tuple ?_)
  | (with_reducible refine is_str_dict ?_)
  | (with_reducible refine is_str_int ?_)
  | (with_reducible refine is_str_bool ?_)
  | (with_reducible refine is_str_str ?_)
  | ((with_reducible refine' is2_str ?gh ?_); (case gh => walk_at "h"))
  | (with_reducible refine is_bool_list ?_)
  | (with_reducible refine is_bool_tuple ?_)
  | (with_reducible refine is_bool_dict ?_)
  | (with_reducible refine is_bool_int ?_)
  | (with_reducible refine is_bool_bool ?_)
  | (with_reducible refine is_bool_str ?_)
  | ((with_reducible refine' is2_bool ?gh ?_); (case gh => walk_at "h"))
  | ((with_reducible refine' is_list_list ?gh ?_); (case gh => walk_at "h"))
  | ((with_reducible refine' is_list_tuple ?gh ?_); (case gh => walk_at "h"))
  | ((with_reducible refine' is_list_dict ?gh ?_); (case gh => walk_at "h"))
  | ((with_reducible refine' is_list_int ?gh ?_); (case gh => walk_at "h"))
  | ((with_reducible refine' is_list_bool ?gh ?_); (case gh => walk_at "h"))
  | ((with_reducible refine' is_list_str ?gh ?_); (case gh => walk_at "h"))
  | ((with_reducible refine' is2_list ?ga ?gb ?_); (case ga => walk_at "h"); (case gb => walk_at "h"))
  | ((with_reducible refine' is_tuple_list ?gh ?_); (case gh => walk_at "h"))
  | ((with_reducible refine' is_tuple_tuple ?gh ?_); (case gh => walk_at "h"))
  | ((with_reducible refine' is_tuple_dict ?gh ?_); (case gh => walk_at "h"))
  | ((with_reducible refine' is_tuple_int ?gh ?_); (case gh => walk_at "h"))
  | ((with_reducible refine' is_tuple_bool ?gh ?_); (case gh => walk_at "h"))
  | ((with_reducible refine' is_tuple_str ?gh ?_); (case gh => walk_at "h"))
  | ((with_reducible refine' is2_tuple ?ga ?gb ?_); (case ga => walk_at "h"); (case gb => walk_at "h"))
  | ((with_reducible refine' is_dict_list ?gh ?_); (case gh => walk_at "h"))
  | ((with_reducible refine' is_dict_tuple ?gh ?_); (case gh => walk_at "h"))
  | ((with_reducible refine' is_dict_dict ?gh ?_); (case gh => walk_at "h"))
  | ((with_reducible refine' is_dict_int ?gh ?_); (case gh => walk_at "h"))
  | ((with_reducible refine' is_dict_bool ?gh ?_); (case gh => walk_at "h"))
  | ((with_reducible refine' is_dict_str ?gh ?_); (case gh => walk_at "h"))
  | ((with_reducible refine' is2_dict ?ga ?gb ?_); (case ga => walk_at "h"); (case gb => walk_at "h")))
local macro_rules | `(tactic| walk_at "g") => `(tactic| first
  | (with_reducible refine g_seq ?_)
  | (with_reducible refine g_asg ?_)
  | ((with_reducible refine g_name ?_); dsimp only [List.set, wipe, List.map])
  | ((with_reducible refine' g_var ?gv ?_); (case gv => exact rfl))
  | (with_reducible refine g_c ?_)
  | (with_reducible refine g_op ?_)
  | (with_reducible refine g_cons ?_)
  | (with_reducible refine g_nil ?_)
  | (with_reducible refine g_cb ?_)
  | (with_reducible refine g_call ?_)
  | (with_reducible refine g_tup ?_)
  | (with_reducible refine g_lst ?_)
  | (with_reducible refine g_bm ?_)
  | (with_reducible refine g_bm0 ?_)
  | ((with_reducible refine' g_kbm ?gh ?_); (case gh => walk_at "h"))
  | (with_reducible refine g_drop ?_)
  | (with_reducible refine g_ret ?_)
  | (with_reducible refine g_retN ?_)
  | (with_reducible refine g_next ?_)
  | (with_reducible refine g_brk ?_)
  | (with_reducible refine g_cont ?_)
  | (with_reducible refine g_if ?_)
  | ((with_reducible refine' g_aug ?gv ?_); (case gv => exact rfl))
  | (with_reducible refine g_ipI ?_)
  | (with_reducible refine g_test ?_)
  | (with_reducible refine g_tB ?_)
  | (with_reducible refine g_kB ?_)
  | (with_reducible refine g_not ?_)
  | (with_reducible refine g_and ?_)
  | (with_reducible refine g_or ?_)
  | (with_reducible refine g_andV ?_)
  | (with_reducible refine g_orV ?_)
  | (with_reducible refine g_notV ?_)
  | (with_reducible refine g_ifE ?_)
  | (with_reducible refine g_addI ?_)
  | (with_reducible refine g_rI0 ?_)
  | (with_reducible refine g_eqI ?_)
  | (with_reducible refine g_eqS ?_)
  | (with_reducible refine g_neI ?_)
  | (with_reducible refine g_neS ?_)
  | (with_reducible refine g_isN ?_)
  | (with_reducible refine g_notN ?_)
  | (with_reducible refine g_int ?_)
  | (with_reducible refine g_max2 ?_)
  | (with_reducible refine g_min2 ?_)
  | ((with_reducible refine' g_lenL ?gh ?_); (case gh => walk_at "h"))
  | (with_reducible refine g_sub ?_)
  | (with_reducible refine g_gcons ?_)
  | (with_reducible refine g_gnil ?_)
  | (with_reducible refine g_un ?_)
  | (with_reducible refine g_rU ?_)
  | (with_reducible refine g_forL ?_)
  | (with_reducible refine g_forS ?_)
  | (with_reducible refine g_forR1 ?_)
  | (with_reducible refine g_forR2 ?_)
  | (with_reducible refine g_forR3 ?_)
  | (with_reducible refine g_lcL ?_)
  | (with_reducible refine g_lcR1 ?_)
  | (with_reducible refine g_lcR2 ?_)
  | (with_reducible refine g_slice ?_)
  | (with_reducible refine g_part ?_)
  | (with_reducible refine g_kOI ?_)
  | (with_reducible refine g_nopart ?_)
  | (with_reducible refine g_yes ?_)
  | ((with_reducible refine' g_wipe ?gv ?_); (case gv => exact rfl))
  | (with_reducible refine iteT ?_)
  | (with_reducible refine iteF ?_)
  | (with_reducible refine i_nf ?_)
  | (with_reducible refine i_nt ?_)
  | ((with_reducible refine' g_gtup ?gh ?gl ?_); (case gh => walk_at "h"); (case gl => exact rfl))
  | ((with_reducible refine' g_notinI ?gh ?_); (case gh => walk_at "h"))
  | ((with_reducible refine' g_inI ?gh ?_); (case gh => walk_at "h"))
  | ((with_reducible refine' g_kget2 ?gh ?_); (case gh => walk_at "h"))
  | ((with_reducible refine' g_kgotI ?gh ?_); (case gh => walk_at "h"))
  | (with_reducible refine g_tRev ?_)
  | (with_reducible refine g_neB ?_)
  | (with_reducible refine g_eqB ?_)
  | ((with_reducible refine' g_lenT ?gh ?_); (case gh => walk_at "h"))
  | (with_reducible refine g_star ?_)
  | ((with_reducible refine' g_kstarL ?gh ?_); (case gh => walk_at "h"))
  | ((with_reducible refine' g_kstarT ?gh ?_); (case gh => walk_at "h"))
  | (with_reducible refine g_tru ?_)
  | ((with_reducible refine' g_truL ?gh ?_); (case gh => walk_at "h"))
  | (with_reducible refine g_get2 ?_)
  | (with_reducible refine g_try ?_)
  | (with_reducible refine g_fld ?_)
  | (with_reducible refine g_sfld ?_)
  | (with_reducible refine g_meth ?_)
  | (with_reducible refine g_make ?_)
  | (with_reducible refine g_del ?_)
  | (with_reducible refine g_callS ?_)
  | (with_reducible refine g_raise ?_)
  | (with_reducible refine g_xf ?_)
  | (with_reducible refine g_m0 ?_)
  | (with_reducible refine g_km0 ?_)
  | walk_at "is")
local macro_rules | `(tactic| walk_at "gg") => `(tactic| repeat walk_at "g")
local macro_rules | `(tactic| walk_at "sz") => `(tactic| (refine sz ?_; simp only [List.length_cons, List.length_nil, List.length_map, List.length_append, List.length_replicate]; omega))
local macro_rules | `(tactic| walk_at "sub") => `(tactic| ((repeat (first | exact List.Sublist.slnil | with_reducible apply List.Sublist.cons_cons | with_reducible apply List.Sublist.cons)); done))

local macro_rules | `(tactic| walk_at "g") => `(tactic| (with_reducible refine g_forE ?_))

local macro_rules | `(tactic| walk_at "g") => `(tactic| first
  | (with_reducible refine g_dcL ?_)
  | (with_reducible refine g_dcT ?_)
  | (with_reducible refine g_m1s ?_)
  | (with_reducible refine g_km1s ?_)
  | (with_reducible refine g_starts ?_)
  | (with_reducible refine g_tryX ?_)
  | (with_reducible refine g_lcS ?_))

/-! ### paths -/
def wsignsL : List Nat := ("abcdefghijklmnopqrstuvwxyz0123456789" : Str).cps.toList
def isWord (z : Str) : Bool := decide (1 ≤ z.length) && (decide (z.length ≤ 6) && allIn wsignsL z)
def isPath (z : Str) : Bool := decide ((Txt.split z "/").length ≤ 3) && (Txt.split z "/").all isWord
theorem len_zero {z : Str} : z = "" ↔ z.length = 0 := by
  constructor
  · rintro rfl
    rfl
  · intro h
    cases z with
    | mk cps =>
      have h : cps.size = 0 := h
      have : cps = #[] := Array.eq_empty_of_size_eq_zero h
      rw [this]
      rfl
section
variable {P : Program} {w : World} {K : PySem.W.Frag} {mg : Str → Option Value} {base : Heap}
def sp_is_word (K : PySem.W.Frag) : Sp := fun vs H Q _ => ∃ z : Str, vs = [.str z] ∧ z.length ≤ 10000 ∧ Q (.bl (isWord z)) H
theorem sp_is_word_len {vs H Q E} (h : sp_is_word K vs H Q E) : vs.length = 1 := by
  obtain ⟨_, rfl, _⟩ := h
  rfl
theorem ok_is_word (T : Txt K mg) : FnOk P w K mg base CX0 1 T.f_is_word T.fd_is_word ["value"] (sp_is_word K) := by
  refine T.F_is_word.ok sc_is_word (fun vs H Q E h => sp_is_word_len h) (fun cdv A outer s H vs Q E hr h => ?_)
  refine ⟨_, (pss_cons (ps_if (pt_cmpR (op_eqK K hr.units) (pv 0) pe_str (nomark _)) (pss_one (ps_ret pe_bl)) pss_nil)
      (pss_cons (ps_if (pt_cmpR op_gt (pe_callB (cr_lenK K) (by rfl) T.m_len (by decide +kernel) (pa_cons (pv 0) pa_nil)) (pe_gc (v := .int 6) (by rfl) T.k_WORD_LENGTH) (nomark _)) (pss_one (ps_ret pe_bl)) pss_nil)
      (pss_cons (ps_for PassesOwn.never rfl (pi_str (pv 0)) (pg_name (i := 1) sc_is_word.nd rfl (.inl rfl)) (pss_one (ps_if (pt_cmpR (op_notinK K hr.units (u65 hr)) (pv 1) (pe_gc (v := .str "abcdefghijklmnopqrstuvwxyz0123456789") (by rfl) T.k_WORD_SIGNS) (by rfl)) (pss_one (ps_ret pe_bl)) pss_nil)))
      (pss_one (ps_ret pe_bl))))), ?_⟩
  obtain ⟨z, rfl, lz, q⟩ := h
  refine g_start (σ' := [some (.str z), none]) rfl ?_
  walk_at "gg"
  refine i_d (fun e => ?_) (fun ne => ?_)
  · walk_at "gg"
    have : isWord z = false := by
      unfold isWord
      rw [decide_eq_false (by rw [len_zero.mp e]; decide), Bool.false_and]
    rw [this] at q
    exact q
  have l1 : 1 ≤ z.length := by
    have : z.length ≠ 0 := fun h => ne (len_zero.mpr h)
    omega
  walk_at "gg"
  refine g_lenS (sz (by omega)) ?_
  walk_at "gg"
  refine i_d (fun e => ?_) (fun e => ?_)
  · walk_at "gg"
    have : isWord z = false := by
      unfold isWord
      rw [decide_eq_false (p := z.length ≤ 6) (by omega), Bool.false_and, Bool.and_false]
    rw [this] at q
    exact q
  have core : isWord z = allIn wsignsL z := by
    unfold isWord
    rw [decide_eq_true l1, decide_eq_true (by omega), Bool.true_and, Bool.true_and]
  rw [core] at q
  walk_at "gg"
  refine k_forS (fun i σ H' => (∃ y1, σ = [some (.str z), y1] ∧ H' = H) ∧ ∀ j c, j < i → z.cps[j]? = some c → c ∈ wsignsL) ⟨⟨_, rfl, rfl⟩, fun j c h => absurd h (Nat.not_lt_zero _)⟩ ?_ ?_
  · rintro i c σ H' hc ⟨⟨y1, rfl, rfl⟩, ok⟩
    walk_at "gg"
    refine g_notinC ?_
    walk_at "gg"
    refine i_n (fun no => ?_) (fun yes => ?_)
    · walk_at "gg"
      have : allIn wsignsL z = false := by
        cases e : allIn wsignsL z with
        | false => rfl
        | true => exact (no (allIn_at.mp e i c hc)).elim
      rw [this] at q
      exact q
    · walk_at "gg"
      refine ⟨⟨_, rfl, rfl⟩, fun j d lt hd => ?_⟩
      by_cases e : j = i
      · subst e
        rw [hc] at hd
        injection hd with hd
        rw [← hd]
        exact yes
      · exact ok j d (by omega) hd
  · rintro σ H' ⟨⟨y1, rfl, rfl⟩, ok⟩
    walk_at "gg"
    have : allIn wsignsL z = true := allIn_at.mpr fun i c hc => ok i c (Array.getElem?_eq_some_iff.mp hc).1 hc
    rw [this] at q
    exact q
def sp_is_path (K : PySem.W.Frag) : Sp := fun vs H Q _ => ∃ z : Str, vs = [.str z] ∧ z.length ≤ 5000 ∧ ∀ H', Same H H' → Q (.bl (isPath z)) H'
theorem sp_is_path_len {vs H Q E} (h : sp_is_path K vs H Q E) : vs.length = 1 := by
  obtain ⟨_, rfl, _⟩ := h
  rfl
theorem ok_is_path (T : Txt K mg) : FnOk P w K mg base CX0 2 T.f_is_path T.fd_is_path ["value"] (sp_is_path K) := by
  refine T.F_is_path.ok sc_is_path (fun vs H Q E h => sp_is_path_len h) (fun cdv A outer s H vs Q E hr h => ?_)
  refine ⟨_, (pss_cons (ps_set (i := 1) sc_is_path.nd rfl (.inl rfl) (k_split (pv 0) pe_str))
      (pss_cons (ps_if (pt_cmpR op_gt (pe_callB (cr_lenK K) (by rfl) T.m_len (by decide +kernel) (pa_cons (pv 1) pa_nil)) (pe_gc (v := .int 3) (by rfl) T.k_PATH_WORDS) (nomark _)) (pss_one (ps_ret pe_bl)) pss_nil)
      (pss_cons (ps_for PassesOwn.never rfl (k_il K (pi_list (pv 1))) (pg_name (i := 2) sc_is_path.nd rfl (.inl rfl)) (pss_one (ps_if (pt_not (pt_val (pe_call (ok_is_word T) (hr.mono (by decide)) (by rfl) T.g_is_word T.F_is_word.kp T.b_is_word .nil pass0 (pa_cons (pv 2) pa_nil)))) (pss_one (ps_ret pe_bl)) pss_nil)))
      (pss_one (ps_ret pe_bl))))), ?_⟩
  obtain ⟨z, rfl, lz, q⟩ := h
  refine g_start (σ' := [some (.str z), none, none]) rfl ?_
  walk_at "gg"
  refine g_split rfl (by omega) (Has.start H) (fun p H1 n1 h1 => ?_)
  have lsp := PyProof.Rows.split_le z "/"
  have lpa : ∀ a ∈ Txt.split z "/", a.length ≤ z.length := fun a ha => PyProof.Rows.part_short ha
  have hp := h1.get (List.Mem.head _)
  unfold isPath at q
  generalize Txt.split z "/" = ws at h1 lsp lpa q hp
  walk_at "gg"
  rw [List.length_map]
  refine i_d (fun e => ?_) (fun e => ?_)
  · walk_at "gg"
    rw [decide_eq_false (by omega), Bool.false_and] at q
    exact q H1 h1.same
  rw [decide_eq_true (by omega), Bool.true_and] at q
  walk_at "gg"
  refine k_forL hp (fun i σ H' => (∃ y2, σ = [some (.str z), some (.ref p), y2] ∧ H' = H1) ∧ ∀ a ∈ ws.take i, isWord a = true) ⟨⟨_, rfl, rfl⟩, fun a h => by cases h⟩ ?_ ?_ ?_
  · rintro i σ H' _ ⟨⟨y2, rfl, rfl⟩, _⟩
    exact hp
  · rintro i v σ H' hv ⟨⟨y2, rfl, rfl⟩, ok⟩
    obtain ⟨a, ha, rfl⟩ := str_at hv
    have la := lpa a (List.mem_of_getElem? ha)
    walk_at "gg"
    refine ⟨a, rfl, by omega, ?_⟩
    walk_at "gg"
    cases hb : isWord a with
    | false =>
      walk_at "gg"
      have : ws.all isWord = false := by
        cases e : ws.all isWord with
        | false => rfl
        | true =>
          have := List.all_eq_true.mp e a (List.mem_of_getElem? ha)
          rw [hb] at this
          cases this
      rw [this] at q
      exact q _ h1.same
    | true =>
      walk_at "gg"
      refine ⟨⟨_, rfl, rfl⟩, fun b hb' => ?_⟩
      rw [List.take_add_one, ha] at hb'
      rcases List.mem_append.mp hb' with h | h
      · exact ok b h
      · have e : b = a := by simpa using h
        rw [e]
        exact hb
  · rintro σ H' ⟨⟨y2, rfl, rfl⟩, ok⟩
    rw [List.length_map, List.take_length] at ok
    walk_at "gg"
    have : ws.all isWord = true := List.all_eq_true.mpr ok
    rw [this] at q
    exact q _ h1.same
end

section
variable {P : Program} {w : World} {K : PySem.W.Frag} {mg : Str → Option Value} {base : Heap}
def belowB (p f : Str) : Bool := decide (p = f) || Txt.startswith p (f ++ "/")
def sp_below (K : PySem.W.Frag) : Sp := fun vs H Q _ => ∃ p f : Str, vs = [.str p, .str f] ∧ f.length ≤ 10000 ∧ Q (.bl (belowB p f)) H
theorem sp_below_len {vs H Q E} (h : sp_below K vs H Q E) : vs.length = 2 := by
  obtain ⟨_, _, rfl, _⟩ := h
  rfl
theorem ok_below (T : Txt K mg) : FnOk P w K mg base CX0 1 T.f_below T.fd_below ["path", "folder"] (sp_below K) := by
  refine T.F_below.ok sc_below (fun vs H Q E h => sp_below_len h) (fun cdv A outer s H vs Q E hr h => ?_)
  refine ⟨_, (pss_cons (ps_if (pt_cmpR (op_eqK K hr.units) (pv 0) (pv 1) (nomark _)) (pss_one (ps_ret pe_bl)) pss_nil)
      (pss_one (ps_ret (k_starts (pv 0) (pe_op (op_addK K) (pv 1) pe_str))))), ?_⟩
  obtain ⟨p, f, rfl, lf, q⟩ := h
  refine g_start (σ' := [some (.str p), some (.str f)]) rfl ?_
  walk_at "gg"
  unfold belowB at q
  refine i_d (fun e => ?_) (fun ne => ?_)
  · walk_at "gg"
    rw [decide_eq_true e, Bool.true_or] at q
    exact q
  rw [decide_eq_false ne, Bool.false_or] at q
  walk_at "gg"
  refine g_addS (sz (by show f.length + 1 ≤ _; omega)) ?_
  walk_at "gg"
  exact q
end

end K11

namespace K11
open PySem PySem.Spec PyProof.Rows L2 Qk
local macro_rules | `(tactic| walk_at "m") => `(tactic| ((repeat (first | exact List.Mem.head _ | apply List.Mem.tail)); done))
local macro_rules | `(tactic| walk_at "h") => `(tactic| first | assumption | exact Has.gF (by assumption) (by assumption) | exact Has.get (by assumption) (by walk_at "m"))
local macro_rules | `(tactic| walk_at "c") => `(tactic| ((repeat (first | exact Chg.hd | apply Chg.tl)); done))
local macro_rules | `(tactic| walk_at "is") => `(tactic| first
  | ((with_reducible refine' is2_non ?gh ?_); (case gh => walk_at "h"))
  | (with_reducible refine is_int_list ?_)
  | (with_reducible refine is_int_tuple ?_)
  | (with_reducible refine is_int_dict ?_)
  | (with_reducible refine is_int_int ?_)
  | (with_reducible refine is_int_bool ?_)
  | (with_reducible refine is_int_str ?_)
  | ((with_reducible refine' is2_int ?gh ?_); (case gh => walk_at "h"))
  | (with_reducible refine is_str_list ?_)
  | (with_reducible refine is_str_tuple ?_)
  | (with_reducible refine is_str_dict ?_)
  | (with_reducible refine is_str_int ?_)
  | (with_reducible refine is_str_bool ?_)
  | (with_reducible refine is_str_str ?_)
  | ((with_reducible refine' is2_str ?gh ?_); (case gh => walk_at "h"))
  | (with_reducible refine is_bool_list ?_)
  | (with_reducible refine is_bool_tuple ?_)
  | (with_reducible refine is_bool_dict ?_)
  | (with_reducible refine is_bool_int ?_)
  | (with_reducible refine is_bool_bool ?_)
  | (with_reducible refine is_bool_str ?_)
  | ((with_reducible refine' is2_bool ?gh ?_); (case gh => walk_at "h"))
  | ((with_reducible refine' is_list_list ?gh ?_); (case gh => walk_at "h"))
  | ((with_reducible refine' is_list_tuple ?gh ?_); (case gh => walk_at "h"))
  | ((with_reducible refine' is_list_dict ?gh ?_); (case gh => walk_at "h"))
  | ((with_reducible refine' is_list_int ?gh ?_); (case gh => walk_at "h"))
  | ((with_reducible refine' is_list_bool ?gh ?_); (case gh => walk_at "h"))
  | ((with_reducible refine' is_list_str ?gh ?_); (case gh => walk_at "h"))
  | ((with_reducible refine' is2_list ?ga ?gb ?_); (case ga => walk_at "h"); (case gb => walk_at "h"))
  | ((with_reducible refine' is_tuple_list ?gh ?_); (case gh => walk_at "h"))
  | ((with_reducible refine' is_tuple_tuple ?gh ?_); (case gh => walk_at "h"))
  | ((with_reducible refine' is_tuple_dict ?gh ?_); (case gh => walk_at "h"))
  | ((with_reducible refine' is_tuple_int ?gh ?_); (case gh => walk_at "h"))
  | ((with_reducible refine' is_tuple_bool ?gh ?_); (case gh => walk_at "h"))
  | ((with_reducible refine' is_tuple_str ?gh ?_); (case gh => walk_at "h"))
  | ((with_reducible refine' is2_tuple ?ga ?gb ?_); (case ga => walk_at "h"); (case gb => walk_at "h"))
  | ((with_reducible refine' is_dict_list ?gh ?_); (case gh => walk_at "h"))
  | ((with_reducible refine' is_dict_tuple ?gh ?_); (case gh => walk_at "h"))
  | ((with_reducible refine' is_dict_dict ?gh ?_); (case gh => walk_at "h"))
  | ((with_reducible refine' is_dict_int ?gh ?_); (case gh => walk_at "h"))
  | ((with_reducible refine' is_dict_bool ?gh ?_); (case gh => walk_at "h"))
  | ((with_reducible refine' is_dict_str ?gh ?_); (case gh => walk_at "h"))
  | ((with_reducible refine' is2_dict ?ga ?gb ?_); (case ga => walk_at "h"); (case gb => walk_at "h")))
local macro_rules | `(tactic| walk_at "g") => `(tactic| first
  | (with_reducible refine g_seq ?_)
  | (with_reducible refine g_asg ?_)
  | ((with_reducible refine g_name ?_); dsimp only [List.set, wipe, List.map])
  | ((with_reducible refine' g_var ?gv ?_); (case gv => exact rfl))
  | (with_reducible refine g_c ?_)
  | (with_reducible refine g_op ?_)
  | (with_reducible refine g_cons ?_)
  | (with_reducible refine g_nil ?_)
  | (with_reducible refine g_cb ?_)
  | (with_reducible refine g_call ?_)
  | (with_reducible refine g_tup ?_)
  | (with_reducible refine g_lst ?_)
  | (with_reducible refine g_bm ?_)
  | (with_reducible refine g_bm0 ?_)
  | ((with_reducible refine' g_kbm ?gh ?_); (case gh => walk_at "h"))
  | (with_reducible refine g_drop ?_)
  | (with_reducible refine g_ret ?_)
  | (with_reducible refine g_retN ?_)
  | (with_reducible refine g_next ?_)
  | (with_reducible refine g_brk ?_)
  | (with_reducible refine g_cont ?_)
  | (with_reducible refine g_if ?_)
  | ((with_reducible refine' g_aug ?gv ?_); (case gv => exact rfl))
  | (with_reducible refine g_ipI ?_)
  | (with_reducible refine g_test ?_)
  | (with_reducible refine g_tB ?_)
  | (with_reducible refine g_kB ?_)
  | (with_reducible refine g_not ?_)
  | (with_reducible refine g_and ?_)
  | (with_reducible refine g_or ?_)
  | (with_reducible refine g_andV ?_)
  | (with_reducible refine g_orV ?_)
  | (with_reducible refine g_notV ?_)
  | (with_reducible refine g_ifE ?_)
  | (with_reducible refine g_addI ?_)
  | (with_reducible refine g_rI0 ?_)
  | (with_reducible refine g_eqI ?_)
  | (with_reducible refine g_eqS ?_)
  | (with_reducible refine g_neI ?_)
  | (with_reducible refine g_neS ?_)
  | (with_reducible refine g_isN ?_)
  | (with_reducible refine g_notN ?_)
  | (with_reducible refine g_int ?_)
  | (with_reducible refine g_max2 ?_)
  | (with_reducible refine g_min2 ?_)
  | ((with_reducible refine' g_lenL ?gh ?_); (case gh => walk_at "h"))
  | (with_reducible refine g_sub ?_)
  | (with_reducible refine g_gcons ?_)
  | (with_reducible refine g_gnil ?_)
  | (with_reducible refine g_un ?_)
  | (with_reducible refine g_rU ?_)
  | (with_reducible refine g_forL ?_)
  | (with_reducible refine g_forS ?_)
  | (with_reducible refine g_forR1 ?_)
  | (with_reducible refine g_forR2 ?_)
  | (with_reducible refine g_forR3 ?_)
  | (with_reducible refine g_lcL ?_)
  | (with_reducible refine g_lcR1 ?_)
  | (with_reducible refine g_lcR2 ?_)
  | (with_reducible refine g_slice ?_)
  | (with_reducible refine g_part ?_)
  | (with_reducible refine g_kOI ?_)
  | (with_reducible refine g_nopart ?_)
  | (with_reducible refine g_yes ?_)
  | ((with_reducible refine' g_wipe ?gv ?_); (case gv => exact rfl))
  | (with_reducible refine iteT ?_)
  | (with_reducible refine iteF ?_)
  | (with_reducible refine i_nf ?_)
  | (with_reducible refine i_nt ?_)
  | ((with_reducible refine' g_gtup ?gh ?gl ?_); (case gh => walk_at "h"); (case gl => exact rfl))
  | ((with_reducible refine' g_notinI ?gh ?_); (case gh => walk_at "h"))
  | ((with_reducible refine' g_inI ?gh ?_); (case gh => walk_at "h"))
  | ((with_reducible refine' g_kget2 ?gh ?_); (case gh => walk_at "h"))
  | ((with_reducible refine' g_kgotI ?gh ?_); (case gh => walk_at "h"))
  | (with_reducible refine g_tRev ?_)
  | (with_reducible refine g_neB ?_)
  | (with_reducible refine g_eqB ?_)
  | ((with_reducible refine' g_lenT ?gh ?_); (case gh => walk_at "h"))
  | (with_reducible refine g_star ?_)
  | ((with_reducible refine' g_kstarL ?gh ?_); (case gh => walk_at "h"))
  | ((with_reducible refine' g_kstarT ?gh ?_); (case gh => walk_at "h"))
  | (with_reducible refine g_tru ?_)
  | ((with_reducible refine' g_truL ?gh ?_); (case gh => walk_at "h"))
  | (with_reducible refine g_get2 ?_)
  | (with_reducible refine g_try ?_)
  | (with_reducible refine g_fld ?_)
  | (with_reducible refine g_sfld ?_)
  | (with_reducible refine g_meth ?_)
  | (with_reducible refine g_make ?_)
  | (with_reducible refine g_del ?_)
  | (with_reducible refine g_callS ?_)
  | (with_reducible refine g_raise ?_)
  | (with_reducible refine g_xf ?_)
  | (with_reducible refine g_m0 ?_)
  | (with_reducible refine g_km0 ?_)
  | walk_at "is")
local macro_rules | `(tactic| walk_at "gg") => `(tactic| repeat walk_at "g")
local macro_rules | `(tactic| walk_at "sz") => `(tactic| (refine sz ?_; simp only [List.length_cons, List.length_nil, List.length_map, List.length_append, List.length_replicate]; omega))
local macro_rules | `(tactic| walk_at "sub") => `(tactic| ((repeat (first | exact List.Sublist.slnil | with_reducible apply List.Sublist.cons_cons | with_reducible apply List.Sublist.cons)); done))

/-! ### ascending lists of texts -/
abbrev kk (z : Str) : List Nat := z.cps.toList
theorem kk_inj {a b : Str} (h : kk a = kk b) : a = b := by
  cases a with
  | mk x =>
    cases b with
    | mk y =>
      congr 1
      exact Array.toList_inj.mp h
def Asc (xs : List Str) : Prop := xs.Pairwise fun a b => kk a < kk b
theorem kk_cases {a b : Str} (h : ¬ kk b < kk a) (n : a ≠ b) : kk a < kk b := by
  refine Decidable.byContradiction fun h2 => n (kk_inj ?_)
  exact List.le_antisymm (List.not_lt.mp h) (List.not_lt.mp h2)
theorem asc_rise : ∀ (p : Str) (l : List Str), risingS p l = true → (p :: l).Nodup → Asc (p :: l)
  | p, [], _, _ => List.pairwise_cons.mpr ⟨fun _ h => (by cases h), List.Pairwise.nil⟩
  | p, x :: r, h, n => by
    have h : (!PySem.Spec.ltCps x.cps.toList p.cps.toList && risingS x r) = true := h
    rw [Bool.and_eq_true] at h
    have h1 : ¬ kk x < kk p := by
      have := h.1
      rw [ltCps_eq] at this
      simpa using this
    have n2 := List.nodup_cons.mp n
    have ih := asc_rise x r h.2 n2.2
    have lt : kk p < kk x := kk_cases h1 fun e => n2.1 (by rw [e]; exact List.mem_cons_self)
    refine List.pairwise_cons.mpr ⟨fun z hz => ?_, ih⟩
    rcases List.mem_cons.mp hz with rfl | hz
    · exact lt
    · exact List.lt_trans lt ((List.pairwise_cons.mp ih).1 z hz)
theorem asc_of {xs : List Str} (h : sortedS xs = true) (n : xs.Nodup) : Asc xs := by
  cases xs with
  | nil => exact List.Pairwise.nil
  | cons x r => exact asc_rise x r h n
theorem Asc.nodup {xs : List Str} (h : Asc xs) : xs.Nodup := h.imp fun {a b} l e => by
  rw [e] at l
  exact List.lt_irrefl _ l
theorem Asc.ext : ∀ {xs ys : List Str}, Asc xs → Asc ys → (∀ z, z ∈ xs ↔ z ∈ ys) → xs = ys
  | [], [], _, _, _ => rfl
  | [], y :: ys, _, _, h => by cases (h y).mpr List.mem_cons_self
  | x :: xs, [], _, _, h => by cases (h x).mp List.mem_cons_self
  | x :: xs, y :: ys, hx, hy, h => by
    have hx' := List.pairwise_cons.mp hx
    have hy' := List.pairwise_cons.mp hy
    have e : x = y := by
      rcases List.mem_cons.mp ((h x).mp List.mem_cons_self) with e | m1
      · exact e
      · rcases List.mem_cons.mp ((h y).mpr List.mem_cons_self) with e | m2
        · exact e.symm
        · exact (List.lt_irrefl _ (List.lt_trans (hy'.1 x m1) (hx'.1 y m2))).elim
    subst e
    have := Asc.ext hx'.2 hy'.2 fun z => by
      have hz := h z
      rw [List.mem_cons, List.mem_cons] at hz
      constructor
      · intro m
        rcases hz.mp (.inr m) with e | m'
        · exact (List.lt_irrefl _ (e ▸ hx'.1 z m)).elim
        · exact m'
      · intro m
        rcases hz.mpr (.inr m) with e | m'
        · exact (List.lt_irrefl _ (e ▸ hy'.1 z m)).elim
        · exact m'
    rw [this]
theorem Asc.filter {xs : List Str} (h : Asc xs) (p : Str → Bool) : Asc (xs.filter p) := h.sublist List.filter_sublist
/-- a list without repeats, grown by one -/
def addL (xs : List Str) (y : Str) : List Str := if y ∈ xs then xs else xs ++ [y]
theorem addL_mem {xs : List Str} {y z : Str} : z ∈ addL xs y ↔ z ∈ xs ∨ z = y := by
  unfold addL
  split
  · next h =>
    constructor
    · exact .inl
    · rintro (m | rfl)
      · exact m
      · exact h
  · simp
theorem addL_nodup {xs : List Str} {y : Str} (n : xs.Nodup) : (addL xs y).Nodup := by
  unfold addL
  split
  · exact n
  · next h =>
    rw [List.nodup_append]
    refine ⟨n, List.nodup_cons.mpr ⟨fun h => (by cases h), List.nodup_nil⟩, fun a ha b hb e => ?_⟩
    rw [List.mem_singleton.mp hb] at e
    exact h (e ▸ ha)
theorem addL_len (xs : List Str) (y : Str) : (addL xs y).length ≤ xs.length + 1 := by
  unfold addL
  split
  · omega
  · rw [List.length_append]; exact Nat.le_refl _
/-- the keys of a dict that is used as a set -/
def tk (xs : List Str) : List (Key × V) := xs.map fun z => (Sum.inr z, V.bl true)
theorem tk_keys (xs : List Str) : (tk xs).map (·.1) = xs.map Sum.inr := by
  unfold tk
  rw [List.map_map]
  rfl
theorem tk_val (xs : List Str) (z : Str) : (valV (tk xs) (.inr z)).isSome = decide (z ∈ xs) := by
  rw [← valV_any]
  unfold tk
  rw [List.any_map, Bool.eq_iff_iff]
  simp only [List.any_eq_true, Function.comp, decide_eq_true_eq]
  constructor
  · rintro ⟨x, hx, e⟩
    exact Sum.inr.inj e ▸ hx
  · exact fun h => ⟨z, h, rfl⟩
theorem tk_put (xs : List Str) (z : Str) : putK (tk xs) (.inr z) (.bl true) = tk (addL xs z) := by
  unfold putK addL
  rw [valV_any, tk_val]
  by_cases h : z ∈ xs
  · rw [if_pos (decide_eq_true h), if_pos h]
    unfold tk
    rw [List.map_map]
    apply List.map_congr_left
    intro x hx
    show (if (Sum.inr x : Key) = .inr z then ((Sum.inr x : Key), V.bl true) else (.inr x, .bl true)) = _
    split <;> rfl
  · rw [if_neg (by simpa using h), if_neg h]
    unfold tk
    rw [List.map_append]
    rfl
theorem tk_len (xs : List Str) : (tk xs).length = xs.length := List.length_map ..

/-! ### trees: the law's own makings -/
def AscT (A : Tr) : Prop := Asc (A.map (·.1))
theorem AscT.nd {A : Tr} (h : AscT A) : (A.map (·.1)).Nodup := Asc.nodup h
theorem AscT.ext {A B : Tr} (ha : AscT A) (hb : AscT B) (h : ∀ z t, (z, t) ∈ A ↔ (z, t) ∈ B) : A = B := by
  have hk : ∀ z, z ∈ A.map (·.1) ↔ z ∈ B.map (·.1) := fun z => by
    rw [List.mem_map, List.mem_map]
    constructor
    · rintro ⟨p, hp, rfl⟩
      exact ⟨p, (h p.1 p.2).mp hp, rfl⟩
    · rintro ⟨p, hp, rfl⟩
      exact ⟨p, (h p.1 p.2).mpr hp, rfl⟩
  have ek := Asc.ext ha hb hk
  refine List.ext_getElem? fun i => ?_
  cases ea : A[i]? with
  | none =>
    have l : A.length = B.length := by
      have := congrArg List.length ek
      rw [List.length_map, List.length_map] at this
      exact this
    rw [List.getElem?_eq_none_iff] at ea
    rw [List.getElem?_eq_none (by omega)]
  | some p =>
    have ek' : (A.map (·.1))[i]? = (B.map (·.1))[i]? := by rw [ek]
    rw [List.getElem?_map, List.getElem?_map, ea] at ek'
    obtain ⟨r, er, e2⟩ := Option.map_eq_some_iff.mp ek'.symm
    rw [er]
    have m1 := getT_of hb.nd (List.mem_of_getElem? er)
    have m2 := getT_of hb.nd ((h p.1 p.2).mp (List.mem_of_getElem? ea))
    rw [e2, m2] at m1
    injection m1 with m1
    rw [show p = r from Prod.ext e2.symm m1]
/-- what may be compared -/
def okTr (A : Tr) : Prop := ∀ p ∈ A, PyData.strOk p.1 = true ∧ okX p.2
def itD (A : Tr) : PyData := .list (A.map fun p => .tuple [.str p.1, txD p.2])
theorem sh_itD {A : Tr} (h : okTr A) : SeqAt.shaped (itD A) = true := by
  refine Sh.ok (n := 3) (Sh.list (n := 2) fun d hd => ?_) (by decide)
  obtain ⟨p, hp, rfl⟩ := List.mem_map.mp hd
  refine Sh.tuple (n := 1) fun d hd => ?_
  simp only [List.mem_cons, List.not_mem_nil, or_false] at hd
  rcases hd with rfl | rfl
  · exact Sh.str (h p hp).1
  · exact Sh.strs (n := 0) (h p hp).2
theorem dq_items {H : Hp} : ∀ {ts : List Addr} {kvs : List (Key × V)} {A : Tr}, Paired (fun (t : Addr) (q : Key × V) => H t = some (.tup [kV q.1, q.2])) ts kvs → kvs.map (·.1) = A.map (fun p => kS p.1) → DqAll H (kvs.map (·.2)) (A.map fun p => txD p.2) → DqAll H (ts.map V.ref) (A.map fun p => .tuple [.str p.1, txD p.2])
  | [], [], [], _, _, _ => .nil
  | [], [], _ :: _, _, e, _ => by cases e
  | t :: ts, q :: kvs, [], _, e, _ => by cases e
  | t :: ts, q :: kvs, p :: A, .cons h pd, e, dq => by
    rw [List.map_cons, List.map_cons] at e
    injection e with e1 e2
    cases dq with
    | cons d1 d2 =>
    rw [e1] at h
    exact .cons (.tup h (.cons (.str p.1) (.cons d1 .nil))) (dq_items pd e2 d2)
  | [], _ :: _, _, pd, _, _ => by cases pd
theorem eqvAll_self : ∀ {ds : List PyData}, (∀ d ∈ ds, PyData.eqv d d = true) → PyData.eqvAll ds ds = true
  | [], _ => by rw [PyData.eqvAll]
  | d :: ds, h => by
    rw [PyData.eqvAll, h d List.mem_cons_self, eqvAll_self fun x hx => h x (List.mem_cons_of_mem _ hx)]
    rfl
theorem eqv_itD (A : Tr) : PyData.eqv (itD A) (itD A) = true := by
  rw [itD, PyData.eqv]
  refine eqvAll_self fun d hd => ?_
  obtain ⟨p, _, rfl⟩ := List.mem_map.mp hd
  rw [PyData.eqv]
  refine eqvAll_self fun d hd => ?_
  simp only [List.mem_cons, List.not_mem_nil, or_false] at hd
  rcases hd with rfl | rfl
  · rw [PyData.eqv]
    exact beq_self_eq_true _
  · rw [txD, eqv_strs]
    exact decide_eq_true rfl
theorem Chg.bt {b : Str × Addr × Tx} {t : Tx} {O : Own} : ∀ {B : Bt} {k : Nat}, B[k]? = some b → Chg (bO B ++ O) b.2.1 (.lst (b.2.2.map V.str)) (.lst (t.map V.str)) (bO (B.set k (b.1, b.2.1, t)) ++ O)
  | [], k, h => by simp at h
  | x :: B, 0, h => by
    have e : x = b := Option.some.inj h
    subst e
    exact .hd
  | x :: B, k + 1, h => .tl (Chg.bt (B := B) (k := k) h)
theorem bK_set {b : Str × Addr × Tx} {t : Tx} : ∀ {B : Bt} {k : Nat}, B[k]? = some b → bK (B.set k (b.1, b.2.1, t)) = bK B
  | [], k, h => by simp at h
  | x :: B, 0, h => by
    have e : x = b := Option.some.inj h
    subst e
    rfl
  | x :: B, k + 1, h => by
    have := bK_set (B := B) (k := k) (t := t) h
    show _ :: bK (B.set k _) = _ :: bK B
    rw [this]
theorem bK_at : ∀ {B : Bt} {k : Nat} {b : Str × Addr × Tx}, (B.map (·.1)).Nodup → B[k]? = some b → valV (bK B) (.inr b.1) = some (.ref b.2.1)
  | [], k, _, _, h => by simp at h
  | x :: B, 0, b, _, h => by
    have e : x = b := Option.some.inj h
    subst e
    exact valV_pos rfl
  | x :: B, k + 1, b, n, h => by
    rw [List.map_cons] at n
    have n' := List.nodup_cons.mp n
    show valV ((kS x.1, V.ref x.2.1) :: bK B) _ = _
    rw [valV_neg (fun e => n'.1 ?_)]
    · exact bK_at n'.2 (k := k) h
    · have : x.1 = b.1 := Sum.inr.inj e
      rw [this]
      exact List.mem_map.mpr ⟨b, List.mem_of_getElem? h, rfl⟩
section
variable {P : Program} {w : World} {K : PySem.W.Frag} {mg : Str → Option Value} {base : Heap}
def sp_l_copy (K : PySem.W.Frag) : Sp := fun vs H Q _ => ∃ (a : Addr) (A : Tr), vs = [.ref a] ∧ TrAt H a A ∧ A.length ≤ 1000 ∧ ∀ d (B : Bt) H', Has H ((d, .dK (bK B)) :: bO B) H' → bA B = A → Q (.ref d) H'
theorem sp_l_copy_len {vs H Q E} (h : sp_l_copy K vs H Q E) : vs.length = 1 := by
  obtain ⟨_, _, rfl, _⟩ := h
  rfl
theorem take_new' {A : Tr} (n : (A.map (·.1)).Nodup) {t : Nat} {p : Str × Tx} (e : A[t]? = some p) : p.1 ∉ (A.take t).map (·.1) := by
  rw [List.map_take]
  exact nd_new n (by rw [List.getElem?_map, e]; rfl)
theorem ok_l_copy (T : Txt K mg) : FnOk P w K mg base CX0 1 T.f_l_copy T.fd_l_copy ["tree"] (sp_l_copy K) := by
  refine T.F_l_copy.ok sc_l_copy (fun vs H Q E h => sp_l_copy_len h) (fun cdv A outer s H vs Q E hr h => ?_)
  refine ⟨_, (pss_cons (ps_set (i := 1) sc_l_copy.nd rfl (.inl rfl) pe_dnewK)
      (pss_cons (ps_lock (ps_for PassesOwn.never rfl (pi_keys (pv 0)) (pg_name (i := 2) sc_l_copy.nd rfl (.inl rfl)) (pss_one (ps_asg (pe_callTy (cr_listK K) (by rfl) T.m_list (by decide +kernel) (pa_cons (pe_ix (ix_K K (hu_of hr)) (pv 0) (pv 2) (fun _ _ => rfl)) pa_nil)) (pg_sub (pv 1) (pv 2) (set_any (hu_of hr)))))))
      (pss_one (ps_ret (pv 1))))), ?_⟩
  obtain ⟨a, A, rfl, ⟨kvs, ha, ek, nd, dq⟩, lA, q⟩ := h
  have hH := Has.start H
  have lk := tr_len ek
  refine g_start (σ' := [some (.ref a), none, none]) rfl ?_
  walk_at "gg"
  refine g_dnewK hH (fun d H1 n1 h1 => ?_)
  walk_at "gg"
  refine k_forDK rfl ha (Has.b0 h1) (fun t σ O' => ∃ (B : Bt) (y2 : Option V), σ = [some (.ref a), some (.ref d), y2] ∧ O' = (d, .dK (bK B)) :: (bO B ++ []) ∧ bA B = A.take t) ⟨[], _, rfl, rfl, rfl⟩ ?_ ?_
  · rintro t k v σ O' H2 od ekv ⟨B, y2, rfl, rfl, eB⟩ h2
    obtain ⟨p, ep, rfl⟩ := tr_key ek ekv
    obtain ⟨kv2, rd, ek2, _, dq2⟩ := (RT.lock (od := od) ha ⟨kvs, .inl ha, ek, nd, dq⟩).up h2.same
    obtain ⟨l, vl, hl⟩ := tr_at ek2 dq2 (getT_of nd (List.mem_of_getElem? ep))
    have lB : B.length ≤ t := by
      have := congrArg List.length eB
      unfold bA at this
      rw [List.length_map, List.length_take] at this
      omega
    have lt : t < A.length := (List.getElem?_eq_some_iff.mp ep).1
    walk_at "gg"
    refine g_ixDR rd vl ?_
    walk_at "gg"
    refine g_listL hl h2 (fun p1 H3 n3 h3 => ?_)
    have nz : p.1 ∉ B.map (·.1) := by
      rw [← bA_keys, eB]
      exact take_new' nd ep
    walk_at "gg"
    refine g_stD (k := .inr p.1) rfl h3 (.tl .hd) (szl (by unfold bK; rw [List.length_map]; omega)) (fun H4 h4 => ?_)
    rw [putK_new _ (bK_none nz)] at h4
    walk_at "gg"
    refine ⟨_, ⟨B ++ [(p.1, p1, p.2)], _, rfl, rfl, ?_⟩, Has.bput h4⟩
    rw [bA_snoc, eB, List.take_add_one, ep]
    rfl
  · rintro σ O' H2 ⟨B, y2, rfl, rfl, eB⟩ h2
    rw [lk, List.take_length] at eB
    rw [List.append_nil] at h2
    walk_at "gg"
    exact q d B H2 h2 eB
def sp_l_rising (K : PySem.W.Frag) : Sp := fun vs H Q _ => ∃ (a : Addr) (A : Tr), vs = [.ref a] ∧ TrAt H a A ∧ A.length ≤ 60 ∧ ∀ d (B : Bt) H', Has H ((d, .dK (bK B)) :: bO B) H' → AscT (bA B) → (∀ p, p ∈ bA B ↔ p ∈ A) → Q (.ref d) H'
theorem sp_l_rising_len {vs H Q E} (h : sp_l_rising K vs H Q E) : vs.length = 1 := by
  obtain ⟨_, _, rfl, _⟩ := h
  rfl
theorem ok_l_rising (T : Txt K mg) : FnOk P w K mg base CX0 1 T.f_l_rising T.fd_l_rising ["tree"] (sp_l_rising K) := by
  refine T.F_l_rising.ok sc_l_rising (fun vs H Q E h => sp_l_rising_len h) (fun cdv A outer s H vs Q E hr h => ?_)
  refine ⟨_, (pss_cons (ps_set (i := 1) sc_l_rising.nd rfl (.inl rfl) pe_dnewK)
      (pss_cons (ps_for PassesOwn.never rfl (k_il K (pi_list (pe_callB (cr_sortN K P w rfl (cr_sortA K rfl)) (by rfl) T.m_sorted (by decide +kernel) (pa_cons (pe_callTy (cr_listD rfl) (by rfl) T.m_list (by decide +kernel) (pa_cons (pv 0) pa_nil)) pa_nil)))) (pg_name (i := 2) sc_l_rising.nd rfl (.inl rfl)) (pss_one (ps_asg (pe_callTy (cr_listK K) (by rfl) T.m_list (by decide +kernel) (pa_cons (pe_ix (ix_K K (hu_of hr)) (pv 0) (pv 2) (fun _ _ => rfl)) pa_nil)) (pg_sub (pv 1) (pv 2) (set_any (hu_of hr))))))
      (pss_one (ps_ret (pv 1))))), ?_⟩
  obtain ⟨a, A, rfl, ⟨kvs, ha, ek, nd, dq⟩, lA, q⟩ := h
  have hH := Has.start H
  refine g_start (σ' := [some (.ref a), none, none]) rfl ?_
  walk_at "gg"
  refine g_dnewK hH (fun d H1 n1 h1 => ?_)
  walk_at "gg"
  refine g_listD (h1.same _ _ ha) h1 (fun p1 H2 n2 h2 => ?_)
  rw [tr_keys ek] at h2
  walk_at "gg"
  refine g_sortNA (g_sortS (h2.get (List.Mem.head _)) (by rw [List.length_map]; omega) h2 (fun us p2 H3 pm srt n3 h3 => ?_))
  have asc := asc_of srt (pm.nodup_iff.mpr nd)
  have h3 : Has H ((d, .dK (bK [])) :: (bO [] ++ [(p2, .lst (us.map V.str)), (p1, .lst ((A.map (·.1)).map V.str))])) H3 := h3.perm (by exact (List.perm_middle (l₁ := [_, _]) (l₂ := [])).symm)
  walk_at "gg"
  refine k_forL (h3.get (List.Mem.tail _ (List.Mem.head _))) (fun t σ H' => ∃ (B : Bt) (y2 : Option V), σ = [some (.ref a), some (.ref d), y2] ∧ Has H ((d, .dK (bK B)) :: (bO B ++ [(p2, .lst (us.map V.str)), (p1, .lst ((A.map (·.1)).map V.str))])) H' ∧ (bA B).map (·.1) = us.take t ∧ ∀ p ∈ bA B, p ∈ A) ⟨[], _, rfl, h3, rfl, fun p h => by cases h⟩ ?_ ?_ ?_
  · rintro t σ H' _ ⟨B, y2, rfl, h, _⟩
    exact h.get (List.mem_cons_of_mem _ (List.mem_append_right _ (List.Mem.head _)))
  · rintro t x σ H4 hx ⟨B, y2, rfl, h4, eB, sB⟩
    rw [List.getElem?_map] at hx
    obtain ⟨z, hz, rfl⟩ := Option.map_eq_some_iff.mp hx
    have zm : z ∈ A.map (·.1) := pm.mem_iff.mp (List.mem_of_getElem? hz)
    obtain ⟨p, hp, rfl⟩ := List.mem_map.mp zm
    obtain ⟨l, vl, hl⟩ := tr_at ek (dq.up h4.same _ _) (getT_of nd hp)
    have lt := (List.getElem?_eq_some_iff.mp hz).1
    have lu := pm.length_eq
    rw [List.length_map] at lu
    have lB : B.length ≤ t := by
      have := congrArg List.length eB
      unfold bA at this
      rw [List.length_map, List.length_map, List.length_take] at this
      omega
    have nz : p.1 ∉ B.map (·.1) := by
      rw [← bA_keys, eB]
      intro m
      exact nd_new asc.nodup hz m
    walk_at "gg"
    refine g_ixDS (h4.same _ _ ha) vl ?_
    walk_at "gg"
    refine g_listL hl h4 (fun p3 H5 n5 h5 => ?_)
    walk_at "gg"
    refine g_stD (k := .inr p.1) rfl h5 (.tl .hd) (szl (by unfold bK; rw [List.length_map]; omega)) (fun H6 h6 => ?_)
    rw [putK_new _ (bK_none nz)] at h6
    walk_at "gg"
    refine ⟨B ++ [(p.1, p3, p.2)], _, rfl, Has.bput h6, ?_, fun r hr => ?_⟩
    · rw [bA_snoc, List.map_append, eB, List.take_add_one, hz]
      rfl
    · rw [bA_snoc] at hr
      rcases List.mem_append.mp hr with hr | hr
      · exact sB r hr
      · rw [List.mem_singleton.mp hr]
        exact hp
  · rintro σ H4 ⟨B, y2, rfl, h4, eB, sB⟩
    rw [List.length_map, List.take_length] at eB
    walk_at "gg"
    refine q d B H4 (h4.sub (List.Sublist.cons_cons _ (List.sublist_append_left _ _))) (by unfold AscT; rw [eB]; exact asc) fun p => ⟨sB p, fun hp => ?_⟩
    have m : p.1 ∈ (bA B).map (·.1) := by
      rw [eB]
      exact pm.mem_iff.mpr (List.mem_map.mpr ⟨p, hp, rfl⟩)
    obtain ⟨r, hr, er⟩ := List.mem_map.mp m
    have e1 := getT_of nd hp
    have e2 := getT_of nd (sB r hr)
    rw [er, e1] at e2
    injection e2 with e2
    rw [show p = r from Prod.ext er.symm e2]
    exact hr
def sp_l_kept (K : PySem.W.Frag) : Sp := fun vs H Q _ => ∃ (a b : Addr) (A : Tr), vs = [.ref a, .ref b] ∧ TrAt H a A ∧ TrAt H b A ∧ okTr A ∧ ∀ H', Same H H' → Q (.bl true) H'
theorem sp_l_kept_len {vs H Q E} (h : sp_l_kept K vs H Q E) : vs.length = 2 := by
  obtain ⟨_, _, _, rfl, _⟩ := h
  rfl
theorem ok_l_kept (T : Txt K mg) : FnOk P w K mg base CX0 1 T.f_l_kept T.fd_l_kept ["passed", "tree"] (sp_l_kept K) := by
  refine T.F_l_kept.ok sc_l_kept (fun vs H Q E h => sp_l_kept_len h) (fun cdv A outer s H vs Q E hr h => ?_)
  refine ⟨_, (pss_one (ps_ret (pe_cmpR (op_eqK K hr.units) (LiI.pe_listItems rfl (pv 0) (by rfl) T.m_list (by decide +kernel)) (LiI.pe_listItems rfl (pv 1) (by rfl) T.m_list (by decide +kernel)) (nomark _)))), ?_⟩
  obtain ⟨a, b, A, rfl, ⟨ka, ha, eka, _, dqa⟩, ⟨kb, hb, ekb, _, dqb⟩, ok, q⟩ := h
  refine g_start (σ' := [some (.ref a), some (.ref b)]) rfl ?_
  walk_at "gg"
  refine g_listItems ?_
  walk_at "gg"
  refine g_items ha (fun p1 H1 ts1 s1 n1 e1 pd1 => ?_)
  walk_at "gg"
  refine g_listItems ?_
  walk_at "gg"
  refine g_items (s1 _ _ hb) (fun p2 H2 ts2 s2 n2 e2 pd2 => ?_)
  refine g_eqD (d := itD A) (e := itD A) (.lst (s2 _ _ e1) ((dq_items pd1 eka (dqa.up s1 _ _)).up s2 _ _)) (.lst e2 (dq_items pd2 ekb (dqb.up (s1.trans s2) _ _))) (sh_itD ok) (sh_itD ok) ?_
  rw [eqv_itD]
  exact q H2 (s1.trans s2)
def sp_l_spoil (K : PySem.W.Frag) : Sp := fun vs H Q _ => ∃ (d : Addr) (B : Bt) (F : Hp) (m : Nat), vs = [.ref d] ∧ Has F ((d, .dK (bK B)) :: bO B) H ∧ (B.map (·.1)).Nodup ∧ B.length ≤ 1000 ∧ m ≤ 1000 ∧ (∀ b ∈ B, b.2.2.length ≤ m) ∧ ∀ H' (C : Bt), Has F ((d, .dK (bK C)) :: bO C) H' → (C.map (·.1)).Nodup → C.length ≤ B.length + 1 → (∀ b ∈ C, b.2.2.length ≤ m + 1 + B.length) → Q .non H'
theorem sp_l_spoil_len {vs H Q E} (h : sp_l_spoil K vs H Q E) : vs.length = 1 := by
  obtain ⟨_, _, _, _, rfl, _⟩ := h
  rfl
theorem ok_l_spoil (T : Txt K mg) : FnOk P w K mg base CX0 1 T.f_l_spoil T.fd_l_spoil ["tree"] (sp_l_spoil K) := by
  refine T.F_l_spoil.ok sc_l_spoil (fun vs H Q E h => sp_l_spoil_len h) (fun cdv A outer s H vs Q E hr h => ?_)
  refine ⟨_, (pss_cons (ps_for PassesOwn.never rfl (k_il K (pi_list (pe_callTy (cr_listD rfl) (by rfl) T.m_list (by decide +kernel) (pa_cons (pv 0) pa_nil)))) (pg_name (i := 1) sc_l_spoil.nd rfl (.inl rfl)) (pss_one (ps_expr (k_bm K (pe_bm PySem.F.plainAttrs_list PySem.F.slot_list_append PySem.F.type_list_append mt_append (pe_ix (ix_K K (hu_of hr)) (pv 0) (pv 1) (fun _ _ => rfl)) (pa_cons pe_str pa_nil))))))
      (pss_one (ps_asg (pe_lst (pa_cons pe_str pa_nil)) (pg_sub (pv 0) pe_str (set_any (hu_of hr)))))), ?_⟩
  obtain ⟨d, B, F, m, rfl, h, nd, lB, lm, lt, q⟩ := h
  refine g_start (σ' := [some (.ref d), none]) rfl ?_
  walk_at "gg"
  refine g_listD (h.get (List.Mem.head _)) h (fun l H1 n1 h1 => ?_)
  have ek : (bK B).map (fun kv => kV kv.1) = (B.map (·.1)).map V.str := by
    unfold bK
    rw [List.map_map, List.map_map]
    rfl
  rw [ek] at h1
  refine k_forL (h1.get (List.Mem.head _)) (fun t σ H' => ∃ (C : Bt) (y1 : Option V), σ = [some (.ref d), y1] ∧ bK C = bK B ∧ Has F ((l, .lst ((B.map (·.1)).map V.str)) :: (d, .dK (bK C)) :: (bO C ++ [])) H' ∧ ∀ b ∈ C, b.2.2.length ≤ m + t) ⟨B, _, rfl, rfl, by rw [List.append_nil]; exact h1, fun b hb => lt b hb⟩ ?_ ?_ ?_
  · rintro t σ H' _ ⟨C, y1, rfl, eC, h, _⟩
    exact h.get (List.Mem.head _)
  · rintro t x σ H2 hx ⟨C, y1, rfl, eC, h2, lC⟩
    rw [List.getElem?_map] at hx
    obtain ⟨z, hz, rfl⟩ := Option.map_eq_some_iff.mp hx
    have kC : C.map (·.1) = B.map (·.1) := by
      have := congrArg (List.map (·.1)) eC
      rw [bK_keys, bK_keys] at this
      have e : ∀ D : Bt, (bA D).map (fun p => kS p.1) = (D.map (·.1)).map kS := fun D => by
        unfold bA
        rw [List.map_map, List.map_map]
        rfl
      rw [e, e] at this
      exact (List.map_inj_right (fun a b h => Sum.inr.inj h)).mp this
    rw [← kC, List.getElem?_map] at hz
    obtain ⟨b, eb, rfl⟩ := Option.map_eq_some_iff.mp hz
    have tl : t < B.length := by
      have := (List.getElem?_eq_some_iff.mp eb).1
      have := congrArg List.length kC
      rw [List.length_map, List.length_map] at this
      omega
    have lb := lC b (List.mem_of_getElem? eb)
    walk_at "gg"
    refine g_ixDS (h2.get (List.Mem.tail _ (List.Mem.head _))) (bK_at (by rw [kC]; exact nd) eb) ?_
    have hb : H2 b.2.1 = some (.lst (b.2.2.map V.str)) := h2.get (List.mem_cons_of_mem _ (List.mem_cons_of_mem _ (List.mem_append_left _ (List.mem_map.mpr ⟨b, List.mem_of_getElem? eb, rfl⟩))))
    have c : Chg ((l, HO.lst ((B.map (·.1)).map V.str)) :: (d, .dK (bK C)) :: (bO C ++ [])) b.2.1 (.lst (b.2.2.map V.str)) (.lst (b.2.2.map V.str ++ [V.str "c"])) ((l, HO.lst ((B.map (·.1)).map V.str)) :: (d, .dK (bK C)) :: (bO (C.set t (b.1, b.2.1, b.2.2 ++ (["c"] : Tx))) ++ [])) := by
      have := Chg.bt (t := b.2.2 ++ (["c"] : Tx)) (O := []) eb
      rw [List.map_append] at this
      exact .tl (.tl this)
    walk_at "gg"
    refine g_append h2 c (szl (by rw [List.length_map]; omega)) (fun H3 h3 => ?_)
    walk_at "gg"
    have e3 := bK_set (t := b.2.2 ++ (["c"] : Tx)) eb
    refine ⟨C.set t (b.1, b.2.1, b.2.2 ++ (["c"] : Tx)), _, rfl, e3.trans eC, by rw [e3]; exact h3, fun r hr => ?_⟩
    rcases List.mem_or_eq_of_mem_set hr with hr | rfl
    · have := lC r hr
      omega
    · show (b.2.2 ++ (["c"] : Tx)).length ≤ _
      rw [List.length_append]
      show _ + 1 ≤ _
      omega
  · rintro σ H2 ⟨C, y1, rfl, eC, h2, lC⟩
    have l2 : (bK C).length ≤ 1000 := by
      rw [eC]
      unfold bK
      rw [List.length_map]
      exact lB
    simp only [List.length_map] at lC
    have kC : C.map (·.1) = B.map (·.1) := by
      have := congrArg (List.map (·.1)) eC
      rw [bK_keys, bK_keys] at this
      have e : ∀ D : Bt, (bA D).map (fun p => kS p.1) = (D.map (·.1)).map kS := fun D => by
        unfold bA
        rw [List.map_map, List.map_map]
        rfl
      rw [e, e] at this
      exact (List.map_inj_right (fun a b h => Sum.inr.inj h)).mp this
    have nC : (C.map (·.1)).Nodup := by rw [kC]; exact nd
    have lCB : C.length = B.length := by
      have := congrArg List.length kC
      rw [List.length_map, List.length_map] at this
      exact this
    walk_at "gg"
    refine g_klst (by walk_at "sz") h2 (fun p3 H3 n3 h3 => ?_)
    walk_at "gg"
    refine g_stD (k := .inr "zz") rfl h3 (.tl (.tl .hd)) (szl (by omega)) (fun H4 h4 => ?_)
    have h4 := h4.sub (O' := (p3, .lst [V.str "c"]) :: (d, .dK (putK (bK C) (.inr "zz") (V.ref p3))) :: (bO C ++ [])) (List.Sublist.cons_cons _ (List.Sublist.cons _ (List.Sublist.refl _)))
    walk_at "gg"
    by_cases old : ("zz" : Str) ∈ C.map (·.1)
    · obtain ⟨b', hb', eb'⟩ := List.mem_map.mp old
      obtain ⟨j, hj⟩ := List.mem_iff_getElem?.mp hb'
      have er : putK (bK C) (.inr "zz") (V.ref p3) = bK (C.set j (b'.1, p3, (["c"] : Tx))) := by
        rw [← eb']
        exact putK_rep nC hj
      rw [er] at h4
      have h5 := Has.brep (x := (["c"] : Tx)) hj h4
      rw [List.append_nil] at h5
      have ek : (C.set j (b'.1, p3, (["c"] : Tx))).map (·.1) = C.map (·.1) := by
        rw [List.map_set]
        refine List.ext_getElem? fun i => ?_
        rw [List.getElem?_set]
        split
        · rename_i e
          subst e
          split
          · rw [List.getElem?_map, hj]
            rfl
          · rename_i e
            rw [List.length_map] at e
            exact (e (List.getElem?_eq_some_iff.mp hj).1).elim
        · rfl
      refine q H4 _ h5 (by rw [ek]; exact nC) (by rw [List.length_set]; omega) fun r hr => ?_
      rcases List.mem_or_eq_of_mem_set hr with hr | rfl
      · have := lC r hr
        omega
      · show 1 ≤ _
        omega
    · rw [putK_new _ (bK_none old)] at h4
      have h5 := Has.bput (t := (["c"] : Tx)) h4
      rw [List.append_nil] at h5
      refine q H4 _ h5 ?_ (by rw [List.length_append]; show _ + 1 ≤ _; omega) fun r hr => ?_
      · rw [List.map_append, List.nodup_append]
        refine ⟨nC, by simp, fun a ha b hb e => old ?_⟩
        have eb : b = "zz" := by simpa using hb
        rw [← eb, ← e]
        exact ha
      · rcases List.mem_append.mp hr with hr | hr
        · have := lC r hr
          omega
        · rw [List.mem_singleton.mp hr]
          show 1 ≤ _
          omega
end

end K11

namespace K11
open PySem PySem.Spec PyProof.Rows L2 Qk
local macro_rules | `(tactic| walk_at "m") => `(tactic| ((repeat (first | exact List.Mem.head _ | apply List.Mem.tail)); done))
local macro_rules | `(tactic| walk_at "h") => `(tactic| first | assumption | exact Has.gF (by assumption) (by assumption) | exact Has.get (by assumption) (by walk_at "m"))
local macro_rules | `(tactic| walk_at "c") => `(tactic| ((repeat (first | exact Chg.hd | apply Chg.tl)); done))
local macro_rules | `(tactic| walk_at "is") => `(tactic| first
  | ((with_reducible refine' is2_non ?gh ?_); (case gh => walk_at "h"))
  | (with_reducible refine is_int_list ?_)
  | (with_reducible refine is_int_tuple ?_)
  | (with_reducible refine is_int_dict ?_)
  | (with_reducible refine is_int_int ?_)
  | (with_reducible refine is_int_bool ?_)
  | (with_reducible refine is_int_str ?_)
  | ((with_reducible refine' is2_int ?gh ?_); (case gh => walk_at "h"))
  | (with_reducible refine is_str_list ?_)
  | (with_reducible refine is_str_tuple ?_)
  | (with_reducible refine is_str_dict ?_)
  | (with_reducible refine is_str_int ?_)
  | (with_reducible refine is_str_bool ?_)
  | (with_reducible refine is_str_str ?_)
  | ((with_reducible refine' is2_str ?gh ?_); (case gh => walk_at "h"))
  | (with_reducible refine is_bool_list ?_)
  | (with_reducible refine is_bool_tuple ?_)
  | (with_reducible refine is_bool_dict ?_)
  | (with_reducible refine is_bool_int ?_)
  | (with_reducible refine is_bool_bool ?_)
  | (with_reducible refine is_bool_str ?_)
  | ((with_reducible refine' is2_bool ?gh ?_); (case gh => walk_at "h"))
  | ((with_reducible refine' is_list_list ?gh ?_); (case gh => walk_at "h"))
  | ((with_reducible refine' is_list_tuple ?gh ?_); (case gh => walk_at "h"))
  | ((with_reducible refine' is_list_dict ?gh ?_); (case gh => walk_at "h"))
  | ((with_reducible refine' is_list_int ?gh ?_); (case gh => walk_at "h"))
  | ((with_reducible refine' is_list_bool ?gh ?_); (case gh => walk_at "h"))
  | ((with_reducible refine' is_list_str ?gh ?_); (case gh => walk_at "h"))
  | ((with_reducible refine' is2_list ?ga ?gb ?_); (case ga => walk_at "h"); (case gb => walk_at "h"))
  | ((with_reducible refine' is_tuple_list ?gh ?_); (case gh => walk_at "h"))
  | ((with_reducible refine' is_tuple_tuple ?gh ?_); (case gh => walk_at "h"))
  | ((with_reducible refine' is_tuple_dict ?gh ?_); (case gh => walk_at "h"))
  | ((with_reducible refine' is_tuple_int ?gh ?_); (case gh => walk_at "h"))
  | ((with_reducible refine' is_tuple_bool ?gh ?_); (case gh => walk_at "h"))
  | ((with_reducible refine' is_tuple_str ?gh ?_); (case gh => walk_at "h"))
  | ((with_reducible refine' is2_tuple ?ga ?gb ?_); (case ga => walk_at "h"); (case gb => walk_at "h"))
  | ((with_reducible refine' is_dict_list ?gh ?_); (case gh => walk_at "h"))
  | ((with_reducible refine' is_dict_tuple ?gh ?_); (case gh => walk_at "h"))
  | ((with_reducible refine' is_dict_dict ?gh ?_); (case gh => walk_at "h"))
  | ((with_reducible refine' is_dict_int ?gh ?_); (case gh => walk_at "h"))
  | ((with_reducible refine' is_dict_bool ?gh ?_); (case gh => walk_at "h"))
  | ((with_reducible refine' is_dict_str ?gh ?_); (case gh => walk_at "h"))
  | ((with_reducible refine' is2_dict ?ga ?gb ?_); (case ga => walk_at "h"); (case gb => walk_at "h")))
local macro_rules | `(tactic| walk_at "g") => `(tactic| first
  | (with_reducible refine g_seq ?_)
  | (with_reducible refine g_asg ?_)
  | ((with_reducible refine g_name ?_); dsimp only [List.set, wipe, List.map])
  | ((with_reducible refine' g_var ?gv ?_); (case gv => exact rfl))
  | (with_reducible refine g_c ?_)
  | (with_reducible refine g_op ?_)
  | (with_reducible refine g_cons ?_)
  | (with_reducible refine g_nil ?_)
  | (with_reducible refine g_cb ?_)
  | (with_reducible refine g_call ?_)
  | (with_reducible refine g_tup ?_)
  | (with_reducible refine g_lst ?_)
  | (with_reducible refine g_bm ?_)
  | (with_reducible refine g_bm0 ?_)
  | ((with_reducible refine' g_kbm ?gh ?_); (case gh => walk_at "h"))
  | (with_reducible refine g_drop ?_)
  | (with_reducible refine g_ret ?_)
  | (with_reducible refine g_retN ?_)
  | (with_reducible refine g_next ?_)
  | (with_reducible refine g_brk ?_)
  | (with_reducible refine g_cont ?_)
  | (with_reducible refine g_if ?_)
  | ((with_reducible refine' g_aug ?gv ?_); (case gv => exact rfl))
  | (with_reducible refine g_ipI ?_)
  | (with_reducible refine g_test ?_)
  | (with_reducible refine g_tB ?_)
  | (with_reducible refine g_kB ?_)
  | (with_reducible refine g_not ?_)
  | (with_reducible refine g_and ?_)
  | (with_reducible refine g_or ?_)
  | (with_reducible refine g_andV ?_)
  | (with_reducible refine g_orV ?_)
  | (with_reducible refine g_notV ?_)
  | (with_reducible refine g_ifE ?_)
  | (with_reducible refine g_addI ?_)
  | (with_reducible refine g_rI0 ?_)
  | (with_reducible refine g_eqI ?_)
  | (with_reducible refine g_eqS ?_)
  | (with_reducible refine g_neI ?_)
  | (with_reducible refine g_neS ?_)
  | (with_reducible refine g_isN ?_)
  | (with_reducible refine g_notN ?_)
  | (with_reducible refine g_int ?_)
  | (with_reducible refine g_max2 ?_)
  | (with_reducible refine g_min2 ?_)
  | ((with_reducible refine' g_lenL ?gh ?_); (case gh => walk_at "h"))
  | (with_reducible refine g_sub ?_)
  | (with_reducible refine g_gcons ?_)
  | (with_reducible refine g_gnil ?_)
  | (with_reducible refine g_un ?_)
  | (with_reducible refine g_rU ?_)
  | (with_reducible refine g_forL ?_)
  | (with_reducible refine g_forS ?_)
  | (with_reducible refine g_forR1 ?_)
  | (with_reducible refine g_forR2 ?_)
  | (with_reducible refine g_forR3 ?_)
  | (with_reducible refine g_lcL ?_)
  | (with_reducible refine g_lcR1 ?_)
  | (with_reducible refine g_lcR2 ?_)
  | (with_reducible refine g_slice ?_)
  | (with_reducible refine g_part ?_)
  | (with_reducible refine g_kOI ?_)
  | (with_reducible refine g_nopart ?_)
  | (with_reducible refine g_yes ?_)
  | ((with_reducible refine' g_wipe ?gv ?_); (case gv => exact rfl))
  | (with_reducible refine iteT ?_)
  | (with_reducible refine iteF ?_)
  | (with_reducible refine i_nf ?_)
  | (with_reducible refine i_nt ?_)
  | ((with_reducible refine' g_gtup ?gh ?gl ?_); (case gh => walk_at "h"); (case gl => exact rfl))
  | ((with_reducible refine' g_notinI ?gh ?_); (case gh => walk_at "h"))
  | ((with_reducible refine' g_inI ?gh ?_); (case gh => walk_at "h"))
  | ((with_reducible refine' g_kget2 ?gh ?_); (case gh => walk_at "h"))
  | ((with_reducible refine' g_kgotI ?gh ?_); (case gh => walk_at "h"))
  | (with_reducible refine g_tRev ?_)
  | (with_reducible refine g_neB ?_)
  | (with_reducible refine g_eqB ?_)
  | ((with_reducible refine' g_lenT ?gh ?_); (case gh => walk_at "h"))
  | (with_reducible refine g_star ?_)
  | ((with_reducible refine' g_kstarL ?gh ?_); (case gh => walk_at "h"))
  | ((with_reducible refine' g_kstarT ?gh ?_); (case gh => walk_at "h"))
  | (with_reducible refine g_tru ?_)
  | ((with_reducible refine' g_truL ?gh ?_); (case gh => walk_at "h"))
  | (with_reducible refine g_get2 ?_)
  | (with_reducible refine g_try ?_)
  | (with_reducible refine g_fld ?_)
  | (with_reducible refine g_sfld ?_)
  | (with_reducible refine g_meth ?_)
  | (with_reducible refine g_make ?_)
  | (with_reducible refine g_del ?_)
  | (with_reducible refine g_callS ?_)
  | (with_reducible refine g_raise ?_)
  | (with_reducible refine g_xf ?_)
  | (with_reducible refine g_m0 ?_)
  | (with_reducible refine g_km0 ?_)
  | walk_at "is")
local macro_rules | `(tactic| walk_at "gg") => `(tactic| repeat walk_at "g")
local macro_rules | `(tactic| walk_at "sz") => `(tactic| (refine sz ?_; simp only [List.length_cons, List.length_nil, List.length_map, List.length_append, List.length_replicate]; omega))
local macro_rules | `(tactic| walk_at "sub") => `(tactic| ((repeat (first | exact List.Sublist.slnil | with_reducible apply List.Sublist.cons_cons | with_reducible apply List.Sublist.cons)); done))

local macro_rules | `(tactic| walk_at "g") => `(tactic| (with_reducible refine g_forE ?_))

local macro_rules | `(tactic| walk_at "g") => `(tactic| first
  | (with_reducible refine g_dcL ?_)
  | (with_reducible refine g_dcT ?_)
  | (with_reducible refine g_m1s ?_)
  | (with_reducible refine g_km1s ?_)
  | (with_reducible refine g_starts ?_)
  | (with_reducible refine g_tryX ?_)
  | (with_reducible refine g_lcS ?_))

/-! ### trees that may be kept -/
def plV : Option Nat → V
  | none => .non
  | some i => .int (i : Nat)
def badK (A : Tr) : Nat → List Str → Option (Str × Option Nat)
  | _, [] => none
  | k, z :: r => if 8 ≤ k then some (z, none) else if isPath z = true then (match badT ((getT A z).getD []) with
    | some i => some (z, some i)
    | none => badK A (k + 1) r) else some (z, none)
theorem badK_drop {A : Tr} {us : List Str} {i : Nat} {z : Str} (h : us[i]? = some z) : badK A i (us.drop i) = if 8 ≤ i then some (z, none) else if isPath z = true then (match badT ((getT A z).getD []) with
    | some i => some (z, some i)
    | none => badK A (i + 1) (us.drop (i + 1))) else some (z, none) := by
  obtain ⟨lt, e⟩ := List.getElem?_eq_some_iff.mp h
  rw [List.drop_eq_getElem_cons lt, e]
  rfl
theorem badK_end (A : Tr) (us : List Str) (i : Nat) (h : us.length ≤ i) : badK A i (us.drop i) = none := by
  rw [List.drop_of_length_le h]
  rfl
/-- bounds of a tree -/
structure TrB (A : Tr) : Prop where
  few : A.length ≤ 60
  ok : ∀ p ∈ A, p.1.length ≤ 5000 ∧ p.2.length ≤ 1000 ∧ ∀ z ∈ p.2, z.length ≤ 10000
section
variable {P : Program} {w : World} {K : PySem.W.Frag} {mg : Str → Option Value} {base : Heap}
def lost_tr (C : Addr) (H : Hp) (E : XK) (r : Str × Option Nat) : Prop := ∀ e H', Same H H' → H e = none → H' e = some (.xd [("place", plV r.2), ("path", .str r.1)]) → E (.ref C) (some e) H'
def sp_checked_tree (T : Txt K mg) : Sp := fun vs H Q E => ∃ (a : Addr) (A : Tr), vs = [.ref a] ∧ TrAt H a A ∧ TrB A ∧ ∀ us, Asc us → (∀ z, z ∈ us ↔ z ∈ A.map (·.1)) →
  (badK A 0 us = none → ∀ d (B : Bt) H', Has H ((d, .dK (bK B)) :: bO B) H' → AscT (bA B) → (∀ p, p ∈ bA B ↔ p ∈ A) → Q (.ref d) H') ∧ (∀ r, badK A 0 us = some r → lost_tr T.C_BadTree H E r)
theorem sp_checked_tree_len {T : Txt K mg} {vs H Q E} (h : sp_checked_tree T vs H Q E) : vs.length = 1 := by
  obtain ⟨_, _, rfl, _⟩ := h
  rfl
set_option maxHeartbeats 1000000 in
theorem ok_checked_tree (T : Txt K mg) : FnOk P w K mg base (L2.CX P w) 4 T.f_checked_tree T.fd_checked_tree ["tree"] (sp_checked_tree T) := by
  refine Fun.okC T.F_checked_tree sc_checked_tree (fun vs H Q E h => sp_checked_tree_len h) (fun cdv A outer s H vs Q E hr h => ?_)
  refine ⟨_, (pss_cons (ps_set (i := 1) sc_checked_tree.nd rfl (.inl rfl) pe_dnewK)
      (pss_cons (ps_for (L2.passes_of rfl) rfl (pi_enum (by rfl) T.m_enumerate (pa_cons (pe_callB (cr_sortA K rfl) (by rfl) T.m_sorted (by decide +kernel) (pa_cons (pv 0) pa_nil)) pa_nil)) (k_gt K (pg_tup (by rfl) (pgs_cons (pg_name (i := 2) sc_checked_tree.nd rfl (.inl rfl)) (pgs_cons (pg_name (i := 3) sc_checked_tree.nd rfl (.inl rfl)) pgs_nil)))) (pss_cons (ps_if (pt_cmpR op_ge (pv 2) (pe_gc (v := .int 8) (by rfl) T.k_TREE_PATHS) (nomark _)) (pss_one (k_raiseC rfl (L2.takes_of rfl rfl rfl rfl) (pmk_oexN T.O_BadTree T.iC_BadTree T.tI_BadTree (ok_init_BadTree T) (hr.mono (by decide)) T.bi_BadTree pass0 (by rfl) T.g_BadTree (pa_cons (pv 3) (pa_cons pe_non pa_nil))))) pss_nil)
      (pss_cons (ps_if (pt_not (pt_val (pe_call (ok_is_path T) (hr.mono (by decide)) (by rfl) T.g_is_path T.F_is_path.kp T.b_is_path .nil pass0 (pa_cons (pv 3) pa_nil)))) (pss_one (k_raiseC rfl (L2.takes_of rfl rfl rfl rfl) (pmk_oexN T.O_BadTree T.iC_BadTree T.tI_BadTree (ok_init_BadTree T) (hr.mono (by decide)) T.bi_BadTree pass0 (by rfl) T.g_BadTree (pa_cons (pv 3) (pa_cons pe_non pa_nil))))) pss_nil)
      (pss_one (k_tryX K (i := 4) (Wout := fun _ _ _ _ => False) rfl rfl sc_checked_tree.nd rfl rfl takesN (L2.takes_of rfl rfl rfl rfl) (fun _ _ _ _ h => h) ⟨rfl, by decide, Or.inl T.g_BadText⟩ (fun W pn xe tk hown => (pss_one (ps_asg (pe_callS (ok_checked_text T) (hr.mono (by decide)) (by rfl) T.g_checked_text T.F_checked_text.kp T.b_checked_text (fun σ => L2N.passAt tk σ) (pa_cons (pe_ix (ix_K K (hu_of hr)) (pv 0) (pv 3) (fun _ _ => rfl)) pa_nil)) (pg_sub (pv 1) (pv 3) (set_any (hu_of hr)))))) (fun a oe cls d pn xe hz hf tkS hot => (pss_one (k_raiseF K (i := 4) hz hf tkS (L2H.pmk5_oexH T.O_BadTree T.iC_BadTree T.tI_BadTree (ok_init_BadTree_h T) (roomS hr (by decide)) hot T.bi_BadTree (fun _ _ _ _ _ _ _ h => h.elim) (by rfl) T.g_BadTree (pa_cons (pv 3) (pa_cons (pe_sX (pe_xfA K hz.zc hf (pv 4))) pa_nil))) rfl rfl))))))))
      (pss_one (ps_ret (pv 1))))), ?_⟩
  obtain ⟨a, A, rfl, ⟨kvs, ha, ek, nd, dq⟩, tb, h⟩ := h
  have hH := Has.start H
  have few := tb.few
  refine g_start (σ' := [some (.ref a), none, none, none, none]) rfl ?_
  walk_at "gg"
  refine g_dnewK hH (fun d H1 n1 h1 => ?_)
  walk_at "gg"
  refine g_sortDS (h1.same _ _ ha) (by rw [ek, List.map_map]; rfl) (ks := A.map (·.1)) (by rw [List.length_map]; omega) h1 (fun us p2 H2 pm srt n2 h2 => ?_)
  have asc := asc_of srt (pm.nodup_iff.mpr nd)
  obtain ⟨q, qe⟩ := h us asc (fun z => pm.mem_iff)
  have lu := pm.length_eq
  rw [List.length_map] at lu
  have h2 : Has H ((d, .dK (bK [])) :: (bO [] ++ [(p2, .lst (us.map V.str))])) H2 := h2.perm (by exact (List.perm_middle (l₁ := [_]) (l₂ := [])).symm)
  refine k_forE (h2.get (List.Mem.tail _ (List.Mem.head _))) (fun t σ H' => ∃ (B : Bt) (y2 y3 y4 : Option V), σ = [some (.ref a), some (.ref d), y2, y3, y4] ∧ Has H ((d, .dK (bK B)) :: (bO B ++ [(p2, .lst (us.map V.str))])) H' ∧ (bA B).map (·.1) = us.take t ∧ (∀ p ∈ bA B, p ∈ A) ∧ badK A 0 us = badK A t (us.drop t)) ⟨[], _, _, _, rfl, h2, rfl, (fun p h => by cases h), by rw [List.drop_zero]⟩ ?_ ?_ ?_
  · rintro t σ H' ⟨B, y2, y3, y4, rfl, h, _⟩
    exact h.get (List.mem_cons_of_mem _ (List.mem_append_right _ (List.Mem.head _)))
  · rintro t xx σ H4 T4 hx ⟨B, y2, y3, y4, rfl, h4, eB, sB, eb⟩ nT
    obtain ⟨z, hz, rfl⟩ := str_at hx
    have zm : z ∈ A.map (·.1) := pm.mem_iff.mp (List.mem_of_getElem? hz)
    obtain ⟨p, hp, rfl⟩ := List.mem_map.mp zm
    have pb := tb.ok p hp
    have gt := getT_of nd hp
    have h5 := h4.new (o := .tup [.int (t : Nat), .str p.1]) nT
    refine g_gtup (h5.get (List.Mem.head _)) rfl ?_
    walk_at "gg"
    have h4 := h5.drop
    generalize upd H4 T4 _ = H5 at h4
    have lt := (List.getElem?_eq_some_iff.mp hz).1
    have lB : B.length ≤ t := by
      have := congrArg List.length eB
      unfold bA at this
      rw [List.length_map, List.length_map, List.length_take] at this
      omega
    have nz : p.1 ∉ B.map (·.1) := by
      rw [← bA_keys, eB]
      intro m
      exact nd_new asc.nodup hz m
    rw [badK_drop hz, gt] at eb
    refine i_d (fun e => ?_) (fun e => ?_)
    · rw [if_pos (by omega)] at eb
      walk_at "gg"
      exact g_mk rfl (by decide) h4 (fun e H' n' h' => qe _ eb e H' h'.same (h4.same.free n') (h'.get (List.Mem.head _)))
    rw [if_neg (by omega)] at eb
    walk_at "gg"
    refine ⟨p.1, rfl, pb.1, fun H6 s6 => ?_⟩
    have h4 := h4.on s6
    walk_at "gg"
    cases hb : isPath p.1 with
    | false =>
      rw [hb, if_neg (by decide)] at eb
      walk_at "gg"
      exact g_mk rfl (by decide) h4 (fun e H' n' h' => qe _ eb e H' h'.same (h4.same.free n') (h'.get (List.Mem.head _)))
    | true =>
      rw [hb, if_pos rfl, Option.getD_some] at eb
      obtain ⟨l, vl, hl⟩ := tr_at ek (dq.up h4.same _ _) gt
      walk_at "gg"
      refine g_ixDS (h4.same _ _ ha) vl ?_
      walk_at "gg"
      refine ⟨l, p.2, rfl, hl, pb.2.2, pb.2.1, fun e p7 H7 s7 n7 h7 => ?_, fun k e => ?_⟩
      · rw [e] at eb
        have h7 := h4.made n7 s7 h7
        walk_at "gg"
        refine g_stD (k := .inr p.1) rfl h7 (.tl .hd) (szl (by unfold bK; rw [List.length_map]; omega)) (fun H8 h8 => ?_)
        rw [putK_new _ (bK_none nz)] at h8
        refine ⟨B ++ [(p.1, p7, p.2)], _, _, _, rfl, Has.bput h8, ?_, fun r hr => ?_, eb⟩
        · rw [bA_snoc, List.map_append, eB, List.take_add_one, hz]
          rfl
        · rw [bA_snoc] at hr
          rcases List.mem_append.mp hr with hr | hr
          · exact sB r hr
          · rw [List.mem_singleton.mp hr]
            exact hp
      · rw [e] at eb
        intro ex H7 s7 n7 h7
        have h7 := h4.made n7 s7 h7
        refine g_caught T.M_BadText_BadText (fun exn nxn => ?_)
        refine g_raiseF rfl T.O_BadText.exC ?_
        walk_at "gg"
        refine g_kxf T.XF_BadText T.N_BadText_place (h7.get (List.Mem.head _)) rfl ?_
        walk_at "gg"
        exact g_mk rfl (by decide) h7 (fun e H' n' h' => qe _ eb e H' h'.same (h7.same.free n') (h'.get (List.Mem.head _)))
  · rintro σ H4 ⟨B, y2, y3, y4, rfl, h4, eB, sB, eb⟩
    rw [List.length_map, List.take_length] at eB
    rw [badK_end _ _ _ (by rw [List.length_map]; omega)] at eb
    walk_at "gg"
    refine q eb d B H4 (h4.sub (List.Sublist.cons_cons _ (List.sublist_append_left _ _))) (by unfold AscT; rw [eB]; exact asc) fun p => ⟨sB p, fun hp => ?_⟩
    have m : p.1 ∈ (bA B).map (·.1) := by
      rw [eB]
      exact pm.mem_iff.mpr (List.mem_map.mpr ⟨p, hp, rfl⟩)
    obtain ⟨r, hr, e⟩ := List.mem_map.mp m
    have g1 := getT_of nd (sB r hr)
    rw [e, getT_of nd hp] at g1
    injection g1 with g1
    rw [show p = r from Prod.ext e.symm g1]
    exact hr
end

end K11

namespace K11
open PySem PySem.Spec PyProof.Rows L2 Qk
local macro_rules | `(tactic| walk_at "m") => `(tactic| ((repeat (first | exact List.Mem.head _ | apply List.Mem.tail)); done))
local macro_rules | `(tactic| walk_at "h") => `(tactic| first | assumption | exact Has.gF (by assumption) (by assumption) | exact Has.get (by assumption) (by walk_at "m"))
local macro_rules | `(tactic| walk_at "c") => `(tactic| ((repeat (first | exact Chg.hd | apply Chg.tl)); done))
local macro_rules | `(tactic| walk_at "is") => `(tactic| first
  | ((with_reducible refine' is2_non ?gh ?_); (case gh => walk_at "h"))
  | (with_reducible refine is_int_list ?_)
  | (with_reducible refine is_int_tuple ?_)
  | (with_reducible refine is_int_dict ?_)
  | (with_reducible refine is_int_int ?_)
  | (with_reducible refine is_int_bool ?_)
  | (with_reducible refine is_int_str ?_)
  | ((with_reducible refine' is2_int ?gh ?_); (case gh => walk_at "h"))
  | (with_reducible refine is_str_list ?_)
  | (with_reducible refine is_str_tuple ?_)
  | (with_reducible refine is_str_dict ?_)
  | (with_reducible refine is_str_int ?_)
  | (with_reducible refine is_str_bool ?_)
  | (with_reducible refine is_str_str ?_)
  | ((with_reducible refine' is2_str ?gh ?_); (case gh => walk_at "h"))
  | (with_reducible refine is_bool_list ?_)
  | (with_reducible refine is_bool_tuple ?_)
  | (with_reducible refine is_bool_dict ?_)
  | (with_reducible refine is_bool_int ?_)
  | (with_reducible refine is_bool_bool ?_)
  | (with_reducible refine is_bool_str ?_)
  | ((with_reducible refine' is2_bool ?gh ?_); (case gh => walk_at "h"))
  | ((with_reducible refine' is_list_list ?gh ?_); (case gh => walk_at "h"))
  | ((with_reducible refine' is_list_tuple ?gh ?_); (case gh => walk_at "h"))
  | ((with_reducible refine' is_list_dict ?gh ?_); (case gh => walk_at "h"))
  | ((with_reducible refine' is_list_int ?gh ?_); (case gh => walk_at "h"))
  | ((with_reducible refine' is_list_bool ?gh ?_); (case gh => walk_at "h"))
  | ((with_reducible refine' is_list_str ?gh ?_); (case gh => walk_at "h"))
  | ((with_reducible refine' is2_list ?ga ?gb ?_); (case ga => walk_at "h"); (case gb => walk_at "h"))
  | ((with_reducible refine' is_tuple_list ?gh ?_); (case gh => walk_at "h"))
  | ((with_reducible refine' is_tuple_tuple ?gh ?_); (case gh => walk_at "h"))
  | ((with_reducible refine' is_tuple_dict ?gh ?_); (case gh => walk_at "h"))
  | ((with_reducible refine' is_tuple_int ?gh ?_); (case gh => walk_at "h"))
  | ((with_reducible refine' is_tuple_bool ?gh ?_); (case gh => walk_at "h"))
  | ((with_reducible refine' is_tuple_str ?gh ?_); (case gh => walk_at "h"))
  | ((with_reducible refine' is2_tuple ?ga ?gb ?_); (case ga => walk_at "h"); (case gb => walk_at "h"))
  | ((with_reducible refine' is_dict_list ?gh ?_); (case gh => walk_at "h"))
  | ((with_reducible refine' is_dict_tuple ?gh ?_); (case gh => walk_at "h"))
  | ((with_reducible refine' is_dict_dict ?gh ?_); (case gh => walk_at "h"))
  | ((with_reducible refine' is_dict_int ?gh ?_); (case gh => walk_at "h"))
  | ((with_reducible refine' is_dict_bool ?gh ?_); (case gh => walk_at "h"))
  | ((with_reducible refine' is_dict_str ?gh ?_); (case gh => walk_at "h"))
  | ((with_reducible refine' is2_dict ?ga ?gb ?_); (case ga => walk_at "h"); (case gb => walk_at "h")))
local macro_rules | `(tactic| walk_at "g") => `(tactic| first
  | (with_reducible refine g_seq ?_)
  | (with_reducible refine g_asg ?_)
  | ((with_reducible refine g_name ?_); dsimp only [List.set, wipe, List.map])
  | ((with_reducible refine' g_var ?gv ?_); (case gv => exact rfl))
  | (with_reducible refine g_c ?_)
  | (with_reducible refine g_op ?_)
  | (with_reducible refine g_cons ?_)
  | (with_reducible refine g_nil ?_)
  | (with_reducible refine g_cb ?_)
  | (with_reducible refine g_call ?_)
  | (with_reducible refine g_tup ?_)
  | (with_reducible refine g_lst ?_)
  | (with_reducible refine g_bm ?_)
  | (with_reducible refine g_bm0 ?_)
  | ((with_reducible refine' g_kbm ?gh ?_); (case gh => walk_at "h"))
  | (with_reducible refine g_drop ?_)
  | (with_reducible refine g_ret ?_)
  | (with_reducible refine g_retN ?_)
  | (with_reducible refine g_next ?_)
  | (with_reducible refine g_brk ?_)
  | (with_reducible refine g_cont ?_)
  | (with_reducible refine g_if ?_)
  | ((with_reducible refine' g_aug ?gv ?_); (case gv => exact rfl))
  | (with_reducible refine g_ipI ?_)
  | (with_reducible refine g_test ?_)
  | (with_reducible refine g_tB ?_)
  | (with_reducible refine g_kB ?_)
  | (with_reducible refine g_not ?_)
  | (with_reducible refine g_and ?_)
  | (with_reducible refine g_or ?_)
  | (with_reducible refine g_andV ?_)
  | (with_reducible refine g_orV ?_)
  | (with_reducible refine g_notV ?_)
  | (with_reducible refine g_ifE ?_)
  | (with_reducible refine g_addI ?_)
  | (with_reducible refine g_rI0 ?_)
  | (with_reducible refine g_eqI ?_)
  | (with_reducible refine g_eqS ?_)
  | (with_reducible refine g_neI ?_)
  | (with_reducible refine g_neS ?_)
  | (with_reducible refine g_isN ?_)
  | (with_reducible refine g_notN ?_)
  | (with_reducible refine g_int ?_)
  | (with_reducible refine g_max2 ?_)
  | (with_reducible refine g_min2 ?_)
  | ((with_reducible refine' g_lenL ?gh ?_); (case gh => walk_at "h"))
  | (with_reducible refine g_sub ?_)
  | (with_reducible refine g_gcons ?_)
  | (with_reducible refine g_gnil ?_)
  | (with_reducible refine g_un ?_)
  | (with_reducible refine g_rU ?_)
  | (with_reducible refine g_forL ?_)
  | (with_reducible refine g_forS ?_)
  | (with_reducible refine g_forR1 ?_)
  | (with_reducible refine g_forR2 ?_)
  | (with_reducible refine g_forR3 ?_)
  | (with_reducible refine g_lcL ?_)
  | (with_reducible refine g_lcR1 ?_)
  | (with_reducible refine g_lcR2 ?_)
  | (with_reducible refine g_slice ?_)
  | (with_reducible refine g_part ?_)
  | (with_reducible refine g_kOI ?_)
  | (with_reducible refine g_nopart ?_)
  | (with_reducible refine g_yes ?_)
  | ((with_reducible refine' g_wipe ?gv ?_); (case gv => exact rfl))
  | (with_reducible refine iteT ?_)
  | (with_reducible refine iteF ?_)
  | (with_reducible refine i_nf ?_)
  | (with_reducible refine i_nt ?_)
  | ((with_reducible refine' g_gtup ?gh ?gl ?_); (case gh => walk_at "h"); (case gl => exact rfl))
  | ((with_reducible refine' g_notinI ?gh ?_); (case gh => walk_at "h"))
  | ((with_reducible refine' g_inI ?gh ?_); (case gh => walk_at "h"))
  | ((with_reducible refine' g_kget2 ?gh ?_); (case gh => walk_at "h"))
  | ((with_reducible refine' g_kgotI ?gh ?_); (case gh => walk_at "h"))
  | (with_reducible refine g_tRev ?_)
  | (with_reducible refine g_neB ?_)
  | (with_reducible refine g_eqB ?_)
  | ((with_reducible refine' g_lenT ?gh ?_); (case gh => walk_at "h"))
  | (with_reducible refine g_star ?_)
  | ((with_reducible refine' g_kstarL ?gh ?_); (case gh => walk_at "h"))
  | ((with_reducible refine' g_kstarT ?gh ?_); (case gh => walk_at "h"))
  | (with_reducible refine g_tru ?_)
  | ((with_reducible refine' g_truL ?gh ?_); (case gh => walk_at "h"))
  | (with_reducible refine g_get2 ?_)
  | (with_reducible refine g_try ?_)
  | (with_reducible refine g_fld ?_)
  | (with_reducible refine g_sfld ?_)
  | (with_reducible refine g_meth ?_)
  | (with_reducible refine g_make ?_)
  | (with_reducible refine g_del ?_)
  | (with_reducible refine g_callS ?_)
  | (with_reducible refine g_raise ?_)
  | (with_reducible refine g_xf ?_)
  | (with_reducible refine g_m0 ?_)
  | (with_reducible refine g_km0 ?_)
  | walk_at "is")
local macro_rules | `(tactic| walk_at "gg") => `(tactic| repeat walk_at "g")
local macro_rules | `(tactic| walk_at "sz") => `(tactic| (refine sz ?_; simp only [List.length_cons, List.length_nil, List.length_map, List.length_append, List.length_replicate]; omega))
local macro_rules | `(tactic| walk_at "sub") => `(tactic| ((repeat (first | exact List.Sublist.slnil | with_reducible apply List.Sublist.cons_cons | with_reducible apply List.Sublist.cons)); done))

local macro_rules | `(tactic| walk_at "g") => `(tactic| (with_reducible refine g_forE ?_))

local macro_rules | `(tactic| walk_at "g") => `(tactic| first
  | (with_reducible refine g_dcL ?_)
  | (with_reducible refine g_dcT ?_)
  | (with_reducible refine g_m1s ?_)
  | (with_reducible refine g_km1s ?_)
  | (with_reducible refine g_starts ?_)
  | (with_reducible refine g_tryX ?_)
  | (with_reducible refine g_lcS ?_))

/-! ### files of a tree -/
def fD (p : Str × Tx) : PyData := .tuple [.str p.1, .tuple (p.2.map PyData.str)]
theorem fD_inv {F : Hp} {v : V} {p : Str × Tx} (h : Dq F v (fD p)) : ∃ T l, v = .ref T ∧ F T = some (.tup [.str p.1, .ref l]) ∧ F l = some (.tup (p.2.map V.str)) := by
  cases h with
  | tup hT hs =>
    cases hs with
    | cons h1 hs =>
      cases hs with
      | cons h2 hs =>
        cases hs
        cases h1
        cases h2 with
        | tup h3 h4 =>
          rw [DqAll.of_strs h4] at h3
          exact ⟨_, _, rfl, hT, h3⟩
theorem fD_dq {F : Hp} {T l : Addr} {z : Str} {t : Tx} (h1 : F T = some (.tup [.str z, .ref l])) (h2 : F l = some (.tup (t.map V.str))) : Dq F (.ref T) (fD (z, t)) :=
  .tup h1 (.cons (.str z) (.cons (.tup h2 (DqAll.strs t)) .nil))
/-- the tree in ascending order -/
def AscOf (A B : Tr) : Prop := AscT B ∧ ∀ p, p ∈ B ↔ p ∈ A
section
variable {P : Program} {w : World} {K : PySem.W.Frag} {mg : Str → Option Value} {base : Heap}
def sp_files_of (K : PySem.W.Frag) : Sp := fun vs H Q _ => ∃ (a : Addr) (A : Tr), vs = [.ref a] ∧ TrAt H a A ∧ A.length ≤ 60 ∧
  ∀ p H' ws (B : Tr), Same H H' → H' p = some (.tup ws) → DqAll H' ws (B.map fD) → AscOf A B → Q (.ref p) H'
theorem sp_files_of_len {vs H Q E} (h : sp_files_of K vs H Q E) : vs.length = 1 := by
  obtain ⟨_, _, rfl, _⟩ := h
  rfl
theorem ok_files_of (T : Txt K mg) : FnOk P w K mg base CX0 1 T.f_files_of T.fd_files_of ["tree"] (sp_files_of K) := by
  refine T.F_files_of.ok sc_files_of (fun vs H Q E h => sp_files_of_len h) (fun cdv A outer s H vs Q E hr h => ?_)
  refine ⟨_, (pss_one (ps_ret (pe_callTy (cr_tupleK K) (by rfl) T.m_tuple (by decide +kernel) (pa_cons (pe_lc (own := [("path", 1)]) (g := gName 1) (tt := tYes) rfl sc_files_of.nd (k_il K (pi_list (pe_callB (cr_sortA K rfl) (by rfl) T.m_sorted (by decide +kernel) (pa_cons (pv 0) pa_nil)))) (blkOk_by (N := n_files_of) (sc := defScope s_files_of) (by decide +kernel)) (fun _ _ _ _ _ => (pg_name (i := 1) sc_files_of.nd rfl (.inl rfl))) (fun _ _ _ _ _ => pts_nil) (fun _ _ _ _ _ => (pe_tup (pa_cons (pv 1) (pa_cons (pe_callTy (cr_tupleK K) (by rfl) T.m_tuple (by decide +kernel) (pa_cons (pe_ix (ix_K K (hu_of hr)) (pv 0) (pv 1) (fun _ _ => rfl)) pa_nil)) pa_nil))))) pa_nil)))), ?_⟩
  obtain ⟨a, A, rfl, ⟨kvs, ha, ek, nd, dq⟩, few, q⟩ := h
  have hH := Has.start H
  refine g_start (σ' := [some (.ref a), none]) rfl ?_
  walk_at "gg"
  refine g_sortDS ha (by rw [ek, List.map_map]; rfl) (ks := A.map (·.1)) (by rw [List.length_map]; omega) hH (fun us p2 H2 pm srt n2 h2 => ?_)
  have asc := asc_of srt (pm.nodup_iff.mpr nd)
  have lu := pm.length_eq
  rw [List.length_map] at lu
  refine k_lcL (h2.get (List.Mem.head _)) h2 (fun i acc F' O' => ∃ B : Tr, DqAll F' acc (B.map fD) ∧ B.map (·.1) = us.take i ∧ (∀ r ∈ B, r ∈ A) ∧ Same H F' ∧ O' = [(p2, .lst (us.map V.str))]) ⟨[], .nil, rfl, (fun r h => by cases h), Same.refl _, rfl⟩ ?_ ?_ ?_
  · rintro i acc F' O' H3 ⟨B, _, _, _, _, rfl⟩ hh
    exact hh.get (List.Mem.head _)
  · rintro i xx acc F' O' D H3 hx ⟨B, dqB, eB, sB, sF, rfl⟩ hh
    obtain ⟨z, hz, rfl⟩ := str_at hx
    have zm : z ∈ A.map (·.1) := pm.mem_iff.mp (List.mem_of_getElem? hz)
    obtain ⟨r, hr_, rfl⟩ := List.mem_map.mp zm
    have sH := sF.trans hh.same
    obtain ⟨l, vl, hl⟩ := tr_at ek (dq.up sH _ _) (getT_of nd hr_)
    have la : acc.length = i := by
      have h1 := dqB.len
      have h2 := congrArg List.length eB
      have lt := (List.getElem?_eq_some_iff.mp hz).1
      rw [List.length_map] at h1
      rw [List.length_map, List.length_take] at h2
      omega
    have lt := (List.getElem?_eq_some_iff.mp hz).1
    walk_at "gg"
    refine g_ixDS (sH _ _ ha) vl ?_
    walk_at "gg"
    refine g_tupleL hl hh (fun p4 H4 F4 n4 s4 f4 h4 => ?_)
    walk_at "gg"
    refine g_ktupF (by walk_at "sz") h4 (fun p5 H5 F5 n5 s5 f5 h5 => ?_)
    refine k_turn h5 (by omega) ⟨B ++ [r], ?_, ?_, fun r' hr' => ?_, (sF.trans s4).trans s5, rfl⟩
    · rw [List.map_append]
      exact (dqB.up (s4.trans s5) _ _).snoc (fD_dq f5 (s5 _ _ f4))
    · rw [List.map_append, eB, List.take_add_one, hz]
      rfl
    · rcases List.mem_append.mp hr' with h | h
      · exact sB r' h
      · rw [List.mem_singleton.mp h]
        exact hr_
  rintro acc F' O' p6 H6 ⟨B, dqB, eB, sB, sF, rfl⟩ h6
  rw [List.length_map, List.take_length] at eB
  refine g_tupleL (h6.get (List.Mem.head _)) h6 (fun p7 H7 F7 n7 s7 f7 h7 => ?_)
  refine q p7 H7 acc B ((sF.trans s7).trans h7.same) (h7.same _ _ f7) (dqB.up (s7.trans h7.same) _ _) ⟨by unfold AscT; rw [eB]; exact asc, fun p => ⟨sB p, fun hp => ?_⟩⟩
  have m : p.1 ∈ B.map (·.1) := by
    rw [eB]
    exact pm.mem_iff.mpr (List.mem_map.mpr ⟨p, hp, rfl⟩)
  obtain ⟨r, hr, e⟩ := List.mem_map.mp m
  have g1 := getT_of nd (sB r hr)
  rw [e, getT_of nd hp] at g1
  injection g1 with g1
  rw [show p = r from Prod.ext e.symm g1]
  exact hr
def sp_tree_of (K : PySem.W.Frag) : Sp := fun vs H Q _ => ∃ (a : Addr) (ws : List V) (B : Tr), vs = [.ref a] ∧ H a = some (.tup ws) ∧ DqAll H ws (B.map fD) ∧ (B.map (·.1)).Nodup ∧ B.length ≤ 1000 ∧ ∀ d (C : Bt) H', Has H ((d, .dK (bK C)) :: bO C) H' → bA C = B → Q (.ref d) H'
theorem sp_tree_of_len {vs H Q E} (h : sp_tree_of K vs H Q E) : vs.length = 1 := by
  obtain ⟨_, _, _, rfl, _⟩ := h
  rfl
theorem ok_tree_of (T : Txt K mg) : FnOk P w K mg base CX0 1 T.f_tree_of T.fd_tree_of ["files"] (sp_tree_of K) := by
  refine T.F_tree_of.ok sc_tree_of (fun vs H Q E h => sp_tree_of_len h) (fun cdv A outer s H vs Q E hr h => ?_)
  refine ⟨_, (pss_one (ps_ret (pe_dc (own := [("path", 1), ("lines", 2)]) (g := gTup K 2 (gCons (gName 1) (gCons (gName 2) gNil))) (tt := tYes) rfl sc_tree_of.nd (k_it K (pi_tup (pv 0))) (blkOk_by (N := n_tree_of) (sc := defScope s_tree_of) (by decide +kernel)) (fun _ _ _ _ _ => (k_gt K (pg_tup (by rfl) (pgs_cons (pg_name (i := 1) sc_tree_of.nd rfl (.inl rfl)) (pgs_cons (pg_name (i := 2) sc_tree_of.nd rfl (.inl rfl)) pgs_nil))))) (fun _ _ _ _ _ => pts_nil) (fun _ _ _ _ _ => (pv 1)) (fun _ _ _ _ _ => (pe_callTy (cr_listK K) (by rfl) T.m_list (by decide +kernel) (pa_cons (pv 2) pa_nil)))))), ?_⟩
  obtain ⟨a, ws, B, rfl, ha, dq, nd, few, q⟩ := h
  have hH := Has.start H
  refine g_start (σ' := [some (.ref a), none, none]) rfl ?_
  walk_at "gg"
  refine k_dcT ha hH (fun i acc F' O' => ∃ C : Bt, acc = bK C ∧ bA C = B.take i ∧ H = F' ∧ O' = bO C) ⟨[], rfl, rfl, rfl, rfl⟩ ?_ ?_ ?_
  · rintro i acc F' O' H3 ⟨C, rfl, _, rfl, rfl⟩ hh
    exact hh.same _ _ ha
  · rintro i xx acc F' O' D H3 hx ⟨C, rfl, eC, rfl, rfl⟩ hh
    obtain ⟨dd, ed, dqx⟩ := dq.get hx
    rw [List.getElem?_map] at ed
    obtain ⟨r, er, rfl⟩ := Option.map_eq_some_iff.mp ed
    obtain ⟨T1, l, rfl, hT, hl⟩ := fD_inv dqx
    have lC : C.length ≤ i := by
      have := congrArg List.length eC
      unfold bA at this
      rw [List.length_map, List.length_take] at this
      omega
    have lt := (List.getElem?_eq_some_iff.mp er).1
    refine g_gtup (hh.same _ _ hT) rfl ?_
    walk_at "gg"
    refine g_listT (hh.same _ _ hl) hh (fun p5 H5 n5 h5 => ?_)
    have nz : r.1 ∉ C.map (·.1) := by
      rw [← bA_keys, eC, List.map_take]
      exact nd_new nd (by rw [List.getElem?_map, er]; rfl)
    have h6 : Has H ((D, .dK (bK C)) :: bO (C ++ [(r.1, p5, r.2)])) H5 := by
      rw [bO_snoc]
      exact h5.perm (List.perm_append_singleton (p5, HO.lst (r.2.map V.str)) ((D, HO.dK (bK C)) :: bO C))
    refine kd_turn (k := .inr r.1) rfl h6 (by unfold bK; rw [List.length_map]; omega) ⟨C ++ [(r.1, p5, r.2)], ?_, ?_, rfl, rfl⟩
    · rw [putK_new _ (bK_none nz), bK_snoc]
      rfl
    · rw [bA_snoc, eC, List.take_add_one, er]
      rfl
  rintro acc F' O' D H3 ⟨C, rfl, eC, rfl, rfl⟩ hh
  have lw := dq.len
  rw [List.length_map] at lw
  rw [lw, List.take_length] at eC
  exact q D C H3 hh eC
end

end K11

namespace K11
open PySem PySem.Spec PyProof.Rows L2 Qk
local macro_rules | `(tactic| walk_at "m") => `(tactic| ((repeat (first | exact List.Mem.head _ | apply List.Mem.tail)); done))
local macro_rules | `(tactic| walk_at "h") => `(tactic| first | assumption | exact Has.gF (by assumption) (by assumption) | exact Has.get (by assumption) (by walk_at "m"))
local macro_rules | `(tactic| walk_at "c") => `(tactic| ((repeat (first | exact Chg.hd | apply Chg.tl)); done))
local macro_rules | `(tactic| walk_at "is") => `(tactic| first
  | ((with_reducible refine' is2_non ?gh ?_); (case gh => walk_at "h"))
  | (with_reducible refine is_int_list ?_)
  | (with_reducible refine is_int_tuple ?_)
  | (with_reducible refine is_int_dict ?_)
  | (with_reducible refine is_int_int ?_)
  | (with_reducible refine is_int_bool ?_)
  | (with_reducible refine is_int_str ?_)
  | ((with_reducible refine' is2_int ?gh ?_); (case gh => walk_at "h"))
  | (with_reducible refine is_str_list ?_)
  | (with_reducible refine is_str_tuple ?_)
  | (with_reducible refine is_str_dict ?_)
  | (with_reducible refine is_str_int ?_)
  | (with_reducible refine is_str_bool ?_)
  | (with_reducible refine is_str_str ?_)
  | ((with_reducible refine' is2_str ?gh ?_); (case gh => walk_at "h"))
  | (with_reducible refine is_bool_list ?_)
  | (with_reducible refine is_bool_tuple ?_)
  | (with_reducible refine is_bool_dict ?_)
  | (with_reducible refine is_bool_int ?_)
  | (with_reducible refine is_bool_bool ?_)
  | (with_reducible refine is_bool_str ?_)
  | ((with_reducible refine' is2_bool ?gh ?_); (case gh => walk_at "h"))
  | ((with_reducible refine' is_list_list ?gh ?_); (case gh => walk_at "h"))
  | ((with_reducible refine' is_list_tuple ?gh ?_); (case gh => walk_at "h"))
  | ((with_reducible refine' is_list_dict ?gh ?_); (case gh => walk_at "h"))
  | ((with_reducible refine' is_list_int ?gh ?_); (case gh => walk_at "h"))
  | ((with_reducible refine' is_list_bool ?gh ?_); (case gh => walk_at "h"))
  | ((with_reducible refine' is_list_str ?gh ?_); (case gh => walk_at "h"))
  | ((with_reducible refine' is2_list ?ga ?gb ?_); (case ga => walk_at "h"); (case gb => walk_at "h"))
  | ((with_reducible refine' is_tuple_list ?gh ?_); (case gh => walk_at "h"))
  | ((with_reducible refine' is_tuple_tuple ?gh ?_); (case gh => walk_at "h"))
  | ((with_reducible refine' is_tuple_dict ?gh ?_); (case gh => walk_at "h"))
  | ((with_reducible refine' is_tuple_int ?gh ?_); (case gh => walk_at "h"))
  | ((with_reducible refine' is_tuple_bool ?gh ?_); (case gh => walk_at "h"))
  | ((with_reducible refine' is_tuple_str ?gh ?_); (case gh => walk_at "h"))
  | ((with_reducible refine' is2_tuple ?ga ?gb ?_); (case ga => walk_at "h"); (case gb => walk_at "h"))
  | ((with_reducible refine' is_dict_list ?gh ?_); (case gh => walk_at "h"))
  | ((with_reducible refine' is_dict_tuple ?gh ?_); (case gh => walk_at "h"))
  | ((with_reducible refine' is_dict_dict ?gh ?_); (case gh => walk_at "h"))
  | ((with_reducible refine' is_dict_int ?gh ?_); (case gh => walk_at "h"))
  | ((with_reducible refine' is_dict_bool ?gh ?_); (case gh => walk_at "h"))
  | ((with_reducible refine' is_dict_str ?gh ?_); (case gh => walk_at "h"))
  | ((with_reducible refine' is2_dict ?ga ?gb ?_); (case ga => walk_at "h"); (case gb => walk_at "h")))
local macro_rules | `(tactic| walk_at "g") => `(tactic| first
  | (with_reducible refine g_seq ?_)
  | (with_reducible refine g_asg ?_)
  | ((with_reducible refine g_name ?_); dsimp only [List.set, wipe, List.map])
  | ((with_reducible refine' g_var ?gv ?_); (case gv => exact rfl))
  | (with_reducible refine g_c ?_)
  | (with_reducible refine g_op ?_)
  | (with_reducible refine g_cons ?_)
  | (with_reducible refine g_nil ?_)
  | (with_reducible refine g_cb ?_)
  | (with_reducible refine g_call ?_)
  | (with_reducible refine g_tup ?_)
  | (with_reducible refine g_lst ?_)
  | (with_reducible refine g_bm ?_)
  | (with_reducible refine g_bm0 ?_)
  | ((with_reducible refine' g_kbm ?gh ?_); (case gh => walk_at "h"))
  | (with_reducible refine g_drop ?_)
  | (with_reducible refine g_ret ?_)
  | (with_reducible refine g_retN ?_)
  | (with_reducible refine g_next ?_)
  | (with_reducible refine g_brk ?_)
  | (with_reducible refine g_cont ?_)
  | (with_reducible refine g_if ?_)
  | ((with_reducible refine' g_aug ?gv ?_); (case gv => exact rfl))
  | (with_reducible refine g_ipI ?_)
  | (with_reducible refine g_test ?_)
  | (with_reducible refine g_tB ?_)
  | (with_reducible refine g_kB ?_)
  | (with_reducible refine g_not ?_)
  | (with_reducible refine g_and ?_)
  | (with_reducible refine g_or ?_)
  | (with_reducible refine g_andV ?_)
  | (with_reducible refine g_orV ?_)
  | (with_reducible refine g_notV ?_)
  | (with_reducible refine g_ifE ?_)
  | (with_reducible refine g_addI ?_)
  | (with_reducible refine g_rI0 ?_)
  | (with_reducible refine g_eqI ?_)
  | (with_reducible refine g_eqS ?_)
  | (with_reducible refine g_neI ?_)
  | (with_reducible refine g_neS ?_)
  | (with_reducible refine g_isN ?_)
  | (with_reducible refine g_notN ?_)
  | (with_reducible refine g_int ?_)
  | (with_reducible refine g_max2 ?_)
  | (with_reducible refine g_min2 ?_)
  | ((with_reducible refine' g_lenL ?gh ?_); (case gh => walk_at "h"))
  | (with_reducible refine g_sub ?_)
  | (with_reducible refine g_gcons ?_)
  | (with_reducible refine g_gnil ?_)
  | (with_reducible refine g_un ?_)
  | (with_reducible refine g_rU ?_)
  | (with_reducible refine g_forL ?_)
  | (with_reducible refine g_forS ?_)
  | (with_reducible refine g_forR1 ?_)
  | (with_reducible refine g_forR2 ?_)
  | (with_reducible refine g_forR3 ?_)
  | (with_reducible refine g_lcL ?_)
  | (with_reducible refine g_lcR1 ?_)
  | (with_reducible refine g_lcR2 ?_)
  | (with_reducible refine g_slice ?_)
  | (with_reducible refine g_part ?_)
  | (with_reducible refine g_kOI ?_)
  | (with_reducible refine g_nopart ?_)
  | (with_reducible refine g_yes ?_)
  | ((with_reducible refine' g_wipe ?gv ?_); (case gv => exact rfl))
  | (with_reducible refine iteT ?_)
  | (with_reducible refine iteF ?_)
  | (with_reducible refine i_nf ?_)
  | (with_reducible refine i_nt ?_)
  | ((with_reducible refine' g_gtup ?gh ?gl ?_); (case gh => walk_at "h"); (case gl => exact rfl))
  | ((with_reducible refine' g_notinI ?gh ?_); (case gh => walk_at "h"))
  | ((with_reducible refine' g_inI ?gh ?_); (case gh => walk_at "h"))
  | ((with_reducible refine' g_kget2 ?gh ?_); (case gh => walk_at "h"))
  | ((with_reducible refine' g_kgotI ?gh ?_); (case gh => walk_at "h"))
  | (with_reducible refine g_tRev ?_)
  | (with_reducible refine g_neB ?_)
  | (with_reducible refine g_eqB ?_)
  | ((with_reducible refine' g_lenT ?gh ?_); (case gh => walk_at "h"))
  | (with_reducible refine g_star ?_)
  | ((with_reducible refine' g_kstarL ?gh ?_); (case gh => walk_at "h"))
  | ((with_reducible refine' g_kstarT ?gh ?_); (case gh => walk_at "h"))
  | (with_reducible refine g_tru ?_)
  | ((with_reducible refine' g_truL ?gh ?_); (case gh => walk_at "h"))
  | (with_reducible refine g_get2 ?_)
  | (with_reducible refine g_try ?_)
  | (with_reducible refine g_fld ?_)
  | (with_reducible refine g_sfld ?_)
  | (with_reducible refine g_meth ?_)
  | (with_reducible refine g_make ?_)
  | (with_reducible refine g_del ?_)
  | (with_reducible refine g_callS ?_)
  | (with_reducible refine g_raise ?_)
  | (with_reducible refine g_xf ?_)
  | (with_reducible refine g_m0 ?_)
  | (with_reducible refine g_km0 ?_)
  | walk_at "is")
local macro_rules | `(tactic| walk_at "gg") => `(tactic| repeat walk_at "g")
local macro_rules | `(tactic| walk_at "sz") => `(tactic| (refine sz ?_; simp only [List.length_cons, List.length_nil, List.length_map, List.length_append, List.length_replicate]; omega))
local macro_rules | `(tactic| walk_at "sub") => `(tactic| ((repeat (first | exact List.Sublist.slnil | with_reducible apply List.Sublist.cons_cons | with_reducible apply List.Sublist.cons)); done))

/-! ### _law_same, trees among the data -/
/-- what _law_same finds the same, n deep -/
def Sm (H : Hp) : Nat → V → V → Prop
  | 0, _, _ => False
  | n + 1, x, y => (x = .non ∧ y = .non) ∨ (∃ b : Bool, x = .bl b ∧ y = .bl b) ∨ (∃ i : Int, x = .int i ∧ y = .int i) ∨ (∃ z : Str, x = .str z ∧ y = .str z) ∨
    (∃ (a b : Addr) (xs ys : List V), x = .ref a ∧ y = .ref b ∧ ((H a = some (.lst xs) ∧ H b = some (.lst ys)) ∨ (H a = some (.tup xs) ∧ H b = some (.tup ys))) ∧ xs.length = ys.length ∧ xs.length ≤ 100000 ∧ ∀ (i : Nat) (u v : V), xs[i]? = some u → ys[i]? = some v → Sm H n u v) ∨
    (∃ (a b : Addr) (A : Tr), x = .ref a ∧ y = .ref b ∧ TrAt H a A ∧ TrAt H b A ∧ 2 ≤ n ∧ A.length ≤ 1000 ∧ ∀ p ∈ A, p.2.length ≤ 1000)
theorem Sm.up {H H' : Hp} (s : Same H H') : ∀ {n : Nat} {x y : V}, Sm H n x y → Sm H' n x y
  | 0, _, _, h => h.elim
  | n + 1, _, _, h => by
    rcases h with h | h | h | h | ⟨a, b, xs, ys, e1, e2, h1, l1, l2, h2⟩ | ⟨a, b, A, e1, e2, t1, t2, r⟩
    · exact .inl h
    · exact .inr (.inl h)
    · exact .inr (.inr (.inl h))
    · exact .inr (.inr (.inr (.inl h)))
    · refine .inr (.inr (.inr (.inr (.inl ⟨a, b, xs, ys, e1, e2, ?_, l1, l2, fun i u v hu hv => (h2 i u v hu hv).up s⟩))))
      rcases h1 with h1 | h1
      · exact .inl ⟨s _ _ h1.1, s _ _ h1.2⟩
      · exact .inr ⟨s _ _ h1.1, s _ _ h1.2⟩
    · exact .inr (.inr (.inr (.inr (.inr ⟨a, b, A, e1, e2, t1.up s, t2.up s, r⟩))))
theorem Sm.strs {H : Hp} {n : Nat} {a b : Addr} {xs : List Str} (ha : H a = some (.lst (xs.map V.str))) (hb : H b = some (.lst (xs.map V.str))) (l : xs.length ≤ 100000) : Sm H (n + 2) (.ref a) (.ref b) := by
  refine .inr (.inr (.inr (.inr (.inl ⟨a, b, _, _, rfl, rfl, .inl ⟨ha, hb⟩, rfl, by rw [List.length_map]; exact l, fun i u v hu hv => ?_⟩))))
  rw [hu] at hv
  injection hv with hv
  subst hv
  rw [List.getElem?_map] at hu
  obtain ⟨z, _, rfl⟩ := Option.map_eq_some_iff.mp hu
  exact .inr (.inr (.inr (.inl ⟨z, rfl, rfl⟩)))
theorem Sm.bl {H : Hp} {n : Nat} {b : Bool} : Sm H (n + 1) (.bl b) (.bl b) := .inr (.inl ⟨b, rfl, rfl⟩)
theorem Sm.str {H : Hp} {n : Nat} {z : Str} : Sm H (n + 1) (.str z) (.str z) := .inr (.inr (.inr (.inl ⟨z, rfl, rfl⟩)))
theorem Sm.non {H : Hp} {n : Nat} : Sm H (n + 1) .non .non := .inl ⟨rfl, rfl⟩
theorem Sm.int {H : Hp} {n : Nat} {i : Int} : Sm H (n + 1) (.int i) (.int i) := .inr (.inr (.inl ⟨i, rfl, rfl⟩))
theorem Sm.tree {H : Hp} {n : Nat} {a b : Addr} {A : Tr} (h1 : TrAt H a A) (h2 : TrAt H b A) (l : A.length ≤ 1000) (lt : ∀ p ∈ A, p.2.length ≤ 1000) : Sm H (n + 3) (.ref a) (.ref b) := .inr (.inr (.inr (.inr (.inr ⟨a, b, A, rfl, rfl, h1, h2, by omega, l, lt⟩))))
section
variable {P : Program} {w : World} {K : PySem.W.Frag} {mg : Str → Option Value} {base : Heap}
def sp_l_same_n (K : PySem.W.Frag) (n : Nat) : Sp := fun vs H Q _ => ∃ (x y : V), vs = [x, y] ∧ Sm H n x y ∧ ∀ H', Same H H' → Q (.bl true) H'
theorem sp_l_same_n_len {n vs H Q E} (h : sp_l_same_n K n vs H Q E) : vs.length = 2 := by
  obtain ⟨_, _, rfl, _⟩ := h
  rfl
set_option maxHeartbeats 1000000 in
theorem ok_l_same_n (T : Txt K mg) (n : Nat) : FnOk P w K mg base CX0 n T.f_l_same T.fd_l_same ["told", "due"] (sp_l_same_n K n) := by
  induction n with
  | zero =>
    refine ⟨fun _ _ _ _ h => sp_l_same_n_len h, fun _ _ _ _ _ _ _ _ _ _ _ _ _ h => ?_⟩
    obtain ⟨_, _, _, h, _⟩ := h
    exact h.elim
  | succ n GR =>
  refine T.F_l_same.ok sc_l_same (fun vs H Q E h => sp_l_same_n_len h) (fun cdv A outer s H vs Q E hr h => ?_)
  refine ⟨_, (pss_cons (ps_if (pt_val (pe_callB (cr_isK K) (by rfl) T.m_isinstance (by decide +kernel) (pa_cons (pv 1) (pa_cons (pe_tup (pa_cons (pe_bltn (v := .ty "list") (by rfl) T.m_list (by decide +kernel) rfl) (pa_cons (pe_bltn (v := .ty "tuple") (by rfl) T.m_tuple (by decide +kernel) rfl) pa_nil))) pa_nil)))) (pss_cons (ps_if (pt_cmpR (op_neK K hr.units) (pe_callB (cr_isK K) (by rfl) T.m_isinstance (by decide +kernel) (pa_cons (pv 0) (pa_cons (pe_bltn (v := .ty "list") (by rfl) T.m_list (by decide +kernel) rfl) pa_nil))) (pe_callB (cr_isK K) (by rfl) T.m_isinstance (by decide +kernel) (pa_cons (pv 1) (pa_cons (pe_bltn (v := .ty "list") (by rfl) T.m_list (by decide +kernel) rfl) pa_nil))) (nomark _)) (pss_one (ps_ret pe_bl)) pss_nil)
      (pss_cons (ps_if (PW.pt (pw_or (pt_cmpR (op_neK K hr.units) (pe_callB (cr_isK K) (by rfl) T.m_isinstance (by decide +kernel) (pa_cons (pv 0) (pa_cons (pe_bltn (v := .ty "tuple") (by rfl) T.m_tuple (by decide +kernel) rfl) pa_nil))) (pe_callB (cr_isK K) (by rfl) T.m_isinstance (by decide +kernel) (pa_cons (pv 1) (pa_cons (pe_bltn (v := .ty "tuple") (by rfl) T.m_tuple (by decide +kernel) rfl) pa_nil))) (nomark _)) (pw_or1 (pt_cmpR (op_neK K hr.units) (pe_callB (cr_lenK K) (by rfl) T.m_len (by decide +kernel) (pa_cons (pv 0) pa_nil)) (pe_callB (cr_lenK K) (by rfl) T.m_len (by decide +kernel) (pa_cons (pv 1) pa_nil)) (nomark _))))) (pss_one (ps_ret pe_bl)) pss_nil)
      (pss_cons (ps_for PassesOwn.never rfl (pi_range1 rfl T.m_range (pa_cons (pe_callB (cr_lenK K) (by rfl) T.m_len (by decide +kernel) (pa_cons (pv 1) pa_nil)) pa_nil)) (pg_name (i := 2) sc_l_same.nd rfl (.inl rfl)) (pss_one (ps_if (pt_not (pt_val (pe_call GR hr (by rfl) T.g_l_same T.F_l_same.kp T.b_l_same .nil pass0 (pa_cons (pe_ix (ix_K K (hu_of hr)) (pv 0) (pv 2) (fun _ _ => rfl)) (pa_cons (pe_ix (ix_K K (hu_of hr)) (pv 1) (pv 2) (fun _ _ => rfl)) pa_nil))))) (pss_one (ps_ret pe_bl)) pss_nil)))
      (pss_one (ps_ret pe_bl))))) pss_nil)
      (pss_cons (ps_if (pt_val (pe_callB (cr_isK K) (by rfl) T.m_isinstance (by decide +kernel) (pa_cons (pv 1) (pa_cons (pe_bltn (v := .ty "dict") (by rfl) T.m_dict (by decide +kernel) rfl) pa_nil)))) (pss_cons (ps_if (PW.pt (pw_or (pt_not (pt_val (pe_callB (cr_isK K) (by rfl) T.m_isinstance (by decide +kernel) (pa_cons (pv 0) (pa_cons (pe_bltn (v := .ty "dict") (by rfl) T.m_dict (by decide +kernel) rfl) pa_nil))))) (pw_or1 (pt_not (pt_val (pe_call GR hr (by rfl) T.g_l_same T.F_l_same.kp T.b_l_same .nil pass0 (pa_cons (pe_callTy (cr_listD rfl) (by rfl) T.m_list (by decide +kernel) (pa_cons (pv 0) pa_nil)) (pa_cons (pe_callTy (cr_listD rfl) (by rfl) T.m_list (by decide +kernel) (pa_cons (pv 1) pa_nil)) pa_nil)))))))) (pss_one (ps_ret pe_bl)) pss_nil)
      (pss_cons (ps_lock (ps_for PassesOwn.never rfl (pi_keys (pv 1)) (pg_name (i := 3) sc_l_same.nd rfl (.inl rfl)) (pss_one (ps_if (pt_not (pt_val (pe_call GR hr (by rfl) T.g_l_same T.F_l_same.kp T.b_l_same .nil pass0 (pa_cons (pe_ix (ix_K K (hu_of hr)) (pv 0) (pv 3) (fun _ _ => rfl)) (pa_cons (pe_ix (ix_K K (hu_of hr)) (pv 1) (pv 3) (fun _ _ => rfl)) pa_nil))))) (pss_one (ps_ret pe_bl)) pss_nil))))
      (pss_one (ps_ret pe_bl)))) pss_nil)
      (pss_cons (ps_if (pt_cmpR op_isNA (pv 1) pe_non (nomark _)) (pss_one (ps_ret (pe_cmpR op_isNA (pv 0) pe_non (nomark _)))) pss_nil)
      (pss_cons (ps_if (pt_val (pe_callB (cr_isK K) (by rfl) T.m_isinstance (by decide +kernel) (pa_cons (pv 1) (pa_cons (pe_bltn (v := .ty "bool") (by rfl) T.m_bool (by decide +kernel) rfl) pa_nil)))) (pss_one (ps_ret (pe_and (pe_callB (cr_isK K) (by rfl) T.m_isinstance (by decide +kernel) (pa_cons (pv 0) (pa_cons (pe_bltn (v := .ty "bool") (by rfl) T.m_bool (by decide +kernel) rfl) pa_nil))) (pe_one (pe_cmpR (op_eqK K hr.units) (pv 0) (pv 1) (nomark _)))))) pss_nil)
      (pss_cons (ps_if (pt_val (pe_callB (cr_isK K) (by rfl) T.m_isinstance (by decide +kernel) (pa_cons (pv 1) (pa_cons (pe_bltn (v := .ty "int") (by rfl) T.m_int (by decide +kernel) rfl) pa_nil)))) (pss_one (ps_ret (pe_and (pe_callB (cr_isK K) (by rfl) T.m_isinstance (by decide +kernel) (pa_cons (pv 0) (pa_cons (pe_bltn (v := .ty "int") (by rfl) T.m_int (by decide +kernel) rfl) pa_nil))) (pe_and (pe_not (pe_callB (cr_isK K) (by rfl) T.m_isinstance (by decide +kernel) (pa_cons (pv 0) (pa_cons (pe_bltn (v := .ty "bool") (by rfl) T.m_bool (by decide +kernel) rfl) pa_nil)))) (pe_one (pe_cmpR (op_eqK K hr.units) (pv 0) (pv 1) (nomark _))))))) pss_nil)
      (pss_one (ps_ret (pe_and (pe_callB (cr_isK K) (by rfl) T.m_isinstance (by decide +kernel) (pa_cons (pv 0) (pa_cons (pe_bltn (v := .ty "str") (by rfl) T.m_str (by decide +kernel) rfl) pa_nil))) (pe_one (pe_cmpR (op_eqK K hr.units) (pv 0) (pv 1) (nomark _))))))))))), ?_⟩
  obtain ⟨x, y, rfl, hs, q⟩ := h
  have hH := Has.start H
  refine g_start (σ' := [some (x), some (y), none, none]) rfl ?_
  rcases hs with ⟨rfl, rfl⟩ | ⟨bb, rfl, rfl⟩ | ⟨i, rfl, rfl⟩ | ⟨z, rfl, rfl⟩ | ⟨a, b, xs, ys, rfl, rfl, hab, l1, l2, hs⟩ | ⟨a, b, A, rfl, rfl, t1, t2, hn, lA, lt⟩
  · walk_at "gg"
    refine g_ktupF (by walk_at "sz") hH (fun p1 H1 F1 n1 s1 f1 h1 => ?_)
    walk_at "gg"
    refine g_is (b := false) (.base .non) (by decide +kernel) ?_
    walk_at "gg"
    refine i_d (fun _ => ?_) (fun z => (z rfl).elim)
    walk_at "gg"
    rw [decide_eq_true rfl]
    exact q H1 (s1.trans h1.same)
  · walk_at "gg"
    refine g_ktupF (by walk_at "sz") hH (fun p1 H1 F1 n1 s1 f1 h1 => ?_)
    walk_at "gg"
    refine i_d (fun z => by cases z) (fun _ => ?_)
    walk_at "gg"
    rw [decide_eq_true rfl]
    exact q H1 (s1.trans h1.same)
  · walk_at "gg"
    refine g_ktupF (by walk_at "sz") hH (fun p1 H1 F1 n1 s1 f1 h1 => ?_)
    walk_at "gg"
    refine i_d (fun z => by cases z) (fun _ => ?_)
    walk_at "gg"
    rw [decide_eq_true rfl]
    exact q H1 (s1.trans h1.same)
  · walk_at "gg"
    refine g_ktupF (by walk_at "sz") hH (fun p1 H1 F1 n1 s1 f1 h1 => ?_)
    walk_at "gg"
    refine i_d (fun z => by cases z) (fun _ => ?_)
    walk_at "gg"
    rw [decide_eq_true rfl]
    exact q H1 (s1.trans h1.same)
  · walk_at "gg"
    refine g_ktupF (by walk_at "sz") hH (fun p1 H1 F1 n1 s1 f1 h1 => ?_)
    rcases hab with ⟨ha, hb⟩ | ⟨ha, hb⟩
    · have ha1 := s1 _ _ ha
      have hb1 := s1 _ _ hb
      walk_at "gg"
      refine i_n (fun z => (z rfl).elim) (fun _ => ?_)
      walk_at "gg"
      refine i_n (fun z => (z rfl).elim) (fun _ => ?_)
      walk_at "gg"
      refine i_n (fun z => (z (by rw [l1])).elim) (fun _ => ?_)
      walk_at "gg"
      refine k_forR1 (fun i σ H' => ∃ y2 y3, σ = [some (.ref a), some (.ref b), y2, y3] ∧ Has F1 [] H') (by omega) (by omega) ⟨_, _, rfl, h1⟩ ?_ ?_
      · rintro i σ H2 hi ⟨y2, y3, rfl, h2⟩
        walk_at "gg"
        refine g_ixV (by walk_at "h") (by omega) (by omega) (fun u hu => ?_)
        walk_at "gg"
        refine g_ixV (by walk_at "h") (by omega) (by omega) (fun v hv => ?_)
        walk_at "gg"
        refine ⟨u, v, rfl, (hs _ u v hu hv).up (s1.trans h2.same), fun H3 s3 => ?_⟩
        walk_at "gg"
        exact ⟨_, _, rfl, h2.on s3⟩
      · rintro σ H2 ⟨y2, y3, rfl, h2⟩
        walk_at "gg"
        exact q H2 (s1.trans h2.same)
    · have ha1 := s1 _ _ ha
      have hb1 := s1 _ _ hb
      walk_at "gg"
      refine i_n (fun z => (z rfl).elim) (fun _ => ?_)
      walk_at "gg"
      refine i_n (fun z => (z rfl).elim) (fun _ => ?_)
      walk_at "gg"
      refine i_n (fun z => (z (by rw [l1])).elim) (fun _ => ?_)
      walk_at "gg"
      refine k_forR1 (fun i σ H' => ∃ y2 y3, σ = [some (.ref a), some (.ref b), y2, y3] ∧ Has F1 [] H') (by omega) (by omega) ⟨_, _, rfl, h1⟩ ?_ ?_
      · rintro i σ H2 hi ⟨y2, y3, rfl, h2⟩
        walk_at "gg"
        refine g_ixVT (by walk_at "h") (by omega) (by omega) (fun u hu => ?_)
        walk_at "gg"
        refine g_ixVT (by walk_at "h") (by omega) (by omega) (fun v hv => ?_)
        walk_at "gg"
        refine ⟨u, v, rfl, (hs _ u v hu hv).up (s1.trans h2.same), fun H3 s3 => ?_⟩
        walk_at "gg"
        exact ⟨_, _, rfl, h2.on s3⟩
      · rintro σ H2 ⟨y2, y3, rfl, h2⟩
        walk_at "gg"
        exact q H2 (s1.trans h2.same)
  · obtain ⟨m, rfl⟩ : ∃ m, n = m + 2 := ⟨n - 2, by omega⟩
    obtain ⟨ka, ha, eka, nda, dqa⟩ := t1
    obtain ⟨kb, hb, ekb, ndb, dqb⟩ := t2
    walk_at "gg"
    refine g_ktupF (by walk_at "sz") hH (fun p1 H1 F1 n1 s1 f1 h1 => ?_)
    have fa := s1 _ _ ha
    have fb := s1 _ _ hb
    have dqa := dqa.up s1 _ _
    have dqb := dqb.up s1 _ _
    walk_at "gg"
    refine g_listD (h1.same _ _ fa) h1 (fun p2 H2 n2 h2 => ?_)
    walk_at "gg"
    refine g_listD (h2.same _ _ fb) h2 (fun p3 H3 n3 h3 => ?_)
    rw [tr_keys eka] at h3
    rw [tr_keys ekb] at h3
    walk_at "gg"
    refine ⟨.ref p2, .ref p3, rfl, Sm.strs (h3.get (by walk_at "m")) (h3.get (List.Mem.head _)) (by rw [List.length_map]; omega), fun H4 s4 => ?_⟩
    have h4 := (h3.on s4).drop.drop
    walk_at "gg"
    refine k_forDK rfl fb h4 (fun t σ O' => ∃ y2 y3, σ = [some (.ref a), some (.ref b), y2, y3] ∧ O' = []) ⟨_, _, rfl, rfl⟩ ?_ ?_
    · rintro t k v σ O' H5 od ekv ⟨y2, y3, rfl, rfl⟩ h5
      obtain ⟨p, ep, rfl⟩ := tr_key ekb ekv
      have ra : RT (upd F1 b (.frz od (.dK kb))) a A := RT.lock fb ⟨ka, .inl fa, eka, nda, dqa⟩
      have rb : RT (upd F1 b (.frz od (.dK kb))) b A := RT.lock fb ⟨kb, .inl fb, ekb, ndb, dqb⟩
      obtain ⟨ka', rda, eka', _, dqa'⟩ := ra.up h5.same
      obtain ⟨kb', rdb, ekb', _, dqb'⟩ := rb.up h5.same
      have eg : getT A p.1 = some p.2 := getT_of nda (List.mem_of_getElem? ep)
      obtain ⟨l1, v1, hl1⟩ := tr_at eka' dqa' eg
      obtain ⟨l2, v2, hl2⟩ := tr_at ekb' dqb' eg
      walk_at "gg"
      refine g_ixDR rda v1 ?_
      walk_at "gg"
      refine g_ixDR rdb v2 ?_
      walk_at "gg"
      refine ⟨.ref l1, .ref l2, rfl, Sm.strs hl1 hl2 (by have := lt p (List.mem_of_getElem? ep); omega), fun H6 s6 => ?_⟩
      walk_at "gg"
      exact ⟨[], ⟨_, _, rfl, rfl⟩, h5.on s6⟩
    · rintro σ O' H5 ⟨y2, y3, rfl, rfl⟩ h5
      walk_at "gg"
      exact q H5 (s1.trans h5.same)
def sp_l_same (K : PySem.W.Frag) : Sp := sp_l_same_n K 6
theorem ok_l_same (T : Txt K mg) : FnOk P w K mg base CX0 6 T.f_l_same T.fd_l_same ["told", "due"] (sp_l_same K) := ok_l_same_n T 6
end

end K11

namespace K11
open PySem PySem.Spec PyProof.Rows L2 Qk
local macro_rules | `(tactic| walk_at "m") => `(tactic| ((repeat (first | exact List.Mem.head _ | apply List.Mem.tail)); done))
local macro_rules | `(tactic| walk_at "h") => `(tactic| first | assumption | exact Has.gF (by assumption) (by assumption) | exact Has.get (by assumption) (by walk_at "m"))
local macro_rules | `(tactic| walk_at "c") => `(tactic| ((repeat (first | exact Chg.hd | apply Chg.tl)); done))
local macro_rules | `(tactic| walk_at "is") => `(tactic| first
  | ((with_reducible refine' is2_non ?gh ?_); (case gh => walk_at "h"))
  | (with_reducible refine is_int_list ?_)
  | (with_reducible refine is_int_tuple ?_)
  | (with_reducible refine is_int_dict ?_)
  | (with_reducible refine is_int_int ?_)
  | (with_reducible refine is_int_bool ?_)
  | (with_reducible refine is_int_str ?_)
  | ((with_reducible refine' is2_int ?gh ?_); (case gh => walk_at "h"))
  | (with_reducible refine is_str_list ?_)
  | (with_reducible refine is_str_tuple ?_)
  | (with_reducible refine is_str_dict ?_)
  | (with_reducible refine is_str_int ?_)
  | (with_reducible refine is_str_bool ?_)
  | (with_reducible refine is_str_str ?_)
  | ((with_reducible refine' is2_str ?gh ?_); (case gh => walk_at "h"))
  | (with_reducible refine is_bool_list ?_)
  | (with_reducible refine is_bool_tuple ?_)
  | (with_reducible refine is_bool_dict ?_)
  | (with_reducible refine is_bool_int ?_)
  | (with_reducible refine is_bool_bool ?_)
  | (with_reducible refine is_bool_str ?_)
  | ((with_reducible refine' is2_bool ?gh ?_); (case gh => walk_at "h"))
  | ((with_reducible refine' is_list_list ?gh ?_); (case gh => walk_at "h"))
  | ((with_reducible refine' is_list_tuple ?gh ?_); (case gh => walk_at "h"))
  | ((with_reducible refine' is_list_dict ?gh ?_); (case gh => walk_at "h"))
  | ((with_reducible refine' is_list_int ?gh ?_); (case gh => walk_at "h"))
  | ((with_reducible refine' is_list_bool ?gh ?_); (case gh => walk_at "h"))
  | ((with_reducible refine' is_list_str ?gh ?_); (case gh => walk_at "h"))
  | ((with_reducible refine' is2_list ?ga ?gb ?_); (case ga => walk_at "h"); (case gb => walk_at "h"))
  | ((with_reducible refine' is_tuple_list ?gh ?_); (case gh => walk_at "h"))
  | ((with_reducible refine' is_tuple_tuple ?gh ?_); (case gh => walk_at "h"))
  | ((with_reducible refine' is_tuple_dict ?gh ?_); (case gh => walk_at "h"))
  | ((with_reducible refine' is_tuple_int ?gh ?_); (case gh => walk_at "h"))
  | ((with_reducible refine' is_tuple_bool ?gh ?_); (case gh => walk_at "h"))
  | ((with_reducible refine' is_tuple_str ?gh ?_); (case gh => walk_at "h"))
  | ((with_reducible refine' is2_tuple ?ga ?gb ?_); (case ga => walk_at "h"); (case gb => walk_at "h"))
  | ((with_reducible refine' is_dict_list ?gh ?_); (case gh => walk_at "h"))
  | ((with_reducible refine' is_dict_tuple ?gh ?_); (case gh => walk_at "h"))
  | ((with_reducible refine' is_dict_dict ?gh ?_); (case gh => walk_at "h"))
  | ((with_reducible refine' is_dict_int ?gh ?_); (case gh => walk_at "h"))
  | ((with_reducible refine' is_dict_bool ?gh ?_); (case gh => walk_at "h"))
  | ((with_reducible refine' is_dict_str ?gh ?_); (case gh => walk_at "h"))
  | ((with_reducible refine' is2_dict ?ga ?gb ?_); (case ga => walk_at "h"); (case gb => walk_at "h")))
local macro_rules | `(tactic| walk_at "g") => `(tactic| first
  | (with_reducible refine g_seq ?_)
  | (with_reducible refine g_asg ?_)
  | ((with_reducible refine g_name ?_); dsimp only [List.set, wipe, List.map])
  | ((with_reducible refine' g_var ?gv ?_); (case gv => exact rfl))
  | (with_reducible refine g_c ?_)
  | (with_reducible refine g_op ?_)
  | (with_reducible refine g_cons ?_)
  | (with_reducible refine g_nil ?_)
  | (with_reducible refine g_cb ?_)
  | (with_reducible refine g_call ?_)
  | (with_reducible refine g_tup ?_)
  | (with_reducible refine g_lst ?_)
  | (with_reducible refine g_bm ?_)
  | (with_reducible refine g_bm0 ?_)
  | ((with_reducible refine' g_kbm ?gh ?_); (case gh => walk_at "h"))
  | (with_reducible refine g_drop ?_)
  | (with_reducible refine g_ret ?_)
  | (with_reducible refine g_retN ?_)
  | (with_reducible refine g_next ?_)
  | (with_reducible refine g_brk ?_)
  | (with_reducible refine g_cont ?_)
  | (with_reducible refine g_if ?_)
  | ((with_reducible refine' g_aug ?gv ?_); (case gv => exact rfl))
  | (with_reducible refine g_ipI ?_)
  | (with_reducible refine g_test ?_)
  | (with_reducible refine g_tB ?_)
  | (with_reducible refine g_kB ?_)
  | (with_reducible refine g_not ?_)
  | (with_reducible refine g_and ?_)
  | (with_reducible refine g_or ?_)
  | (with_reducible refine g_andV ?_)
  | (with_reducible refine g_orV ?_)
  | (with_reducible refine g_notV ?_)
  | (with_reducible refine g_ifE ?_)
  | (with_reducible refine g_addI ?_)
  | (with_reducible refine g_rI0 ?_)
  | (with_reducible refine g_eqI ?_)
  | (with_reducible refine g_eqS ?_)
  | (with_reducible refine g_neI ?_)
  | (with_reducible refine g_neS ?_)
  | (with_reducible refine g_isN ?_)
  | (with_reducible refine g_notN ?_)
  | (with_reducible refine g_int ?_)
  | (with_reducible refine g_max2 ?_)
  | (with_reducible refine g_min2 ?_)
  | ((with_reducible refine' g_lenL ?gh ?_); (case gh => walk_at "h"))
  | (with_reducible refine g_sub ?_)
  | (with_reducible refine g_gcons ?_)
  | (with_reducible refine g_gnil ?_)
  | (with_reducible refine g_un ?_)
  | (with_reducible refine g_rU ?_)
  | (with_reducible refine g_forL ?_)
  | (with_reducible refine g_forS ?_)
  | (with_reducible refine g_forR1 ?_)
  | (with_reducible refine g_forR2 ?_)
  | (with_reducible refine g_forR3 ?_)
  | (with_reducible refine g_lcL ?_)
  | (with_reducible refine g_lcR1 ?_)
  | (with_reducible refine g_lcR2 ?_)
  | (with_reducible refine g_slice ?_)
  | (with_reducible refine g_part ?_)
  | (with_reducible refine g_kOI ?_)
  | (with_reducible refine g_nopart ?_)
  | (with_reducible refine g_yes ?_)
  | ((with_reducible refine' g_wipe ?gv ?_); (case gv => exact rfl))
  | (with_reducible refine iteT ?_)
  | (with_reducible refine iteF ?_)
  | (with_reducible refine i_nf ?_)
  | (with_reducible refine i_nt ?_)
  | ((with_reducible refine' g_gtup ?gh ?gl ?_); (case gh => walk_at "h"); (case gl => exact rfl))
  | ((with_reducible refine' g_notinI ?gh ?_); (case gh => walk_at "h"))
  | ((with_reducible refine' g_inI ?gh ?_); (case gh => walk_at "h"))
  | ((with_reducible refine' g_kget2 ?gh ?_); (case gh => walk_at "h"))
  | ((with_reducible refine' g_kgotI ?gh ?_); (case gh => walk_at "h"))
  | (with_reducible refine g_tRev ?_)
  | (with_reducible refine g_neB ?_)
  | (with_reducible refine g_eqB ?_)
  | ((with_reducible refine' g_lenT ?gh ?_); (case gh => walk_at "h"))
  | (with_reducible refine g_star ?_)
  | ((with_reducible refine' g_kstarL ?gh ?_); (case gh => walk_at "h"))
  | ((with_reducible refine' g_kstarT ?gh ?_); (case gh => walk_at "h"))
  | (with_reducible refine g_tru ?_)
  | ((with_reducible refine' g_truL ?gh ?_); (case gh => walk_at "h"))
  | (with_reducible refine g_get2 ?_)
  | (with_reducible refine g_try ?_)
  | (with_reducible refine g_fld ?_)
  | (with_reducible refine g_sfld ?_)
  | (with_reducible refine g_meth ?_)
  | (with_reducible refine g_make ?_)
  | (with_reducible refine g_del ?_)
  | (with_reducible refine g_callS ?_)
  | (with_reducible refine g_raise ?_)
  | (with_reducible refine g_xf ?_)
  | (with_reducible refine g_m0 ?_)
  | (with_reducible refine g_km0 ?_)
  | walk_at "is")
local macro_rules | `(tactic| walk_at "gg") => `(tactic| repeat walk_at "g")
local macro_rules | `(tactic| walk_at "sz") => `(tactic| (refine sz ?_; simp only [List.length_cons, List.length_nil, List.length_map, List.length_append, List.length_replicate]; omega))
local macro_rules | `(tactic| walk_at "sub") => `(tactic| ((repeat (first | exact List.Sublist.slnil | with_reducible apply List.Sublist.cons_cons | with_reducible apply List.Sublist.cons)); done))

/-! ### the draws: a list of pairs -/
def cellD (p : Int × Int) : PyData := .list [.int p.1, .int p.2]
theorem cell_inv {F : Hp} {v : V} {p : Int × Int} (h : Dq F v (cellD p)) : ∃ r, v = .ref r ∧ F r = some (.lst [.int p.1, .int p.2]) := by
  cases h with
  | lst hT hs =>
    cases hs with
    | cons h1 hs =>
      cases hs with
      | cons h2 hs =>
        cases hs
        cases h1
        cases h2
        exact ⟨_, rfl, hT⟩
theorem cells_sh (rows : List (Int × Int)) : Sh 2 (.list (rows.map cellD)) := Sh.list fun d hd => by
  obtain ⟨p, _, rfl⟩ := List.mem_map.mp hd
  exact Sh.list fun d hd => by
    rcases List.mem_cons.mp hd with rfl | hd
    · exact Sh.int _
    · rw [List.mem_singleton.mp hd]
      exact Sh.int _
/-- the draws stand at c: what is left, each number with its count -/
structure Cells (F : Hp) (c : Addr) (H : Hp) (vs : List V) : Prop where
  at_ : H c = some (.lst vs)
  dq : ∃ rows : List (Int × Int), DqAll F vs (rows.map cellD) ∧ rows.length ≤ 100
section
variable {P : Program} {w : World} {K : PySem.W.Frag} {mg : Str → Option Value} {base : Heap}
def sp_l_feed (K : PySem.W.Frag) : Sp := fun vs H Q _ => ∃ (a : Addr) (ns : List Int), vs = [.ref a] ∧ SqL K H a (ns.map V.int) ∧ ns.length ≤ 63 ∧
  ∀ p H' F' (vs : List V) (rows : List (Int × Int)), H p = none → Same H F' → Has F' [(p, .lst vs)] H' → DqAll F' vs (rows.map cellD) → rows.length ≤ 100 → Q (.ref p) H'
theorem sp_l_feed_len {vs H Q E} (h : sp_l_feed K vs H Q E) : vs.length = 1 := by
  obtain ⟨_, _, rfl, _⟩ := h
  rfl
theorem ok_l_feed (T : Txt K mg) : FnOk P w K mg base CX0 1 T.f_l_feed T.fd_l_feed ["script"] (sp_l_feed K) := by
  refine T.F_l_feed.ok sc_l_feed (fun vs H Q E h => sp_l_feed_len h) (fun cdv A outer s H vs Q E hr h => ?_)
  refine ⟨_, (pss_one (ps_ret (pe_lc (own := [("cell", 1)]) (g := gName 1) (tt := tYes) rfl sc_l_feed.nd (k_il K (pi_list (pe_slice (sl_K K) (pv 0) po_none (po_some pe_int)))) (blkOk_by (N := n_l_feed) (sc := defScope s_l_feed) (by decide +kernel)) (fun _ _ _ _ _ => (pg_name (i := 1) sc_l_feed.nd rfl (.inl rfl))) (fun _ _ _ _ _ => pts_nil) (fun _ _ _ _ _ => (pe_lst (pa_cons (pe_callB cr_abs1 (by rfl) T.m_abs (by decide +kernel) (pa_cons (pe_callTy cr_int1 (by rfl) T.m_int (by decide +kernel) (pa_cons (pv 1) pa_nil)) pa_nil)) (pa_cons pe_int pa_nil))))))), ?_⟩
  obtain ⟨a, ns, rfl, ha, hn, q⟩ := h
  have hH := Has.start H
  refine g_start (σ' := [some (.ref a), none]) rfl ?_
  walk_at "gg"
  refine g_slS ha hH (fun p2 H2 n2 hH2 => ?_)
  obtain ⟨ms, em, lm⟩ := cutV_ints ns none (some 63)
  rw [em] at hH2
  refine k_lcL (by walk_at "h") hH2 (fun i acc F' O' => ∃ rows : List (Int × Int), DqAll F' acc (rows.map cellD) ∧ rows.length = i ∧ Same H F' ∧ O' = [(p2, .lst (ms.map V.int))]) ⟨[], .nil, rfl, Same.refl _, rfl⟩ ?_ ?_ ?_
  · rintro i acc F' O' H3 ⟨rows, dq, rfl, sF, rfl⟩ hh
    walk_at "h"
  · rintro i x acc F' O' D H3 hx ⟨rows, dq, rfl, sF, rfl⟩ hh
    rw [List.getElem?_map] at hx
    obtain ⟨z, hz, rfl⟩ := Option.map_eq_some_iff.mp hx
    have hl : rows.length < ms.length := (List.getElem?_eq_some_iff.mp hz).1
    have hal : acc.length = rows.length := by rw [dq.len, List.length_map]
    walk_at "gg"
    refine g_abs (fun j hj => ?_)
    walk_at "gg"
    refine g_klstF (by walk_at "sz") hh (fun r H4 F4 n4 s4 f4 h4 => ?_)
    refine k_turn h4 (by omega) ⟨rows ++ [(j, 0)], ?_, by rw [List.length_append]; rfl, sF.trans s4, rfl⟩
    rw [List.map_append]
    exact (dq.up s4 _ _).snoc (.lst f4 (.cons (.int _) (.cons (.int _) .nil)))
  · rintro acc F' O' D H3 ⟨rows, dq, hk, sF, rfl⟩ hh
    rw [List.length_map] at hk
    exact q D H3 F' acc rows (sF.free hh.free) sF (hh.sub (.cons_cons _ (.cons _ (List.Sublist.refl _)))) dq (by omega)
theorem Grow.refl (F H : Hp) : Grow F H F := ⟨Same.refl F, fun _ _ => rfl⟩
theorem Grow.new {F H : Hp} {p : Addr} {o : HO} (n : H p = none) (f : F p = none) : Grow F H (upd F p o) := ⟨same_upd f, fun b h => upd_ne (fun z => h (by rw [z]; exact n))⟩
theorem Grow.new2 {F H F1 : Hp} {p : Addr} {o : HO} (g : Grow F H F1) (n : H p = none) (f : F1 p = none) : Grow F H (upd F1 p o) := ⟨g.1.trans (same_upd f), fun b h => by rw [upd_ne (fun z => h (by rw [z]; exact n))]; exact g.2 b h⟩
def sp_l_next (K : PySem.W.Frag) : Sp := fun vs H Q _ => ∃ (c : Addr) (m : Int) (F : Hp) (ws : List V) (rows : List (Int × Int)), vs = [.ref c, .int m] ∧ Has F [(c, .lst ws)] H ∧ DqAll F ws (rows.map cellD) ∧ rows.length ≤ 100 ∧ 0 < m ∧ m < 1000000 ∧
  ∀ H' F' (ws' : List V) (rows' : List (Int × Int)) (r : Int), But c H H' → Grow F H F' → Has F' [(c, .lst ws')] H' → DqAll F' ws' (rows'.map cellD) → rows'.length ≤ 100 → 0 ≤ r → r < m → Q (.int r) H'
theorem sp_l_next_len {vs H Q E} (h : sp_l_next K vs H Q E) : vs.length = 2 := by
  obtain ⟨_, _, _, _, _, rfl, _⟩ := h
  rfl
theorem same_upd2 {F G : Hp} {p : Addr} {o : HO} (s : Same F G) : Same (upd F p o) (upd G p o) := fun b u q => by
  by_cases e : b = p
  · subst e
    rw [upd_same] at q ⊢
    exact q
  · rw [upd_ne e] at q ⊢
    exact s b u q
theorem ok_l_next (T : Txt K mg) : FnOk P w K mg base CX0 1 T.f_l_next T.fd_l_next ["cells", "many"] (sp_l_next K) := by
  refine T.F_l_next.ok sc_l_next (fun vs H Q E h => sp_l_next_len h) (fun cdv A outer s H vs Q E hr h => ?_)
  refine ⟨_, (pss_cons (ps_if (pt_cmpR (op_eqK K hr.units) (pv 0) (pe_lst pa_nil) (nomark _)) (pss_one (ps_ret pe_int)) pss_nil)
      (pss_cons (ps_set (i := 2) sc_l_next.nd rfl (.inl rfl) (pe_op op_mod (pe_callTy cr_int1 (by rfl) T.m_int (by decide +kernel) (pa_cons (pe_ix (ix_K K (hu_of hr)) (pe_ix (ix_K K (hu_of hr)) (pv 0) pe_int (fun _ _ => rfl)) pe_int (fun _ _ => rfl)) pa_nil)) (pv 1)))
      (pss_cons (ps_asg (pe_lst (pa_cons (pe_op op_fdiv (pe_ix (ix_K K (hu_of hr)) (pe_ix (ix_K K (hu_of hr)) (pv 0) pe_int (fun _ _ => rfl)) pe_int (fun _ _ => rfl)) (pv 1)) (pa_cons (pe_op (op_addK K) (pe_ix (ix_K K (hu_of hr)) (pe_ix (ix_K K (hu_of hr)) (pv 0) pe_int (fun _ _ => rfl)) pe_int (fun _ _ => rfl)) pe_int) pa_nil))) (pg_sub (pv 0) pe_int (set_any (hu_of hr))))
      (pss_cons (ps_if (PW.pt (pw_or (pt_cmpR (op_eqK K hr.units) (pe_ix (ix_K K (hu_of hr)) (pe_ix (ix_K K (hu_of hr)) (pv 0) pe_int (fun _ _ => rfl)) pe_int (fun _ _ => rfl)) pe_int (nomark _)) (pw_or1 (pt_cmpR (op_eqK K hr.units) (pe_ix (ix_K K (hu_of hr)) (pe_ix (ix_K K (hu_of hr)) (pv 0) pe_int (fun _ _ => rfl)) pe_int (fun _ _ => rfl)) pe_int (nomark _))))) (pss_one (ps_expr (k_bm K (pe_bm PySem.F.plainAttrs_list PySem.F.slot_list_pop PySem.F.type_list_pop mt_popAt (pv 0) (pa_cons pe_int pa_nil))))) pss_nil)
      (pss_one (ps_ret (pv 2))))))), ?_⟩
  obtain ⟨c, m, F, ws, rows, rfl, hH, dq0, hl, hm0, hm, q⟩ := h
  have sFG : Same F (rm H c) := same_rm hH.same hH.free
  have dq := dq0.up sFG _ _
  have hR := Has.arg (hH.get (List.Mem.head _))
  generalize hG : rm H c = G at *
  refine g_start (σ' := [some (.ref c), some (.int m), none]) rfl ?_
  walk_at "gg"
  refine g_klst (by walk_at "sz") hR (fun t H1 n1 hR1 => ?_)
  have hR1' := hR1.drop
  have hc1 := hR1'.get (List.Mem.head _)
  refine g_eqD (.lst hc1 (dq.up hR1'.same _ _)) (.lst (hR1.get (List.Mem.head _)) .nil) ((cells_sh rows).ok (by decide)) (by decide +kernel) ?_
  walk_at "gg"
  cases rows with
  | nil =>
    cases dq
    refine i_b (fun _ => ?_) (fun z => ?_)
    · walk_at "gg"
      exact q H1 F [] [] 0 (But.of (by rw [hG]; exact hR1.same)) (Grow.refl _ _) (hR1'.mono sFG) .nil (by simp) (by omega) hm0
    · rw [List.map_nil, PyData.eqv, PyData.eqvAll] at z
      cases z
  | cons row rows =>
    cases dq with
    | @cons v vs _ _ dv dvs =>
    cases dq0 with
    | cons dv0 dvs0 =>
    obtain ⟨r, rfl, hr⟩ := cell_inv dv
    refine i_b (fun z => ?_) (fun _ => ?_)
    · rw [List.map_cons, PyData.eqv, PyData.eqvAll] at z
      cases z
    have hr1 := hR1'.same _ _ hr
    walk_at "gg"
    refine g_ixL (v := .ref r) hc1 (atI_nat (j := 0) rfl) ?_
    walk_at "gg"
    refine g_ixL (v := .int row.1) hr1 (atI_nat (j := 0) rfl) ?_
    walk_at "gg"
    refine g_rI hm0 ?_
    walk_at "gg"
    refine g_ixL (v := .ref r) hc1 (atI_nat (j := 0) rfl) ?_
    walk_at "gg"
    refine g_ixL (v := .int row.1) hr1 (atI_nat (j := 0) rfl) ?_
    walk_at "gg"
    refine g_rI ⟨by omega, by omega⟩ ?_
    walk_at "gg"
    refine g_ixL (v := .ref r) hc1 (atI_nat (j := 0) rfl) ?_
    walk_at "gg"
    refine g_ixL (v := .int row.2) hr1 (atI_nat (j := 1) rfl) ?_
    walk_at "gg"
    refine g_klst (by walk_at "sz") hR1' (fun p H2 n2 hR2 => ?_)
    have fp : F p = none := sFG.free hR2.free
    have np : H p = none := by
      have nd : p ≠ c := by
        have := hR2.nd
        simp only [List.map_cons, List.map_nil, List.nodup_cons, List.mem_singleton] at this
        exact this.1
      have e := hR2.free
      rw [← hG, rm_ne nd] at e
      exact e
    have hR3 := hR2.frz
    have sG3 := hR2.grow
    have dv2 : Dq (upd F p (.lst [.int (row.1 / m), .int (row.2 + 1)])) (.ref p) (cellD (row.1 / m, row.2 + 1)) := .lst upd_same (.cons (.int _) (.cons (.int _) .nil))
    have dvs2 := dvs0.up (same_upd (o := .lst [.int (row.1 / m), .int (row.2 + 1)]) fp) _ _
    have gF : Grow F H (upd F p (.lst [.int (row.1 / m), .int (row.2 + 1)])) := Grow.new np fp
    have hp3 : upd G p (.lst [.int (row.1 / m), .int (row.2 + 1)]) p = some (.lst [.int (row.1 / m), .int (row.2 + 1)]) := upd_same
    walk_at "gg"
    refine g_stL (j := 0) hR3 (by walk_at "c") (ixN_nat (by decide) (by rw [List.length_cons]; omega)) (fun H4 hR4 => ?_)
    have fin : ∀ (H5 : Hp) (ws' : List V) (rows' : List (Int × Int)), Has (upd G p (.lst [.int (row.1 / m), .int (row.2 + 1)])) [(c, .lst ws')] H5 → DqAll (upd F p (.lst [.int (row.1 / m), .int (row.2 + 1)])) ws' (rows'.map cellD) → rows'.length ≤ 100 → Q (.int (row.1 % m)) H5 := fun H5 ws' rows' h5 d5 l5 =>
      q H5 _ ws' rows' _ (But.of (by rw [hG]; exact sG3.trans h5.same)) gF (h5.mono (same_upd2 sFG)) d5 l5 (Int.emod_nonneg _ (by omega)) (Int.emod_lt_of_pos _ hm0)
    have hc4 := hR4.get (List.Mem.head _)
    have hp4 := hR4.same _ _ hp3
    walk_at "g"
    walk_at "g"
    refine g_fact (fun _ => True) (fun R r => ?_) (fun b _ => ?_)
    · walk_at "gg"
      refine g_ixL (v := .ref p) hc4 (atI_nat (j := 0) rfl) ?_
      walk_at "gg"
      refine g_ixL (v := .int (row.1 / m)) hp4 (atI_nat (j := 0) rfl) ?_
      walk_at "gg"
      refine i_d (fun _ => r _ trivial) (fun _ => ?_)
      walk_at "gg"
      refine g_ixL (v := .ref p) hc4 (atI_nat (j := 0) rfl) ?_
      walk_at "gg"
      refine g_ixL (v := .int (row.2 + 1)) hp4 (atI_nat (j := 1) rfl) ?_
      walk_at "gg"
      exact r _ trivial
    refine i_b (fun _ => ?_) (fun _ => ?_)
    · walk_at "gg"
      refine g_popAt (k := 0) (y := .ref p) hR4 (by walk_at "c") (by omega) (by omega) (ixN_seq (ixN_nat (k := 0) (by decide) (by rw [List.length_set, List.length_cons]; omega))).1 rfl (fun H5 h5 => ?_)
      walk_at "gg"
      exact fin H5 vs rows h5 dvs2 (by rw [List.length_cons] at hl; omega)
    · walk_at "gg"
      exact fin H4 (.ref p :: vs) ((row.1 / m, row.2 + 1) :: rows) hR4 (.cons dv2 dvs2) hl
theorem Has.drawn {F F' H H' : Hp} {O : Own} {c : Addr} {ws ws' : List V} (h : Has F ((c, .lst ws) :: O) H) (hb : But c H H') (g : Grow F H F') (s : Has F' [(c, .lst ws')] H') : Has F' ((c, .lst ws') :: O) H' :=
  h.grown .hd hb g s.same (s.get (List.Mem.head _))
end

end K11

namespace K11
open PySem PySem.Spec PyProof.Rows L2 Qk
local macro_rules | `(tactic| walk_at "m") => `(tactic| ((repeat (first | exact List.Mem.head _ | apply List.Mem.tail)); done))
local macro_rules | `(tactic| walk_at "h") => `(tactic| first | assumption | exact Has.gF (by assumption) (by assumption) | exact Has.get (by assumption) (by walk_at "m"))
local macro_rules | `(tactic| walk_at "c") => `(tactic| ((repeat (first | exact Chg.hd | apply Chg.tl)); done))
local macro_rules | `(tactic| walk_at "is") => `(tactic| first
  | ((with_reducible refine' is2_non ?gh ?_); (case gh => walk_at "h"))
  | (with_reducible refine is_int_list ?_)
  | (with_reducible refine is_int_tuple ?_)
  | (with_reducible refine is_int_dict ?_)
  | (with_reducible refine is_int_int ?_)
  | (with_reducible refine is_int_bool ?_)
  | (with_reducible refine is_int_str ?_)
  | ((with_reducible refine' is2_int ?gh ?_); (case gh => walk_at "h"))
  | (with_reducible refine is_str_list ?_)
  | (with_reducible refine is_str_tuple ?_)
  | (with_reducible refine is_str_dict ?_)
  | (with_reducible refine is_str_int ?_)
  | (with_reducible refine is_str_bool ?_)
  | (with_reducible refine is_str_str ?_)
  | ((with_reducible refine' is2_str ?gh ?_); (case gh => walk_at "h"))
  | (with_reducible refine is_bool_list ?_)
  | (with_reducible refine is_bool_tuple ?_)
  | (with_reducible refine is_bool_dict ?_)
  | (with_reducible refine is_bool_int ?_)
  | (with_reducible refine is_bool_bool ?_)
  | (with_reducible refine is_bool_str ?_)
  | ((with_reducible refine' is2_bool ?gh ?_); (case gh => walk_at "h"))
  | ((with_reducible refine' is_list_list ?gh ?_); (case gh => walk_at "h"))
  | ((with_reducible refine' is_list_tuple ?gh ?_); (case gh => walk_at "h"))
  | ((with_reducible refine' is_list_dict ?gh ?_); (case gh => walk_at "h"))
  | ((with_reducible refine' is_list_int ?gh ?_); (case gh => walk_at "h"))
  | ((with_reducible refine' is_list_bool ?gh ?_); (case gh => walk_at "h"))
  | ((with_reducible refine' is_list_str ?gh ?_); (case gh => walk_at "h"))
  | ((with_reducible refine' is2_list ?ga ?gb ?_); (case ga => walk_at "h"); (case gb => walk_at "h"))
  | ((with_reducible refine' is_tuple_list ?gh ?_); (case gh => walk_at "h"))
  | ((with_reducible refine' is_tuple_tuple ?gh ?_); (case gh => walk_at "h"))
  | ((with_reducible refine' is_tuple_dict ?gh ?_); (case gh => walk_at "h"))
  | ((with_reducible refine' is_tuple_int ?gh ?_); (case gh => walk_at "h"))
  | ((with_reducible refine' is_tuple_bool ?gh ?_); (case gh => walk_at "h"))
  | ((with_reducible refine' is_tuple_str ?gh ?_); (case gh => walk_at "h"))
  | ((with_reducible refine' is2_tuple ?ga ?gb ?_); (case ga => walk_at "h"); (case gb => walk_at "h"))
  | ((with_reducible refine' is_dict_list ?gh ?_); (case gh => walk_at "h"))
  | ((with_reducible refine' is_dict_tuple ?gh ?_); (case gh => walk_at "h"))
  | ((with_reducible refine' is_dict_dict ?gh ?_); (case gh => walk_at "h"))
  | ((with_reducible refine' is_dict_int ?gh ?_); (case gh => walk_at "h"))
  | ((with_reducible refine' is_dict_bool ?gh ?_); (case gh => walk_at "h"))
  | ((with_reducible refine' is_dict_str ?gh ?_); (case gh => walk_at "h"))
  | ((with_reducible refine' is2_dict ?ga ?gb ?_); (case ga => walk_at "h"); (case gb => walk_at "h")))
local macro_rules | `(tactic| walk_at "g") => `(tactic| first
  | (with_reducible refine g_seq ?_)
  | (with_reducible refine g_asg ?_)
  | ((with_reducible refine g_name ?_); dsimp only [List.set, wipe, List.map])
  | ((with_reducible refine' g_var ?gv ?_); (case gv => exact rfl))
  | (with_reducible refine g_c ?_)
  | (with_reducible refine g_op ?_)
  | (with_reducible refine g_cons ?_)
  | (with_reducible refine g_nil ?_)
  | (with_reducible refine g_cb ?_)
  | (with_reducible refine g_call ?_)
  | (with_reducible refine g_tup ?_)
  | (with_reducible refine g_lst ?_)
  | (with_reducible refine g_bm ?_)
  | (with_reducible refine g_bm0 ?_)
  | ((with_reducible refine' g_kbm ?gh ?_); (case gh => walk_at "h"))
  | (with_reducible refine g_drop ?_)
  | (with_reducible refine g_ret ?_)
  | (with_reducible refine g_retN ?_)
  | (with_reducible refine g_next ?_)
  | (with_reducible refine g_brk ?_)
  | (with_reducible refine g_cont ?_)
  | (with_reducible refine g_if ?_)
  | ((with_reducible refine' g_aug ?gv ?_); (case gv => exact rfl))
  | (with_reducible refine g_ipI ?_)
  | (with_reducible refine g_test ?_)
  | (with_reducible refine g_tB ?_)
  | (with_reducible refine g_kB ?_)
  | (with_reducible refine g_not ?_)
  | (with_reducible refine g_and ?_)
  | (with_reducible refine g_or ?_)
  | (with_reducible refine g_andV ?_)
  | (with_reducible refine g_orV ?_)
  | (with_reducible refine g_notV ?_)
  | (with_reducible refine g_ifE ?_)
  | (with_reducible refine g_addI ?_)
  | (with_reducible refine g_rI0 ?_)
  | (with_reducible refine g_eqI ?_)
  | (with_reducible refine g_eqS ?_)
  | (with_reducible refine g_neI ?_)
  | (with_reducible refine g_neS ?_)
  | (with_reducible refine g_isN ?_)
  | (with_reducible refine g_notN ?_)
  | (with_reducible refine g_int ?_)
  | (with_reducible refine g_max2 ?_)
  | (with_reducible refine g_min2 ?_)
  | ((with_reducible refine' g_lenL ?gh ?_); (case gh => walk_at "h"))
  | (with_reducible refine g_sub ?_)
  | (with_reducible refine g_gcons ?_)
  | (with_reducible refine g_gnil ?_)
  | (with_reducible refine g_un ?_)
  | (with_reducible refine g_rU ?_)
  | (with_reducible refine g_forL ?_)
  | (with_reducible refine g_forS ?_)
  | (with_reducible refine g_forR1 ?_)
  | (with_reducible refine g_forR2 ?_)
  | (with_reducible refine g_forR3 ?_)
  | (with_reducible refine g_lcL ?_)
  | (with_reducible refine g_lcR1 ?_)
  | (with_reducible refine g_lcR2 ?_)
  | (with_reducible refine g_slice ?_)
  | (with_reducible refine g_part ?_)
  | (with_reducible refine g_kOI ?_)
  | (with_reducible refine g_nopart ?_)
  | (with_reducible refine g_yes ?_)
  | ((with_reducible refine' g_wipe ?gv ?_); (case gv => exact rfl))
  | (with_reducible refine iteT ?_)
  | (with_reducible refine iteF ?_)
  | (with_reducible refine i_nf ?_)
  | (with_reducible refine i_nt ?_)
  | ((with_reducible refine' g_gtup ?gh ?gl ?_); (case gh => walk_at "h"); (case gl => exact rfl))
  | ((with_reducible refine' g_notinI ?gh ?_); (case gh => walk_at "h"))
  | ((with_reducible refine' g_inI ?gh ?_); (case gh => walk_at "h"))
  | ((with_reducible refine' g_kget2 ?gh ?_); (case gh => walk_at "h"))
  | ((with_reducible refine' g_kgotI ?gh ?_); (case gh => walk_at "h"))
  | (with_reducible refine g_tRev ?_)
  | (with_reducible refine g_neB ?_)
  | (with_reducible refine g_eqB ?_)
  | ((with_reducible refine' g_lenT ?gh ?_); (case gh => walk_at "h"))
  | (with_reducible refine g_star ?_)
  | ((with_reducible refine' g_kstarL ?gh ?_); (case gh => walk_at "h"))
  | ((with_reducible refine' g_kstarT ?gh ?_); (case gh => walk_at "h"))
  | (with_reducible refine g_tru ?_)
  | ((with_reducible refine' g_truL ?gh ?_); (case gh => walk_at "h"))
  | (with_reducible refine g_get2 ?_)
  | (with_reducible refine g_try ?_)
  | (with_reducible refine g_fld ?_)
  | (with_reducible refine g_sfld ?_)
  | (with_reducible refine g_meth ?_)
  | (with_reducible refine g_make ?_)
  | (with_reducible refine g_del ?_)
  | (with_reducible refine g_callS ?_)
  | (with_reducible refine g_raise ?_)
  | (with_reducible refine g_xf ?_)
  | (with_reducible refine g_m0 ?_)
  | (with_reducible refine g_km0 ?_)
  | walk_at "is")
local macro_rules | `(tactic| walk_at "gg") => `(tactic| repeat walk_at "g")
local macro_rules | `(tactic| walk_at "sz") => `(tactic| (refine sz ?_; simp only [List.length_cons, List.length_nil, List.length_map, List.length_append, List.length_replicate]; omega))
local macro_rules | `(tactic| walk_at "sub") => `(tactic| ((repeat (first | exact List.Sublist.slnil | with_reducible apply List.Sublist.cons_cons | with_reducible apply List.Sublist.cons)); done))

local macro_rules | `(tactic| walk_at "g") => `(tactic| first
  | (with_reducible refine g_dcL ?_)
  | (with_reducible refine g_dcT ?_)
  | (with_reducible refine g_m1s ?_)
  | (with_reducible refine g_km1s ?_)
  | (with_reducible refine g_starts ?_)
  | (with_reducible refine g_tryX ?_)
  | (with_reducible refine g_lcS ?_))

/-! ### the law's own looks at lines and paths -/
theorem strOk_at {z : Str} (h : PyData.strOk z = true) {i c : Nat} (e : z.cps[i]? = some c) : PyData.strOk ⟨#[c]⟩ = true := by
  unfold PyData.strOk at h ⊢
  rw [Array.all_eq_true] at h
  obtain ⟨lt, e⟩ := Array.getElem?_eq_some_iff.mp e
  have := h i lt
  rw [e] at this
  simpa using this
section
variable {P : Program} {w : World} {K : PySem.W.Frag} {mg : Str → Option Value} {base : Heap}
def wayM : List Str := ["a", "a/b", "b/a/c", "ab", "0", "abcdef/012345/z9", "a/b/c", "a0", "b", "b/a"]
def way (i : Int) : Str := wayM.getD (i % 10).toNat ""
theorem way_ok (i : Int) : PyData.strOk (way i) = true := by
  have h : ∀ k, k < 10 → PyData.strOk (wayM.getD k "") = true := by decide +kernel
  exact h _ (by omega)
def sp_l_way (K : PySem.W.Frag) : Sp := fun vs H Q _ => ∃ i : Int, vs = [.int i] ∧ ∀ H', Same H H' → Q (.str (way i)) H'
theorem sp_l_way_len {vs H Q E} (h : sp_l_way K vs H Q E) : vs.length = 1 := by
  obtain ⟨_, rfl, _⟩ := h
  rfl
theorem ok_l_way (T : Txt K mg) : FnOk P w K mg base CX0 1 T.f_l_way T.fd_l_way ["place"] (sp_l_way K) := by
  refine T.F_l_way.ok sc_l_way (fun vs H Q E h => sp_l_way_len h) (fun cdv A outer s H vs Q E hr h => ?_)
  refine ⟨_, (pss_cons (ps_set (i := 1) sc_l_way.nd rfl (.inl rfl) (pe_lst (pa_cons pe_str (pa_cons pe_str (pa_cons pe_str (pa_cons pe_str (pa_cons pe_str (pa_cons pe_str (pa_cons pe_str (pa_cons pe_str (pa_cons pe_str (pa_cons pe_str pa_nil))))))))))))
      (pss_one (ps_ret (pe_ix (ix_K K (hu_of hr)) (pv 1) (pe_op op_mod (pe_callTy cr_int1 (by rfl) T.m_int (by decide +kernel) (pa_cons (pv 0) pa_nil)) pe_int) (fun _ _ => rfl))))), ?_⟩
  obtain ⟨i, rfl, q⟩ := h
  have hH := Has.start H
  refine g_start (σ' := [some (.int i), none]) rfl ?_
  walk_at "gg"
  refine g_klst (by walk_at "sz") hH (fun p1 H1 n1 h1 => ?_)
  walk_at "gg"
  refine g_rI (by show (0 : Int) < 10; decide) ?_
  have h0 : (0 : Int) ≤ i % 10 := Int.emod_nonneg _ (by decide)
  have h8 : i % 10 < 10 := Int.emod_lt_of_pos _ (by decide)
  refine g_ixZ (xs := wayM) (h1.get (List.Mem.head _)) h0 (by exact h8) (fun z hz => ?_)
  have e : z = way i := by
    unfold way
    rw [List.getD_eq_getElem?_getD, hz]
    rfl
  rw [e]
  exact q H1 h1.same
def sp_l_piece (K : PySem.W.Frag) : Sp := fun vs H Q _ => ∃ i : Int, vs = [.int i] ∧ ∀ z H', Same H H' → z.length ≤ 20 → PyData.strOk z = true → Q (.str z) H'
theorem sp_l_piece_len {vs H Q E} (h : sp_l_piece K vs H Q E) : vs.length = 1 := by
  obtain ⟨_, rfl, _⟩ := h
  rfl
def pieceM : List Str := ["a", "abcdef", "/", "0123456789", "", "b/c", " ", "<=>|-", "abcdefg", "A", "0", "_", "z9/", "012345678", ".", "<<<<<<<"]
theorem piece_ok : ∀ z ∈ pieceM, z.length ≤ 20 ∧ PyData.strOk z = true := by decide +kernel
theorem ok_l_piece (T : Txt K mg) : FnOk P w K mg base CX0 1 T.f_l_piece T.fd_l_piece ["place"] (sp_l_piece K) := by
  refine T.F_l_piece.ok sc_l_piece (fun vs H Q E h => sp_l_piece_len h) (fun cdv A outer s H vs Q E hr h => ?_)
  refine ⟨_, (pss_cons (ps_set (i := 1) sc_l_piece.nd rfl (.inl rfl) (pe_lst (pa_cons pe_str (pa_cons pe_str (pa_cons pe_str (pa_cons pe_str (pa_cons pe_str (pa_cons pe_str (pa_cons pe_str (pa_cons pe_str (pa_cons pe_str (pa_cons pe_str (pa_cons pe_str (pa_cons pe_str pa_nil))))))))))))))
      (pss_cons (ps_set (i := 1) sc_l_piece.nd rfl (.inl rfl) (pe_op (op_addK K) (pv 1) (pe_lst (pa_cons pe_str (pa_cons pe_str (pa_cons pe_str (pa_cons pe_str pa_nil)))))))
      (pss_one (ps_ret (pe_ix (ix_K K (hu_of hr)) (pv 1) (pe_op op_mod (pe_callTy cr_int1 (by rfl) T.m_int (by decide +kernel) (pa_cons (pv 0) pa_nil)) pe_int) (fun _ _ => rfl)))))), ?_⟩
  obtain ⟨i, rfl, q⟩ := h
  have hH := Has.start H
  refine g_start (σ' := [some (.int i), none]) rfl ?_
  walk_at "gg"
  refine g_klst (by walk_at "sz") hH (fun p1 H1 n1 h1 => ?_)
  walk_at "gg"
  refine g_klst (by walk_at "sz") h1 (fun p2 H2 n2 h2 => ?_)
  refine g_addL (h2.get (by walk_at "m")) (h2.get (List.Mem.head _)) (by walk_at "sz") h2 (fun p3 H3 n3 h3 => ?_)
  walk_at "gg"
  refine g_rI (by show (0 : Int) < 16; decide) ?_
  have h0 : (0 : Int) ≤ i % 16 := Int.emod_nonneg _ (by decide)
  have h8 : i % 16 < 16 := Int.emod_lt_of_pos _ (by decide)
  refine g_ixZ (xs := pieceM) (h3.get (List.Mem.head _)) h0 (by exact h8) (fun z hz => ?_)
  have := piece_ok z (List.mem_of_getElem? hz)
  exact q z H3 h3.same this.1 this.2
def sp_l_sign (K : PySem.W.Frag) : Sp := fun vs H Q _ => ∃ i : Int, vs = [.int i] ∧ ∀ z, z.length = 1 → PyData.strOk z = true → Q (.str z) H
theorem sp_l_sign_len {vs H Q E} (h : sp_l_sign K vs H Q E) : vs.length = 1 := by
  obtain ⟨_, rfl, _⟩ := h
  rfl
theorem ok_l_sign (T : Txt K mg) : FnOk P w K mg base CX0 1 T.f_l_sign T.fd_l_sign ["place"] (sp_l_sign K) := by
  refine T.F_l_sign.ok sc_l_sign (fun vs H Q E h => sp_l_sign_len h) (fun cdv A outer s H vs Q E hr h => ?_)
  refine ⟨_, (pss_cons (ps_set (i := 1) sc_l_sign.nd rfl (.inl rfl) pe_str)
      (pss_cons (ps_set (i := 1) sc_l_sign.nd rfl (.inl rfl) (pe_op (op_addK K) (pv 1) pe_str))
      (pss_one (ps_ret (pe_ix (ix_K K (hu_of hr)) (pv 1) (pe_op op_mod (pe_callTy cr_int1 (by rfl) T.m_int (by decide +kernel) (pa_cons (pv 0) pa_nil)) (pe_callB (cr_lenK K) (by rfl) T.m_len (by decide +kernel) (pa_cons (pv 1) pa_nil))) (fun _ _ => rfl)))))), ?_⟩
  obtain ⟨i, rfl, q⟩ := h
  refine g_start (σ' := [some (.int i), none]) rfl ?_
  walk_at "gg"
  refine g_addS (sz (by decide +kernel)) ?_
  have ls : (((" !\"#$&'()*+,-./0123456789:;<=>?@ABCDEFGHIJKLMNOPQRSTUVWXYZ[\\]^_`" : Str) ++ "abcdefghijklmnopqrstuvwxyz{|}~" : Str)).length = 94 := by decide +kernel
  have os : PyData.strOk (((" !\"#$&'()*+,-./0123456789:;<=>?@ABCDEFGHIJKLMNOPQRSTUVWXYZ[\\]^_`" : Str) ++ "abcdefghijklmnopqrstuvwxyz{|}~" : Str)) = true := by decide +kernel
  generalize ((" !\"#$&'()*+,-./0123456789:;<=>?@ABCDEFGHIJKLMNOPQRSTUVWXYZ[\\]^_`" : Str) ++ "abcdefghijklmnopqrstuvwxyz{|}~" : Str) = S at ls os
  walk_at "gg"
  refine g_lenS (sz (by omega)) ?_
  rw [ls]
  walk_at "gg"
  refine g_rI (by show (0 : Int) < 94; decide) ?_
  have h0 : (0 : Int) ≤ i % 94 := Int.emod_nonneg _ (by decide)
  have h8 : i % 94 < 94 := Int.emod_lt_of_pos _ (by decide)
  obtain ⟨k, ek⟩ := Int.eq_ofNat_of_zero_le h0
  have lk : k < S.cps.size := by
    have : S.cps.size = 94 := ls
    omega
  show rIxA K (.str S) (.int (i % 94)) H _
  rw [ek]
  refine g_ixS (c := S.cps[k]) (sz (by omega)) (atI_nat (by rw [Array.getElem?_toList]; exact Array.getElem?_eq_getElem lk)) ?_
  exact q _ rfl (strOk_at os (Array.getElem?_eq_getElem lk))
def sp_l_signs (K : PySem.W.Frag) : Sp := fun vs H Q _ => ∃ z s : Str, vs = [.str z, .str s] ∧ z.length ≤ 10000 ∧ PyData.strOk z = true ∧ ∀ H', Same H H' → Q (.bl (allIn s.cps.toList z)) H'
theorem sp_l_signs_len {vs H Q E} (h : sp_l_signs K vs H Q E) : vs.length = 2 := by
  obtain ⟨_, _, rfl, _⟩ := h
  rfl
theorem ok_l_signs (T : Txt K mg) : FnOk P w K mg base CX0 1 T.f_l_signs T.fd_l_signs ["word", "signs"] (sp_l_signs K) := by
  refine T.F_l_signs.ok sc_l_signs (fun vs H Q E h => sp_l_signs_len h) (fun cdv A outer s H vs Q E hr h => ?_)
  refine ⟨_, (pss_one (ps_ret (pe_cmpR (op_eqK K hr.units) (pe_lc (own := [("sign", 2)]) (g := gName 2) rfl sc_l_signs.nd (pi_str (pv 0)) (blkOk_by (N := n_l_signs) (sc := defScope s_l_signs) (by decide +kernel)) (fun _ _ _ _ _ => (pg_name (i := 2) sc_l_signs.nd rfl (.inl rfl))) (fun _ _ _ _ _ => (pts_one (pt_cmpR (op_notinK K hr.units (u65 hr)) (pv 2) (pv 1) (by rfl)))) (fun _ _ _ _ _ => (pv 2))) (pe_lst pa_nil) (nomark _)))), ?_⟩
  obtain ⟨z, s, rfl, lz, okz, q⟩ := h
  have hH := Has.start H
  refine g_start (σ' := [some (.str z), some (.str s), none]) rfl ?_
  walk_at "gg"
  refine k_lcS hH (fun i acc F' O' => (∃ xs : List Str, acc = xs.map V.str ∧ (∀ x ∈ xs, PyData.strOk x = true) ∧ xs.length ≤ i ∧ (xs = [] ↔ ∀ (j c : Nat), j < i → z.cps[j]? = some c → c ∈ s.cps.toList)) ∧ H = F' ∧ O' = []) ⟨⟨[], rfl, (fun x h => by cases h), Nat.le_refl _, by simp⟩, rfl, rfl⟩ ?_ ?_
  · rintro i c acc F' O' D H1 hc ⟨⟨xs, rfl, okx, lx, ex⟩, rfl, rfl⟩ hh
    have li : i < z.length := (Array.getElem?_eq_some_iff.mp hc).1
    walk_at "gg"
    refine g_notinC ?_
    walk_at "gg"
    refine i_n (fun no => ?_) (fun yes => ?_)
    · walk_at "gg"
      refine k_turn hh (by rw [List.length_map]; omega) ⟨⟨xs ++ [⟨#[c]⟩], by rw [List.map_append]; rfl, ?_, by rw [List.length_append]; show _ + 1 ≤ _; omega, ?_⟩, rfl, rfl⟩
      · intro x hx
        rcases List.mem_append.mp hx with h | h
        · exact okx x h
        · rw [List.mem_singleton.mp h]
          exact strOk_at okz hc
      · constructor
        · intro e
          cases xs <;> cases e
        · intro h
          exact (no (h i c (Nat.lt_succ_self _) hc)).elim
    · refine k_skip hh ⟨⟨xs, rfl, okx, by omega, ex.trans ⟨fun h j d lt hd => ?_, fun h j d lt hd => h j d (by omega) hd⟩⟩, rfl, rfl⟩
      by_cases e : j = i
      · subst e
        rw [hc] at hd
        injection hd with hd
        rw [← hd]
        exact yes
      · exact h j d (by omega) hd
  rintro acc F' O' p1 H1 ⟨⟨xs, rfl, okx, lx, ex⟩, rfl, rfl⟩ h1
  walk_at "gg"
  refine g_klst (by walk_at "sz") h1 (fun p2 H2 n2 h2 => ?_)
  refine g_eqD (Dq.strs (xs := xs) (h2.get (by walk_at "m"))) (Dq.strs (xs := []) (h2.get (List.Mem.head _))) ((Sh.strs (n := 0) okx).ok (by decide)) rfl ?_
  rw [eqv_strs]
  have e : decide (xs = []) = allIn s.cps.toList z := by
    rw [Bool.eq_iff_iff, decide_eq_true_eq, ex, allIn_at]
    exact ⟨fun h i c e => h i c (Array.getElem?_eq_some_iff.mp e).1 e, fun h j c _ e => h j c e⟩
  rw [e]
  exact q H2 h2.same
end

end K11

namespace K11
open PySem PySem.Spec PyProof.Rows L2 Qk
local macro_rules | `(tactic| walk_at "m") => `(tactic| ((repeat (first | exact List.Mem.head _ | apply List.Mem.tail)); done))
local macro_rules | `(tactic| walk_at "h") => `(tactic| first | assumption | exact Has.gF (by assumption) (by assumption) | exact Has.get (by assumption) (by walk_at "m"))
local macro_rules | `(tactic| walk_at "c") => `(tactic| ((repeat (first | exact Chg.hd | apply Chg.tl)); done))
local macro_rules | `(tactic| walk_at "is") => `(tactic| first
  | ((with_reducible refine' is2_non ?gh ?_); (case gh => walk_at "h"))
  | (with_reducible refine is_int_list ?_)
  | (with_reducible refine is_int_tuple ?_)
  | (with_reducible refine is_int_dict ?_)
  | (with_reducible refine is_int_int ?_)
  | (with_reducible refine is_int_bool ?_)
  | (with_reducible refine is_int_str ?_)
  | ((with_reducible refine' is2_int ?gh ?_); (case gh => walk_at "h"))
  | (with_reducible refine is_str_list ?_)
  | (with_reducible refine is_str_tuple ?_)
  | (with_reducible refine is_str_dict ?_)
  | (with_reducible refine is_str_int ?_)
  | (with_reducible refine is_str_bool ?_)
  | (with_reducible refine is_str_str ?_)
  | ((with_reducible refine' is2_str ?gh ?_); (case gh => walk_at "h"))
  | (with_reducible refine is_bool_list ?_)
  | (with_reducible refine is_bool_tuple ?_)
  | (with_reducible refine is_bool_dict ?_)
  | (with_reducible refine is_bool_int ?_)
  | (with_reducible refine is_bool_bool ?_)
  | (with_reducible refine is_bool_str ?_)
  | ((with_reducible refine' is2_bool ?gh ?_); (case gh => walk_at "h"))
  | ((with_reducible refine' is_list_list ?gh ?_); (case gh => walk_at "h"))
  | ((with_reducible refine' is_list_tuple ?gh ?_); (case gh => walk_at "h"))
  | ((with_reducible refine' is_list_dict ?gh ?_); (case gh => walk_at "h"))
  | ((with_reducible refine' is_list_int ?gh ?_); (case gh => walk_at "h"))
  | ((with_reducible refine' is_list_bool ?gh ?_); (case gh => walk_at "h"))
  | ((with_reducible refine' is_list_str ?gh ?_); (case gh => walk_at "h"))
  | ((with_reducible refine' is2_list ?ga ?gb ?_); (case ga => walk_at "h"); (case gb => walk_at "h"))
  | ((with_reducible refine' is_tuple_list ?gh ?_); (case gh => walk_at "h"))
  | ((with_reducible refine' is_tuple_tuple ?gh ?_); (case gh => walk_at "h"))
  | ((with_reducible refine' is_tuple_dict ?gh ?_); (case gh => walk_at "h"))
  | ((with_reducible refine' is_tuple_int ?gh ?_); (case gh => walk_at "h"))
  | ((with_reducible refine' is_tuple_bool ?gh ?_); (case gh => walk_at "h"))
  | ((with_reducible refine' is_tuple_str ?gh ?_); (case gh => walk_at "h"))
  | ((with_reducible refine' is2_tuple ?ga ?gb ?_); (case ga => walk_at "h"); (case gb => walk_at "h"))
  | ((with_reducible refine' is_dict_list ?gh ?_); (case gh => walk_at "h"))
  | ((with_reducible refine' is_dict_tuple ?gh ?_); (case gh => walk_at "h"))
  | ((with_reducible refine' is_dict_dict ?gh ?_); (case gh => walk_at "h"))
  | ((with_reducible refine' is_dict_int ?gh ?_); (case gh => walk_at "h"))
  | ((with_reducible refine' is_dict_bool ?gh ?_); (case gh => walk_at "h"))
  | ((with_reducible refine' is_dict_str ?gh ?_); (case gh => walk_at "h"))
  | ((with_reducible refine' is2_dict ?ga ?gb ?_); (case ga => walk_at "h"); (case gb => walk_at "h")))
local macro_rules | `(tactic| walk_at "g") => `(tactic| first
  | (with_reducible refine g_seq ?_)
  | (with_reducible refine g_asg ?_)
  | ((with_reducible refine g_name ?_); dsimp only [List.set, wipe, List.map])
  | ((with_reducible refine' g_var ?gv ?_); (case gv => exact rfl))
  | (with_reducible refine g_c ?_)
  | (with_reducible refine g_op ?_)
  | (with_reducible refine g_cons ?_)
  | (with_reducible refine g_nil ?_)
  | (with_reducible refine g_cb ?_)
  | (with_reducible refine g_call ?_)
  | (with_reducible refine g_tup ?_)
  | (with_reducible refine g_lst ?_)
  | (with_reducible refine g_bm ?_)
  | (with_reducible refine g_bm0 ?_)
  | ((with_reducible refine' g_kbm ?gh ?_); (case gh => walk_at "h"))
  | (with_reducible refine g_drop ?_)
  | (with_reducible refine g_ret ?_)
  | (with_reducible refine g_retN ?_)
  | (with_reducible refine g_next ?_)
  | (with_reducible refine g_brk ?_)
  | (with_reducible refine g_cont ?_)
  | (with_reducible refine g_if ?_)
  | ((with_reducible refine' g_aug ?gv ?_); (case gv => exact rfl))
  | (with_reducible refine g_ipI ?_)
  | (with_reducible refine g_test ?_)
  | (with_reducible refine g_tB ?_)
  | (with_reducible refine g_kB ?_)
  | (with_reducible refine g_not ?_)
  | (with_reducible refine g_and ?_)
  | (with_reducible refine g_or ?_)
  | (with_reducible refine g_andV ?_)
  | (with_reducible refine g_orV ?_)
  | (with_reducible refine g_notV ?_)
  | (with_reducible refine g_ifE ?_)
  | (with_reducible refine g_addI ?_)
  | (with_reducible refine g_rI0 ?_)
  | (with_reducible refine g_eqI ?_)
  | (with_reducible refine g_eqS ?_)
  | (with_reducible refine g_neI ?_)
  | (with_reducible refine g_neS ?_)
  | (with_reducible refine g_isN ?_)
  | (with_reducible refine g_notN ?_)
  | (with_reducible refine g_int ?_)
  | (with_reducible refine g_max2 ?_)
  | (with_reducible refine g_min2 ?_)
  | ((with_reducible refine' g_lenL ?gh ?_); (case gh => walk_at "h"))
  | (with_reducible refine g_sub ?_)
  | (with_reducible refine g_gcons ?_)
  | (with_reducible refine g_gnil ?_)
  | (with_reducible refine g_un ?_)
  | (with_reducible refine g_rU ?_)
  | (with_reducible refine g_forL ?_)
  | (with_reducible refine g_forS ?_)
  | (with_reducible refine g_forR1 ?_)
  | (with_reducible refine g_forR2 ?_)
  | (with_reducible refine g_forR3 ?_)
  | (with_reducible refine g_lcL ?_)
  | (with_reducible refine g_lcR1 ?_)
  | (with_reducible refine g_lcR2 ?_)
  | (with_reducible refine g_slice ?_)
  | (with_reducible refine g_part ?_)
  | (with_reducible refine g_kOI ?_)
  | (with_reducible refine g_nopart ?_)
  | (with_reducible refine g_yes ?_)
  | ((with_reducible refine' g_wipe ?gv ?_); (case gv => exact rfl))
  | (with_reducible refine iteT ?_)
  | (with_reducible refine iteF ?_)
  | (with_reducible refine i_nf ?_)
  | (with_reducible refine i_nt ?_)
  | ((with_reducible refine' g_gtup ?gh ?gl ?_); (case gh => walk_at "h"); (case gl => exact rfl))
  | ((with_reducible refine' g_notinI ?gh ?_); (case gh => walk_at "h"))
  | ((with_reducible refine' g_inI ?gh ?_); (case gh => walk_at "h"))
  | ((with_reducible refine' g_kget2 ?gh ?_); (case gh => walk_at "h"))
  | ((with_reducible refine' g_kgotI ?gh ?_); (case gh => walk_at "h"))
  | (with_reducible refine g_tRev ?_)
  | (with_reducible refine g_neB ?_)
  | (with_reducible refine g_eqB ?_)
  | ((with_reducible refine' g_lenT ?gh ?_); (case gh => walk_at "h"))
  | (with_reducible refine g_star ?_)
  | ((with_reducible refine' g_kstarL ?gh ?_); (case gh => walk_at "h"))
  | ((with_reducible refine' g_kstarT ?gh ?_); (case gh => walk_at "h"))
  | (with_reducible refine g_tru ?_)
  | ((with_reducible refine' g_truL ?gh ?_); (case gh => walk_at "h"))
  | (with_reducible refine g_get2 ?_)
  | (with_reducible refine g_try ?_)
  | (with_reducible refine g_fld ?_)
  | (with_reducible refine g_sfld ?_)
  | (with_reducible refine g_meth ?_)
  | (with_reducible refine g_make ?_)
  | (with_reducible refine g_del ?_)
  | (with_reducible refine g_callS ?_)
  | (with_reducible refine g_raise ?_)
  | (with_reducible refine g_xf ?_)
  | (with_reducible refine g_m0 ?_)
  | (with_reducible refine g_km0 ?_)
  | walk_at "is")
local macro_rules | `(tactic| walk_at "gg") => `(tactic| repeat walk_at "g")
local macro_rules | `(tactic| walk_at "sz") => `(tactic| (refine sz ?_; simp only [List.length_cons, List.length_nil, List.length_map, List.length_append, List.length_replicate]; omega))
local macro_rules | `(tactic| walk_at "sub") => `(tactic| ((repeat (first | exact List.Sublist.slnil | with_reducible apply List.Sublist.cons_cons | with_reducible apply List.Sublist.cons)); done))

local macro_rules | `(tactic| walk_at "g") => `(tactic| first
  | (with_reducible refine g_dcL ?_)
  | (with_reducible refine g_dcT ?_)
  | (with_reducible refine g_m1s ?_)
  | (with_reducible refine g_km1s ?_)
  | (with_reducible refine g_starts ?_)
  | (with_reducible refine g_tryX ?_)
  | (with_reducible refine g_lcS ?_))

/-! ### parts of a text -/
theorem sub_ok {x : Str} (h : PyData.strOk x = true) (i j : Nat) : PyData.strOk (Builtin.Str.strSub x i j) = true := by
  unfold PyData.strOk Builtin.Str.strSub at *
  rw [Array.all_eq_true] at h ⊢
  intro k hk
  rw [Array.getElem_extract]
  exact h _ _
theorem partsFrom_ok {x : Str} (h : PyData.strOk x = true) (n : Nat) : ∀ (cuts : List Nat) (a : Nat), ∀ p ∈ StrLaws.partsFrom x n a cuts, PyData.strOk p = true
  | [], a, p, hp => by rw [List.mem_singleton.mp hp]; exact sub_ok h _ _
  | c :: r, a, p, hp => by
    rcases List.mem_cons.mp hp with rfl | hp'
    · exact sub_ok h _ _
    · exact partsFrom_ok h n r _ p hp'
theorem split_ok {x y : Str} (hx : PyData.strOk x = true) : ∀ a ∈ Txt.split x y, PyData.strOk a = true := by
  intro a h
  unfold Txt.split at h
  split at h
  · rw [List.mem_singleton.mp h]; exact hx
  · split at h
    · rw [List.mem_singleton.mp h]; exact hx
    · rw [StrLaws.partsBetween_eq] at h
      exact partsFrom_ok hx _ _ _ a h
section
variable {P : Program} {w : World} {K : PySem.W.Frag} {mg : Str → Option Value} {base : Heap}
def sp_l_is_line (K : PySem.W.Frag) : Sp := fun vs H Q _ => ∃ z : Str, vs = [.str z] ∧ z.length ≤ 10000 ∧ PyData.strOk z = true ∧ ∀ H', Same H H' → Q (.bl (isLine z)) H'
theorem sp_l_is_line_len {vs H Q E} (h : sp_l_is_line K vs H Q E) : vs.length = 1 := by
  obtain ⟨_, rfl, _⟩ := h
  rfl
theorem ok_l_is_line (T : Txt K mg) : FnOk P w K mg base CX0 2 T.f_l_is_line T.fd_l_is_line ["value"] (sp_l_is_line K) := by
  refine T.F_l_is_line.ok sc_l_is_line (fun vs H Q E h => sp_l_is_line_len h) (fun cdv A outer s H vs Q E hr h => ?_)
  refine ⟨_, (pss_cons (ps_set (i := 1) sc_l_is_line.nd rfl (.inl rfl) pe_str)
      (pss_one (ps_ret (pe_and (pe_cmpR op_le (pe_callB (cr_lenK K) (by rfl) T.m_len (by decide +kernel) (pa_cons (pv 0) pa_nil)) pe_int (nomark _)) (pe_one (pe_call (ok_l_signs T) (hr.mono (by decide)) (by rfl) T.g_l_signs T.F_l_signs.kp T.b_l_signs .nil pass0 (pa_cons (pv 0) (pa_cons (pv 1) pa_nil)))))))), ?_⟩
  obtain ⟨z, rfl, lz, okz, q⟩ := h
  refine g_start (σ' := [some (.str z), none]) rfl ?_
  walk_at "gg"
  refine g_lenS (sz (by omega)) ?_
  unfold isLine at q
  walk_at "gg"
  refine i_d (fun e => ?_) (fun e => ?_)
  · rw [decide_eq_true (by omega), Bool.true_and] at q
    walk_at "gg"
    exact ⟨z, _, rfl, lz, okz, q⟩
  · rw [decide_eq_false (by omega), Bool.false_and] at q
    walk_at "gg"
    exact q H (Same.refl _)
def sp_l_is_way (K : PySem.W.Frag) : Sp := fun vs H Q _ => ∃ z : Str, vs = [.str z] ∧ z.length ≤ 5000 ∧ PyData.strOk z = true ∧ ∀ H', Same H H' → Q (.bl (isPath z)) H'
theorem sp_l_is_way_len {vs H Q E} (h : sp_l_is_way K vs H Q E) : vs.length = 1 := by
  obtain ⟨_, rfl, _⟩ := h
  rfl
theorem ok_l_is_way (T : Txt K mg) : FnOk P w K mg base CX0 2 T.f_l_is_way T.fd_l_is_way ["value"] (sp_l_is_way K) := by
  refine T.F_l_is_way.ok sc_l_is_way (fun vs H Q E h => sp_l_is_way_len h) (fun cdv A outer s H vs Q E hr h => ?_)
  refine ⟨_, (pss_cons (ps_set (i := 1) sc_l_is_way.nd rfl (.inl rfl) (k_split (pv 0) pe_str))
      (pss_cons (ps_for PassesOwn.never rfl (k_il K (pi_list (pv 1))) (pg_name (i := 2) sc_l_is_way.nd rfl (.inl rfl)) (pss_cons (ps_if (pt_not (pt_val (pe_call (ok_l_signs T) (hr.mono (by decide)) (by rfl) T.g_l_signs T.F_l_signs.kp T.b_l_signs .nil pass0 (pa_cons (pv 2) (pa_cons pe_str pa_nil))))) (pss_one (ps_ret pe_bl)) pss_nil)
      (pss_one (ps_if (PW.pt (pw_or (pt_cmpR op_lt (pe_callB (cr_lenK K) (by rfl) T.m_len (by decide +kernel) (pa_cons (pv 2) pa_nil)) pe_int (nomark _)) (pw_or1 (pt_cmpR op_gt (pe_callB (cr_lenK K) (by rfl) T.m_len (by decide +kernel) (pa_cons (pv 2) pa_nil)) pe_int (nomark _))))) (pss_one (ps_ret pe_bl)) pss_nil))))
      (pss_one (ps_ret (pe_cmpR op_le (pe_callB (cr_lenK K) (by rfl) T.m_len (by decide +kernel) (pa_cons (pv 1) pa_nil)) pe_int (nomark _)))))), ?_⟩
  obtain ⟨z, rfl, lz, okz, q⟩ := h
  refine g_start (σ' := [some (.str z), none, none]) rfl ?_
  walk_at "gg"
  refine g_split rfl (by omega) (Has.start H) (fun p H1 n1 h1 => ?_)
  have lsp := PyProof.Rows.split_le z "/"
  have lpa : ∀ a ∈ Txt.split z "/", a.length ≤ z.length := fun a ha => PyProof.Rows.part_short ha
  have okp : ∀ a ∈ Txt.split z "/", PyData.strOk a = true := split_ok okz
  have hp := h1.get (List.Mem.head _)
  unfold isPath at q
  generalize Txt.split z "/" = ws at h1 lsp lpa okp q hp
  walk_at "gg"
  refine k_forL hp (fun i σ H' => (∃ y2, σ = [some (.str z), some (.ref p), y2] ∧ Same H1 H') ∧ ∀ a ∈ ws.take i, isWord a = true) ⟨⟨_, rfl, Same.refl _⟩, fun a h => by cases h⟩ ?_ ?_ ?_
  · rintro i σ H' _ ⟨⟨y2, rfl, s⟩, _⟩
    exact s _ _ hp
  · rintro i v σ H' hv ⟨⟨y2, rfl, s⟩, ok⟩
    obtain ⟨a, ha, rfl⟩ := str_at hv
    have am := List.mem_of_getElem? ha
    have la := lpa a am
    have no : isWord a = false → ws.all isWord = false := fun hb => by
      cases e : ws.all isWord with
      | false => rfl
      | true =>
        have := List.all_eq_true.mp e a am
        rw [hb] at this
        cases this
    walk_at "gg"
    refine ⟨a, _, rfl, by omega, okp a am, fun H2 s2 => ?_⟩
    have sA := h1.same.trans (s.trans s2)
    walk_at "gg"
    cases hb : allIn (("abcdefghijklmnopqrstuvwxyz0123456789" : Str).cps.toList) a with
    | false =>
      walk_at "gg"
      have := no (by unfold isWord wsignsL; rw [hb, Bool.and_false, Bool.and_false])
      rw [this, Bool.and_false] at q
      exact q _ sA
    | true =>
      walk_at "gg"
      refine g_lenS (sz (by omega)) ?_
      walk_at "gg"
      refine i_d (fun e => ?_) (fun e => ?_)
      · walk_at "gg"
        have := no (by unfold isWord; rw [decide_eq_false (by omega), Bool.false_and])
        rw [this, Bool.and_false] at q
        exact q _ sA
      walk_at "gg"
      refine g_lenS (sz (by omega)) ?_
      walk_at "gg"
      refine i_d (fun e2 => ?_) (fun e2 => ?_)
      · walk_at "gg"
        have := no (by unfold isWord; rw [decide_eq_false (p := a.length ≤ 6) (by omega), Bool.false_and, Bool.and_false])
        rw [this, Bool.and_false] at q
        exact q _ sA
      walk_at "gg"
      refine ⟨⟨_, rfl, s.trans s2⟩, fun b hb' => ?_⟩
      rw [List.take_add_one, ha] at hb'
      rcases List.mem_append.mp hb' with h | h
      · exact ok b h
      · have e : b = a := by simpa using h
        rw [e]
        unfold isWord wsignsL
        rw [hb, decide_eq_true (by omega), decide_eq_true (by omega)]
        rfl
  · rintro σ H' ⟨⟨y2, rfl, s⟩, ok⟩
    rw [List.length_map, List.take_length] at ok
    have : ws.all isWord = true := List.all_eq_true.mpr ok
    rw [this, Bool.and_true] at q
    have hp' := s _ _ hp
    walk_at "gg"
    rw [List.length_map]
    have e : decide (((ws.length : Nat) : Int) ≤ 3) = decide (ws.length ≤ 3) := decide_eq_decide.mpr (by omega)
    rw [e]
    exact q _ (h1.same.trans s)
def badV (t : Tx) : Int := match badT t with
  | some k => (k : Nat)
  | none => -1
def sp_l_bad_line (K : PySem.W.Frag) : Sp := fun vs H Q _ => ∃ (l : Addr) (t : Tx), vs = [.ref l] ∧ H l = some (.lst (t.map V.str)) ∧ (∀ z ∈ t, z.length ≤ 10000 ∧ PyData.strOk z = true) ∧ t.length ≤ 1000 ∧ ∀ H', Same H H' → Q (.int (badV t)) H'
theorem sp_l_bad_line_len {vs H Q E} (h : sp_l_bad_line K vs H Q E) : vs.length = 1 := by
  obtain ⟨_, _, rfl, _⟩ := h
  rfl
theorem ok_l_bad_line (T : Txt K mg) : FnOk P w K mg base CX0 3 T.f_l_bad_line T.fd_l_bad_line ["text"] (sp_l_bad_line K) := by
  refine T.F_l_bad_line.ok sc_l_bad_line (fun vs H Q E h => sp_l_bad_line_len h) (fun cdv A outer s H vs Q E hr h => ?_)
  refine ⟨_, (pss_cons (ps_for PassesOwn.never rfl (pi_range1 rfl T.m_range (pa_cons (pe_callB (cr_lenK K) (by rfl) T.m_len (by decide +kernel) (pa_cons (pv 0) pa_nil)) pa_nil)) (pg_name (i := 1) sc_l_bad_line.nd rfl (.inl rfl)) (pss_one (ps_if (PW.pt (pw_or (pt_cmpR (op_eqK K hr.units) (pv 1) pe_int (nomark _)) (pw_or1 (pt_not (pt_val (pe_call (ok_l_is_line T) (hr.mono (by decide)) (by rfl) T.g_l_is_line T.F_l_is_line.kp T.b_l_is_line .nil pass0 (pa_cons (pe_ix (ix_K K (hu_of hr)) (pv 0) (pv 1) (fun _ _ => rfl)) pa_nil))))))) (pss_one (ps_ret (pv 1))) pss_nil)))
      (pss_one (ps_ret (pe_un un_neg pe_int)))), ?_⟩
  obtain ⟨l, t, rfl, hl, okt, lt, q⟩ := h
  refine g_start (σ' := [some (.ref l), none]) rfl ?_
  walk_at "gg"
  rw [List.length_map]
  refine k_forR1 (fun i σ H' => (∃ y1, σ = [some (.ref l), y1] ∧ Same H H') ∧ i ≤ 40 ∧ badT t = badF i (t.drop i)) (by omega) (by omega) ⟨⟨_, rfl, Same.refl _⟩, by omega, by rw [List.drop_zero]; rfl⟩ ?_ ?_
  · rintro i σ H' hi ⟨⟨y1, rfl, s⟩, i40, eb⟩
    have li : i < t.length := by omega
    have ez : t[i]? = some t[i] := List.getElem?_eq_getElem li
    have okz := okt t[i] (List.getElem_mem li)
    generalize t[i] = z at ez okz
    rw [badF_drop ez] at eb
    have hl' := s _ _ hl
    walk_at "gg"
    refine i_d (fun e => ?_) (fun e => ?_)
    · walk_at "gg"
      have e : i = 40 := by omega
      rw [if_pos (by omega)] at eb
      unfold badV at q
      rw [eb] at q
      exact q _ s
    walk_at "gg"
    rw [if_neg (by omega)] at eb
    refine g_ixL (v := .str z) hl' (atI_nat (by rw [List.getElem?_map, ez]; rfl)) ?_
    walk_at "gg"
    refine ⟨z, rfl, okz.1, okz.2, fun H2 s2 => ?_⟩
    walk_at "gg"
    cases hb : isLine z with
    | false =>
      rw [hb, if_neg (by decide)] at eb
      walk_at "gg"
      unfold badV at q
      rw [eb] at q
      exact q _ (s.trans s2)
    | true =>
      rw [hb, if_pos rfl] at eb
      walk_at "gg"
      exact ⟨⟨_, rfl, s.trans s2⟩, by omega, eb⟩
  · rintro σ H' ⟨⟨y1, rfl, s⟩, _, eb⟩
    have e5 : (t.length : Int).toNat = t.length := by omega
    rw [e5, badF_end _ _ (Nat.le_refl _)] at eb
    walk_at "gg"
    unfold badV at q
    rw [eb] at q
    exact q _ s
end

end K11

namespace K11
open PySem PySem.Spec PyProof.Rows L2 Qk
local macro_rules | `(tactic| walk_at "m") => `(tactic| ((repeat (first | exact List.Mem.head _ | apply List.Mem.tail)); done))
local macro_rules | `(tactic| walk_at "h") => `(tactic| first | assumption | exact Has.gF (by assumption) (by assumption) | exact Has.get (by assumption) (by walk_at "m"))
local macro_rules | `(tactic| walk_at "c") => `(tactic| ((repeat (first | exact Chg.hd | apply Chg.tl)); done))
local macro_rules | `(tactic| walk_at "is") => `(tactic| first
  | ((with_reducible refine' is2_non ?gh ?_); (case gh => walk_at "h"))
  | (with_reducible refine is_int_list ?_)
  | (with_reducible refine is_int_tuple ?_)
  | (with_reducible refine is_int_dict ?_)
  | (with_reducible refine is_int_int ?_)
  | (with_reducible refine is_int_bool ?_)
  | (with_reducible refine is_int_str ?_)
  | ((with_reducible refine' is2_int ?gh ?_); (case gh => walk_at "h"))
  | (with_reducible refine is_str_list ?_)
  | (with_reducible refine is_str_tuple ?_)
  | (with_reducible refine is_str_dict ?_)
  | (with_reducible refine is_str_int ?_)
  | (with_reducible refine is_str_bool ?_)
  | (with_reducible refine is_str_str ?_)
  | ((with_reducible refine' is2_str ?gh ?_); (case gh => walk_at "h"))
  | (with_reducible refine is_bool_list ?_)
  | (with_reducible refine is_bool_tuple ?_)
  | (with_reducible refine is_bool_dict ?_)
  | (with_reducible refine is_bool_int ?_)
  | (with_reducible refine is_bool_bool ?_)
  | (with_reducible refine is_bool_str ?_)
  | ((with_reducible refine' is2_bool ?gh ?_); (case gh => walk_at "h"))
  | ((with_reducible refine' is_list_list ?gh ?_); (case gh => walk_at "h"))
  | ((with_reducible refine' is_list_tuple ?gh ?_); (case gh => walk_at "h"))
  | ((with_reducible refine' is_list_dict ?gh ?_); (case gh => walk_at "h"))
  | ((with_reducible refine' is_list_int ?gh ?_); (case gh => walk_at "h"))
  | ((with_reducible refine' is_list_bool ?gh ?_); (case gh => walk_at "h"))
  | ((with_reducible refine' is_list_str ?gh ?_); (case gh => walk_at "h"))
  | ((with_reducible refine' is2_list ?ga ?gb ?_); (case ga => walk_at "h"); (case gb => walk_at "h"))
  | ((with_reducible refine' is_tuple_list ?gh ?_); (case gh => walk_at "h"))
  | ((with_reducible refine' is_tuple_tuple ?gh ?_); (case gh => walk_at "h"))
  | ((with_reducible refine' is_tuple_dict ?gh ?_); (case gh => walk_at "h"))
  | ((with_reducible refine' is_tuple_int ?gh ?_); (case gh => walk_at "h"))
  | ((with_reducible refine' is_tuple_bool ?gh ?_); (case gh => walk_at "h"))
  | ((with_reducible refine' is_tuple_str ?gh ?_); (case gh => walk_at "h"))
  | ((with_reducible refine' is2_tuple ?ga ?gb ?_); (case ga => walk_at "h"); (case gb => walk_at "h"))
  | ((with_reducible refine' is_dict_list ?gh ?_); (case gh => walk_at "h"))
  | ((with_reducible refine' is_dict_tuple ?gh ?_); (case gh => walk_at "h"))
  | ((with_reducible refine' is_dict_dict ?gh ?_); (case gh => walk_at "h"))
  | ((with_reducible refine' is_dict_int ?gh ?_); (case gh => walk_at "h"))
  | ((with_reducible refine' is_dict_bool ?gh ?_); (case gh => walk_at "h"))
  | ((with_reducible refine' is_dict_str ?gh ?_); (case gh => walk_at "h"))
  | ((with_reducible refine' is2_dict ?ga ?gb ?_); (case ga => walk_at "h"); (case gb => walk_at "h")))
local macro_rules | `(tactic| walk_at "g") => `(tactic| first
  | (with_reducible refine g_seq ?_)
  | (with_reducible refine g_asg ?_)
  | ((with_reducible refine g_name ?_); dsimp only [List.set, wipe, List.map])
  | ((with_reducible refine' g_var ?gv ?_); (case gv => exact rfl))
  | (with_reducible refine g_c ?_)
  | (with_reducible refine g_op ?_)
  | (with_reducible refine g_cons ?_)
  | (with_reducible refine g_nil ?_)
  | (with_reducible refine g_cb ?_)
  | (with_reducible refine g_call ?_)
  | (with_reducible refine g_tup ?_)
  | (with_reducible refine g_lst ?_)
  | (with_reducible refine g_bm ?_)
  | (with_reducible refine g_bm0 ?_)
  | ((with_reducible refine' g_kbm ?gh ?_); (case gh => walk_at "h"))
  | (with_reducible refine g_drop ?_)
  | (with_reducible refine g_ret ?_)
  | (with_reducible refine g_retN ?_)
  | (with_reducible refine g_next ?_)
  | (with_reducible refine g_brk ?_)
  | (with_reducible refine g_cont ?_)
  | (with_reducible refine g_if ?_)
  | ((with_reducible refine' g_aug ?gv ?_); (case gv => exact rfl))
  | (with_reducible refine g_ipI ?_)
  | (with_reducible refine g_test ?_)
  | (with_reducible refine g_tB ?_)
  | (with_reducible refine g_kB ?_)
  | (with_reducible refine g_not ?_)
  | (with_reducible refine g_and ?_)
  | (with_reducible refine g_or ?_)
  | (with_reducible refine g_andV ?_)
  | (with_reducible refine g_orV ?_)
  | (with_reducible refine g_notV ?_)
  | (with_reducible refine g_ifE ?_)
  | (with_reducible refine g_addI ?_)
  | (with_reducible refine g_rI0 ?_)
  | (with_reducible refine g_eqI ?_)
  | (with_reducible refine g_eqS ?_)
  | (with_reducible refine g_neI ?_)
  | (with_reducible refine g_neS ?_)
  | (with_reducible refine g_isN ?_)
  | (with_reducible refine g_notN ?_)
  | (with_reducible refine g_int ?_)
  | (with_reducible refine g_max2 ?_)
  | (with_reducible refine g_min2 ?_)
  | ((with_reducible refine' g_lenL ?gh ?_); (case gh => walk_at "h"))
  | (with_reducible refine g_sub ?_)
  | (with_reducible refine g_gcons ?_)
  | (with_reducible refine g_gnil ?_)
  | (with_reducible refine g_un ?_)
  | (with_reducible refine g_rU ?_)
  | (with_reducible refine g_forL ?_)
  | (with_reducible refine g_forS ?_)
  | (with_reducible refine g_forR1 ?_)
  | (with_reducible refine g_forR2 ?_)
  | (with_reducible refine g_forR3 ?_)
  | (with_reducible refine g_lcL ?_)
  | (with_reducible refine g_lcR1 ?_)
  | (with_reducible refine g_lcR2 ?_)
  | (with_reducible refine g_slice ?_)
  | (with_reducible refine g_part ?_)
  | (with_reducible refine g_kOI ?_)
  | (with_reducible refine g_nopart ?_)
  | (with_reducible refine g_yes ?_)
  | ((with_reducible refine' g_wipe ?gv ?_); (case gv => exact rfl))
  | (with_reducible refine iteT ?_)
  | (with_reducible refine iteF ?_)
  | (with_reducible refine i_nf ?_)
  | (with_reducible refine i_nt ?_)
  | ((with_reducible refine' g_gtup ?gh ?gl ?_); (case gh => walk_at "h"); (case gl => exact rfl))
  | ((with_reducible refine' g_notinI ?gh ?_); (case gh => walk_at "h"))
  | ((with_reducible refine' g_inI ?gh ?_); (case gh => walk_at "h"))
  | ((with_reducible refine' g_kget2 ?gh ?_); (case gh => walk_at "h"))
  | ((with_reducible refine' g_kgotI ?gh ?_); (case gh => walk_at "h"))
  | (with_reducible refine g_tRev ?_)
  | (with_reducible refine g_neB ?_)
  | (with_reducible refine g_eqB ?_)
  | ((with_reducible refine' g_lenT ?gh ?_); (case gh => walk_at "h"))
  | (with_reducible refine g_star ?_)
  | ((with_reducible refine' g_kstarL ?gh ?_); (case gh => walk_at "h"))
  | ((with_reducible refine' g_kstarT ?gh ?_); (case gh => walk_at "h"))
  | (with_reducible refine g_tru ?_)
  | ((with_reducible refine' g_truL ?gh ?_); (case gh => walk_at "h"))
  | (with_reducible refine g_get2 ?_)
  | (with_reducible refine g_try ?_)
  | (with_reducible refine g_fld ?_)
  | (with_reducible refine g_sfld ?_)
  | (with_reducible refine g_meth ?_)
  | (with_reducible refine g_make ?_)
  | (with_reducible refine g_del ?_)
  | (with_reducible refine g_callS ?_)
  | (with_reducible refine g_raise ?_)
  | (with_reducible refine g_xf ?_)
  | (with_reducible refine g_m0 ?_)
  | (with_reducible refine g_km0 ?_)
  | walk_at "is")
local macro_rules | `(tactic| walk_at "gg") => `(tactic| repeat walk_at "g")
local macro_rules | `(tactic| walk_at "sz") => `(tactic| (refine sz ?_; simp only [List.length_cons, List.length_nil, List.length_map, List.length_append, List.length_replicate]; omega))
local macro_rules | `(tactic| walk_at "sub") => `(tactic| ((repeat (first | exact List.Sublist.slnil | with_reducible apply List.Sublist.cons_cons | with_reducible apply List.Sublist.cons)); done))

local macro_rules | `(tactic| walk_at "g") => `(tactic| first
  | (with_reducible refine g_dcL ?_)
  | (with_reducible refine g_dcT ?_)
  | (with_reducible refine g_m1s ?_)
  | (with_reducible refine g_km1s ?_)
  | (with_reducible refine g_starts ?_)
  | (with_reducible refine g_tryX ?_)
  | (with_reducible refine g_lcS ?_))

/-! ### the first key that is none -/
section
variable {P : Program} {w : World} {K : PySem.W.Frag} {mg : Str → Option Value} {base : Heap}
def sp_l_bad_key (K : PySem.W.Frag) : Sp := fun vs H Q _ => ∃ (a : Addr) (A : Tr), vs = [.ref a] ∧ TrAt H a A ∧ TrB A ∧ okTr A ∧ ∀ us, Asc us → (∀ z, z ∈ us ↔ z ∈ A.map (·.1)) →
  (badK A 0 us = none → ∀ H', Same H H' → Q .non H') ∧ (∀ r, badK A 0 us = some r → ∀ p H', Same H H' → H' p = some (.tup [.str r.1, plV r.2]) → Q (.ref p) H')
theorem sp_l_bad_key_len {vs H Q E} (h : sp_l_bad_key K vs H Q E) : vs.length = 1 := by
  obtain ⟨_, _, rfl, _⟩ := h
  rfl
theorem ok_l_bad_key (T : Txt K mg) : FnOk P w K mg base CX0 4 T.f_l_bad_key T.fd_l_bad_key ["tree"] (sp_l_bad_key K) := by
  refine T.F_l_bad_key.ok sc_l_bad_key (fun vs H Q E h => sp_l_bad_key_len h) (fun cdv A outer s H vs Q E hr h => ?_)
  refine ⟨_, (pss_cons (ps_set (i := 1) sc_l_bad_key.nd rfl (.inl rfl) (pe_callB (cr_sortA K rfl) (by rfl) T.m_sorted (by decide +kernel) (pa_cons (pe_callTy (cr_listD rfl) (by rfl) T.m_list (by decide +kernel) (pa_cons (pv 0) pa_nil)) pa_nil)))
      (pss_cons (ps_for PassesOwn.never rfl (pi_range1 rfl T.m_range (pa_cons (pe_callB (cr_lenK K) (by rfl) T.m_len (by decide +kernel) (pa_cons (pv 1) pa_nil)) pa_nil)) (pg_name (i := 2) sc_l_bad_key.nd rfl (.inl rfl)) (pss_cons (ps_if (PW.pt (pw_or (pt_cmpR (op_eqK K hr.units) (pv 2) pe_int (nomark _)) (pw_or1 (pt_not (pt_val (pe_call (ok_l_is_way T) (hr.mono (by decide)) (by rfl) T.g_l_is_way T.F_l_is_way.kp T.b_l_is_way .nil pass0 (pa_cons (pe_ix (ix_K K (hu_of hr)) (pv 1) (pv 2) (fun _ _ => rfl)) pa_nil))))))) (pss_one (ps_ret (pe_tup (pa_cons (pe_ix (ix_K K (hu_of hr)) (pv 1) (pv 2) (fun _ _ => rfl)) (pa_cons pe_non pa_nil))))) pss_nil)
      (pss_cons (ps_set (i := 3) sc_l_bad_key.nd rfl (.inl rfl) (pe_call (ok_l_bad_line T) (hr.mono (by decide)) (by rfl) T.g_l_bad_line T.F_l_bad_line.kp T.b_l_bad_line .nil pass0 (pa_cons (pe_ix (ix_K K (hu_of hr)) (pv 0) (pe_ix (ix_K K (hu_of hr)) (pv 1) (pv 2) (fun _ _ => rfl)) (fun _ _ => rfl)) pa_nil)))
      (pss_one (ps_if (pt_cmpR op_ge (pv 3) pe_int (nomark _)) (pss_one (ps_ret (pe_tup (pa_cons (pe_ix (ix_K K (hu_of hr)) (pv 1) (pv 2) (fun _ _ => rfl)) (pa_cons (pv 3) pa_nil))))) pss_nil)))))
      (pss_one (ps_ret pe_non)))), ?_⟩
  obtain ⟨a, A, rfl, ⟨kvs, ha, ek, nd, dq⟩, tb, ok, h⟩ := h
  have hH := Has.start H
  have few := tb.few
  refine g_start (σ' := [some (.ref a), none, none, none]) rfl ?_
  walk_at "gg"
  refine g_listD ha hH (fun p1 H1 n1 h1 => ?_)
  rw [tr_keys ek] at h1
  walk_at "gg"
  refine g_sortS (h1.get (List.Mem.head _)) (by rw [List.length_map]; omega) h1 (fun us p2 H2 pm srt n2 h2 => ?_)
  have asc := asc_of srt (pm.nodup_iff.mpr nd)
  obtain ⟨q, qe⟩ := h us asc (fun z => pm.mem_iff)
  have lu := pm.length_eq
  rw [List.length_map] at lu
  walk_at "gg"
  rw [List.length_map]
  refine k_forR1 (fun i σ H' => (∃ y2 y3, σ = [some (.ref a), some (.ref p2), y2, y3] ∧ Same H2 H') ∧ i ≤ 8 ∧ badK A 0 us = badK A i (us.drop i)) (by omega) (by omega) ⟨⟨_, _, rfl, Same.refl _⟩, by omega, by rw [List.drop_zero]⟩ ?_ ?_
  · rintro i σ H' hi ⟨⟨y2, y3, rfl, s⟩, i8, eb⟩
    have li : i < us.length := by omega
    have ez : us[i]? = some us[i] := List.getElem?_eq_getElem li
    generalize us[i] = z at ez
    have hp2 := s _ _ (h2.get (List.Mem.head _))
    have sH := h2.same.trans s
    have zm : z ∈ A.map (·.1) := pm.mem_iff.mp (List.mem_of_getElem? ez)
    obtain ⟨p, hp, rfl⟩ := List.mem_map.mp zm
    have pb := tb.ok p hp
    have po := ok p hp
    have gt := getT_of nd hp
    rw [badK_drop ez, gt] at eb
    have iz : (us.map V.str)[i]? = some (.str p.1) := by rw [List.getElem?_map, ez]; rfl
    walk_at "gg"
    refine i_d (fun e => ?_) (fun e => ?_)
    · walk_at "gg"
      refine g_ixL (v := .str p.1) hp2 (atI_nat iz) ?_
      rw [if_pos (by omega)] at eb
      walk_at "gg"
      refine g_ktupF (by walk_at "sz") (Has.start H') (fun p3 H3 F3 n3 s3 f3 h3 => ?_)
      exact qe _ eb p3 H3 ((sH.trans s3).trans h3.same) (h3.same _ _ f3)
    rw [if_neg (by omega)] at eb
    walk_at "gg"
    refine g_ixL (v := .str p.1) hp2 (atI_nat iz) ?_
    walk_at "gg"
    refine ⟨p.1, rfl, pb.1, po.1, fun H3 s3 => ?_⟩
    have hp3 := s3 _ _ hp2
    walk_at "gg"
    cases hb : isPath p.1 with
    | false =>
      rw [hb, if_neg (by decide)] at eb
      walk_at "gg"
      refine g_ixL (v := .str p.1) hp3 (atI_nat iz) ?_
      walk_at "gg"
      refine g_ktupF (by walk_at "sz") (Has.start H3) (fun p4 H4 F4 n4 s4 f4 h4 => ?_)
      exact qe _ eb p4 H4 (((sH.trans s3).trans s4).trans h4.same) (h4.same _ _ f4)
    | true =>
      rw [hb, if_pos rfl, Option.getD_some] at eb
      obtain ⟨l, vl, hl⟩ := tr_at ek (dq.up (sH.trans s3) _ _) gt
      walk_at "gg"
      refine g_ixL (v := .str p.1) hp3 (atI_nat iz) ?_
      walk_at "gg"
      refine g_ixDS ((sH.trans s3) _ _ ha) vl ?_
      walk_at "gg"
      refine ⟨l, p.2, rfl, hl, fun z hz => ⟨pb.2.2 z hz, po.2 z hz⟩, pb.2.1, fun H4 s4 => ?_⟩
      walk_at "gg"
      cases eb2 : badT p.2 with
      | some j =>
        rw [eb2] at eb
        have ev : badV p.2 = (j : Nat) := by unfold badV; rw [eb2]
        rw [ev]
        refine i_d (fun e => ?_) (fun e => (e (by omega)).elim)
        walk_at "gg"
        refine g_ixL (v := .str p.1) (s4 _ _ hp3) (atI_nat iz) ?_
        walk_at "gg"
        refine g_ktupF (by walk_at "sz") (Has.start H4) (fun p5 H5 F5 n5 s5 f5 h5 => ?_)
        exact qe _ eb p5 H5 ((((sH.trans s3).trans s4).trans s5).trans h5.same) (h5.same _ _ f5)
      | none =>
        rw [eb2] at eb
        have ev : badV p.2 = -1 := by unfold badV; rw [eb2]
        rw [ev]
        refine i_d (fun e => (by omega)) (fun e => ?_)
        walk_at "gg"
        exact ⟨⟨_, _, rfl, (s.trans s3).trans s4⟩, by omega, eb⟩
  · rintro σ H' ⟨⟨y2, y3, rfl, s⟩, i8, eb⟩
    have e5 : (us.length : Int).toNat = us.length := by omega
    rw [e5, badK_end _ _ _ (Nat.le_refl _)] at eb
    walk_at "gg"
    exact q eb H' (h2.same.trans s)
end

end K11

namespace K11
open PySem PySem.Spec PyProof.Rows L2 Qk
local macro_rules | `(tactic| walk_at "m") => `(tactic| ((repeat (first | exact List.Mem.head _ | apply List.Mem.tail)); done))
local macro_rules | `(tactic| walk_at "h") => `(tactic| first | assumption | exact Has.gF (by assumption) (by assumption) | exact Has.get (by assumption) (by walk_at "m"))
local macro_rules | `(tactic| walk_at "c") => `(tactic| ((repeat (first | exact Chg.hd | apply Chg.tl)); done))
local macro_rules | `(tactic| walk_at "is") => `(tactic| first
  | ((with_reducible refine' is2_non ?gh ?_); (case gh => walk_at "h"))
  | (with_reducible refine is_int_list ?_)
  | (with_reducible refine is_int_tuple ?_)
  | (with_reducible refine is_int_dict ?_)
  | (with_reducible refine is_int_int ?_)
  | (with_reducible refine is_int_bool ?_)
  | (with_reducible refine is_int_str ?_)
  | ((with_reducible refine' is2_int ?gh ?_); (case gh => walk_at "h"))
  | (with_reducible refine is_str_list ?_)
  | (with_reducible refine is_str_tuple ?_)
  | (with_reducible refine is_str_dict ?_)
  | (with_reducible refine is_str_int ?_)
  | (with_reducible refine is_str_bool ?_)
  | (with_reducible refine is_str_str ?_)
  | ((with_reducible refine' is2_str ?gh ?_); (case gh => walk_at "h"))
  | (with_reducible refine is_bool_list ?_)
  | (with_reducible refine is_bool_tuple ?_)
  | (with_reducible refine is_bool_dict ?_)
  | (with_reducible refine is_bool_int ?_)
  | (with_reducible refine is_bool_bool ?_)
  | (with_reducible refine is_bool_str ?_)
  | ((with_reducible refine' is2_bool ?gh ?_); (case gh => walk_at "h"))
  | ((with_reducible refine' is_list_list ?gh ?_); (case gh => walk_at "h"))
  | ((with_reducible refine' is_list_tuple ?gh ?_); (case gh => walk_at "h"))
  | ((with_reducible refine' is_list_dict ?gh ?_); (case gh => walk_at "h"))
  | ((with_reducible refine' is_list_int ?gh ?_); (case gh => walk_at "h"))
  | ((with_reducible refine' is_list_bool ?gh ?_); (case gh => walk_at "h"))
  | ((with_reducible refine' is_list_str ?gh ?_); (case gh => walk_at "h"))
  | ((with_reducible refine' is2_list ?ga ?gb ?_); (case ga => walk_at "h"); (case gb => walk_at "h"))
  | ((with_reducible refine' is_tuple_list ?gh ?_); (case gh => walk_at "h"))
  | ((with_reducible refine' is_tuple_tuple ?gh ?_); (case gh => walk_at "h"))
  | ((with_reducible refine' is_tuple_dict ?gh ?_); (case gh => walk_at "h"))
  | ((with_reducible refine' is_tuple_int ?gh ?_); (case gh => walk_at "h"))
  | ((with_reducible refine' is_tuple_bool ?gh ?_); (case gh => walk_at "h"))
  | ((with_reducible refine' is_tuple_str ?gh ?_); (case gh => walk_at "h"))
  | ((with_reducible refine' is2_tuple ?ga ?gb ?_); (case ga => walk_at "h"); (case gb => walk_at "h"))
  | ((with_reducible refine' is_dict_list ?gh ?_); (case gh => walk_at "h"))
  | ((with_reducible refine' is_dict_tuple ?gh ?_); (case gh => walk_at "h"))
  | ((with_reducible refine' is_dict_dict ?gh ?_); (case gh => walk_at "h"))
  | ((with_reducible refine' is_dict_int ?gh ?_); (case gh => walk_at "h"))
  | ((with_reducible refine' is_dict_bool ?gh ?_); (case gh => walk_at "h"))
  | ((with_reducible refine' is_dict_str ?gh ?_); (case gh => walk_at "h"))
  | ((with_reducible refine' is2_dict ?ga ?gb ?_); (case ga => walk_at "h"); (case gb => walk_at "h")))
local macro_rules | `(tactic| walk_at "g") => `(tactic| first
  | (with_reducible refine g_seq ?_)
  | (with_reducible refine g_asg ?_)
  | ((with_reducible refine g_name ?_); dsimp only [List.set, wipe, List.map])
  | ((with_reducible refine' g_var ?gv ?_); (case gv => exact rfl))
  | (with_reducible refine g_c ?_)
  | (with_reducible refine g_op ?_)
  | (with_reducible refine g_cons ?_)
  | (with_reducible refine g_nil ?_)
  | (with_reducible refine g_cb ?_)
  | (with_reducible refine g_call ?_)
  | (with_reducible refine g_tup ?_)
  | (with_reducible refine g_lst ?_)
  | (with_reducible refine g_bm ?_)
  | (with_reducible refine g_bm0 ?_)
  | ((with_reducible refine' g_kbm ?gh ?_); (case gh => walk_at "h"))
  | (with_reducible refine g_drop ?_)
  | (with_reducible refine g_ret ?_)
  | (with_reducible refine g_retN ?_)
  | (with_reducible refine g_next ?_)
  | (with_reducible refine g_brk ?_)
  | (with_reducible refine g_cont ?_)
  | (with_reducible refine g_if ?_)
  | ((with_reducible refine' g_aug ?gv ?_); (case gv => exact rfl))
  | (with_reducible refine g_ipI ?_)
  | (with_reducible refine g_test ?_)
  | (with_reducible refine g_tB ?_)
  | (with_reducible refine g_kB ?_)
  | (with_reducible refine g_not ?_)
  | (with_reducible refine g_and ?_)
  | (with_reducible refine g_or ?_)
  | (with_reducible refine g_andV ?_)
  | (with_reducible refine g_orV ?_)
  | (with_reducible refine g_notV ?_)
  | (with_reducible refine g_ifE ?_)
  | (with_reducible refine g_addI ?_)
  | (with_reducible refine g_rI0 ?_)
  | (with_reducible refine g_eqI ?_)
  | (with_reducible refine g_eqS ?_)
  | (with_reducible refine g_neI ?_)
  | (with_reducible refine g_neS ?_)
  | (with_reducible refine g_isN ?_)
  | (with_reducible refine g_notN ?_)
  | (with_reducible refine g_int ?_)
  | (with_reducible refine g_max2 ?_)
  | (with_reducible refine g_min2 ?_)
  | ((with_reducible refine' g_lenL ?gh ?_); (case gh => walk_at "h"))
  | (with_reducible refine g_sub ?_)
  | (with_reducible refine g_gcons ?_)
  | (with_reducible refine g_gnil ?_)
  | (with_reducible refine g_un ?_)
  | (with_reducible refine g_rU ?_)
  | (with_reducible refine g_forL ?_)
  | (with_reducible refine g_forS ?_)
  | (with_reducible refine g_forR1 ?_)
  | (with_reducible refine g_forR2 ?_)
  | (with_reducible refine g_forR3 ?_)
  | (with_reducible refine g_lcL ?_)
  | (with_reducible refine g_lcR1 ?_)
  | (with_reducible refine g_lcR2 ?_)
  | (with_reducible refine g_slice ?_)
  | (with_reducible refine g_part ?_)
  | (with_reducible refine g_kOI ?_)
  | (with_reducible refine g_nopart ?_)
  | (with_reducible refine g_yes ?_)
  | ((with_reducible refine' g_wipe ?gv ?_); (case gv => exact rfl))
  | (with_reducible refine iteT ?_)
  | (with_reducible refine iteF ?_)
  | (with_reducible refine i_nf ?_)
  | (with_reducible refine i_nt ?_)
  | ((with_reducible refine' g_gtup ?gh ?gl ?_); (case gh => walk_at "h"); (case gl => exact rfl))
  | ((with_reducible refine' g_notinI ?gh ?_); (case gh => walk_at "h"))
  | ((with_reducible refine' g_inI ?gh ?_); (case gh => walk_at "h"))
  | ((with_reducible refine' g_kget2 ?gh ?_); (case gh => walk_at "h"))
  | ((with_reducible refine' g_kgotI ?gh ?_); (case gh => walk_at "h"))
  | (with_reducible refine g_tRev ?_)
  | (with_reducible refine g_neB ?_)
  | (with_reducible refine g_eqB ?_)
  | ((with_reducible refine' g_lenT ?gh ?_); (case gh => walk_at "h"))
  | (with_reducible refine g_star ?_)
  | ((with_reducible refine' g_kstarL ?gh ?_); (case gh => walk_at "h"))
  | ((with_reducible refine' g_kstarT ?gh ?_); (case gh => walk_at "h"))
  | (with_reducible refine g_tru ?_)
  | ((with_reducible refine' g_truL ?gh ?_); (case gh => walk_at "h"))
  | (with_reducible refine g_get2 ?_)
  | (with_reducible refine g_try ?_)
  | (with_reducible refine g_fld ?_)
  | (with_reducible refine g_sfld ?_)
  | (with_reducible refine g_meth ?_)
  | (with_reducible refine g_make ?_)
  | (with_reducible refine g_del ?_)
  | (with_reducible refine g_callS ?_)
  | (with_reducible refine g_raise ?_)
  | (with_reducible refine g_xf ?_)
  | (with_reducible refine g_m0 ?_)
  | (with_reducible refine g_km0 ?_)
  | walk_at "is")
local macro_rules | `(tactic| walk_at "gg") => `(tactic| repeat walk_at "g")
local macro_rules | `(tactic| walk_at "sz") => `(tactic| (refine sz ?_; simp only [List.length_cons, List.length_nil, List.length_map, List.length_append, List.length_replicate]; omega))
local macro_rules | `(tactic| walk_at "sub") => `(tactic| ((repeat (first | exact List.Sublist.slnil | with_reducible apply List.Sublist.cons_cons | with_reducible apply List.Sublist.cons)); done))

local macro_rules | `(tactic| walk_at "g") => `(tactic| first
  | (with_reducible refine g_dcL ?_)
  | (with_reducible refine g_dcT ?_)
  | (with_reducible refine g_m1s ?_)
  | (with_reducible refine g_km1s ?_)
  | (with_reducible refine g_starts ?_)
  | (with_reducible refine g_tryX ?_)
  | (with_reducible refine g_lcS ?_))

local macro_rules | `(tactic| walk_at "g") => `(tactic| (with_reducible refine g_tryM ?_))

/-! ### strings and texts -/
theorem Sm.pair {H : Hp} {n : Nat} {a b : Addr} {x y u v : V} (ha : H a = some (.tup [x, y])) (hb : H b = some (.tup [u, v])) (h1 : Sm H n x u) (h2 : Sm H n y v) : Sm H (n + 1) (.ref a) (.ref b) := by
  refine .inr (.inr (.inr (.inr (.inl ⟨a, b, _, _, rfl, rfl, .inr ⟨ha, hb⟩, rfl, by show 2 ≤ _; omega, fun i p q hp hq => ?_⟩))))
  match i, hp, hq with
  | 0, hp, hq =>
    cases hp
    cases hq
    exact h1
  | 1, hp, hq =>
    cases hp
    cases hq
    exact h2
theorem Sm.pl {H : Hp} {n : Nat} {r : Option Nat} : Sm H (n + 1) (plV r) (plV r) := by
  cases r with
  | none => exact Sm.non
  | some i => exact Sm.int
/-- strings that may be asked -/
def StrB (z : Str) : Prop := z.length ≤ 5000 ∧ PyData.strOk z = true
theorem eqk11 : PyData.eqv (.list [.bool true, .bool true, .bool false]) (.list [.bool true, .bool true, .bool false]) = true := by decide +kernel
theorem shk11 : SeqAt.shaped (.list [.bool true, .bool true, .bool false]) = true := by decide +kernel
theorem dk11 {H' : Hp} {a : Addr} (h : H' a = some (.lst [V.bl true, V.bl true, V.bl false])) : Dq H' (.ref a) (.list [.bool true, .bool true, .bool false]) := .lst h (.cons (.bl _) (.cons (.bl _) (.cons (.bl _) .nil)))
section
variable {P : Program} {w : World} {K : PySem.W.Frag} {mg : Str → Option Value} {base : Heap}
theorem eqS11 {K : PySem.W.Frag} {H : Hp} {Q : VK} {a b : Addr} {xs : List Str} (ha : H a = some (.lst (xs.map V.str))) (hb : H b = some (.lst (xs.map V.str))) (ox : okX xs) (q : Q (.bl true) H) : rEqA K (.ref a) (.ref b) H Q := by
  refine g_eqD (Dq.strs (xs := xs) ha) (Dq.strs (xs := xs) hb) ((Sh.strs (n := 0) ox).ok (by decide)) ((Sh.strs (n := 0) ox).ok (by decide)) ?_
  rw [eqv_strs, decide_eq_true rfl]
  exact q
theorem neS11 {K : PySem.W.Frag} {H : Hp} {Q : VK} {a b : Addr} {xs : List Str} (ha : H a = some (.lst (xs.map V.str))) (hb : H b = some (.lst (xs.map V.str))) (ox : okX xs) (q : Q (.bl false) H) : rNeA K (.ref a) (.ref b) H Q := by
  refine g_neD (Dq.strs (xs := xs) ha) (Dq.strs (xs := xs) hb) ((Sh.strs (n := 0) ox).ok (by decide)) ((Sh.strs (n := 0) ox).ok (by decide)) ?_
  rw [eqv_strs, decide_eq_true rfl]
  exact q
def sp_l_asks_strings (K : PySem.W.Frag) : Sp := fun vs H Q _ => ∃ (l : Addr) (ss : List Str), vs = [.ref l] ∧ H l = some (.lst (ss.map V.str)) ∧ (∀ z ∈ ss, StrB z) ∧ ∀ H', Same H H' → Q (.bl true) H'
theorem sp_l_asks_strings_len {vs H Q E} (h : sp_l_asks_strings K vs H Q E) : vs.length = 1 := by
  obtain ⟨_, _, rfl, _⟩ := h
  rfl
theorem ok_l_asks_strings (T : Txt K mg) : FnOk P w K mg base CX0 7 T.f_l_asks_strings T.fd_l_asks_strings ["strings"] (sp_l_asks_strings K) := by
  refine T.F_l_asks_strings.ok sc_l_asks_strings (fun vs H Q E h => sp_l_asks_strings_len h) (fun cdv A outer s H vs Q E hr h => ?_)
  refine ⟨_, (pss_cons (ps_for PassesOwn.never rfl (k_il K (pi_list (pv 0))) (pg_name (i := 1) sc_l_asks_strings.nd rfl (.inl rfl)) (pss_cons (ps_if (pt_not (pt_val (pe_call (ok_l_same T) (hr.mono (by decide)) (by rfl) T.g_l_same T.F_l_same.kp T.b_l_same .nil pass0 (pa_cons (pe_call (ok_is_line T) (hr.mono (by decide)) (by rfl) T.g_is_line T.F_is_line.kp T.b_is_line .nil pass0 (pa_cons (pv 1) pa_nil)) (pa_cons (pe_call (ok_l_is_line T) (hr.mono (by decide)) (by rfl) T.g_l_is_line T.F_l_is_line.kp T.b_l_is_line .nil pass0 (pa_cons (pv 1) pa_nil)) pa_nil))))) (pss_one (ps_ret pe_bl)) pss_nil)
      (pss_one (ps_if (pt_not (pt_val (pe_call (ok_l_same T) (hr.mono (by decide)) (by rfl) T.g_l_same T.F_l_same.kp T.b_l_same .nil pass0 (pa_cons (pe_call (ok_is_path T) (hr.mono (by decide)) (by rfl) T.g_is_path T.F_is_path.kp T.b_is_path .nil pass0 (pa_cons (pv 1) pa_nil)) (pa_cons (pe_call (ok_l_is_way T) (hr.mono (by decide)) (by rfl) T.g_l_is_way T.F_l_is_way.kp T.b_l_is_way .nil pass0 (pa_cons (pv 1) pa_nil)) pa_nil))))) (pss_one (ps_ret pe_bl)) pss_nil))))
      (pss_one (ps_ret pe_bl))), ?_⟩
  obtain ⟨l, ss, rfl, hl, ok, q⟩ := h
  refine g_start (σ' := [some (.ref l), none]) rfl ?_
  walk_at "gg"
  refine k_forL hl (fun i σ H' => ∃ y1, σ = [some (.ref l), y1] ∧ Same H H') ⟨_, rfl, Same.refl _⟩ ?_ ?_ ?_
  · rintro i σ H' _ ⟨y1, rfl, s⟩
    exact s _ _ hl
  · rintro i v σ H' hv ⟨y1, rfl, s⟩
    obtain ⟨z, hz, rfl⟩ := str_at hv
    have zb := ok z (List.mem_of_getElem? hz)
    walk_at "gg"
    refine ⟨z, rfl, by have := zb.1; omega, ?_⟩
    walk_at "gg"
    refine ⟨z, rfl, by have := zb.1; omega, zb.2, fun H2 s2 => ?_⟩
    walk_at "gg"
    refine ⟨.bl _, .bl _, rfl, Sm.bl, fun H3 s3 => ?_⟩
    walk_at "gg"
    refine ⟨z, rfl, zb.1, fun H4 s4 => ?_⟩
    walk_at "gg"
    refine ⟨z, rfl, zb.1, zb.2, fun H5 s5 => ?_⟩
    walk_at "gg"
    refine ⟨.bl _, .bl _, rfl, Sm.bl, fun H6 s6 => ?_⟩
    walk_at "gg"
    exact ⟨_, rfl, ((((s.trans s2).trans s3).trans s4).trans s5).trans s6⟩
  · rintro σ H' ⟨y1, rfl, s⟩
    walk_at "gg"
    exact q _ s
def sp_l_asks_text (K : PySem.W.Frag) : Sp := fun vs H Q _ => ∃ (l : Addr) (t : Tx), vs = [.ref l] ∧ H l = some (.lst (t.map V.str)) ∧ (∀ z ∈ t, z.length ≤ 10000 ∧ PyData.strOk z = true) ∧ t.length ≤ 1000 ∧ ∀ H', Same H H' → Q (.bl true) H'
theorem sp_l_asks_text_len {vs H Q E} (h : sp_l_asks_text K vs H Q E) : vs.length = 1 := by
  obtain ⟨_, _, rfl, _⟩ := h
  rfl
theorem ok_l_asks_text (T : Txt K mg) : FnOk P w K mg base CX0 7 T.f_l_asks_text T.fd_l_asks_text ["text"] (sp_l_asks_text K) := by
  refine T.F_l_asks_text.ok sc_l_asks_text (fun vs H Q E h => sp_l_asks_text_len h) (fun cdv A outer s H vs Q E hr h => ?_)
  refine ⟨_, (pss_cons (ps_set (i := 1) sc_l_asks_text.nd rfl (.inl rfl) (pe_call (ok_l_bad_line T) (hr.mono (by decide)) (by rfl) T.g_l_bad_line T.F_l_bad_line.kp T.b_l_bad_line .nil pass0 (pa_cons (pv 0) pa_nil)))
      (pss_cons (ps_set (i := 2) sc_l_asks_text.nd rfl (.inl rfl) (pe_callTy (cr_listK K) (by rfl) T.m_list (by decide +kernel) (pa_cons (pv 0) pa_nil)))
      (pss_cons (ps_set (i := 3) sc_l_asks_text.nd rfl (.inl rfl) pe_non)
      (pss_cons (ps_set (i := 4) sc_l_asks_text.nd rfl (.inl rfl) (pe_un un_neg pe_int))
      (pss_cons (ps_set (i := 5) sc_l_asks_text.nd rfl (.inl rfl) (pe_lst (pa_cons pe_bl (pa_cons pe_bl (pa_cons pe_bl pa_nil)))))
      (pss_cons (k_try K (i := 6) (Wout := fun _ _ _ _ => False) rfl rfl sc_l_asks_text.nd rfl rfl ⟨rfl, by decide, Or.inl T.g_BadText⟩ takesN (fun W pn xe tk hown => (pss_one (ps_set (i := 3) sc_l_asks_text.nd rfl (.inl rfl) (pe_callS (ok_checked_text T) (hr.mono (by decide)) (by rfl) T.g_checked_text T.F_checked_text.kp T.b_checked_text (fun σ => L2N.passAt tk σ) (pa_cons (pv 2) pa_nil))))) (fun a oe cls d pn hz hf => (pss_cons (ps_set (i := 4) sc_l_asks_text.nd rfl (.inl rfl) (pe_xfA K hz.zc hf (pv 6)))
      (pss_one (ps_set (i := 5) sc_l_asks_text.nd rfl (.inl rfl) (pe_lst (pa_cons (pe_callB (cr_isX K hz.zc hf) (by rfl) T.m_isinstance (by decide +kernel) (pa_cons (pv 6) (pa_cons (pe_gc (v := .ref T.C_PartError) (by rfl) ⟨_, T.g_PartError, rfl⟩) pa_nil))) (pa_cons (pe_callB (cr_isX K hz.zc hf) (by rfl) T.m_isinstance (by decide +kernel) (pa_cons (pv 6) (pa_cons (pe_bltn (v := .ty "ValueError") (by rfl) T.m_ValueError (by decide +kernel) rfl) pa_nil))) (pa_cons (pe_callB (cr_isX K hz.zc hf) (by rfl) T.m_isinstance (by decide +kernel) (pa_cons (pv 6) (pa_cons (pe_gc (v := .ref T.C_BadTree) (by rfl) ⟨_, T.g_BadTree, rfl⟩) pa_nil))) pa_nil)))))))))
      (pss_cons (ps_if (PW.pt (pw_or (pt_not (pt_val (pe_call (ok_l_same T) (hr.mono (by decide)) (by rfl) T.g_l_same T.F_l_same.kp T.b_l_same .nil pass0 (pa_cons (pv 4) (pa_cons (pv 1) pa_nil))))) (pw_or (pt_cmpR (op_neK K hr.units) (pv 5) (pe_lst (pa_cons pe_bl (pa_cons pe_bl (pa_cons pe_bl pa_nil)))) (nomark _)) (pw_or1 (pt_cmpR (op_neK K hr.units) (pv 2) (pv 0) (nomark _)))))) (pss_one (ps_ret pe_bl)) pss_nil)
      (pss_cons (ps_if (PW.pt (pw_and (pt_cmpR op_lt (pv 1) pe_int (nomark _)) (pw_and1 (pt_not (pt_val (pe_call (ok_l_same T) (hr.mono (by decide)) (by rfl) T.g_l_same T.F_l_same.kp T.b_l_same .nil pass0 (pa_cons (pv 3) (pa_cons (pv 0) pa_nil)))))))) (pss_one (ps_ret pe_bl)) pss_nil)
      (pss_cons (ps_if (pt_cmpR op_lt (pv 1) pe_int (nomark _)) (pss_one (ps_expr (k_bm K (pe_bm PySem.F.plainAttrs_list PySem.F.slot_list_append PySem.F.type_list_append mt_append (pv 3) (pa_cons pe_str pa_nil))))) pss_nil)
      (pss_one (ps_ret (pe_cmpR (op_eqK K hr.units) (pv 2) (pv 0) (nomark _))))))))))))), ?_⟩
  obtain ⟨l, t, rfl, hl, okt, lt, q⟩ := h
  have ox : okX t := fun z hz => (okt z hz).2
  refine g_start (σ' := [some (.ref l), none, none, none, none, none, none]) rfl ?_
  walk_at "gg"
  refine ⟨l, t, rfl, hl, okt, lt, fun H1 s1 => ?_⟩
  walk_at "gg"
  refine g_listL (s1 _ _ hl) (Has.start H1) (fun p1 H2 n2 h2 => ?_)
  walk_at "gg"
  refine g_klst (by walk_at "sz") h2 (fun p2 H3 n3 h3 => ?_)
  walk_at "gg"
  refine ⟨p1, t, rfl, h3.get (by walk_at "m"), fun z hz => (okt z hz).1, lt, fun e p4 H4 s4 n4 h4 => ?_, fun k e => ?_⟩
  · have ev : badV t = -1 := by unfold badV; rw [e]
    rw [ev]
    have h4 := h3.made n4 s4 h4
    walk_at "gg"
    refine ⟨.int _, .int _, rfl, Sm.int, fun H5 s5 => ?_⟩
    have h5 := h4.on s5
    walk_at "gg"
    refine g_klst (by walk_at "sz") h5 (fun p6 H6 n6 h6 => ?_)
    refine g_neD (dk11 (h6.get (by walk_at "m"))) (dk11 (h6.get (List.Mem.head _))) shk11 shk11 ?_
    rw [eqk11]
    have h6 := h6.drop
    walk_at "gg"
    refine neS11 (xs := t) (h6.get (by walk_at "m")) (h6.same _ _ (s1 _ _ hl)) ox ?_
    walk_at "gg"
    refine i_d (fun _ => ?_) (fun e => (e (by decide)).elim)
    walk_at "gg"
    refine ⟨.ref p4, .ref l, rfl, Sm.strs (h6.get (List.Mem.head _)) (h6.same _ _ (s1 _ _ hl)) (by omega), fun H7 s7 => ?_⟩
    have h7 := h6.on s7
    walk_at "gg"
    refine i_d (fun _ => ?_) (fun e => (e (by decide)).elim)
    walk_at "gg"
    refine g_append h7 .hd (szl (by rw [List.length_map]; omega)) (fun H8 h8 => ?_)
    walk_at "gg"
    refine eqS11 (xs := t) (h8.get (by walk_at "m")) (h8.same _ _ (s1 _ _ hl)) ox ?_
    exact q H8 (s1.trans h8.same)
  · have ev : badV t = (k : Nat) := by unfold badV; rw [e]
    rw [ev]
    intro ex H4 s4 n4 h4
    have h4 := h3.made n4 s4 h4
    refine g_caught T.M_BadText_BadText (fun exn nxn => ?_)
    walk_at "gg"
    refine g_kxf T.XF_BadText T.N_BadText_place (h4.get (List.Mem.head _)) rfl ?_
    walk_at "gg"
    refine g_isX T.IS_BadText (by walk_at "h") T.K_BadText_PartError ?_
    walk_at "gg"
    refine g_isXT T.IS_BadText (by walk_at "h") T.K_BadText_ValueError ?_
    walk_at "gg"
    refine g_isX T.IS_BadText (by walk_at "h") T.K_BadText_BadTree ?_
    walk_at "gg"
    refine g_klst (by walk_at "sz") h4 (fun p5 H5 n5 h5 => ?_)
    walk_at "gg"
    refine ⟨.int _, .int _, rfl, Sm.int, fun H6 s6 => ?_⟩
    have h6 := h5.on s6
    walk_at "gg"
    refine g_klst (by walk_at "sz") h6 (fun p7 H7 n7 h7 => ?_)
    refine g_neD (dk11 (h7.get (by walk_at "m"))) (dk11 (h7.get (List.Mem.head _))) shk11 shk11 ?_
    rw [eqk11]
    have h7 := h7.drop
    walk_at "gg"
    refine neS11 (xs := t) (h7.get (by walk_at "m")) (h7.same _ _ (s1 _ _ hl)) ox ?_
    walk_at "gg"
    refine i_d (fun c => by omega) (fun _ => ?_)
    walk_at "gg"
    refine i_d (fun c => by omega) (fun _ => ?_)
    walk_at "gg"
    refine eqS11 (xs := t) (h7.get (by walk_at "m")) (h7.same _ _ (s1 _ _ hl)) ox ?_
    exact q H7 (s1.trans h7.same)
end

end K11

namespace K11
open PySem PySem.Spec PyProof.Rows L2 Qk
local macro_rules | `(tactic| walk_at "m") => `(tactic| ((repeat (first | exact List.Mem.head _ | apply List.Mem.tail)); done))
local macro_rules | `(tactic| walk_at "h") => `(tactic| first | assumption | exact Has.gF (by assumption) (by assumption) | exact Has.get (by assumption) (by walk_at "m"))
local macro_rules | `(tactic| walk_at "c") => `(tactic| ((repeat (first | exact Chg.hd | apply Chg.tl)); done))
local macro_rules | `(tactic| walk_at "is") => `(tactic| first
  | ((with_reducible refine' is2_non ?gh ?_); (case gh => walk_at "h"))
  | (with_reducible refine is_int_list ?_)
  | (with_reducible refine is_int_tuple ?_)
  | (with_reducible refine is_int_dict ?_)
  | (with_reducible refine is_int_int ?_)
  | (with_reducible refine is_int_bool ?_)
  | (with_reducible refine is_int_str ?_)
  | ((with_reducible refine' is2_int ?gh ?_); (case gh => walk_at "h"))
  | (with_reducible refine is_str_list ?_)
  | (with_reducible refine is_str_tuple ?_)
  | (with_reducible refine is_str_dict ?_)
  | (with_reducible refine is_str_int ?_)
  | (with_reducible refine is_str_bool ?_)
  | (with_reducible refine is_str_str ?_)
  | ((with_reducible refine' is2_str ?gh ?_); (case gh => walk_at "h"))
  | (with_reducible refine is_bool_list ?_)
  | (with_reducible refine is_bool_tuple ?_)
  | (with_reducible refine is_bool_dict ?_)
  | (with_reducible refine is_bool_int ?_)
  | (with_reducible refine is_bool_bool ?_)
  | (with_reducible refine is_bool_str ?_)
  | ((with_reducible refine' is2_bool ?gh ?_); (case gh => walk_at "h"))
  | ((with_reducible refine' is_list_list ?gh ?_); (case gh => walk_at "h"))
  | ((with_reducible refine' is_list_tuple ?gh ?_); (case gh => walk_at "h"))
  | ((with_reducible refine' is_list_dict ?gh ?_); (case gh => walk_at "h"))
  | ((with_reducible refine' is_list_int ?gh ?_); (case gh => walk_at "h"))
  | ((with_reducible refine' is_list_bool ?gh ?_); (case gh => walk_at "h"))
  | ((with_reducible refine' is_list_str ?gh ?_); (case gh => walk_at "h"))
  | ((with_reducible refine' is2_list ?ga ?gb ?_); (case ga => walk_at "h"); (case gb => walk_at "h"))
  | ((with_reducible refine' is_tuple_list ?gh ?_); (case gh => walk_at "h"))
  | ((with_reducible refine' is_tuple_tuple ?gh ?_); (case gh => walk_at "h"))
  | ((with_reducible refine' is_tuple_dict ?gh ?_); (case gh => walk_at "h"))
  | ((with_reducible refine' is_tuple_int ?gh ?_); (case gh => walk_at "h"))
  | ((with_reducible refine' is_tuple_bool ?gh ?_); (case gh => walk_at "h"))
  | ((with_reducible refine' is_tuple_str ?gh ?_); (case gh => walk_at "h"))
  | ((with_reducible refine' is2_tuple ?ga ?gb ?_); (case ga => walk_at "h"); (case gb => walk_at "h"))
  | ((with_reducible refine' is_dict_list ?gh ?_); (case gh => walk_at "h"))
  | ((with_reducible refine' is_dict_tuple ?gh ?_); (case gh => walk_at "h"))
  | ((with_reducible refine' is_dict_dict ?gh ?_); (case gh => walk_at "h"))
  | ((with_reducible refine' is_dict_int ?gh ?_); (case gh => walk_at "h"))
  | ((with_reducible refine' is_dict_bool ?gh ?_); (case gh => walk_at "h"))
  | ((with_reducible refine' is_dict_str ?gh ?_); (case gh => walk_at "h"))
  | ((with_reducible refine' is2_dict ?ga ?gb ?_); (case ga => walk_at "h"); (case gb => walk_at "h")))
local macro_rules | `(tactic| walk_at "g") => `(tactic| first
  | (with_reducible refine g_seq ?_)
  | (with_reducible refine g_asg ?_)
  | ((with_reducible refine g_name ?_); dsimp only [List.set, wipe, List.map])
  | ((with_reducible refine' g_var ?gv ?_); (case gv => exact rfl))
  | (with_reducible refine g_c ?_)
  | (with_reducible refine g_op ?_)
  | (with_reducible refine g_cons ?_)
  | (with_reducible refine g_nil ?_)
  | (with_reducible refine g_cb ?_)
  | (with_reducible refine g_call ?_)
  | (with_reducible refine g_tup ?_)
  | (with_reducible refine g_lst ?_)
  | (with_reducible refine g_bm ?_)
  | (with_reducible refine g_bm0 ?_)
  | ((with_reducible refine' g_kbm ?gh ?_); (case gh => walk_at "h"))
  | (with_reducible refine g_drop ?_)
  | (with_reducible refine g_ret ?_)
  | (with_reducible refine g_retN ?_)
  | (with_reducible refine g_next ?_)
  | (with_reducible refine g_brk ?_)
  | (with_reducible refine g_cont ?_)
  | (with_reducible refine g_if ?_)
  | ((with_reducible refine' g_aug ?gv ?_); (case gv => exact rfl))
  | (with_reducible refine g_ipI ?_)
  | (with_reducible refine g_test ?_)
  | (with_reducible refine g_tB ?_)
  | (with_reducible refine g_kB ?_)
  | (with_reducible refine g_not ?_)
  | (with_reducible refine g_and ?_)
  | (with_reducible refine g_or ?_)
  | (with_reducible refine g_andV ?_)
  | (with_reducible refine g_orV ?_)
  | (with_reducible refine g_notV ?_)
  | (with_reducible refine g_ifE ?_)
  | (with_reducible refine g_addI ?_)
  | (with_reducible refine g_rI0 ?_)
  | (with_reducible refine g_eqI ?_)
  | (with_reducible refine g_eqS ?_)
  | (with_reducible refine g_neI ?_)
  | (with_reducible refine g_neS ?_)
  | (with_reducible refine g_isN ?_)
  | (with_reducible refine g_notN ?_)
  | (with_reducible refine g_int ?_)
  | (with_reducible refine g_max2 ?_)
  | (with_reducible refine g_min2 ?_)
  | ((with_reducible refine' g_lenL ?gh ?_); (case gh => walk_at "h"))
  | (with_reducible refine g_sub ?_)
  | (with_reducible refine g_gcons ?_)
  | (with_reducible refine g_gnil ?_)
  | (with_reducible refine g_un ?_)
  | (with_reducible refine g_rU ?_)
  | (with_reducible refine g_forL ?_)
  | (with_reducible refine g_forS ?_)
  | (with_reducible refine g_forR1 ?_)
  | (with_reducible refine g_forR2 ?_)
  | (with_reducible refine g_forR3 ?_)
  | (with_reducible refine g_lcL ?_)
  | (with_reducible refine g_lcR1 ?_)
  | (with_reducible refine g_lcR2 ?_)
  | (with_reducible refine g_slice ?_)
  | (with_reducible refine g_part ?_)
  | (with_reducible refine g_kOI ?_)
  | (with_reducible refine g_nopart ?_)
  | (with_reducible refine g_yes ?_)
  | ((with_reducible refine' g_wipe ?gv ?_); (case gv => exact rfl))
  | (with_reducible refine iteT ?_)
  | (with_reducible refine iteF ?_)
  | (with_reducible refine i_nf ?_)
  | (with_reducible refine i_nt ?_)
  | ((with_reducible refine' g_gtup ?gh ?gl ?_); (case gh => walk_at "h"); (case gl => exact rfl))
  | ((with_reducible refine' g_notinI ?gh ?_); (case gh => walk_at "h"))
  | ((with_reducible refine' g_inI ?gh ?_); (case gh => walk_at "h"))
  | ((with_reducible refine' g_kget2 ?gh ?_); (case gh => walk_at "h"))
  | ((with_reducible refine' g_kgotI ?gh ?_); (case gh => walk_at "h"))
  | (with_reducible refine g_tRev ?_)
  | (with_reducible refine g_neB ?_)
  | (with_reducible refine g_eqB ?_)
  | ((with_reducible refine' g_lenT ?gh ?_); (case gh => walk_at "h"))
  | (with_reducible refine g_star ?_)
  | ((with_reducible refine' g_kstarL ?gh ?_); (case gh => walk_at "h"))
  | ((with_reducible refine' g_kstarT ?gh ?_); (case gh => walk_at "h"))
  | (with_reducible refine g_tru ?_)
  | ((with_reducible refine' g_truL ?gh ?_); (case gh => walk_at "h"))
  | (with_reducible refine g_get2 ?_)
  | (with_reducible refine g_try ?_)
  | (with_reducible refine g_fld ?_)
  | (with_reducible refine g_sfld ?_)
  | (with_reducible refine g_meth ?_)
  | (with_reducible refine g_make ?_)
  | (with_reducible refine g_del ?_)
  | (with_reducible refine g_callS ?_)
  | (with_reducible refine g_raise ?_)
  | (with_reducible refine g_xf ?_)
  | (with_reducible refine g_m0 ?_)
  | (with_reducible refine g_km0 ?_)
  | walk_at "is")
local macro_rules | `(tactic| walk_at "gg") => `(tactic| repeat walk_at "g")
local macro_rules | `(tactic| walk_at "sz") => `(tactic| (refine sz ?_; simp only [List.length_cons, List.length_nil, List.length_map, List.length_append, List.length_replicate]; omega))
local macro_rules | `(tactic| walk_at "sub") => `(tactic| ((repeat (first | exact List.Sublist.slnil | with_reducible apply List.Sublist.cons_cons | with_reducible apply List.Sublist.cons)); done))

local macro_rules | `(tactic| walk_at "g") => `(tactic| first
  | (with_reducible refine g_dcL ?_)
  | (with_reducible refine g_dcT ?_)
  | (with_reducible refine g_m1s ?_)
  | (with_reducible refine g_km1s ?_)
  | (with_reducible refine g_starts ?_)
  | (with_reducible refine g_tryX ?_)
  | (with_reducible refine g_lcS ?_))

local macro_rules | `(tactic| walk_at "g") => `(tactic| (with_reducible refine g_tryM ?_))

/-! ### trees that are asked -/
theorem nd_le : ∀ {xs ys : List Str}, xs.Nodup → (∀ z ∈ xs, z ∈ ys) → xs.length ≤ ys.length
  | [], _, _, _ => Nat.zero_le _
  | x :: xs, ys, n, h => by
    have n' := List.nodup_cons.mp n
    have hx := h x List.mem_cons_self
    have := nd_le (xs := xs) (ys := ys.erase x) n'.2 fun z hz => (List.mem_erase_of_ne (fun e => n'.1 (by rw [← e]; exact hz))).mpr (h z (List.mem_cons_of_mem _ hz))
    rw [List.length_erase_of_mem hx] at this
    have := List.length_pos_of_mem hx
    rw [List.length_cons]
    omega
theorem badK_none {A : Tr} (h : (A.map (·.1)).Nodup) {us : List Str} (m : ∀ z ∈ us, z ∈ A.map (·.1)) : ∀ {k : Nat}, badK A k us = none → ∀ z ∈ us, isPath z = true ∧ ∀ t, (z, t) ∈ A → badT t = none := by
  induction us with
  | nil => intro k _ z hz; cases hz
  | cons y r ih =>
    intro k e z hz
    unfold badK at e
    split at e
    · cases e
    split at e
    · rename_i hp
      split at e
      · cases e
      · rename_i hb
        rcases List.mem_cons.mp hz with rfl | hz
        · refine ⟨hp, fun t ht => ?_⟩
          rw [getT_of h ht] at hb
          exact hb
        · exact ih (fun z hz => m z (List.mem_cons_of_mem _ hz)) e z hz
    · cases e
section
variable {P : Program} {w : World} {K : PySem.W.Frag} {mg : Str → Option Value} {base : Heap}
def sp_l_asks_tree (T : Txt K mg) : Sp := fun vs H Q _ => ∃ (a : Addr) (A : Tr), vs = [.ref a] ∧ TrAt H a A ∧ TrB A ∧ okTr A ∧ ∀ H', Same H H' → Q (.bl true) H'
theorem sp_l_asks_tree_len {T : Txt K mg} {vs H Q E} (h : sp_l_asks_tree T vs H Q E) : vs.length = 1 := by
  obtain ⟨_, _, rfl, _⟩ := h
  rfl
set_option maxHeartbeats 1000000 in
theorem ok_l_asks_tree (T : Txt K mg) : FnOk P w K mg base (L2.CX P w) 7 T.f_l_asks_tree T.fd_l_asks_tree ["tree"] (sp_l_asks_tree T) := by
  refine Fun.okC T.F_l_asks_tree sc_l_asks_tree (fun vs H Q E h => sp_l_asks_tree_len h) (fun cdv A outer s H vs Q E hr h => ?_)
  refine ⟨_, (pss_cons (ps_set (i := 1) sc_l_asks_tree.nd rfl (.inl rfl) (pe_call (ok_l_bad_key T) (hr.mono (by decide)) (by rfl) T.g_l_bad_key T.F_l_bad_key.kp T.b_l_bad_key .nil pass0 (pa_cons (pv 0) pa_nil)))
      (pss_cons (ps_set (i := 2) sc_l_asks_tree.nd rfl (.inl rfl) (pe_call (ok_l_copy T) (hr.mono (by decide)) (by rfl) T.g_l_copy T.F_l_copy.kp T.b_l_copy .nil pass0 (pa_cons (pv 0) pa_nil)))
      (pss_cons (ps_set (i := 3) sc_l_asks_tree.nd rfl (.inl rfl) pe_non)
      (pss_cons (ps_set (i := 4) sc_l_asks_tree.nd rfl (.inl rfl) pe_non)
      (pss_cons (ps_set (i := 5) sc_l_asks_tree.nd rfl (.inl rfl) (pe_lst (pa_cons pe_bl (pa_cons pe_bl (pa_cons pe_bl pa_nil)))))
      (pss_cons (k_tryC K (i := 6) (Wout := fun _ _ _ _ => False) rfl rfl sc_l_asks_tree.nd rfl rfl takesC (fun W pn xe tk hown => (pss_one (ps_set (i := 3) sc_l_asks_tree.nd rfl (.inl rfl) (pe_callS (ok_checked_tree T) (hr.mono (by decide)) (by rfl) T.g_checked_tree T.F_checked_tree.kp T.b_checked_tree (fun σ => L2.passAt tk σ) (pa_cons (pv 2) pa_nil))))) (ClausesC.cons ⟨rfl, by decide, Or.inl T.g_BadTree⟩ (fun a oe cls d pn hz hf => (pss_cons (ps_set (i := 4) sc_l_asks_tree.nd rfl (.inl rfl) (pe_tup (pa_cons (pe_xfA K hz hf (pv 6)) (pa_cons (pe_xfA K hz hf (pv 6)) pa_nil))))
      (pss_one (ps_set (i := 5) sc_l_asks_tree.nd rfl (.inl rfl) (pe_lst (pa_cons (pe_callB (cr_isX K hz hf) (by rfl) T.m_isinstance (by decide +kernel) (pa_cons (pv 6) (pa_cons (pe_gc (v := .ref T.C_PartError) (by rfl) ⟨_, T.g_PartError, rfl⟩) pa_nil))) (pa_cons (pe_callB (cr_isX K hz hf) (by rfl) T.m_isinstance (by decide +kernel) (pa_cons (pv 6) (pa_cons (pe_bltn (v := .ty "ValueError") (by rfl) T.m_ValueError (by decide +kernel) rfl) pa_nil))) (pa_cons (pe_callB (cr_isX K hz hf) (by rfl) T.m_isinstance (by decide +kernel) (pa_cons (pv 6) (pa_cons (pe_gc (v := .ref T.C_BadText) (by rfl) ⟨_, T.g_BadText, rfl⟩) pa_nil))) pa_nil)))))))) .nil))
      (pss_cons (ps_if (PW.pt (pw_or (pt_not (pt_val (pe_call (ok_l_same T) (hr.mono (by decide)) (by rfl) T.g_l_same T.F_l_same.kp T.b_l_same .nil pass0 (pa_cons (pv 4) (pa_cons (pv 1) pa_nil))))) (pw_or1 (pt_cmpR (op_neK K hr.units) (pv 5) (pe_lst (pa_cons pe_bl (pa_cons pe_bl (pa_cons pe_bl pa_nil)))) (nomark _))))) (pss_one (ps_ret pe_bl)) pss_nil)
      (pss_cons (ps_if (PW.pt (pw_and (pt_cmpR op_isNA (pv 1) pe_non (nomark _)) (pw_and1 (pt_not (pt_val (pe_call (ok_l_same T) (hr.mono (by decide)) (by rfl) T.g_l_same T.F_l_same.kp T.b_l_same .nil pass0 (pa_cons (pv 3) (pa_cons (pe_call (ok_l_rising T) (hr.mono (by decide)) (by rfl) T.g_l_rising T.F_l_rising.kp T.b_l_rising .nil pass0 (pa_cons (pv 0) pa_nil)) pa_nil)))))))) (pss_one (ps_ret pe_bl)) pss_nil)
      (pss_cons (ps_if (pt_cmpR op_isNA (pv 1) pe_non (nomark _)) (pss_one (ps_expr (pe_call (ok_l_spoil T) (hr.mono (by decide)) (by rfl) T.g_l_spoil T.F_l_spoil.kp T.b_l_spoil .nil pass0 (pa_cons (pv 3) pa_nil)))) pss_nil)
      (pss_one (ps_ret (pe_call (ok_l_kept T) (hr.mono (by decide)) (by rfl) T.g_l_kept T.F_l_kept.kp T.b_l_kept .nil pass0 (pa_cons (pv 2) (pa_cons (pv 0) pa_nil)))))))))))))), ?_⟩
  obtain ⟨a, A, rfl, ta, tb, ok, q⟩ := h
  have few := tb.few
  have nd := ta.choose_spec.2.2.1
  refine g_start (σ' := [some (.ref a), none, none, none, none, none, none]) rfl ?_
  walk_at "gg"
  have trB : ∀ {F H' : Hp} {d : Addr} {B : Bt}, Has F ((d, .dK (bK B)) :: bO B) H' → bA B = A → TrAt H' d A := fun {F H' d B} h eB => by
    rw [← eB]
    exact tr_in h (fun p hp => hp) (by rw [← bA_keys, eB]; exact nd)
  refine ⟨a, A, rfl, ta, tb, ok, fun us asc mem => ⟨fun en H1 s1 => ?_, fun r er p H1 s1 hp => ?_⟩⟩
  · walk_at "gg"
    refine ⟨a, A, rfl, ta.up s1, by omega, fun d B H2 h2 eB => ?_⟩
    have s2 := s1.trans h2.same
    have td := trB h2 eB
    walk_at "gg"
    refine g_klst (by walk_at "sz") (Has.start H2) (fun p2 H3 n3 h3 => ?_)
    walk_at "gg"
    have s3 := h3.same
    have hk := h3.get (List.Mem.head _)
    refine ⟨d, A, rfl, td.up s3, tb, fun us' asc' mem' => ?_⟩
    have eu : us' = us := Asc.ext asc' asc fun z => (mem' z).trans (mem z).symm
    subst eu
    refine ⟨fun _ d2 B2 H4 h4 asc4 mem4 => ?_, fun r er => by rw [en] at er; cases er⟩
    have l4 : (bA B2).length ≤ 60 := by
      have := nd_le asc4.nd (ys := A.map (·.1)) fun z hz => by
        obtain ⟨p, hp, rfl⟩ := List.mem_map.mp hz
        exact List.mem_map.mpr ⟨p, (mem4 p).mp hp, rfl⟩
      rw [List.length_map, List.length_map] at this
      omega
    have n4 : (B2.map (·.1)).Nodup := by rw [← bA_keys]; exact asc4.nd
    have b4 : ∀ p ∈ bA B2, p.2.length ≤ 1000 := fun p hp => (tb.ok p ((mem4 p).mp hp)).2.1
    walk_at "gg"
    refine ⟨.non, .non, rfl, Sm.non, fun H5 s5 => ?_⟩
    walk_at "gg"
    refine g_klst (by walk_at "sz") (Has.start H5) (fun p6 H6 n6 h6 => ?_)
    refine g_neD (dk11 ((h4.same.trans (s5.trans h6.same)) _ _ hk)) (dk11 (h6.get (List.Mem.head _))) shk11 shk11 ?_
    rw [eqk11]
    have s6 : Same H4 H6 := s5.trans h6.same
    walk_at "gg"
    refine i_d (fun _ => ?_) (fun e => (e rfl).elim)
    walk_at "gg"
    refine ⟨a, A, rfl, ta.up (s2.trans (s3.trans (h4.same.trans s6))), few, fun d7 B7 H7 h7 asc7 mem7 => ?_⟩
    have e7 : bA B7 = bA B2 := AscT.ext asc7 asc4 fun z t => (mem7 (z, t)).trans (mem4 (z, t)).symm
    have t7 : TrAt H7 d7 (bA B2) := by
      rw [← e7]
      exact tr_in h7 (fun p hp => hp) (by rw [← bA_keys]; exact asc7.nd)
    have t4 : TrAt H7 d2 (bA B2) := (tr_in h4 (fun p hp => hp) n4).up (s6.trans h7.same)
    walk_at "gg"
    refine ⟨.ref d2, .ref d7, rfl, Sm.tree t4 t7 (by omega) b4, fun H8 s8 => ?_⟩
    walk_at "gg"
    refine i_d (fun _ => ?_) (fun e => (e rfl).elim)
    have h8 := h4.on ((s6.trans h7.same).trans s8)
    walk_at "gg"
    refine ⟨d2, B2, H3, 1000, rfl, h8, n4, by have : B2.length = (bA B2).length := by { unfold bA; rw [List.length_map] }
                                              omega, by omega, fun b hb => b4 (b.1, b.2.2) (List.mem_map.mpr ⟨b, hb, rfl⟩), fun H9 C h9 _ _ _ => ?_⟩
    walk_at "gg"
    refine ⟨d, a, A, rfl, td.up (s3.trans h9.same), ta.up (s2.trans (s3.trans h9.same)), ok, fun H10 s10 => ?_⟩
    exact q H10 (((s2.trans s3).trans h9.same).trans s10)
  · walk_at "gg"
    refine ⟨a, A, rfl, ta.up s1, by omega, fun d B H2 h2 eB => ?_⟩
    have s2 := s1.trans h2.same
    have td := trB h2 eB
    have hp2 := h2.same _ _ hp
    walk_at "gg"
    refine g_klst (by walk_at "sz") (Has.start H2) (fun p2 H3 n3 h3 => ?_)
    walk_at "gg"
    have s3 := h3.same
    have hk := h3.get (List.Mem.head _)
    refine ⟨d, A, rfl, td.up s3, tb, fun us' asc' mem' => ?_⟩
    have eu : us' = us := Asc.ext asc' asc fun z => (mem' z).trans (mem z).symm
    subst eu
    refine ⟨(fun e => by rw [er] at e; cases e), fun r' er' => ?_⟩
    have e' : r' = r := by rw [er] at er'; exact (Option.some.inj er').symm
    subst e'
    intro ex H4 s4 n4 h4
    refine g_caughtM T.M_BadTree_BadTree (fun exn nxn => ?_)
    walk_at "gg"
    refine g_kxf T.XF_BadTree T.N_BadTree_path h4 rfl ?_
    walk_at "gg"
    refine g_kxf T.XF_BadTree T.N_BadTree_place h4 rfl ?_
    walk_at "gg"
    refine g_ktupF (by walk_at "sz") (Has.start H4) (fun p5 H5 F5 n5 s5 f5 h5 => ?_)
    have h45 := (s5.trans h5.same) _ _ h4
    walk_at "gg"
    refine g_isX T.IS_BadTree h45 T.K_BadTree_PartError ?_
    walk_at "gg"
    refine g_isXT T.IS_BadTree h45 T.K_BadTree_ValueError ?_
    walk_at "gg"
    refine g_isX T.IS_BadTree h45 T.K_BadTree_BadText ?_
    walk_at "gg"
    refine g_klst (by walk_at "sz") h5 (fun p6 H6 n6 h6 => ?_)
    have s45 := s5.trans h6.same
    walk_at "gg"
    refine ⟨.ref p5, .ref p, rfl, Sm.pair (h6.same _ _ f5) (s45 _ _ (s4 _ _ (s3 _ _ hp2))) Sm.str Sm.pl, fun H7 s7 => ?_⟩
    have h7 := h6.on s7
    walk_at "gg"
    refine g_klst (by walk_at "sz") h7 (fun p8 H8 n8 h8 => ?_)
    refine g_neD (dk11 (h8.get (by walk_at "m"))) (dk11 (h8.get (List.Mem.head _))) shk11 shk11 ?_
    rw [eqk11]
    walk_at "gg"
    refine i_d (fun z => by cases z) (fun _ => ?_)
    walk_at "gg"
    refine i_d (fun z => by cases z) (fun _ => ?_)
    walk_at "gg"
    have s8 : Same H2 H8 := s3.trans (s4.trans (s5.trans h8.same))
    refine ⟨d, a, A, rfl, td.up s8, ta.up (s2.trans s8), ok, fun H9 s9 => ?_⟩
    exact q H9 ((s2.trans s8).trans s9)
end

end K11

namespace K11
open PySem PySem.Spec PyProof.Rows L2 Qk
local macro_rules | `(tactic| walk_at "m") => `(tactic| ((repeat (first | exact List.Mem.head _ | apply List.Mem.tail)); done))
local macro_rules | `(tactic| walk_at "h") => `(tactic| first | assumption | exact Has.gF (by assumption) (by assumption) | exact Has.get (by assumption) (by walk_at "m"))
local macro_rules | `(tactic| walk_at "c") => `(tactic| ((repeat (first | exact Chg.hd | apply Chg.tl)); done))
local macro_rules | `(tactic| walk_at "is") => `(tactic| first
  | ((with_reducible refine' is2_non ?gh ?_); (case gh => walk_at "h"))
  | (with_reducible refine is_int_list ?_)
  | (with_reducible refine is_int_tuple ?_)
  | (with_reducible refine is_int_dict ?_)
  | (with_reducible refine is_int_int ?_)
  | (with_reducible refine is_int_bool ?_)
  | (with_reducible refine is_int_str ?_)
  | ((with_reducible refine' is2_int ?gh ?_); (case gh => walk_at "h"))
  | (with_reducible refine is_str_list ?_)
  | (with_reducible refine is_str_tuple ?_)
  | (with_reducible refine is_str_dict ?_)
  | (with_reducible refine is_str_int ?_)
  | (with_reducible refine is_str_bool ?_)
  | (with_reducible refine is_str_str ?_)
  | ((with_reducible refine' is2_str ?gh ?_); (case gh => walk_at "h"))
  | (with_reducible refine is_bool_list ?_)
  | (with_reducible refine is_bool_tuple ?_)
  | (with_reducible refine is_bool_dict ?_)
  | (with_reducible refine is_bool_int ?_)
  | (with_reducible refine is_bool_bool ?_)
  | (with_reducible refine is_bool_str ?_)
  | ((with_reducible refine' is2_bool ?gh ?_); (case gh => walk_at "h"))
  | ((with_reducible refine' is_list_list ?gh ?_); (case gh => walk_at "h"))
  | ((with_reducible refine' is_list_tuple ?gh ?_); (case gh => walk_at "h"))
  | ((with_reducible refine' is_list_dict ?gh ?_); (case gh => walk_at "h"))
  | ((with_reducible refine' is_list_int ?gh ?_); (case gh => walk_at "h"))
  | ((with_reducible refine' is_list_bool ?gh ?_); (case gh => walk_at "h"))
  | ((with_reducible refine' is_list_str ?gh ?_); (case gh => walk_at "h"))
  | ((with_reducible refine' is2_list ?ga ?gb ?_); (case ga => walk_at "h"); (case gb => walk_at "h"))
  | ((with_reducible refine' is_tuple_list ?gh ?_); (case gh => walk_at "h"))
  | ((with_reducible refine' is_tuple_tuple ?gh ?_); (case gh => walk_at "h"))
  | ((with_reducible refine' is_tuple_dict ?gh ?_); (case gh => walk_at "h"))
  | ((with_reducible refine' is_tuple_int ?gh ?_); (case gh => walk_at "h"))
  | ((with_reducible refine' is_tuple_bool ?gh ?_); (case gh => walk_at "h"))
  | ((with_reducible refine' is_tuple_str ?gh ?_); (case gh => walk_at "h"))
  | ((with_reducible refine' is2_tuple ?ga ?gb ?_); (case ga => walk_at "h"); (case gb => walk_at "h"))
  | ((with_reducible refine' is_dict_list ?gh ?_); (case gh => walk_at "h"))
  | ((with_reducible refine' is_dict_tuple ?gh ?_); (case gh => walk_at "h"))
  | ((with_reducible refine' is_dict_dict ?gh ?_); (case gh => walk_at "h"))
  | ((with_reducible refine' is_dict_int ?gh ?_); (case gh => walk_at "h"))
  | ((with_reducible refine' is_dict_bool ?gh ?_); (case gh => walk_at "h"))
  | ((with_reducible refine' is_dict_str ?gh ?_); (case gh => walk_at "h"))
  | ((with_reducible refine' is2_dict ?ga ?gb ?_); (case ga => walk_at "h"); (case gb => walk_at "h")))
local macro_rules | `(tactic| walk_at "g") => `(tactic| first
  | (with_reducible refine g_seq ?_)
  | (with_reducible refine g_asg ?_)
  | ((with_reducible refine g_name ?_); dsimp only [List.set, wipe, List.map])
  | ((with_reducible refine' g_var ?gv ?_); (case gv => exact rfl))
  | (with_reducible refine g_c ?_)
  | (with_reducible refine g_op ?_)
  | (with_reducible refine g_cons ?_)
  | (with_reducible refine g_nil ?_)
  | (with_reducible refine g_cb ?_)
  | (with_reducible refine g_call ?_)
  | (with_reducible refine g_tup ?_)
  | (with_reducible refine g_lst ?_)
  | (with_reducible refine g_bm ?_)
  | (with_reducible refine g_bm0 ?_)
  | ((with_reducible refine' g_kbm ?gh ?_); (case gh => walk_at "h"))
  | (with_reducible refine g_drop ?_)
  | (with_reducible refine g_ret ?_)
  | (with_reducible refine g_retN ?_)
  | (with_reducible refine g_next ?_)
  | (with_reducible refine g_brk ?_)
  | (with_reducible refine g_cont ?_)
  | (with_reducible refine g_if ?_)
  | ((with_reducible refine' g_aug ?gv ?_); (case gv => exact rfl))
  | (with_reducible refine g_ipI ?_)
  | (with_reducible refine g_test ?_)
  | (with_reducible refine g_tB ?_)
  | (with_reducible refine g_kB ?_)
  | (with_reducible refine g_not ?_)
  | (with_reducible refine g_and ?_)
  | (with_reducible refine g_or ?_)
  | (with_reducible refine g_andV ?_)
  | (with_reducible refine g_orV ?_)
  | (with_reducible refine g_notV ?_)
  | (with_reducible refine g_ifE ?_)
  | (with_reducible refine g_addI ?_)
  | (with_reducible refine g_rI0 ?_)
  | (with_reducible refine g_eqI ?_)
  | (with_reducible refine g_eqS ?_)
  | (with_reducible refine g_neI ?_)
  | (with_reducible refine g_neS ?_)
  | (with_reducible refine g_isN ?_)
  | (with_reducible refine g_notN ?_)
  | (with_reducible refine g_int ?_)
  | (with_reducible refine g_max2 ?_)
  | (with_reducible refine g_min2 ?_)
  | ((with_reducible refine' g_lenL ?gh ?_); (case gh => walk_at "h"))
  | (with_reducible refine g_sub ?_)
  | (with_reducible refine g_gcons ?_)
  | (with_reducible refine g_gnil ?_)
  | (with_reducible refine g_un ?_)
  | (with_reducible refine g_rU ?_)
  | (with_reducible refine g_forL ?_)
  | (with_reducible refine g_forS ?_)
  | (with_reducible refine g_forR1 ?_)
  | (with_reducible refine g_forR2 ?_)
  | (with_reducible refine g_forR3 ?_)
  | (with_reducible refine g_lcL ?_)
  | (with_reducible refine g_lcR1 ?_)
  | (with_reducible refine g_lcR2 ?_)
  | (with_reducible refine g_slice ?_)
  | (with_reducible refine g_part ?_)
  | (with_reducible refine g_kOI ?_)
  | (with_reducible refine g_nopart ?_)
  | (with_reducible refine g_yes ?_)
  | ((with_reducible refine' g_wipe ?gv ?_); (case gv => exact rfl))
  | (with_reducible refine iteT ?_)
  | (with_reducible refine iteF ?_)
  | (with_reducible refine i_nf ?_)
  | (with_reducible refine i_nt ?_)
  | ((with_reducible refine' g_gtup ?gh ?gl ?_); (case gh => walk_at "h"); (case gl => exact rfl))
  | ((with_reducible refine' g_notinI ?gh ?_); (case gh => walk_at "h"))
  | ((with_reducible refine' g_inI ?gh ?_); (case gh => walk_at "h"))
  | ((with_reducible refine' g_kget2 ?gh ?_); (case gh => walk_at "h"))
  | ((with_reducible refine' g_kgotI ?gh ?_); (case gh => walk_at "h"))
  | (with_reducible refine g_tRev ?_)
  | (with_reducible refine g_neB ?_)
  | (with_reducible refine g_eqB ?_)
  | ((with_reducible refine' g_lenT ?gh ?_); (case gh => walk_at "h"))
  | (with_reducible refine g_star ?_)
  | ((with_reducible refine' g_kstarL ?gh ?_); (case gh => walk_at "h"))
  | ((with_reducible refine' g_kstarT ?gh ?_); (case gh => walk_at "h"))
  | (with_reducible refine g_tru ?_)
  | ((with_reducible refine' g_truL ?gh ?_); (case gh => walk_at "h"))
  | (with_reducible refine g_get2 ?_)
  | (with_reducible refine g_try ?_)
  | (with_reducible refine g_fld ?_)
  | (with_reducible refine g_sfld ?_)
  | (with_reducible refine g_meth ?_)
  | (with_reducible refine g_make ?_)
  | (with_reducible refine g_del ?_)
  | (with_reducible refine g_callS ?_)
  | (with_reducible refine g_raise ?_)
  | (with_reducible refine g_xf ?_)
  | (with_reducible refine g_m0 ?_)
  | (with_reducible refine g_km0 ?_)
  | walk_at "is")
local macro_rules | `(tactic| walk_at "gg") => `(tactic| repeat walk_at "g")
local macro_rules | `(tactic| walk_at "sz") => `(tactic| (refine sz ?_; simp only [List.length_cons, List.length_nil, List.length_map, List.length_append, List.length_replicate]; omega))
local macro_rules | `(tactic| walk_at "sub") => `(tactic| ((repeat (first | exact List.Sublist.slnil | with_reducible apply List.Sublist.cons_cons | with_reducible apply List.Sublist.cons)); done))

local macro_rules | `(tactic| walk_at "g") => `(tactic| first
  | (with_reducible refine g_dcL ?_)
  | (with_reducible refine g_dcT ?_)
  | (with_reducible refine g_m1s ?_)
  | (with_reducible refine g_km1s ?_)
  | (with_reducible refine g_starts ?_)
  | (with_reducible refine g_tryX ?_)
  | (with_reducible refine g_lcS ?_))

local macro_rules | `(tactic| walk_at "g") => `(tactic| (with_reducible refine g_tryM ?_))

/-! ### files that are asked -/
theorem Sm.files {H : Hp} {n : Nat} {a b : Addr} {xs ys : List V} {R : Tr} (ha : H a = some (.tup xs)) (hb : H b = some (.tup ys)) (dx : DqAll H xs (R.map fD)) (dy : DqAll H ys (R.map fD)) (l : R.length ≤ 1000) (lt : ∀ p ∈ R, p.2.length ≤ 1000) : Sm H (n + 4) (.ref a) (.ref b) := by
  have lx := dx.len
  have ly := dy.len
  rw [List.length_map] at lx ly
  refine .inr (.inr (.inr (.inr (.inl ⟨a, b, xs, ys, rfl, rfl, .inr ⟨ha, hb⟩, by omega, by omega, fun i p q hp hq => ?_⟩))))
  obtain ⟨d, ed, dp⟩ := dx.get hp
  obtain ⟨d', ed', dq⟩ := dy.get hq
  rw [ed] at ed'
  injection ed' with ed'
  subst ed'
  rw [List.getElem?_map] at ed
  obtain ⟨r, er, rfl⟩ := Option.map_eq_some_iff.mp ed
  obtain ⟨T1, l1, rfl, h1, h2⟩ := fD_inv dp
  obtain ⟨T2, l2, rfl, h3, h4⟩ := fD_inv dq
  refine Sm.pair h1 h3 Sm.str ?_
  refine .inr (.inr (.inr (.inr (.inl ⟨l1, l2, _, _, rfl, rfl, .inr ⟨h2, h4⟩, rfl, by rw [List.length_map]; have := lt r (List.mem_of_getElem? er); omega, fun i u v hu hv => ?_⟩))))
  rw [hu] at hv
  injection hv with hv
  subst hv
  rw [List.getElem?_map] at hu
  obtain ⟨z, _, rfl⟩ := Option.map_eq_some_iff.mp hu
  exact .inr (.inr (.inr (.inl ⟨z, rfl, rfl⟩)))
section
variable {P : Program} {w : World} {K : PySem.W.Frag} {mg : Str → Option Value} {base : Heap}
def sp_l_asks_files (K : PySem.W.Frag) : Sp := fun vs H Q _ => ∃ (a : Addr) (A : Tr), vs = [.ref a] ∧ TrAt H a A ∧ TrB A ∧ okTr A ∧ ∀ H', Same H H' → Q (.bl true) H'
theorem sp_l_asks_files_len {vs H Q E} (h : sp_l_asks_files K vs H Q E) : vs.length = 1 := by
  obtain ⟨_, _, rfl, _⟩ := h
  rfl
set_option maxHeartbeats 1000000 in
theorem ok_l_asks_files (T : Txt K mg) : FnOk P w K mg base CX0 7 T.f_l_asks_files T.fd_l_asks_files ["tree"] (sp_l_asks_files K) := by
  refine T.F_l_asks_files.ok sc_l_asks_files (fun vs H Q E h => sp_l_asks_files_len h) (fun cdv A outer s H vs Q E hr h => ?_)
  refine ⟨_, (pss_cons (ps_set (i := 1) sc_l_asks_files.nd rfl (.inr rfl) pe_dnewK)
      (pss_cons (ps_lock (ps_for PassesOwn.never rfl (pi_keys (pv 0)) (pg_name (i := 2) sc_l_asks_files.nd rfl (.inl rfl)) (pss_one (ps_if (PW.pt (pw_and (pt_val (pe_call (ok_l_is_way T) (hr.mono (by decide)) (by rfl) T.g_l_is_way T.F_l_is_way.kp T.b_l_is_way .nil pass0 (pa_cons (pv 2) pa_nil))) (pw_and1 (pt_cmpR op_lt (pe_call (ok_l_bad_line T) (hr.mono (by decide)) (by rfl) T.g_l_bad_line T.F_l_bad_line.kp T.b_l_bad_line .nil pass0 (pa_cons (pe_ix (ix_K K (hu_of hr)) (pv 0) (pv 2) (fun _ _ => rfl)) pa_nil)) pe_int (nomark _))))) (pss_one (ps_asg (pe_callTy (cr_listK K) (by rfl) T.m_list (by decide +kernel) (pa_cons (pe_ix (ix_K K (hu_of hr)) (pv 0) (pv 2) (fun _ _ => rfl)) pa_nil)) (pg_sub (pv 1) (pv 2) (set_any (hu_of hr))))) pss_nil))))
      (pss_cons (ps_set (i := 3) sc_l_asks_files.nd rfl (.inl rfl) (pe_call (ok_l_copy T) (hr.mono (by decide)) (by rfl) T.g_l_copy T.F_l_copy.kp T.b_l_copy .nil pass0 (pa_cons (pv 1) pa_nil)))
      (pss_cons (ps_set (i := 4) sc_l_asks_files.nd rfl (.inl rfl) (pe_callTy (cr_tupleK K) (by rfl) T.m_tuple (by decide +kernel) (pa_cons (pe_lc (own := [("path", 2)]) (g := gName 2) (tt := tYes) rfl sc_l_asks_files.nd (k_il K (pi_list (pe_callB (cr_sortA K rfl) (by rfl) T.m_sorted (by decide +kernel) (pa_cons (pe_callTy (cr_listD rfl) (by rfl) T.m_list (by decide +kernel) (pa_cons (pv 1) pa_nil)) pa_nil)))) (blkOk_by (N := n_l_asks_files) (sc := defScope s_l_asks_files) (by decide +kernel)) (fun _ _ _ _ _ => (pg_name (i := 2) sc_l_asks_files.nd rfl (.inl rfl))) (fun _ _ _ _ _ => pts_nil) (fun _ _ _ _ _ => (pe_tup (pa_cons (pv 2) (pa_cons (pe_callTy (cr_tupleK K) (by rfl) T.m_tuple (by decide +kernel) (pa_cons (pe_ix (ix_K K (hu_of hr)) (pv 1) (pv 2) (fun _ _ => rfl)) pa_nil)) pa_nil))))) pa_nil)))
      (pss_cons (ps_if (PW.pt (pw_or (pt_not (pt_val (pe_call (ok_l_same T) (hr.mono (by decide)) (by rfl) T.g_l_same T.F_l_same.kp T.b_l_same .nil pass0 (pa_cons (pe_call (ok_files_of T) (hr.mono (by decide)) (by rfl) T.g_files_of T.F_files_of.kp T.b_files_of .nil pass0 (pa_cons (pv 3) pa_nil)) (pa_cons (pv 4) pa_nil))))) (pw_or1 (pt_not (pt_val (pe_call (ok_l_kept T) (hr.mono (by decide)) (by rfl) T.g_l_kept T.F_l_kept.kp T.b_l_kept .nil pass0 (pa_cons (pv 3) (pa_cons (pv 1) pa_nil)))))))) (pss_one (ps_ret pe_bl)) pss_nil)
      (pss_cons (ps_set (i := 5) sc_l_asks_files.nd rfl (.inl rfl) (pe_call (ok_tree_of T) (hr.mono (by decide)) (by rfl) T.g_tree_of T.F_tree_of.kp T.b_tree_of .nil pass0 (pa_cons (pv 4) pa_nil)))
      (pss_cons (ps_if (pt_not (pt_val (pe_call (ok_l_same T) (hr.mono (by decide)) (by rfl) T.g_l_same T.F_l_same.kp T.b_l_same .nil pass0 (pa_cons (pv 5) (pa_cons (pe_call (ok_l_rising T) (hr.mono (by decide)) (by rfl) T.g_l_rising T.F_l_rising.kp T.b_l_rising .nil pass0 (pa_cons (pv 1) pa_nil)) pa_nil))))) (pss_one (ps_ret pe_bl)) pss_nil)
      (pss_cons (ps_expr (pe_call (ok_l_spoil T) (hr.mono (by decide)) (by rfl) T.g_l_spoil T.F_l_spoil.kp T.b_l_spoil .nil pass0 (pa_cons (pv 5) pa_nil)))
      (pss_one (ps_ret (pe_call (ok_l_same T) (hr.mono (by decide)) (by rfl) T.g_l_same T.F_l_same.kp T.b_l_same .nil pass0 (pa_cons (pe_call (ok_tree_of T) (hr.mono (by decide)) (by rfl) T.g_tree_of T.F_tree_of.kp T.b_tree_of .nil pass0 (pa_cons (pv 4) pa_nil)) (pa_cons (pe_call (ok_l_rising T) (hr.mono (by decide)) (by rfl) T.g_l_rising T.F_l_rising.kp T.b_l_rising .nil pass0 (pa_cons (pv 1) pa_nil)) pa_nil))))))))))))), ?_⟩
  obtain ⟨a, A, rfl, ⟨kvs, ha, ek, nd, dq⟩, tb, ok, q⟩ := h
  have hH := Has.start H
  have lk := tr_len ek
  have few := tb.few
  refine g_start (σ' := [some (.ref a), none, none, none, none, none]) rfl ?_
  walk_at "gg"
  refine g_dnewK hH (fun d H1 n1 h1 => ?_)
  walk_at "gg"
  refine k_forDK rfl ha (Has.b0 h1) (fun t σ O' => ∃ (B : Bt) (y2 : Option V), σ = [some (.ref a), some (.ref d), y2, none, none, none] ∧ O' = (d, .dK (bK B)) :: (bO B ++ []) ∧ (bA B).Sublist (A.take t)) ⟨[], _, rfl, rfl, List.nil_sublist _⟩ ?_ ?_
  · rintro t k v σ O' H2 od ekv ⟨B, y2, rfl, rfl, sB⟩ h2
    obtain ⟨p, ep, rfl⟩ := tr_key ek ekv
    obtain ⟨kv2, rd, ek2, _, dq2⟩ := (RT.lock (od := od) ha ⟨kvs, .inl ha, ek, nd, dq⟩).up h2.same
    obtain ⟨l, vl, hl⟩ := tr_at ek2 dq2 (getT_of nd (List.mem_of_getElem? ep))
    have lB : B.length ≤ t := by
      have := sB.length_le
      unfold bA at this
      rw [List.length_map, List.length_take] at this
      omega
    have lt : t < A.length := (List.getElem?_eq_some_iff.mp ep).1
    have pb := tb.ok p (List.mem_of_getElem? ep)
    have po := ok p (List.mem_of_getElem? ep)
    have skip : (bA B).Sublist (A.take (t + 1)) := sB.trans (by rw [List.take_add_one]; exact List.sublist_append_left _ _)
    walk_at "gg"
    refine ⟨p.1, rfl, pb.1, po.1, fun H3 s3 => ?_⟩
    have h3 := h2.on s3
    walk_at "gg"
    cases hb : isPath p.1 with
    | false =>
      walk_at "gg"
      exact ⟨_, ⟨B, _, rfl, rfl, skip⟩, h3⟩
    | true =>
    walk_at "gg"
    have rd3 : Rd H3 a (.dK kv2) := rd.imp (fun h => s3 _ _ h) (fun ⟨o, h⟩ => ⟨o, s3 _ _ h⟩)
    have rd4 : ∀ {H4 : Hp}, Same H3 H4 → Rd H4 a (.dK kv2) := fun s4 => rd3.imp (fun h => s4 _ _ h) (fun ⟨o, h⟩ => ⟨o, s4 _ _ h⟩)
    refine g_ixDR rd3 vl ?_
    walk_at "gg"
    refine ⟨l, p.2, rfl, s3 _ _ hl, fun z hz => ⟨pb.2.2 z hz, po.2 z hz⟩, pb.2.1, fun H4 s4 => ?_⟩
    have h4 := h3.on s4
    walk_at "gg"
    refine i_d (fun e => ?_) (fun e => ?_)
    · walk_at "gg"
      refine g_ixDR (rd4 s4) vl ?_
      walk_at "gg"
      refine g_listL (s4 _ _ (s3 _ _ hl)) h4 (fun p1 H5 n5 h5 => ?_)
      have nz : p.1 ∉ B.map (·.1) := by
        rw [← bA_keys]
        intro m
        exact take_new' nd ep ((sB.map _).subset m)
      walk_at "gg"
      refine g_stD (k := .inr p.1) rfl h5 (.tl .hd) (szl (by unfold bK; rw [List.length_map]; omega)) (fun H6 h6 => ?_)
      rw [putK_new _ (bK_none nz)] at h6
      walk_at "gg"
      refine ⟨_, ⟨B ++ [(p.1, p1, p.2)], _, rfl, rfl, ?_⟩, Has.bput h6⟩
      rw [bA_snoc, List.take_add_one, ep]
      exact sB.append (List.Sublist.refl _)
    · walk_at "gg"
      exact ⟨_, ⟨B, _, rfl, rfl, skip⟩, h4⟩
  rintro σ O' H2 ⟨B, y2, rfl, rfl, sB⟩ h2
  rw [lk, List.take_length] at sB
  rw [List.append_nil] at h2
  have ndG : (B.map (·.1)).Nodup := by rw [← bA_keys]; exact (sB.map _).nodup nd
  have tG : TrAt H2 d (bA B) := tr_in h2 (fun p hp => hp) ndG
  have okG : okTr (bA B) := fun p hp => ok p (sB.subset hp)
  have ltG : ∀ p ∈ bA B, p.2.length ≤ 1000 := fun p hp => (tb.ok p (sB.subset hp)).2.1
  have lG : (bA B).length ≤ 60 := by have := sB.length_le; omega
  have s2 := h2.same
  clear sB h2
  generalize bA B = G at tG okG ltG lG
  walk_at "gg"
  refine ⟨d, G, rfl, tG, by omega, fun d3 B3 H3 h3 e3 => ?_⟩
  have t3 : TrAt H3 d3 G := by
    obtain ⟨_, _, _, ng, _⟩ := id tG
    rw [← e3] at ng ⊢
    exact tr_in h3 (fun p hp => hp) (by rw [← bA_keys]; exact ng)
  have tG3 := tG.up h3.same
  obtain ⟨kg, hg, ekg, ndg, dqg⟩ := id tG3
  walk_at "gg"
  refine g_listD hg (Has.start H3) (fun p4 H4 n4 h4 => ?_)
  rw [tr_keys ekg] at h4
  walk_at "gg"
  refine g_sortS (h4.get (List.Mem.head _)) (by rw [List.length_map]; omega) h4 (fun us p5 H5 pm srt n5 h5 => ?_)
  have asc := asc_of srt (pm.nodup_iff.mpr ndg)
  have lu := pm.length_eq
  rw [List.length_map] at lu
  walk_at "gg"
  refine k_lcL (h5.get (List.Mem.head _)) h5 (fun i acc F' O' => ∃ R : Tr, DqAll F' acc (R.map fD) ∧ R.map (·.1) = us.take i ∧ (∀ r ∈ R, r ∈ G) ∧ Same H3 F' ∧ O' = [(p5, .lst (us.map V.str)), (p4, .lst ((G.map (·.1)).map V.str))]) ⟨[], .nil, rfl, (fun r h => by cases h), Same.refl _, rfl⟩ ?_ ?_ ?_
  · rintro i acc F' O' H6 ⟨R, _, _, _, _, rfl⟩ hh
    exact hh.get (List.Mem.head _)
  · rintro i xx acc F' O' D H6 hx ⟨R, dqR, eR, sR, sF, rfl⟩ hh
    obtain ⟨z, hz, rfl⟩ := str_at hx
    have zm : z ∈ G.map (·.1) := pm.mem_iff.mp (List.mem_of_getElem? hz)
    obtain ⟨r, hr_, rfl⟩ := List.mem_map.mp zm
    have sH := sF.trans hh.same
    obtain ⟨l, vl, hl⟩ := tr_at ekg (dqg.up sH _ _) (getT_of ndg hr_)
    have lt := (List.getElem?_eq_some_iff.mp hz).1
    have la : acc.length = i := by
      have h1 := dqR.len
      have h2 := congrArg List.length eR
      rw [List.length_map] at h1
      rw [List.length_map, List.length_take] at h2
      omega
    walk_at "gg"
    refine g_ixDS (sH _ _ hg) vl ?_
    walk_at "gg"
    refine g_tupleL hl hh (fun p7 H7 F7 n7 s7 f7 h7 => ?_)
    walk_at "gg"
    refine g_ktupF (by walk_at "sz") h7 (fun p8 H8 F8 n8 s8 f8 h8 => ?_)
    refine k_turn h8 (by omega) ⟨R ++ [r], ?_, ?_, fun r' hr' => ?_, (sF.trans s7).trans s8, rfl⟩
    · rw [List.map_append]
      exact (dqR.up (s7.trans s8) _ _).snoc (fD_dq f8 (s8 _ _ f7))
    · rw [List.map_append, eR, List.take_add_one, hz]
      rfl
    · rcases List.mem_append.mp hr' with h | h
      · exact sR r' h
      · rw [List.mem_singleton.mp h]
        exact hr_
  rintro acc F' O' p6 H6 ⟨R, dqR, eR, sR, sF, rfl⟩ h6
  rw [List.length_map, List.take_length] at eR
  walk_at "gg"
  refine g_tupleL (h6.get (List.Mem.head _)) h6 (fun p7 H7 F7 n7 s7 f7 h7 => ?_)
  have s37 : Same H3 H7 := (sF.trans s7).trans h7.same
  have hp7 := h7.same _ _ f7
  have dq7 := dqR.up (s7.trans h7.same) _ _
  have aR : AscOf G R := by
    refine ⟨by unfold AscT; rw [eR]; exact asc, fun p => ⟨sR p, fun hp => ?_⟩⟩
    have m : p.1 ∈ R.map (·.1) := by
      rw [eR]
      exact pm.mem_iff.mpr (List.mem_map.mpr ⟨p, hp, rfl⟩)
    obtain ⟨r, hr, e⟩ := List.mem_map.mp m
    have g1 := getT_of ndg (sR r hr)
    rw [e, getT_of ndg hp] at g1
    injection g1 with g1
    rw [show p = r from Prod.ext e.symm g1]
    exact hr
  have lR : R.length ≤ 60 := by
    have := congrArg List.length eR
    rw [List.length_map] at this
    omega
  have ltR : ∀ p ∈ R, p.2.length ≤ 1000 := fun p hp => ltG p (sR p hp)
  clear h7 h6 h5 h4
  walk_at "gg"
  refine ⟨d3, G, rfl, t3.up s37, lG, fun p8 H8 ws B8 s8 hp8 dq8 a8 => ?_⟩
  have e8 : B8 = R := AscT.ext a8.1 aR.1 fun z t => (a8.2 (z, t)).trans (aR.2 (z, t)).symm
  subst e8
  walk_at "gg"
  refine ⟨.ref p8, .ref p7, rfl, Sm.files hp8 (s8 _ _ hp7) dq8 (dq7.up s8 _ _) (by omega) ltR, fun H9 s9 => ?_⟩
  have s79 := s8.trans s9
  walk_at "gg"
  refine ⟨d3, d, G, rfl, t3.up (s37.trans s79), tG3.up (s37.trans s79), okG, fun H10 s10 => ?_⟩
  have s7A := s79.trans s10
  walk_at "gg"
  refine ⟨p7, acc, B8, rfl, s7A _ _ hp7, dq7.up s7A _ _, aR.1.nd, by omega, fun dB CB HB hB eB => ?_⟩
  have s7B := s7A.trans hB.same
  have nCB : (CB.map (·.1)).Nodup := by rw [← bA_keys, eB]; exact aR.1.nd
  walk_at "gg"
  refine ⟨d, G, rfl, tG3.up (s37.trans s7B), lG, fun dC BC HC hC ascC memC => ?_⟩
  have eC : bA BC = B8 := AscT.ext ascC aR.1 fun z t => (memC (z, t)).trans (aR.2 (z, t)).symm
  have tC : TrAt HC dC B8 := by
    rw [← eC]
    exact tr_in hC (fun p hp => hp) (by rw [← bA_keys]; exact ascC.nd)
  have tB : TrAt HC dB B8 := by
    have := tr_in hB (fun p hp => hp) nCB
    rw [eB] at this
    exact this.up hC.same
  walk_at "gg"
  refine ⟨.ref dB, .ref dC, rfl, Sm.tree tB tC (by omega) ltR, fun HD sD => ?_⟩
  have hB' := hB.on (hC.same.trans sD)
  walk_at "gg"
  refine ⟨dB, CB, _, 1000, rfl, hB', nCB, ?_, by omega, fun b hb => ?_, fun HE CE hE _ _ _ => ?_⟩
  · have := congrArg List.length eB
    unfold bA at this
    rw [List.length_map] at this
    omega
  · have : (b.1, b.2.2) ∈ bA CB := List.mem_map.mpr ⟨b, hb, rfl⟩
    rw [eB] at this
    exact ltR _ this
  have s7E := s7A.trans hE.same
  walk_at "gg"
  refine ⟨p7, acc, B8, rfl, s7E _ _ hp7, dq7.up s7E _ _, aR.1.nd, by omega, fun dF CF HF hF eF => ?_⟩
  have s7F := s7E.trans hF.same
  have nCF : (CF.map (·.1)).Nodup := by rw [← bA_keys, eF]; exact aR.1.nd
  walk_at "gg"
  refine ⟨d, G, rfl, tG3.up (s37.trans s7F), lG, fun dG BG HG hG ascG memG => ?_⟩
  have eG : bA BG = B8 := AscT.ext ascG aR.1 fun z t => (memG (z, t)).trans (aR.2 (z, t)).symm
  have tG' : TrAt HG dG B8 := by
    rw [← eG]
    exact tr_in hG (fun p hp => hp) (by rw [← bA_keys]; exact ascG.nd)
  have tF : TrAt HG dF B8 := by
    have := tr_in hF (fun p hp => hp) nCF
    rw [eF] at this
    exact this.up hG.same
  walk_at "gg"
  refine ⟨.ref dF, .ref dG, rfl, Sm.tree tF tG' (by omega) ltR, fun HZ sZ => ?_⟩
  exact q HZ ((s2.trans h3.same).trans (s37.trans (s7F.trans (hG.same.trans sZ))))
end

end K11

namespace K11
open PySem PySem.Spec PyProof.Rows L2 Qk
local macro_rules | `(tactic| walk_at "m") => `(tactic| ((repeat (first | exact List.Mem.head _ | apply List.Mem.tail)); done))
local macro_rules | `(tactic| walk_at "h") => `(tactic| first | assumption | exact Has.gF (by assumption) (by assumption) | exact Has.get (by assumption) (by walk_at "m"))
local macro_rules | `(tactic| walk_at "c") => `(tactic| ((repeat (first | exact Chg.hd | apply Chg.tl)); done))
local macro_rules | `(tactic| walk_at "is") => `(tactic| first
  | ((with_reducible refine' is2_non ?gh ?_); (case gh => walk_at "h"))
  | (with_reducible refine is_int_list ?_)
  | (with_reducible refine is_int_tuple ?_)
  | (with_reducible refine is_int_dict ?_)
  | (with_reducible refine is_int_int ?_)
  | (with_reducible refine is_int_bool ?_)
  | (with_reducible refine is_int_str ?_)
  | ((with_reducible refine' is2_int ?gh ?_); (case gh => walk_at "h"))
  | (with_reducible refine is_str_list ?_)
  | (with_reducible refine is_str_tuple ?_)
  | (with_reducible refine is_str_dict ?_)
  | (with_reducible refine is_str_int ?_)
  | (with_reducible refine is_str_bool ?_)
  | (with_reducible refine is_str_str ?_)
  | ((with_reducible refine' is2_str ?gh ?_); (case gh => walk_at "h"))
  | (with_reducible refine is_bool_list ?_)
  | (with_reducible refine is_bool_tuple ?_)
  | (with_reducible refine is_bool_dict ?_)
  | (with_reducible refine is_bool_int ?_)
  | (with_reducible refine is_bool_bool ?_)
  | (with_reducible refine is_bool_str ?_)
  | ((with_reducible refine' is2_bool ?gh ?_); (case gh => walk_at "h"))
  | ((with_reducible refine' is_list_list ?gh ?_); (case gh => walk_at "h"))
  | ((with_reducible refine' is_list_tuple ?gh ?_); (case gh => walk_at "h"))
  | ((with_reducible refine' is_list_dict ?gh ?_); (case gh => walk_at "h"))
  | ((with_reducible refine' is_list_int ?gh ?_); (case gh => walk_at "h"))
  | ((with_reducible refine' is_list_bool ?gh ?_); (case gh => walk_at "h"))
  | ((with_reducible refine' is_list_str ?gh ?_); (case gh => walk_at "h"))
  | ((with_reducible refine' is2_list ?ga ?gb ?_); (case ga => walk_at "h"); (case gb => walk_at "h"))
  | ((with_reducible refine' is_tuple_list ?gh ?_); (case gh => walk_at "h"))
  | ((with_reducible refine' is_tuple_tuple ?gh ?_); (case gh => walk_at "h"))
  | ((with_reducible refine' is_tuple_dict ?gh ?_); (case gh => walk_at "h"))
  | ((with_reducible refine' is_tuple_int ?gh ?_); (case gh => walk_at "h"))
  | ((with_reducible refine' is_tuple_bool ?gh ?_); (case gh => walk_at "h"))
  | ((with_reducible refine' is_tuple_str ?gh ?_); (case gh => walk_at "h"))
  | ((with_reducible refine' is2_tuple ?ga ?gb ?_); (case ga => walk_at "h"); (case gb => walk_at "h"))
  | ((with_reducible refine' is_dict_list ?gh ?_); (case gh => walk_at "h"))
  | ((with_reducible refine' is_dict_tuple ?gh ?_); (case gh => walk_at "h"))
  | ((with_reducible refine' is_dict_dict ?gh ?_); (case gh => walk_at "h"))
  | ((with_reducible refine' is_dict_int ?gh ?_); (case gh => walk_at "h"))
  | ((with_reducible refine' is_dict_bool ?gh ?_); (case gh => walk_at "h"))
  | ((with_reducible refine' is_dict_str ?gh ?_); (case gh => walk_at "h"))
  | ((with_reducible refine' is2_dict ?ga ?gb ?_); (case ga => walk_at "h"); (case gb => walk_at "h")))
local macro_rules | `(tactic| walk_at "g") => `(tactic| first
  | (with_reducible refine g_seq ?_)
  | (with_reducible refine g_asg ?_)
  | ((with_reducible refine g_name ?_); dsimp only [List.set, wipe, List.map])
  | ((with_reducible refine' g_var ?gv ?_); (case gv => exact rfl))
  | (with_reducible refine g_c ?_)
  | (with_reducible refine g_op ?_)
  | (with_reducible refine g_cons ?_)
  | (with_reducible refine g_nil ?_)
  | (with_reducible refine g_cb ?_)
  | (with_reducible refine g_call ?_)
  | (with_reducible refine g_tup ?_)
  | (with_reducible refine g_lst ?_)
  | (with_reducible refine g_bm ?_)
  | (with_reducible refine g_bm0 ?_)
  | ((with_reducible refine' g_kbm ?gh ?_); (case gh => walk_at "h"))
  | (with_reducible refine g_drop ?_)
  | (with_reducible refine g_ret ?_)
  | (with_reducible refine g_retN ?_)
  | (with_reducible refine g_next ?_)
  | (with_reducible refine g_brk ?_)
  | (with_reducible refine g_cont ?_)
  | (with_reducible refine g_if ?_)
  | ((with_reducible refine' g_aug ?gv ?_); (case gv => exact rfl))
  | (with_reducible refine g_ipI ?_)
  | (with_reducible refine g_test ?_)
  | (with_reducible refine g_tB ?_)
  | (with_reducible refine g_kB ?_)
  | (with_reducible refine g_not ?_)
  | (with_reducible refine g_and ?_)
  | (with_reducible refine g_or ?_)
  | (with_reducible refine g_andV ?_)
  | (with_reducible refine g_orV ?_)
  | (with_reducible refine g_notV ?_)
  | (with_reducible refine g_ifE ?_)
  | (with_reducible refine g_addI ?_)
  | (with_reducible refine g_rI0 ?_)
  | (with_reducible refine g_eqI ?_)
  | (with_reducible refine g_eqS ?_)
  | (with_reducible refine g_neI ?_)
  | (with_reducible refine g_neS ?_)
  | (with_reducible refine g_isN ?_)
  | (with_reducible refine g_notN ?_)
  | (with_reducible refine g_int ?_)
  | (with_reducible refine g_max2 ?_)
  | (with_reducible refine g_min2 ?_)
  | ((with_reducible refine' g_lenL ?gh ?_); (case gh => walk_at "h"))
  | (with_reducible refine g_sub ?_)
  | (with_reducible refine g_gcons ?_)
  | (with_reducible refine g_gnil ?_)
  | (with_reducible refine g_un ?_)
  | (with_reducible refine g_rU ?_)
  | (with_reducible refine g_forL ?_)
  | (with_reducible refine g_forS ?_)
  | (with_reducible refine g_forR1 ?_)
  | (with_reducible refine g_forR2 ?_)
  | (with_reducible refine g_forR3 ?_)
  | (with_reducible refine g_lcL ?_)
  | (with_reducible refine g_lcR1 ?_)
  | (with_reducible refine g_lcR2 ?_)
  | (with_reducible refine g_slice ?_)
  | (with_reducible refine g_part ?_)
  | (with_reducible refine g_kOI ?_)
  | (with_reducible refine g_nopart ?_)
  | (with_reducible refine g_yes ?_)
  | ((with_reducible refine' g_wipe ?gv ?_); (case gv => exact rfl))
  | (with_reducible refine iteT ?_)
  | (with_reducible refine iteF ?_)
  | (with_reducible refine i_nf ?_)
  | (with_reducible refine i_nt ?_)
  | ((with_reducible refine' g_gtup ?gh ?gl ?_); (case gh => walk_at "h"); (case gl => exact rfl))
  | ((with_reducible refine' g_notinI ?gh ?_); (case gh => walk_at "h"))
  | ((with_reducible refine' g_inI ?gh ?_); (case gh => walk_at "h"))
  | ((with_reducible refine' g_kget2 ?gh ?_); (case gh => walk_at "h"))
  | ((with_reducible refine' g_kgotI ?gh ?_); (case gh => walk_at "h"))
  | (with_reducible refine g_tRev ?_)
  | (with_reducible refine g_neB ?_)
  | (with_reducible refine g_eqB ?_)
  | ((with_reducible refine' g_lenT ?gh ?_); (case gh => walk_at "h"))
  | (with_reducible refine g_star ?_)
  | ((with_reducible refine' g_kstarL ?gh ?_); (case gh => walk_at "h"))
  | ((with_reducible refine' g_kstarT ?gh ?_); (case gh => walk_at "h"))
  | (with_reducible refine g_tru ?_)
  | ((with_reducible refine' g_truL ?gh ?_); (case gh => walk_at "h"))
  | (with_reducible refine g_get2 ?_)
  | (with_reducible refine g_try ?_)
  | (with_reducible refine g_fld ?_)
  | (with_reducible refine g_sfld ?_)
  | (with_reducible refine g_meth ?_)
  | (with_reducible refine g_make ?_)
  | (with_reducible refine g_del ?_)
  | (with_reducible refine g_callS ?_)
  | (with_reducible refine g_raise ?_)
  | (with_reducible refine g_xf ?_)
  | (with_reducible refine g_m0 ?_)
  | (with_reducible refine g_km0 ?_)
  | walk_at "is")
local macro_rules | `(tactic| walk_at "gg") => `(tactic| repeat walk_at "g")
local macro_rules | `(tactic| walk_at "sz") => `(tactic| (refine sz ?_; simp only [List.length_cons, List.length_nil, List.length_map, List.length_append, List.length_replicate]; omega))
local macro_rules | `(tactic| walk_at "sub") => `(tactic| ((repeat (first | exact List.Sublist.slnil | with_reducible apply List.Sublist.cons_cons | with_reducible apply List.Sublist.cons)); done))

/-! ### below -/
def menu4 : List Str := ["a", "ab", "b", "a0"]
def L84 : List (List Str) := menu4.map (fun x => [x]) ++ (menu4.flatMap fun x => menu4.map fun y => [x, y]) ++ (menu4.flatMap fun x => menu4.flatMap fun y => menu4.map fun z => [x, y, z])
def belowOk (xs ys : List Str) : Bool := belowB (PySem.Txt.join "/" xs) (PySem.Txt.join "/" ys) == decide (xs.take ys.length = ys)
def row84 (k : Nat) : Bool := ((L84.drop (4 * k)).take 4).all fun xs => L84.all fun ys => belowOk xs ys
theorem r84_0 : row84 0 = true := by decide +kernel
theorem r84_1 : row84 1 = true := by decide +kernel
theorem r84_2 : row84 2 = true := by decide +kernel
theorem r84_3 : row84 3 = true := by decide +kernel
theorem r84_4 : row84 4 = true := by decide +kernel
theorem r84_5 : row84 5 = true := by decide +kernel
theorem r84_6 : row84 6 = true := by decide +kernel
theorem r84_7 : row84 7 = true := by decide +kernel
theorem r84_8 : row84 8 = true := by decide +kernel
theorem r84_9 : row84 9 = true := by decide +kernel
theorem r84_10 : row84 10 = true := by decide +kernel
theorem r84_11 : row84 11 = true := by decide +kernel
theorem r84_12 : row84 12 = true := by decide +kernel
theorem r84_13 : row84 13 = true := by decide +kernel
theorem r84_14 : row84 14 = true := by decide +kernel
theorem r84_15 : row84 15 = true := by decide +kernel
theorem r84_16 : row84 16 = true := by decide +kernel
theorem r84_17 : row84 17 = true := by decide +kernel
theorem r84_18 : row84 18 = true := by decide +kernel
theorem r84_19 : row84 19 = true := by decide +kernel
theorem r84_20 : row84 20 = true := by decide +kernel
theorem cut84 : L84 = ((List.range 21).map fun k => (L84.drop (4 * k)).take 4).flatten := by decide +kernel
theorem below84 : (L84.all fun xs => L84.all fun ys => belowOk xs ys) = true := by
  refine List.all_eq_true.mpr fun xs hx => ?_
  rw [cut84] at hx
  obtain ⟨l, hl, hx⟩ := List.mem_flatten.mp hx
  obtain ⟨k, hk, rfl⟩ := List.mem_map.mp hl
  have hk := List.mem_range.mp hk
  have hr : row84 k = true := by
    have all : ((List.range 21).map fun k => row84 k) = List.replicate 21 true := by
      show [row84 0, row84 1, row84 2, row84 3, row84 4, row84 5, row84 6, row84 7, row84 8, row84 9, row84 10, row84 11, row84 12, row84 13, row84 14, row84 15, row84 16, row84 17, row84 18, row84 19, row84 20] = _
      rw [r84_0, r84_1, r84_2, r84_3, r84_4, r84_5, r84_6, r84_7, r84_8, r84_9, r84_10, r84_11, r84_12, r84_13, r84_14, r84_15, r84_16, r84_17, r84_18, r84_19, r84_20]
      rfl
    have h2 : (List.replicate 21 true)[k]? = some (row84 k) := by
      rw [← all, List.getElem?_map, List.getElem?_range hk]
      rfl
    exact (List.mem_replicate.mp (List.mem_of_getElem? h2)).2
  exact List.all_eq_true.mp hr xs hx
theorem small84 : (L84.all fun xs => decide (xs.length ≤ 3) && (decide ((PySem.Txt.join "/" xs).length ≤ 8) && (decide ((xs.map (·.length)).sum ≤ 6) && xs.all PyData.strOk))) = true := by decide +kernel
theorem mem84 {xs : List Str} (h1 : 1 ≤ xs.length) (h3 : xs.length ≤ 3) (hm : ∀ z ∈ xs, z ∈ menu4) : xs ∈ L84 := by
  unfold L84
  match xs, h1, h3, hm with
  | [x], _, _, hm =>
    exact List.mem_append_left _ (List.mem_append_left _ (List.mem_map.mpr ⟨x, hm x List.mem_cons_self, rfl⟩))
  | [x, y], _, _, hm =>
    exact List.mem_append_left _ (List.mem_append_right _ (List.mem_flatMap.mpr ⟨x, hm x List.mem_cons_self, List.mem_map.mpr ⟨y, hm y (by simp), rfl⟩⟩))
  | [x, y, z], _, _, hm =>
    exact List.mem_append_right _ (List.mem_flatMap.mpr ⟨x, hm x List.mem_cons_self, List.mem_flatMap.mpr ⟨y, hm y (by simp), List.mem_map.mpr ⟨z, hm z (by simp), rfl⟩⟩⟩)
theorem b84 {xs ys : List Str} (hx : xs ∈ L84) (hy : ys ∈ L84) : belowB (PySem.Txt.join "/" xs) (PySem.Txt.join "/" ys) = decide (xs.take ys.length = ys) := by
  have h := List.all_eq_true.mp (List.all_eq_true.mp below84 xs hx) ys hy
  exact beq_iff_eq.mp h
theorem s84 {xs : List Str} (hx : xs ∈ L84) : xs.length ≤ 3 ∧ (PySem.Txt.join "/" xs).length ≤ 8 ∧ (xs.map (·.length)).sum ≤ 6 ∧ ∀ z ∈ xs, PyData.strOk z = true := by
  have h := List.all_eq_true.mp small84 xs hx
  rw [Bool.and_eq_true, Bool.and_eq_true, Bool.and_eq_true, decide_eq_true_eq, decide_eq_true_eq, decide_eq_true_eq, List.all_eq_true] at h
  exact h

end K11

namespace K11
open PySem PySem.Spec PyProof.Rows L2 Qk
local macro_rules | `(tactic| walk_at "m") => `(tactic| ((repeat (first | exact List.Mem.head _ | apply List.Mem.tail)); done))
local macro_rules | `(tactic| walk_at "h") => `(tactic| first | assumption | exact Has.gF (by assumption) (by assumption) | exact Has.get (by assumption) (by walk_at "m"))
local macro_rules | `(tactic| walk_at "c") => `(tactic| ((repeat (first | exact Chg.hd | apply Chg.tl)); done))
local macro_rules | `(tactic| walk_at "is") => `(tactic| first
  | ((with_reducible refine' is2_non ?gh ?_); (case gh => walk_at "h"))
  | (with_reducible refine is_int_list ?_)
  | (with_reducible refine is_int_tuple ?_)
  | (with_reducible refine is_int_dict ?_)
  | (with_reducible refine is_int_int ?_)
  | (with_reducible refine is_int_bool ?_)
  | (with_reducible refine is_int_str ?_)
  | ((with_reducible refine' is2_int ?gh ?_); (case gh => walk_at "h"))
  | (with_reducible refine is_str_list ?_)
  | (with_reducible refine is_str_tuple ?_)
  | (with_reducible refine is_str_dict ?_)
  | (with_reducible refine is_str_int ?_)
  | (with_reducible refine is_str_bool ?_)
  | (with_reducible refine is_str_str ?_)
  | ((with_reducible refine' is2_str ?gh ?_); (case gh => walk_at "h"))
  | (with_reducible refine is_bool_list ?_)
  | (with_reducible refine is_bool_tuple ?_)
  | (with_reducible refine is_bool_dict ?_)
  | (with_reducible refine is_bool_int ?_)
  | (with_reducible refine is_bool_bool ?_)
  | (with_reducible refine is_bool_str ?_)
  | ((with_reducible refine' is2_bool ?gh ?_); (case gh => walk_at "h"))
  | ((with_reducible refine' is_list_list ?gh ?_); (case gh => walk_at "h"))
  | ((with_reducible refine' is_list_tuple ?gh ?_); (case gh => walk_at "h"))
  | ((with_reducible refine' is_list_dict ?gh ?_); (case gh => walk_at "h"))
  | ((with_reducible refine' is_list_int ?gh ?_); (case gh => walk_at "h"))
  | ((with_reducible refine' is_list_bool ?gh ?_); (case gh => walk_at "h"))
  | ((with_reducible refine' is_list_str ?gh ?_); (case gh => walk_at "h"))
  | ((with_reducible refine' is2_list ?ga ?gb ?_); (case ga => walk_at "h"); (case gb => walk_at "h"))
  | ((with_reducible refine' is_tuple_list ?gh ?_); (case gh => walk_at "h"))
  | ((with_reducible refine' is_tuple_tuple ?gh ?_); (case gh => walk_at "h"))
  | ((with_reducible refine' is_tuple_dict ?gh ?_); (case gh => walk_at "h"))
  | ((with_reducible refine' is_tuple_int ?gh ?_); (case gh => walk_at "h"))
  | ((with_reducible refine' is_tuple_bool ?gh ?_); (case gh => walk_at "h"))
  | ((with_reducible refine' is_tuple_str ?gh ?_); (case gh => walk_at "h"))
  | ((with_reducible refine' is2_tuple ?ga ?gb ?_); (case ga => walk_at "h"); (case gb => walk_at "h"))
  | ((with_reducible refine' is_dict_list ?gh ?_); (case gh => walk_at "h"))
  | ((with_reducible refine' is_dict_tuple ?gh ?_); (case gh => walk_at "h"))
  | ((with_reducible refine' is_dict_dict ?gh ?_); (case gh => walk_at "h"))
  | ((with_reducible refine' is_dict_int ?gh ?_); (case gh => walk_at "h"))
  | ((with_reducible refine' is_dict_bool ?gh ?_); (case gh => walk_at "h"))
  | ((with_reducible refine' is_dict_str ?gh ?_); (case gh => walk_at "h"))
  | ((with_reducible refine' is2_dict ?ga ?gb ?_); (case ga => walk_at "h"); (case gb => walk_at "h")))
local macro_rules | `(tactic| walk_at "g") => `(tactic| first
  | (with_reducible refine g_seq ?_)
  | (with_reducible refine g_asg ?_)
  | ((with_reducible refine g_name ?_); dsimp only [List.set, wipe, List.map])
  | ((with_reducible refine' g_var ?gv ?_); (case gv => exact rfl))
  | (with_reducible refine g_c ?_)
  | (with_reducible refine g_op ?_)
  | (with_reducible refine g_cons ?_)
  | (with_reducible refine g_nil ?_)
  | (with_reducible refine g_cb ?_)
  | (with_reducible refine g_call ?_)
  | (with_reducible refine g_tup ?_)
  | (with_reducible refine g_lst ?_)
  | (with_reducible refine g_bm ?_)
  | (with_reducible refine g_bm0 ?_)
  | ((with_reducible refine' g_kbm ?gh ?_); (case gh => walk_at "h"))
  | (with_reducible refine g_drop ?_)
  | (with_reducible refine g_ret ?_)
  | (with_reducible refine g_retN ?_)
  | (with_reducible refine g_next ?_)
  | (with_reducible refine g_brk ?_)
  | (with_reducible refine g_cont ?_)
  | (with_reducible refine g_if ?_)
  | ((with_reducible refine' g_aug ?gv ?_); (case gv => exact rfl))
  | (with_reducible refine g_ipI ?_)
  | (with_reducible refine g_test ?_)
  | (with_reducible refine g_tB ?_)
  | (with_reducible refine g_kB ?_)
  | (with_reducible refine g_not ?_)
  | (with_reducible refine g_and ?_)
  | (with_reducible refine g_or ?_)
  | (with_reducible refine g_andV ?_)
  | (with_reducible refine g_orV ?_)
  | (with_reducible refine g_notV ?_)
  | (with_reducible refine g_ifE ?_)
  | (with_reducible refine g_addI ?_)
  | (with_reducible refine g_rI0 ?_)
  | (with_reducible refine g_eqI ?_)
  | (with_reducible refine g_eqS ?_)
  | (with_reducible refine g_neI ?_)
  | (with_reducible refine g_neS ?_)
  | (with_reducible refine g_isN ?_)
  | (with_reducible refine g_notN ?_)
  | (with_reducible refine g_int ?_)
  | (with_reducible refine g_max2 ?_)
  | (with_reducible refine g_min2 ?_)
  | ((with_reducible refine' g_lenL ?gh ?_); (case gh => walk_at "h"))
  | (with_reducible refine g_sub ?_)
  | (with_reducible refine g_gcons ?_)
  | (with_reducible refine g_gnil ?_)
  | (with_reducible refine g_un ?_)
  | (with_reducible refine g_rU ?_)
  | (with_reducible refine g_forL ?_)
  | (with_reducible refine g_forS ?_)
  | (with_reducible refine g_forR1 ?_)
  | (with_reducible refine g_forR2 ?_)
  | (with_reducible refine g_forR3 ?_)
  | (with_reducible refine g_lcL ?_)
  | (with_reducible refine g_lcR1 ?_)
  | (with_reducible refine g_lcR2 ?_)
  | (with_reducible refine g_slice ?_)
  | (with_reducible refine g_part ?_)
  | (with_reducible refine g_kOI ?_)
  | (with_reducible refine g_nopart ?_)
  | (with_reducible refine g_yes ?_)
  | ((with_reducible refine' g_wipe ?gv ?_); (case gv => exact rfl))
  | (with_reducible refine iteT ?_)
  | (with_reducible refine iteF ?_)
  | (with_reducible refine i_nf ?_)
  | (with_reducible refine i_nt ?_)
  | ((with_reducible refine' g_gtup ?gh ?gl ?_); (case gh => walk_at "h"); (case gl => exact rfl))
  | ((with_reducible refine' g_notinI ?gh ?_); (case gh => walk_at "h"))
  | ((with_reducible refine' g_inI ?gh ?_); (case gh => walk_at "h"))
  | ((with_reducible refine' g_kget2 ?gh ?_); (case gh => walk_at "h"))
  | ((with_reducible refine' g_kgotI ?gh ?_); (case gh => walk_at "h"))
  | (with_reducible refine g_tRev ?_)
  | (with_reducible refine g_neB ?_)
  | (with_reducible refine g_eqB ?_)
  | ((with_reducible refine' g_lenT ?gh ?_); (case gh => walk_at "h"))
  | (with_reducible refine g_star ?_)
  | ((with_reducible refine' g_kstarL ?gh ?_); (case gh => walk_at "h"))
  | ((with_reducible refine' g_kstarT ?gh ?_); (case gh => walk_at "h"))
  | (with_reducible refine g_tru ?_)
  | ((with_reducible refine' g_truL ?gh ?_); (case gh => walk_at "h"))
  | (with_reducible refine g_get2 ?_)
  | (with_reducible refine g_try ?_)
  | (with_reducible refine g_fld ?_)
  | (with_reducible refine g_sfld ?_)
  | (with_reducible refine g_meth ?_)
  | (with_reducible refine g_make ?_)
  | (with_reducible refine g_del ?_)
  | (with_reducible refine g_callS ?_)
  | (with_reducible refine g_raise ?_)
  | (with_reducible refine g_xf ?_)
  | (with_reducible refine g_m0 ?_)
  | (with_reducible refine g_km0 ?_)
  | walk_at "is")
local macro_rules | `(tactic| walk_at "gg") => `(tactic| repeat walk_at "g")
local macro_rules | `(tactic| walk_at "sz") => `(tactic| (refine sz ?_; simp only [List.length_cons, List.length_nil, List.length_map, List.length_append, List.length_replicate]; omega))
local macro_rules | `(tactic| walk_at "sub") => `(tactic| ((repeat (first | exact List.Sublist.slnil | with_reducible apply List.Sublist.cons_cons | with_reducible apply List.Sublist.cons)); done))

local macro_rules | `(tactic| walk_at "g") => `(tactic| first
  | (with_reducible refine g_dcL ?_)
  | (with_reducible refine g_dcT ?_)
  | (with_reducible refine g_m1s ?_)
  | (with_reducible refine g_km1s ?_)
  | (with_reducible refine g_starts ?_)
  | (with_reducible refine g_tryX ?_)
  | (with_reducible refine g_lcS ?_))

local macro_rules | `(tactic| walk_at "g") => `(tactic| (with_reducible refine g_tryM ?_))

/-- a pair of lists of words -/
def Pair84 (F : Hp) (v : V) : Prop := ∃ (r x y : Addr) (xs ys : List Str), v = .ref r ∧ F r = some (.lst [.ref x, .ref y]) ∧ F x = some (.lst (xs.map V.str)) ∧ F y = some (.lst (ys.map V.str)) ∧ xs ∈ L84 ∧ ys ∈ L84
section
variable {P : Program} {w : World} {K : PySem.W.Frag} {mg : Str → Option Value} {base : Heap}
def sp_l_asks_below (K : PySem.W.Frag) : Sp := fun vs H Q _ => ∃ (c : Addr) (F : Hp) (ws : List V) (rows : List (Int × Int)), vs = [.ref c] ∧ Has F [(c, .lst ws)] H ∧ DqAll F ws (rows.map cellD) ∧ rows.length ≤ 100 ∧
  ∀ H' F' (ws' : List V) (rows' : List (Int × Int)), Same F F' → Has F' [(c, .lst ws')] H' → DqAll F' ws' (rows'.map cellD) → rows'.length ≤ 100 → Q (.bl true) H'
theorem sp_l_asks_below_len {vs H Q E} (h : sp_l_asks_below K vs H Q E) : vs.length = 1 := by
  obtain ⟨_, _, _, _, rfl, _⟩ := h
  rfl
set_option maxHeartbeats 2000000 in
theorem ok_l_asks_below (T : Txt K mg) : FnOk P w K mg base CX0 7 T.f_l_asks_below T.fd_l_asks_below ["cells"] (sp_l_asks_below K) := by
  refine T.F_l_asks_below.ok sc_l_asks_below (fun vs H Q E h => sp_l_asks_below_len h) (fun cdv A outer s H vs Q E hr h => ?_)
  refine ⟨_, (pss_cons (ps_set (i := 1) sc_l_asks_below.nd rfl (.inr rfl) (pe_lst (pa_cons pe_str (pa_cons pe_str (pa_cons pe_str (pa_cons pe_str pa_nil))))))
      (pss_cons (ps_setLc (i := 2) (own := [("k", 9)]) (g := gName 9) (tt := tYes) rfl sc_l_asks_below.nd rfl rfl (sw_true rfl rfl rfl (by decide +kernel)) (pi_range1 rfl T.m_range (pa_cons pe_int pa_nil)) (blkOk_by (N := n_l_asks_below) (sc := defScope s_l_asks_below) (by decide +kernel)) (fun _ _ _ _ _ => (pg_name (i := 9) sc_l_asks_below.nd rfl (.inl rfl))) (fun _ _ _ _ _ => pts_nil) (fun _ _ _ _ _ => (pe_ix (ix_K K (hu_of hr)) (pv 1) (pe_call (ok_l_next T) (hr.mono (by decide)) (by rfl) T.g_l_next T.F_l_next.kp T.b_l_next .nil pass0 (pa_cons (pv 0) (pa_cons pe_int pa_nil))) (fun _ _ => rfl))))
      (pss_cons (ps_set (i := 3) sc_l_asks_below.nd rfl (.inl rfl) (pe_slice (sl_K K) (pv 2) po_none (po_some (pe_op op_sub pe_int (pe_call (ok_l_next T) (hr.mono (by decide)) (by rfl) T.g_l_next T.F_l_next.kp T.b_l_next .nil pass0 (pa_cons (pv 0) (pa_cons pe_int pa_nil)))))))
      (pss_cons (ps_set (i := 4) sc_l_asks_below.nd rfl (.inl rfl) (pe_slice (sl_K K) (pv 2) po_none (po_some (pe_op (op_addK K) pe_int (pe_call (ok_l_next T) (hr.mono (by decide)) (by rfl) T.g_l_next T.F_l_next.kp T.b_l_next .nil pass0 (pa_cons (pv 0) (pa_cons pe_int pa_nil)))))))
      (pss_cons (ps_set (i := 5) sc_l_asks_below.nd rfl (.inl rfl) (pe_slice (sl_K K) (pv 2) (po_some pe_int) (po_some (pe_op op_sub pe_int (pe_call (ok_l_next T) (hr.mono (by decide)) (by rfl) T.g_l_next T.F_l_next.kp T.b_l_next .nil pass0 (pa_cons (pv 0) (pa_cons pe_int pa_nil)))))))
      (pss_cons (ps_set (i := 6) sc_l_asks_below.nd rfl (.inl rfl) (pe_lst (pa_cons (pe_lst (pa_cons (pv 3) (pa_cons (pv 4) pa_nil))) (pa_cons (pe_lst (pa_cons (pv 4) (pa_cons (pv 3) pa_nil))) (pa_cons (pe_lst (pa_cons (pv 3) (pa_cons (pv 3) pa_nil))) pa_nil)))))
      (pss_cons (ps_for PassesOwn.never rfl (k_il K (pi_list (pe_op (op_addK K) (pv 6) (pe_lst (pa_cons (pe_lst (pa_cons (pv 3) (pa_cons (pv 5) pa_nil))) (pa_cons (pe_lst (pa_cons (pv 5) (pa_cons (pv 3) pa_nil))) pa_nil)))))) (pg_name (i := 7) sc_l_asks_below.nd rfl (.inl rfl)) (pss_cons (ps_set (i := 8) sc_l_asks_below.nd rfl (.inl rfl) (pe_cmpR (op_eqK K hr.units) (pe_slice (sl_K K) (pe_ix (ix_K K (hu_of hr)) (pv 7) pe_int (fun _ _ => rfl)) po_none (po_some (pe_callB (cr_lenK K) (by rfl) T.m_len (by decide +kernel) (pa_cons (pe_ix (ix_K K (hu_of hr)) (pv 7) pe_int (fun _ _ => rfl)) pa_nil)))) (pe_ix (ix_K K (hu_of hr)) (pv 7) pe_int (fun _ _ => rfl)) (nomark _)))
      (pss_one (ps_if (pt_not (pt_val (pe_call (ok_l_same T) (hr.mono (by decide)) (by rfl) T.g_l_same T.F_l_same.kp T.b_l_same .nil pass0 (pa_cons (pe_call (ok_below T) (hr.mono (by decide)) (by rfl) T.g_below T.F_below.kp T.b_below .nil pass0 (pa_cons (pe_joinK K pe_str (pe_ix (ix_K K (hu_of hr)) (pv 7) pe_int (fun _ _ => rfl))) (pa_cons (pe_joinK K pe_str (pe_ix (ix_K K (hu_of hr)) (pv 7) pe_int (fun _ _ => rfl))) pa_nil))) (pa_cons (pv 8) pa_nil))))) (pss_one (ps_ret pe_bl)) pss_nil))))
      (pss_one (ps_ret pe_bl))))))))), ?_⟩
  obtain ⟨c, F0, wc, rows, rfl, h, dqc, lr, q⟩ := h
  refine g_start (σ' := [some (.ref c), none, none, none, none, none, none, none, none, none]) rfl ?_
  walk_at "gg"
  refine g_klstF (by walk_at "sz") h (fun mn H1 F1 n1 s1 fm h1 => ?_)
  have dqc := dqc.up s1 _ _
  walk_at "gg"
  refine k_lcR1 (by decide) (by decide) h1 (fun i acc F' O' => ∃ (xs : List Str) (wc : List V) (rows : List (Int × Int)), acc = xs.map V.str ∧ xs.length = i ∧ (∀ z ∈ xs, z ∈ menu4) ∧ Same F1 F' ∧ [(c, HO.lst wc)] = O' ∧ DqAll F' wc (rows.map cellD) ∧ rows.length ≤ 100) ⟨[], wc, rows, rfl, rfl, by simp, Same.refl _, rfl, dqc, lr⟩ ?_ ?_
  · rintro i acc F' O' D H2 hi ⟨xs, wc, rows, rfl, rfl, mx, sF, rfl, dqc, lr⟩ hh
    have hi' : xs.length < 6 := hi
    walk_at "gg"
    refine ⟨c, 4, F', wc, rows, rfl, hh.drop, dqc, lr, by decide, by decide, fun H3 F3 wc3 rows3 r hb g hs dq3 l3 r0 r1 => ?_⟩
    have h3 := hh.grown (by walk_at "c") hb g hs.same (hs.get (List.Mem.head _))
    walk_at "gg"
    refine g_ixZ (xs := menu4) (h3.same _ _ (g.1 _ _ (sF _ _ fm))) r0 (by exact r1) (fun z hz => ?_)
    refine k_turn h3 (by rw [List.length_map]; omega) ⟨xs ++ [z], wc3, rows3, by rw [List.map_append]; rfl, by rw [List.length_append]; rfl, fun x hx => ?_, sF.trans g.1, rfl, dq3, l3⟩
    rcases List.mem_append.mp hx with hx | hx
    · exact mx x hx
    · rw [List.mem_singleton.mp hx]
      exact List.mem_of_getElem? hz
  rintro acc F2 O2 w0 H2 ⟨xs, wc, rows, rfl, lx, mx, sF, rfl, dqc, lr⟩ h2
  have lx : xs.length = 6 := lx
  have s2 := s1.trans (sF.trans h2.grow)
  have dqc := dqc.up h2.grow _ _
  have fw : upd F2 w0 (.lst (xs.map V.str)) w0 = some (.lst (xs.map V.str)) := upd_same
  have h2 := h2.frz
  generalize upd F2 w0 (.lst (xs.map V.str)) = F3 at h2 fw s2 dqc
  have part : ∀ (a b : Nat), 1 ≤ b - a → b - a ≤ 3 → b ≤ 6 → (xs.drop a).take (b - a) ∈ L84 := fun a b h1 h3 h6 => by
    refine mem84 ?_ ?_ fun z hz => mx z (List.mem_of_mem_drop (List.mem_of_mem_take hz))
    · rw [List.length_take, List.length_drop]
      omega
    · rw [List.length_take]
      omega
  walk_at "gg"
  refine ⟨c, 3, F3, wc, rows, rfl, h2, dqc, lr, by decide, by decide, fun H4 F4 wc rows r hb g h4 dqc lr r0 r1 => ?_⟩
  obtain ⟨j, rfl⟩ := Int.eq_ofNat_of_zero_le r0
  have e3 : (3 : Int) - (j : Nat) = ((3 - j : Nat) : Int) := by omega
  have fw := g.1 _ _ fw
  have s4 := s2.trans g.1
  clear hb g
  walk_at "gg"
  rw [e3]
  refine g_slL (h4.same _ _ fw) h4 (fun pa H5 n5 h5 => ?_)
  rw [cutV_to, ← List.map_take] at h5
  have mp : xs.take (3 - j) ∈ L84 := part 0 (3 - j) (by omega) (by omega) (by omega)
  generalize xs.take (3 - j) = ps at h5 mp
  have fp : upd F4 pa (.lst (ps.map V.str)) pa = some (.lst (ps.map V.str)) := upd_same
  have s5 := s4.trans h5.grow
  have fw := h5.grow _ _ fw
  have dqc := dqc.up h5.grow _ _
  have h5 := h5.frz
  generalize upd F4 pa (.lst (ps.map V.str)) = F5 at h5 fp fw s5 dqc
  walk_at "gg"
  refine ⟨c, 3, F5, wc, rows, rfl, h5, dqc, lr, by decide, by decide, fun H6 F6 wc rows r hb g h6 dqc lr r0 r1 => ?_⟩
  obtain ⟨k, rfl⟩ := Int.eq_ofNat_of_zero_le r0
  have e3 : (1 : Int) + (k : Nat) = ((1 + k : Nat) : Int) := by omega
  have fw := g.1 _ _ fw
  have fp := g.1 _ _ fp
  have s6 := s5.trans g.1
  clear hb g
  walk_at "gg"
  rw [e3]
  refine g_slL (h6.same _ _ fw) h6 (fun fa H7 n7 h7 => ?_)
  rw [cutV_to, ← List.map_take] at h7
  have mf : xs.take (1 + k) ∈ L84 := part 0 (1 + k) (by omega) (by omega) (by omega)
  generalize xs.take (1 + k) = fs at h7 mf
  have ff : upd F6 fa (.lst (fs.map V.str)) fa = some (.lst (fs.map V.str)) := upd_same
  have s7 := s6.trans h7.grow
  have fw := h7.grow _ _ fw
  have fp := h7.grow _ _ fp
  have dqc := dqc.up h7.grow _ _
  have h7 := h7.frz
  generalize upd F6 fa (.lst (fs.map V.str)) = F7 at h7 fp fw ff s7 dqc
  walk_at "gg"
  refine ⟨c, 3, F7, wc, rows, rfl, h7, dqc, lr, by decide, by decide, fun H8 F8 wc rows r hb g h8 dqc lr r0 r1 => ?_⟩
  obtain ⟨m, rfl⟩ := Int.eq_ofNat_of_zero_le r0
  have e3 : (6 : Int) - (m : Nat) = ((6 - m : Nat) : Int) := by omega
  have fw := g.1 _ _ fw
  have fp := g.1 _ _ fp
  have ff := g.1 _ _ ff
  have s8 := s7.trans g.1
  clear hb g
  walk_at "gg"
  rw [e3]
  refine g_slL (h8.same _ _ fw) h8 (fun oa H9 n9 h9 => ?_)
  rw [show (3 : Int) = ((3 : Nat) : Int) from rfl, cutV_nat, ← List.map_drop, ← List.map_take] at h9
  have mo : (xs.drop 3).take (6 - m - 3) ∈ L84 := part 3 (6 - m) (by omega) (by omega) (by omega)
  generalize (xs.drop 3).take (6 - m - 3) = os at h9 mo
  have fo : upd F8 oa (.lst (os.map V.str)) oa = some (.lst (os.map V.str)) := upd_same
  have s9 := s8.trans h9.grow
  have fp := h9.grow _ _ fp
  have ff := h9.grow _ _ ff
  have dqc := dqc.up h9.grow _ _
  have h9 := h9.frz
  generalize upd F8 oa (.lst (os.map V.str)) = F9 at h9 fp ff fo s9 dqc
  clear h2 h4 h5 h6 h7 h8 s2 s4 s5 s6 s7 s8 part fw
  walk_at "gg"
  refine g_klstF (by walk_at "sz") h9 (fun p1 H10 F10 n10 s10 f10 h10 => ?_)
  walk_at "gg"
  refine g_klstF (by walk_at "sz") h10 (fun p2 H11 F11 n11 s11 f11 h11 => ?_)
  walk_at "gg"
  refine g_klstF (by walk_at "sz") h11 (fun p3 H12 F12 n12 s12 f12 h12 => ?_)
  walk_at "gg"
  refine g_klstF (by walk_at "sz") h12 (fun pp H13 F13 n13 s13 f13 h13 => ?_)
  walk_at "gg"
  refine g_klstF (by walk_at "sz") h13 (fun p4 H14 F14 n14 s14 f14 h14 => ?_)
  walk_at "gg"
  refine g_klstF (by walk_at "sz") h14 (fun p5 H15 F15 n15 s15 f15 h15 => ?_)
  walk_at "gg"
  refine g_klstF (by walk_at "sz") h15 (fun pq H16 F16 n16 s16 f16 h16 => ?_)
  walk_at "gg"
  have t13 := s14.trans (s15.trans s16)
  have t9 : Same F9 F16 := s10.trans (s11.trans (s12.trans (s13.trans t13)))
  refine g_addL (h16.same _ _ (t13 _ _ f13)) (h16.same _ _ f16) (by walk_at "sz") h16 (fun al H17 n17 h17 => ?_)
  have P1 : Pair84 F16 (.ref p1) := ⟨p1, pa, fa, ps, fs, rfl, (s11.trans (s12.trans (s13.trans t13))) _ _ f10, t9 _ _ fp, t9 _ _ ff, mp, mf⟩
  have P2 : Pair84 F16 (.ref p2) := ⟨p2, fa, pa, fs, ps, rfl, (s12.trans (s13.trans t13)) _ _ f11, t9 _ _ ff, t9 _ _ fp, mf, mp⟩
  have P3 : Pair84 F16 (.ref p3) := ⟨p3, pa, pa, ps, ps, rfl, (s13.trans t13) _ _ f12, t9 _ _ fp, t9 _ _ fp, mp, mp⟩
  have P4 : Pair84 F16 (.ref p4) := ⟨p4, pa, oa, ps, os, rfl, (s15.trans s16) _ _ f14, t9 _ _ fp, t9 _ _ fo, mp, mo⟩
  have P5 : Pair84 F16 (.ref p5) := ⟨p5, oa, pa, os, ps, rfl, s16 _ _ f15, t9 _ _ fo, t9 _ _ fp, mo, mp⟩
  have all5 : ∀ v ∈ [V.ref p1, V.ref p2, V.ref p3] ++ [V.ref p4, V.ref p5], Pair84 F16 v := fun v hv => by
    simp only [List.cons_append, List.nil_append, List.mem_cons, List.not_mem_nil, or_false] at hv
    rcases hv with rfl | rfl | rfl | rfl | rfl
    · exact P1
    · exact P2
    · exact P3
    · exact P4
    · exact P5
  generalize [V.ref p1, V.ref p2, V.ref p3] ++ [V.ref p4, V.ref p5] = as at h17 all5
  have dq17 := dqc.up t9 _ _
  refine k_forL (h17.get (List.Mem.head _)) (fun i σ H' => ∃ y7 y8 y9, σ = [some (.ref c), some (.ref mn), some (.ref w0), some (.ref pa), some (.ref fa), some (.ref oa), some (.ref pp), y7, y8, y9] ∧ Has F16 [(al, .lst as), (c, .lst wc)] H') ⟨_, _, _, rfl, h17⟩ ?_ ?_ ?_
  · rintro i σ H' _ ⟨y7, y8, y9, rfl, h⟩
    exact h.get (List.Mem.head _)
  · rintro i v σ H' hv ⟨y7, y8, y9, rfl, h⟩
    obtain ⟨r, x, y, us, vs, rfl, fr, fx, fy, mu, mv⟩ := all5 v (List.mem_of_getElem? hv)
    have su := s84 mu
    have sv := s84 mv
    have h0 : ([V.ref x, V.ref y])[0]? = some (V.ref x) := rfl
    have h1 : ([V.ref x, V.ref y])[1]? = some (V.ref y) := rfl
    walk_at "gg"
    refine g_ixL (h.same _ _ fr) (atI_nat (j := 0) h0) ?_
    walk_at "gg"
    refine g_ixL (h.same _ _ fr) (atI_nat (j := 1) h1) ?_
    walk_at "gg"
    refine g_slL (h.same _ _ fx) h (fun sl H18 n18 h18 => ?_)
    rw [List.length_map, cutV_to, ← List.map_take] at h18
    walk_at "gg"
    refine g_ixL (h18.same _ _ fr) (atI_nat (j := 1) h1) ?_
    walk_at "gg"
    refine g_eqD (Dq.strs (xs := us.take vs.length) (h18.get (List.Mem.head _))) (Dq.strs (xs := vs) (h18.same _ _ fy)) ((Sh.strs (n := 0) fun z hz => su.2.2.2 z (List.mem_of_mem_take hz)).ok (by decide)) ((Sh.strs (n := 0) sv.2.2.2).ok (by decide)) ?_
    rw [eqv_strs]
    have h := h18.drop
    walk_at "gg"
    refine g_ixL (h.same _ _ fr) (atI_nat (j := 0) h0) ?_
    walk_at "gg"
    refine g_joinL (h.same _ _ fx) (by show _ + _ * 1 ≤ _; omega) ?_
    walk_at "gg"
    refine g_ixL (h.same _ _ fr) (atI_nat (j := 1) h1) ?_
    walk_at "gg"
    refine g_joinL (h.same _ _ fy) (by show _ + _ * 1 ≤ _; omega) ?_
    walk_at "gg"
    refine ⟨_, _, rfl, by omega, ?_⟩
    walk_at "gg"
    rw [b84 mu mv]
    refine ⟨.bl _, .bl _, rfl, Sm.bl, fun H19 s19 => ?_⟩
    walk_at "gg"
    exact ⟨_, _, _, rfl, h.on s19⟩
  · rintro σ H' ⟨y7, y8, y9, rfl, h⟩
    walk_at "gg"
    exact q H' F16 wc rows (s9.trans t9) h.drop dq17 lr
end

end K11

namespace K11
open PySem PySem.Spec PyProof.Rows L2 Qk
local macro_rules | `(tactic| walk_at "m") => `(tactic| ((repeat (first | exact List.Mem.head _ | apply List.Mem.tail)); done))
local macro_rules | `(tactic| walk_at "h") => `(tactic| first | assumption | exact Has.gF (by assumption) (by assumption) | exact Has.get (by assumption) (by walk_at "m"))
local macro_rules | `(tactic| walk_at "c") => `(tactic| ((repeat (first | exact Chg.hd | apply Chg.tl)); done))
local macro_rules | `(tactic| walk_at "is") => `(tactic| first
  | ((with_reducible refine' is2_non ?gh ?_); (case gh => walk_at "h"))
  | (with_reducible refine is_int_list ?_)
  | (with_reducible refine is_int_tuple ?_)
  | (with_reducible refine is_int_dict ?_)
  | (with_reducible refine is_int_int ?_)
  | (with_reducible refine is_int_bool ?_)
  | (with_reducible refine is_int_str ?_)
  | ((with_reducible refine' is2_int ?gh ?_); (case gh => walk_at "h"))
  | (with_reducible refine is_str_list ?_)
  | (with_reducible refine is_str_tuple ?_)
  | (with_reducible refine is_str_dict ?_)
  | (with_reducible refine is_str_int ?_)
  | (with_reducible refine is_str_bool ?_)
  | (with_reducible refine is_str_str ?_)
  | ((with_reducible refine' is2_str ?gh ?_); (case gh => walk_at "h"))
  | (with_reducible refine is_bool_list ?_)
  | (with_reducible refine is_bool_tuple ?_)
  | (with_reducible refine is_bool_dict ?_)
  | (with_reducible refine is_bool_int ?_)
  | (with_reducible refine is_bool_bool ?_)
  | (with_reducible refine is_bool_str ?_)
  | ((with_reducible refine' is2_bool ?gh ?_); (case gh => walk_at "h"))
  | ((with_reducible refine' is_list_list ?gh ?_); (case gh => walk_at "h"))
  | ((with_reducible refine' is_list_tuple ?gh ?_); (case gh => walk_at "h"))
  | ((with_reducible refine' is_list_dict ?gh ?_); (case gh => walk_at "h"))
  | ((with_reducible refine' is_list_int ?gh ?_); (case gh => walk_at "h"))
  | ((with_reducible refine' is_list_bool ?gh ?_); (case gh => walk_at "h"))
  | ((with_reducible refine' is_list_str ?gh ?_); (case gh => walk_at "h"))
  | ((with_reducible refine' is2_list ?ga ?gb ?_); (case ga => walk_at "h"); (case gb => walk_at "h"))
  | ((with_reducible refine' is_tuple_list ?gh ?_); (case gh => walk_at "h"))
  | ((with_reducible refine' is_tuple_tuple ?gh ?_); (case gh => walk_at "h"))
  | ((with_reducible refine' is_tuple_dict ?gh ?_); (case gh => walk_at "h"))
  | ((with_reducible refine' is_tuple_int ?gh ?_); (case gh => walk_at "h"))
  | ((with_reducible refine' is_tuple_bool ?gh ?_); (case gh => walk_at "h"))
  | ((with_reducible refine' is_tuple_str ?gh ?_); (case gh => walk_at "h"))
  | ((with_reducible refine' is2_tuple ?ga ?gb ?_); (case ga => walk_at "h"); (case gb => walk_at "h"))
  | ((with_reducible refine' is_dict_list ?gh ?_); (case gh => walk_at "h"))
  | ((with_reducible refine' is_dict_tuple ?gh ?_); (case gh => walk_at "h"))
  | ((with_reducible refine' is_dict_dict ?gh ?_); (case gh => walk_at "h"))
  | ((with_reducible refine' is_dict_int ?gh ?_); (case gh => walk_at "h"))
  | ((with_reducible refine' is_dict_bool ?gh ?_); (case gh => walk_at "h"))
  | ((with_reducible refine' is_dict_str ?gh ?_); (case gh => walk_at "h"))
  | ((with_reducible refine' is2_dict ?ga ?gb ?_); (case ga => walk_at "h"); (case gb => walk_at "h")))
local macro_rules | `(tactic| walk_at "g") => `(tactic| first
  | (with_reducible refine g_seq ?_)
  | (with_reducible refine g_asg ?_)
  | ((with_reducible refine g_name ?_); dsimp only [List.set, wipe, List.map])
  | ((with_reducible refine' g_var ?gv ?_); (case gv => exact rfl))
  | (with_reducible refine g_c ?_)
  | (with_reducible refine g_op ?_)
  | (with_reducible refine g_cons ?_)
  | (with_reducible refine g_nil ?_)
  | (with_reducible refine g_cb ?_)
  | (with_reducible refine g_call ?_)
  | (with_reducible refine g_tup ?_)
  | (with_reducible refine g_lst ?_)
  | (with_reducible refine g_bm ?_)
  | (with_reducible refine g_bm0 ?_)
  | ((with_reducible refine' g_kbm ?gh ?_); (case gh => walk_at "h"))
  | (with_reducible refine g_drop ?_)
  | (with_reducible refine g_ret ?_)
  | (with_reducible refine g_retN ?_)
  | (with_reducible refine g_next ?_)
  | (with_reducible refine g_brk ?_)
  | (with_reducible refine g_cont ?_)
  | (with_reducible refine g_if ?_)
  | ((with_reducible refine' g_aug ?gv ?_); (case gv => exact rfl))
  | (with_reducible refine g_ipI ?_)
  | (with_reducible refine g_test ?_)
  | (with_reducible refine g_tB ?_)
  | (with_reducible refine g_kB ?_)
  | (with_reducible refine g_not ?_)
  | (with_reducible refine g_and ?_)
  | (with_reducible refine g_or ?_)
  | (with_reducible refine g_andV ?_)
  | (with_reducible refine g_orV ?_)
  | (with_reducible refine g_notV ?_)
  | (with_reducible refine g_ifE ?_)
  | (with_reducible refine g_addI ?_)
  | (with_reducible refine g_rI0 ?_)
  | (with_reducible refine g_eqI ?_)
  | (with_reducible refine g_eqS ?_)
  | (with_reducible refine g_neI ?_)
  | (with_reducible refine g_neS ?_)
  | (with_reducible refine g_isN ?_)
  | (with_reducible refine g_notN ?_)
  | (with_reducible refine g_int ?_)
  | (with_reducible refine g_max2 ?_)
  | (with_reducible refine g_min2 ?_)
  | ((with_reducible refine' g_lenL ?gh ?_); (case gh => walk_at "h"))
  | (with_reducible refine g_sub ?_)
  | (with_reducible refine g_gcons ?_)
  | (with_reducible refine g_gnil ?_)
  | (with_reducible refine g_un ?_)
  | (with_reducible refine g_rU ?_)
  | (with_reducible refine g_forL ?_)
  | (with_reducible refine g_forS ?_)
  | (with_reducible refine g_forR1 ?_)
  | (with_reducible refine g_forR2 ?_)
  | (with_reducible refine g_forR3 ?_)
  | (with_reducible refine g_lcL ?_)
  | (with_reducible refine g_lcR1 ?_)
  | (with_reducible refine g_lcR2 ?_)
  | (with_reducible refine g_slice ?_)
  | (with_reducible refine g_part ?_)
  | (with_reducible refine g_kOI ?_)
  | (with_reducible refine g_nopart ?_)
  | (with_reducible refine g_yes ?_)
  | ((with_reducible refine' g_wipe ?gv ?_); (case gv => exact rfl))
  | (with_reducible refine iteT ?_)
  | (with_reducible refine iteF ?_)
  | (with_reducible refine i_nf ?_)
  | (with_reducible refine i_nt ?_)
  | ((with_reducible refine' g_gtup ?gh ?gl ?_); (case gh => walk_at "h"); (case gl => exact rfl))
  | ((with_reducible refine' g_notinI ?gh ?_); (case gh => walk_at "h"))
  | ((with_reducible refine' g_inI ?gh ?_); (case gh => walk_at "h"))
  | ((with_reducible refine' g_kget2 ?gh ?_); (case gh => walk_at "h"))
  | ((with_reducible refine' g_kgotI ?gh ?_); (case gh => walk_at "h"))
  | (with_reducible refine g_tRev ?_)
  | (with_reducible refine g_neB ?_)
  | (with_reducible refine g_eqB ?_)
  | ((with_reducible refine' g_lenT ?gh ?_); (case gh => walk_at "h"))
  | (with_reducible refine g_star ?_)
  | ((with_reducible refine' g_kstarL ?gh ?_); (case gh => walk_at "h"))
  | ((with_reducible refine' g_kstarT ?gh ?_); (case gh => walk_at "h"))
  | (with_reducible refine g_tru ?_)
  | ((with_reducible refine' g_truL ?gh ?_); (case gh => walk_at "h"))
  | (with_reducible refine g_get2 ?_)
  | (with_reducible refine g_try ?_)
  | (with_reducible refine g_fld ?_)
  | (with_reducible refine g_sfld ?_)
  | (with_reducible refine g_meth ?_)
  | (with_reducible refine g_make ?_)
  | (with_reducible refine g_del ?_)
  | (with_reducible refine g_callS ?_)
  | (with_reducible refine g_raise ?_)
  | (with_reducible refine g_xf ?_)
  | (with_reducible refine g_m0 ?_)
  | (with_reducible refine g_km0 ?_)
  | walk_at "is")
local macro_rules | `(tactic| walk_at "gg") => `(tactic| repeat walk_at "g")
local macro_rules | `(tactic| walk_at "sz") => `(tactic| (refine sz ?_; simp only [List.length_cons, List.length_nil, List.length_map, List.length_append, List.length_replicate]; omega))
local macro_rules | `(tactic| walk_at "sub") => `(tactic| ((repeat (first | exact List.Sublist.slnil | with_reducible apply List.Sublist.cons_cons | with_reducible apply List.Sublist.cons)); done))

local macro_rules | `(tactic| walk_at "g") => `(tactic| first
  | (with_reducible refine g_dcL ?_)
  | (with_reducible refine g_dcT ?_)
  | (with_reducible refine g_m1s ?_)
  | (with_reducible refine g_km1s ?_)
  | (with_reducible refine g_starts ?_)
  | (with_reducible refine g_tryX ?_)
  | (with_reducible refine g_lcS ?_))

local macro_rules | `(tactic| walk_at "g") => `(tactic| (with_reducible refine g_tryM ?_))

/-! ### the law -/
theorem strOk_app {a b : Str} (ha : PyData.strOk a = true) (hb : PyData.strOk b = true) : PyData.strOk (a ++ b) = true := by
  have e : (a ++ b).cps = a.cps ++ b.cps := rfl
  unfold PyData.strOk at *
  rw [e, Array.all_append, ha, hb]
  rfl
theorem join_ok {sep : Str} (hs : PyData.strOk sep = true) : ∀ {xs : List Str}, (∀ z ∈ xs, PyData.strOk z = true) → PyData.strOk (PySem.Txt.join sep xs) = true := by
  intro xs h
  have e : PySem.Txt.join sep xs = Str.join sep xs := StrLaws.glued_eq_join sep xs
  rw [e]
  clear e
  induction xs with
  | nil =>
    show PyData.strOk Str.empty = true
    decide +kernel
  | cons x r ih =>
    cases r with
    | nil => exact h x List.mem_cons_self
    | cons y r => exact strOk_app (strOk_app (h x List.mem_cons_self) hs) (ih fun z hz => h z (List.mem_cons_of_mem _ hz))
theorem sum_le {xs : List Str} {n : Nat} (h : ∀ z ∈ xs, z.length ≤ n) : (xs.map (·.length)).sum ≤ xs.length * n := by
  induction xs with
  | nil => exact Nat.zero_le _
  | cons x r ih =>
    have h1 := h x List.mem_cons_self
    have h2 := ih fun z hz => h z (List.mem_cons_of_mem _ hz)
    rw [List.map_cons, List.sum_cons, List.length_cons, Nat.succ_mul]
    omega
theorem join_len {sep : Str} {xs : List Str} {n : Nat} (h : ∀ z ∈ xs, z.length ≤ n) : (PySem.Txt.join sep xs).length ≤ xs.length * n + xs.length * sep.length := by
  have e : (PySem.Txt.join sep xs).length = (xs.map (·.length)).sum + (xs.length - 1) * sep.length := size_glued sep xs
  have := sum_le h
  have : (xs.length - 1) * sep.length ≤ xs.length * sep.length := Nat.mul_le_mul_right _ (Nat.sub_le _ _)
  omega
theorem repS_ok {z : Str} (h : PyData.strOk z = true) (n : Nat) : PyData.strOk (repS z n) = true := by
  unfold PyData.strOk at *
  rw [← Array.all_toList] at h ⊢
  rw [repS_list, List.all_eq_true]
  intro c hc
  obtain ⟨l, hl, hc⟩ := List.mem_flatten.mp hc
  rw [(List.mem_replicate.mp hl).2] at hc
  exact List.all_eq_true.mp h c hc
def rp (c : Str) (n : Nat) : List Str := List.replicate n c
theorem rp_str (c : Str) (n : Nat) : (List.replicate n [V.str c]).flatten = (rp c n).map V.str := by
  unfold rp
  induction n with
  | zero => rfl
  | succ n ih =>
    rw [List.replicate_succ, List.flatten_cons, ih, List.replicate_succ, List.map_cons]
    rfl
theorem rp_len (c : Str) (n : Nat) : (rp c n).length = n := List.length_replicate
def StrC (z : Str) : Prop := z.length ≤ 100 ∧ PyData.strOk z = true
theorem way_len (i : Int) : (way i).length ≤ 100 := by
  have h : ∀ k, k < 10 → (wayM.getD k "").length ≤ 100 := by decide +kernel
  exact h _ (by omega)
def TxC (t : Tx) : Prop := t.length ≤ 42 ∧ ∀ z ∈ t, StrC z
def RowOk (F : Hp) (v : V) : Prop := ∃ (a : Addr) (t : Tx), v = .ref a ∧ F a = some (.lst (t.map V.str)) ∧ TxC t
theorem RowOk.up {F F' : Hp} {v : V} (h : RowOk F v) (s : Same F F') : RowOk F' v := by
  obtain ⟨a, t, e, h, o⟩ := h
  exact ⟨a, t, e, s _ _ h, o⟩
section
variable {P : Program} {w : World} {K : PySem.W.Frag} {mg : Str → Option Value} {base : Heap}
def sp_law (K : PySem.W.Frag) : Sp := fun vs H Q _ => ∃ (a : Addr) (ns : List Int), vs = [.ref a] ∧ SqL K H a (ns.map V.int) ∧ ns.length ≤ 63 ∧ ∀ H', Q (.bl true) H'
theorem sp_law_len {vs H Q E} (h : sp_law K vs H Q E) : vs.length = 1 := by
  obtain ⟨_, _, rfl, _⟩ := h
  rfl
theorem sp_law_start {H : Hp} {a : Addr} {ns : List Int} (hl : ns.length ≤ 63) (hS : SqL K H a (ns.map V.int)) : sp_law K [.ref a] H (fun v _ => v = .bl true) (fun _ _ _ => False) := ⟨a, ns, rfl, hS, hl, fun _ => rfl⟩
set_option maxHeartbeats 8000000 in
theorem ok_law (T : Txt K mg) : FnOk P w K mg base CX0 8 T.f_law T.fd_law ["script"] (sp_law K) := by
  refine T.F_law.ok sc_law (fun vs H Q E h => sp_law_len h) (fun cdv A outer s H vs Q E hr h => ?_)
  refine ⟨_, (pss_cons (ps_set (i := 1) sc_law.nd rfl (.inr rfl) (pe_call (ok_l_feed T) (hr.mono (by decide)) (by rfl) T.g_l_feed T.F_l_feed.kp T.b_l_feed .nil pass0 (pa_cons (pv 0) pa_nil)))
      (pss_cons (ps_set (i := 2) sc_law.nd rfl (.inl rfl) (pe_lst pa_nil))
      (pss_cons (ps_for PassesOwn.never rfl (pi_range1 rfl T.m_range (pa_cons pe_int pa_nil)) (pg_name (i := 3) sc_law.nd rfl (.inr rfl)) (pss_cons (ps_setLc (i := 4) (own := [("j", 16)]) (g := gName 16) (tt := tYes) rfl sc_law.nd rfl rfl (sw_true rfl rfl rfl (by decide +kernel)) (pi_range1 rfl T.m_range (pa_cons pe_int pa_nil)) (blkOk_by (N := n_law) (sc := defScope s_law) (by decide +kernel)) (fun _ _ _ _ _ => (pg_name (i := 16) sc_law.nd rfl (.inl rfl))) (fun _ _ _ _ _ => pts_nil) (fun _ _ _ _ _ => (pe_op (op_addK K) (pe_op (op_addK K) (pe_call (ok_l_next T) (hr.mono (by decide)) (by rfl) T.g_l_next T.F_l_next.kp T.b_l_next .nil pass0 (pa_cons (pv 1) (pa_cons pe_int pa_nil))) (pe_op op_mulA pe_int (pv 3))) (pe_op op_mulA (pv 16) (pv 3)))))
      (pss_one (ps_expr (k_bm K (pe_bm PySem.F.plainAttrs_list PySem.F.slot_list_append PySem.F.type_list_append mt_append (pv 2) (pa_cons (pe_joinK K pe_str (pe_lc (own := [("pick", 17)]) (g := gName 17) (tt := tYes) rfl sc_law.nd (k_il K (pi_list (pv 4))) (blkOk_by (N := n_law) (sc := defScope s_law) (by decide +kernel)) (fun _ _ _ _ _ => (pg_name (i := 17) sc_law.nd rfl (.inl rfl))) (fun _ _ _ _ _ => pts_nil) (fun _ _ _ _ _ => (pe_call (ok_l_piece T) (hr.mono (by decide)) (by rfl) T.g_l_piece T.F_l_piece.kp T.b_l_piece .nil pass0 (pa_cons (pv 17) pa_nil))))) pa_nil)))))))
      (pss_cons (ps_for PassesOwn.never rfl (pi_range1 rfl T.m_range (pa_cons pe_int pa_nil)) (pg_name (i := 3) sc_law.nd rfl (.inr rfl)) (pss_one (ps_expr (k_bm K (pe_bm PySem.F.plainAttrs_list PySem.F.slot_list_append PySem.F.type_list_append mt_append (pv 2) (pa_cons (pe_op (op_addK K) (pe_op (op_addK K) pe_str (pe_call (ok_l_sign T) (hr.mono (by decide)) (by rfl) T.g_l_sign T.F_l_sign.kp T.b_l_sign .nil pass0 (pa_cons (pe_op (op_addK K) (pe_call (ok_l_next T) (hr.mono (by decide)) (by rfl) T.g_l_next T.F_l_next.kp T.b_l_next .nil pass0 (pa_cons (pv 1) (pa_cons pe_int pa_nil))) (pe_op op_mulA pe_int (pv 3))) pa_nil))) pe_str) pa_nil))))))
      (pss_cons (ps_expr (k_bm K (pe_bm PySem.F.plainAttrs_list PySem.F.slot_list_append PySem.F.type_list_append mt_append (pv 2) (pa_cons (pe_op op_repS pe_str (pe_op (op_addK K) pe_int (pe_op op_mod (pe_callTy cr_int1 (by rfl) T.m_int (by decide +kernel) (pa_cons (pe_op (op_addK K) (pe_call (ok_l_next T) (hr.mono (by decide)) (by rfl) T.g_l_next T.F_l_next.kp T.b_l_next .nil pass0 (pa_cons (pv 1) (pa_cons pe_int pa_nil))) pe_int) pa_nil)) pe_int))) pa_nil))))
      (pss_cons (ps_set (i := 5) sc_law.nd rfl (.inl rfl) (pe_op op_repS pe_str (pe_op (op_addK K) pe_int (pe_op op_mod (pe_callTy cr_int1 (by rfl) T.m_int (by decide +kernel) (pa_cons (pe_op (op_addK K) (pe_call (ok_l_next T) (hr.mono (by decide)) (by rfl) T.g_l_next T.F_l_next.kp T.b_l_next .nil pass0 (pa_cons (pv 1) (pa_cons pe_int pa_nil))) pe_int) pa_nil)) pe_int))))
      (pss_cons (ps_expr (k_bm K (pe_bm PySem.F.plainAttrs_list PySem.F.slot_list_append PySem.F.type_list_append mt_append (pv 2) (pa_cons (pe_joinK K pe_str (pe_op op_mulA (pe_lst (pa_cons (pv 5) pa_nil)) (pe_op (op_addK K) pe_int (pe_op op_mod (pe_callTy cr_int1 (by rfl) T.m_int (by decide +kernel) (pa_cons (pe_op (op_addK K) (pe_call (ok_l_next T) (hr.mono (by decide)) (by rfl) T.g_l_next T.F_l_next.kp T.b_l_next .nil pass0 (pa_cons (pv 1) (pa_cons pe_int pa_nil))) pe_int) pa_nil)) pe_int)))) pa_nil))))
      (pss_cons (ps_if (PW.pt (pw_or (pt_not (pt_val (pe_call (ok_l_asks_strings T) (hr.mono (by decide)) (by rfl) T.g_l_asks_strings T.F_l_asks_strings.kp T.b_l_asks_strings .nil pass0 (pa_cons (pv 2) pa_nil)))) (pw_or1 (pt_not (pt_val (pe_call (ok_l_asks_below T) (hr.mono (by decide)) (by rfl) T.g_l_asks_below T.F_l_asks_below.kp T.b_l_asks_below .nil pass0 (pa_cons (pv 1) pa_nil))))))) (pss_one (ps_ret pe_bl)) pss_nil)
      (pss_cons (ps_set (i := 6) sc_law.nd rfl (.inl rfl) (pe_op op_mulA (pe_lst (pa_cons pe_str pa_nil)) pe_int))
      (pss_cons (ps_for PassesOwn.never rfl (pi_range1 rfl T.m_range (pa_cons pe_int pa_nil)) (pg_name (i := 3) sc_law.nd rfl (.inr rfl)) (pss_cons (ps_set (i := 7) sc_law.nd rfl (.inl rfl) (pe_call (ok_l_next T) (hr.mono (by decide)) (by rfl) T.g_l_next T.F_l_next.kp T.b_l_next .nil pass0 (pa_cons (pv 1) (pa_cons pe_int pa_nil))))
      (pss_one (ps_if (pt_cmpR op_gt (pv 7) pe_int (nomark _)) (pss_one (ps_asg (pe_ix (ix_K K (hu_of hr)) (pv 2) (pe_call (ok_l_next T) (hr.mono (by decide)) (by rfl) T.g_l_next T.F_l_next.kp T.b_l_next .nil pass0 (pa_cons (pv 1) (pa_cons pe_int pa_nil))) (fun _ _ => rfl)) (pg_sub (pv 6) (pe_op op_sub (pv 7) pe_int) (set_any (hu_of hr))))) pss_nil))))
      (pss_cons (ps_for PassesOwn.never rfl (k_il K (pi_list (pe_lst (pa_cons (pe_slice (sl_K K) (pv 6) po_none (po_some pe_int)) (pa_cons (pe_slice (sl_K K) (pv 6) po_none (po_some pe_int)) (pa_cons (pv 6) (pa_cons (pe_slice (sl_K K) (pv 6) po_none (po_some (pe_call (ok_l_next T) (hr.mono (by decide)) (by rfl) T.g_l_next T.F_l_next.kp T.b_l_next .nil pass0 (pa_cons (pv 1) (pa_cons pe_int pa_nil))))) pa_nil))))))) (pg_name (i := 8) sc_law.nd rfl (.inl rfl)) (pss_one (ps_if (pt_not (pt_val (pe_call (ok_l_asks_text T) (hr.mono (by decide)) (by rfl) T.g_l_asks_text T.F_l_asks_text.kp T.b_l_asks_text .nil pass0 (pa_cons (pv 8) pa_nil)))) (pss_one (ps_ret pe_bl)) pss_nil)))
      (pss_cons (ps_set (i := 9) sc_law.nd rfl (.inr rfl) (pe_call (ok_l_next T) (hr.mono (by decide)) (by rfl) T.g_l_next T.F_l_next.kp T.b_l_next .nil pass0 (pa_cons (pv 1) (pa_cons pe_int pa_nil))))
      (pss_cons (ps_set (i := 10) sc_law.nd rfl (.inr rfl) (pe_ix (ix_K K (hu_of hr)) (pe_lst (pa_cons pe_int (pa_cons pe_int (pa_cons pe_int (pa_cons pe_int pa_nil))))) (pe_call (ok_l_next T) (hr.mono (by decide)) (by rfl) T.g_l_next T.F_l_next.kp T.b_l_next .nil pass0 (pa_cons (pv 1) (pa_cons pe_int pa_nil))) (fun _ _ => rfl)))
      (pss_cons (ps_setLc (i := 11) (own := [("k", 3)]) (g := gName 3) (tt := tYes) rfl sc_law.nd rfl rfl (sw_true rfl rfl rfl (by decide +kernel)) (pi_range1 rfl T.m_range (pa_cons pe_int pa_nil)) (blkOk_by (N := n_law) (sc := defScope s_law) (by decide +kernel)) (fun _ _ _ _ _ => (pg_name (i := 3) sc_law.nd rfl (.inl rfl))) (fun _ _ _ _ _ => pts_nil) (fun _ _ _ _ _ => (pe_call (ok_l_way T) (hr.mono (by decide)) (by rfl) T.g_l_way T.F_l_way.kp T.b_l_way .nil pass0 (pa_cons (pe_op (op_addK K) (pv 9) (pe_op op_mulA (pv 10) (pv 3))) pa_nil))))
      (pss_cons (ps_setLc (i := 12) (own := [("k", 3)]) (g := gName 3) (tt := tYes) rfl sc_law.nd rfl rfl (sw_true rfl rfl rfl (by decide +kernel)) (pi_range1 rfl T.m_range (pa_cons pe_int pa_nil)) (blkOk_by (N := n_law) (sc := defScope s_law) (by decide +kernel)) (fun _ _ _ _ _ => (pg_name (i := 3) sc_law.nd rfl (.inl rfl))) (fun _ _ _ _ _ => pts_nil) (fun _ _ _ _ _ => (pe_ix (ix_K K (hu_of hr)) (pe_lst (pa_cons (pe_lst (pa_cons pe_str pa_nil)) (pa_cons (pe_lst pa_nil) (pa_cons (pe_lst (pa_cons pe_str (pa_cons pe_str pa_nil))) pa_nil)))) (pe_op op_mod (pe_callTy cr_int1 (by rfl) T.m_int (by decide +kernel) (pa_cons (pv 3) pa_nil)) pe_int) (fun _ _ => rfl))))
      (pss_cons (ps_for PassesOwn.never rfl (pi_range1 rfl T.m_range (pa_cons pe_int pa_nil)) (pg_name (i := 3) sc_law.nd rfl (.inr rfl)) (pss_cons (ps_set (i := 7) sc_law.nd rfl (.inl rfl) (pe_call (ok_l_next T) (hr.mono (by decide)) (by rfl) T.g_l_next T.F_l_next.kp T.b_l_next .nil pass0 (pa_cons (pv 1) (pa_cons pe_int pa_nil))))
      (pss_one (ps_if (pt_cmpR op_gt (pv 7) pe_int (nomark _)) (pss_one (ps_asg (pe_ix (ix_K K (hu_of hr)) (pv 2) (pe_call (ok_l_next T) (hr.mono (by decide)) (by rfl) T.g_l_next T.F_l_next.kp T.b_l_next .nil pass0 (pa_cons (pv 1) (pa_cons pe_int pa_nil))) (fun _ _ => rfl)) (pg_sub (pv 11) (pe_op op_sub (pv 7) pe_int) (set_any (hu_of hr))))) pss_nil))))
      (pss_cons (ps_set (i := 7) sc_law.nd rfl (.inl rfl) (pe_call (ok_l_next T) (hr.mono (by decide)) (by rfl) T.g_l_next T.F_l_next.kp T.b_l_next .nil pass0 (pa_cons (pv 1) (pa_cons pe_int pa_nil))))
      (pss_cons (ps_set (i := 13) sc_law.nd rfl (.inl rfl) (pe_lst (pa_cons (pe_op op_mulA (pe_lst (pa_cons pe_str pa_nil)) pe_int) (pa_cons (pe_op op_mulA (pe_lst (pa_cons pe_str pa_nil)) pe_int) (pa_cons (pe_lst (pa_cons pe_str (pa_cons (pe_ix (ix_K K (hu_of hr)) (pv 2) (pe_call (ok_l_next T) (hr.mono (by decide)) (by rfl) T.g_l_next T.F_l_next.kp T.b_l_next .nil pass0 (pa_cons (pv 1) (pa_cons pe_int pa_nil))) (fun _ _ => rfl)) pa_nil))) pa_nil)))))
      (pss_cons (ps_if (pt_cmpR op_gt (pv 7) pe_int (nomark _)) (pss_one (ps_asg (pe_ix (ix_K K (hu_of hr)) (pv 13) (pe_call (ok_l_next T) (hr.mono (by decide)) (by rfl) T.g_l_next T.F_l_next.kp T.b_l_next .nil pass0 (pa_cons (pv 1) (pa_cons pe_int pa_nil))) (fun _ _ => rfl)) (pg_sub (pv 12) (pe_op op_sub (pv 7) pe_int) (set_any (hu_of hr))))) pss_nil)
      (pss_cons (ps_for PassesOwn.never rfl (k_il K (pi_list (pe_lst (pa_cons pe_int (pa_cons pe_int (pa_cons pe_int (pa_cons (pe_call (ok_l_next T) (hr.mono (by decide)) (by rfl) T.g_l_next T.F_l_next.kp T.b_l_next .nil pass0 (pa_cons (pv 1) (pa_cons pe_int pa_nil))) pa_nil))))))) (pg_name (i := 14) sc_law.nd rfl (.inl rfl)) (pss_cons (ps_set (i := 15) sc_law.nd rfl (.inl rfl) pe_dnewK)
      (pss_cons (ps_for PassesOwn.never rfl (pi_range1 rfl T.m_range (pa_cons (pv 14) pa_nil)) (pg_name (i := 3) sc_law.nd rfl (.inr rfl)) (pss_one (ps_asg (pe_callTy (cr_listK K) (by rfl) T.m_list (by decide +kernel) (pa_cons (pe_ix (ix_K K (hu_of hr)) (pv 12) (pv 3) (fun _ _ => rfl)) pa_nil)) (pg_sub (pv 15) (pe_ix (ix_K K (hu_of hr)) (pv 11) (pv 3) (fun _ _ => rfl)) (set_any (hu_of hr))))))
      (pss_one (ps_if (PW.pt (pw_or (pt_not (pt_val (pe_call (ok_l_asks_tree T) (hr.mono (by decide)) (by rfl) T.g_l_asks_tree T.F_l_asks_tree.kp T.b_l_asks_tree .nil passC0 (pa_cons (pv 15) pa_nil)))) (pw_or1 (pt_not (pt_val (pe_call (ok_l_asks_files T) (hr.mono (by decide)) (by rfl) T.g_l_asks_files T.F_l_asks_files.kp T.b_l_asks_files .nil pass0 (pa_cons (pv 15) pa_nil))))))) (pss_one (ps_ret pe_bl)) pss_nil)))))
      (pss_one (ps_ret pe_bl)))))))))))))))))))))), ?_⟩
  obtain ⟨sc, ns, rfl, hS, hl, q⟩ := h
  refine g_start (σ' := [some (.ref sc), none, none, none, none, none, none, none, none, none, none, none, none, none, none, none, none, none]) rfl ?_
  walk_at "gg"
  refine ⟨sc, ns, rfl, hS, hl, fun c H1 F1 wc rows n1 s1 h1 dqc lr => ?_⟩
  walk_at "gg"
  refine g_klst (by walk_at "sz") h1 (fun sa H2 n2 h2 => ?_)
  walk_at "gg"
  -- four strings of three pieces
  refine k_forR1 (fun t σ H' => ∃ (y3 y4 : Option V) (ss : List Str) (F : Hp) (wc : List V) (rows : List (Int × Int)), σ = [some (.ref sc), some (.ref c), some (.ref sa), y3, y4, none, none, none, none, none, none, none, none, none, none, none, none, none] ∧ Has F [(sa, .lst (ss.map V.str)), (c, .lst wc)] H' ∧ DqAll F wc (rows.map cellD) ∧ rows.length ≤ 100 ∧ ss.length = t ∧ ∀ z ∈ ss, StrC z) (by decide) (by decide) ⟨_, _, [], F1, wc, rows, rfl, h2, dqc, lr, rfl, by simp⟩ ?_ ?_
  · rintro t σ H3 ht ⟨y3, y4, ss, F, wc, rows, rfl, h3, dqc, lr, rfl, oks⟩
    have ht : ss.length < 4 := ht
    walk_at "gg"
    refine k_lcR1 (by decide) (by decide) h3 (fun i acc F' O' => ∃ (is : List Int) (wc : List V) (rows : List (Int × Int)), acc = is.map V.int ∧ is.length = i ∧ [(sa, HO.lst (ss.map V.str)), (c, HO.lst wc)] = O' ∧ DqAll F' wc (rows.map cellD) ∧ rows.length ≤ 100) ⟨[], wc, rows, rfl, rfl, rfl, dqc, lr⟩ ?_ ?_
    · rintro i acc F' O' D H4 hi ⟨is, wc, rows, rfl, rfl, rfl, dqc, lr⟩ hh
      have hi' : is.length < 3 := hi
      walk_at "gg"
      refine ⟨c, 16, F', wc, rows, rfl, hh.drop.drop, dqc, lr, by decide, by decide, fun H5 F5 wc5 rows5 r hb g h5 dq5 l5 r0 r1 => ?_⟩
      have h := hh.grown (by walk_at "c") hb g h5.same (h5.get (List.Mem.head _))
      walk_at "gg"
      refine g_mulI (.inl ⟨by decide, by decide⟩) ?_
      walk_at "gg"
      refine g_mulI (.inl ⟨by omega, by omega⟩) ?_
      walk_at "gg"
      refine k_turn h (by rw [List.length_map]; omega) ⟨is ++ [_], wc5, rows5, by rw [List.map_append]; rfl, by rw [List.length_append]; rfl, rfl, dq5, l5⟩
    rintro acc F4 O4 pk H4 ⟨is, wc, rows, rfl, li, rfl, dqc, lr⟩ h4
    have li : is.length = 3 := li
    walk_at "gg"
    refine k_lcL (h4.get (List.Mem.head _)) h4 (fun i acc F' O' => ∃ ps : List Str, acc = ps.map V.str ∧ ps.length = i ∧ (∀ z ∈ ps, z.length ≤ 20 ∧ PyData.strOk z = true) ∧ F4 = F' ∧ O' = [(pk, HO.lst (is.map V.int)), (sa, HO.lst (ss.map V.str)), (c, HO.lst wc)]) ⟨[], rfl, rfl, by simp, rfl, rfl⟩ ?_ ?_ ?_
    · rintro i acc F' O' H5 ⟨ps, _, _, _, rfl, rfl⟩ hh
      exact hh.get (List.Mem.head _)
    · rintro i xx acc F' O' D H5 hx ⟨ps, rfl, rfl, okp, rfl, rfl⟩ hh
      rw [List.getElem?_map] at hx
      obtain ⟨n, hn, rfl⟩ := Option.map_eq_some_iff.mp hx
      have lt := (List.getElem?_eq_some_iff.mp hn).1
      walk_at "gg"
      refine ⟨n, rfl, fun z H6 s6 lz oz => ?_⟩
      refine k_turn (hh.on s6) (by rw [List.length_map]; omega) ⟨ps ++ [z], by rw [List.map_append]; rfl, by rw [List.length_append]; rfl, fun x hx => ?_, rfl, rfl⟩
      rcases List.mem_append.mp hx with hx | hx
      · exact okp x hx
      · rw [List.mem_singleton.mp hx]
        exact ⟨lz, oz⟩
    rintro acc F' O' pj H5 ⟨ps, rfl, lp, okp, rfl, rfl⟩ h5
    rw [List.length_map] at lp
    have jl := join_len (sep := "") (xs := ps) (n := 20) fun z hz => (okp z hz).1
    have j0 : ("" : Str).length = 0 := rfl
    have sl := sum_le fun z hz => (okp z hz).1
    refine g_joinL (h5.get (List.Mem.head _)) (by rw [j0]; omega) ?_
    walk_at "gg"
    refine g_append h5 (.tl (.tl .hd)) (szl (by rw [List.length_map]; omega)) (fun H6 h6 => ?_)
    walk_at "gg"
    refine ⟨_, _, ss ++ [PySem.Txt.join "" ps], F4, wc, rows, rfl, ?_, dqc, lr, by rw [List.length_append]; rfl, fun z hz => ?_⟩
    · rw [List.map_append]
      exact h6.drop.drop
    · rcases List.mem_append.mp hz with hz | hz
      · exact oks z hz
      · rw [List.mem_singleton.mp hz]
        exact ⟨by rw [j0] at jl; omega, join_ok (by decide +kernel) fun z hz => (okp z hz).2⟩
  rintro σ H3 ⟨y3, y4, ss, F, wc, rows, rfl, h3, dqc, lr, lss, oks⟩
  have lss : ss.length = 4 := lss
  walk_at "gg"
  -- two with one of the signs
  refine k_forR1 (fun t σ H' => ∃ (y3 y4 : Option V) (ss : List Str) (F : Hp) (wc : List V) (rows : List (Int × Int)), σ = [some (.ref sc), some (.ref c), some (.ref sa), y3, y4, none, none, none, none, none, none, none, none, none, none, none, none, none] ∧ Has F [(sa, .lst (ss.map V.str)), (c, .lst wc)] H' ∧ DqAll F wc (rows.map cellD) ∧ rows.length ≤ 100 ∧ ss.length = 4 + t ∧ ∀ z ∈ ss, StrC z) (by decide) (by decide) ⟨_, _, ss, F, wc, rows, rfl, h3, dqc, lr, lss, oks⟩ ?_ ?_
  · rintro t σ H4 ht ⟨y3, y4, ss, F, wc, rows, rfl, h4, dqc, lr, lss, oks⟩
    have ht : t < 2 := ht
    walk_at "gg"
    refine ⟨c, 94, F, wc, rows, rfl, h4.drop, dqc, lr, by decide, by decide, fun H5 F5 wc5 rows5 r hb g h5 dq5 l5 r0 r1 => ?_⟩
    have h := h4.grown (by walk_at "c") hb g h5.same (h5.get (List.Mem.head _))
    walk_at "gg"
    refine g_mulI (.inl ⟨by decide, by decide⟩) ?_
    walk_at "gg"
    refine ⟨_, rfl, fun z lz oz => ?_⟩
    have l1 : (("a" : Str) ++ z).length = 1 + z.length := Array.size_append
    have l2 : (("a" : Str) ++ z ++ ("b" : Str)).length = (("a" : Str) ++ z).length + 1 := Array.size_append
    refine g_addS (sz (by show 1 + z.length ≤ _; omega)) ?_
    walk_at "gg"
    refine g_addS (sz (by rw [l1]; show _ + 1 ≤ _; omega)) ?_
    walk_at "gg"
    refine g_append h .hd (szl (by rw [List.length_map]; omega)) (fun H6 h6 => ?_)
    walk_at "gg"
    refine ⟨_, _, ss ++ [("a" : Str) ++ z ++ ("b" : Str)], F5, wc5, rows5, rfl, ?_, dq5, l5, by rw [List.length_append]; show _ + 1 = _; omega, fun x hx => ?_⟩
    · rw [List.map_append]
      exact h6
    · rcases List.mem_append.mp hx with hx | hx
      · exact oks x hx
      · rw [List.mem_singleton.mp hx]
        exact ⟨by rw [l2, l1]; omega, strOk_app (strOk_app (by decide +kernel) oz) (by decide +kernel)⟩
  rintro σ H4 ⟨y3, y4, ss, F, wc, rows, rfl, h4, dqc, lr, lss, oks⟩
  have lss : ss.length = 6 := lss
  walk_at "gg"
  -- one of one letter
  refine ⟨c, 4, F, wc, rows, rfl, h4.drop, dqc, lr, by decide, by decide, fun H5 F5 wc rows r hb g h5 dqc lr r0 r1 => ?_⟩
  have h := h4.grown (by walk_at "c") hb g h5.same (h5.get (List.Mem.head _))
  clear hb g h5
  walk_at "gg"
  refine g_rI (by show (0 : Int) < 4; decide) ?_
  walk_at "gg"
  have m0 : 0 ≤ (r + 1) % 4 := Int.emod_nonneg _ (by decide)
  have m1 : (r + 1) % 4 < 4 := Int.emod_lt_of_pos _ (by decide)
  refine g_repS (by omega) (by omega) (by decide) ?_
  have lb := repS_len "b" (19 + (r + 1) % 4).toNat
  have ob := repS_ok (z := "b") (by decide +kernel) (19 + (r + 1) % 4).toNat
  have lb1 : ("b" : Str).length = 1 := rfl
  generalize repS "b" (19 + (r + 1) % 4).toNat = bs at lb ob
  walk_at "gg"
  refine g_append h .hd (szl (by rw [List.length_map]; omega)) (fun H6 h6 => ?_)
  rw [show ss.map V.str ++ [V.str bs] = (ss ++ [bs]).map V.str by rw [List.map_append]; rfl] at h6
  have oks6 : ∀ z ∈ ss ++ [bs], StrC z := fun x hx => by
    rcases List.mem_append.mp hx with hx | hx
    · exact oks x hx
    · rw [List.mem_singleton.mp hx]
      exact ⟨by rw [lb, lb1]; omega, ob⟩
  have lss6 : (ss ++ [bs]).length = 7 := by rw [List.length_append, lss]; rfl
  clear h lb ob oks lss m0 m1 r0 r1
  generalize ss ++ [bs] = ss at h6 oks6 lss6
  clear r
  walk_at "gg"
  -- one of words
  refine ⟨c, 3, F5, wc, rows, rfl, h6.drop, dqc, lr, by decide, by decide, fun H7 F7 wc rows r hb g h7 dqc lr r0 r1 => ?_⟩
  have h := h6.grown (by walk_at "c") hb g h7.same (h7.get (List.Mem.head _))
  clear hb g h7
  walk_at "gg"
  refine g_rI (by show (0 : Int) < 3; decide) ?_
  walk_at "gg"
  have m0 : 0 ≤ (r + 1) % 3 := Int.emod_nonneg _ (by decide)
  have m1 : (r + 1) % 3 < 3 := Int.emod_lt_of_pos _ (by decide)
  refine g_repS (by omega) (by omega) (by decide) ?_
  have lb := repS_len "c" (5 + (r + 1) % 3).toNat
  have ob := repS_ok (z := "c") (by decide +kernel) (5 + (r + 1) % 3).toNat
  have lb1 : ("c" : Str).length = 1 := rfl
  generalize repS "c" (5 + (r + 1) % 3).toNat = wd at lb ob
  have lw : wd.length ≤ 7 := by rw [lb, lb1]; omega
  clear lb m0 m1 r0 r1
  clear r
  walk_at "gg"
  refine g_klst (by walk_at "sz") h (fun wl H8 n8 h8 => ?_)
  walk_at "gg"
  refine ⟨c, 4, F7, wc, rows, rfl, h8.drop.drop, dqc, lr, by decide, by decide, fun H9 F9 wc rows r hb g h9 dqc lr r0 r1 => ?_⟩
  have h := h8.grown (by walk_at "c") hb g h9.same (h9.get (List.Mem.head _))
  clear hb g h9
  walk_at "gg"
  refine g_rI (by show (0 : Int) < 4; decide) ?_
  walk_at "gg"
  have m0 : 0 ≤ (r + 2) % 4 := Int.emod_nonneg _ (by decide)
  have m1 : (r + 2) % 4 < 4 := Int.emod_lt_of_pos _ (by decide)
  refine g_mulL (h.get (List.Mem.head _)) (by omega) (by omega) (sz (by show 1 * _ ≤ _; omega)) h (fun wm H10 n10 h10 => ?_)
  rw [rp_str] at h10
  walk_at "gg"
  have okw : ∀ z ∈ rp wd (1 + (r + 2) % 4).toNat, z.length ≤ 7 ∧ PyData.strOk z = true := fun z hz => by
    rw [(List.mem_replicate.mp hz).2]
    exact ⟨lw, ob⟩
  have lrp : (rp wd (1 + (r + 2) % 4).toNat).length ≤ 4 := by rw [rp_len]; omega
  generalize rp wd (1 + (r + 2) % 4).toNat = rw_ at h10 okw lrp
  have jl := join_len (sep := "/") (xs := rw_) (n := 7) fun z hz => (okw z hz).1
  have j1 : ("/" : Str).length = 1 := rfl
  have sl := sum_le fun z hz => (okw z hz).1
  refine g_joinL (h10.get (List.Mem.head _)) (by rw [j1]; omega) ?_
  have oj := join_ok (sep := "/") (by decide +kernel) fun z hz => (okw z hz).2
  rw [j1] at jl
  generalize PySem.Txt.join "/" rw_ = js at jl oj
  walk_at "gg"
  refine g_append h10 (.tl (.tl .hd)) (szl (by rw [List.length_map]; omega)) (fun H11 h11 => ?_)
  have h := h11.drop.drop
  rw [show ss.map V.str ++ [V.str js] = (ss ++ [js]).map V.str by rw [List.map_append]; rfl] at h
  have oks7 : ∀ z ∈ ss ++ [js], StrC z := fun x hx => by
    rcases List.mem_append.mp hx with hx | hx
    · exact oks6 x hx
    · rw [List.mem_singleton.mp hx]
      exact ⟨by omega, oj⟩
  have lss7 : (ss ++ [js]).length = 8 := by rw [List.length_append, lss6]; rfl
  clear h10 h11 h8 h6 okw jl sl oj oks6 lss6 m0 m1 r0 r1 lrp
  generalize ss ++ [js] = ss at h oks7 lss7
  clear r
  have sG := h.grow
  have h := h.frz
  have fs : upd F9 sa (.lst (ss.map V.str)) sa = some (.lst (ss.map V.str)) := upd_same
  have dqc := dqc.up sG _ _
  generalize upd F9 sa (.lst (ss.map V.str)) = F at h fs dqc
  walk_at "gg"
  refine ⟨sa, ss, rfl, h.same _ _ fs, fun z hz => ⟨by have := (oks7 z hz).1; omega, (oks7 z hz).2⟩, fun H12 s12 => ?_⟩
  have h := h.on s12
  walk_at "gg"
  refine ⟨c, F, wc, rows, rfl, h, dqc, lr, fun H13 F wc rows sF h dqc lr => ?_⟩
  have fs := sF _ _ fs
  clear sF
  walk_at "gg"
  -- the text
  refine g_klst (by walk_at "sz") h (fun t0 H14 n14 h14 => ?_)
  walk_at "gg"
  refine g_mulL (h14.get (List.Mem.head _)) (by decide) (by decide) (sz (by show 1 * _ ≤ _; decide)) h14 (fun tx H15 n15 h15 => ?_)
  rw [rp_str] at h15
  have h15 := h15.sub (O' := [(tx, .lst ((rp "a b" (42 : Int).toNat).map V.str)), (c, .lst wc)]) (by walk_at "sub")
  have ab : ∀ z ∈ rp "a b" (42 : Int).toNat, StrC z := fun z hz => by
    rw [(List.mem_replicate.mp hz).2]
    exact ⟨by decide, by decide +kernel⟩
  walk_at "gg"
  refine k_forR1 (fun t σ H' => ∃ (y3 y4 y7 : Option V) (tt : Tx) (F : Hp) (wc : List V) (rows : List (Int × Int)), σ = [some (.ref sc), some (.ref c), some (.ref sa), y3, y4, some (.str wd), some (.ref tx), y7, none, none, none, none, none, none, none, none, none, none] ∧ Has F [(tx, .lst (tt.map V.str)), (c, .lst wc)] H' ∧ DqAll F wc (rows.map cellD) ∧ rows.length ≤ 100 ∧ F sa = some (.lst (ss.map V.str)) ∧ tt.length = 42 ∧ ∀ z ∈ tt, StrC z) (by decide) (by decide) ⟨_, _, _, _, F, wc, rows, rfl, h15, dqc, lr, fs, rp_len _ _, ab⟩ ?_ ?_
  · rintro t σ H16 ht ⟨y3, y4, y7, tt, F, wc, rows, rfl, h, dqc, lr, fs, ltt, okt⟩
    walk_at "gg"
    refine ⟨c, 43, F, wc, rows, rfl, h.drop, dqc, lr, by decide, by decide, fun H5 F5 wc rows r hb g h5 dqc lr r0 r1 => ?_⟩
    have h := h.grown (by walk_at "c") hb g h5.same (h5.get (List.Mem.head _))
    have fs := g.1 _ _ fs
    clear hb g h5
    walk_at "gg"
    refine i_d (fun e => ?_) (fun e => ?_)
    · walk_at "gg"
      refine ⟨c, 8, F5, wc, rows, rfl, h.drop, dqc, lr, by decide, by decide, fun H6 F6 wc rows i hb g h5 dqc lr i0 i1 => ?_⟩
      have h := h.grown (by walk_at "c") hb g h5.same (h5.get (List.Mem.head _))
      have fs := g.1 _ _ fs
      clear hb g h5
      walk_at "gg"
      refine g_ixZ (xs := ss) (h.same _ _ fs) i0 (by rw [lss7]; exact i1) (fun z hz => ?_)
      obtain ⟨j, rfl⟩ : ∃ j : Nat, r = (j : Nat) + 1 := ⟨(r - 1).toNat, by omega⟩
      have ej : ((j : Nat) : Int) + 1 - 1 = (j : Nat) := by omega
      walk_at "gg"
      rw [ej]
      refine g_stL (j := j) h .hd (ixN_nat (by omega) (by rw [List.length_map]; omega)) (fun H7 h7 => ?_)
      walk_at "gg"
      refine ⟨_, _, _, tt.set j z, F6, wc, rows, rfl, ?_, dqc, lr, fs, by rw [List.length_set]; exact ltt, fun x hx => ?_⟩
      · rw [List.map_set]
        exact h7
      · rcases List.mem_or_eq_of_mem_set hx with hx | rfl
        · exact okt x hx
        · exact oks7 _ (List.mem_of_getElem? hz)
    · walk_at "gg"
      exact ⟨_, _, _, tt, F5, wc, rows, rfl, h, dqc, lr, fs, ltt, okt⟩
  rintro σ H16 ⟨y3, y4, y7, tt, F, wc, rows, rfl, h, dqc, lr, fs, ltt, okt⟩
  walk_at "gg"
  have ftx : upd F tx (.lst (tt.map V.str)) tx = some (.lst (tt.map V.str)) := upd_same
  have fs := h.grow _ _ fs
  have dqc := dqc.up h.grow _ _
  have h := h.frz
  generalize upd F tx (.lst (tt.map V.str)) = F at h ftx fs dqc
  have cutOk : ∀ (n : Nat) {F : Hp} {a : Addr}, F a = some (.lst ((tt.take n).map V.str)) → RowOk F (.ref a) := fun n F a e => ⟨a, tt.take n, rfl, e, by rw [List.length_take]; omega, fun z hz => okt z (List.mem_of_mem_take hz)⟩
  refine g_slL (h.same _ _ ftx) h (fun wr1 H17 n17 h17 => ?_)
  rw [show (40 : Int) = ((40 : Nat) : Int) from rfl, cutV_to, ← List.map_take] at h17
  have e17 := cutOk 40 (upd_same (H := F) (a := wr1))
  have s17 := h17.grow
  have h17 := h17.frz
  generalize upd F wr1 (.lst ((tt.take 40).map V.str)) = F17 at h17 e17 s17
  walk_at "gg"
  refine g_slL (h17.same _ _ (s17 _ _ ftx)) h17 (fun wr2 H18 n18 h18 => ?_)
  rw [show (41 : Int) = ((41 : Nat) : Int) from rfl, cutV_to, ← List.map_take] at h18
  have e18 := cutOk 41 (upd_same (H := F17) (a := wr2))
  have s18 := h18.grow
  have h18 := h18.frz
  generalize upd F17 wr2 (.lst ((tt.take 41).map V.str)) = F18 at h18 e18 s18
  walk_at "gg"
  have s := s17.trans s18
  refine ⟨c, 43, F18, wc, rows, rfl, h18, dqc.up s _ _, lr, by decide, by decide, fun H5 F19 wc rows r hb g h5 dqc lr r0 r1 => ?_⟩
  have s19 := g.1
  clear hb g
  obtain ⟨m, rfl⟩ := Int.eq_ofNat_of_zero_le r0
  walk_at "gg"
  refine g_slL (h5.same _ _ ((s.trans s19) _ _ ftx)) h5 (fun wr4 H20 n20 h20 => ?_)
  rw [cutV_to, ← List.map_take] at h20
  have e20 := cutOk m (upd_same (H := F19) (a := wr4))
  have s20 := h20.grow
  have h20 := h20.frz
  generalize upd F19 wr4 (.lst ((tt.take m).map V.str)) = F20 at h20 e20 s20
  have e3 : RowOk F (.ref tx) := ⟨tx, tt, rfl, ftx, by omega, okt⟩
  have all4 : ∀ v ∈ [V.ref wr1, V.ref wr2, V.ref tx, V.ref wr4], RowOk F20 v := fun v hv => by
    simp only [List.mem_cons, List.not_mem_nil, or_false] at hv
    rcases hv with rfl | rfl | rfl | rfl
    · exact e17.up (s18.trans (s19.trans s20))
    · exact e18.up (s19.trans s20)
    · exact e3.up (s.trans (s19.trans s20))
    · exact e20
  have fs := (s.trans (s19.trans s20)) _ _ fs
  have dqc := dqc.up s20 _ _
  clear h h17 h18 h5 e17 e18 e20 e3 cutOk s17 s18 s19 s20 s ftx
  walk_at "gg"
  refine g_klst (by walk_at "sz") h20 (fun rl H21 n21 h21 => ?_)
  generalize [V.ref wr1, V.ref wr2, V.ref tx, V.ref wr4] = rvs at all4 h21
  refine k_forL (h21.get (List.Mem.head _)) (fun i σ H' => ∃ y8 : Option V, σ = [some (.ref sc), some (.ref c), some (.ref sa), y3, y4, some (.str wd), some (.ref tx), y7, y8, none, none, none, none, none, none, none, none, none] ∧ Has F20 [(rl, .lst rvs), (c, .lst wc)] H') ⟨_, rfl, h21⟩ ?_ ?_ ?_
  · rintro i σ H' _ ⟨y8, rfl, h⟩
    exact h.get (List.Mem.head _)
  · rintro i v σ H' hv ⟨y8, rfl, h⟩
    obtain ⟨a, t, rfl, ha, ot⟩ := all4 v (List.mem_of_getElem? hv)
    walk_at "gg"
    refine ⟨a, t, rfl, h.same _ _ ha, fun z hz => ⟨by have := (ot.2 z hz).1; omega, (ot.2 z hz).2⟩, by have := ot.1; omega, fun H22 s22 => ?_⟩
    walk_at "gg"
    exact ⟨_, rfl, h.on s22⟩
  rintro σ H' ⟨y8, rfl, h⟩
  have h := h.drop
  clear h20 h21 all4 n21 n20 n18 n17
  walk_at "gg"
  -- the keys
  refine ⟨c, 10, F20, wc, rows, rfl, h, dqc, lr, by decide, by decide, fun H5 F21 wc rows st hb g h5 dqc lr _ _ => ?_⟩
  have fs := g.1 _ _ fs
  clear hb g h
  walk_at "gg"
  refine g_klst (by walk_at "sz") h5 (fun p1 H6 n6 h6 => ?_)
  walk_at "gg"
  refine ⟨c, 4, F21, wc, rows, rfl, h6.drop, dqc, lr, by decide, by decide, fun H7 F22 wc rows i hb g h7 dqc lr i0 i1 => ?_⟩
  have fs := g.1 _ _ fs
  have h := h6.grown (by walk_at "c") hb g h7.same (h7.get (List.Mem.head _))
  clear hb g h7
  refine g_ixV (h.get (List.Mem.head _)) i0 (by exact i1) (fun v hv => ?_)
  obtain ⟨step, rfl⟩ : ∃ step : Int, v = .int step := by
    have := List.mem_of_getElem? hv
    simp only [List.mem_cons, List.not_mem_nil, or_false] at this
    rcases this with rfl | rfl | rfl | rfl <;> exact ⟨_, rfl⟩
  have h := h.drop
  clear hv
  walk_at "gg"
  refine k_lcR1 (by decide) (by decide) h (fun i acc F' O' => ∃ ks : List Str, acc = ks.map V.str ∧ ks.length = i ∧ (∀ z ∈ ks, StrC z) ∧ F22 = F' ∧ [(c, HO.lst wc)] = O') ⟨[], rfl, rfl, by simp, rfl, rfl⟩ ?_ ?_
  · rintro i acc F' O' D H8 hi ⟨ks, rfl, rfl, okk, rfl, rfl⟩ hh
    have hi' : ks.length < 10 := hi
    walk_at "gg"
    refine g_mulI (.inr ⟨by omega, by omega⟩) ?_
    walk_at "gg"
    refine ⟨_, rfl, fun H9 s9 => ?_⟩
    refine k_turn (hh.on s9) (by rw [List.length_map]; omega) ⟨ks ++ [_], by rw [List.map_append]; rfl, by rw [List.length_append]; rfl, fun x hx => ?_, rfl, rfl⟩
    rcases List.mem_append.mp hx with hx | hx
    · exact okk x hx
    · rw [List.mem_singleton.mp hx]
      exact ⟨way_len _, way_ok _⟩
  rintro acc F' O' ka H8 ⟨ks, rfl, lks, okk, rfl, rfl⟩ h
  have lks : ks.length = 10 := lks
  walk_at "gg"
  -- the texts
  refine k_lcR1 (by decide) (by decide) h (fun i acc F' O' => (∀ v ∈ acc, RowOk F' v) ∧ acc.length = i ∧ Same F22 F' ∧ [(ka, HO.lst (ks.map V.str)), (c, HO.lst wc)] = O') ⟨by simp, rfl, Same.refl _, rfl⟩ ?_ ?_
  · rintro i acc F' O' D H9 hi ⟨oka, rfl, sF, rfl⟩ hh
    have hi' : acc.length < 10 := hi
    walk_at "gg"
    refine g_klstF (by walk_at "sz") hh (fun q1 H10 F10 n10 s10 f10 h10 => ?_)
    walk_at "gg"
    refine g_klstF (by walk_at "sz") h10 (fun q2 H11 F11 n11 s11 f11 h11 => ?_)
    walk_at "gg"
    refine g_klstF (by walk_at "sz") h11 (fun q3 H12 F12 n12 s12 f12 h12 => ?_)
    walk_at "gg"
    refine g_klstF (by walk_at "sz") h12 (fun q4 H13 F13 n13 s13 f13 h13 => ?_)
    have c1 : RowOk F13 (.ref q1) := ⟨q1, ["a"], rfl, (s11.trans (s12.trans s13)) _ _ f10, by decide, fun z hz => by rw [List.mem_singleton.mp hz]; exact ⟨by decide, by decide +kernel⟩⟩
    have c2 : RowOk F13 (.ref q2) := ⟨q2, [], rfl, (s12.trans s13) _ _ f11, by decide, fun z hz => by cases hz⟩
    have c3 : RowOk F13 (.ref q3) := ⟨q3, ["b", ""], rfl, s13 _ _ f12, by decide, fun z hz => by
      simp only [List.mem_cons, List.not_mem_nil, or_false] at hz
      rcases hz with rfl | rfl
      · exact ⟨by decide, by decide +kernel⟩
      · exact ⟨by decide, by decide +kernel⟩⟩
    walk_at "gg"
    refine g_rI (by show (0 : Int) < 3; decide) ?_
    refine g_ixV (h13.same _ _ f13) (Int.emod_nonneg _ (by decide)) (by exact Int.emod_lt_of_pos _ (by decide)) (fun v hv => ?_)
    have ov : RowOk F13 v := by
      have := List.mem_of_getElem? hv
      simp only [List.mem_cons, List.not_mem_nil, or_false] at this
      rcases this with rfl | rfl | rfl
      · exact c1
      · exact c2
      · exact c3
    have sA := s10.trans (s11.trans (s12.trans s13))
    refine k_turn h13 (by omega) ⟨fun x hx => ?_, by rw [List.length_append]; rfl, sF.trans sA, rfl⟩
    rcases List.mem_append.mp hx with hx | hx
    · exact (oka x hx).up sA
    · rw [List.mem_singleton.mp hx]
      exact ov
  rintro txs F23 O' ta H9 ⟨okt', ltx, sF, rfl⟩ h
  have ltx : txs.length = 10 := ltx
  have fs := sF _ _ fs
  have dqc := dqc.up sF _ _
  clear sF okt ltt
  walk_at "gg"
  have s23 : Same F23 F23 := Same.refl _
  refine k_forR1 (fun t σ H' => ∃ (y3 y7 : Option V) (ks : List Str) (F : Hp) (wc : List V) (rows : List (Int × Int)), σ = [some (.ref sc), some (.ref c), some (.ref sa), y3, y4, some (.str wd), some (.ref tx), y7, y8, some (.int st), some (.int step), some (.ref ka), some (.ref ta), none, none, none, none, none] ∧ Has F [(ta, .lst txs), (ka, .lst (ks.map V.str)), (c, .lst wc)] H' ∧ Same F23 F ∧ DqAll F wc (rows.map cellD) ∧ rows.length ≤ 100 ∧ ks.length = 10 ∧ ∀ z ∈ ks, StrC z) (by decide) (by decide) ⟨_, _, ks, F23, wc, rows, rfl, h, s23, dqc, lr, lks, okk⟩ ?_ ?_
  · rintro t σ H16 ht ⟨y3, y7, ks, F, wc, rows, rfl, h, sF, dqc, lr, lks, okk⟩
    walk_at "gg"
    refine ⟨c, 11, F, wc, rows, rfl, h.drop.drop, dqc, lr, by decide, by decide, fun H5 F5 wc rows r hb g h5 dqc lr r0 r1 => ?_⟩
    have h := h.grown (by walk_at "c") hb g h5.same (h5.get (List.Mem.head _))
    have sF := sF.trans g.1
    clear hb g h5
    walk_at "gg"
    refine i_d (fun e => ?_) (fun e => ?_)
    · walk_at "gg"
      refine ⟨c, 8, F5, wc, rows, rfl, h.drop.drop, dqc, lr, by decide, by decide, fun H6 F6 wc rows i hb g h5 dqc lr i0 i1 => ?_⟩
      have h := h.grown (by walk_at "c") hb g h5.same (h5.get (List.Mem.head _))
      have sF := sF.trans g.1
      clear hb g h5
      walk_at "gg"
      refine g_ixZ (xs := ss) (h.same _ _ (sF _ _ fs)) i0 (by rw [lss7]; exact i1) (fun z hz => ?_)
      obtain ⟨j, rfl⟩ : ∃ j : Nat, r = (j : Nat) + 1 := ⟨(r - 1).toNat, by omega⟩
      have ej : ((j : Nat) : Int) + 1 - 1 = (j : Nat) := by omega
      walk_at "gg"
      rw [ej]
      refine g_stL (j := j) h (.tl .hd) (ixN_nat (by omega) (by rw [List.length_map]; omega)) (fun H7 h7 => ?_)
      walk_at "gg"
      refine ⟨_, _, ks.set j z, F6, wc, rows, rfl, ?_, sF, dqc, lr, by rw [List.length_set]; exact lks, fun x hx => ?_⟩
      · rw [List.map_set]
        exact h7
      · rcases List.mem_or_eq_of_mem_set hx with hx | rfl
        · exact okk x hx
        · exact oks7 _ (List.mem_of_getElem? hz)
    · walk_at "gg"
      exact ⟨_, _, ks, F5, wc, rows, rfl, h, sF, dqc, lr, lks, okk⟩
  rintro σ H16 ⟨y3, y7, ks, F, wc, rows, rfl, h, sF, dqc, lr, lks, okk⟩
  have fs := sF _ _ fs
  have okt : ∀ v ∈ txs, RowOk F v := fun v hv => (okt' v hv).up sF
  clear sF okt'
  walk_at "gg"
  refine ⟨c, 11, F, wc, rows, rfl, h.drop.drop, dqc, lr, by decide, by decide, fun H5 F1 wc rows pl hb g h5 dqc lr p0 p1 => ?_⟩
  have h := h.grown (by walk_at "c") hb g h5.same (h5.get (List.Mem.head _))
  have fs := g.1 _ _ fs
  have okt : ∀ v ∈ txs, RowOk F1 v := fun v hv => (okt v hv).up g.1
  clear hb g h5
  walk_at "gg"
  refine g_klst (by walk_at "sz") h (fun a1 H17 n17 h17 => ?_)
  walk_at "gg"
  refine g_mulL (h17.get (List.Mem.head _)) (by decide) (by decide) (sz (by show 1 * _ ≤ _; decide)) h17 (fun o1 H18 n18 h18 => ?_)
  rw [rp_str] at h18
  walk_at "gg"
  refine g_klst (by walk_at "sz") h18 (fun a2 H19 n19 h19 => ?_)
  walk_at "gg"
  refine g_mulL (h19.get (List.Mem.head _)) (by decide) (by decide) (sz (by show 1 * _ ≤ _; decide)) h19 (fun o2 H20 n20 h20 => ?_)
  rw [rp_str] at h20
  have h20 := h20.sub (O' := [(o2, .lst ((rp "b" (41 : Int).toNat).map V.str)), (o1, .lst ((rp "a" (40 : Int).toNat).map V.str)), (ta, .lst txs), (ka, .lst (ks.map V.str)), (c, .lst wc)]) (by walk_at "sub")
  have rpOk : ∀ (z : Str) (n : Nat), n ≤ 42 → z.length ≤ 100 → PyData.strOk z = true → TxC (rp z n) := fun z n hn lz oz => ⟨by rw [rp_len]; exact hn, fun x hx => by rw [(List.mem_replicate.mp hx).2]; exact ⟨lz, oz⟩⟩
  have e2 : RowOk (upd F1 o2 (.lst ((rp "b" (41 : Int).toNat).map V.str))) (.ref o2) := ⟨o2, _, rfl, upd_same, rpOk _ _ (by decide) (by decide) (by decide +kernel)⟩
  have sG := h20.grow
  have fs := sG _ _ fs
  have dqc := dqc.up sG _ _
  have okt : ∀ v ∈ txs, RowOk _ v := fun v hv => (okt v hv).up sG
  have h := h20.frz
  generalize upd F1 o2 (.lst ((rp "b" (41 : Int).toNat).map V.str)) = F2 at h e2 fs dqc okt
  have e1 : RowOk (upd F2 o1 (.lst ((rp "a" (40 : Int).toNat).map V.str))) (.ref o1) := ⟨o1, _, rfl, upd_same, rpOk _ _ (by decide) (by decide) (by decide +kernel)⟩
  have sG := h.grow
  have fs := sG _ _ fs
  have dqc := dqc.up sG _ _
  have e2 := e2.up sG
  have okt : ∀ v ∈ txs, RowOk _ v := fun v hv => (okt v hv).up sG
  have h := h.frz
  generalize upd F2 o1 (.lst ((rp "a" (40 : Int).toNat).map V.str)) = F3 at h e1 e2 fs dqc okt
  clear h17 h18 h19 h20
  walk_at "gg"
  refine ⟨c, 8, F3, wc, rows, rfl, h.drop.drop, dqc, lr, by decide, by decide, fun H6 F4 wc rows i hb g h5 dqc lr i0 i1 => ?_⟩
  have h := h.grown (by walk_at "c") hb g h5.same (h5.get (List.Mem.head _))
  have fs := g.1 _ _ fs
  have e1 := e1.up g.1
  have e2 := e2.up g.1
  have okt : ∀ v ∈ txs, RowOk F4 v := fun v hv => (okt v hv).up g.1
  clear hb g h5
  walk_at "gg"
  refine g_ixZ (xs := ss) (h.same _ _ fs) i0 (by rw [lss7]; exact i1) (fun z hz => ?_)
  have oz := oks7 _ (List.mem_of_getElem? hz)
  walk_at "gg"
  refine g_klstF (by walk_at "sz") h (fun o3 H7 F5 n7 s7 f7 h7 => ?_)
  have e3 : RowOk F5 (.ref o3) := ⟨o3, ["a", z], rfl, f7, by show 2 ≤ 42; decide, fun x hx => by
    simp only [List.mem_cons, List.not_mem_nil, or_false] at hx
    rcases hx with rfl | rfl
    · exact ⟨by decide, by decide +kernel⟩
    · exact oz⟩
  have e1 := e1.up s7
  have e2 := e2.up s7
  have dqc := dqc.up s7 _ _
  have okt : ∀ v ∈ txs, RowOk F5 v := fun v hv => (okt v hv).up s7
  walk_at "gg"
  refine g_klstF (by walk_at "sz") h7 (fun od H8 F6 n8 s8 f8 h8 => ?_)
  have all3 : ∀ v ∈ [V.ref o1, V.ref o2, V.ref o3], RowOk F6 v := fun v hv => by
    simp only [List.mem_cons, List.not_mem_nil, or_false] at hv
    rcases hv with rfl | rfl | rfl
    · exact e1.up s8
    · exact e2.up s8
    · exact e3.up s8
  have dqc := dqc.up s8 _ _
  have okt : ∀ v ∈ txs, RowOk F6 v := fun v hv => (okt v hv).up s8
  clear e1 e2 e3 s7 f7 h7 h fs
  walk_at "g"
  walk_at "g"
  refine g_joinD (fun σ' H' => ∃ (txs : List V) (F : Hp) (wc : List V) (rows : List (Int × Int)), σ' = [some (.ref sc), some (.ref c), some (.ref sa), y3, y4, some (.str wd), some (.ref tx), some (.int pl), y8, some (.int st), some (.int step), some (.ref ka), some (.ref ta), some (.ref od), none, none, none, none] ∧ Has F [(ta, .lst txs), (ka, .lst (ks.map V.str)), (c, .lst wc)] H' ∧ DqAll F wc (rows.map cellD) ∧ rows.length ≤ 100 ∧ txs.length = 10 ∧ ∀ v ∈ txs, RowOk F v) ?_ (fun nx key => ?_)
  rotate_left
  · walk_at "gg"
    refine i_d (fun e => ?_) (fun e => ?_)
    · walk_at "gg"
      refine ⟨c, 3, F6, wc, rows, rfl, h8.drop.drop, dqc, lr, by decide, by decide, fun H9 F7 wc rows i hb g h5 dqc lr i0 i1 => ?_⟩
      have h := h8.grown (by walk_at "c") hb g h5.same (h5.get (List.Mem.head _))
      have s7 := g.1
      clear hb g h5
      refine g_ixV (h.same _ _ (s7 _ _ f8)) i0 (by exact i1) (fun v hv => ?_)
      have ov := (all3 v (List.mem_of_getElem? hv)).up s7
      obtain ⟨j, rfl⟩ : ∃ j : Nat, pl = (j : Nat) + 1 := ⟨(pl - 1).toNat, by omega⟩
      have ej : ((j : Nat) : Int) + 1 - 1 = (j : Nat) := by omega
      walk_at "gg"
      rw [ej]
      refine g_stL (j := j) h .hd (ixN_nat (by omega) (by omega)) (fun H7 h7 => ?_)
      refine key _ _ ⟨txs.set j v, F7, wc, rows, rfl, h7, dqc, lr, by rw [List.length_set]; exact ltx, fun x hx => ?_⟩
      rcases List.mem_or_eq_of_mem_set hx with hx | rfl
      · exact (okt x hx).up s7
      · exact ov
    · walk_at "gg"
      exact key _ _ ⟨txs, F6, wc, rows, rfl, h8, dqc, lr, ltx, okt⟩
  clear all3 f8 h8 okt ltx dqc lr
  rintro σ' H' ⟨txs, F, wc, rows, rfl, h, dqc, lr, ltx, okt⟩
  walk_at "gg"
  refine ⟨c, 11, F, wc, rows, rfl, h.drop.drop, dqc, lr, by decide, by decide, fun H9 F7 wc rows m hb g h5 dqc lr m0 m1 => ?_⟩
  have h := h.grown (by walk_at "c") hb g h5.same (h5.get (List.Mem.head _))
  have okt : ∀ v ∈ txs, RowOk F7 v := fun v hv => (okt v hv).up g.1
  clear hb g h5
  have sG := h.grow
  have ft : upd F7 ta (.lst txs) ta = some (.lst txs) := upd_same
  have okt : ∀ v ∈ txs, RowOk _ v := fun v hv => (okt v hv).up sG
  have h := h.frz
  generalize upd F7 ta (.lst txs) = F8 at h ft okt
  have sG := h.grow
  have fk : upd F8 ka (.lst (ks.map V.str)) ka = some (.lst (ks.map V.str)) := upd_same
  have ft := sG _ _ ft
  have okt : ∀ v ∈ txs, RowOk _ v := fun v hv => (okt v hv).up sG
  have h := h.frz
  generalize upd F8 ka (.lst (ks.map V.str)) = F9 at h ft fk okt
  walk_at "gg"
  refine g_klstF (by walk_at "sz") h (fun ml H10 F10 n10 s10 f10 h10 => ?_)
  have ft := s10 _ _ ft
  have fk := s10 _ _ fk
  have okt : ∀ v ∈ txs, RowOk F10 v := fun v hv => (okt v hv).up s10
  have many4 : ∀ v ∈ [V.int 8, V.int 9, V.int 10, V.int m], ∃ n : Nat, v = .int n ∧ n ≤ 10 := fun v hv => by
    simp only [List.mem_cons, List.not_mem_nil, or_false] at hv
    rcases hv with rfl | rfl | rfl | rfl
    · exact ⟨8, rfl, by omega⟩
    · exact ⟨9, rfl, by omega⟩
    · exact ⟨10, rfl, by omega⟩
    · obtain ⟨n, rfl⟩ := Int.eq_ofNat_of_zero_le m0
      exact ⟨n, rfl, by omega⟩
  have f10' := h10.same _ _ f10
  generalize [V.int 8, V.int 9, V.int 10, V.int m] = mvs at f10 f10' many4
  refine k_forL f10' (fun i σ H' => ∃ y3 y14 y15 : Option V, σ = [some (.ref sc), some (.ref c), some (.ref sa), y3, y4, some (.str wd), some (.ref tx), some (.int pl), y8, some (.int st), some (.int step), some (.ref ka), some (.ref ta), some (.ref od), y14, y15, none, none] ∧ Same F10 H') ⟨_, _, _, rfl, h10.same⟩ ?_ ?_ ?_
  · rintro i σ H' _ ⟨y3, y14, y15, rfl, s⟩
    exact s _ _ f10
  · rintro i v σ H11 hv ⟨y3, y14, y15, rfl, s11⟩
    obtain ⟨n, rfl, ln⟩ := many4 v (List.mem_of_getElem? hv)
    walk_at "gg"
    refine g_dnewK (Has.start H11) (fun d H12 n12 h12 => ?_)
    walk_at "gg"
    refine k_forR1 (fun t σ H' => ∃ (y3 : Option V) (B : Bt), σ = [some (.ref sc), some (.ref c), some (.ref sa), y3, y4, some (.str wd), some (.ref tx), some (.int pl), y8, some (.int st), some (.int step), some (.ref ka), some (.ref ta), some (.ref od), some (.int (n : Nat)), some (.ref d), none, none] ∧ Has H11 ((d, .dK (bK B)) :: (bO B ++ [])) H' ∧ (B.map (·.1)).Nodup ∧ B.length ≤ t ∧ ∀ b ∈ B, StrC b.1 ∧ TxC b.2.2) (by omega) (by omega) ⟨_, [], rfl, Has.b0 h12, by simp, Nat.le_refl _, by simp⟩ ?_ ?_
    · rintro t σ H13 ht ⟨y3, B, rfl, h13, nB, lB, okB⟩
      have ht : t < n := by omega
      have ek : ks[t]? = some (ks[t]'(by omega)) := List.getElem?_eq_getElem (by omega)
      generalize ks[t]'(by omega) = z at ek
      have et : txs[t]? = some (txs[t]'(by omega)) := List.getElem?_eq_getElem (by omega)
      have ot := okt _ (List.mem_of_getElem? et)
      generalize txs[t]'(by omega) = v at et ot
      obtain ⟨a, x, rfl, ha, ox⟩ := ot
      have oz := okk z (List.mem_of_getElem? ek)
      walk_at "gg"
      have s13 := s11.trans h13.same
      refine g_ixL (v := .ref a) (s13 _ _ ft) (atI_nat et) ?_
      walk_at "gg"
      refine g_listL (s13 _ _ ha) h13 (fun p H14 n14 h14 => ?_)
      walk_at "gg"
      refine g_ixL (v := .str z) (h14.same _ _ (s11 _ _ fk)) (atI_nat (by rw [List.getElem?_map, ek]; rfl)) ?_
      refine g_stD (k := .inr z) rfl h14 (.tl .hd) (szl (by unfold bK; rw [List.length_map]; omega)) (fun H15 h15 => ?_)
      walk_at "gg"
      by_cases old : z ∈ B.map (·.1)
      · obtain ⟨b', hb', eb'⟩ := List.mem_map.mp old
        obtain ⟨j, hj⟩ := List.mem_iff_getElem?.mp hb'
        have er : putK (bK B) (.inr z) (V.ref p) = bK (B.set j (b'.1, p, x)) := by
          rw [← eb']
          exact putK_rep nB hj
        rw [er] at h15
        have ek : (B.set j (b'.1, p, x)).map (·.1) = B.map (·.1) := by
          rw [List.map_set]
          refine List.ext_getElem? fun i => ?_
          rw [List.getElem?_set]
          split
          · rename_i e
            subst e
            split
            · rw [List.getElem?_map, hj]
              rfl
            · rename_i e
              rw [List.length_map] at e
              exact (e (List.getElem?_eq_some_iff.mp hj).1).elim
          · rfl
        refine ⟨_, _, rfl, Has.brep (x := x) hj h15, by rw [ek]; exact nB, by rw [List.length_set]; omega, fun r hr => ?_⟩
        rcases List.mem_or_eq_of_mem_set hr with hr | rfl
        · exact okB r hr
        · exact ⟨by rw [eb']; exact oz, ox⟩
      · rw [putK_new _ (bK_none old)] at h15
        refine ⟨_, _, rfl, Has.bput (t := x) h15, ?_, by rw [List.length_append]; show _ + 1 ≤ _; omega, fun r hr => ?_⟩
        · rw [List.map_append, List.nodup_append]
          refine ⟨nB, by simp, fun a ha b hb e => old ?_⟩
          have eb : b = z := by simpa using hb
          rw [← eb, ← e]
          exact ha
        · rcases List.mem_append.mp hr with hr | hr
          · exact okB r hr
          · rw [List.mem_singleton.mp hr]
            exact ⟨oz, ox⟩
    rintro σ H13 ⟨y3, B, rfl, h13, nB, lB, okB⟩
    have lB : B.length ≤ n := lB
    rw [List.append_nil] at h13
    have tB : TrAt H13 d (bA B) := tr_in h13 (fun p hp => hp) nB
    have okA : ∀ p ∈ bA B, StrC p.1 ∧ TxC p.2 := fun p hp => by
      obtain ⟨b, hb, rfl⟩ := List.mem_map.mp hp
      exact okB b hb
    have lA : (bA B).length ≤ 10 := by
      unfold bA
      rw [List.length_map]
      omega
    have s13 := s11.trans h13.same
    generalize bA B = A at tB okA lA
    have trb : TrB A := ⟨by omega, fun p hp => ⟨by have := (okA p hp).1.1; omega, by have := (okA p hp).2.1; omega, fun z hz => by have := ((okA p hp).2.2 z hz).1; omega⟩⟩
    have oka : okTr A := fun p hp => ⟨(okA p hp).1.2, fun z hz => ((okA p hp).2.2 z hz).2⟩
    walk_at "gg"
    refine ⟨d, A, rfl, tB, trb, oka, fun H14 s14 => ?_⟩
    walk_at "gg"
    refine ⟨d, A, rfl, tB.up s14, trb, oka, fun H15 s15 => ?_⟩
    walk_at "gg"
    exact ⟨_, _, _, rfl, (s13.trans s14).trans s15⟩
  rintro σ H' ⟨y3, y14, y15, rfl, s⟩
  walk_at "gg"
  exact q H'
end

end K11

namespace K11
open PySem PySem.Spec PyProof.Rows L2 Qk
local macro_rules | `(tactic| walk_at "m") => `(tactic| ((repeat (first | exact List.Mem.head _ | apply List.Mem.tail)); done))
local macro_rules | `(tactic| walk_at "h") => `(tactic| first | assumption | exact Has.gF (by assumption) (by assumption) | exact Has.get (by assumption) (by walk_at "m"))
local macro_rules | `(tactic| walk_at "c") => `(tactic| ((repeat (first | exact Chg.hd | apply Chg.tl)); done))
local macro_rules | `(tactic| walk_at "is") => `(tactic| first
  | ((with_reducible refine' is2_non ?gh ?_); (case gh => walk_at "h"))
  | (with_reducible refine is_int_list ?_)
  | (with_reducible refine is_int_tuple ?_)
  | (with_reducible refine is_int_dict ?_)
  | (with_reducible refine is_int_int ?_)
  | (with_reducible refine is_int_bool ?_)
  | (with_reducible refine is_int_str ?_)
  | ((with_reducible refine' is2_int ?gh ?_); (case gh => walk_at "h"))
  | (with_reducible refine is_str_list ?_)
  | (with_reducible refine is_str_tuple ?_)
  | (with_reducible refine is_str_dict ?_)
  | (with_reducible refine is_str_int ?_)
  | (with_reducible refine is_str_bool ?_)
  | (with_reducible refine is_str_str ?_)
  | ((with_reducible refine' is2_str ?gh ?_); (case gh => walk_at "h"))
  | (with_reducible refine is_bool_list ?_)
  | (with_reducible refine is_bool_tuple ?_)
  | (with_reducible refine is_bool_dict ?_)
  | (with_reducible refine is_bool_int ?_)
  | (with_reducible refine is_bool_bool ?_)
  | (with_reducible refine is_bool_str ?_)
  | ((with_reducible refine' is2_bool ?gh ?_); (case gh => walk_at "h"))
  | ((with_reducible refine' is_list_list ?gh ?_); (case gh => walk_at "h"))
  | ((with_reducible refine' is_list_tuple ?gh ?_); (case gh => walk_at "h"))
  | ((with_reducible refine' is_list_dict ?gh ?_); (case gh => walk_at "h"))
  | ((with_reducible refine' is_list_int ?gh ?_); (case gh => walk_at "h"))
  | ((with_reducible refine' is_list_bool ?gh ?_); (case gh => walk_at "h"))
  | ((with_reducible refine' is_list_str ?gh ?_); (case gh => walk_at "h"))
  | ((with_reducible refine' is2_list ?ga ?gb ?_); (case ga => walk_at "h"); (case gb => walk_at "h"))
  | ((with_reducible refine' is_tuple_list ?gh ?_); (case gh => walk_at "h"))
  | ((with_reducible refine' is_tuple_tuple ?gh ?_); (case gh => walk_at "h"))
  | ((with_reducible refine' is_tuple_dict ?gh ?_); (case gh => walk_at "h"))
  | ((with_reducible refine' is_tuple_int ?gh ?_); (case gh => walk_at "h"))
  | ((with_reducible refine' is_tuple_bool ?gh ?_); (case gh => walk_at "h"))
  | ((with_reducible refine' is_tuple_str ?gh ?_); (case gh => walk_at "h"))
  | ((with_reducible refine' is2_tuple ?ga ?gb ?_); (case ga => walk_at "h"); (case gb => walk_at "h"))
  | ((with_reducible refine' is_dict_list ?gh ?_); (case gh => walk_at "h"))
  | ((with_reducible refine' is_dict_tuple ?gh ?_); (case gh => walk_at "h"))
  | ((with_reducible refine' is_dict_dict ?gh ?_); (case gh => walk_at "h"))
  | ((with_reducible refine' is_dict_int ?gh ?_); (case gh => walk_at "h"))
  | ((with_reducible refine' is_dict_bool ?gh ?_); (case gh => walk_at "h"))
  | ((with_reducible refine' is_dict_str ?gh ?_); (case gh => walk_at "h"))
  | ((with_reducible refine' is2_dict ?ga ?gb ?_); (case ga => walk_at "h"); (case gb => walk_at "h")))
local macro_rules | `(tactic| walk_at "g") => `(tactic| first
  | (with_reducible refine g_seq ?_)
  | (with_reducible refine g_asg ?_)
  | ((with_reducible refine g_name ?_); dsimp only [List.set, wipe, List.map])
  | ((with_reducible refine' g_var ?gv ?_); (case gv => exact rfl))
  | (with_reducible refine g_c ?_)
  | (with_reducible refine g_op ?_)
  | (with_reducible refine g_cons ?_)
  | (with_reducible refine g_nil ?_)
  | (with_reducible refine g_cb ?_)
  | (with_reducible refine g_call ?_)
  | (with_reducible refine g_tup ?_)
  | (with_reducible refine g_lst ?_)
  | (with_reducible refine g_bm ?_)
  | (with_reducible refine g_bm0 ?_)
  | ((with_reducible refine' g_kbm ?gh ?_); (case gh => walk_at "h"))
  | (with_reducible refine g_drop ?_)
  | (with_reducible refine g_ret ?_)
  | (with_reducible refine g_retN ?_)
  | (with_reducible refine g_next ?_)
  | (with_reducible refine g_brk ?_)
  | (with_reducible refine g_cont ?_)
  | (with_reducible refine g_if ?_)
  | ((with_reducible refine' g_aug ?gv ?_); (case gv => exact rfl))
  | (with_reducible refine g_ipI ?_)
  | (with_reducible refine g_test ?_)
  | (with_reducible refine g_tB ?_)
  | (with_reducible refine g_kB ?_)
  | (with_reducible refine g_not ?_)
  | (with_reducible refine g_and ?_)
  | (with_reducible refine g_or ?_)
  | (with_reducible refine g_andV ?_)
  | (with_reducible refine g_orV ?_)
  | (with_reducible refine g_notV ?_)
  | (with_reducible refine g_ifE ?_)
  | (with_reducible refine g_addI ?_)
  | (with_reducible refine g_rI0 ?_)
  | (with_reducible refine g_eqI ?_)
  | (with_reducible refine g_eqS ?_)
  | (with_reducible refine g_neI ?_)
  | (with_reducible refine g_neS ?_)
  | (with_reducible refine g_isN ?_)
  | (with_reducible refine g_notN ?_)
  | (with_reducible refine g_int ?_)
  | (with_reducible refine g_max2 ?_)
  | (with_reducible refine g_min2 ?_)
  | ((with_reducible refine' g_lenL ?gh ?_); (case gh => walk_at "h"))
  | (with_reducible refine g_sub ?_)
  | (with_reducible refine g_gcons ?_)
  | (with_reducible refine g_gnil ?_)
  | (with_reducible refine g_un ?_)
  | (with_reducible refine g_rU ?_)
  | (with_reducible refine g_forL ?_)
  | (with_reducible refine g_forS ?_)
  | (with_reducible refine g_forR1 ?_)
  | (with_reducible refine g_forR2 ?_)
  | (with_reducible refine g_forR3 ?_)
  | (with_reducible refine g_lcL ?_)
  | (with_reducible refine g_lcR1 ?_)
  | (with_reducible refine g_lcR2 ?_)
  | (with_reducible refine g_slice ?_)
  | (with_reducible refine g_part ?_)
  | (with_reducible refine g_kOI ?_)
  | (with_reducible refine g_nopart ?_)
  | (with_reducible refine g_yes ?_)
  | ((with_reducible refine' g_wipe ?gv ?_); (case gv => exact rfl))
  | (with_reducible refine iteT ?_)
  | (with_reducible refine iteF ?_)
  | (with_reducible refine i_nf ?_)
  | (with_reducible refine i_nt ?_)
  | ((with_reducible refine' g_gtup ?gh ?gl ?_); (case gh => walk_at "h"); (case gl => exact rfl))
  | ((with_reducible refine' g_notinI ?gh ?_); (case gh => walk_at "h"))
  | ((with_reducible refine' g_inI ?gh ?_); (case gh => walk_at "h"))
  | ((with_reducible refine' g_kget2 ?gh ?_); (case gh => walk_at "h"))
  | ((with_reducible refine' g_kgotI ?gh ?_); (case gh => walk_at "h"))
  | (with_reducible refine g_tRev ?_)
  | (with_reducible refine g_neB ?_)
  | (with_reducible refine g_eqB ?_)
  | ((with_reducible refine' g_lenT ?gh ?_); (case gh => walk_at "h"))
  | (with_reducible refine g_star ?_)
  | ((with_reducible refine' g_kstarL ?gh ?_); (case gh => walk_at "h"))
  | ((with_reducible refine' g_kstarT ?gh ?_); (case gh => walk_at "h"))
  | (with_reducible refine g_tru ?_)
  | ((with_reducible refine' g_truL ?gh ?_); (case gh => walk_at "h"))
  | (with_reducible refine g_get2 ?_)
  | (with_reducible refine g_try ?_)
  | (with_reducible refine g_fld ?_)
  | (with_reducible refine g_sfld ?_)
  | (with_reducible refine g_meth ?_)
  | (with_reducible refine g_make ?_)
  | (with_reducible refine g_del ?_)
  | (with_reducible refine g_callS ?_)
  | (with_reducible refine g_raise ?_)
  | (with_reducible refine g_xf ?_)
  | (with_reducible refine g_m0 ?_)
  | (with_reducible refine g_km0 ?_)
  | walk_at "is")
local macro_rules | `(tactic| walk_at "gg") => `(tactic| repeat walk_at "g")
local macro_rules | `(tactic| walk_at "sz") => `(tactic| (refine sz ?_; simp only [List.length_cons, List.length_nil, List.length_map, List.length_append, List.length_replicate]; omega))
local macro_rules | `(tactic| walk_at "sub") => `(tactic| ((repeat (first | exact List.Sublist.slnil | with_reducible apply List.Sublist.cons_cons | with_reducible apply List.Sublist.cons)); done))

set_option maxHeartbeats 4000000
theorem all_mk {l : PySem.W.OpenLaw} {w : World} {K : PySem.W.Frag} {h : Heap} {mg : Str → Option Value} {fa f1 f2 f3 f4 f5 f6 f7 f8 f9 f10 f11 f12 f13 f14 f15 f16 f17 f18 f19 f20 f21 f22 f23 f24 f25 f26 f27 f28 f29 c_PartError c_BadText c_BadTree fi_BadText fi_BadTree : Addr} (X : K.In h) (G : h.Ns mainGlobals mg) (hfa : mg "law" = some (.ref fa))
    {od1 an1 od2 an2 od3 an3 od4 an4 od5 an5 od6 an6 od7 an7 od8 an8 od9 an9 od10 an10 od11 an11 od12 an12 od13 an13 od14 an14 od15 an15 od16 an16 od17 an17 od18 an18 od19 an19 od20 an20 od21 an21 od22 an22 od23 an23 od24 an24 od25 an25 od26 an26 od27 an27 od28 an28 od29 an29 : Option Addr} {sl1 sl2 sl3 sl4 sl5 sl6 sl7 sl8 sl9 sl10 sl11 sl12 sl13 sl14 sl15 sl16 sl17 sl18 sl19 sl20 sl21 sl22 sl23 sl24 sl25 sl26 sl27 sl28 sl29 : Array (Option Value)} {oc1 kV1 dc1 pm1 cd1 ct1 oc2 kV2 dc2 pm2 cd2 ct2 oc3 kV3 dc3 pm3 cd3 ct3 oc4 kV4 dc4 pm4 cd4 ct4 oc5 kV5 dc5 pm5 cd5 ct5 oc6 kV6 dc6 pm6 cd6 ct6 oc7 kV7 dc7 pm7 cd7 ct7 oc8 kV8 dc8 pm8 cd8 ct8 oc9 kV9 dc9 pm9 cd9 ct9 oc10 kV10 dc10 pm10 cd10 ct10 oc11 kV11 dc11 pm11 cd11 ct11 oc12 kV12 dc12 pm12 cd12 ct12 oc13 kV13 dc13 pm13 cd13 ct13 oc14 kV14 dc14 pm14 cd14 ct14 oc15 kV15 dc15 pm15 cd15 ct15 oc16 kV16 dc16 pm16 cd16 ct16 oc17 kV17 dc17 pm17 cd17 ct17 oc18 kV18 dc18 pm18 cd18 ct18 oc19 kV19 dc19 pm19 cd19 ct19 oc20 kV20 dc20 pm20 cd20 ct20 oc21 kV21 dc21 pm21 cd21 ct21 oc22 kV22 dc22 pm22 cd22 ct22 oc23 kV23 dc23 pm23 cd23 ct23 oc24 kV24 dc24 pm24 cd24 ct24 oc25 kV25 dc25 pm25 cd25 ct25 oc26 kV26 dc26 pm26 cd26 ct26 oc27 kV27 dc27 pm27 cd27 ct27 oc28 kV28 dc28 pm28 cd28 ct28 oc29 kV29 dc29 pm29 cd29 ct29 : Value}
    (a1 : PySem.W.nsIn K mainGlobals "is_line" = some (some (.ref f1))) (l1 : K.lookup f1 = some ⟨oc1, od1, .func (PySem.W.fnOf "is_line" "is_line" (defArgs s_is_line) (defBody s_is_line) (defScope s_is_line) .none kV1 dc1 pm1 an1 cd1 ct1), sl1⟩) (c1 : PySem.W.codeIn K cd1 "is_line" = true) (k1 : PySem.W.keepIn K (.ref f1) = true)
    (a2 : PySem.W.nsIn K mainGlobals "checked_text" = some (some (.ref f2))) (l2 : K.lookup f2 = some ⟨oc2, od2, .func (PySem.W.fnOf "checked_text" "checked_text" (defArgs s_checked_text) (defBody s_checked_text) (defScope s_checked_text) .none kV2 dc2 pm2 an2 cd2 ct2), sl2⟩) (c2 : PySem.W.codeIn K cd2 "checked_text" = true) (k2 : PySem.W.keepIn K (.ref f2) = true)
    (a3 : PySem.W.nsIn K mainGlobals "_is_word" = some (some (.ref f3))) (l3 : K.lookup f3 = some ⟨oc3, od3, .func (PySem.W.fnOf "_is_word" "_is_word" (defArgs s_is_word) (defBody s_is_word) (defScope s_is_word) .none kV3 dc3 pm3 an3 cd3 ct3), sl3⟩) (c3 : PySem.W.codeIn K cd3 "_is_word" = true) (k3 : PySem.W.keepIn K (.ref f3) = true)
    (a4 : PySem.W.nsIn K mainGlobals "is_path" = some (some (.ref f4))) (l4 : K.lookup f4 = some ⟨oc4, od4, .func (PySem.W.fnOf "is_path" "is_path" (defArgs s_is_path) (defBody s_is_path) (defScope s_is_path) .none kV4 dc4 pm4 an4 cd4 ct4), sl4⟩) (c4 : PySem.W.codeIn K cd4 "is_path" = true) (k4 : PySem.W.keepIn K (.ref f4) = true)
    (a5 : PySem.W.nsIn K mainGlobals "below" = some (some (.ref f5))) (l5 : K.lookup f5 = some ⟨oc5, od5, .func (PySem.W.fnOf "below" "below" (defArgs s_below) (defBody s_below) (defScope s_below) .none kV5 dc5 pm5 an5 cd5 ct5), sl5⟩) (c5 : PySem.W.codeIn K cd5 "below" = true) (k5 : PySem.W.keepIn K (.ref f5) = true)
    (a6 : PySem.W.nsIn K mainGlobals "checked_tree" = some (some (.ref f6))) (l6 : K.lookup f6 = some ⟨oc6, od6, .func (PySem.W.fnOf "checked_tree" "checked_tree" (defArgs s_checked_tree) (defBody s_checked_tree) (defScope s_checked_tree) .none kV6 dc6 pm6 an6 cd6 ct6), sl6⟩) (c6 : PySem.W.codeIn K cd6 "checked_tree" = true) (k6 : PySem.W.keepIn K (.ref f6) = true)
    (a7 : PySem.W.nsIn K mainGlobals "files_of" = some (some (.ref f7))) (l7 : K.lookup f7 = some ⟨oc7, od7, .func (PySem.W.fnOf "files_of" "files_of" (defArgs s_files_of) (defBody s_files_of) (defScope s_files_of) .none kV7 dc7 pm7 an7 cd7 ct7), sl7⟩) (c7 : PySem.W.codeIn K cd7 "files_of" = true) (k7 : PySem.W.keepIn K (.ref f7) = true)
    (a8 : PySem.W.nsIn K mainGlobals "tree_of" = some (some (.ref f8))) (l8 : K.lookup f8 = some ⟨oc8, od8, .func (PySem.W.fnOf "tree_of" "tree_of" (defArgs s_tree_of) (defBody s_tree_of) (defScope s_tree_of) .none kV8 dc8 pm8 an8 cd8 ct8), sl8⟩) (c8 : PySem.W.codeIn K cd8 "tree_of" = true) (k8 : PySem.W.keepIn K (.ref f8) = true)
    (a9 : PySem.W.nsIn K mainGlobals "_law_feed" = some (some (.ref f9))) (l9 : K.lookup f9 = some ⟨oc9, od9, .func (PySem.W.fnOf "_law_feed" "_law_feed" (defArgs s_l_feed) (defBody s_l_feed) (defScope s_l_feed) .none kV9 dc9 pm9 an9 cd9 ct9), sl9⟩) (c9 : PySem.W.codeIn K cd9 "_law_feed" = true) (k9 : PySem.W.keepIn K (.ref f9) = true)
    (a10 : PySem.W.nsIn K mainGlobals "_law_next" = some (some (.ref f10))) (l10 : K.lookup f10 = some ⟨oc10, od10, .func (PySem.W.fnOf "_law_next" "_law_next" (defArgs s_l_next) (defBody s_l_next) (defScope s_l_next) .none kV10 dc10 pm10 an10 cd10 ct10), sl10⟩) (c10 : PySem.W.codeIn K cd10 "_law_next" = true) (k10 : PySem.W.keepIn K (.ref f10) = true)
    (a11 : PySem.W.nsIn K mainGlobals "_law_same" = some (some (.ref f11))) (l11 : K.lookup f11 = some ⟨oc11, od11, .func (PySem.W.fnOf "_law_same" "_law_same" (defArgs s_l_same) (defBody s_l_same) (defScope s_l_same) .none kV11 dc11 pm11 an11 cd11 ct11), sl11⟩) (c11 : PySem.W.codeIn K cd11 "_law_same" = true) (k11 : PySem.W.keepIn K (.ref f11) = true)
    (a12 : PySem.W.nsIn K mainGlobals "_law_way" = some (some (.ref f12))) (l12 : K.lookup f12 = some ⟨oc12, od12, .func (PySem.W.fnOf "_law_way" "_law_way" (defArgs s_l_way) (defBody s_l_way) (defScope s_l_way) .none kV12 dc12 pm12 an12 cd12 ct12), sl12⟩) (c12 : PySem.W.codeIn K cd12 "_law_way" = true) (k12 : PySem.W.keepIn K (.ref f12) = true)
    (a13 : PySem.W.nsIn K mainGlobals "_law_piece" = some (some (.ref f13))) (l13 : K.lookup f13 = some ⟨oc13, od13, .func (PySem.W.fnOf "_law_piece" "_law_piece" (defArgs s_l_piece) (defBody s_l_piece) (defScope s_l_piece) .none kV13 dc13 pm13 an13 cd13 ct13), sl13⟩) (c13 : PySem.W.codeIn K cd13 "_law_piece" = true) (k13 : PySem.W.keepIn K (.ref f13) = true)
    (a14 : PySem.W.nsIn K mainGlobals "_law_sign" = some (some (.ref f14))) (l14 : K.lookup f14 = some ⟨oc14, od14, .func (PySem.W.fnOf "_law_sign" "_law_sign" (defArgs s_l_sign) (defBody s_l_sign) (defScope s_l_sign) .none kV14 dc14 pm14 an14 cd14 ct14), sl14⟩) (c14 : PySem.W.codeIn K cd14 "_law_sign" = true) (k14 : PySem.W.keepIn K (.ref f14) = true)
    (a15 : PySem.W.nsIn K mainGlobals "_law_signs" = some (some (.ref f15))) (l15 : K.lookup f15 = some ⟨oc15, od15, .func (PySem.W.fnOf "_law_signs" "_law_signs" (defArgs s_l_signs) (defBody s_l_signs) (defScope s_l_signs) .none kV15 dc15 pm15 an15 cd15 ct15), sl15⟩) (c15 : PySem.W.codeIn K cd15 "_law_signs" = true) (k15 : PySem.W.keepIn K (.ref f15) = true)
    (a16 : PySem.W.nsIn K mainGlobals "_law_is_line" = some (some (.ref f16))) (l16 : K.lookup f16 = some ⟨oc16, od16, .func (PySem.W.fnOf "_law_is_line" "_law_is_line" (defArgs s_l_is_line) (defBody s_l_is_line) (defScope s_l_is_line) .none kV16 dc16 pm16 an16 cd16 ct16), sl16⟩) (c16 : PySem.W.codeIn K cd16 "_law_is_line" = true) (k16 : PySem.W.keepIn K (.ref f16) = true)
    (a17 : PySem.W.nsIn K mainGlobals "_law_is_way" = some (some (.ref f17))) (l17 : K.lookup f17 = some ⟨oc17, od17, .func (PySem.W.fnOf "_law_is_way" "_law_is_way" (defArgs s_l_is_way) (defBody s_l_is_way) (defScope s_l_is_way) .none kV17 dc17 pm17 an17 cd17 ct17), sl17⟩) (c17 : PySem.W.codeIn K cd17 "_law_is_way" = true) (k17 : PySem.W.keepIn K (.ref f17) = true)
    (a18 : PySem.W.nsIn K mainGlobals "_law_bad_line" = some (some (.ref f18))) (l18 : K.lookup f18 = some ⟨oc18, od18, .func (PySem.W.fnOf "_law_bad_line" "_law_bad_line" (defArgs s_l_bad_line) (defBody s_l_bad_line) (defScope s_l_bad_line) .none kV18 dc18 pm18 an18 cd18 ct18), sl18⟩) (c18 : PySem.W.codeIn K cd18 "_law_bad_line" = true) (k18 : PySem.W.keepIn K (.ref f18) = true)
    (a19 : PySem.W.nsIn K mainGlobals "_law_bad_key" = some (some (.ref f19))) (l19 : K.lookup f19 = some ⟨oc19, od19, .func (PySem.W.fnOf "_law_bad_key" "_law_bad_key" (defArgs s_l_bad_key) (defBody s_l_bad_key) (defScope s_l_bad_key) .none kV19 dc19 pm19 an19 cd19 ct19), sl19⟩) (c19 : PySem.W.codeIn K cd19 "_law_bad_key" = true) (k19 : PySem.W.keepIn K (.ref f19) = true)
    (a20 : PySem.W.nsIn K mainGlobals "_law_copy" = some (some (.ref f20))) (l20 : K.lookup f20 = some ⟨oc20, od20, .func (PySem.W.fnOf "_law_copy" "_law_copy" (defArgs s_l_copy) (defBody s_l_copy) (defScope s_l_copy) .none kV20 dc20 pm20 an20 cd20 ct20), sl20⟩) (c20 : PySem.W.codeIn K cd20 "_law_copy" = true) (k20 : PySem.W.keepIn K (.ref f20) = true)
    (a21 : PySem.W.nsIn K mainGlobals "_law_kept" = some (some (.ref f21))) (l21 : K.lookup f21 = some ⟨oc21, od21, .func (PySem.W.fnOf "_law_kept" "_law_kept" (defArgs s_l_kept) (defBody s_l_kept) (defScope s_l_kept) .none kV21 dc21 pm21 an21 cd21 ct21), sl21⟩) (c21 : PySem.W.codeIn K cd21 "_law_kept" = true) (k21 : PySem.W.keepIn K (.ref f21) = true)
    (a22 : PySem.W.nsIn K mainGlobals "_law_rising" = some (some (.ref f22))) (l22 : K.lookup f22 = some ⟨oc22, od22, .func (PySem.W.fnOf "_law_rising" "_law_rising" (defArgs s_l_rising) (defBody s_l_rising) (defScope s_l_rising) .none kV22 dc22 pm22 an22 cd22 ct22), sl22⟩) (c22 : PySem.W.codeIn K cd22 "_law_rising" = true) (k22 : PySem.W.keepIn K (.ref f22) = true)
    (a23 : PySem.W.nsIn K mainGlobals "_law_spoil" = some (some (.ref f23))) (l23 : K.lookup f23 = some ⟨oc23, od23, .func (PySem.W.fnOf "_law_spoil" "_law_spoil" (defArgs s_l_spoil) (defBody s_l_spoil) (defScope s_l_spoil) .none kV23 dc23 pm23 an23 cd23 ct23), sl23⟩) (c23 : PySem.W.codeIn K cd23 "_law_spoil" = true) (k23 : PySem.W.keepIn K (.ref f23) = true)
    (a24 : PySem.W.nsIn K mainGlobals "_law_asks_text" = some (some (.ref f24))) (l24 : K.lookup f24 = some ⟨oc24, od24, .func (PySem.W.fnOf "_law_asks_text" "_law_asks_text" (defArgs s_l_asks_text) (defBody s_l_asks_text) (defScope s_l_asks_text) .none kV24 dc24 pm24 an24 cd24 ct24), sl24⟩) (c24 : PySem.W.codeIn K cd24 "_law_asks_text" = true) (k24 : PySem.W.keepIn K (.ref f24) = true)
    (a25 : PySem.W.nsIn K mainGlobals "_law_asks_tree" = some (some (.ref f25))) (l25 : K.lookup f25 = some ⟨oc25, od25, .func (PySem.W.fnOf "_law_asks_tree" "_law_asks_tree" (defArgs s_l_asks_tree) (defBody s_l_asks_tree) (defScope s_l_asks_tree) .none kV25 dc25 pm25 an25 cd25 ct25), sl25⟩) (c25 : PySem.W.codeIn K cd25 "_law_asks_tree" = true) (k25 : PySem.W.keepIn K (.ref f25) = true)
    (a26 : PySem.W.nsIn K mainGlobals "_law_asks_files" = some (some (.ref f26))) (l26 : K.lookup f26 = some ⟨oc26, od26, .func (PySem.W.fnOf "_law_asks_files" "_law_asks_files" (defArgs s_l_asks_files) (defBody s_l_asks_files) (defScope s_l_asks_files) .none kV26 dc26 pm26 an26 cd26 ct26), sl26⟩) (c26 : PySem.W.codeIn K cd26 "_law_asks_files" = true) (k26 : PySem.W.keepIn K (.ref f26) = true)
    (a27 : PySem.W.nsIn K mainGlobals "_law_asks_strings" = some (some (.ref f27))) (l27 : K.lookup f27 = some ⟨oc27, od27, .func (PySem.W.fnOf "_law_asks_strings" "_law_asks_strings" (defArgs s_l_asks_strings) (defBody s_l_asks_strings) (defScope s_l_asks_strings) .none kV27 dc27 pm27 an27 cd27 ct27), sl27⟩) (c27 : PySem.W.codeIn K cd27 "_law_asks_strings" = true) (k27 : PySem.W.keepIn K (.ref f27) = true)
    (a28 : PySem.W.nsIn K mainGlobals "_law_asks_below" = some (some (.ref f28))) (l28 : K.lookup f28 = some ⟨oc28, od28, .func (PySem.W.fnOf "_law_asks_below" "_law_asks_below" (defArgs s_l_asks_below) (defBody s_l_asks_below) (defScope s_l_asks_below) .none kV28 dc28 pm28 an28 cd28 ct28), sl28⟩) (c28 : PySem.W.codeIn K cd28 "_law_asks_below" = true) (k28 : PySem.W.keepIn K (.ref f28) = true)
    (a29 : PySem.W.nsIn K mainGlobals "law" = some (some (.ref f29))) (l29 : K.lookup f29 = some ⟨oc29, od29, .func (PySem.W.fnOf "law" "law" (defArgs s_law) (defBody s_law) (defScope s_law) .none kV29 dc29 pm29 an29 cd29 ct29), sl29⟩) (c29 : PySem.W.codeIn K cd29 "law" = true) (k29 : PySem.W.keepIn K (.ref f29) = true)
    (ac_PartError : PySem.W.nsIn K mainGlobals "PartError" = some (some (.ref c_PartError)))
    (ec_PartError : PySem.W.subIn K (.ref c_PartError) (.type "BaseException") = some true)
    (tc_PartError : PySem.W.typeIn K (.ref c_PartError) = some (.type "type"))
    (ic_PartError : PySem.W.isClsIn K c_PartError = true)
    (ac_BadText : PySem.W.nsIn K mainGlobals "BadText" = some (some (.ref c_BadText)))
    (ec_BadText : PySem.W.subIn K (.ref c_BadText) (.type "BaseException") = some true)
    (tc_BadText : PySem.W.typeIn K (.ref c_BadText) = some (.type "type"))
    (ic_BadText : PySem.W.isClsIn K c_BadText = true)
    {nm_BadText q_BadText : Str} {ns_BadText : Addr} {bs_BadText : List Value} {sn_BadText : List Str} {sub_BadText : List Value} {ab_BadText : Bool} {col_BadText : Option Bool} {dd_BadText : Option Addr} {m0_BadText m1_BadText m2_BadText m3_BadText m5_BadText : Option Value}
    (xL_BadText : K.lookup c_BadText = some (excClassObj nm_BadText q_BadText c_BadText ns_BadText bs_BadText [.ref c_PartError, .type "ValueError", .type "Exception", .type "BaseException", .type "object"] true sn_BadText sub_BadText ab_BadText col_BadText dd_BadText m0_BadText m1_BadText m2_BadText m3_BadText m5_BadText "ValueError.__new__"))
    (sa_BadText : PySem.W.findIn K (.ref c_BadText) "__setattr__" = some (some (.builtin "object.__setattr__")))
    (ga_BadText : PySem.W.findIn K (.ref c_BadText) "__getattribute__" = some (some (.builtin "BaseException.__getattribute__")))
    (gg_BadText : PySem.W.findIn K (.ref c_BadText) "__getattr__" = some none)
    (gk_BadText : PySem.W.findIn K (.ref c_BadText) "__class__" = some (some (.builtin "object.__class__")))
    (gm_BadText : PySem.W.mroIn K c_BadText (.type "object") = some true)
    (n_place_BadText : PySem.W.findIn K (.ref c_BadText) "place" = some none)
    (ai_BadText : PySem.W.findIn K (.ref c_BadText) "__init__" = some (some (.ref fi_BadText)))
    (ti_BadText : PySem.W.typeIn K (.ref fi_BadText) = some (.type "function"))
    {odi_BadText ani_BadText : Option Addr} {sli_BadText : Array (Option Value)} {oci_BadText kVi_BadText dci_BadText pmi_BadText cdi_BadText cti_BadText : Value}
    (li_BadText : K.lookup fi_BadText = some ⟨oci_BadText, odi_BadText, .func (PySem.W.fnOf "__init__" "BadText.__init__" (defArgs (inClass (topS 2) 0)) (defBody (inClass (topS 2) 0)) (defScope (inClass (topS 2) 0)) .none kVi_BadText dci_BadText pmi_BadText ani_BadText cdi_BadText cti_BadText), sli_BadText⟩)
    (ci_BadText : PySem.W.codeIn K cdi_BadText "BadText.__init__" = true)
    (ki_BadText : PySem.W.keepIn K (.ref fi_BadText) = true)
    (kc_BadText : PySem.W.keepIn K (.ref c_BadText) = true)
    (hc_BadText : PySem.W.hasDictIn K c_BadText = true)
    (ac_BadTree : PySem.W.nsIn K mainGlobals "BadTree" = some (some (.ref c_BadTree)))
    (ec_BadTree : PySem.W.subIn K (.ref c_BadTree) (.type "BaseException") = some true)
    (tc_BadTree : PySem.W.typeIn K (.ref c_BadTree) = some (.type "type"))
    (ic_BadTree : PySem.W.isClsIn K c_BadTree = true)
    {nm_BadTree q_BadTree : Str} {ns_BadTree : Addr} {bs_BadTree : List Value} {sn_BadTree : List Str} {sub_BadTree : List Value} {ab_BadTree : Bool} {col_BadTree : Option Bool} {dd_BadTree : Option Addr} {m0_BadTree m1_BadTree m2_BadTree m3_BadTree m5_BadTree : Option Value}
    (xL_BadTree : K.lookup c_BadTree = some (excClassObj nm_BadTree q_BadTree c_BadTree ns_BadTree bs_BadTree [.ref c_PartError, .type "ValueError", .type "Exception", .type "BaseException", .type "object"] true sn_BadTree sub_BadTree ab_BadTree col_BadTree dd_BadTree m0_BadTree m1_BadTree m2_BadTree m3_BadTree m5_BadTree "ValueError.__new__"))
    (sa_BadTree : PySem.W.findIn K (.ref c_BadTree) "__setattr__" = some (some (.builtin "object.__setattr__")))
    (ga_BadTree : PySem.W.findIn K (.ref c_BadTree) "__getattribute__" = some (some (.builtin "BaseException.__getattribute__")))
    (gg_BadTree : PySem.W.findIn K (.ref c_BadTree) "__getattr__" = some none)
    (gk_BadTree : PySem.W.findIn K (.ref c_BadTree) "__class__" = some (some (.builtin "object.__class__")))
    (gm_BadTree : PySem.W.mroIn K c_BadTree (.type "object") = some true)
    (n_path_BadTree : PySem.W.findIn K (.ref c_BadTree) "path" = some none)
    (n_place_BadTree : PySem.W.findIn K (.ref c_BadTree) "place" = some none)
    (ai_BadTree : PySem.W.findIn K (.ref c_BadTree) "__init__" = some (some (.ref fi_BadTree)))
    (ti_BadTree : PySem.W.typeIn K (.ref fi_BadTree) = some (.type "function"))
    {odi_BadTree ani_BadTree : Option Addr} {sli_BadTree : Array (Option Value)} {oci_BadTree kVi_BadTree dci_BadTree pmi_BadTree cdi_BadTree cti_BadTree : Value}
    (li_BadTree : K.lookup fi_BadTree = some ⟨oci_BadTree, odi_BadTree, .func (PySem.W.fnOf "__init__" "BadTree.__init__" (defArgs (inClass (topS 3) 0)) (defBody (inClass (topS 3) 0)) (defScope (inClass (topS 3) 0)) .none kVi_BadTree dci_BadTree pmi_BadTree ani_BadTree cdi_BadTree cti_BadTree), sli_BadTree⟩)
    (ci_BadTree : PySem.W.codeIn K cdi_BadTree "BadTree.__init__" = true)
    (ki_BadTree : PySem.W.keepIn K (.ref fi_BadTree) = true)
    (kc_BadTree : PySem.W.keepIn K (.ref c_BadTree) = true)
    (hc_BadTree : PySem.W.hasDictIn K c_BadTree = true)
    (ss_BadText_BadText : PySem.W.subIn K (.ref c_BadText) (.ref c_BadText) = some true)
    (ss_BadText_BadTree : PySem.W.subIn K (.ref c_BadText) (.ref c_BadTree) = some false)
    (ss_BadText_PartError : PySem.W.subIn K (.ref c_BadText) (.ref c_PartError) = some true)
    (sv_BadText : PySem.W.subIn K (.ref c_BadText) (.type "ValueError") = some true)
    (ss_BadTree_BadText : PySem.W.subIn K (.ref c_BadTree) (.ref c_BadText) = some false)
    (ss_BadTree_BadTree : PySem.W.subIn K (.ref c_BadTree) (.ref c_BadTree) = some true)
    (ss_BadTree_PartError : PySem.W.subIn K (.ref c_BadTree) (.ref c_PartError) = some true)
    (sv_BadTree : PySem.W.subIn K (.ref c_BadTree) (.type "ValueError") = some true)
    (xn : PySem.W.specialIn K (.builtin "object.__class__") "__get__" = some (some (.builtin "getset_descriptor.__get__"))) (xt : PySem.W.takesIn K (.builtin "object.__class__") = some true)
    (z_ValueError : PySem.W.nsIn K mainGlobals "ValueError" = some none)
    (z_abs : PySem.W.nsIn K mainGlobals "abs" = some none)
    (z_bool : PySem.W.nsIn K mainGlobals "bool" = some none)
    (z_dict : PySem.W.nsIn K mainGlobals "dict" = some none)
    (z_enumerate : PySem.W.nsIn K mainGlobals "enumerate" = some none)
    (z_int : PySem.W.nsIn K mainGlobals "int" = some none)
    (z_isinstance : PySem.W.nsIn K mainGlobals "isinstance" = some none)
    (z_len : PySem.W.nsIn K mainGlobals "len" = some none)
    (z_list : PySem.W.nsIn K mainGlobals "list" = some none)
    (z_range : PySem.W.nsIn K mainGlobals "range" = some none)
    (z_sorted : PySem.W.nsIn K mainGlobals "sorted" = some none)
    (z_str : PySem.W.nsIn K mainGlobals "str" = some none)
    (z_tuple : PySem.W.nsIn K mainGlobals "tuple" = some none)
    {ut_SIGNS : Tok} (y_SIGNS : PySem.W.nsIn K mainGlobals "SIGNS" = some (some (.str "abcdefghijklmnopqrstuvwxyz0123456789 <=>|-" ut_SIGNS)))
    {ut_LINE_LENGTH : Tok} (y_LINE_LENGTH : PySem.W.nsIn K mainGlobals "LINE_LENGTH" = some (some (.int 20 ut_LINE_LENGTH)))
    {ut_TEXT_LENGTH : Tok} (y_TEXT_LENGTH : PySem.W.nsIn K mainGlobals "TEXT_LENGTH" = some (some (.int 40 ut_TEXT_LENGTH)))
    {ut_WORD_SIGNS : Tok} (y_WORD_SIGNS : PySem.W.nsIn K mainGlobals "WORD_SIGNS" = some (some (.str "abcdefghijklmnopqrstuvwxyz0123456789" ut_WORD_SIGNS)))
    {ut_WORD_LENGTH : Tok} (y_WORD_LENGTH : PySem.W.nsIn K mainGlobals "WORD_LENGTH" = some (some (.int 6 ut_WORD_LENGTH)))
    {ut_PATH_WORDS : Tok} (y_PATH_WORDS : PySem.W.nsIn K mainGlobals "PATH_WORDS" = some (some (.int 3 ut_PATH_WORDS)))
    {ut_TREE_PATHS : Tok} (y_TREE_PATHS : PySem.W.nsIn K mainGlobals "TREE_PATHS" = some (some (.int 8 ut_TREE_PATHS))) :
    ∃ fd : FuncData, (∀ (s : Shared) (v : Value), BindsTo s fd ⟨[v], []⟩ [("script", v)]) ∧ ∀ base : Heap, K.In base → base.Ns mainGlobals mg → FnOk l.prog w K mg base CX0 8 fa fd ["script"] (sp_law K) := by
  have e := hfa.symm.trans (PySem.W.mg_of X G a29)
  cases e
  have F1 := fun_mk (st := s_is_line) l1 c1 k1
  have b1 := F1.binds (ps := ["value"]) fun _ _ _ _ _ _ us hl => match us, hl with | [_], _ => rfl
  have F2 := fun_mk (st := s_checked_text) l2 c2 k2
  have b2 := F2.binds (ps := ["text"]) fun _ _ _ _ _ _ us hl => match us, hl with | [_], _ => rfl
  have F3 := fun_mk (st := s_is_word) l3 c3 k3
  have b3 := F3.binds (ps := ["value"]) fun _ _ _ _ _ _ us hl => match us, hl with | [_], _ => rfl
  have F4 := fun_mk (st := s_is_path) l4 c4 k4
  have b4 := F4.binds (ps := ["value"]) fun _ _ _ _ _ _ us hl => match us, hl with | [_], _ => rfl
  have F5 := fun_mk (st := s_below) l5 c5 k5
  have b5 := F5.binds (ps := ["path", "folder"]) fun _ _ _ _ _ _ us hl => match us, hl with | [_, _], _ => rfl
  have F6 := fun_mk (st := s_checked_tree) l6 c6 k6
  have b6 := F6.binds (ps := ["tree"]) fun _ _ _ _ _ _ us hl => match us, hl with | [_], _ => rfl
  have F7 := fun_mk (st := s_files_of) l7 c7 k7
  have b7 := F7.binds (ps := ["tree"]) fun _ _ _ _ _ _ us hl => match us, hl with | [_], _ => rfl
  have F8 := fun_mk (st := s_tree_of) l8 c8 k8
  have b8 := F8.binds (ps := ["files"]) fun _ _ _ _ _ _ us hl => match us, hl with | [_], _ => rfl
  have F9 := fun_mk (st := s_l_feed) l9 c9 k9
  have b9 := F9.binds (ps := ["script"]) fun _ _ _ _ _ _ us hl => match us, hl with | [_], _ => rfl
  have F10 := fun_mk (st := s_l_next) l10 c10 k10
  have b10 := F10.binds (ps := ["cells", "many"]) fun _ _ _ _ _ _ us hl => match us, hl with | [_, _], _ => rfl
  have F11 := fun_mk (st := s_l_same) l11 c11 k11
  have b11 := F11.binds (ps := ["told", "due"]) fun _ _ _ _ _ _ us hl => match us, hl with | [_, _], _ => rfl
  have F12 := fun_mk (st := s_l_way) l12 c12 k12
  have b12 := F12.binds (ps := ["place"]) fun _ _ _ _ _ _ us hl => match us, hl with | [_], _ => rfl
  have F13 := fun_mk (st := s_l_piece) l13 c13 k13
  have b13 := F13.binds (ps := ["place"]) fun _ _ _ _ _ _ us hl => match us, hl with | [_], _ => rfl
  have F14 := fun_mk (st := s_l_sign) l14 c14 k14
  have b14 := F14.binds (ps := ["place"]) fun _ _ _ _ _ _ us hl => match us, hl with | [_], _ => rfl
  have F15 := fun_mk (st := s_l_signs) l15 c15 k15
  have b15 := F15.binds (ps := ["word", "signs"]) fun _ _ _ _ _ _ us hl => match us, hl with | [_, _], _ => rfl
  have F16 := fun_mk (st := s_l_is_line) l16 c16 k16
  have b16 := F16.binds (ps := ["value"]) fun _ _ _ _ _ _ us hl => match us, hl with | [_], _ => rfl
  have F17 := fun_mk (st := s_l_is_way) l17 c17 k17
  have b17 := F17.binds (ps := ["value"]) fun _ _ _ _ _ _ us hl => match us, hl with | [_], _ => rfl
  have F18 := fun_mk (st := s_l_bad_line) l18 c18 k18
  have b18 := F18.binds (ps := ["text"]) fun _ _ _ _ _ _ us hl => match us, hl with | [_], _ => rfl
  have F19 := fun_mk (st := s_l_bad_key) l19 c19 k19
  have b19 := F19.binds (ps := ["tree"]) fun _ _ _ _ _ _ us hl => match us, hl with | [_], _ => rfl
  have F20 := fun_mk (st := s_l_copy) l20 c20 k20
  have b20 := F20.binds (ps := ["tree"]) fun _ _ _ _ _ _ us hl => match us, hl with | [_], _ => rfl
  have F21 := fun_mk (st := s_l_kept) l21 c21 k21
  have b21 := F21.binds (ps := ["passed", "tree"]) fun _ _ _ _ _ _ us hl => match us, hl with | [_, _], _ => rfl
  have F22 := fun_mk (st := s_l_rising) l22 c22 k22
  have b22 := F22.binds (ps := ["tree"]) fun _ _ _ _ _ _ us hl => match us, hl with | [_], _ => rfl
  have F23 := fun_mk (st := s_l_spoil) l23 c23 k23
  have b23 := F23.binds (ps := ["tree"]) fun _ _ _ _ _ _ us hl => match us, hl with | [_], _ => rfl
  have F24 := fun_mk (st := s_l_asks_text) l24 c24 k24
  have b24 := F24.binds (ps := ["text"]) fun _ _ _ _ _ _ us hl => match us, hl with | [_], _ => rfl
  have F25 := fun_mk (st := s_l_asks_tree) l25 c25 k25
  have b25 := F25.binds (ps := ["tree"]) fun _ _ _ _ _ _ us hl => match us, hl with | [_], _ => rfl
  have F26 := fun_mk (st := s_l_asks_files) l26 c26 k26
  have b26 := F26.binds (ps := ["tree"]) fun _ _ _ _ _ _ us hl => match us, hl with | [_], _ => rfl
  have F27 := fun_mk (st := s_l_asks_strings) l27 c27 k27
  have b27 := F27.binds (ps := ["strings"]) fun _ _ _ _ _ _ us hl => match us, hl with | [_], _ => rfl
  have F28 := fun_mk (st := s_l_asks_below) l28 c28 k28
  have b28 := F28.binds (ps := ["cells"]) fun _ _ _ _ _ _ us hl => match us, hl with | [_], _ => rfl
  have F29 := fun_mk (st := s_law) l29 c29 k29
  have b29 := F29.binds (ps := ["script"]) fun _ _ _ _ _ _ us hl => match us, hl with | [_], _ => rfl
  have Fi_BadText := fun_mk (st := inClass (topS 2) 0) li_BadText ci_BadText ki_BadText
  have bi_BadText := Fi_BadText.binds (ps := ["self", "place"]) fun _ _ _ _ _ _ us hl => match us, hl with | [_, _], _ => rfl
  have Fi_BadTree := fun_mk (st := inClass (topS 3) 0) li_BadTree ci_BadTree ki_BadTree
  have bi_BadTree := Fi_BadTree.binds (ps := ["self", "path", "place"]) fun _ _ _ _ _ _ us hl => match us, hl with | [_, _, _], _ => rfl
  exact ⟨_, fun s v => .of_eq rfl, fun base _ _ => ok_law ⟨_, _, F1, PySem.W.mg_of X G a1, b1, _, _, F2, PySem.W.mg_of X G a2, b2, _, _, F3, PySem.W.mg_of X G a3, b3, _, _, F4, PySem.W.mg_of X G a4, b4, _, _, F5, PySem.W.mg_of X G a5, b5, _, _, F6, PySem.W.mg_of X G a6, b6, _, _, F7, PySem.W.mg_of X G a7, b7, _, _, F8, PySem.W.mg_of X G a8, b8, _, _, F9, PySem.W.mg_of X G a9, b9, _, _, F10, PySem.W.mg_of X G a10, b10, _, _, F11, PySem.W.mg_of X G a11, b11, _, _, F12, PySem.W.mg_of X G a12, b12, _, _, F13, PySem.W.mg_of X G a13, b13, _, _, F14, PySem.W.mg_of X G a14, b14, _, _, F15, PySem.W.mg_of X G a15, b15, _, _, F16, PySem.W.mg_of X G a16, b16, _, _, F17, PySem.W.mg_of X G a17, b17, _, _, F18, PySem.W.mg_of X G a18, b18, _, _, F19, PySem.W.mg_of X G a19, b19, _, _, F20, PySem.W.mg_of X G a20, b20, _, _, F21, PySem.W.mg_of X G a21, b21, _, _, F22, PySem.W.mg_of X G a22, b22, _, _, F23, PySem.W.mg_of X G a23, b23, _, _, F24, PySem.W.mg_of X G a24, b24, _, _, F25, PySem.W.mg_of X G a25, b25, _, _, F26, PySem.W.mg_of X G a26, b26, _, _, F27, PySem.W.mg_of X G a27, b27, _, _, F28, PySem.W.mg_of X G a28, b28, _, _, F29, PySem.W.mg_of X G a29, b29, c_PartError, PySem.W.mg_of X G ac_PartError, c_BadText, PySem.W.mg_of X G ac_BadText, fi_BadText, _, Fi_BadText, bi_BadText, ⟨⟨_, _, _, _, _, _, _, _, _, _, _, _, _, _, _, xL_BadText, by rfl⟩, sa_BadText, ec_BadText, tc_BadText, kc_BadText⟩, ai_BadText, ti_BadText, n_place_BadText, ⟨ga_BadText, gg_BadText, ec_BadText, hc_BadText⟩, ⟨by unfold PySem.W.clsIn; rw [xL_BadText] <;> rfl, ga_BadText, gg_BadText, ec_BadText, hc_BadText, gk_BadText, xn, xt, gm_BadText⟩, c_BadTree, PySem.W.mg_of X G ac_BadTree, fi_BadTree, _, Fi_BadTree, bi_BadTree, ⟨⟨_, _, _, _, _, _, _, _, _, _, _, _, _, _, _, xL_BadTree, by rfl⟩, sa_BadTree, ec_BadTree, tc_BadTree, kc_BadTree⟩, ai_BadTree, ti_BadTree, n_path_BadTree, n_place_BadTree, ⟨ga_BadTree, gg_BadTree, ec_BadTree, hc_BadTree⟩, ⟨by unfold PySem.W.clsIn; rw [xL_BadTree] <;> rfl, ga_BadTree, gg_BadTree, ec_BadTree, hc_BadTree, gk_BadTree, xn, xt, gm_BadTree⟩, exm_own ec_BadText ic_BadText tc_BadText ss_BadText_BadText, exm_own ec_BadTree ic_BadTree tc_BadTree ss_BadText_BadTree, kit_own ss_BadText_BadText ss_BadText_BadText ic_BadText tc_BadText, kit_own ss_BadText_BadText ss_BadText_BadTree ic_BadTree tc_BadTree, kit_own ss_BadText_BadText ss_BadText_PartError ic_PartError tc_PartError, kit_ve sv_BadText, exm_own ec_BadText ic_BadText tc_BadText ss_BadTree_BadText, exm_own ec_BadTree ic_BadTree tc_BadTree ss_BadTree_BadTree, kit_own ss_BadTree_BadTree ss_BadTree_BadText ic_BadText tc_BadText, kit_own ss_BadTree_BadTree ss_BadTree_BadTree ic_BadTree tc_BadTree, kit_own ss_BadTree_BadTree ss_BadTree_PartError ic_PartError tc_PartError, kit_ve sv_BadTree, PySem.W.mg_none_of X G z_ValueError, PySem.W.mg_none_of X G z_abs, PySem.W.mg_none_of X G z_bool, PySem.W.mg_none_of X G z_dict, PySem.W.mg_none_of X G z_enumerate, PySem.W.mg_none_of X G z_int, PySem.W.mg_none_of X G z_isinstance, PySem.W.mg_none_of X G z_len, PySem.W.mg_none_of X G z_list, PySem.W.mg_none_of X G z_range, PySem.W.mg_none_of X G z_sorted, PySem.W.mg_none_of X G z_str, PySem.W.mg_none_of X G z_tuple, ⟨_, PySem.W.mg_of X G y_SIGNS, _, rfl⟩, ⟨_, PySem.W.mg_of X G y_LINE_LENGTH, _, rfl⟩, ⟨_, PySem.W.mg_of X G y_TEXT_LENGTH, _, rfl⟩, ⟨_, PySem.W.mg_of X G y_WORD_SIGNS, _, rfl⟩, ⟨_, PySem.W.mg_of X G y_WORD_LENGTH, _, rfl⟩, ⟨_, PySem.W.mg_of X G y_PATH_WORDS, _, rfl⟩, ⟨_, PySem.W.mg_of X G y_TREE_PATHS, _, rfl⟩⟩⟩
end K11
open PySem PySem.W PyProof.Rows
set_option maxHeartbeats 0 in
theorem PySem.Challenge.cw_partclones_k11_checked_texts_trees_holds : PySem.Challenge.rw_partclones_k11_checked_texts_trees.Holds := by
  w_on; o_law; k_head; (case hw => w_witness2)
  k_fill
  refine L2.walk_of (l := PySem.Challenge.rw_partclones_k11_checked_texts_trees) (n := 63) (k := 8) (x := "script") (CX := fun _ => L2.CX0) (sp := fun w => K11.sp_law _) rfl (by decide) rfl ⟨rfl, by decide, by decide⟩ (fun w h Y => PySem.W.kIn_of Y) ?F (fun _ H a ns hl _ hS => K11.sp_law_start hl hS) (fun _ _ _ _ _ h => h)
  case F =>
    intro w mg fa h KX G hmg
    refine' K11.all_mk KX G hmg ?a1 ?l1 ?c1 ?k1 ?a2 ?l2 ?c2 ?k2 ?a3 ?l3 ?c3 ?k3 ?a4 ?l4 ?c4 ?k4 ?a5 ?l5 ?c5 ?k5 ?a6 ?l6 ?c6 ?k6 ?a7 ?l7 ?c7 ?k7 ?a8 ?l8 ?c8 ?k8 ?a9 ?l9 ?c9 ?k9 ?a10 ?l10 ?c10 ?k10 ?a11 ?l11 ?c11 ?k11 ?a12 ?l12 ?c12 ?k12 ?a13 ?l13 ?c13 ?k13 ?a14 ?l14 ?c14 ?k14 ?a15 ?l15 ?c15 ?k15 ?a16 ?l16 ?c16 ?k16 ?a17 ?l17 ?c17 ?k17 ?a18 ?l18 ?c18 ?k18 ?a19 ?l19 ?c19 ?k19 ?a20 ?l20 ?c20 ?k20 ?a21 ?l21 ?c21 ?k21 ?a22 ?l22 ?c22 ?k22 ?a23 ?l23 ?c23 ?k23 ?a24 ?l24 ?c24 ?k24 ?a25 ?l25 ?c25 ?k25 ?a26 ?l26 ?c26 ?k26 ?a27 ?l27 ?c27 ?k27 ?a28 ?l28 ?c28 ?k28 ?a29 ?l29 ?c29 ?k29 ?ac_PartError ?ec_PartError ?tc_PartError ?ic_PartError ?ac_BadText ?ec_BadText ?tc_BadText ?ic_BadText ?xL_BadText ?sa_BadText ?ga_BadText ?gg_BadText ?gk_BadText ?gm_BadText ?n_place_BadText ?ai_BadText ?ti_BadText ?li_BadText ?ci_BadText ?ki_BadText ?kc_BadText ?hc_BadText ?ac_BadTree ?ec_BadTree ?tc_BadTree ?ic_BadTree ?xL_BadTree ?sa_BadTree ?ga_BadTree ?gg_BadTree ?gk_BadTree ?gm_BadTree ?n_path_BadTree ?n_place_BadTree ?ai_BadTree ?ti_BadTree ?li_BadTree ?ci_BadTree ?ki_BadTree ?kc_BadTree ?hc_BadTree ?ss_BadText_BadText ?ss_BadText_BadTree ?ss_BadText_PartError ?sv_BadText ?ss_BadTree_BadText ?ss_BadTree_BadTree ?ss_BadTree_PartError ?sv_BadTree ?xn ?xt ?z_ValueError ?z_abs ?z_bool ?z_dict ?z_enumerate ?z_int ?z_isinstance ?z_len ?z_list ?z_range ?z_sorted ?z_str ?z_tuple ?y_SIGNS ?y_LINE_LENGTH ?y_TEXT_LENGTH ?y_WORD_SIGNS ?y_WORD_LENGTH ?y_PATH_WORDS ?y_TREE_PATHS
    (case a1 => k_is)
    (case l1 => k_is)
    (case c1 => k_is)
    (case k1 => k_is)
    (case a2 => k_is)
    (case l2 => k_is)
    (case c2 => k_is)
    (case k2 => k_is)
    (case a3 => k_is)
    (case l3 => k_is)
    (case c3 => k_is)
    (case k3 => k_is)
    (case a4 => k_is)
    (case l4 => k_is)
    (case c4 => k_is)
    (case k4 => k_is)
    (case a5 => k_is)
    (case l5 => k_is)
    (case c5 => k_is)
    (case k5 => k_is)
    (case a6 => k_is)
    (case l6 => k_is)
    (case c6 => k_is)
    (case k6 => k_is)
    (case a7 => k_is)
    (case l7 => k_is)
    (case c7 => k_is)
    (case k7 => k_is)
    (case a8 => k_is)
    (case l8 => k_is)
    (case c8 => k_is)
    (case k8 => k_is)
    (case a9 => k_is)
    (case l9 => k_is)
    (case c9 => k_is)
    (case k9 => k_is)
    (case a10 => k_is)
    (case l10 => k_is)
    (case c10 => k_is)
    (case k10 => k_is)
    (case a11 => k_is)
    (case l11 => k_is)
    (case c11 => k_is)
    (case k11 => k_is)
    (case a12 => k_is)
    (case l12 => k_is)
    (case c12 => k_is)
    (case k12 => k_is)
    (case a13 => k_is)
    (case l13 => k_is)
    (case c13 => k_is)
    (case k13 => k_is)
    (case a14 => k_is)
    (case l14 => k_is)
    (case c14 => k_is)
    (case k14 => k_is)
    (case a15 => k_is)
    (case l15 => k_is)
    (case c15 => k_is)
    (case k15 => k_is)
    (case a16 => k_is)
    (case l16 => k_is)
    (case c16 => k_is)
    (case k16 => k_is)
    (case a17 => k_is)
    (case l17 => k_is)
    (case c17 => k_is)
    (case k17 => k_is)
    (case a18 => k_is)
    (case l18 => k_is)
    (case c18 => k_is)
    (case k18 => k_is)
    (case a19 => k_is)
    (case l19 => k_is)
    (case c19 => k_is)
    (case k19 => k_is)
    (case a20 => k_is)
    (case l20 => k_is)
    (case c20 => k_is)
    (case k20 => k_is)
    (case a21 => k_is)
    (case l21 => k_is)
    (case c21 => k_is)
    (case k21 => k_is)
    (case a22 => k_is)
    (case l22 => k_is)
    (case c22 => k_is)
    (case k22 => k_is)
    (case a23 => k_is)
    (case l23 => k_is)
    (case c23 => k_is)
    (case k23 => k_is)
    (case a24 => k_is)
    (case l24 => k_is)
    (case c24 => k_is)
    (case k24 => k_is)
    (case a25 => k_is)
    (case l25 => k_is)
    (case c25 => k_is)
    (case k25 => k_is)
    (case a26 => k_is)
    (case l26 => k_is)
    (case c26 => k_is)
    (case k26 => k_is)
    (case a27 => k_is)
    (case l27 => k_is)
    (case c27 => k_is)
    (case k27 => k_is)
    (case a28 => k_is)
    (case l28 => k_is)
    (case c28 => k_is)
    (case k28 => k_is)
    (case a29 => k_is)
    (case l29 => k_is)
    (case c29 => k_is)
    (case k29 => k_is)
    (case ac_PartError => k_is)
    (case ec_PartError => k_is)
    (case tc_PartError => k_is)
    (case ic_PartError => k_is)
    (case ac_BadText => k_is)
    (case ec_BadText => k_is)
    (case tc_BadText => k_is)
    (case ic_BadText => k_is)
    (case xL_BadText => k_is)
    (case sa_BadText => k_is)
    (case ga_BadText => k_is)
    (case gg_BadText => k_is)
    (case gk_BadText => k_is)
    (case gm_BadText => k_is)
    (case n_place_BadText => k_is)
    (case ai_BadText => k_is)
    (case ti_BadText => k_is)
    (case li_BadText => k_is)
    (case ci_BadText => k_is)
    (case ki_BadText => k_is)
    (case kc_BadText => k_is)
    (case hc_BadText => k_is)
    (case ac_BadTree => k_is)
    (case ec_BadTree => k_is)
    (case tc_BadTree => k_is)
    (case ic_BadTree => k_is)
    (case xL_BadTree => k_is)
    (case sa_BadTree => k_is)
    (case ga_BadTree => k_is)
    (case gg_BadTree => k_is)
    (case gk_BadTree => k_is)
    (case gm_BadTree => k_is)
    (case n_path_BadTree => k_is)
    (case n_place_BadTree => k_is)
    (case ai_BadTree => k_is)
    (case ti_BadTree => k_is)
    (case li_BadTree => k_is)
    (case ci_BadTree => k_is)
    (case ki_BadTree => k_is)
    (case kc_BadTree => k_is)
    (case hc_BadTree => k_is)
    (case ss_BadText_BadText => k_is)
    (case ss_BadText_BadTree => k_is)
    (case ss_BadText_PartError => k_is)
    (case sv_BadText => k_is)
    (case ss_BadTree_BadText => k_is)
    (case ss_BadTree_BadTree => k_is)
    (case ss_BadTree_PartError => k_is)
    (case sv_BadTree => k_is)
    (case xn => k_is)
    (case xt => k_is)
    (case z_ValueError => k_is)
    (case z_abs => k_is)
    (case z_bool => k_is)
    (case z_dict => k_is)
    (case z_enumerate => k_is)
    (case z_int => k_is)
    (case z_isinstance => k_is)
    (case z_len => k_is)
    (case z_list => k_is)
    (case z_range => k_is)
    (case z_sorted => k_is)
    (case z_str => k_is)
    (case z_tuple => k_is)
    (case y_SIGNS => k_is)
    (case y_LINE_LENGTH => k_is)
    (case y_TEXT_LENGTH => k_is)
    (case y_WORD_SIGNS => k_is)
    (case y_WORD_LENGTH => k_is)
    (case y_PATH_WORDS => k_is)
    (case y_TREE_PATHS => k_is)

