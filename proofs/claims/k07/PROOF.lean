import PyProof.Rows.All
import Wide.All
import OpenK.AllK
import Wide.FinOn
import HandS.ForMost
import HandS.Small
import HandS.Style
import HandS.Flow
import HandS.Deep
import HandS.IsInst
import HandS.More
import HandS.Star
import HandS.TupAny
import KE.KExcIs
import HandS.ExcCtx
import HandS.ExcInit
import HandS.ExcField
import HandS.HotCalls
import HandS.Wide
import HandS.Strs
import HandS.SetKeys
import HandS.Text
import HandS.Iter
import HandS.WideBits
import HandS.Dict
import HandS.WordsDict
import HandS.Conv
import HandS.List
import HandS.SetBool
import HandS.DictComp
import HandS.ListItems
import HandS.Ends
import HandS.GenList
import HandS.GenYield
import HandS.GenBody
import HandS.SuiteRaise
import KE.KAsSuite
import HandS.ExcInitHot
import HandS.RaiseFrom
import HandS.TupMul
import KE.GoesMore
import KE.GoesEnum
import HandS.TupSets
import PyProof.SeqIndex
import HandS.Set
import PyProof.FactsAll.set_2
import PySem.Challenge.RW_partclones_k07_puts
set_option Elab.async false
set_option linter.all false
set_option maxRecDepth 100000
namespace Qk
open PySem PySem.Spec PyProof.Rows L2

/-! ### heaps -/
abbrev Own := List (Addr × HO)
structure Has (F : Hp) (O : Own) (H : Hp) : Prop where
  same : Same F H
  own : ∀ p ∈ O, F p.1 = none ∧ H p.1 = some p.2
  nd : (O.map (·.1)).Nodup

/-- O with the object at a changed from o to o' -/
inductive Chg : Own → Addr → HO → HO → Own → Prop
  | hd {a : Addr} {o o' : HO} {O : Own} : Chg ((a, o) :: O) a o o' ((a, o') :: O)
  | tl {a : Addr} {o o' : HO} {O O' : Own} {x : Addr × HO} : Chg O a o o' O' → Chg (x :: O) a o o' (x :: O')
theorem Chg.mem {O O' : Own} {a : Addr} {o o' : HO} (c : Chg O a o o' O') : (a, o) ∈ O := by
  induction c with
  | hd => exact List.Mem.head _
  | tl _ ih => exact List.Mem.tail _ ih
theorem Chg.fst {O O' : Own} {a : Addr} {o o' : HO} (c : Chg O a o o' O') : O'.map (·.1) = O.map (·.1) := by
  induction c with
  | hd => rfl
  | tl _ ih => rw [List.map_cons, List.map_cons, ih]
theorem Chg.own {O O' : Own} {a : Addr} {o o' : HO} (c : Chg O a o o' O') (nd : (O.map (·.1)).Nodup) : ∀ p ∈ O', p = (a, o') ∨ (p ∈ O ∧ p.1 ≠ a) := by
  induction c with
  | @hd a o o' O =>
    intro p hp
    rw [List.map_cons] at nd
    have nm := (List.nodup_cons.mp nd).1
    rcases List.mem_cons.mp hp with e | hp
    · exact .inl e
    · refine .inr ⟨List.mem_cons_of_mem _ hp, fun e => nm ?_⟩
      exact List.mem_map.mpr ⟨p, hp, e⟩
  | @tl a o o' O O' x c ih =>
    intro p hp
    rw [List.map_cons] at nd
    have nm := List.nodup_cons.mp nd
    rcases List.mem_cons.mp hp with e | hp
    · subst e
      refine .inr ⟨List.mem_cons_self, fun e => nm.1 ?_⟩
      rw [e]
      exact List.mem_map.mpr ⟨_, c.mem, rfl⟩
    · rcases ih nm.2 p hp with e | ⟨e, ne⟩
      · exact .inl e
      · exact .inr ⟨List.mem_cons_of_mem _ e, ne⟩

section
variable {F F' : Hp} {O O' : Own} {H H' : Hp} {a p : Addr} {o o' : HO} {K : PySem.W.Frag} {xs : List V}
theorem Has.start (H : Hp) : Has H [] H := ⟨Same.refl H, fun _ h => (List.not_mem_nil h).elim, List.nodup_nil⟩
theorem Has.get (h : Has F O H) (m : (a, o) ∈ O) : H a = some o := (h.own _ m).2
theorem Has.but (h : Has F O H) (c : Chg O a o o' O') (s : ∀ b u, b ≠ a → H b = some u → H' b = some u) (e : H' a = some o') : Has F O' H' := by
  have fa : F a = none := (h.own _ c.mem).1
  refine ⟨fun b u q => s b u (fun z => by rw [z, fa] at q; cases q) (h.same b u q), fun q hq => ?_, by rw [c.fst]; exact h.nd⟩
  rcases c.own h.nd q hq with rfl | ⟨m, ne⟩
  · exact ⟨fa, e⟩
  · exact ⟨(h.own _ m).1, s _ _ ne (h.own _ m).2⟩
theorem Has.put (h : Has F O H) (c : Chg O a o o' O') : Has F O' (upd H a o') := h.but c (fun b u ne q => by rw [upd_ne ne]; exact q) upd_same
theorem Has.on (h : Has F O H) (s : Same H H') : Has F O H' := ⟨h.same.trans s, fun q hq => ⟨(h.own q hq).1, s _ _ (h.own q hq).2⟩, h.nd⟩
theorem Has.made (h : Has F O H) (n : H p = none) (s : Same H H') (e : H' p = some o) : Has F ((p, o) :: O) H' := by
  refine ⟨h.same.trans s, fun q hq => ?_, ?_⟩
  · rcases List.mem_cons.mp hq with rfl | hq
    · exact ⟨h.same.free n, e⟩
    · exact ⟨(h.own q hq).1, s _ _ (h.own q hq).2⟩
  · rw [List.map_cons]
    refine List.nodup_cons.mpr ⟨fun m => ?_, h.nd⟩
    obtain ⟨q, hq, e'⟩ := List.mem_map.mp m
    have z := (h.own q hq).2
    rw [e', n] at z
    cases z
theorem same_upd (n : H p = none) : Same H (upd H p o) := fun b u q => by
  rw [upd_ne (ne_of_none q n)]
  exact q
theorem Has.new (h : Has F O H) (n : H p = none) : Has F ((p, o) :: O) (upd H p o) := h.made n (same_upd n) upd_same
theorem Has.drop {x : Addr × HO} (h : Has F (x :: O) H) : Has F O H := ⟨h.same, fun q hq => h.own q (List.mem_cons_of_mem _ hq), (List.nodup_cons.mp (by have := h.nd; rw [List.map_cons] at this; exact this)).2⟩
theorem Has.sub (h : Has F O H) (s : O'.Sublist O) : Has F O' H := ⟨h.same, fun q hq => h.own q (s.subset hq), (s.map _).nodup h.nd⟩
theorem Has.perm (h : Has F O H) (s : O'.Perm O) : Has F O' H := ⟨h.same, fun q hq => h.own q (s.subset hq), (s.map _).nodup_iff.mpr h.nd⟩
/-- the first owned object stands still from now on -/
theorem Has.frz (h : Has F ((p, o) :: O) H) : Has (upd F p o) O H := by
  have hp := h.own (p, o) List.mem_cons_self
  have nd : p ∉ O.map (·.1) ∧ (O.map (·.1)).Nodup := List.nodup_cons.mp (by have := h.nd; rw [List.map_cons] at this; exact this)
  refine ⟨fun b u q => ?_, fun q hq => ⟨?_, (h.own q (List.mem_cons_of_mem _ hq)).2⟩, nd.2⟩
  · by_cases e : b = p
    · subst e
      rw [upd_same] at q
      cases q
      exact hp.2
    · rw [upd_ne e] at q
      exact h.same b u q
  · rw [upd_ne (fun z => nd.1 (List.mem_map.mpr ⟨q, hq, z⟩))]
    exact (h.own q (List.mem_cons_of_mem _ hq)).1
theorem Has.free (h : Has F ((p, o) :: O) H) : F p = none := (h.own _ List.mem_cons_self).1
theorem Has.grow (h : Has F ((p, o) :: O) H) : Same F (upd F p o) := same_upd h.free
/-- all stands still from now on -/
theorem Has.all (h : Has F O H) : Has H [] H := Has.start H
/-- F grown by what O knows nothing of -/
theorem Has.up (h : Has F O H) (s2 : Same F' H') (s : Same H H') (d : ∀ p ∈ O, F' p.1 = none) : Has F' O H' :=
  ⟨s2, fun q hq => ⟨d q hq, s _ _ (h.own q hq).2⟩, h.nd⟩
theorem Has.sqO (h : Has F O H) (m : (a, .lst xs) ∈ O) : SqL K H a xs := SqL.of (h.get m)
theorem Has.sqF (h : Has F O H) (m : SqL K F a xs) : SqL K H a xs := h.same.seq m
theorem Same.tup {K : PySem.W.Frag} (e : Same H H') (h : SqT K H a xs) : SqT K H' a xs := by
  rcases h with (h | ⟨o, h⟩) | h
  · exact .inl (.inl (e _ _ h))
  · exact .inl (.inr ⟨o, e _ _ h⟩)
  · exact .inr h
theorem Has.stF (h : Has F O H) (m : SqT K F a xs) : SqT K H a xs := Same.tup h.same m
theorem Has.stO (h : Has F O H) (m : (a, .tup xs) ∈ O) : SqT K H a xs := SqT.of (h.get m)
end

/-! ### data -/
mutual
inductive Dq (H : Hp) : V → PyData → Prop
  | non : Dq H .non .none
  | bl (b : Bool) : Dq H (.bl b) (.bool b)
  | int (i : Int) : Dq H (.int i) (.int i)
  | str (x : Str) : Dq H (.str x) (.str x)
  | lst {a : Addr} {xs : List V} {ds : List PyData} : H a = some (.lst xs) → DqAll H xs ds → Dq H (.ref a) (.list ds)
  | tup {a : Addr} {xs : List V} {ds : List PyData} : H a = some (.tup xs) → DqAll H xs ds → Dq H (.ref a) (.tuple ds)
inductive DqAll (H : Hp) : List V → List PyData → Prop
  | nil : DqAll H [] []
  | cons {v : V} {vs : List V} {d : PyData} {ds : List PyData} : Dq H v d → DqAll H vs ds → DqAll H (v :: vs) (d :: ds)
end
mutual
theorem Dq.up {H H' : Hp} (e : Same H H') : ∀ (d : PyData) (v : V), Dq H v d → Dq H' v d
  | _, _, .non => .non
  | _, _, .bl b => .bl b
  | _, _, .int i => .int i
  | _, _, .str x => .str x
  | .list ds, _, .lst s a => .lst (e _ _ s) (DqAll.up e ds _ a)
  | .tuple ds, _, .tup s a => .tup (e _ _ s) (DqAll.up e ds _ a)
theorem DqAll.up {H H' : Hp} (e : Same H H') : ∀ (ds : List PyData) (vs : List V), DqAll H vs ds → DqAll H' vs ds
  | _, _, .nil => .nil
  | d :: ds, _, .cons h t => .cons (Dq.up e d _ h) (DqAll.up e ds _ t)
end
mutual
theorem Dq.dp (K : PySem.W.Frag) {H : Hp} : ∀ (d : PyData) (v : V), Dq H v d → Dp K H v d
  | _, _, .non => .non
  | _, _, .bl b => .bl b
  | _, _, .int i => .int i
  | _, _, .str x => .str x
  | .list ds, _, .lst s a => .lst (SqL.of s) (DqAll.dp K ds _ a)
  | .tuple ds, _, .tup s a => .tup (SqT.of s) (DqAll.dp K ds _ a)
theorem DqAll.dp (K : PySem.W.Frag) {H : Hp} : ∀ (ds : List PyData) (vs : List V), DqAll H vs ds → DpAll K H vs ds
  | _, _, .nil => .nil
  | d :: ds, _, .cons h t => .cons (Dq.dp K d _ h) (DqAll.dp K ds _ t)
end
theorem DqAll.len {H : Hp} : ∀ {vs : List V} {ds : List PyData}, DqAll H vs ds → vs.length = ds.length
  | _, _, .nil => rfl
  | _, _, .cons _ t => by rw [List.length_cons, List.length_cons, t.len]
theorem DqAll.get {H : Hp} : ∀ {vs : List V} {ds : List PyData} {i : Nat} {v : V}, DqAll H vs ds → vs[i]? = some v → ∃ d, ds[i]? = some d ∧ Dq H v d
  | _, _, _, _, .nil, e => by simp at e
  | _, _, 0, _, .cons h _, e => ⟨_, rfl, by have e' := Option.some.inj e; rw [← e']; exact h⟩
  | _, _, i + 1, _, .cons _ t, e => t.get (i := i) e
theorem DqAll.snoc {H : Hp} : ∀ {vs : List V} {ds : List PyData} {v : V} {d : PyData}, DqAll H vs ds → Dq H v d → DqAll H (vs ++ [v]) (ds ++ [d])
  | _, _, _, _, .nil, h => .cons h .nil
  | _, _, _, _, .cons h t, h' => .cons h (t.snoc h')
theorem DqAll.app {H : Hp} : ∀ {vs ws : List V} {ds es : List PyData}, DqAll H vs ds → DqAll H ws es → DqAll H (vs ++ ws) (ds ++ es)
  | _, _, _, _, .nil, h => h
  | _, _, _, _, .cons h t, h' => .cons h (t.app h')
theorem DqAll.rev {H : Hp} : ∀ {vs : List V} {ds : List PyData}, DqAll H vs ds → DqAll H vs.reverse ds.reverse
  | _, _, .nil => .nil
  | _, _, .cons h t => by
    rw [List.reverse_cons, List.reverse_cons]
    exact t.rev.snoc h
theorem DqAll.strs {H : Hp} : ∀ (xs : List Str), DqAll H (xs.map V.str) (xs.map PyData.str)
  | [] => .nil
  | x :: xs => .cons (.str x) (DqAll.strs xs)
theorem DqAll.ints {H : Hp} : ∀ (xs : List Int), DqAll H (xs.map V.int) (xs.map PyData.int)
  | [] => .nil
  | x :: xs => .cons (.int x) (DqAll.ints xs)
theorem DqAll.of_strs {H : Hp} : ∀ {vs : List V} {xs : List Str}, DqAll H vs (xs.map PyData.str) → vs = xs.map V.str
  | _, [], .nil => rfl
  | _, x :: xs, .cons h t => by
    cases h
    rw [List.map_cons, t.of_strs]
theorem Dq.of_strs {H : Hp} {v : V} {xs : List Str} (h : Dq H v (.list (xs.map PyData.str))) : ∃ a, v = .ref a ∧ H a = some (.lst (xs.map V.str)) := by
  cases h with
  | lst s a =>
    rw [a.of_strs] at s
    exact ⟨_, rfl, s⟩
theorem Dq.strs {H : Hp} {a : Addr} {xs : List Str} (h : H a = some (.lst (xs.map V.str))) : Dq H (.ref a) (.list (xs.map PyData.str)) := .lst h (DqAll.strs xs)
theorem Dq.ints {H : Hp} {a : Addr} {xs : List Int} (h : H a = some (.lst (xs.map V.int))) : Dq H (.ref a) (.list (xs.map PyData.int)) := .lst h (DqAll.ints xs)
theorem Has.gF {F : Hp} {O : Own} {H : Hp} {a : Addr} {o : HO} (h : Has F O H) (e : F a = some o) : H a = some o := h.same _ _ e
theorem Has.dq {F : Hp} {O : Own} {H : Hp} (h : Has F O H) {v : V} {d : PyData} (p : Dq F v d) : Dq H v d := p.up h.same d v

/-! ### == of data -/
theorem eqvAll_strs : ∀ xs ys : List Str, PyData.eqvAll (xs.map PyData.str) (ys.map PyData.str) = decide (xs = ys)
  | [], [] => by simp [PyData.eqvAll]
  | [], y :: ys => by simp [PyData.eqvAll]
  | x :: xs, [] => by simp [PyData.eqvAll]
  | x :: xs, y :: ys => by
    rw [List.map_cons, List.map_cons, PyData.eqvAll, eqvAll_strs xs ys, PyData.eqv]
    by_cases h : x = y
    · subst h; simp
    · simp [h]
theorem eqv_strs (xs ys : List Str) : PyData.eqv (.list (xs.map PyData.str)) (.list (ys.map PyData.str)) = decide (xs = ys) := by
  rw [PyData.eqv, eqvAll_strs]
theorem eqvAll_ints : ∀ xs ys : List Int, PyData.eqvAll (xs.map PyData.int) (ys.map PyData.int) = decide (xs = ys)
  | [], [] => by simp [PyData.eqvAll]
  | [], y :: ys => by simp [PyData.eqvAll]
  | x :: xs, [] => by simp [PyData.eqvAll]
  | x :: xs, y :: ys => by
    rw [List.map_cons, List.map_cons, PyData.eqvAll, eqvAll_ints xs ys, PyData.eqv]
    by_cases h : x = y
    · subst h; simp
    · simp [h]
theorem eqv_ints (xs ys : List Int) : PyData.eqv (.list (xs.map PyData.int)) (.list (ys.map PyData.int)) = decide (xs = ys) := by
  rw [PyData.eqv, eqvAll_ints]
theorem canLayAll_mem : ∀ {ds : List PyData}, (∀ d ∈ ds, d.canLay0 = true) → PyData.canLayAll0 ds = true
  | [], _ => rfl
  | d :: ds, h => by
    rw [PyData.canLayAll0, h d List.mem_cons_self, canLayAll_mem fun x hx => h x (List.mem_cons_of_mem _ hx)]
    rfl
theorem depthAll_le {n : Nat} : ∀ {ds : List PyData}, (∀ d ∈ ds, d.depth ≤ n) → PyData.depthAll ds ≤ n
  | [], _ => Nat.zero_le _
  | d :: ds, h => by
    rw [PyData.depthAll]
    exact Nat.max_le.mpr ⟨h d List.mem_cons_self, depthAll_le fun x hx => h x (List.mem_cons_of_mem _ hx)⟩
/-- data of depth n that can be compared -/
def Sh (n : Nat) (d : PyData) : Prop := d.canLay0 = true ∧ d.depth ≤ n
theorem Sh.list {n : Nat} {ds : List PyData} (h : ∀ d ∈ ds, Sh n d) : Sh (n + 1) (.list ds) := by
  refine ⟨?_, ?_⟩
  · rw [PyData.canLay0]
    exact canLayAll_mem fun d hd => (h d hd).1
  · rw [PyData.depth]
    have := depthAll_le (n := n) fun d hd => (h d hd).2
    omega
theorem Sh.tuple {n : Nat} {ds : List PyData} (h : ∀ d ∈ ds, Sh n d) : Sh (n + 1) (.tuple ds) := by
  refine ⟨?_, ?_⟩
  · rw [PyData.canLay0]
    exact canLayAll_mem fun d hd => (h d hd).1
  · rw [PyData.depth]
    have := depthAll_le (n := n) fun d hd => (h d hd).2
    omega
theorem Sh.ok {n : Nat} {d : PyData} (h : Sh n d) (hn : n ≤ 64) : SeqAt.shaped d = true := by
  unfold SeqAt.shaped
  rw [h.1, Bool.true_and]
  exact decide_eq_true (Nat.le_trans h.2 hn)
theorem Sh.int {n : Nat} (i : Int) : Sh n (.int i) := ⟨rfl, Nat.zero_le _⟩
theorem Sh.non {n : Nat} : Sh n .none := ⟨rfl, Nat.zero_le _⟩
theorem Sh.bl {n : Nat} (b : Bool) : Sh n (.bool b) := ⟨rfl, Nat.zero_le _⟩
theorem Sh.str {n : Nat} {x : Str} (h : PyData.strOk x = true) : Sh n (.str x) := ⟨h, Nat.zero_le _⟩
theorem Sh.strs {n : Nat} {xs : List Str} (h : ∀ x ∈ xs, PyData.strOk x = true) : Sh (n + 1) (.list (xs.map PyData.str)) := Sh.list fun d hd => by
  obtain ⟨x, hx, rfl⟩ := List.mem_map.mp hd
  exact Sh.str (h x hx)
theorem Sh.ints {n : Nat} {xs : List Int} : Sh (n + 1) (.list (xs.map PyData.int)) := Sh.list fun d hd => by
  obtain ⟨x, hx, rfl⟩ := List.mem_map.mp hd
  exact Sh.int x

/-! ### readings, in order -/
def kB (x : V) (H : Hp) (R : Bool → Hp → Prop) : Prop := ∃ k, x = .bl k ∧ R k H
def kTup (xs : List V) (H : Hp) (Q : VK) : Prop := xs.length ≤ sizeLine ∧ ∀ p, H p = none → Q (.ref p) (upd H p (.tup xs))
def kLst (xs : List V) (H : Hp) (Q : VK) : Prop := xs.length ≤ sizeLine ∧ ∀ p, H p = none → Q (.ref p) (upd H p (.lst xs))
def kBM (K : PySem.W.Frag) (T : String) (r : V → List V → Hp → VK → Prop) (t : TA) (σ : L2.St) (x : V) (H : Hp) (Q : VK) : Prop := tyV K T x H ∧ t σ H fun xs H2 => r x xs H2 Q
section
variable {K : PySem.W.Frag} {σ : L2.St} {F : Hp} {O O' : Own} {H : Hp} {Q : VK} {ta tb tc te : TE} {x y v : V} {D : Ends} {t1 t2 : TS}
theorem g_var {i : Nat} (h : σ[i]? = some (some v)) (q : Q v H) : tVar i σ H Q := ⟨v, h, q⟩
theorem g_c (q : Q v H) : tC v σ H Q := q
theorem g_op {r : R2} (q : ta σ H fun x H1 => tb σ H1 fun y H2 => r x y H2 Q) : tOp r ta tb σ H Q := q
theorem g_un {r : V → Hp → VK → Prop} (q : ta σ H fun x H1 => r x H1 Q) : tUn r ta σ H Q := q
theorem g_cons {tr : TA} {QA : List V → Hp → Prop} (q : ta σ H fun x H1 => tr σ H1 fun xs H2 => QA (x :: xs) H2) : tCons ta tr σ H QA := q
theorem g_nil {QA : List V → Hp → Prop} (q : QA [] H) : tNil σ H QA := q
theorem g_cb {r : List V → Hp → VK → Prop} {t : TA} (q : t σ H fun vs H1 => r vs H1 Q) : tCB r t σ H Q := q
theorem g_call {sp : Sp} {E : XK} {t : TA} (q : t σ H fun vs H1 => sp vs H1 Q E) : tCall sp [] E t σ H Q := by
  unfold tCall
  simp only [List.append_nil]
  exact q
theorem g_tup {t : TA} (q : t σ H fun xs H1 => kTup xs H1 Q) : tTup t σ H Q := q
theorem g_lst {t : TA} (q : t σ H fun xs H1 => kLst xs H1 Q) : tLst t σ H Q := q
theorem g_bm {T : String} {r : V → List V → Hp → VK → Prop} {t : TA} (q : ta σ H fun x H1 => kBM K T r t σ x H1 Q) : tBM K T r ta t σ H Q := q
theorem g_bm0 {T : String} {r : V → List V → Hp → VK → Prop} (q : ta σ H fun x H1 => kBM K T r tNil σ x H1 Q) : tBM0 K T r ta σ H Q := q
theorem g_kbm {r : V → List V → Hp → VK → Prop} {t : TA} {a : Addr} {xs : List V} (h : H a = some (.lst xs)) (q : t σ H fun vs H2 => r (.ref a) vs H2 Q) : kBM K "list" r t σ (.ref a) H Q := ⟨.inl ⟨rfl, _, SqL.of h⟩, q⟩
theorem g_ktup {xs : List V} (hl : xs.length ≤ sizeLine) (hH : Has F O H) (q : ∀ p H', H p = none → Has F ((p, .tup xs) :: O) H' → Q (.ref p) H') : kTup xs H Q := ⟨hl, fun p n => q p _ n (hH.new n)⟩
theorem g_klst {xs : List V} (hl : xs.length ≤ sizeLine) (hH : Has F O H) (q : ∀ p H', H p = none → Has F ((p, .lst xs) :: O) H' → Q (.ref p) H') : kLst xs H Q := ⟨hl, fun p n => q p _ n (hH.new n)⟩
/-- a tuple that stands still at once -/
theorem g_ktupF {xs : List V} (hl : xs.length ≤ sizeLine) (hH : Has F O H) (q : ∀ p H' F', H p = none → Same F F' → F' p = some (.tup xs) → Has F' O H' → Q (.ref p) H') : kTup xs H Q :=
  ⟨hl, fun p n => q p _ (upd F p (.tup xs)) n (same_upd (hH.same.free n)) upd_same (hH.new n).frz⟩
theorem g_klstF {xs : List V} (hl : xs.length ≤ sizeLine) (hH : Has F O H) (q : ∀ p H' F', H p = none → Same F F' → F' p = some (.lst xs) → Has F' O H' → Q (.ref p) H') : kLst xs H Q :=
  ⟨hl, fun p n => q p _ (upd F p (.lst xs)) n (same_upd (hH.same.free n)) upd_same (hH.new n).frz⟩
theorem g_seq (h : t1 { D with nx := t2 D } σ H) : tSeq t1 t2 D σ H := h
theorem g_asg {g : TG} (q : te σ H fun x H1 => g x σ H1 D.nx) : tAsg te g D σ H := q
theorem g_name {i : Nat} {R : L2.St → Hp → Prop} (q : R (σ.set i (some v)) H) : gName i v σ H R := q
theorem g_drop (q : te σ H fun _ H1 => D.nx σ H1) : tDrop te D σ H := q
theorem g_ret (q : te σ H fun x H1 => D.rt x H1) : tRet te D σ H := q
theorem g_retN (q : D.rt .non H) : tRetN D σ H := q
theorem g_next (q : D.nx σ H) : tNext D σ H := q
theorem g_brk (q : D.bk σ H) : tBreak D σ H := q
theorem g_cont (q : D.ct σ H) : tCont D σ H := q
theorem g_if {c : TT} (q : c σ H fun b H1 => if b = true then t1 D σ H1 else t2 D σ H1) : tIfS c t1 t2 D σ H := q
theorem g_aug {i : Nat} {ti : TIp} (h : σ[i]? = some (some x)) (q : te σ H fun y H1 => ti x y H1 fun z H2 => D.nx (σ.set i (some z)) H2) : tAug i te ti D σ H := ⟨x, h, q⟩
theorem g_ipI {f : Int → Int → Int} {i j : Int} (q : Q (.int (f i j)) H) : ipI f (.int i) (.int j) H Q := ⟨i, j, rfl, rfl, q⟩
theorem g_test {R : Bool → Hp → Prop} (q : te σ H fun x H1 => kB x H1 R) : tTest te σ H R := q
theorem g_tB {R : Bool → Hp → Prop} (q : te σ H fun x H1 => kB x H1 R) : tB te σ H R := q
theorem g_kB {b : Bool} {R : Bool → Hp → Prop} (q : R b H) : kB (.bl b) H R := ⟨b, rfl, q⟩
theorem g_not {t : TT} {R : Bool → Hp → Prop} (q : t σ H fun c H1 => R (!c) H1) : tNot t σ H R := q
theorem g_and {t u : TT} {R : Bool → Hp → Prop} (q : t σ H fun c H1 => if c = true then u σ H1 R else R false H1) : tAnd t u σ H R := q
theorem g_or {t u : TT} {R : Bool → Hp → Prop} (q : t σ H fun c H1 => if c = true then R true H1 else u σ H1 R) : tOr t u σ H R := q
theorem g_andV (q : ta σ H fun x H1 => kB x H1 fun c H2 => if c = true then tb σ H2 Q else Q (.bl false) H2) : tAndV ta tb σ H Q := q
theorem g_orV (q : ta σ H fun x H1 => kB x H1 fun c H2 => if c = true then Q (.bl true) H2 else tb σ H2 Q) : tOrV ta tb σ H Q := q
theorem g_notV (q : ta σ H fun x H1 => kB x H1 fun c H2 => Q (.bl (!c)) H2) : tNotV ta σ H Q := q
theorem g_ifE {t : TT} (q : t σ H fun c H1 => if c = true then ta σ H1 Q else tb σ H1 Q) : tIf t ta tb σ H Q := q
theorem i_d {c A B : Prop} [Decidable c] (h1 : c → A) (h2 : ¬ c → B) : if decide c = true then A else B := by
  by_cases h : c
  · rw [if_pos (decide_eq_true h)]
    exact h1 h
  · rw [if_neg (by rw [decide_eq_false h]; exact Bool.false_ne_true)]
    exact h2 h
theorem i_n {c A B : Prop} [Decidable c] (h1 : ¬ c → A) (h2 : c → B) : if (!decide c) = true then A else B := by
  by_cases h : c
  · rw [decide_eq_true h, if_neg (by decide)]
    exact h2 h
  · rw [decide_eq_false h, if_pos (by decide)]
    exact h1 h
theorem i_b {b : Bool} {A B : Prop} (h1 : b = true → A) (h2 : b = false → B) : if b = true then A else B := by
  cases b with
  | true => rw [if_pos rfl]; exact h1 rfl
  | false => rw [if_neg Bool.false_ne_true]; exact h2 rfl
theorem i_nb {b : Bool} {A B : Prop} (h1 : b = false → A) (h2 : b = true → B) : if (!b) = true then A else B := by
  cases b with
  | false =>
    show (if true = true then A else B)
    rw [if_pos rfl]
    exact h1 rfl
  | true =>
    show (if false = true then A else B)
    rw [if_neg Bool.false_ne_true]
    exact h2 rfl
/-- a test by its answer -/
theorem g_bool {t : TT} {R : Bool → Hp → Prop} (b : Bool) (h : ∀ R : Bool → Hp → Prop, R b H → t σ H R) (q : R b H) : t σ H R := h R q

/-! ### operators -/
def rAdd (K : PySem.W.Frag) : R2 := fun x y H Q => (rI0 (fun i j => .int (i + j)) x y H Q ∨ ∃ i j, x = .str i ∧ y = .str j ∧ i.length + j.length ≤ sizeLine ∧ Q (.str (i ++ j)) H) ∨ rCat x y H Q ∨ rCatA K x y H Q
theorem g_addI {i j : Int} (q : Q (.int (i + j)) H) : rAdd K (.int i) (.int j) H Q := .inl (.inl ⟨i, j, rfl, rfl, q⟩)
theorem g_addS {i j : Str} (hl : i.length + j.length ≤ sizeLine) (q : Q (.str (i ++ j)) H) : rAdd K (.str i) (.str j) H Q := .inl (.inr ⟨i, j, rfl, rfl, hl, q⟩)
theorem g_addL {a b : Addr} {xs ys : List V} (h1 : H a = some (.lst xs)) (h2 : H b = some (.lst ys)) (hl : xs.length + ys.length ≤ sizeLine) (hH : Has F O H) (q : ∀ p H', H p = none → Has F ((p, .lst (xs ++ ys)) :: O) H' → Q (.ref p) H') : rAdd K (.ref a) (.ref b) H Q :=
  .inr (.inl ⟨a, b, xs, ys, rfl, rfl, h1, h2, hl, fun p n => q p _ n (hH.new n)⟩)
theorem g_rI0 {g : Int → Int → V} {i j : Int} (q : Q (g i j) H) : rI0 g (.int i) (.int j) H Q := ⟨i, j, rfl, rfl, q⟩
theorem g_rI {C : Int → Int → Prop} {g : Int → Int → V} {i j : Int} (hc : C i j) (q : Q (g i j) H) : rI C g (.int i) (.int j) H Q := ⟨i, j, rfl, rfl, hc, q⟩
theorem g_rU {g : Int → V} {i : Int} (q : Q (g i) H) : rU g (.int i) H Q := ⟨i, rfl, q⟩
def rMul : R2 := fun x y H Q => rI CMul (fun i j => .int (i * j)) x y H Q ∨ rRep x y H Q
theorem g_mulI {i j : Int} (hc : CMul i j) (q : Q (.int (i * j)) H) : rMul (.int i) (.int j) H Q := .inl ⟨i, j, rfl, rfl, hc, q⟩
theorem g_mulL {a : Addr} {k : Int} {xs : List V} (h : H a = some (.lst xs)) (h1 : -(2 ^ 63) ≤ k) (h2 : k < 2 ^ 63) (hl : xs.length * k.toNat ≤ sizeLine) (hH : Has F O H)
    (q : ∀ p H', H p = none → Has F ((p, .lst (List.replicate k.toNat xs).flatten) :: O) H' → Q (.ref p) H') : rMul (.ref a) (.int k) H Q := .inr ⟨a, k, xs, rfl, rfl, h, h1, h2, hl, fun p n => q p _ n (hH.new n)⟩
def rEqA (K : PySem.W.Frag) : R2 := fun x y H Q => rEq x y H Q ∨ rEqD K x y H Q
def rNeA (K : PySem.W.Frag) : R2 := fun x y H Q => rNe x y H Q ∨ rNeD K x y H Q
theorem g_eqI {i j : Int} (q : Q (.bl (decide (i = j))) H) : rEqA K (.int i) (.int j) H Q := .inl ⟨rfl, by rw [dec_int, Bool.beq_eq_decide_eq]; exact q⟩
theorem g_eqS {i j : Str} (q : Q (.bl (decide (i = j))) H) : rEqA K (.str i) (.str j) H Q := .inl ⟨rfl, by rw [dec_str, Bool.beq_eq_decide_eq]; exact q⟩
theorem g_neI {i j : Int} (q : Q (.bl (!decide (i = j))) H) : rNeA K (.int i) (.int j) H Q := .inl ⟨rfl, by rw [dec_int, Bool.beq_eq_decide_eq]; exact q⟩
theorem g_neS {i j : Str} (q : Q (.bl (!decide (i = j))) H) : rNeA K (.str i) (.str j) H Q := .inl ⟨rfl, by rw [dec_str, Bool.beq_eq_decide_eq]; exact q⟩
theorem g_eqD {d e : PyData} (hx : Dq H x d) (hy : Dq H y e) (sd : SeqAt.shaped d = true) (se : SeqAt.shaped e = true) (q : Q (.bl (PyData.eqv d e)) H) : rEqA K x y H Q := .inr ⟨d, e, hx.dp K d x, hy.dp K e y, sd, se, q⟩
theorem g_neD {d e : PyData} (hx : Dq H x d) (hy : Dq H y e) (sd : SeqAt.shaped d = true) (se : SeqAt.shaped e = true) (q : Q (.bl (!PyData.eqv d e)) H) : rNeA K x y H Q := .inr ⟨d, e, hx.dp K d x, hy.dp K e y, sd, se, q⟩
def rIsN : R2 := fun x y H Q => y = .non ∧ Q (.bl (decide (x = .non))) H
def rNotN : R2 := fun x y H Q => y = .non ∧ Q (.bl (!decide (x = .non))) H
theorem g_isN (q : Q (.bl (decide (x = .non))) H) : rIsN x .non H Q := ⟨rfl, q⟩
theorem g_notN (q : Q (.bl (!decide (x = .non))) H) : rNotN x .non H Q := ⟨rfl, q⟩
def rIxD : R2 := fun x y H Q => ∃ a v, x = .ref a ∧ DGet H a y (some v) ∧ Q v H
def rIxA (K : PySem.W.Frag) : R2 := fun x y H Q => rIx K x y H Q ∨ rIxD x y H Q
theorem g_ixL {a : Addr} {xs : List V} {i : Int} (h : H a = some (.lst xs)) (ha : atI xs i = some v) (q : Q v H) : rIxA K (.ref a) (.int i) H Q := .inl <| .inl ⟨a, xs, i, v, rfl, rfl, SqL.of h, ha, q⟩
theorem g_ixT {a : Addr} {xs : List V} {i : Int} (h : H a = some (.tup xs)) (ha : atI xs i = some v) (q : Q v H) : rIxA K (.ref a) (.int i) H Q := .inl (.inr (.inl ⟨a, xs, i, v, rfl, rfl, SqT.of h, ha, q⟩))
theorem g_ixS {z : Str} {i : Int} {c : Nat} (hl : z.length ≤ sizeLine) (ha : atI z.cps.toList i = some c) (q : Q (.str ⟨#[c]⟩) H) : rIxA K (.str z) (.int i) H Q := .inl (.inr (.inr ⟨z, i, c, rfl, rfl, hl, ha, q⟩))
theorem at_n {xs : List V} {i : Int} (h0 : 0 ≤ i) (h : xs[i.toNat]? = some v) : atI xs i = some v := by
  have e : i = (i.toNat : Int) := by omega
  rw [e]
  exact atI_nat h

/-! ### calls of what is built in -/
def rLen (K : PySem.W.Frag) : List V → Hp → VK → Prop := fun xs H Q => (∃ p ys, xs = [.ref p] ∧ (SqL K H p ys ∨ SqT K H p ys) ∧ Q (.int ys.length) H) ∨ ∃ z, xs = [.str z] ∧ z.length ≤ sizeLine ∧ Q (.int z.length) H
theorem g_lenL {a : Addr} {xs : List V} (h : H a = some (.lst xs)) (q : Q (.int (xs.length : Int)) H) : rLen K [.ref a] H Q := .inl ⟨a, xs, rfl, .inl (SqL.of h), q⟩
theorem g_lenT {a : Addr} {xs : List V} (h : H a = some (.tup xs)) (q : Q (.int (xs.length : Int)) H) : rLen K [.ref a] H Q := .inl ⟨a, xs, rfl, .inr (SqT.of h), q⟩
theorem g_lenS {z : Str} (h : z.length ≤ sizeLine) (q : Q (.int (z.length : Int)) H) : rLen K [.str z] H Q := .inr ⟨z, rfl, h, q⟩
def rInt1 : List V → Hp → VK → Prop := fun xs H Q => (∃ i, xs = [.int i] ∧ Q (.int i) H) ∨ ∃ k, xs = [.bl k] ∧ Q (.int (if k then 1 else 0)) H
theorem g_int {i : Int} (q : Q (.int i) H) : rInt1 [.int i] H Q := .inl ⟨i, rfl, q⟩
theorem g_intB {k : Bool} (q : Q (.int (if k then 1 else 0)) H) : rInt1 [.bl k] H Q := .inr ⟨k, rfl, q⟩
def rAbs1 : List V → Hp → VK → Prop := fun xs H Q => ∃ i, xs = [.int i] ∧ Q (.int (if i < 0 then -i else i)) H
theorem g_abs {i : Int} (q : ∀ j : Int, 0 ≤ j → Q (.int j) H) : rAbs1 [.int i] H Q := ⟨i, rfl, q _ (by split <;> omega)⟩
def rMax2 : List V → Hp → VK → Prop := fun xs H Q => ∃ i j, xs = [.int i, .int j] ∧ Q (.int (if j > i then j else i)) H
theorem g_max2 {i j : Int} (q : Q (.int (max i j)) H) : rMax2 [.int i, .int j] H Q := ⟨i, j, rfl, by
  have e : (if j > i then j else i) = max i j := by split <;> omega
  rw [e]
  exact q⟩
def rListOf (K : PySem.W.Frag) : List V → Hp → VK → Prop := fun xs H Q => ∃ p ys, xs = [.ref p] ∧ (SqL K H p ys ∨ SqT K H p ys) ∧ ∀ l, H l = none → Q (.ref l) (upd H l (.lst ys))
theorem g_listL {a : Addr} {xs : List V} (h : H a = some (.lst xs)) (hH : Has F O H) (q : ∀ p H', H p = none → Has F ((p, .lst xs) :: O) H' → Q (.ref p) H') : rListOf K [.ref a] H Q := ⟨a, xs, rfl, .inl (SqL.of h), fun p n => q p _ n (hH.new n)⟩
theorem g_listT {a : Addr} {xs : List V} (h : H a = some (.tup xs)) (hH : Has F O H) (q : ∀ p H', H p = none → Has F ((p, .lst xs) :: O) H' → Q (.ref p) H') : rListOf K [.ref a] H Q := ⟨a, xs, rfl, .inr (SqT.of h), fun p n => q p _ n (hH.new n)⟩
def rTupleOf (K : PySem.W.Frag) : List V → Hp → VK → Prop := fun xs H Q => ∃ p ys, xs = [.ref p] ∧ ((SqL K H p ys ∧ ∀ l, H l = none → Q (.ref l) (upd H l (.tup ys))) ∨ (SqT K H p ys ∧ Q (.ref p) H))
theorem g_tupleL {a : Addr} {xs : List V} (h : H a = some (.lst xs)) (hH : Has F O H) (q : ∀ p H' F', H p = none → Same F F' → F' p = some (.tup xs) → Has F' O H' → Q (.ref p) H') : rTupleOf K [.ref a] H Q :=
  ⟨a, xs, rfl, .inl ⟨SqL.of h, fun p n => q p _ (upd F p (.tup xs)) n (same_upd (hH.same.free n)) upd_same (hH.new n).frz⟩⟩
theorem g_tupleT {a : Addr} {xs : List V} (h : H a = some (.tup xs)) (q : Q (.ref a) H) : rTupleOf K [.ref a] H Q := ⟨a, xs, rfl, .inr ⟨SqT.of h, q⟩⟩

/-! ### methods of lists, stores -/
theorem g_append {a : Addr} {xs : List V} (hH : Has F O H) (c : Chg O a (.lst xs) (.lst (xs ++ [y])) O') (hl : xs.length < sizeLine) (q : ∀ H', Has F O' H' → Q .non H') : rAppend (.ref a) [y] H Q :=
  ⟨a, xs, y, rfl, rfl, hH.get c.mem, hl, q _ (hH.put c)⟩
theorem g_popAt {a : Addr} {xs : List V} {i : Int} {k : Nat} (hH : Has F O H) (c : Chg O a (.lst xs) (.lst (xs.eraseIdx k)) O') (h1 : -(2 ^ 63) ≤ i) (h2 : i < 2 ^ 63) (hk : seqIndex? i xs.length = some k) (hy : xs[k]? = some y)
    (q : ∀ H', Has F O' H' → Q y H') : rPopAt (.ref a) [.int i] H Q := ⟨a, xs, i, k, y, rfl, rfl, hH.get c.mem, h1, h2, hk, hy, q _ (hH.put c)⟩
theorem g_clear {a : Addr} {xs : List V} (hH : Has F O H) (c : Chg O a (.lst xs) (.lst []) O') (q : ∀ H', Has F O' H' → Q .non H') : rClear (.ref a) [] H Q := ⟨a, xs, rfl, rfl, hH.get c.mem, q _ (hH.put c)⟩
/-- o[i] = v -/
def kSet (t : TSet) (R : L2.St → Hp → Prop) (σ : L2.St) (o i v : V) (H : Hp) : Prop := t o i v H fun H3 => R σ H3
theorem g_sub {to ti : TE} {t : TSet} {R : L2.St → Hp → Prop} (q : to σ H fun o H1 => ti σ H1 fun i H2 => kSet t R σ o i v H2) : gSub to ti t v σ H R := q
theorem g_setL {R : L2.St → Hp → Prop} {a : Addr} {xs : List V} {k : Int} {j : Nat} (hH : Has F O H) (c : Chg O a (.lst xs) (.lst (xs.set j v)) O') (hj : ixN xs.length k = some j) (q : ∀ H', Has F O' H' → R σ H') : kSet rSetL R σ (.ref a) (.int k) v H :=
  ⟨a, xs, k, j, rfl, rfl, hH.get c.mem, hj, q _ (hH.put c)⟩
theorem ixN_nat {n : Nat} {k : Int} (h0 : 0 ≤ k) (h : k < n) : ixN n k = some k.toNat := by
  unfold ixN
  rw [if_pos h0, if_pos h]
/-- a, b = a tuple -/
theorem g_gtup {n : Nat} {t : TGs} {a : Addr} {xs : List V} {R : L2.St → Hp → Prop} (h : H a = some (.tup xs)) (hl : xs.length = n) (q : t xs σ H R) : gTup K n t (.ref a) σ H R := ⟨a, xs, rfl, SqT.of h, hl, q⟩
theorem g_gcons {t : TG} {u : TGs} {r : List V} {R : L2.St → Hp → Prop} (q : t v σ H fun σ' H' => u r σ' H' R) : gCons t u (v :: r) σ H R := ⟨v, r, rfl, q⟩
theorem g_gnil {R : L2.St → Hp → Prop} (q : R σ H) : gNil [] σ H R := ⟨rfl, q⟩
/-- slices -/
def kSl (r : V → Option Int → Option Int → Hp → VK → Prop) (tl th : TO) (σ : L2.St) (x : V) (H : Hp) (Q : VK) : Prop := tl σ H fun l H2 => th σ H2 fun u H3 => r x l u H3 Q
theorem g_sl {r : V → Option Int → Option Int → Hp → VK → Prop} {tl th : TO} (q : te σ H fun x H1 => kSl r tl th σ x H1 Q) : tSl r te tl th σ H Q := q
theorem g_kslN {r : V → Option Int → Option Int → Hp → VK → Prop} (q : r x none none H Q) : kSl r tNoPart tNoPart σ x H Q := q
theorem g_kslL {r : V → Option Int → Option Int → Hp → VK → Prop} {tl : TE} {i : Int} (q : tl σ H fun z H1 => ∃ i, z = .int i ∧ r x (some i) none H1 Q) : kSl r (tPart tl) tNoPart σ x H Q := q
theorem g_kslH {r : V → Option Int → Option Int → Hp → VK → Prop} {tl : TE} {i : Int} (q : tl σ H fun z H1 => ∃ i, z = .int i ∧ r x none (some i) H1 Q) : kSl r tNoPart (tPart tl) σ x H Q := q
def rRevL (K : PySem.W.Frag) (x : V) (H : Hp) (Q : VK) : Prop := ∃ a xs, x = .ref a ∧ SqL K H a xs ∧ ∀ p, H p = none → Q (.ref p) (upd H p (.lst xs.reverse))
end

/-! ### loops -/
def kW (J : It) (g : TG) (tb : TS) (D : Ends) (σ : L2.St) (H : Hp) : Prop := ∃ W : Nat → Nat → L2.St → Hp → Prop, (∃ m, W 0 m σ H) ∧ ∀ i m σ H, W i m σ H →
  (J.stop i H ∧ D.nx σ H) ∨ (J.go i H ∧ ∃ N : L2.St → Hp → Prop, (∀ σ' H', N σ' H' → ∃ m', m' < m ∧ W (i + 1) m' σ' H') ∧ ∀ x H', J.yld i H x H' → g x σ H' fun σ2 H2 => tb { D with nx := N, ct := N, bk := D.nx } σ2 H2)
def kForL (K : PySem.W.Frag) (g : TG) (tb : TS) (D : Ends) (σ : L2.St) (x : V) (H : Hp) : Prop := ∃ a, x = .ref a ∧ (∃ xs, SqL K H a xs) ∧ kW (Itl K a) g tb D σ H
def kForR1 (g : TG) (tb : TS) (D : Ends) (σ : L2.St) (vs : List V) (H : Hp) : Prop := ∃ j : Int, vs = [.int j] ∧ -(2 ^ 62) ≤ j ∧ j < 2 ^ 62 ∧ kW (Itr 0 j.toNat) g tb D σ H
def kForR2 (g : TG) (tb : TS) (D : Ends) (σ : L2.St) (vs : List V) (H : Hp) : Prop := ∃ i j : Int, vs = [.int i, .int j] ∧ (-(2 ^ 62) ≤ i ∧ i < 2 ^ 62 ∧ -(2 ^ 62) ≤ j ∧ j < 2 ^ 62) ∧ kW (Itr i (j - i).toNat) g tb D σ H
def kForR3 (g : TG) (tb : TS) (D : Ends) (σ : L2.St) (vs : List V) (H : Hp) : Prop := ∃ (i j c : Int) (n : Nat), vs = [.int i, .int j, .int c] ∧ RgC i j c n ∧ kW (Itc i c n) g tb D σ H
section
variable {K : PySem.W.Frag} {σ : L2.St} {F : Hp} {O O' : Own} {H : Hp} {Q : VK} {ta tb tc te : TE} {x y v : V} {D : Ends} {t1 t2 ts : TS} {g : TG}
theorem g_forL (q : te σ H fun x H1 => kForL K g ts D σ x H1) : tFor (iList K te) g ts D σ H := q
theorem g_forR1 {ta : TA} (q : ta σ H fun vs H1 => kForR1 g ts D σ vs H1) : tFor (iRng1 ta) g ts D σ H := q
theorem g_forR2 {ta : TA} (q : ta σ H fun vs H1 => kForR2 g ts D σ vs H1) : tFor (iRng2 ta) g ts D σ H := q
theorem g_forR3 {ta : TA} (q : ta σ H fun vs H1 => kForR3 g ts D σ vs H1) : tFor (iRng3 ta) g ts D σ H := q
theorem k_forL {a : Addr} {xs : List V} (h : H a = some (.lst xs)) (Pv : Nat → L2.St → Hp → Prop) (h0 : Pv 0 σ H) (hl : ∀ i σ H, i ≤ xs.length → Pv i σ H → H a = some (.lst xs))
    (hs : ∀ i x σ H, xs[i]? = some x → Pv i σ H → g x σ H fun σ2 H2 => ts { D with nx := Pv (i + 1), ct := Pv (i + 1), bk := D.nx } σ2 H2) (hd : ∀ σ H, Pv xs.length σ H → D.nx σ H) : kForL K g ts D σ (.ref a) H :=
  ⟨a, rfl, ⟨xs, SqL.of h⟩, for_list Pv h0 (fun i σ H hi p => SqL.of (hl i σ H hi p)) hs hd⟩
theorem k_forR1 {j : Int} (Pv : Nat → L2.St → Hp → Prop) (h1 : -(2 ^ 62) ≤ j) (h2 : j < 2 ^ 62) (h0 : Pv 0 σ H)
    (hs : ∀ i σ H, i < j.toNat → Pv i σ H → g (.int (i : Int)) σ H fun σ2 H2 => ts { D with nx := Pv (i + 1), ct := Pv (i + 1), bk := D.nx } σ2 H2) (hd : ∀ σ H, Pv j.toNat σ H → D.nx σ H) : kForR1 g ts D σ [.int j] H :=
  ⟨j, rfl, h1, h2, for_range Pv h0 (fun i σ H hi p => by rw [Int.zero_add]; exact hs i σ H hi p) hd⟩
/-- n - 1 down to 0 -/
theorem k_forDown {n : Nat} {j : Int} (hj : j = (n : Int) - 1) (hn : n < 2 ^ 60) (Pv : Nat → L2.St → Hp → Prop) (h0 : Pv n σ H)
    (hs : ∀ i σ H, i < n → Pv (i + 1) σ H → g (.int (i : Int)) σ H fun σ2 H2 => ts { D with nx := Pv i, ct := Pv i, bk := D.nx } σ2 H2) (hd : ∀ σ H, Pv 0 σ H → D.nx σ H) : kForR3 g ts D σ [.int j, .int (-1), .int (-1)] H := by
  subst hj
  have e : (((n : Int) - 1) - (-1)).toNat = n := by omega
  have rg := RgC.neg (i := (n : Int) - 1) (j := -1) (by omega) (by omega) (by decide) (by decide)
  rw [e] at rg
  refine ⟨_, _, _, n, rfl, rg, for_rangeC (fun i => Pv (n - i)) h0 (fun i σ H hi p => ?_) (fun σ H p => ?_)⟩
  · have e1 : (n : Int) - 1 + (i : Nat) * (-1) = ((n - (i + 1) : Nat) : Int) := by omega
    have e2 : n - i = (n - (i + 1)) + 1 := by omega
    rw [e1]
    have p' : Pv ((n - (i + 1)) + 1) σ H := by rw [← e2]; exact p
    exact hs _ σ H (by omega) p'
  · have p' : Pv (n - n) σ H := p
    rw [Nat.sub_self] at p'
    exact hd σ H p'
/-- while -/
def kWh (Pv : Nat → L2.St → Hp → Prop) (m : Nat) (tb : TS) (D : Ends) (σ : L2.St) (b : Bool) (H : Hp) : Prop := if b = true then ∃ N : L2.St → Hp → Prop, (∀ σ' H', N σ' H' → ∃ m', m' < m ∧ Pv m' σ' H') ∧ tb { D with nx := N, ct := N, bk := D.nx } σ H else D.nx σ H
theorem g_while {c : TT} (Pv : Nat → L2.St → Hp → Prop) (m : Nat) (h0 : Pv m σ H) (hs : ∀ m σ H, Pv m σ H → c σ H fun b H1 => kWh Pv m ts D σ b H1) : tWhile c ts D σ H := ⟨Pv, ⟨m, h0⟩, hs⟩
theorem kwh_t {Pv : Nat → L2.St → Hp → Prop} {m : Nat} (q : ts { D with nx := fun σ' H' => ∃ m', m' < m ∧ Pv m' σ' H', ct := fun σ' H' => ∃ m', m' < m ∧ Pv m' σ' H', bk := D.nx } σ H) : kWh Pv m ts D σ true H := by
  unfold kWh
  rw [if_pos rfl]
  exact ⟨_, fun _ _ h => h, q⟩
theorem kwh_f {Pv : Nat → L2.St → Hp → Prop} {m : Nat} (q : D.nx σ H) : kWh Pv m ts D σ false H := by
  unfold kWh
  rw [if_neg Bool.false_ne_true]
  exact q

/-! ### list comprehensions -/
def kLc (J : It) (g : TG) (tt : TT) (te : TE) (vs : List Nat) (σ : L2.St) (H1 : Hp) (Q : VK) : Prop := ∀ D, H1 D = none → ∃ W : Nat → Nat → Hp → Prop, (∃ m, W 0 m (upd H1 D (.lst []))) ∧ ∀ i m H, W i m H →
  (J.stop i H ∧ Q (.ref D) H) ∨ (J.go i H ∧ ∃ Nx : Hp → Prop, (∀ H', Nx H' → ∃ m', m' < m ∧ W (i + 1) m' H') ∧ ∀ x H', J.yld i H x H' → g x (wipe σ vs) H' fun σ2 H2 => wipe σ2 vs = wipe σ vs ∧ tt σ2 H2 fun b H3 =>
    if b = true then te σ2 H3 fun y H4 => ∃ acc, H4 D = some (.lst acc) ∧ acc.length < sizeLine ∧ Nx (upd H4 D (.lst (acc ++ [y]))) else Nx H3)
def kLcL (K : PySem.W.Frag) (g : TG) (tt : TT) (te : TE) (vs : List Nat) (σ : L2.St) (x : V) (H : Hp) (Q : VK) : Prop := ∃ a, x = .ref a ∧ (∃ xs, SqL K H a xs) ∧ kLc (Itl K a) g tt te vs σ H Q
def kLcR1 (g : TG) (tt : TT) (te : TE) (ws : List Nat) (σ : L2.St) (vs : List V) (H : Hp) (Q : VK) : Prop := ∃ j : Int, vs = [.int j] ∧ -(2 ^ 62) ≤ j ∧ j < 2 ^ 62 ∧ kLc (Itr 0 j.toNat) g tt te ws σ H Q
theorem g_lcL {tt : TT} {vs : List Nat} (q : ta σ H fun x H1 => kLcL K g tt te vs σ x H1 Q) : tLc (iList K ta) g tt te vs σ H Q := q
theorem g_lcR1 {ta : TA} {tt : TT} {vs : List Nat} (q : ta σ H fun xs H1 => kLcR1 g tt te vs σ xs H1 Q) : tLc (iRng1 ta) g tt te vs σ H Q := q
/-- what a turn is to leave -/
def kNx (S : Nat → List V → Hp → Own → Prop) (i : Nat) (D : Addr) (H : Hp) : Prop := ∃ acc F' O', S (i + 1) acc F' O' ∧ Has F' ((D, .lst acc) :: O') H
def kTurn (D : Addr) (Nx : Hp → Prop) (y : V) (H : Hp) : Prop := ∃ acc, H D = some (.lst acc) ∧ acc.length < sizeLine ∧ Nx (upd H D (.lst (acc ++ [y])))
theorem k_turn {S : Nat → List V → Hp → Own → Prop} {i : Nat} {D : Addr} {acc : List V} {y : V} {H : Hp} {F : Hp} {O : Own} (h : Has F ((D, .lst acc) :: O) H) (hl : acc.length ≤ 100000) (s : S (i + 1) (acc ++ [y]) F O) : kTurn D (kNx S i D) y H :=
  ⟨acc, h.get (List.Mem.head _), by rw [sizeLine_eq]; omega, _, F, O, s, h.put .hd⟩
theorem k_skip {S : Nat → List V → Hp → Own → Prop} {i : Nat} {D : Addr} {acc : List V} {H : Hp} {F : Hp} {O : Own} (h : Has F ((D, .lst acc) :: O) H) (s : S (i + 1) acc F O) : kNx S i D H := ⟨acc, F, O, s, h⟩
theorem k_lc {J : It} {tt : TT} {vs : List Nat} (hH : Has F O H) (n : Nat) (S : Nat → List V → Hp → Own → Prop) (h0 : S 0 [] F O)
    (go : ∀ i acc F O D H, i < n → S i acc F O → Has F ((D, .lst acc) :: O) H → J.go i H) (stop : ∀ acc F O D H, S n acc F O → Has F ((D, .lst acc) :: O) H → J.stop n H)
    (hs : ∀ i x acc F O D H H', i < n → J.yld i H x H' → S i acc F O → Has F ((D, .lst acc) :: O) H → g x (wipe σ vs) H' fun σ2 H2 => wipe σ2 vs = wipe σ vs ∧ tt σ2 H2 fun b H3 => if b = true then te σ2 H3 fun y H4 => kTurn D (kNx S i D) y H4 else kNx S i D H3)
    (hd : ∀ acc F O D H, S n acc F O → Has F ((D, .lst acc) :: O) H → Q (.ref D) H) : kLc J g tt te vs σ H Q := by
  intro D hD
  refine ⟨fun i m H => m = n - i ∧ i ≤ n ∧ ∃ acc F O, S i acc F O ∧ Has F ((D, .lst acc) :: O) H, ⟨n, by simp, Nat.zero_le _, [], F, O, h0, hH.new hD⟩, ?_⟩
  rintro i m H1 ⟨rfl, hi, acc, F1, O1, s1, hH1⟩
  by_cases hlt : i < n
  · exact .inr ⟨go i acc F1 O1 D H1 hlt s1 hH1, kNx S i D, fun H' p => ⟨n - (i + 1), by omega, rfl, hlt, p⟩, fun x H' y => hs i x acc F1 O1 D H1 H' hlt y s1 hH1⟩
  · have e : i = n := by omega
    subst e
    exact .inl ⟨stop acc F1 O1 D H1 s1 hH1, hd acc F1 O1 D H1 s1 hH1⟩
/-- over a list that stands still -/
theorem k_lcL {a : Addr} {xs : List V} {tt : TT} {vs : List Nat} (h : H a = some (.lst xs)) (hH : Has F O H) (S : Nat → List V → Hp → Own → Prop) (h0 : S 0 [] F O) (hl : ∀ i acc F O H, S i acc F O → Has F O H → H a = some (.lst xs))
    (hs : ∀ i x acc F O D H, xs[i]? = some x → S i acc F O → Has F ((D, .lst acc) :: O) H → g x (wipe σ vs) H fun σ2 H2 => wipe σ2 vs = wipe σ vs ∧ tt σ2 H2 fun b H3 => if b = true then te σ2 H3 fun y H4 => kTurn D (kNx S i D) y H4 else kNx S i D H3)
    (hd : ∀ acc F O D H, S xs.length acc F O → Has F ((D, .lst acc) :: O) H → Q (.ref D) H) : kLcL K g tt te vs σ (.ref a) H Q := by
  refine ⟨a, rfl, ⟨xs, SqL.of h⟩, k_lc hH xs.length S h0 (fun i acc F O D H hi s hh => ?_) (fun acc F O D H s hh => ?_) (fun i x acc F O D H H' hi y s hh => ?_) hd⟩
  · exact ⟨xs, xs[i], SqL.of (hl i acc F O H s hh.drop), List.getElem?_eq_getElem hi⟩
  · exact ⟨xs, SqL.of (hl _ acc F O H s hh.drop), Nat.le_refl _⟩
  · obtain ⟨e, y⟩ := y
    subst e
    exact hs i x acc F O D _ (y xs (SqL.of (hl i acc F O _ s hh.drop))) s hh
theorem k_lcR1 {j : Int} {tt : TT} {vs : List Nat} (h1 : -(2 ^ 62) ≤ j) (h2 : j < 2 ^ 62) (hH : Has F O H) (S : Nat → List V → Hp → Own → Prop) (h0 : S 0 [] F O)
    (hs : ∀ i acc F O D H, i < j.toNat → S i acc F O → Has F ((D, .lst acc) :: O) H → g (.int (i : Int)) (wipe σ vs) H fun σ2 H2 => wipe σ2 vs = wipe σ vs ∧ tt σ2 H2 fun b H3 => if b = true then te σ2 H3 fun y H4 => kTurn D (kNx S i D) y H4 else kNx S i D H3)
    (hd : ∀ acc F O D H, S j.toNat acc F O → Has F ((D, .lst acc) :: O) H → Q (.ref D) H) : kLcR1 g tt te vs σ [.int j] H Q := by
  refine ⟨j, rfl, h1, h2, k_lc hH j.toNat S h0 (fun i acc F O D H hi s hh => hi) (fun acc F O D H s hh => Nat.le_refl _) (fun i x acc F O D H H' hi y s hh => ?_) hd⟩
  obtain ⟨e, y⟩ := y
  subst e y
  rw [Int.zero_add]
  exact hs i acc F O D _ hi s hh
end

/-! ### the rules' own soundness: one operator for several kinds -/
section
variable {X : Cx}
theorem op_addA : OpR X (binaryOp .Add) (rAdd X.K) := by
  intro pins s σ H x y v u Q I rx ry h
  rcases h with (h | h) | h | h
  · exact op_add pins s σ H x y v u Q I rx ry h
  · exact op_add_str pins s σ H x y v u Q I rx ry h
  · exact op_cat pins s σ H x y v u Q I rx ry h
  · exact op_catA pins s σ H x y v u Q I rx ry h
theorem op_mulA : OpR X (binaryOp .Mult) rMul := by
  intro pins s σ H x y v u Q I rx ry h
  rcases h with h | h
  · exact op_mul pins s σ H x y v u Q I rx ry h
  · exact op_rep pins s σ H x y v u Q I rx ry h
theorem op_eqA (hu : X.A.units + 64 < cLine) : OpR X (compareOp .Eq) (rEqA X.K) := by
  intro pins s σ H x y v u Q I rx ry h
  rcases h with h | h
  · exact op_eq pins s σ H x y v u Q I rx ry h
  · exact op_eqD hu pins s σ H x y v u Q I rx ry h
theorem op_neA (hu : X.A.units + 64 < cLine) : OpR X (compareOp .NotEq) (rNeA X.K) := by
  intro pins s σ H x y v u Q I rx ry h
  rcases h with h | h
  · exact op_ne pins s σ H x y v u Q I rx ry h
  · exact op_neD hu pins s σ H x y v u Q I rx ry h
theorem op_isNA : OpR X (compareOp .Is) rIsN := op_isN
theorem op_notNA : OpR X (compareOp .IsNot) rNotN := op_notN
theorem cr_len : CallR X (.builtin "len") (rLen X.K) := by
  intro pins s σ H xs us Q I r h
  rcases h with h | h
  · exact call_len_seq pins s σ H xs us Q I r h
  · exact call_len_str pins s σ H xs us Q I r h
theorem cr_int1 : CallR X (.type "int") rInt1 := call_int1
theorem cr_abs1 : CallR X (.builtin "abs") rAbs1 := call_abs
theorem cr_max2 (hc : X.calm = true) : CallR X (.builtin "max") rMax2 := call_max2 hc
theorem cr_listOf : CallR X (.type "list") (rListOf X.K) := call_list_of
theorem cr_tupleOf : CallR X (.type "tuple") (rTupleOf X.K) := call_tuple_of
end

/-! ### dicts -/
def rInDc : R2 := fun x y H Q => ∃ a o, y = .ref a ∧ DGet H a x o ∧ Q (.bl o.isSome) H
def rNotInDc : R2 := fun x y H Q => ∃ a o, y = .ref a ∧ DGet H a x o ∧ Q (.bl (!o.isSome)) H
section
variable {X : Cx}
theorem op_inDc (hu : X.A.units + 1 < cLine) : OpR X (compareOp .In) rInDc := by
  intro pins s σ H x y v u Q I rx ry h
  obtain ⟨a, o, rfl, g, q⟩ := h
  cases ry
  exact d_in hu I g rx fun s' I' => ⟨.bl _, H, I', rfl, q⟩
theorem op_notinDc (hu : X.A.units + 1 < cLine) : OpR X (compareOp .NotIn) rNotInDc := by
  intro pins s σ H x y v u Q I rx ry h
  obtain ⟨a, o, rfl, g, q⟩ := h
  cases ry
  exact d_notIn hu I g rx fun s' I' => ⟨.bl _, H, I', rfl, q⟩
end
def kGet2 (ty tx : TE) (σ : L2.St) (x : V) (H : Hp) (Q : VK) : Prop := ∃ a, x = .ref a ∧ IsD H a ∧ ty σ H fun y H2 => tx σ H2 fun z H3 => ∃ o, DGet H3 a y o ∧ Q (o.getD z) H3
def kGot (a : Addr) (y z : V) (H : Hp) (Q : VK) : Prop := ∃ o, DGet H a y o ∧ Q (o.getD z) H
section
variable {K : PySem.W.Frag} {σ : L2.St} {F : Hp} {O O' : Own} {H : Hp} {Q : VK} {ta tb tc te : TE} {x y v : V} {D : Ends} {t1 t2 ts : TS} {g : TG}
theorem g_dnew (hH : Has F O H) (q : ∀ p H', H p = none → Has F ((p, .dK []) :: O) H' → Q (.ref p) H') : tDNewK σ H Q := fun p n => q p _ n (hH.new n)
theorem g_inDI {a : Addr} {kvs : List (Key × V)} {i : Int} (h : H a = some (.dK kvs)) (q : Q (.bl (valV kvs (.inl i)).isSome) H) : rInDc (.int i) (.ref a) H Q := ⟨a, _, rfl, DGet.k (k := .inl i) h, q⟩
theorem g_notinDI {a : Addr} {kvs : List (Key × V)} {i : Int} (h : H a = some (.dK kvs)) (q : Q (.bl (!(valV kvs (.inl i)).isSome)) H) : rNotInDc (.int i) (.ref a) H Q := ⟨a, _, rfl, DGet.k (k := .inl i) h, q⟩
theorem g_setDI {R : L2.St → Hp → Prop} {a : Addr} {kvs : List (Key × V)} {i : Int} (hH : Has F O H) (c : Chg O a (.dK kvs) (.dK (putK kvs (.inl i) v)) O') (hl : kvs.length < sizeLine) (q : ∀ H', Has F O' H' → R σ H') : kSet rSetD R σ (.ref a) (.int i) v H :=
  ⟨a, _, rfl, DPut.k (k := .inl i) (hH.get c.mem) hl, q _ (hH.put c)⟩
theorem g_get2 (q : ta σ H fun x H1 => kGet2 tb tc σ x H1 Q) : tDGet2 ta tb tc σ H Q := q
theorem g_kget2 {a : Addr} {kvs : List (Key × V)} (h : H a = some (.dK kvs)) (q : tb σ H fun y H2 => tc σ H2 fun z H3 => kGot a y z H3 Q) : kGet2 tb tc σ (.ref a) H Q := ⟨a, rfl, .inl ⟨kvs, .inl h⟩, q⟩
theorem g_kgotI {a : Addr} {kvs : List (Key × V)} {i : Int} {z : V} (h : H a = some (.dK kvs)) (q : Q ((valV kvs (.inl i)).getD z) H) : kGot a (.int i) z H Q := ⟨_, DGet.k (k := .inl i) h, q⟩
theorem g_kgotS {a : Addr} {kvs : List (Key × V)} {i : Str} {z : V} (h : H a = some (.dK kvs)) (q : Q ((valV kvs (.inr i)).getD z) H) : kGot a (.str i) z H Q := ⟨_, DGet.k (k := .inr i) h, q⟩
end

/-! ### in, not in; o[i] = v: any of the kinds -/
def rInA (K : PySem.W.Frag) : R2 := fun x y H Q => (rIn K false x y H Q ∨ rInDc x y H Q) ∨ (∃ i j, x = .str i ∧ y = .str j ∧ Q (.bl (!(Builtin.Str.occurrences j i 0 j.length 1).isEmpty)) H) ∨ rInD K x y H Q
def rNotInA (K : PySem.W.Frag) : R2 := fun x y H Q => (rIn K true x y H Q ∨ rNotInDc x y H Q) ∨ (∃ i j, x = .str i ∧ y = .str j ∧ Q (.bl (!(!(Builtin.Str.occurrences j i 0 j.length 1).isEmpty))) H) ∨ rNotInD K x y H Q
def rSetA : TSet := fun o i v H Q => rSetL o i v H Q ∨ rSetD o i v H Q
section
variable {X : Cx}
theorem op_inA (hu : X.A.units + 64 < cLine) (hu' : X.A.units + 65 < cLine) : OpR X (compareOp .In) (rInA X.K) := by
  intro pins s σ H x y v u Q I rx ry h
  rcases h with (h | h) | h | h
  · exact op_in_seq pins s σ H x y v u Q I rx ry h
  · exact op_inDc (by omega) pins s σ H x y v u Q I rx ry h
  · exact op_in_str pins s σ H x y v u Q I rx ry h
  · exact op_inD hu' pins s σ H x y v u Q I rx ry h
theorem op_notinA (hu : X.A.units + 64 < cLine) (hu' : X.A.units + 65 < cLine) : OpR X (compareOp .NotIn) (rNotInA X.K) := by
  intro pins s σ H x y v u Q I rx ry h
  rcases h with (h | h) | h | h
  · exact op_notIn_seq pins s σ H x y v u Q I rx ry h
  · exact op_notinDc (by omega) pins s σ H x y v u Q I rx ry h
  · exact L2.op_notIn_str pins s σ H x y v u Q I rx ry h
  · exact op_notInD hu' pins s σ H x y v u Q I rx ry h
theorem set_any (hu : X.A.units + 1 < cLine) : PSet X rSetA := by
  intro pins s σ H o i v ov iv u Q I ro ri rv h
  rcases h with h | h
  · exact set_list pins s σ H o i v ov iv u Q I ro ri rv h
  · exact set_dict hu pins s σ H o i v ov iv u Q I ro ri rv h
theorem u65 {k : Nat} {A : Around} (r : Room k A) : A.units + 65 < cLine := by have := r.un; omega
end
section
variable {K : PySem.W.Frag} {σ : L2.St} {F : Hp} {O O' : Own} {H : Hp} {Q : VK} {x y v : V}
theorem g_inFL {a : Addr} {xs : List V} (h : H a = some (.lst xs)) (hx : flatV x = true) (hf : xs.all flatV = true) (q : Q (.bl (inV x xs)) H) : rInA K x (.ref a) H Q := .inl (.inl ⟨a, xs, rfl, .inl (SqL.of h), hx, hf, q⟩)
theorem g_notinFL {a : Addr} {xs : List V} (h : H a = some (.lst xs)) (hx : flatV x = true) (hf : xs.all flatV = true) (q : Q (.bl (!inV x xs)) H) : rNotInA K x (.ref a) H Q := .inl (.inl ⟨a, xs, rfl, .inl (SqL.of h), hx, hf, q⟩)
theorem g_inI {a : Addr} {kvs : List (Key × V)} {i : Int} (h : H a = some (.dK kvs)) (q : Q (.bl (valV kvs (.inl i)).isSome) H) : rInA K (.int i) (.ref a) H Q := .inl (.inr ⟨a, _, rfl, DGet.k (k := .inl i) h, q⟩)
theorem g_notinI {a : Addr} {kvs : List (Key × V)} {i : Int} (h : H a = some (.dK kvs)) (q : Q (.bl (!(valV kvs (.inl i)).isSome)) H) : rNotInA K (.int i) (.ref a) H Q := .inl (.inr ⟨a, _, rfl, DGet.k (k := .inl i) h, q⟩)
theorem g_inS {a : Addr} {kvs : List (Key × V)} {i : Str} (h : H a = some (.dK kvs)) (q : Q (.bl (valV kvs (.inr i)).isSome) H) : rInA K (.str i) (.ref a) H Q := .inl (.inr ⟨a, _, rfl, DGet.k (k := .inr i) h, q⟩)
theorem g_notinS {a : Addr} {kvs : List (Key × V)} {i : Str} (h : H a = some (.dK kvs)) (q : Q (.bl (!(valV kvs (.inr i)).isSome)) H) : rNotInA K (.str i) (.ref a) H Q := .inl (.inr ⟨a, _, rfl, DGet.k (k := .inr i) h, q⟩)
theorem g_stL {R : L2.St → Hp → Prop} {a : Addr} {xs : List V} {k : Int} {j : Nat} (hH : Has F O H) (c : Chg O a (.lst xs) (.lst (xs.set j v)) O') (hj : ixN xs.length k = some j) (q : ∀ H', Has F O' H' → R σ H') : kSet rSetA R σ (.ref a) (.int k) v H :=
  .inl ⟨a, xs, k, j, rfl, rfl, hH.get c.mem, hj, q _ (hH.put c)⟩
theorem g_stD {R : L2.St → Hp → Prop} {a : Addr} {kvs : List (Key × V)} {k : Key} {z : V} (ez : z = kV k) (hH : Has F O H) (c : Chg O a (.dK kvs) (.dK (putK kvs k v)) O') (hl : kvs.length < sizeLine) (q : ∀ H', Has F O' H' → R σ H') : kSet rSetA R σ (.ref a) z v H := by
  subst ez
  exact .inr ⟨a, _, rfl, DPut.k (hH.get c.mem) hl, q _ (hH.put c)⟩
end

/-! ### an argument that is changed -/
def rm (H : Hp) (a : Addr) : Hp := fun b => if b = a then none else H b
/-- all but a stands as it stood -/
def But (a : Addr) (H H' : Hp) : Prop := ∀ b u, b ≠ a → H b = some u → H' b = some u
theorem rm_at {H : Hp} {a : Addr} : rm H a a = none := if_pos rfl
theorem rm_ne {H : Hp} {a b : Addr} (h : b ≠ a) : rm H a b = H b := if_neg h
theorem Has.arg {H : Hp} {a : Addr} {o : HO} (h : H a = some o) : Has (rm H a) [(a, o)] H := by
  refine ⟨fun b u q => ?_, fun p hp => ?_, by simp⟩
  · by_cases e : b = a
    · subst e; rw [rm_at] at q; cases q
    · rw [rm_ne e] at q; exact q
  · have e : p = (a, o) := by simpa using hp
    subst e
    exact ⟨rm_at, h⟩
theorem But.of {H H' : Hp} {a : Addr} (h : Same (rm H a) H') : But a H H' := fun b u ne q => h b u (by rw [rm_ne ne]; exact q)
theorem But.trans {a : Addr} {H H1 H2 : Hp} (x : But a H H1) (y : But a H1 H2) : But a H H2 := fun b u ne q => y b u ne (x b u ne q)
theorem But.same {a : Addr} {H H1 H2 : Hp} (x : But a H H1) (y : Same H1 H2) : But a H H2 := fun b u ne q => y b u (x b u ne q)
section
variable {K : PySem.W.Frag} {σ : L2.St} {F : Hp} {O O' : Own} {H : Hp} {Q : VK} {x y v : V}
/-- a test by a fact about its answer -/
theorem g_fact {t : TT} {R : Bool → Hp → Prop} (C : Bool → Prop) (h : ∀ R : Bool → Hp → Prop, (∀ b, C b → R b H) → t σ H R) (q : ∀ b, C b → R b H) : t σ H R := h R q
theorem g_ixV {a : Addr} {xs : List V} {i : Int} (h : H a = some (.lst xs)) (h0 : 0 ≤ i) (hl : i < xs.length) (q : ∀ v, xs[i.toNat]? = some v → Q v H) : rIxA K (.ref a) (.int i) H Q := by
  have e : i.toNat < xs.length := by omega
  exact g_ixL h (at_n h0 (List.getElem?_eq_getElem e)) (q _ (List.getElem?_eq_getElem e))
theorem g_ixI {a : Addr} {xs : List Int} {i : Int} (h : H a = some (.lst (xs.map V.int))) (h0 : 0 ≤ i) (hl : i < xs.length) (q : ∀ z, xs[i.toNat]? = some z → Q (.int z) H) : rIxA K (.ref a) (.int i) H Q := by
  have e : i.toNat < xs.length := by omega
  refine g_ixL h (at_n h0 (v := .int xs[i.toNat]) ?_) (q _ (List.getElem?_eq_getElem e))
  rw [List.getElem?_map, List.getElem?_eq_getElem e]
  rfl
theorem g_ixZ {a : Addr} {xs : List Str} {i : Int} (h : H a = some (.lst (xs.map V.str))) (h0 : 0 ≤ i) (hl : i < xs.length) (q : ∀ z, xs[i.toNat]? = some z → Q (.str z) H) : rIxA K (.ref a) (.int i) H Q := by
  have e : i.toNat < xs.length := by omega
  refine g_ixL h (at_n h0 (v := .str xs[i.toNat]) ?_) (q _ (List.getElem?_eq_getElem e))
  rw [List.getElem?_map, List.getElem?_eq_getElem e]
  rfl
theorem g_stI {R : L2.St → Hp → Prop} {a : Addr} {xs : List Int} {k z : Int} (hH : Has F O H) (c : Chg O a (.lst (xs.map V.int)) (.lst ((xs.set k.toNat z).map V.int)) O') (h0 : 0 ≤ k) (hl : k < xs.length) (q : ∀ H', Has F O' H' → R σ H') : kSet rSetA R σ (.ref a) (.int k) (.int z) H := by
  refine g_stL (xs := xs.map V.int) (j := k.toNat) hH ?_ (ixN_nat h0 (by rw [List.length_map]; exact hl)) q
  rw [← List.map_set]
  exact c
theorem g_popAtI {a : Addr} {xs : List Int} {i : Int} (hH : Has F O H) (c : Chg O a (.lst (xs.map V.int)) (.lst ((xs.eraseIdx i.toNat).map V.int)) O') (h0 : 0 ≤ i) (hl : i < xs.length) (h2 : xs.length ≤ 1000) (q : ∀ H' z, Has F O' H' → Q (.int z) H') : rPopAt (.ref a) [.int i] H Q := by
  have e : i.toNat < xs.length := by omega
  refine g_popAt (xs := xs.map V.int) (k := i.toNat) (y := .int xs[i.toNat]) hH ?_ (by omega) (by omega) ?_ ?_ (fun H' h => q H' _ h)
  · have : (xs.map V.int).eraseIdx i.toNat = (xs.eraseIdx i.toNat).map V.int := by
      rw [List.eraseIdx_eq_take_drop_succ, List.eraseIdx_eq_take_drop_succ, List.map_append, List.map_take, List.map_drop]
    rw [this]
    exact c
  · have := (ixN_seq (n := (xs.map V.int).length) (i := i) (j := i.toNat) (ixN_nat h0 (by rw [List.length_map]; exact hl))).1
    exact this
  · rw [List.getElem?_map, List.getElem?_eq_getElem e]
    rfl
end
theorem sz {n : Nat} (h : n ≤ 100000) : n ≤ sizeLine := by rw [sizeLine_eq]; omega
theorem szl {n : Nat} (h : n < 100000) : n < sizeLine := by rw [sizeLine_eq]; omega

section
variable {K : PySem.W.Frag} {σ : L2.St} {F : Hp} {O O' : Own} {H : Hp} {Q : VK} {x y v : V} {te ta : TE}
theorem g_yes {R : Bool → Hp → Prop} (q : R true H) : tYes σ H R := q
theorem g_wipe {σ1 σ2 : L2.St} {B : Prop} (e : σ1 = σ2) (q : B) : σ1 = σ2 ∧ B := ⟨e, q⟩
def kOI (x : V) (H : Hp) (R : Option Int → Hp → Prop) : Prop := ∃ i, x = .int i ∧ R (some i) H
theorem g_part {R : Option Int → Hp → Prop} (q : te σ H fun x H1 => kOI x H1 R) : tPart te σ H R := q
theorem g_kOI {R : Option Int → Hp → Prop} {i : Int} (q : R (some i) H) : kOI (.int i) H R := ⟨i, rfl, q⟩
theorem g_nopart {R : Option Int → Hp → Prop} (q : R none H) : tNoPart σ H R := q
theorem g_slice {r : V → Option Int → Option Int → Hp → VK → Prop} {tl th : TO} (q : te σ H fun x H1 => tl σ H1 fun l H2 => th σ H2 fun u H3 => r x l u H3 Q) : tSl r te tl th σ H Q := q
def rSlB (K : PySem.W.Frag) : V → Option Int → Option Int → Hp → VK → Prop := fun x lo hi H Q => rSlL K x lo hi H Q ∨ rSlA K x lo hi H Q
theorem g_slS {a : Addr} {xs : List V} {lo hi : Option Int} (h : SqL K H a xs) (hH : Has F O H) (q : ∀ p H', H p = none → Has F ((p, .lst (cutV xs lo hi)) :: O) H' → Q (.ref p) H') : rSlB K (.ref a) lo hi H Q := .inl ⟨a, xs, rfl, h, fun p n => q p _ n (hH.new n)⟩
theorem g_slTF {a : Addr} {xs : List V} {lo hi : Option Int} (h : F a = some (.tup xs)) (hH : Has F O H) (q : ∀ p H' F', Same F F' → F' p = some (.tup (cutV xs lo hi)) → Has F' O H' → Q (.ref p) H') : rSlB K (.ref a) lo hi H Q :=
  .inr ⟨a, xs, rfl, SqT.of (hH.same _ _ h), fun w => q a H F (Same.refl _) (by
    have e : cutV xs lo hi = xs := by
      unfold cutV
      rw [w.1, w.2, List.drop_zero, Nat.sub_zero, List.take_length]
    rw [e]; exact h) hH, fun _ p n => q p _ (upd F p (.tup (cutV xs lo hi))) (same_upd (hH.same.free n)) upd_same (hH.new n).frz⟩
theorem g_addTF {a b : Addr} {xs ys : List V} (h1 : F a = some (.tup xs)) (h2 : F b = some (.tup ys)) (hl : xs.length + ys.length ≤ sizeLine) (hH : Has F O H) (q : ∀ p H' F', Same F F' → F' p = some (.tup (xs ++ ys)) → Has F' O H' → Q (.ref p) H') : rAdd K (.ref a) (.ref b) H Q :=
  .inr (.inr ⟨a, b, xs, ys, rfl, rfl, SqT.of (hH.same _ _ h1), SqT.of (hH.same _ _ h2), hl, fun e => q b H F (Same.refl _) (by rw [e]; exact h2) hH, fun _ e => q a H F (Same.refl _) (by rw [e, List.append_nil]; exact h1) hH,
    fun _ _ p n => q p _ (upd F p (.tup (xs ++ ys))) (same_upd (hH.same.free n)) upd_same (hH.new n).frz⟩)
theorem g_slL {a : Addr} {xs : List V} {lo hi : Option Int} (h : H a = some (.lst xs)) (hH : Has F O H) (q : ∀ p H', H p = none → Has F ((p, .lst (cutV xs lo hi)) :: O) H' → Q (.ref p) H') : rSlB K (.ref a) lo hi H Q := g_slS (SqL.of h) hH q
theorem cutV_ints (ns : List Int) (lo hi : Option Int) : ∃ ms : List Int, cutV (ns.map V.int) lo hi = ms.map V.int ∧ ms.length ≤ ns.length := by
  refine ⟨(ns.drop (HT.sIx ns.length 0 lo)).take (HT.sIx ns.length ns.length hi - HT.sIx ns.length 0 lo), ?_, ?_⟩
  · unfold cutV
    rw [List.length_map, List.map_take, List.map_drop]
  · rw [List.length_take, List.length_drop]
    omega
theorem g_revL {a : Addr} {xs : List V} (h : H a = some (.lst xs)) (hH : Has F O H) (q : ∀ p H', H p = none → Has F ((p, .lst xs.reverse) :: O) H' → Q (.ref p) H') : (∃ b ys, V.ref a = .ref b ∧ SqL K H b ys ∧ ∀ p, H p = none → Q (.ref p) (upd H p (.lst ys.reverse))) :=
  ⟨a, xs, rfl, SqL.of h, fun p n => q p _ n (hH.new n)⟩
theorem g_tRev (q : te σ H fun x H1 => rRevL K x H1 Q) : tRevL K te σ H Q := q
theorem g_rRev {a : Addr} {xs : List V} (h : H a = some (.lst xs)) (hH : Has F O H) (q : ∀ p H', H p = none → Has F ((p, .lst xs.reverse) :: O) H' → Q (.ref p) H') : rRevL K (.ref a) H Q := ⟨a, xs, rfl, SqL.of h, fun p n => q p _ n (hH.new n)⟩
/-- an item of a list of texts that are in order, of ints from 0 to n -/
def okS : V → Bool
  | .str z => PyData.strOk z
  | _ => false
def okI (n : Int) : V → Bool
  | .int z => decide (0 ≤ z ∧ z ≤ n)
  | _ => false
theorem g_ixM {a : Addr} {xs : List V} {i : Int} (h : H a = some (.lst xs)) (ok : xs.all okS = true) (h0 : 0 ≤ i) (hl : i < xs.length) (q : ∀ z, PyData.strOk z = true → Q (.str z) H) : rIxA K (.ref a) (.int i) H Q := by
  refine g_ixV h h0 hl fun v hv => ?_
  have m := List.all_eq_true.mp ok v (List.mem_of_getElem? hv)
  cases v with
  | str z => exact q z m
  | _ => cases m
theorem g_ixN {n : Int} {a : Addr} {xs : List V} {i : Int} (h : H a = some (.lst xs)) (ok : xs.all (okI n) = true) (h0 : 0 ≤ i) (hl : i < xs.length) (q : ∀ z, 0 ≤ z → z ≤ n → Q (.int z) H) : rIxA K (.ref a) (.int i) H Q := by
  refine g_ixV h h0 hl fun v hv => ?_
  have m := List.all_eq_true.mp ok v (List.mem_of_getElem? hv)
  cases v with
  | int z =>
    have := of_decide_eq_true (show decide (0 ≤ z ∧ z ≤ n) = true from m)
    exact q z this.1 this.2
  | _ => cases m
end

/-! ### tables of ints: a list of rows -/
def rowO (r : Addr × List Int) : Addr × HO := (r.1, .lst (r.2.map V.int))
def tabO (t : Addr) (rows : List (Addr × List Int)) : Own := (t, .lst (rows.map fun r => V.ref r.1)) :: rows.map rowO
theorem Chg.row {r : Addr × List Int} {zs : List Int} {O : Own} : ∀ {rows : List (Addr × List Int)} {k : Nat}, rows[k]? = some r → Chg (rows.map rowO ++ O) r.1 (.lst (r.2.map V.int)) (.lst (zs.map V.int)) ((rows.set k (r.1, zs)).map rowO ++ O)
  | [], k, h => by simp at h
  | x :: rows, 0, h => by
    have e : x = r := Option.some.inj h
    subst e
    exact .hd
  | x :: rows, k + 1, h => .tl (Chg.row (rows := rows) (k := k) h)
theorem rows_ref {r : Addr × List Int} {zs : List Int} : ∀ {rows : List (Addr × List Int)} {k : Nat}, rows[k]? = some r → (rows.set k (r.1, zs)).map (fun r => V.ref r.1) = rows.map fun r => V.ref r.1
  | [], k, h => by simp at h
  | x :: rows, 0, h => by
    have e : x = r := Option.some.inj h
    subst e
    rfl
  | x :: rows, k + 1, h => by
    have := rows_ref (rows := rows) (k := k) (zs := zs) h
    show V.ref x.1 :: (rows.set k (r.1, zs)).map (fun r => V.ref r.1) = _
    rw [this]
    rfl
section
variable {K : PySem.W.Frag} {σ : L2.St} {F : Hp} {O O' : Own} {H : Hp} {Q : VK} {t : Addr} {rows : List (Addr × List Int)}
theorem Has.row {r : Addr × List Int} {k : Nat} (hH : Has F (tabO t rows ++ O) H) (hr : rows[k]? = some r) : H r.1 = some (.lst (r.2.map V.int)) :=
  hH.get (List.mem_append_left _ (List.mem_cons_of_mem _ (List.mem_map.mpr ⟨r, List.mem_of_getElem? hr, rfl⟩)))
theorem Has.tab (hH : Has F (tabO t rows ++ O) H) : H t = some (.lst (rows.map fun r => V.ref r.1)) := hH.get (List.mem_append_left _ List.mem_cons_self)
theorem g_ixRow {i : Int} (hH : Has F (tabO t rows ++ O) H) (h0 : 0 ≤ i) (hl : i < rows.length) (q : ∀ r, rows[i.toNat]? = some r → H r.1 = some (.lst (r.2.map V.int)) → Q (.ref r.1) H) : rIxA K (.ref t) (.int i) H Q := by
  have e : i.toNat < rows.length := by omega
  have hr := List.getElem?_eq_getElem e
  refine g_ixL hH.tab (at_n h0 (v := .ref rows[i.toNat].1) ?_) (q _ hr (hH.row hr))
  rw [List.getElem?_map, hr]
  rfl
theorem g_setRow {R : L2.St → Hp → Prop} {r : Addr × List Int} {k : Nat} {j z : Int} (hH : Has F (tabO t rows ++ O) H) (hr : rows[k]? = some r) (h0 : 0 ≤ j) (hl : j < r.2.length) (q : ∀ H', Has F (tabO t (rows.set k (r.1, r.2.set j.toNat z)) ++ O) H' → R σ H') :
    kSet rSetA R σ (.ref r.1) (.int j) (.int z) H := by
  refine g_stI hH (xs := r.2) ?_ h0 hl q
  have c := Chg.row (O := O) (zs := r.2.set j.toNat z) hr
  unfold tabO
  rw [List.cons_append, List.cons_append, rows_ref hr]
  exact .tl c
end

/-! ### the rules with the written part by its name -/
section
variable {X : Cx}
theorem op_addK (K : PySem.W.Frag) (e : X.K = K := by rfl) : OpR X (binaryOp .Add) (rAdd K) := by subst e; exact op_addA
theorem op_eqK (K : PySem.W.Frag) (hu : X.A.units + 64 < cLine) (e : X.K = K := by rfl) : OpR X (compareOp .Eq) (rEqA K) := by subst e; exact op_eqA hu
theorem op_neK (K : PySem.W.Frag) (hu : X.A.units + 64 < cLine) (e : X.K = K := by rfl) : OpR X (compareOp .NotEq) (rNeA K) := by subst e; exact op_neA hu
theorem op_inK (K : PySem.W.Frag) (hu : X.A.units + 64 < cLine) (hu' : X.A.units + 65 < cLine) (e : X.K = K := by rfl) : OpR X (compareOp .In) (rInA K) := by subst e; exact op_inA hu hu'
theorem op_notinK (K : PySem.W.Frag) (hu : X.A.units + 64 < cLine) (hu' : X.A.units + 65 < cLine) (e : X.K = K := by rfl) : OpR X (compareOp .NotIn) (rNotInA K) := by subst e; exact op_notinA hu hu'
theorem ix_dict (hu : X.A.units + 1 < cLine) : IxR X rIxD := by
  intro value slice pins s σ H x y v u Q I rx ry h hs
  obtain ⟨a, z, rfl, g, q⟩ := h
  cases rx
  have hT := dict_typeIs I g
  have fin : wpAny (model X.prog X.w) X.A (subscripted slice false (.ref a) u) (fun r s₃ => wpAny (model X.prog X.w) X.A (letTemporaryGo value (.ref a) r >>= fun _ => pure r) (EP X pins σ Q) X.xe s₃) X.xe s := by
    rw [hs]
    exact wpAny_operating (wpAny_mono (d_getItem hu I g ry (Q := fun r s' => EP X pins σ Q r s') fun w' s3 I3 rw' => ⟨z, H, I3, rw', q⟩) (fun r s₃ h₃ => wpAny_bind (wpAny_letTemporaryGo (wpAny_pure h₃))) fun _ _ x => x)
  unfold subscriptTail
  refine wpAny_bind ?_
  rw [getitemInPython_of_ne hT.not_modules]
  refine wpAny_bind (wpAny_specialOf hT PySem.F.slot_dict_getitem.lookup ?_)
  first
    | exact wpAny_pure (wpAny_bind fin)
    | exact wpAny_bind (wpAny_pure (wpAny_bind fin))
    | exact wpAny_bind fin
theorem ix_K (K : PySem.W.Frag) (hu : X.A.units + 1 < cLine) (e : X.K = K := by rfl) : IxR X (rIxA K) := by subst e; exact ix_seq.or (ix_dict hu)
theorem cr_lenK (K : PySem.W.Frag) (e : X.K = K := by rfl) : CallR X (.builtin "len") (rLen K) := by subst e; exact cr_len
theorem cr_listK (K : PySem.W.Frag) (e : X.K = K := by rfl) : CallR X (.type "list") (rListOf K) := by subst e; exact cr_listOf
theorem cr_tupleK (K : PySem.W.Frag) (e : X.K = K := by rfl) : CallR X (.type "tuple") (rTupleOf K) := by subst e; exact cr_tupleOf
theorem sl_all : SlR X (rSlB X.K) := by
  intro pins s σ H x v vl vu lo hi sl Q I rx hs pl pu h
  rcases h with h | h
  · exact sl_list pins s σ H x v vl vu lo hi sl Q I rx hs pl pu h
  · exact sl_tupA pins s σ H x v vl vu lo hi sl Q I rx hs pl pu h
theorem sl_K (K : PySem.W.Frag) (e : X.K = K := by rfl) : SlR X (rSlB K) := by subst e; exact sl_all
theorem k_bm {ex : Expr} {T : String} {r : V → List V → Hp → VK → Prop} {to : TE} {t : TA} (K : PySem.W.Frag) (h : PE X ex (tBM X.K T r to t)) (e : X.K = K := by rfl) : PE X ex (tBM K T r to t) := by subst e; exact h
theorem k_bm0 {ex : Expr} {T : String} {r : V → List V → Hp → VK → Prop} {to : TE} (K : PySem.W.Frag) (h : PE X ex (tBM0 X.K T r to)) (e : X.K = K := by rfl) : PE X ex (tBM0 K T r to) := by subst e; exact h
theorem k_rev {ex : Expr} {to : TE} (K : PySem.W.Frag) (h : PE X ex (tRevL X.K to)) (e : X.K = K := by rfl) : PE X ex (tRevL K to) := by subst e; exact h
theorem k_il {tg l : Expr} {tl : TE} (K : PySem.W.Frag) (h : PI X tg l (iList X.K tl)) (e : X.K = K := by rfl) : PI X tg l (iList K tl) := by subst e; exact h
theorem k_gt {tg : Expr} {n : Nat} {t : TGs} (K : PySem.W.Frag) (h : PG X tg (gTup X.K n t)) (e : X.K = K := by rfl) : PG X tg (gTup K n t) := by subst e; exact h
end
theorem g_start {t : TS} {D : Ends} {σ σ' : L2.St} {H : Hp} (e : σ = σ') (h : t D σ' H) : t D σ H := by subst e; exact h

theorem Has.argFree {H H' : Hp} {a D : Addr} {o : HO} {O : Own} (h : Has (rm H a) ((D, o) :: O) H') (m : a ∈ O.map (·.1)) : H D = none := by
  have nd : D ∉ O.map (·.1) ∧ (O.map (·.1)).Nodup := List.nodup_cons.mp (by have := h.nd; rw [List.map_cons] at this; exact this)
  have e := h.free
  rw [rm_ne (fun z => nd.1 (by rw [z]; exact m))] at e
  exact e

theorem Has.but2 {F H H' : Hp} {O O' : Own} {a p : Addr} {o o' op : HO} (h : Has F O H) (c : Chg O a o o' O') (hb : But a H H') (e : H' a = some o') (n : H p = none) (ep : H' p = some op) : Has F ((p, op) :: O') H' := by
  have h' := h.but c hb e
  refine ⟨h'.same, fun q hq => ?_, ?_⟩
  · rcases List.mem_cons.mp hq with rfl | hq
    · exact ⟨h.same.free n, ep⟩
    · exact h'.own q hq
  · rw [List.map_cons]
    refine List.nodup_cons.mpr ⟨fun m => ?_, h'.nd⟩
    rw [c.fst] at m
    obtain ⟨q, hq, e'⟩ := List.mem_map.mp m
    have z := (h.own q hq).2
    rw [e', n] at z
    cases z

theorem Has.mono {F F' H : Hp} {O : Own} (h : Has F O H) (s : Same F' F) : Has F' O H := ⟨s.trans h.same, fun q hq => ⟨s.free (h.own q hq).1, (h.own q hq).2⟩, h.nd⟩
theorem same_rm {F H : Hp} {a : Addr} (s : Same F H) (n : F a = none) : Same F (rm H a) := fun b u q => by
  rw [rm_ne (ne_of_none q n)]
  exact s b u q
theorem take_foldl {α β : Type} {f : β → α → β} {z : β} {l : List α} {i : Nat} {x : α} (h : l[i]? = some x) : (l.take (i + 1)).foldl f z = f ((l.take i).foldl f z) x := by
  rw [List.take_add_one, h, List.foldl_append]
  rfl

/-! ### isinstance -/
def rIsA (K : PySem.W.Frag) : List V → Hp → VK → Prop := fun xs H Q => rIsi K xs H Q ∨ rIsiT K xs H Q
theorem cr_isK {X : Cx} (K : PySem.W.Frag) (e : X.K = K := by rfl) : CallR X (.builtin "isinstance") (rIsA K) := by
  subst e
  intro pins s σ H xs us Q I r h
  rcases h with h | h
  · exact call_isi pins s σ H xs us Q I r h
  · exact call_isiT pins s σ H xs us Q I r h
theorem g_is {K : PySem.W.Frag} {H : Hp} {Q : VK} {x : V} {t n : String} {b : Bool} (ty : TyX K H x (.type t)) (e : kitB t n = some b) (q : Q (.bl b) H) : rIsA K [x, .ty n] H Q := .inl ⟨x, .ty n, _, _, b, rfl, .ty n, ty, kit_ty e, q⟩
theorem g_is2 {K : PySem.W.Frag} {H : Hp} {Q : VK} {x : V} {t n m : String} {a b : Bool} {tp : Addr} (h : H tp = some (.tup [.ty n, .ty m])) (ty : TyX K H x (.type t)) (ea : kitB t n = some a) (eb : kitB t m = some b) (q : Q (.bl (a || b)) H) : rIsA K [x, .ref tp] H Q := by
  refine .inr ⟨x, tp, _, _, _, a || b, rfl, h, .cons (.ty n) (.cons (.ty m) .nil), ty, ?_, q⟩
  refine kitAny_cons (kit_ty ea) (fun z => ?_) (fun z => by rw [z]; rfl)
  refine kitAny_cons (kit_ty eb) (fun y => ?_) (fun y => by rw [z, y]; rfl)
  rw [z, y]
  exact kitAny_nil
theorem kit_list_list : kitB "list" "list" = some true := by decide +kernel
theorem kit_list_tuple : kitB "list" "tuple" = some false := by decide +kernel
theorem kit_list_dict : kitB "list" "dict" = some false := by decide +kernel
theorem kit_list_int : kitB "list" "int" = some false := by decide +kernel
theorem kit_list_bool : kitB "list" "bool" = some false := by decide +kernel
theorem kit_list_str : kitB "list" "str" = some false := by decide +kernel
theorem kit_tuple_list : kitB "tuple" "list" = some false := by decide +kernel
theorem kit_tuple_tuple : kitB "tuple" "tuple" = some true := by decide +kernel
theorem kit_tuple_dict : kitB "tuple" "dict" = some false := by decide +kernel
theorem kit_tuple_int : kitB "tuple" "int" = some false := by decide +kernel
theorem kit_tuple_bool : kitB "tuple" "bool" = some false := by decide +kernel
theorem kit_tuple_str : kitB "tuple" "str" = some false := by decide +kernel
theorem kit_dict_list : kitB "dict" "list" = some false := by decide +kernel
theorem kit_dict_tuple : kitB "dict" "tuple" = some false := by decide +kernel
theorem kit_dict_dict : kitB "dict" "dict" = some true := by decide +kernel
theorem kit_dict_int : kitB "dict" "int" = some false := by decide +kernel
theorem kit_dict_bool : kitB "dict" "bool" = some false := by decide +kernel
theorem kit_dict_str : kitB "dict" "str" = some false := by decide +kernel
theorem kit_int_list : kitB "int" "list" = some false := by decide +kernel
theorem kit_int_tuple : kitB "int" "tuple" = some false := by decide +kernel
theorem kit_int_dict : kitB "int" "dict" = some false := by decide +kernel
theorem kit_int_int : kitB "int" "int" = some true := by decide +kernel
theorem kit_int_bool : kitB "int" "bool" = some false := by decide +kernel
theorem kit_int_str : kitB "int" "str" = some false := by decide +kernel
theorem kit_bool_list : kitB "bool" "list" = some false := by decide +kernel
theorem kit_bool_tuple : kitB "bool" "tuple" = some false := by decide +kernel
theorem kit_bool_dict : kitB "bool" "dict" = some false := by decide +kernel
theorem kit_bool_int : kitB "bool" "int" = some true := by decide +kernel
theorem kit_bool_bool : kitB "bool" "bool" = some true := by decide +kernel
theorem kit_bool_str : kitB "bool" "str" = some false := by decide +kernel
theorem kit_str_list : kitB "str" "list" = some false := by decide +kernel
theorem kit_str_tuple : kitB "str" "tuple" = some false := by decide +kernel
theorem kit_str_dict : kitB "str" "dict" = some false := by decide +kernel
theorem kit_str_int : kitB "str" "int" = some false := by decide +kernel
theorem kit_str_bool : kitB "str" "bool" = some false := by decide +kernel
theorem kit_str_str : kitB "str" "str" = some true := by decide +kernel
section
variable {K : PySem.W.Frag} {H : Hp} {Q : VK}
theorem is_list_list {a : Addr} {xs : List V} (h : H a = some (.lst xs)) (q : Q (.bl true) H) : rIsA K [.ref a, .ty "list"] H Q := g_is (.base (.lst h)) kit_list_list q
theorem is_list_tuple {a : Addr} {xs : List V} (h : H a = some (.lst xs)) (q : Q (.bl false) H) : rIsA K [.ref a, .ty "tuple"] H Q := g_is (.base (.lst h)) kit_list_tuple q
theorem is_list_dict {a : Addr} {xs : List V} (h : H a = some (.lst xs)) (q : Q (.bl false) H) : rIsA K [.ref a, .ty "dict"] H Q := g_is (.base (.lst h)) kit_list_dict q
theorem is_list_int {a : Addr} {xs : List V} (h : H a = some (.lst xs)) (q : Q (.bl false) H) : rIsA K [.ref a, .ty "int"] H Q := g_is (.base (.lst h)) kit_list_int q
theorem is_list_bool {a : Addr} {xs : List V} (h : H a = some (.lst xs)) (q : Q (.bl false) H) : rIsA K [.ref a, .ty "bool"] H Q := g_is (.base (.lst h)) kit_list_bool q
theorem is_list_str {a : Addr} {xs : List V} (h : H a = some (.lst xs)) (q : Q (.bl false) H) : rIsA K [.ref a, .ty "str"] H Q := g_is (.base (.lst h)) kit_list_str q
theorem is2_list {a : Addr} {xs : List V} (h : H a = some (.lst xs)) {tp : Addr} (hp : H tp = some (.tup [.ty "list", .ty "tuple"])) (q : Q (.bl true) H) : rIsA K [.ref a, .ref tp] H Q := g_is2 hp (.base (.lst h)) kit_list_list kit_list_tuple q
theorem is_tuple_list {a : Addr} {xs : List V} (h : H a = some (.tup xs)) (q : Q (.bl false) H) : rIsA K [.ref a, .ty "list"] H Q := g_is (.base (.tup h)) kit_tuple_list q
theorem is_tuple_tuple {a : Addr} {xs : List V} (h : H a = some (.tup xs)) (q : Q (.bl true) H) : rIsA K [.ref a, .ty "tuple"] H Q := g_is (.base (.tup h)) kit_tuple_tuple q
theorem is_tuple_dict {a : Addr} {xs : List V} (h : H a = some (.tup xs)) (q : Q (.bl false) H) : rIsA K [.ref a, .ty "dict"] H Q := g_is (.base (.tup h)) kit_tuple_dict q
theorem is_tuple_int {a : Addr} {xs : List V} (h : H a = some (.tup xs)) (q : Q (.bl false) H) : rIsA K [.ref a, .ty "int"] H Q := g_is (.base (.tup h)) kit_tuple_int q
theorem is_tuple_bool {a : Addr} {xs : List V} (h : H a = some (.tup xs)) (q : Q (.bl false) H) : rIsA K [.ref a, .ty "bool"] H Q := g_is (.base (.tup h)) kit_tuple_bool q
theorem is_tuple_str {a : Addr} {xs : List V} (h : H a = some (.tup xs)) (q : Q (.bl false) H) : rIsA K [.ref a, .ty "str"] H Q := g_is (.base (.tup h)) kit_tuple_str q
theorem is2_tuple {a : Addr} {xs : List V} (h : H a = some (.tup xs)) {tp : Addr} (hp : H tp = some (.tup [.ty "list", .ty "tuple"])) (q : Q (.bl true) H) : rIsA K [.ref a, .ref tp] H Q := g_is2 hp (.base (.tup h)) kit_tuple_list kit_tuple_tuple q
theorem is_dict_list {a : Addr} {kvs : List (Key × V)} (h : H a = some (.dK kvs)) (q : Q (.bl false) H) : rIsA K [.ref a, .ty "list"] H Q := g_is (.base (.dK h)) kit_dict_list q
theorem is_dict_tuple {a : Addr} {kvs : List (Key × V)} (h : H a = some (.dK kvs)) (q : Q (.bl false) H) : rIsA K [.ref a, .ty "tuple"] H Q := g_is (.base (.dK h)) kit_dict_tuple q
theorem is_dict_dict {a : Addr} {kvs : List (Key × V)} (h : H a = some (.dK kvs)) (q : Q (.bl true) H) : rIsA K [.ref a, .ty "dict"] H Q := g_is (.base (.dK h)) kit_dict_dict q
theorem is_dict_int {a : Addr} {kvs : List (Key × V)} (h : H a = some (.dK kvs)) (q : Q (.bl false) H) : rIsA K [.ref a, .ty "int"] H Q := g_is (.base (.dK h)) kit_dict_int q
theorem is_dict_bool {a : Addr} {kvs : List (Key × V)} (h : H a = some (.dK kvs)) (q : Q (.bl false) H) : rIsA K [.ref a, .ty "bool"] H Q := g_is (.base (.dK h)) kit_dict_bool q
theorem is_dict_str {a : Addr} {kvs : List (Key × V)} (h : H a = some (.dK kvs)) (q : Q (.bl false) H) : rIsA K [.ref a, .ty "str"] H Q := g_is (.base (.dK h)) kit_dict_str q
theorem is2_dict {a : Addr} {kvs : List (Key × V)} (h : H a = some (.dK kvs)) {tp : Addr} (hp : H tp = some (.tup [.ty "list", .ty "tuple"])) (q : Q (.bl false) H) : rIsA K [.ref a, .ref tp] H Q := g_is2 hp (.base (.dK h)) kit_dict_list kit_dict_tuple q
theorem is_int_list {i : Int} (q : Q (.bl false) H) : rIsA K [.int i, .ty "list"] H Q := g_is (.base (.int i)) kit_int_list q
theorem is_int_tuple {i : Int} (q : Q (.bl false) H) : rIsA K [.int i, .ty "tuple"] H Q := g_is (.base (.int i)) kit_int_tuple q
theorem is_int_dict {i : Int} (q : Q (.bl false) H) : rIsA K [.int i, .ty "dict"] H Q := g_is (.base (.int i)) kit_int_dict q
theorem is_int_int {i : Int} (q : Q (.bl true) H) : rIsA K [.int i, .ty "int"] H Q := g_is (.base (.int i)) kit_int_int q
theorem is_int_bool {i : Int} (q : Q (.bl false) H) : rIsA K [.int i, .ty "bool"] H Q := g_is (.base (.int i)) kit_int_bool q
theorem is_int_str {i : Int} (q : Q (.bl false) H) : rIsA K [.int i, .ty "str"] H Q := g_is (.base (.int i)) kit_int_str q
theorem is2_int {i : Int} {tp : Addr} (hp : H tp = some (.tup [.ty "list", .ty "tuple"])) (q : Q (.bl false) H) : rIsA K [.int i, .ref tp] H Q := g_is2 hp (.base (.int i)) kit_int_list kit_int_tuple q
theorem is_bool_list {b : Bool} (q : Q (.bl false) H) : rIsA K [.bl b, .ty "list"] H Q := g_is (.base (.bl b)) kit_bool_list q
theorem is_bool_tuple {b : Bool} (q : Q (.bl false) H) : rIsA K [.bl b, .ty "tuple"] H Q := g_is (.base (.bl b)) kit_bool_tuple q
theorem is_bool_dict {b : Bool} (q : Q (.bl false) H) : rIsA K [.bl b, .ty "dict"] H Q := g_is (.base (.bl b)) kit_bool_dict q
theorem is_bool_int {b : Bool} (q : Q (.bl true) H) : rIsA K [.bl b, .ty "int"] H Q := g_is (.base (.bl b)) kit_bool_int q
theorem is_bool_bool {b : Bool} (q : Q (.bl true) H) : rIsA K [.bl b, .ty "bool"] H Q := g_is (.base (.bl b)) kit_bool_bool q
theorem is_bool_str {b : Bool} (q : Q (.bl false) H) : rIsA K [.bl b, .ty "str"] H Q := g_is (.base (.bl b)) kit_bool_str q
theorem is2_bool {b : Bool} {tp : Addr} (hp : H tp = some (.tup [.ty "list", .ty "tuple"])) (q : Q (.bl false) H) : rIsA K [.bl b, .ref tp] H Q := g_is2 hp (.base (.bl b)) kit_bool_list kit_bool_tuple q
theorem is_str_list {z : Str} (q : Q (.bl false) H) : rIsA K [.str z, .ty "list"] H Q := g_is (.base (.str z)) kit_str_list q
theorem is_str_tuple {z : Str} (q : Q (.bl false) H) : rIsA K [.str z, .ty "tuple"] H Q := g_is (.base (.str z)) kit_str_tuple q
theorem is_str_dict {z : Str} (q : Q (.bl false) H) : rIsA K [.str z, .ty "dict"] H Q := g_is (.base (.str z)) kit_str_dict q
theorem is_str_int {z : Str} (q : Q (.bl false) H) : rIsA K [.str z, .ty "int"] H Q := g_is (.base (.str z)) kit_str_int q
theorem is_str_bool {z : Str} (q : Q (.bl false) H) : rIsA K [.str z, .ty "bool"] H Q := g_is (.base (.str z)) kit_str_bool q
theorem is_str_str {z : Str} (q : Q (.bl true) H) : rIsA K [.str z, .ty "str"] H Q := g_is (.base (.str z)) kit_str_str q
theorem is2_str {z : Str} {tp : Addr} (hp : H tp = some (.tup [.ty "list", .ty "tuple"])) (q : Q (.bl false) H) : rIsA K [.str z, .ref tp] H Q := g_is2 hp (.base (.str z)) kit_str_list kit_str_tuple q
end
section
variable {K : PySem.W.Frag} {σ : L2.St} {F : Hp} {O O' : Own} {H : Hp} {Q : VK} {x y v : V}
theorem g_neB {i j : Bool} (q : Q (.bl (!decide (i = j))) H) : rNeA K (.bl i) (.bl j) H Q := .inl ⟨rfl, by rw [dec_bl, Bool.beq_eq_decide_eq]; exact q⟩
theorem g_eqB {i j : Bool} (q : Q (.bl (decide (i = j))) H) : rEqA K (.bl i) (.bl j) H Q := .inl ⟨rfl, by rw [dec_bl, Bool.beq_eq_decide_eq]; exact q⟩
/-! ### insert, max, the last item -/
def rInsert : V → List V → Hp → VK → Prop := fun x vs H Q => ∃ (l : Addr) (xs : List V) (i : Int) (y : V), x = .ref l ∧ vs = [.int i, y] ∧ H l = some (.lst xs) ∧ xs.length < sizeLine ∧ 0 ≤ i ∧ i < 2 ^ 63 ∧ Q .non (upd H l (.lst (xs.take i.toNat ++ [y] ++ xs.drop i.toNat)))
theorem mt_insertA {X : Cx} : MtR X "list.insert" rInsert := mt_insert
theorem g_insert {a : Addr} {xs : List V} {i : Int} (hH : Has F O H) (c : Chg O a (.lst xs) (.lst (xs.take i.toNat ++ [y] ++ xs.drop i.toNat)) O') (hl : xs.length < sizeLine) (h0 : 0 ≤ i) (h1 : i < 2 ^ 63) (q : ∀ H', Has F O' H' → Q .non H') : rInsert (.ref a) [.int i, y] H Q :=
  ⟨a, xs, i, y, rfl, rfl, hH.get c.mem, hl, h0, h1, q _ (hH.put c)⟩
theorem cr_maxK {X : Cx} (K : PySem.W.Frag) (hc : X.calm = true) (e : X.K = K := by rfl) : CallR X (.builtin "max") (rMax K) := by subst e; exact cr_max hc
theorem g_max {a : Addr} {ns : List Int} (h : H a = some (.lst (ns.map V.int))) (hl : 0 < ns.length) (q : ∀ m, m ∈ ns → (∀ y, y ∈ ns → y ≤ m) → Q (.int m) H) : rMax K [.ref a] H Q := ⟨a, ns, rfl, SqL.of h, hl, q⟩
theorem g_ixLast {a : Addr} {xs : List V} {v : V} (h : H a = some (.lst xs)) (hl : xs.getLast? = some v) (q : Q v H) : rIxA K (.ref a) (.int (-1)) H Q := by
  obtain ⟨ys, rfl⟩ := List.getLast?_eq_some_iff.mp hl
  exact g_ixL h (atI_last ys v) q
end
theorem cutV_nat (xs : List V) (a b : Nat) : cutV xs (some (a : Int)) (some (b : Int)) = (xs.drop a).take (b - a) := by
  unfold cutV
  rw [HT.sIx_nat, HT.sIx_nat]
  by_cases h : a ≤ xs.length
  · rw [Nat.min_eq_left h]
    rcases Nat.le_total b xs.length with hb | hb
    · rw [Nat.min_eq_left hb]
    · rw [Nat.min_eq_right hb, List.take_of_length_le (by rw [List.length_drop]; omega), List.take_of_length_le (by rw [List.length_drop]; omega)]
  · rw [Nat.min_eq_right (show xs.length ≤ a by omega), List.drop_of_length_le (Nat.le_refl _), List.drop_of_length_le (show xs.length ≤ a by omega), List.take_nil, List.take_nil]
theorem cutV_from (xs : List V) (a : Nat) : cutV xs (some (a : Int)) none = xs.drop a := by
  unfold cutV
  rw [HT.sIx_nat, HT.sIx_none]
  by_cases h : a ≤ xs.length
  · rw [Nat.min_eq_left h, List.take_of_length_le (by rw [List.length_drop]; omega)]
  · rw [Nat.min_eq_right (show xs.length ≤ a by omega), List.drop_of_length_le (Nat.le_refl _), List.drop_of_length_le (show xs.length ≤ a by omega), List.take_nil]
theorem cutV_to (xs : List V) (b : Nat) : cutV xs none (some (b : Int)) = xs.take b := by
  unfold cutV
  rw [HT.sIx_none, HT.sIx_nat, List.drop_zero, Nat.sub_zero]
  rcases Nat.le_total b xs.length with hb | hb
  · rw [Nat.min_eq_left hb]
  · rw [Nat.min_eq_right hb, List.take_length, List.take_of_length_le hb]
/-! ### a def that adds to what stands still -/
def Grow (F H F' : Hp) : Prop := Same F F' ∧ ∀ b, H b ≠ none → F' b = F b
theorem Has.grown {F F' H H' : Hp} {O O' : Own} {a : Addr} {o o' : HO} (h : Has F O H) (c : Chg O a o o' O') (hb : But a H H') (g : Grow F H F') (s : Same F' H') (e : H' a = some o') : Has F' O' H' := by
  have h' := h.but c hb e
  refine ⟨s, fun q hq => ⟨?_, (h'.own q hq).2⟩, h'.nd⟩
  rcases c.own h.nd q hq with rfl | ⟨m, _⟩
  · rw [g.2 a (by rw [h.get c.mem]; exact fun z => by cases z)]
    exact (h.own _ c.mem).1
  · rw [g.2 q.1 (by rw [(h.own q m).2]; exact fun z => by cases z)]
    exact (h.own q m).1

section
variable {K : PySem.W.Frag} {H : Hp} {Q : VK}
theorem g_ixVT {a : Addr} {xs : List V} {i : Int} (h : H a = some (.tup xs)) (h0 : 0 ≤ i) (hl : i < xs.length) (q : ∀ v, xs[i.toNat]? = some v → Q v H) : rIxA K (.ref a) (.int i) H Q := by
  have e : i.toNat < xs.length := by omega
  exact g_ixT h (at_n h0 (List.getElem?_eq_getElem e)) (q _ (List.getElem?_eq_getElem e))
theorem is2_non {tp : Addr} (hp : H tp = some (.tup [.ty "list", .ty "tuple"])) (q : Q (.bl false) H) : rIsA K [.non, .ref tp] H Q := g_is2 hp (.base .non) (by decide +kernel : kitB "NoneType" "list" = some false) (by decide +kernel : kitB "NoneType" "tuple" = some false) q
end

theorem i_nf {A B : Prop} (h : A) : if (!false) = true then A else B := by
  show (if true = true then A else B)
  rw [if_pos rfl]
  exact h
theorem i_nt {A B : Prop} (h : B) : if (!true) = true then A else B := by
  show (if false = true then A else B)
  rw [if_neg Bool.false_ne_true]
  exact h

/-- ways that meet: what holds where they meet -/
theorem g_join {t : TS} {D : Ends} {σ : L2.St} {H : Hp} (M : L2.St → Hp → Prop) (h : ∀ σ' H', M σ' H' → D.nx σ' H') (q : (∀ σ' H', M σ' H' → D.nx σ' H') → t D σ H) : t D σ H := q h

/-! ### all that is not owned stands still from now on -/
def rmO (O : Own) (H : Hp) : Hp := fun b => if b ∈ O.map (·.1) then none else H b
section
variable {F H : Hp} {O : Own}
theorem Has.re (h : Has F O H) : Has (rmO O H) O H := by
  refine ⟨fun b u e => ?_, fun p hp => ⟨if_pos (List.mem_map.mpr ⟨p, hp, rfl⟩), (h.own p hp).2⟩, h.nd⟩
  unfold rmO at e
  split at e
  · cases e
  · exact e
theorem Has.reF (h : Has F O H) : Same F (rmO O H) := fun b u e => by
  unfold rmO
  rw [if_neg]
  · exact h.same b u e
  · intro m
    obtain ⟨p, hp, rfl⟩ := List.mem_map.mp m
    rw [(h.own p hp).1] at e
    cases e
theorem Has.re_of (h : Has F O H) {b : Addr} {u : HO} (e : H b = some u) (ne : ∀ p ∈ O, p.2 ≠ u) : rmO O H b = some u := by
  unfold rmO
  rw [if_neg]
  · exact e
  · intro m
    obtain ⟨p, hp, rfl⟩ := List.mem_map.mp m
    rw [(h.own p hp).2] at e
    exact ne p hp (Option.some.inj e)
end

section
variable {K : PySem.W.Frag} {σ : L2.St} {F : Hp} {O O' : Own} {H : Hp} {Q : VK} {x y v : V} {ta te : TE}
theorem g_ixDI {a : Addr} {kvs : List (Key × V)} {i : Int} (h : H a = some (.dK kvs)) (hv : valV kvs (.inl i) = some v) (q : Q v H) : rIxA K (.ref a) (.int i) H Q := .inr ⟨a, v, rfl, hv ▸ DGet.k (k := .inl i) h, q⟩
theorem g_ixDS {a : Addr} {kvs : List (Key × V)} {i : Str} (h : H a = some (.dK kvs)) (hv : valV kvs (.inr i) = some v) (q : Q v H) : rIxA K (.ref a) (.str i) H Q := .inr ⟨a, v, rfl, hv ▸ DGet.k (k := .inr i) h, q⟩
/-! ### [*xs, y]; if xs:; dict(pairs) -/
def kStar (K : PySem.W.Frag) (t : TA) (σ : L2.St) (x : V) (H : Hp) (Q : List V → Hp → Prop) : Prop := ∃ p xs, x = V.ref p ∧ (SqT K H p xs ∨ SqL K H p xs) ∧ t σ H fun ys H2 => Q (xs ++ ys) H2
theorem g_star {t : TA} {QA : List V → Hp → Prop} (q : te σ H fun x H1 => kStar K t σ x H1 QA) : StX.tStar K te t σ H QA := q
theorem g_kstarL {t : TA} {QA : List V → Hp → Prop} {a : Addr} {xs : List V} (h : H a = some (.lst xs)) (q : t σ H fun ys H2 => QA (xs ++ ys) H2) : kStar K t σ (.ref a) H QA := ⟨a, xs, rfl, .inr (SqL.of h), q⟩
theorem g_kstarT {t : TA} {QA : List V → Hp → Prop} {a : Addr} {xs : List V} (h : H a = some (.tup xs)) (q : t σ H fun ys H2 => QA (xs ++ ys) H2) : kStar K t σ (.ref a) H QA := ⟨a, xs, rfl, .inl (SqT.of h), q⟩
theorem k_star {X : Cx} {es : List Expr} {t : TA} {ex : Expr} {p : Pos} (K : PySem.W.Frag) (h : PA X (.Starred ex p :: es) (StX.tStar X.K te t)) (e : X.K = K := by rfl) : PA X (.Starred ex p :: es) (StX.tStar K te t) := by subst e; exact h
def kTru (K : PySem.W.Frag) (x : V) (H : Hp) (R : Bool → Hp → Prop) : Prop := ∃ k, TruV K x H k ∧ R k H
def tTru (K : PySem.W.Frag) (te : TE) : TT := fun σ H R => te σ H fun x H1 => kTru K x H1 R
theorem pt_tru {X : Cx} {a : Expr} (K : PySem.W.Frag) (ha : PE X a ta) (he : ∀ whole, isTrue a X.env whole = (do let v ← whole; standAt a.pos; holding [v] (truthy v)) := by intro _; rfl) (e : X.K = K := by rfl) : PT X a (tTru K ta) := by subst e; exact pt_truth ha he
theorem g_tru {R : Bool → Hp → Prop} (q : te σ H fun x H1 => kTru K x H1 R) : tTru K te σ H R := q
theorem g_truL {R : Bool → Hp → Prop} {a : Addr} {xs : List V} (h : H a = some (.lst xs)) (q : R (!xs.isEmpty) H) : kTru K (.ref a) H R := ⟨_, .inl ⟨xs, SqL.of h, rfl⟩, q⟩
def rDictP (K : PySem.W.Frag) : List V → Hp → VK → Prop := fun xs H Q => ∃ (a : Addr) (ps : List Addr) (kvs : List (Key × V)), xs = [.ref a] ∧ SqL K H a (ps.map V.ref) ∧ Paired (fun p kv => SqT K H p [kV kv.1, kv.2]) ps kvs ∧ ∀ p, H p = none → Q (.ref p) (upd H p (.dK (mergeK [] kvs)))
theorem cr_dictP {X : Cx} (K : PySem.W.Frag) (hc : X.calm = true) (e : X.K = K := by rfl) : CallR X (.type "dict") (rDictP K) := by subst e; exact call_dictP hc
theorem g_dictP {a : Addr} {ps : List Addr} {kvs : List (Key × V)} (h : H a = some (.lst (ps.map V.ref))) (hp : Paired (fun p kv => SqT K H p [kV kv.1, kv.2]) ps kvs) (hH : Has F O H) (q : ∀ p H', H p = none → Has F ((p, .dK (mergeK [] kvs)) :: O) H' → Q (.ref p) H') : rDictP K [.ref a] H Q :=
  ⟨a, ps, kvs, rfl, SqL.of h, hp, fun p n => q p _ n (hH.new n)⟩
end
/-! ### data without lists; tuples of ints; pairs to a dict -/
mutual
def noL : PyData → Bool
  | .list _ => false
  | .dict _ => false
  | .tuple ds => noLs ds
  | _ => true
def noLs : List PyData → Bool
  | [] => true
  | d :: ds => noL d && noLs ds
end
theorem noLs_mem : ∀ {ds : List PyData}, (∀ d ∈ ds, noL d = true) → noLs ds = true
  | [], _ => by rw [noLs]
  | d :: ds, h => by
    rw [noLs, h d List.mem_cons_self, noLs_mem fun x hx => h x (List.mem_cons_of_mem _ hx)]
    rfl
mutual
theorem Dq.keep {H H' : Hp} (e : ∀ b xs, H b = some (.tup xs) → H' b = some (.tup xs)) : ∀ (d : PyData) (v : V), noL d = true → Dq H v d → Dq H' v d
  | _, _, _, .non => .non
  | _, _, _, .bl b => .bl b
  | _, _, _, .int i => .int i
  | _, _, _, .str x => .str x
  | .list ds, _, n, .lst s a => by rw [noL] at n; cases n
  | .tuple ds, _, n, .tup s a => .tup (e _ _ s) (DqAll.keep e ds _ (by rw [noL] at n; exact n) a)
theorem DqAll.keep {H H' : Hp} (e : ∀ b xs, H b = some (.tup xs) → H' b = some (.tup xs)) : ∀ (ds : List PyData) (vs : List V), noLs ds = true → DqAll H vs ds → DqAll H' vs ds
  | _, _, _, .nil => .nil
  | d :: ds, _, n, .cons h t => by
    rw [noLs, Bool.and_eq_true] at n
    exact .cons (Dq.keep e d _ n.1 h) (DqAll.keep e ds _ n.2 t)
end
theorem Has.keep {F H : Hp} {O : Own} (h : Has F O H) (ho : ∀ p ∈ O, ∀ xs, p.2 ≠ .tup xs) {ds : List PyData} {vs : List V} (n : ∀ d ∈ ds, noL d = true) (d : DqAll H vs ds) : DqAll (rmO O H) vs ds :=
  d.keep (fun _ _ e => h.re_of e fun p hp => ho p hp _) _ _ (noLs_mem n)
theorem eqv_tints (xs ys : List Int) : PyData.eqv (.tuple (xs.map PyData.int)) (.tuple (ys.map PyData.int)) = decide (xs = ys) := by
  rw [PyData.eqv, eqvAll_ints]
theorem eqv_tstrs (xs ys : List Str) : PyData.eqv (.tuple (xs.map PyData.str)) (.tuple (ys.map PyData.str)) = decide (xs = ys) := by
  rw [PyData.eqv, eqvAll_strs]
theorem ixN_last (n : Nat) : ixN (n + 1) (-1) = some n := by
  unfold ixN
  rw [if_neg (by decide), if_pos (by omega)]
  congr 1
  omega
theorem valV_merge (i : Key) : ∀ (kvs acc : List (Key × V)), valV (mergeK acc kvs) i = (valV kvs.reverse i).or (valV acc i)
  | [], acc => by simp [mergeK, valV]
  | p :: r, acc => by
    show valV (mergeK (putK acc p.1 p.2) r) i = _
    rw [valV_merge i r, valV_put, List.reverse_cons]
    unfold valV
    rw [List.find?_append]
    cases h : r.reverse.find? fun kv => decide (kv.1 = i) with
    | some x => simp
    | none =>
      by_cases e : p.1 = i
      · simp [List.find?_cons, e]
      · rw [if_neg (fun z => e z.symm)]; simp [List.find?_cons, e]
def kLcR2 (g : TG) (tt : TT) (te : TE) (ws : List Nat) (σ : L2.St) (vs : List V) (H : Hp) (Q : VK) : Prop := ∃ i j : Int, vs = [.int i, .int j] ∧ (-(2 ^ 62) ≤ i ∧ i < 2 ^ 62 ∧ -(2 ^ 62) ≤ j ∧ j < 2 ^ 62) ∧ kLc (Itr i (j - i).toNat) g tt te ws σ H Q
section
variable {K : PySem.W.Frag} {σ : L2.St} {F : Hp} {O O' : Own} {H : Hp} {Q : VK} {x y v : V} {ta te : TE} {g : TG}
theorem g_lcR2 {ta : TA} {tt : TT} {vs : List Nat} (q : ta σ H fun xs H1 => kLcR2 g tt te vs σ xs H1 Q) : tLc (iRng2 ta) g tt te vs σ H Q := q
theorem k_lcR2 {lo j : Int} {tt : TT} {vs : List Nat} (h0 : -(2 ^ 62) ≤ lo ∧ lo < 2 ^ 62 ∧ -(2 ^ 62) ≤ j ∧ j < 2 ^ 62) (hH : Has F O H) (S : Nat → List V → Hp → Own → Prop) (h0 : S 0 [] F O)
    (hs : ∀ i acc F O D H, i < (j - lo).toNat → S i acc F O → Has F ((D, .lst acc) :: O) H → g (.int (lo + (i : Nat))) (wipe σ vs) H fun σ2 H2 => wipe σ2 vs = wipe σ vs ∧ tt σ2 H2 fun b H3 => if b = true then te σ2 H3 fun y H4 => kTurn D (kNx S i D) y H4 else kNx S i D H3)
    (hd : ∀ acc F O D H, S (j - lo).toNat acc F O → Has F ((D, .lst acc) :: O) H → Q (.ref D) H) : kLcR2 g tt te vs σ [.int lo, .int j] H Q := by
  refine ⟨lo, j, rfl, by assumption, k_lc hH (j - lo).toNat S h0 (fun i acc F O D H hi s hh => hi) (fun acc F O D H s hh => Nat.le_refl _) (fun i x acc F O D H H' hi y s hh => ?_) hd⟩
  obtain ⟨e, y⟩ := y
  subst e y
  exact hs i acc F O D _ hi s hh
theorem g_truT {R : Bool → Hp → Prop} {a : Addr} {xs : List V} (h : H a = some (.tup xs)) (q : R (!xs.isEmpty) H) : kTru K (.ref a) H R := ⟨_, .inr (.inl ⟨xs, SqT.of h, rfl⟩), q⟩
end
/-! ### list.extend by a list, by a tuple -/
theorem ext_tup (l : Addr) (items : Array Value) (n : Nat) (b : Addr) (items2 : Array Value) (n2 : Nat) (d0 : Option Addr) (sl : Array (Option Value)) (hs0 : ¬(!items.isEmpty && Builtin.List.listTooLong (items.size + items2.size)) = true) (hs1 : items.size ≤ sizeLine) (hs2 : items.size + items2.size ≤ sizeLine + 1) :
    Meets (Builtin.«list.extend» ⟨[.ref l, .ref b], []⟩) (fun _ R s => s.heap.get? l = some { cls := .type "list", dict := none, data := .seq items n, slots := #[] } ∧ s.heap.get? b = some { cls := .type "tuple", dict := d0, data := .seq items2 n2, slots := sl } ∧ R (.ok (.ret Value.none)) { s with heap := s.heap.update l (Obj.mapSeq fun x => x ++ items2), toks := s.toks }) :=
  .of_wp fun prog w A R s h => by
    obtain ⟨hp, g, d, tk, os⟩ := s
    obtain ⟨hl, hb, h⟩ := h
    have f1 := PySem.AutoSeq1.sub_tuple_tuple
    have f2 := PySem.AutoSeq1.sub_list_list
    have f3 := PySem.AutoSeq1.sub_tuple_list
    have f4 := PySem.AutoSeq1.sub_list_tuple
    have hz' : (items ++ items2).size ≤ sizeLine + 1 := by rw [Array.size_append]; exact hs2
    wp_walk using (wpAny_updateSeq hl rfl (hz := hs1) (_hz' := hz')), PySem.AutoSeq1.wpAny_loadPart' hl, PySem.AutoSeq1.wpAny_loadPart' hb
    exact ⟨_, rfl, h⟩
section
variable {X : Cx}
def rExtendT (K : PySem.W.Frag) : V → List V → Hp → VK → Prop := fun x vs H Q => ∃ l b xs zs, x = .ref l ∧ vs = [.ref b] ∧ H l = some (.lst xs) ∧ SqT K H b zs ∧ xs.length + zs.length ≤ sizeLine ∧ Q .non (upd H l (.lst (xs ++ zs)))
theorem mt_extendT : MtM X "list.extend" (rExtendT X.K) := by
  intro pins s σ H x vs v us Q I rx rv h
  obtain ⟨l, b, xs, zs, rfl, rfl, hH, hB, hz, q⟩ := h
  cases rx
  obtain ⟨u, rfl, ru⟩ := rv.one
  cases ru
  obtain ⟨z, its, n, r, hl, e⟩ := I.lstM hH
  obtain ⟨its2, r2, ⟨⟨cl, dc, da, so⟩, e2, hc, n2, hd⟩, z2⟩ := I.tuple hB
  have hc : cl = .type "tuple" := hc
  have hd : da = .seq its2.toArray n2 := hd
  subst hc hd
  have hl2 := r2.length
  have hsz : its.toArray.size + its2.toArray.size ≤ sizeLine := by rw [List.size_toArray, List.size_toArray]; omega
  have hlong : ¬ (!its.toArray.isEmpty && Builtin.List.listTooLong (its.toArray.size + its2.toArray.size)) = true := by
    rw [notLongL hsz, Bool.and_false]
    exact Bool.false_ne_true
  refine call_meets F.slot_list_extend ⟨_, e, rfl⟩ F.entry_list_extend (F.args_list_extend_2 _ _) (ext_tup l its.toArray n b its2.toArray n2 dc so hlong (by rw [List.size_toArray]; omega) (by omega)) ⟨e, e2, ?_⟩
  refine ⟨.non, _, I.lset (its' := its ++ its2) hH e (by simp) (r.append r2) ?_, rfl, q⟩
  rw [List.length_append]
  omega
def rExtendA (K : PySem.W.Frag) : V → List V → Hp → VK → Prop := fun x vs H Q => rExtend x vs H Q ∨ rExtendT K x vs H Q
theorem mt_extendA (K : PySem.W.Frag) (e : X.K = K := by rfl) : MtR X "list.extend" (rExtendA K) := by
  subst e
  intro pins s σ H x vs v us Q I rx rv h
  rcases h with h | h
  · exact mt_extend pins s σ H x vs v us Q I rx rv h
  · exact mt_extendT pins s σ H x vs v us Q I rx rv h
end
section
variable {K : PySem.W.Frag} {F : Hp} {O O' : Own} {H : Hp} {Q : VK}
theorem g_extL {a b : Addr} {xs zs : List V} (hH : Has F O H) (hb : H b = some (.lst zs)) (c : Chg O a (.lst xs) (.lst (xs ++ zs)) O') (hl : xs.length + zs.length ≤ sizeLine) (q : ∀ H', Has F O' H' → Q .non H') : rExtendA K (.ref a) [.ref b] H Q :=
  .inl ⟨a, b, xs, zs, rfl, rfl, hH.get c.mem, hb, hl, q _ (hH.put c)⟩
theorem g_extT {a b : Addr} {xs zs : List V} (hH : Has F O H) (hb : H b = some (.tup zs)) (c : Chg O a (.lst xs) (.lst (xs ++ zs)) O') (hl : xs.length + zs.length ≤ sizeLine) (q : ∀ H', Has F O' H' → Q .non H') : rExtendA K (.ref a) [.ref b] H Q :=
  .inr ⟨a, b, xs, zs, rfl, rfl, hH.get c.mem, SqT.of hb, hl, q _ (hH.put c)⟩
end
theorem Has.made2 {F H H' : Hp} {O : Own} {p l : Addr} {o u : HO} (h : Has F O H) (np : H p = none) (nl : H l = none) (s : Same H H') (ep : H' p = some o) (el : H' l = some u) (ne : p ≠ l) : Has F ((p, o) :: (l, u) :: O) H' := by
  have h1 := h.made nl s el
  refine ⟨h1.same, fun q hq => ?_, ?_⟩
  · rcases List.mem_cons.mp hq with rfl | hq
    · exact ⟨h.same.free np, ep⟩
    · exact h1.own q hq
  · rw [List.map_cons]
    refine List.nodup_cons.mpr ⟨fun m => ?_, h1.nd⟩
    obtain ⟨q, hq, e⟩ := List.mem_map.mp m
    rcases List.mem_cons.mp hq with rfl | hq
    · exact ne e.symm
    · have := (h.own q hq).2
      rw [e, np] at this
      cases this
end Qk

namespace Qk
open PySem PySem.Spec PyProof.Rows L2

/-! ### defs that raise -/
section
variable {P : Program} {w : World} {K : PySem.W.Frag} {mg : Str → Option Value} {base : Heap}
theorem Fun.okN {x qual : Str} {st : Stmt} {f : Addr} {fd : FuncData} {N ps : List Str} {k : Nat} {sp : Sp} (F : Fun K x qual st f fd) (S : FnScope N ps (defScope st)) (len : ∀ vs H Q E, sp vs H Q E → vs.length = ps.length)
    (hbody : ∀ (cdv : Value) (A : Around) (outer : List Env) (s : Shared) (H : Hp) (vs : List V) (Q : VK) (E : XK), Room k (A.deeper (envOfC qual (defScope st) s.heap.objs.size f cdv)) → sp vs H Q E →
      ∃ t, PSs (cxOf (L2N.CX P w) P w K mg base N qual (defScope st) f cdv A outer s H E) (defBody st) t ∧ t { nx := fun _ H' => Q .non H', rt := Q } (start N vs) H) : FnOk P w K mg base (L2N.CX P w) (k + 1) f fd ps sp := by
  obtain ⟨oc, od, kV, doc, pm, an, cdv, ct, osl, rfl, lk, hcd⟩ := F.ex
  exact fn_of lk hcd S len fun A outer s H vs Q E hr hsp => hbody cdv A outer s H vs Q E hr hsp
/-- a def that is called in a suite -/
theorem Fun.okH {x qual : Str} {st : Stmt} {f : Addr} {fd : FuncData} {N ps : List Str} {k : Nat} {sp : Sp} (F : Fun K x qual st f fd) (S : FnScope N ps (defScope st)) (len : ∀ vs H Q E, sp vs H Q E → vs.length = ps.length)
    (hbody : ∀ (cdv : Value) (A : Around) (outer : List Env) (s : Shared) (H : Hp) (vs : List V) (Q : VK) (E : XK) (p : Addr × Obj), L2H.Hot1 A p → L2H.RoomH k (A.deeper (envOfC qual (defScope st) s.heap.objs.size f cdv)) → sp vs H Q E →
      ∃ t, PSs (L2H.cxH CX0 P w K mg base N qual (defScope st) f cdv A outer s H E p) (defBody st) t ∧ t { nx := fun _ H' => Q .non H', rt := Q } (start N vs) H) : L2H.FnH P w K mg base CX0 (k + 1) f fd ps sp := by
  obtain ⟨oc, od, kV, doc, pm, an, cdv, ct, osl, rfl, lk, hcd⟩ := F.ex
  exact L2H.fn_ofH lk hcd S len fun A outer s H vs Q E p hot hr hsp => hbody cdv A outer s H vs Q E p hot hr hsp
end
theorem passN {X : Cx} : Passes (L2N.CX X.prog X.w) X E0 := fun _ _ _ _ _ _ _ h => by
  obtain ⟨_, _, _, _, _, _, _, _, _, _, _, _, z⟩ := h
  exact z.elim
theorem takesN {X : Cx} : L2N.Takes X (fun _ _ _ _ => False) := fun _ _ x => by
  obtain ⟨_, _, _, _, _, _, _, _, _, _, _, _, _, _, _, _, z⟩ := x
  exact z.elim

theorem _root_.L2H.RoomH.units {k : Nat} {A : Around} (r : L2H.RoomH k A) : A.units + 64 < cLine := by
  have := r.un
  omega
theorem roomS {k j : Nat} {A : Around} {h : Option Value} (r : Room k A) (e : j ≤ k) : L2H.RoomH j (A.mark h) := by
  have h1 := r.dp
  have h2 := r.un
  exact ⟨by show A.depth + 3 * j + 5 < _; omega, by show A.units + 16 * j + 200 < _; omega⟩
theorem huH {k : Nat} {A : Around} (r : L2H.RoomH k A) : A.units + 1 < cLine := by
  have := r.un
  omega
theorem u65H {k : Nat} {A : Around} (r : L2H.RoomH k A) : A.units + 65 < cLine := by
  have := r.un
  omega
/-- ways that meet in one heap fact: refine' g_merge (F := F) (O := O) (R := _) ?a ?b -/
theorem g_merge {F : Hp} {O : Own} {G : Prop} {R : Hp → Prop} (h1 : (∀ H', Has F O H' → R H') → G) (h2 : ∀ H', Has F O H' → R H') : G := h1 h2
theorem g_merge2 {α : Type} {G : Prop} {R : α → Hp → Prop} (P : α → Hp → Prop) (h1 : (∀ x H', P x H' → R x H') → G) (h2 : ∀ x H', P x H' → R x H') : G := h1 h2
theorem g_mergeP {F : Hp} {O : Own} {P G : Prop} {R : Hp → Prop} (h1 : (∀ H', Has F O H' → P → R H') → G) (h2 : ∀ H', Has F O H' → P → R H') : G := h1 h2
/-- a constant of the program's text -/
theorem pe_gc {X : Cx} {x : Str} {pos : Pos} {v : V} (hg : Gl X x) (h : ∃ u, X.mg x = some u ∧ RelV v u) (hd : (x == ("__debug__" : Str)) = false := by decide) : PE X (.Name x pos) (tC v) := by
  obtain ⟨u, hm, r⟩ := h
  exact pe_glob hg hm r hd
/-! ### raise C(e, ..) -/
section
variable {X : Cx} {pins : List (Addr × Obj)} {σ : L2.St} {H : Hp} {hp : Heap} {g : Array GenState} {dr : Drawn} {tk : Nat} {os : OsState} {C : Addr}
/-- the tuple of the arguments and the bare exception laid behind the heap -/
abbrev barePut (hp : Heap) (C : Addr) (us : List Value) : Heap := (hp.push (PySem.W.kdv_tup us)).push (PySem.HandSPX.excO C hp.objs.size)
theorem barePut_keeps {us : List Value} (b : Addr) (o : Obj) (e : hp.get? b = some o) : (barePut hp C us).get? b = some o := Heap.get?_push_of_some _ (Heap.get?_push_of_some _ e)
theorem barePut_inv (I : Inv X pins σ H ⟨hp, g, dr, tk, os⟩) (us : List Value) : Inv X pins σ (upd H (hp.objs.size + 1) (exo (hp.objs.size + 1) C none)) ⟨barePut hp C us, g, dr, tk, os⟩ := by
  refine I.laid (t' := tk) barePut_keeps (Nat.le_succ _) (exo_ok (t1 := hp.objs.size) ?_)
  unfold barePut
  heap_get
/-- what an __init__ leaves, as an exception in hand -/
theorem in_hand {H2 : Hp} {Q : XK} {us : List Value} {s' : Shared} {d : Addr} {fs : List (Str × V)} (T : OexC X.K C) (I : Inv X pins σ H ⟨hp, g, dr, tk, os⟩) (un : Un (frs X.stack) [] (upd H (hp.objs.size + 1) (exo (hp.objs.size + 1) C none)) H2 (barePut hp C us) s'.heap)
    (ok : HOk X.prog X.w H2 s'.heap) (eo : s'.os = os) (bare : AllBare s'.gens) (ea : H2 (hp.objs.size + 1) = some (exo (hp.objs.size + 1) C (some d))) (ed : H2 d = some (exd d fs)) (nd : H d = none)
    (q : Q (.ref C) (some d) (upd (del H2 (hp.objs.size + 1)) d (.xd fs))) : L2N.MkP X pins σ Q (.ref (hp.objs.size + 1)) s' := by
  obtain ⟨h2, g2, d2, t2, o2⟩ := s'
  obtain ⟨tt, G, J, kG, gone, there, free⟩ := mk_end0 (t2 := t2) (d2 := d2) I (Nat.le_succ _) barePut_keeps un ok eo bare ea ed nd
  have zn : L2N.Zn (.ref C) (some d) ({ cls := .ref C, dict := some d, data := .fields #[.ref tt, .none, .none, .none, .bool false, .none] } : Obj) := ⟨rfl, rfl, fun vs hv => by cases hv; rfl⟩
  exact ⟨_, _, _, ⟨G, g2, d2, t2, o2⟩, _, _, some d, rfl, J, kG, gone, there, zn, rfl, rfl, free, rfl, bare, raises_own T.exC T.tyC, q⟩
end
theorem pmk_oexN {X : Cx} {e : Expr} {es : List Expr} {ta : TA} {p pos : Pos} {CX : CXT} {x : Str} {C fI : Addr} {k : Nat} {fd : FuncData} {ps : List Str} {sp : Sp} (T : OexC X.K C) (iC : PySem.W.findIn X.K (.ref C) "__init__" = some (some (.ref fI))) (tI : PySem.W.typeIn X.K (.ref fI) = some (.type "function"))
    (Fi : FnOk X.prog X.w X.K X.mg X.base CX k fI fd ps sp) (room : Room (k + 1) X.A) (binds : Binds X.K fd ps []) (pass : Passes CX X (fun _ _ _ => False)) (gl : Gl X x) (gm : X.mg x = some (.ref C)) (args : PA X (e :: es) ta)
    (dbg : (x == ("__debug__" : Str)) = false := by decide) (star : starEach (e :: es) X.env = (false, eval e X.env) :: starEach es X.env := by rfl) (plain : (backTo pos (starEach es X.env)).any (·.1) = false := by rfl) :
    L2N.PMk X (.Call (.Name x p) (e :: es) [] pos) (tMkO C sp [] ta) := fun pins s σ H Q I h => by
  obtain ⟨_, _, _, _, bm, _, _, _, _, _, _, _, _, _, _, cl, rf⟩ := T.cls
  refine wpAny_Call_Name_kw (ld_glob I gl gm (PySem.W.callWith_K (h₀ := X.base) I.ok.mod.kin T.kC (thn (args.run pos pins s σ H _ I h) fun us s1 hs => ?_) star plain) dbg)
  obtain ⟨vs, H1, J, rel, few, spq⟩ := hs
  refine ⟨J.kIn, ?_⟩
  obtain ⟨hp, g, dr, tk, os⟩ := s1
  have J2 := barePut_inv (C := C) J us
  have start := spq (hp.objs.size + 1) (J.hok.fresh (Nat.le_succ _))
  rw [List.append_nil] at start
  have vals : Vals (V.ref (hp.objs.size + 1) :: vs) (Value.ref (hp.objs.size + 1) :: us) := .cons rfl rel
  have many : (Value.ref (hp.objs.size + 1) :: us).length = ps.length := vals.length.symm.trans (Fi.len _ _ _ _ start)
  have bd := binds _ (Value.ref (hp.objs.size + 1) :: us) J2.kIn (by rw [List.append_nil]; exact many)
  rw [List.append_nil] at bd
  have room2 : us.length ≤ sizeLine := sz (by have := Paired.length rel; omega)
  have run := Fi.run _ X.stack _ _ ⟨Value.ref (hp.objs.size + 1) :: us, []⟩ (Value.ref (hp.objs.size + 1) :: us) _ _ (fun _ _ _ => False) (room.make C us []) (J2.env0.make C us []) bd vals start
  show wpAny (model X.prog X.w) X.A (call (.ref C) us) _ _ _
  refine wpAny_call (PySem.HandSPX.call_own F.excBase_ValueError (fun Y => PySem.HandSPX.refsVE_contains Y bm rf) (J.kIn _ _ cl) (PySem.W.looks_findIn J.kIn iC) (fun self => PySem.W.bind_fn J.kIn self tI) room2 (codeAny_mono run fun r s' end_ => ?_))
  match r, end_ with
  | .error er, end_ => exact pass pins σ _ _ er s' J2 end_
  | .ok (.ret u), ⟨v, H2, eo, bare, un, ok, ru, ev, d, fs, ea, ed, nd, q⟩ =>
    subst ev
    exact ⟨ru, in_hand T J un ok eo bare ea ed nd q⟩
  | .ok .next, end_ => exact end_.elim
  | .ok .brk, end_ => exact end_.elim
  | .ok .cont, end_ => exact end_.elim

/-! ### readings in order -/
/-- raise C(vs) -/
def kMk (C : Addr) (sp : Sp) (vs : List V) (H : Hp) (Q : XK) : Prop := vs.length ≤ 1000 ∧ ∀ a, H a = none → sp (.ref a :: (vs ++ [])) (upd H a (exo a C none))
  (fun v H2 => v = .non ∧ ∃ (d : Addr) (fs : List (Str × V)), H2 a = some (exo a C (some d)) ∧ H2 d = some (exd d fs) ∧ H d = none ∧ Q (.ref C) (some d) (upd (del H2 a) d (.xd fs))) (fun _ _ _ => False)
def tRaise (W : WX) (C : Addr) (sp : Sp) (ta : TA) : TS := fun _ σ H => tMkO C sp [] ta σ H fun cls d H' => W cls d σ H'
theorem k_raise {X : Cx} {W : WX} {e : Expr} {C : Addr} {sp : Sp} {ta : TA} {pos : Pos} (hc : X.calm = true) (tk : L2N.Takes X W) (he : L2N.PMk X e (tMkO C sp [] ta)) : PS X (.Raise (some e) none pos) (tRaise W C sp ta) := L2N.ps_raise hc tk he
theorem g_raise {W : WX} {C : Addr} {sp : Sp} {ta : TA} {D : Ends} {σ : L2.St} {H : Hp} (q : ta σ H fun vs H1 => kMk C sp vs H1 fun cls d H' => W cls d σ H') : tRaise W C sp ta D σ H := q
/-- try: body, except c as i: suite -/
def tTry (K : PySem.W.Frag) (c : Value) (i : Nat) (tb : WX → TS) (ts : Addr → Value → Option Addr → TS) (Wout : WX) : TS := fun D σ H => tb (wAs K c i ts Wout D) D σ H
theorem k_try {X : Cx} {x n : Str} {c : Value} {i : Nat} {body suite : List Stmt} {b₀ : Stmt} {np pos pos' : Pos} {tb : WX → TS} {ts : Addr → Value → Option Addr → TS} {Wout : WX} (K : PySem.W.Frag)
    (hs : X.stack = X.env :: X.outer) (hf : X.env.frame = some X.env.locals) (hN : X.N.Nodup) (hi : X.N[i]? = some n) (hln : X.env.kindOf n = some .local) (hc : Names X x c) (tk : L2N.Takes X Wout)
    (hb : ∀ (W : WX) (pn : List (Addr × Obj)) (xe : Value → Shared → Prop), L2N.Takes (X.tr pn xe) W → PassesOwn (model X.prog X.w) X.A X.env xe → PSs (X.tr pn xe) body (tb W))
    (hsu : ∀ (a : Addr) (oe : Obj) (cls : Value) (d : Option Addr) (pn : List (Addr × Obj)), L2N.Zn cls d oe → (∃ vs, oe.data = .fields vs) → PSs (X.suite a ((a, oe) :: pn)) (b₀ :: suite) (ts a cls d)) (e : X.K = K := by rfl) :
    PS X (.Try body [.ExceptHandler (some (.Name x np)) (some n) (b₀ :: suite) pos'] [] [] pos) (tTry K c i tb ts Wout) := by subst e; exact L2N.ps_try_as hs hf hN hi hln hc tk hb hsu
/-- the way into the suite -/
theorem g_caught {K : PySem.W.Frag} {c cls : Value} {i : Nat} {ts : Addr → Value → Option Addr → TS} {Wout : WX} {D : Ends} {d : Option Addr} {σ : L2.St} {H : Hp} (m : PySem.W.exmOne K cls c = some true)
    (q : ∀ a, H a = none → ts a cls d { nx := fun σ' H' => D.nx (σ'.set i none) H', rt := D.rt, bk := fun σ' H' => D.bk (σ'.set i none) H', ct := fun σ' H' => D.ct (σ'.set i none) H' } (σ.set i (some (.ref a))) H) : wAs K c i ts Wout D cls d σ H :=
  ⟨true, m, fun _ => q, fun z => by cases z⟩
theorem g_try {K : PySem.W.Frag} {c : Value} {i : Nat} {tb : WX → TS} {ts : Addr → Value → Option Addr → TS} {Wout : WX} {D : Ends} {σ : L2.St} {H : Hp} (q : tb (wAs K c i ts Wout D) D σ H) : tTry K c i tb ts Wout D σ H := q
theorem g_callS {sp : Sp} {E : L2.St → XK} {t : TA} {σ : L2.St} {H : Hp} {Q : VK} (q : t σ H fun vs H1 => sp vs H1 Q (E σ)) : tCallS sp E t σ H Q := q

theorem g_ost {K : PySem.W.Frag} {f : Str} {to te : TE} {D : Ends} {σ : L2.St} {H : Hp} (q : tOst K f to te D σ H) : tOst K f to te D σ H := q
theorem upd_over {H : Hp} {dx a : Addr} {e1 e2 x : HO} (ne : dx ≠ a) : upd (upd (upd H dx e1) a x) dx e2 = upd (upd H dx e2) a x := by
  funext b
  by_cases h1 : b = dx
  · subst h1
    rw [upd_same, upd_ne ne, upd_same]
  · rw [upd_ne h1]
    by_cases h2 : b = a
    · subst h2
      rw [upd_same, upd_same]
    · rw [upd_ne h2, upd_ne h2, upd_ne h1, upd_ne h1]
/-- __init__ that keeps each argument in a field of its name -/
def sp_oinit (C : Addr) (names : List Str) : Sp := fun vs H Q _ => ∃ (a : Addr) (ws : List V), vs = .ref a :: ws ∧ ws.length = names.length ∧ H a = some (exo a C none) ∧
  ∀ dx, H dx = none → dx ≠ a → Q .non (upd (upd H dx (exd dx (names.zip ws).reverse)) a (exo a C (some dx)))
theorem sp_oinit_len {C : Addr} {names : List Str} {vs H Q E} (h : sp_oinit C names vs H Q E) : vs.length = names.length + 1 := by
  obtain ⟨a, ws, rfl, hl, _⟩ := h
  rw [List.length_cons, hl]
theorem g_mk {C : Addr} {names : List Str} {vs : List V} {F H : Hp} {O : Own} {Q : XK} (hl : vs.length = names.length) (hs : names.length ≤ 1000) (hH : Has F O H) (q : ∀ d H', H d = none → Has F ((d, .xd (names.zip vs).reverse) :: O) H' → Q (.ref C) (some d) H') : kMk C (sp_oinit C names) vs H Q := by
  refine ⟨by omega, fun a n => ⟨a, vs ++ [], rfl, by rw [List.append_nil]; exact hl, upd_same, fun dx n1 ne => ⟨rfl, dx, (names.zip vs).reverse, upd_same, ?_, ?_, ?_⟩⟩⟩
  · rw [upd_ne ne, upd_same, List.append_nil]
  · rw [upd_ne ne] at n1
    exact n1
  · rw [upd_ne ne] at n1
    have e : upd (del (upd (upd (upd H a (exo a C none)) dx (exd dx (names.zip (vs ++ [])).reverse)) a (exo a C (some dx))) a) dx (.xd (names.zip vs).reverse) = upd H dx (.xd (names.zip vs).reverse) := by
      funext b
      by_cases h1 : b = dx
      · subst h1
        rw [upd_same, upd_same]
      · rw [upd_ne h1, upd_ne h1]
        by_cases h2 : b = a
        · subst h2
          rw [del_same, n]
        · rw [del_ne h2, upd_ne h2, upd_ne h1, upd_ne h2]
    rw [e]
    exact q dx _ n1 (hH.new n1)
/-! ### in a suite: isinstance, a field, a call -/
structure IsC (K : PySem.W.Frag) (D : Addr) : Prop where
  cl : (PySem.W.clsIn K D).isSome = true
  hg : PySem.W.findIn K (.ref D) "__getattribute__" = some (some (.builtin "BaseException.__getattribute__"))
  hk : PySem.W.findIn K (.ref D) "__getattr__" = some none
  hs : PySem.W.subIn K (.ref D) (.type "BaseException") = some true
  hd : PySem.W.hasDictIn K D = true
  ha : PySem.W.findIn K (.ref D) "__class__" = some (some (.builtin "object.__class__"))
  hn : PySem.W.specialIn K (.builtin "object.__class__") "__get__" = some (some (.builtin "getset_descriptor.__get__"))
  ht : PySem.W.takesIn K (.builtin "object.__class__") = some true
  hm : PySem.W.mroIn K D (.type "object") = some true
/-- isinstance(e, c) for the caught e: a is where it stands -/
def rIsX (K : PySem.W.Frag) (a : Addr) (cls : Value) (d : Option Addr) : List V → Hp → VK → Prop := fun xs H Q => ∃ (D : Addr) (c : V) (cv : Value) (b : Bool), cls = .ref D ∧ IsC K D ∧ (d = none ∨ ∃ dd fs, d = some dd ∧ H dd = some (.xd fs)) ∧ xs = [.ref a, c] ∧ (∀ u, RelV c u → u = cv) ∧ PySem.W.kitOne K (.ref D) cv = some b ∧ Q (.bl b) H
def rIsY (K : PySem.W.Frag) (a : Addr) (cls : Value) (d : Option Addr) : List V → Hp → VK → Prop := fun xs H Q => rIsX K a cls d xs H Q ∨ rIsA K xs H Q
theorem cr_isX {X : Cx} {a : Addr} {oe : Obj} {cls : Value} {d : Option Addr} {pn : List (Addr × Obj)} (K : PySem.W.Frag) (hz : L2.Zc cls d oe) (hf : ∃ vs, oe.data = .fields vs) (e : X.K = K := by rfl) : CallR (X.suite a ((a, oe) :: pn)) (.builtin "isinstance") (rIsY K a cls d) := by
  subst e
  intro pins s σ H xs us Q I r h
  rcases h with h | h
  · obtain ⟨D, c, cv, b, ecl, C, hd, rfl, hcv, e, q⟩ := h
    cases r with
    | cons rx rr =>
      cases rr with
      | cons rt rr =>
        cases rr
        cases rx
        have ec := hcv _ rt
        subst ec
        obtain ⟨hget, _⟩ := I.pin (a, oe) (List.mem_append.mpr (.inl List.mem_cons_self))
        obtain ⟨vs, hv⟩ := hf
        have hcl : oe.cls = .ref D := hz.1.trans ecl
        have hdx := hz.2
        have key : ∀ od, PySem.W.InstAt s.heap a oe D od → wpAny (model X.prog X.w) (X.suite a ((a, oe) :: pn)).A (call (.builtin "isinstance") [.ref a, _]) (EP (X.suite a ((a, oe) :: pn)) pins σ Q) (X.suite a ((a, oe) :: pn)).xe s := fun od J =>
          PySem.W.kia_one (PySem.W.kitx_exc C.cl C.hg C.hk C.hs C.ha C.hn C.ht C.hm) I.kIn J e (fun z => nomatch z) fun tk => ⟨.bl b, H, I.kept (t' := tk) fun _ _ z => z, rfl, q⟩
        rcases hd with hd | ⟨dd, fs, hd, ea⟩
        · refine key none ?_
          rw [hd] at hdx
          exact ⟨hget, hcl, by unfold PySem.W.notCls; rw [hv] <;> rfl, by rw [hdx]; trivial⟩
        · have hx : ObjOk X.prog X.w H s.heap dd (.xd fs) := I.hok dd _ ea
          obtain ⟨mA, hns, hr⟩ := hx
          obtain ⟨od, ho, hl⟩ := lookIn_ns hns
          refine key (some od) ?_
          rw [hd] at hdx
          exact ⟨hget, hcl, by unfold PySem.W.notCls; rw [hv] <;> rfl, by rw [hdx]; exact ho⟩
  · exact cr_isK X.K (X := X.suite a ((a, oe) :: pn)) rfl pins s σ H xs us Q I r h
/-- e.f for the caught e -/
def tXfA (K : PySem.W.Frag) (a : Addr) (cls : Value) (d : Option Addr) (f : Str) (te : TE) : TE := fun σ H Q => te σ H fun x H1 => x = .ref a ∧ ∃ (C dd : Addr) (fs : List (Str × V)) (v : V), cls = .ref C ∧ XfC K C ∧ PySem.W.findIn K (.ref C) f = some none ∧ d = some dd ∧ H1 dd = some (.xd fs) ∧ fs.lookup f = some v ∧ Q v H1
theorem pe_xfA {X : Cx} {a : Addr} {oe : Obj} {cls : Value} {d : Option Addr} {pn : List (Addr × Obj)} {e : Expr} {te : TE} {pos : Pos} {n : Str} (K : PySem.W.Frag) (hz : L2.Zc cls d oe) (hf : ∃ vs, oe.data = .fields vs) (he : PE (X.suite a ((a, oe) :: pn)) e te) (ek : X.K = K := by rfl) (hb : attributeBase e n X.env (eval e X.env) = eval e X.env := by rfl) :
    PE (X.suite a ((a, oe) :: pn)) (.Attribute e n pos) (tXfA K a cls d n te) := by
  subst ek
  refine ⟨fun pins s σ H Q I h => ?_⟩
  refine attr_of hb (thn (he.run pins s σ H _ I h) fun u s1 hh => ?_)
  obtain ⟨x, H1, I1, rx, ex, C, dd, fs, v, ec, T, hno, ed, ea, l, q⟩ := hh
  subst ex
  obtain rfl : u = Value.ref a := rx
  subst ec
  subst ed
  obtain ⟨ha, _⟩ := I1.pin (a, oe) (List.mem_append_left _ List.mem_cons_self)
  obtain ⟨vs, hd⟩ := hf
  have hx : ObjOk X.prog X.w H1 s1.heap dd (.xd fs) := I1.hok dd _ ea
  obtain ⟨mA, hns, hr⟩ := hx
  obtain ⟨od, ho, hl⟩ := lookIn_ns hns
  obtain ⟨u, hu, ru⟩ := RelO.some_of (v := v) (o := mA n) (by rw [← l]; exact hr n)
  have J : PySem.W.InstAt s1.heap a oe C (some od) := ⟨ha, hz.1, by unfold PySem.W.notCls; rw [hd] <;> rfl, by rw [hz.2]; exact ho⟩
  exact HandSPX.exc_get I1.kIn J T.ga T.gg T.exC (PySem.W.findObj_own T.hdC hno rfl (by rw [hl, hu])) (handed_of ru) ⟨v, H1, I1.tok _, ru, q⟩
def kXf (K : PySem.W.Frag) (a : Addr) (cls : Value) (d : Option Addr) (f : Str) (x : V) (H1 : Hp) (Q : VK) : Prop := x = .ref a ∧ ∃ (C dd : Addr) (fs : List (Str × V)) (v : V), cls = .ref C ∧ XfC K C ∧ PySem.W.findIn K (.ref C) f = some none ∧ d = some dd ∧ H1 dd = some (.xd fs) ∧ fs.lookup f = some v ∧ Q v H1
theorem g_xf {K : PySem.W.Frag} {a : Addr} {cls : Value} {d : Option Addr} {f : Str} {te : TE} {σ : L2.St} {H : Hp} {Q : VK} (q : te σ H fun x H1 => kXf K a cls d f x H1 Q) : tXfA K a cls d f te σ H Q := q
theorem g_kxf {K : PySem.W.Frag} {a C dd : Addr} {f : Str} {fs : List (Str × V)} {v : V} {H : Hp} {Q : VK} (X : XfC K C) (n : PySem.W.findIn K (.ref C) f = some none) (hd : H dd = some (.xd fs)) (l : fs.lookup f = some v) (q : Q v H) : kXf K a (.ref C) (some dd) f (.ref a) H Q :=
  ⟨rfl, C, dd, fs, v, rfl, X, n, rfl, hd, l, q⟩
theorem g_isX {K : PySem.W.Frag} {a D C dd : Addr} {fs : List (Str × V)} {b : Bool} {H : Hp} {Q : VK} (I : IsC K D) (hd : H dd = some (.xd fs)) (k : PySem.W.kitOne K (.ref D) (.ref C) = some b) (q : Q (.bl b) H) : rIsY K a (.ref D) (some dd) [.ref a, .ref C] H Q :=
  .inl ⟨D, .ref C, .ref C, b, rfl, I, .inr ⟨dd, fs, rfl, hd⟩, rfl, fun u r => r, k, q⟩
theorem g_isXT {K : PySem.W.Frag} {a D dd : Addr} {n : String} {fs : List (Str × V)} {b : Bool} {H : Hp} {Q : VK} (I : IsC K D) (hd : H dd = some (.xd fs)) (k : PySem.W.kitOne K (.ref D) (.type n) = some b) (q : Q (.bl b) H) : rIsY K a (.ref D) (some dd) [.ref a, .ty n] H Q :=
  .inl ⟨D, .ty n, .type n, b, rfl, I, .inr ⟨dd, fs, rfl, hd⟩, rfl, fun u r => r, k, q⟩
theorem exm_own {K : PySem.W.Frag} {C : Addr} {cls : Value} {b : Bool} (h1 : PySem.W.subIn K (.ref C) (.type "BaseException") = some true) (hc : PySem.W.isClsIn K C = true) (ht : PySem.W.typeIn K (.ref C) = some (.type "type")) (h4 : PySem.W.subIn K cls (.ref C) = some b) : PySem.W.exmOne K cls (.ref C) = some b := by
  have hc' : (PySem.W.clsIn K C).isSome = true := hc
  have e1 : (PySem.W.subIn K (.ref C) (.type "BaseException") == some true) = true := by rw [h1] <;> rfl
  have e2 : ((PySem.W.clsIn K C).isSome && PySem.W.typeIn K (.ref C) == some (.type "type")) = true := by rw [hc', ht] <;> rfl
  show (if (PySem.W.subIn K (.ref C) (.type "BaseException") == some true) = true then (if ((PySem.W.clsIn K C).isSome && PySem.W.typeIn K (.ref C) == some (.type "type")) = true then PySem.W.subIn K cls (.ref C) else none) else none) = some b
  rw [if_pos e1, if_pos e2]
  exact h4
theorem kit_own {K : PySem.W.Frag} {D C : Addr} {b : Bool} (hs : PySem.W.subIn K (.ref D) (.ref D) = some true) (h4 : PySem.W.subIn K (.ref D) (.ref C) = some b) (hc : PySem.W.isClsIn K C = true) (ht : PySem.W.typeIn K (.ref C) = some (.type "type")) : PySem.W.kitOne K (.ref D) (.ref C) = some b := by
  have hc' : (PySem.W.clsIn K C).isSome = true := hc
  unfold PySem.W.kitOne
  by_cases e : (Value.ref D == Value.ref C) = true
  · rw [if_pos e]
    have e2 : D = C := Value.ref.inj (beq_iff_eq.mp e)
    subst e2
    rw [hs] at h4
    exact h4
  · rw [if_neg e]
    have e2 : ((PySem.W.clsIn K C).isSome && PySem.W.typeIn K (.ref C) == some (.type "type")) = true := by rw [hc', ht] <;> rfl
    show (if ((PySem.W.clsIn K C).isSome && PySem.W.typeIn K (.ref C) == some (.type "type")) = true then PySem.W.subIn K (.ref D) (.ref C) else none) = some b
    rw [if_pos e2]
    exact h4
theorem kit_ve {K : PySem.W.Frag} {D : Addr} (h : PySem.W.subIn K (.ref D) (.type "ValueError") = some true) : PySem.W.kitOne K (.ref D) (.type "ValueError") = some true := by
  have e : ¬ (Value.ref D == Value.type "ValueError") = true := by
    intro z
    cases (beq_iff_eq.mp z)
  unfold PySem.W.kitOne
  rw [if_neg e]
  show (if PySem.W.kitMeta "ValueError" = true then PySem.W.subIn K (.ref D) (.type "ValueError") else none) = some true
  rw [if_pos (by decide +kernel)]
  exact h
theorem hot_suite {X : Cx} {a : Addr} {oe : Obj} {cls : Value} {d : Option Addr} {pn : List (Addr × Obj)} (hz : L2N.Zn cls d oe) (hf : ∃ vs, oe.data = .fields vs) : L2H.HotC (X.suite a ((a, oe) :: pn)) := by
  obtain ⟨vs, hv⟩ := hf
  exact ⟨(a, oe), ⟨rfl, vs, hv, hz.2.2 vs hv⟩, List.mem_cons_self⟩

/-! ### objects -/
section
variable {X : Cx} {K : PySem.W.Frag} {σ : L2.St} {F : Hp} {O O' : Own} {H : Hp} {Q : VK} {ta te tv : TE} {x y v : V} {D : Ends}
theorem k_fld {ex : Expr} {f : Str} (K : PySem.W.Frag) (h : PE X ex (tFld X.K te f)) (e : X.K = K := by rfl) : PE X ex (tFld K te f) := by subst e; exact h
def kFld (K : PySem.W.Frag) (f : Str) (x : V) (H1 : Hp) (Q : VK) : Prop := ∃ a C dx fs v, x = .ref a ∧ H1 a = some (.ins C dx fs) ∧ Cls K C ∧ NoAttr K C f ∧ fs.lookup f = some v ∧ Q v H1
theorem g_fld {f : Str} (q : te σ H fun x H1 => kFld K f x H1 Q) : tFld K te f σ H Q := q
theorem g_kfld {a C dx : Addr} {fs : List (Str × V)} {f : Str} (h : H a = some (.ins C dx fs)) (c : Cls K C) (n : NoAttr K C f) (l : fs.lookup f = some v) (q : Q v H) : kFld K f (.ref a) H Q := ⟨a, C, dx, fs, v, rfl, h, c, n, l, q⟩
theorem k_sfld {st : Stmt} {f : Str} (K : PySem.W.Frag) (h : PS X st (sFld X.K ta tv f)) (e : X.K = K := by rfl) : PS X st (sFld K ta tv f) := by subst e; exact h
def kSFld (K : PySem.W.Frag) (f : Str) (x y : V) (D : Ends) (σ : L2.St) (H2 : Hp) : Prop := ∃ a C dx fs, x = .ref a ∧ H2 a = some (.ins C dx fs) ∧ Cls K C ∧ NoAttr K C f ∧ fs.length < 1000 ∧ D.nx σ (upd H2 a (.ins C dx (putF f y fs)))
theorem g_sfld {f : Str} (q : tv σ H fun y H1 => ta σ H1 fun x H2 => kSFld K f x y D σ H2) : sFld K ta tv f D σ H := q
theorem g_ksfld {a C dx : Addr} {fs fs' : List (Str × V)} {f : Str} (hH : Has F O H) (c : Chg O a (.ins C dx fs) (.ins C dx fs') O') (e : putF f y fs = fs') (cl : Cls K C) (n : NoAttr K C f) (hl : fs.length < 1000) (q : ∀ H', Has F O' H' → D.nx σ H') : kSFld K f (.ref a) y D σ H := by
  subst e
  exact ⟨a, C, dx, fs, rfl, hH.get c.mem, cl, n, hl, q _ (hH.put c)⟩
/-- o.m(..), what is let out told at the slots -/
def tMethS (C : Addr) (m : Str) (sp : Sp) (E : L2.St → XK) (ta : TE) (t : TA) : TE := fun σ H Q => ta σ H fun x H1 => ∃ a dx fs, x = .ref a ∧ H1 a = some (.ins C dx fs) ∧ fs.lookup m = none ∧ t σ H1 fun vs H2 => sp (x :: vs) H2 Q (E σ)
def kMeth (C : Addr) (m : Str) (sp : Sp) (E : L2.St → XK) (t : TA) (σ : L2.St) (x : V) (H1 : Hp) (Q : VK) : Prop := ∃ a dx fs, x = .ref a ∧ H1 a = some (.ins C dx fs) ∧ fs.lookup m = none ∧ t σ H1 fun vs H2 => sp (x :: vs) H2 Q (E σ)
theorem g_meth {C : Addr} {m : Str} {sp : Sp} {E : L2.St → XK} {t : TA} (q : ta σ H fun x H1 => kMeth C m sp E t σ x H1 Q) : tMethS C m sp E ta t σ H Q := q
theorem g_kmeth {C : Addr} {m : Str} {sp : Sp} {E : L2.St → XK} {t : TA} {a dx : Addr} {fs : List (Str × V)} (h : H a = some (.ins C dx fs)) (l : fs.lookup m = none) (q : t σ H fun vs H2 => sp (.ref a :: vs) H2 Q (E σ)) : kMeth C m sp E t σ (.ref a) H Q := ⟨a, dx, fs, rfl, h, l, q⟩
variable {CX : CXT} {k : Nat} {f C : Addr} {fd : FuncData} {ps : List Str} {sp : Sp} {E : L2.St → XK} {m : Str} {pos apos : Pos} {e o : Expr} {es : List Expr} {t : TA}
theorem pe_methW {pl : Sem Bool} (ho : PE X o ta) (cl : Cls X.K C) (me : Meth X.K C m f) (G : FnOk X.prog X.w X.K X.mg X.base CX k f fd ps sp) (room : Room k X.A) (bd : Binds X.K fd ps []) (pass : ∀ σ, PassesAt CX X σ (E σ)) (args : PA X (e :: es) t)
    (star : starEach (e :: es) X.env = (false, eval e X.env) :: starEach es X.env := by rfl) (plain : (backTo pos (starEach es X.env)).any (·.1) = false := by rfl)
    (tree : eval (.Call (.Attribute o m apos) (e :: es) [] pos) X.env = (do
      let ov ← eval o X.env
      standAt apos.atName
      let (f, first) ← holding [ov] (getMethod ov m pl)
      callWith pos f first (backTo pos (starEach (e :: es) X.env)) (backToKw pos (keywordEach [] X.env))) := by rfl) :
    PE X (.Call (.Attribute o m apos) (e :: es) [] pos) (tMethS C m sp E ta t) := ⟨fun pins s σ H Q I h => by
  refine PySem.W.methodCall_KW (pl := pl) (thn (ho.run pins s σ H _ I h) fun u s1 hu => ?_) tree
  obtain ⟨x, H1, J, rx, a, dx, fs, rfl, there, none_, go⟩ := hu
  cases (show u = Value.ref a from rx)
  refine getmeth_ok J there cl me none_ (PySem.W.callWith_K (first := [.ref a]) (h₀ := X.base) I.ok.mod.kin me.kp (thn (args.run pos pins s1 σ H1 _ J go) fun us s2 hs => ?_) star plain)
  obtain ⟨vs, H2, J2, rel, pr⟩ := hs
  exact ⟨J2.kIn, run_fnS (us := .ref a :: us) (vs := .ref a :: vs) G room bd (pass σ) J2 (.cons rfl rel) pr⟩⟩
theorem pe_methW0 {pl : Sem Bool} (ho : PE X o ta) (cl : Cls X.K C) (me : Meth X.K C m f) (G : FnOk X.prog X.w X.K X.mg X.base CX k f fd ps sp) (room : Room k X.A) (bd : Binds X.K fd ps []) (pass : ∀ σ, PassesAt CX X σ (E σ))
    (tree : eval (.Call (.Attribute o m apos) [] [] pos) X.env = (do
      let ov ← eval o X.env
      standAt apos.atName
      let (f, first) ← holding [ov] (getMethod ov m pl)
      callWith pos f first (backTo pos (starEach [] X.env)) (backToKw pos (keywordEach [] X.env))) := by rfl) :
    PE X (.Call (.Attribute o m apos) [] [] pos) (tMethS C m sp E ta tNil) := ⟨fun pins s σ H Q I h => by
  refine PySem.W.methodCall_KW (pl := pl) (thn (ho.run pins s σ H _ I h) fun u s1 hu => ?_) tree
  obtain ⟨x, H1, J, rx, a, dx, fs, rfl, there, none_, go⟩ := hu
  cases (show u = Value.ref a from rx)
  exact getmeth_ok J there cl me none_ (PySem.W.callWith_K0 (first := [.ref a]) J.kIn me.kp (run_fnS (us := [.ref a]) (vs := [.ref a]) G room bd (pass σ) J (.cons rfl .nil) go))⟩
theorem pass0S {X : Cx} {E : L2.St → XK} : ∀ σ, PassesAt CX0 X σ (E σ) := fun _ _ _ _ _ _ _ h => h.elim
theorem passNS {X : Cx} : ∀ σ, PassesAt (L2N.CX X.prog X.w) X σ ((fun _ => E0) σ) := fun _ _ _ _ _ _ _ h => by
  obtain ⟨_, _, _, _, _, _, _, _, _, _, _, _, z⟩ := h
  exact z.elim
/-- C(..) -/
def kMake (C : Addr) (sp : Sp) (E : XK) (vs : List V) (H1 : Hp) (Q : VK) : Prop := ∀ x dx, H1 x = none → H1 dx = none → dx ≠ x → sp (.ref x :: (vs ++ [])) (upd (upd H1 dx (.own x)) x (.ins C dx [])) (fun v H2 => v = .non ∧ Q (.ref x) H2) E
theorem g_make {E : XK} (q : t σ H fun vs H1 => kMake C sp E vs H1 Q) : tMake C sp [] E t σ H Q := q
theorem g_kmake {E : XK} {vs : List V} (hH : Has F O H) (q : ∀ x dx H', H x = none → Has F ((x, .ins C dx []) :: (dx, .own x) :: O) H' → sp (.ref x :: vs) H' (fun v H2 => v = .non ∧ Q (.ref x) H2) E) : kMake C sp E vs H Q := by
  intro x dx nx nd ne
  rw [List.append_nil]
  refine q x dx _ nx ((hH.new nd).new (by rw [upd_ne (Ne.symm ne)]; exact nx))
/-- del d[k] -/
def kDel (x y : V) (D : Ends) (σ : L2.St) (H2 : Hp) : Prop := ∃ a kvs k, x = .ref a ∧ H2 a = some (.dK kvs) ∧ y = kV k ∧ (valV kvs k).isSome = true ∧ D.nx σ (upd H2 a (.dK (dropK kvs k)))
end
section
variable {X : Cx} {K : PySem.W.Frag} {σ : L2.St} {F : Hp} {O O' : Own} {H : Hp} {Q : VK} {td ty : TE} {D : Ends}
theorem g_del (q : td σ H fun x H1 => ty σ H1 fun y H2 => kDel x y D σ H2) : sDDel td ty D σ H := q
theorem g_kdel {a : Addr} {kvs : List (Key × V)} {z : V} {k : Key} (ez : z = kV k) (hH : Has F O H) (c : Chg O a (.dK kvs) (.dK (dropK kvs k)) O') (i : (valV kvs k).isSome = true) (q : ∀ H', Has F O' H' → D.nx σ H') : kDel (.ref a) z D σ H :=
  ⟨a, kvs, k, rfl, hH.get c.mem, ez, i, q _ (hH.put c)⟩
theorem g_dnewK (hH : Has F O H) (q : ∀ p H', H p = none → Has F ((p, .dK []) :: O) H' → Q (.ref p) H') : tDNewK σ H Q := fun p n => q p _ n (hH.new n)
/-! ### sorted -/
def rSortA (K : PySem.W.Frag) : List V → Hp → VK → Prop := fun vs H Q => (rSorted K vs H Q ∨ rSortedS K vs H Q) ∨
  (∃ (a : Addr) (kvs : List (Key × V)) (ks : List Str), vs = [.ref a] ∧ Rd H a (.dK kvs) ∧ kvs.map (·.1) = ks.map Sum.inr ∧ ks.length < 64 ∧ ∀ ys p, ys.Perm ks → sortedS ys = true → H p = none → Q (.ref p) (upd H p (.lst (ys.map V.str)))) ∨
  (∃ (a : Addr) (kvs : List (Key × V)) (ks : List Int), vs = [.ref a] ∧ Rd H a (.dK kvs) ∧ kvs.map (·.1) = ks.map Sum.inl ∧ ks.length < 64 ∧ ∀ (ys : List Int) (p : Addr), ys.Perm ks → ys.Pairwise (· ≤ ·) → H p = none → Q (.ref p) (upd H p (.lst (ys.map V.int))))
theorem cr_sortA (K : PySem.W.Frag) (hc : X.calm = true) (e : X.K = K := by rfl) : CallR X (.builtin "sorted") (rSortA K) := by
  subst e
  intro pins s σ H xs us Q I r h
  rcases h with (h | h) | h | h
  · exact cr_sorted pins s σ H xs us Q I r h
  · exact cr_sortedS pins s σ H xs us Q I r h
  · exact call_sortedD hc pins s σ H xs us Q I r h
  · exact call_sortedDI hc pins s σ H xs us Q I r h
theorem g_sortI {a : Addr} {ns : List Int} (h : H a = some (.lst (ns.map V.int))) (l : ns.length < 64) (hH : Has F O H) (q : ∀ (ys : List Int) p H', ys.Perm ns → ys.Pairwise (· ≤ ·) → H p = none → Has F ((p, .lst (ys.map V.int)) :: O) H' → Q (.ref p) H') : rSortA K [.ref a] H Q :=
  .inl (.inl ⟨a, ns, rfl, SqL.of h, l, fun ys p e s n => q ys p _ e s n (hH.new n)⟩)
theorem g_sortS {a : Addr} {ns : List Str} (h : H a = some (.lst (ns.map V.str))) (l : ns.length < 64) (hH : Has F O H) (q : ∀ (ys : List Str) p H', ys.Perm ns → sortedS ys = true → H p = none → Has F ((p, .lst (ys.map V.str)) :: O) H' → Q (.ref p) H') : rSortA K [.ref a] H Q :=
  .inl (.inr ⟨a, ns, rfl, SqL.of h, l, fun ys p e s n => q ys p _ e s n (hH.new n)⟩)
theorem g_sortDS {a : Addr} {kvs : List (Key × V)} {ks : List Str} (h : H a = some (.dK kvs)) (e : kvs.map (·.1) = ks.map Sum.inr) (l : ks.length < 64) (hH : Has F O H) (q : ∀ (ys : List Str) p H', ys.Perm ks → sortedS ys = true → H p = none → Has F ((p, .lst (ys.map V.str)) :: O) H' → Q (.ref p) H') : rSortA K [.ref a] H Q :=
  .inr (.inl ⟨a, kvs, ks, rfl, .inl h, e, l, fun ys p e s n => q ys p _ e s n (hH.new n)⟩)
theorem g_sortDI {a : Addr} {kvs : List (Key × V)} {ks : List Int} (h : H a = some (.dK kvs)) (e : kvs.map (·.1) = ks.map Sum.inl) (l : ks.length < 64) (hH : Has F O H) (q : ∀ (ys : List Int) p H', ys.Perm ks → ys.Pairwise (· ≤ ·) → H p = none → Has F ((p, .lst (ys.map V.int)) :: O) H' → Q (.ref p) H') : rSortA K [.ref a] H Q :=
  .inr (.inr ⟨a, kvs, ks, rfl, .inl h, e, l, fun ys p e s n => q ys p _ e s n (hH.new n)⟩)
end
/-! ### what a method changes -/
section
variable {F F1 F' H H' H1 : Hp} {A A' R : Own}
def ButA (A : Own) (H H' : Hp) : Prop := ∀ b u, b ∉ A.map (·.1) → H b = some u → H' b = some u
theorem Has.grownA (h : Has F (A ++ R) H) (hb : ButA A H H') (g : Grow F H F') (hA : Has F' A' H') (ea : ∀ q ∈ A', q.1 ∈ A.map (·.1) ∨ H q.1 = none) : Has F' (A' ++ R) H' := by
  have nd := h.nd
  rw [List.map_append, List.nodup_append] at nd
  refine ⟨hA.same, fun q hq => ?_, ?_⟩
  · rcases List.mem_append.mp hq with hq | hq
    · exact hA.own q hq
    · obtain ⟨f0, h0⟩ := h.own q (List.mem_append_right _ hq)
      refine ⟨by rw [g.2 _ (by rw [h0]; exact fun z => by cases z)]; exact f0, hb _ _ (fun m => ?_) h0⟩
      exact nd.2.2 _ m _ (List.mem_map.mpr ⟨q, hq, rfl⟩) rfl
  · rw [List.map_append, List.nodup_append]
    refine ⟨hA.nd, nd.2.1, fun x hx y hy e => ?_⟩
    obtain ⟨q, hq, rfl⟩ := List.mem_map.mp hx
    obtain ⟨r, hr, rfl⟩ := List.mem_map.mp hy
    rcases ea q hq with m | n
    · exact nd.2.2 _ m _ (List.mem_map.mpr ⟨r, hr, rfl⟩) e
    · rw [e, (h.own r (List.mem_append_right _ hr)).2] at n
      cases n
theorem Grow.refl : Grow F H F := ⟨Same.refl F, fun _ _ => rfl⟩
/-- what stands still: of old what stood still, of new what stands still now -/
def mixF (F H F1 : Hp) : Hp := fun b => match H b with
  | none => F1 b
  | some _ => F b
theorem mix_at {b : Addr} (n : H b = none) : mixF F H F1 b = F1 b := by
  unfold mixF
  rw [n]
theorem mix_old {b : Addr} (n : H b ≠ none) : mixF F H F1 b = F b := by
  unfold mixF
  cases e : H b with
  | none => exact (n e).elim
  | some u => rfl
theorem mix_grow (h : Has F A H) (s : Same (rmO A H) F1) : Grow F H (mixF F H F1) := by
  refine ⟨fun b u e => ?_, fun b n => mix_old n⟩
  rw [mix_old (by rw [h.same _ _ e]; exact fun z => by cases z)]
  exact e
theorem mix_but (h : Has F A H) (s : Same (rmO A H) F1) (h1 : Has F1 A' H1) : ButA A H H1 := fun b u n e => h1.same _ _ (s _ _ (by
  unfold rmO
  rw [if_neg n]
  exact e))
theorem mix_has (h : Has F A H) (s : Same (rmO A H) F1) (h1 : Has F1 A' H1) (ea : ∀ q ∈ A', q.1 ∈ A.map (·.1) ∨ H q.1 = none) : Has (mixF F H F1) A' H1 := by
  refine ⟨fun b u e => ?_, fun q hq => ⟨?_, (h1.own q hq).2⟩, h1.nd⟩
  · cases eh : H b with
    | none =>
      rw [mix_at eh] at e
      exact h1.same _ _ e
    | some o =>
      rw [mix_old (by rw [eh]; exact fun z => by cases z)] at e
      have := h.same _ _ e
      refine mix_but h s h1 b u (fun m => ?_) this
      obtain ⟨q, hq, rfl⟩ := List.mem_map.mp m
      rw [(h.own q hq).1] at e
      cases e
  · rcases ea q hq with m | n
    · obtain ⟨p, hp, e⟩ := List.mem_map.mp m
      have o := h.own p hp
      rw [← e, mix_old (by rw [o.2]; exact fun z => by cases z)]
      exact o.1
    · rw [mix_at n]
      exact (h1.own q hq).1
end
theorem ButA.step {F H H1 H2 : Hp} {A O1 O2 : Own} (hb : ButA A H H1) (h1 : Has F O1 H1) (nw : ∀ x ∈ O1, x.1 ∈ A.map (·.1) ∨ H x.1 = none) (h2 : Has (rmO O1 H1) O2 H2) : ButA A H H2 := fun b u n e => h2.same _ _ (by
  unfold rmO
  rw [if_neg (fun m => ?_)]
  · exact hb b u n e
  · obtain ⟨x, hx, rfl⟩ := List.mem_map.mp m
    rcases nw x hx with m' | z
    · exact n m'
    · rw [e] at z; cases z)
/-- what is new now was new then -/
theorem newp {F F1 H H1 : Hp} {A O1 : Own} {p : Addr} (h : Has F A H) (hb : ButA A H H1) (h1 : Has F1 O1 H1) (ea : ∀ q ∈ A, q.1 ∈ O1.map (·.1)) (n : H1 p = none) : H p = none := by
  cases e : H p with
  | none => rfl
  | some u =>
    by_cases m : p ∈ A.map (·.1)
    · obtain ⟨q, hq, rfl⟩ := List.mem_map.mp m
      obtain ⟨x, hx, ex⟩ := List.mem_map.mp (ea q hq)
      have := (h1.own x hx).2
      rw [ex, n] at this
      cases this
    · rw [hb p u m e] at n
      cases n
end Qk

/-! Qs: sets of keys made of lists; membership of more kinds -/
namespace Qk
open PySem PySem.Spec PyProof.Rows L2
/-! ### set(a list of keys) -/
section
variable {prog : Program} {w : World} {A : Around} {R : Result → Shared → Prop} {I : Addr} {fp wr : List Addr} {G : Array GenState → Array GenState → Prop} {n : Nat} {P : Nat → Value → Prop} {St : Nat → Shared → Prop}
/-- the loop puts in all keys from the i-th on -/
theorem loop_keys (W : WalksS prog w A.in1 I fp wr G n P St) (D : Addr) (hD : D ∉ fp) (ks : List Key) (hn : ks.length = n) (hb : n + 1 < scanBound)
    (hv : ∀ i v, P i v → ∃ k, ks[i]? = some k ∧ (mixKind prog w).is k v = true ∧ v.scannable = true) :
    ∀ (d i m : Nat) (T : Key → Bool) (s : Shared), i + d = n → m ≤ i → St i s → s.heap.SetOf (mixKind prog w) D T m →
      (∀ s' T' m', Moved (D :: wr) G s s' → s'.heap.SetOf (mixKind prog w) D T' m' → m' ≤ n → (∀ k, T' k = (T k || (ks.drop i).any fun j => decide (k = j))) → R (.ok (.ret .none)) s') →
      codeAny (model prog w) A (.builtin "set.update.loop" ⟨[.ref D, .ref I], []⟩) R s
  | 0, i, m, T, s, e, hm, st, hT, q => by
    refine codeAny_builtin F.entry_set_update_loop ?_
    rw [Around.under_plainId F.plain_set_update_loop _]
    show wpAny _ A.in1 (pyNext (.ref I) >>= _) _ _ s
    rw [Nat.add_zero] at e
    subst e
    refine wpAny_bind (W.done s _ _ st fun s1 mv => ?_)
    show wpAny _ A.in1 (ret Value.none) _ _ s1
    obtain ⟨o, es, ep, t, ho, rest⟩ := hT
    refine wpAny_pure (q s1 T m (mv.mono fun b hb => List.mem_cons_of_mem _ hb) ⟨o, es, ep, t, mv.heap D _ (fun z => hD (W.sub _ z)) ho, rest⟩ hm fun k => ?_)
    rw [← hn, List.drop_length]
    simp
  | d + 1, i, m, T, s, e, hm, st, hT, q => by
    refine codeAny_builtin F.entry_set_update_loop ?_
    rw [Around.under_plainId F.plain_set_update_loop _]
    show wpAny _ A.in1 (pyNext (.ref I) >>= _) _ _ s
    have hi : i < n := by omega
    refine wpAny_bind (W.item i s _ _ hi st fun v s1 pv st1 mv => ?_)
    obtain ⟨k, ek, his, hsc⟩ := hv i v pv
    obtain ⟨o, es, ep, t, ho, rest⟩ := hT
    have hT1 : s1.heap.SetOf (mixKind prog w) D T m := ⟨o, es, ep, t, mv.heap D _ (fun z => hD (W.sub _ z)) ho, rest⟩
    show wpAny _ A.in1 (holding [v] (setAdd D v) >>= _) _ _ s1
    refine wpAny_bind (wpAny_holding ?_)
    unfold setAdd
    refine wpAny_holding ?_
    refine wpAny_bind ((mixKind prog w).pyHash his ?_)
    refine wpAny_setAddHashed_of (knd := mixKind prog w) (s := { s1 with toks := s1.toks + 1 }) his hsc hT1 (by omega) fun h2 sb hT2 => ?_
    refine wpAny_pure ⟨plainId_quiet F.plain_set_update_loop _, loop_keys W D hD ks hn hb hv d (i + 1) _ _ _ (by omega) ?_ (W.frame _ s1 _ _ st1 (Nat.le_succ _) fun b hb o e => ?_) hT2 fun s3 T3 m3 mv3 hT3 le eq => ?_⟩
    · split <;> omega
    · rw [sb.2 b (fun z => hD (by rw [← z]; exact hb))]
      exact e
    · refine q s3 T3 m3 (Moved.trans W.gtrans ((mv.mono fun b hb => List.mem_cons_of_mem _ hb).then_heap (Nat.le_succ _) fun b o hb e => ?_) mv3) hT3 le fun k' => ?_
      · rw [sb.2 b (fun z => hb (by rw [z]; exact List.mem_cons_self))]
        exact e
      · rw [eq k']
        have hlt : i < ks.length := by omega
        have ek' : ks[i] = k := by rw [List.getElem?_eq_getElem hlt] at ek; exact Option.some.inj ek
        rw [List.drop_eq_getElem_cons hlt, ek', Bool.or_assoc]
        congr 1
end
section
variable {prog : Program} {w : World} {A : Around} {E : Value → Shared → Prop} {s : Shared}
def newSetObj (led : Bool) : Obj := { cls := .type "set", dict := none, data := .set #[] 0 (.fresh 0 0 led) }
/-- what the filling of the new set leaves -/
def Filled (prog : Program) (w : World) (ks : List Key) (s s2 : Shared) : Prop := ∃ h' tk T m, s2 = { s with heap := h', toks := tk } ∧ h'.SetOf (mixKind prog w) s.heap.objs.size T m ∧ m ≤ ks.length ∧
  (∀ k, T k = ks.any fun j => decide (k = j)) ∧ ∀ b o, b < s.heap.objs.size → s.heap.get? b = some o → h'.get? b = some o
set_option maxHeartbeats 4000000 in
theorem call_set_keys {l : Addr} {items : Array Value} {ks : List Key} {Q : Value → Shared → Prop} (hh : A.handled = none) (hl : s.heap.IsList l items) (hsz : items.size = ks.length)
    (hv : ∀ (i : Nat) (v : Value), items[i]? = some v → ∃ k, ks[i]? = some k ∧ (mixKind prog w).is k v = true ∧ v.scannable = true) (hb : ks.length + 1 < scanBound) (q : ∀ s2, Filled prog w ks s s2 → Q (.ref s.heap.objs.size) s2) :
    wpAny (model prog w) A (call (.type "set") [.ref l]) Q E s := by
  obtain ⟨c, tl, hmro⟩ := PySem.F.called_set.mro
  have hmade := PySem.F.called_set.made
  have hsub := PySem.F.called_set.sub
  have h1 := PySem.F.called_set.notType
  have h2 := PySem.F.called_set.canCreate
  have hct := PySem.F.typeCall_set_1 (.ref l)
  refine wpAny_call (codeAny_of_tree ?_)
  show wpAny _ _ (callAny (.type "set") _) _ _ _
  refine wpAny_pure ⟨Code.quiet_builtin _ (by decide +kernel), codeAny_builtin PySem.F.entry_type_call ?_⟩
  rw [Around.under_plain (weight_type_call_type "set" [.ref l] []) rfl]
  repeat (any_goals (first | assumption | wp_step))
  refine codeAny_mono (code_set_new_1 (.ref l) (E := E) (Q₁ := fun obj s₁ => ∃ led : Bool, obj = .ref s.heap.objs.size ∧ s₁ = { s with heap := s.heap.push (newSetObj led) }) fun led => ⟨led, rfl, rfl⟩) fun r s₁ hr => ?_
  cases r with
  | error e => exact hr
  | ok fl =>
    cases fl with
    | ret obj =>
      obtain ⟨led, rfl, rfl⟩ := hr
      have hS : (s.heap.push (newSetObj led)).get? s.heap.objs.size = some (newSetObj led) := Heap.get?_push_size _ rfl
      have hT : Shared.TypeIs { s with heap := s.heap.push (newSetObj led) } (.ref s.heap.objs.size) "set" := ⟨_, hS, rfl⟩
      have hli := PySem.F.called_set.init.lookup
      have hbi := PySem.F.called_set.init.bind (.ref s.heap.objs.size)
      repeat (any_goals (first | assumption | wp_step))
      refine codeAny_mono (codeAny_call_builtin (R := wants (fun r s₂ => r = .none ∧ Filled prog w ks s s₂) E) PySem.F.called_set.init.plain PySem.F.entry_set_init (check_set_init_1 hT ?_)) fun r₂ s₂ hr₂ => ?_
      · obtain ⟨ol, hol, hcl, nl, hdl⟩ := hl
        obtain ⟨ocls, odict, odata, oslots⟩ := ol
        simp only at hcl hdl
        subst hcl
        subst hdl
        have hol' : (s.heap.push (newSetObj led)).get? l = some { cls := .type "list", dict := odict, data := .seq items nl, slots := oslots } := Heap.get?_push_of_some _ hol
        have hsls := PySem.F.sub_list_set
        have hslf := PySem.F.sub_list_frozenset
        have hne : (Value.type "list" == Value.type "dict") = false := by decide
        have hl1 : (s.heap.push (newSetObj led)).IsList l items := ⟨_, hol', rfl, nl, rfl⟩
        unfold Builtin.«set.__init__» noKeywords Builtin.Frozenset.updateFrom
        generalize hPI : pyIter = PI
        wp_walk
        subst hPI
        refine wpAny_pyIter_list hl1 ?_
        refine wpAny_bind (wpAny_runValue ?_)
        have hlS : l < s.heap.objs.size := Heap.lt_size hol
        have hh3 : A.in1.in1.in1.handled = none := by simp [hh]
        have nI : l ≠ (s.heap.push (newSetObj led)).objs.size := by
          rw [Heap.size_push]
          exact Nat.ne_of_lt (Nat.lt_succ_of_lt hlS)
        have nS : s.heap.objs.size ∉ [(s.heap.push (newSetObj led)).objs.size, l] := by
          rw [Heap.size_push]
          simp only [List.mem_cons, List.not_mem_nil, or_false, not_or]
          exact ⟨Nat.ne_of_lt (Nat.lt_succ_self _), Nat.ne_of_gt hlS⟩
        refine loop_keys ((Walks.list hh3 _ l nI items).toS) s.heap.objs.size nS ks hsz.symm (by rw [hsz]; exact hb) hv items.size 0 0 (fun _ => false) _ (Nat.zero_add _) (Nat.le_refl _)
          ⟨⟨_, Heap.get?_push_size _ rfl, rfl, rfl⟩, hl1.push _⟩ ?hA ?hB
        case hA =>
          have hg : ((s.heap.push (newSetObj led)).push { cls := .type "list_iterator", data := .fields #[.ref l, .int 0 0] }).get? s.heap.objs.size = some (newSetObj led) := Heap.get?_push_of_some _ hS
          exact ⟨_, #[], 0, _, hg, ⟨rfl, rfl, rfl⟩, rfl, (fun e he => by simp at he), (fun k => by simp), (by decide), (by rfl), rfl⟩
        case hB =>
          intro s' T' m' mv hT' le eq
          obtain ⟨h', g', d', tk', os'⟩ := s'
          have eg : g' = s.gens := mv.gens
          have ed : d' = s.drawn := mv.drawn
          have eo : os' = s.os := mv.os
          subst eg
          subst ed
          subst eo
          show wpAny _ _ _ _ _ _
          refine wpAny_pure ?_
          show wpAny _ _ (ret Value.none) _ _ _
          refine wpAny_pure ⟨rfl, h', tk', T', m', rfl, hT', by omega, fun k => by rw [eq k]; rfl, fun b o hb e => ?_⟩
          refine mv.heap b o ?_ (Heap.get?_push_of_some _ (Heap.get?_push_of_some _ e))
          simp only [List.mem_cons, List.not_mem_nil, or_false, not_or]
          exact ⟨Nat.ne_of_lt hb, by rw [Heap.size_push]; exact Nat.ne_of_lt (Nat.lt_succ_of_lt hb)⟩
      · cases r₂ with
        | error e => exact hr₂
        | ok fl₂ =>
          cases fl₂ with
          | ret r =>
            obtain ⟨rfl, hf⟩ := hr₂
            repeat (any_goals (first | assumption | wp_step))
            exact q _ hf
          | _ => exact hr₂.elim
    | _ => exact hr.elim
end
/-- the keys of a list as values -/
theorem keys_vals {P : Program} {w : World} : ∀ {ks : List Key} {us : List Value}, Vals (ks.map kV) us → ∀ (i : Nat) (v : Value), us[i]? = some v → ∃ k, ks[i]? = some k ∧ (mixKind P w).is k v = true ∧ v.scannable = true
  | [], _, .nil, i, v, e => by simp at e
  | k :: ks, _, .cons r t, 0, v, e => by
    simp at e
    subst e
    exact ⟨k, rfl, kV_is r, key_scan r⟩
  | k :: ks, _, .cons r t, i + 1, v, e => by
    simp only [List.getElem?_cons_succ] at e ⊢
    exact keys_vals t i v e
section
variable {X : Cx}
/-- set(a list of texts) -/
def rSetTx (K : PySem.W.Frag) (P : Program) (w : World) : List V → Hp → VK → Prop := fun xs H Q => ∃ (l : Addr) (zs : List Str), xs = [.ref l] ∧ SqL K H l (zs.map V.str) ∧ zs.length < 1000 ∧
  ∀ a n T, H a = none → n ≤ zs.length → (∀ z, T (Sum.inr z) = decide (z ∈ zs)) → Q (.ref a) (upd H a (SetK P w a T n))
theorem cr_setTx (K : PySem.W.Frag) (hc : X.calm = true) (e : X.K = K := by rfl) : CallR X (.type "set") (rSetTx K X.prog X.w) := by
  subst e
  intro pins s σ H xs us Q I r h
  obtain ⟨l, zs, rfl, hl, hf, q⟩ := h
  rw [Vals.ref1 r]
  obtain ⟨its, rv, pl, hz⟩ := I.list hl
  have rv : Vals ((zs.map Sum.inr).map kV) its := by
    rw [List.map_map]
    exact rv
  have hle : its.length = zs.length := by rw [← rv.length, List.length_map, List.length_map]
  have hn : H s.heap.objs.size = none := I.hok.fresh (Nat.le_refl _)
  refine call_set_keys (ks := zs.map Sum.inr) (I.ok.hd hc) pl.isList (by rw [List.size_toArray, hle, List.length_map]) (fun i v e => keys_vals rv i v (by simpa using e)) (by rw [List.length_map]; unfold scanBound; omega) fun s2 F => ?_
  obtain ⟨h', tk, T, m, rfl, hT, hm, eT, k⟩ := F
  rw [List.length_map] at hm
  refine ⟨.ref s.heap.objs.size, upd H s.heap.objs.size (SetK X.prog X.w s.heap.objs.size T m), I.laid (t' := tk) (fun b o e => k b o (Heap.lt_size e) e) (Nat.le_refl _) (setK_new hT), rfl, q _ m T hn hm fun z => ?_⟩
  rw [eT, Bool.eq_iff_iff]
  simp [List.any_eq_true]
end
end Qk

/-! Qt: membership in sets, slices of texts, loops over texts, dict displays, bits -/
namespace Qk
open PySem PySem.Spec PyProof.Rows L2
/-! ### in, not in: also sets -/
def rInM (K : PySem.W.Frag) (P : Program) (w : World) : R2 := fun x y H Q => rInA K x y H Q ∨ rSInK P w false x y H Q
def rNotInM (K : PySem.W.Frag) (P : Program) (w : World) : R2 := fun x y H Q => rNotInA K x y H Q ∨ rSInK P w true x y H Q
section
variable {X : Cx}
theorem op_inM (K : PySem.W.Frag) (P : Program) (w : World) (hu : X.A.units + 64 < cLine) (hu' : X.A.units + 65 < cLine) (e : X.K = K := by rfl) (eP : X.prog = P := by rfl) (ew : X.w = w := by rfl) : OpR X (compareOp .In) (rInM K P w) := by
  subst e
  subst eP
  subst ew
  intro pins s σ H x y v u Q I rx ry h
  rcases h with h | h
  · exact op_inA hu hu' pins s σ H x y v u Q I rx ry h
  · exact or_sinK pins s σ H x y v u Q I rx ry h
theorem op_notinM (K : PySem.W.Frag) (P : Program) (w : World) (hu : X.A.units + 64 < cLine) (hu' : X.A.units + 65 < cLine) (e : X.K = K := by rfl) (eP : X.prog = P := by rfl) (ew : X.w = w := by rfl) : OpR X (compareOp .NotIn) (rNotInM K P w) := by
  subst e
  subst eP
  subst ew
  intro pins s σ H x y v u Q I rx ry h
  rcases h with h | h
  · exact op_notinA hu hu' pins s σ H x y v u Q I rx ry h
  · exact or_snotinK pins s σ H x y v u Q I rx ry h
/-- slices of lists, tuples, texts -/
def rSlM (K : PySem.W.Frag) : V → Option Int → Option Int → Hp → VK → Prop := fun x lo hi H Q => rSlB K x lo hi H Q ∨ rSlS x lo hi H Q
theorem sl_M (K : PySem.W.Frag) (e : X.K = K := by rfl) : SlR X (rSlM K) := by
  subst e
  intro pins s σ H x v vl vu lo hi sl Q I rx hs pl pu h
  rcases h with h | h
  · exact sl_all pins s σ H x v vl vu lo hi sl Q I rx hs pl pu h
  · exact sl_str pins s σ H x v vl vu lo hi sl Q I rx hs pl pu h
end
section
variable {K : PySem.W.Frag} {P : Program} {w : World} {σ : L2.St} {F : Hp} {O O' : Own} {H : Hp} {Q : VK} {x y v : V} {te ta tk tv : TE} {D : Ends} {ts : TS} {g : TG}
theorem g_inM (q : rInA K x y H Q) : rInM K P w x y H Q := .inl q
theorem g_notinM (q : rNotInA K x y H Q) : rNotInM K P w x y H Q := .inl q
theorem g_inK {a : Addr} {T : Key → Bool} {n : Nat} {k : Key} (ek : x = kV k) (h : H a = some (SetK P w a T n)) (q : Q (.bl (T k)) H) : rInM K P w x (.ref a) H Q := .inr ⟨k, a, T, n, ek, rfl, h, q⟩
theorem g_notinK {a : Addr} {T : Key → Bool} {n : Nat} {k : Key} (ek : x = kV k) (h : H a = some (SetK P w a T n)) (q : Q (.bl (!T k)) H) : rNotInM K P w x (.ref a) H Q := .inr ⟨k, a, T, n, ek, rfl, h, q⟩
theorem g_inC {c : Nat} {z : Str} (q : Q (.bl (decide (c ∈ z.cps.toList))) H) : rInA K (.str ⟨#[c]⟩) (.str z) H Q := .inr (.inl ⟨_, _, rfl, rfl, by rw [PySem.StrLaws.found_one z c]; exact q⟩)
theorem g_notinC {c : Nat} {z : Str} (q : Q (.bl (!decide (c ∈ z.cps.toList))) H) : rNotInA K (.str ⟨#[c]⟩) (.str z) H Q := .inr (.inl ⟨_, _, rfl, rfl, by rw [PySem.StrLaws.found_one z c]; exact q⟩)
theorem g_slM {lo hi : Option Int} (q : rSlB K x lo hi H Q) : rSlM K x lo hi H Q := .inl q
theorem g_slZ {z : Str} {lo hi : Option Int} (hl : z.length ≤ sizeLine) (q : Q (.str (cutS z lo hi)) H) : rSlM K (.str z) lo hi H Q := .inr ⟨z, rfl, hl, q⟩
/-! ### loops over a text -/
def kForS (g : TG) (tb : TS) (D : Ends) (σ : L2.St) (x : V) (H : Hp) : Prop := ∃ z, x = .str z ∧ kW (Its z) g tb D σ H
theorem g_forS (q : te σ H fun x H1 => kForS g ts D σ x H1) : tFor (iStr te) g ts D σ H := q
theorem k_forS {z : Str} (Pv : Nat → L2.St → Hp → Prop) (h0 : Pv 0 σ H)
    (hs : ∀ i c σ H, z.cps[i]? = some c → Pv i σ H → g (.str ⟨#[c]⟩) σ H fun σ2 H2 => ts { D with nx := Pv (i + 1), ct := Pv (i + 1), bk := D.nx } σ2 H2) (hd : ∀ σ H, Pv z.length σ H → D.nx σ H) : kForS g ts D σ (.str z) H := by
  refine ⟨z, rfl, fun i m σ H => m = z.length - i ∧ i ≤ z.length ∧ Pv i σ H, ⟨z.length, rfl, Nat.zero_le _, h0⟩, ?_⟩
  rintro i m σ H ⟨rfl, hi, p⟩
  by_cases hlt : i < z.length
  · refine .inr ⟨hlt, Pv (i + 1), fun σ' H' p' => ⟨z.length - (i + 1), by omega, rfl, hlt, p'⟩, fun x H' y => ?_⟩
    obtain ⟨e, c, hc, rfl⟩ := y
    subst e
    exact hs i c σ _ hc p
  · have e : i = z.length := by omega
    subst e
    exact .inl ⟨Nat.le_refl _, hd σ H p⟩
/-! ### {k: v} -/
def kDisp1 (p : Addr) (x y : V) (H : Hp) (Q : VK) : Prop := H p = some (.dK []) ∧ ∃ kvs : List (Key × V), [(x, y)] = kvs.map (fun kv => (kV kv.1, kv.2)) ∧ kvs.length ≤ 15 ∧ Q (.ref p) (upd H p (.dK (mergeK [] kvs)))
theorem g_disp1 (hH : Has F O H) (q : ∀ p H1, H p = none → Has F ((p, .dK []) :: O) H1 → tk σ H1 fun x H2 => tv σ H2 fun y H3 => kDisp1 p x y H3 Q) : tDisp [(tk, tv)] σ H Q := fun p n => q p _ n (hH.new n)
theorem g_kdisp1 {p : Addr} {z : V} {k : Key} (h : Has F ((p, .dK []) :: O) H) (ez : z = kV k) (q : ∀ H', Has F ((p, .dK [(k, y)]) :: O) H' → Q (.ref p) H') : kDisp1 p z y H Q := by
  subst ez
  exact ⟨h.get (List.Mem.head _), [(k, y)], rfl, Nat.succ_le_succ (Nat.zero_le _), q _ (h.put .hd)⟩
/-! ### sum, str, set -/
theorem cr_setTxK {X : Cx} (K : PySem.W.Frag) (P : Program) (w : World) (hc : X.calm = true) (e : X.K = K := by rfl) (eP : X.prog = P := by rfl) (ew : X.w = w := by rfl) : CallR X (.type "set") (rSetTx K P w) := by
  subst e
  subst eP
  subst ew
  exact cr_setTx _ hc
theorem g_sum {a : Addr} {ns : List Int} (h : H a = some (.lst (ns.map V.int))) (q : Q (.int ns.sum) H) : rSum K [.ref a] H Q := ⟨a, ns, rfl, SqL.of h, q⟩
def rStrI : List V → Hp → VK → Prop := fun xs H Q => ∃ i : Int, xs = [.int i] ∧ i.natAbs.log2 < 1920 ∧ Q (.str (toString i)) H
theorem cr_strI {X : Cx} : CallR X (.type "str") rStrI := call_str_int
theorem g_strI {i : Int} (h : i.natAbs.log2 < 1920) (q : Q (.str (toString i)) H) : rStrI [.int i] H Q := ⟨i, rfl, h, q⟩
theorem cr_sumK {X : Cx} (K : PySem.W.Frag) (hc : X.calm = true) (e : X.K = K := by rfl) : CallR X (.builtin "sum") (rSum K) := by subst e; exact cr_sum hc
theorem g_setOf {a : Addr} {zs : List Str} (h : H a = some (.lst (zs.map V.str))) (hl : zs.length < 1000) (hH : Has F O H) (q : ∀ p n T H', H p = none → (∀ z, T (Sum.inr z) = decide (z ∈ zs)) → Has F ((p, SetK P w p T n) :: O) H' → Q (.ref p) H') : rSetTx K P w [.ref a] H Q :=
  ⟨a, zs, rfl, SqL.of h, hl, fun p n T np _ eT => q p n T _ np eT (hH.new np)⟩
/-! ### methods of texts -/
def kM0 (r : V → List V → Hp → VK → Prop) (x : V) (H : Hp) (Q : VK) : Prop := (∃ a, x = .str a) ∧ r x [] H Q
theorem g_m0 {r : V → List V → Hp → VK → Prop} (q : ta σ H fun x H1 => kM0 r x H1 Q) : tM0 r ta σ H Q := q
theorem g_km0 {r : V → List V → Hp → VK → Prop} {z : Str} (q : r (.str z) [] H Q) : kM0 r (.str z) H Q := ⟨⟨z, rfl⟩, q⟩
end
/-! ### ways that meet, the rest of the way out of sight -/
theorem g_joinD {t : TS} {D : Ends} {σ : L2.St} {H : Hp} (M : L2.St → Hp → Prop) (h : ∀ σ' H', M σ' H' → D.nx σ' H') (q : ∀ nx' : L2.St → Hp → Prop, (∀ σ' H', M σ' H' → nx' σ' H') → t { D with nx := nx' } σ H) : t D σ H := q D.nx h
end Qk

/-! Qu: sets of keys that can be gone through: set(list), sorted(set), in -/
namespace Qk
open PySem PySem.Spec PyProof.Rows L2
/-- the entries of a set and their keys -/
structure KE (P : Program) (w : World) (es : Array (Int × Value)) (ks : List Key) : Prop where
  ex : ∃ kes : List (Key × (Int × Value)), (kes.map (·.2)).Perm es.toList ∧ (∀ p ∈ kes, (mixKind P w).is p.1 p.2.2 = true) ∧ kes.map (·.1) = ks
  nd : ks.Nodup
def KR (P : Program) (w : World) (h : Heap) (a : Addr) (T : Key → Bool) (n : Nat) : Prop :=
  ∃ (o : Obj) (es : Array (Int × Value)) (ep : Nat) (t : SetTable) (ks : List Key), h.get? a = some o ∧ o.ExactSet ∧ o.data = .set es ep t ∧ ElemsOf (mixKind P w) es.toList ∧ KE P w es ks ∧ (∀ k, T k = true ↔ k ∈ ks) ∧
    es.size < scanBound ∧ t.fits es.size = true ∧ es.size = n ∧ Ris t.place.toList ∧ (w.params.followText "set-order" = true ∨ t.led = true)
section
variable {P : Program} {w : World} {h h' : Heap} {a : Addr} {T : Key → Bool} {n : Nat}
theorem KE.mem {es : Array (Int × Value)} {ks : List Key} (e : KE P w es ks) (k : Key) : k ∈ ks ↔ ∃ x, x ∈ es.toList ∧ (mixKind P w).is k x.2 = true := by
  obtain ⟨kes, pm, hi, rfl⟩ := e.ex
  rw [List.mem_map]
  constructor
  · rintro ⟨p, hp, rfl⟩
    exact ⟨p.2, pm.mem_iff.mp (List.mem_map.mpr ⟨p, hp, rfl⟩), hi p hp⟩
  · rintro ⟨x, hx, hk⟩
    obtain ⟨p, hp, rfl⟩ := List.mem_map.mp (pm.mem_iff.mpr hx)
    exact ⟨p, hp, (mixKind P w).inj _ _ _ (hi p hp) hk⟩
theorem KE.len {es : Array (Int × Value)} {ks : List Key} (e : KE P w es ks) : ks.length = es.size := by
  obtain ⟨kes, pm, _, rfl⟩ := e.ex
  rw [List.length_map, ← Array.length_toList, ← pm.length_eq, List.length_map]
theorem KR.setOf (r : KR P w h a T n) : h.SetOf (mixKind P w) a T n := by
  obtain ⟨o, es, ep, t, ks, h1, h2, h3, h4, h5, h6, h7, h8, h9, _⟩ := r
  exact ⟨o, es, ep, t, h1, h2, h3, h4, fun k => (h6 k).trans (h5.mem k), h7, h8, h9⟩
theorem KR.at_ (r : KR P w h a T n) (s : ∀ o, h.get? a = some o → h'.get? a = some o) : KR P w h' a T n := by
  obtain ⟨o, es, ep, t, ks, h1, rest⟩ := r
  exact ⟨o, es, ep, t, ks, s _ h1, rest⟩
theorem KR.congr {T' : Key → Bool} (r : KR P w h a T n) (e : ∀ k, T' k = T k) : KR P w h a T' n := by
  have : T' = T := funext e
  rw [this]
  exact r
end
def SetQ (P : Program) (w : World) (a : Addr) (T : Key → Bool) (n : Nat) : HO := HO.ext fun h => KR P w h a T n
theorem setQ_get {X : Cx} {pins : List (Addr × Obj)} {σ : L2.St} {H : Hp} {s : Shared} {a : Addr} {T : Key → Bool} {n : Nat} (I : L2.Inv X pins σ H s) (ha : H a = some (SetQ X.prog X.w a T n)) : KR X.prog X.w s.heap a T n := (I.hok a _ ha).1
theorem setQ_new {P : Program} {w : World} {H : Hp} {h : Heap} {a : Addr} {T : Key → Bool} {n : Nat} (r : KR P w h a T n) : ObjOk P w H h a (SetQ P w a T n) := by
  obtain ⟨o, _, _, _, _, ho, _⟩ := id r
  exact ⟨r, ⟨o, ho⟩, fun h1 h2 r1 s => KR.at_ r1 s⟩
/-! ### one more key -/
section
variable {P : Program} {w : World} {A : Around} {E : Value → Shared → Prop} {s : Shared} {a : Addr}
theorem KE.push {es es1 : Array (Int × Value)} {ks : List Key} (e : KE P w es ks) {k : Key} {x : Value} {hx : Int} (hk : (mixKind P w).is k x = true) (nk : k ∉ ks) (pm : es1.toList.Perm (es.push (hx, x)).toList) : KE P w es1 (ks ++ [k]) := by
  obtain ⟨kes, p0, hi, rfl⟩ := e.ex
  refine ⟨⟨kes ++ [(k, (hx, x))], ?_, ?_, by rw [List.map_append]; rfl⟩, ?_⟩
  · rw [List.map_append]
    refine List.Perm.trans (List.Perm.append_right _ p0) ?_
    rw [Array.toList_push] at pm
    exact pm.symm
  · intro p hp
    rcases List.mem_append.mp hp with hp | hp
    · exact hi p hp
    · rw [List.mem_singleton.mp hp]; exact hk
  · rw [List.nodup_append]
    refine ⟨e.nd, List.nodup_cons.mpr ⟨fun h => (by cases h), List.nodup_nil⟩, fun x hx y hy e => ?_⟩
    rw [List.mem_singleton.mp hy] at e
    exact nk (e ▸ hx)
theorem KE.perm {es es1 : Array (Int × Value)} {ks : List Key} (e : KE P w es ks) (pm : es1.toList.Perm es.toList) : KE P w es1 ks := by
  obtain ⟨kes, p0, hi, ek⟩ := e.ex
  exact ⟨⟨kes, p0.trans pm.symm, hi, ek⟩, e.nd⟩
theorem kr_tail {g : Bool → Sem Unit} (hg : ∀ (b : Bool) (s₁ : Shared) (Q' : Unit → Shared → Prop), Q' () s₁ → wpAny (model P w) A (g b) Q' E s₁) {o : Obj} {es : Array (Int × Value)} {ep : Nat} {t : SetTable}
    (ho : s.heap.get? a = some o) (hx : o.ExactSet) (hd : o.data = .set es ep t) {es1 : Array (Int × Value)} {t2 : SetTable} {T' : Key → Bool} {ks : List Key}
    (he : ElemsOf (mixKind P w) es1.toList) (hk : KE P w es1 ks) (hT : ∀ k, T' k = true ↔ k ∈ ks) (hsz : es1.size < scanBound) (hf : t2.fits es1.size = true) (hr : Ris t2.place.toList) (hl : w.params.followText "set-order" = true ∨ t2.led = true)
    {wasDummy : Bool} {R : Option Bool → Shared → Prop} (q : ∀ h', Heap.SameBut a s.heap h' → KR P w h' a T' es1.size → R (some true) { s with heap := h' }) :
    wpAny (model P w) A (do
      storeSet a es1 t2
      if (!wasDummy && t2.tooFull) = true then do
          g (relayAll t2 es1 (SetTable.grown es1.size)).snd.snd
          storeSet a (relayAll t2 es1 (SetTable.grown es1.size)).fst (relayAll t2 es1 (SetTable.grown es1.size)).snd.fst
          pure (some true)
        else pure (some true)) R E s := by
  refine wpAny_bind (wpAny_storeSet_of ho hd ?_ (fits_of_scanBound hsz))
  have h1 := store_at (es' := es1) (t' := t2) ho hd
  have b1 := Heap.SameBut.update s.heap a (Obj.putSet es1 t2)
  split
  · refine wpAny_bind (hg _ _ _ ?_)
    have pm := relayAll_perm t2 es1 (SetTable.grown es1.size)
    have fit := relayAll_fits t2 es1 (SetTable.grown es1.size)
    have ris := relayAll_ris t2 es1 (SetTable.grown es1.size)
    have led := relayAll_led t2 es1 (SetTable.grown es1.size)
    generalize relayAll t2 es1 (SetTable.grown es1.size) = rl at pm fit ris led
    obtain ⟨es2, t3, gv⟩ := rl
    have es_sz : es2.size = es1.size := by
      have := pm.length_eq
      rwa [Array.length_toList, Array.length_toList] at this
    refine wpAny_bind (wpAny_storeSet_of h1 rfl ?_ (fits_of_scanBound (by show es2.size < _; omega)))
    refine wpAny_pure (q _ (b1.trans (Heap.SameBut.update _ a _)) ?_)
    refine ⟨_, es2, ep + 1 + 1, t3, ks, store_at (es' := es2) (t' := t3) h1 rfl, ⟨hx.1, hx.2.1, hx.2.2⟩, rfl, he.perm pm, hk.perm pm, hT, by omega, fit, es_sz, ris, ?_⟩
    rcases hl with hl | hl
    · exact .inl hl
    · exact .inr (led.trans hl)
  · exact wpAny_pure (q _ b1 ⟨_, es1, ep + 1, t2, ks, h1, ⟨hx.1, hx.2.1, hx.2.2⟩, rfl, he, hk, hT, hsz, hf, rfl, hr, hl⟩)
theorem kr_add {T : Key → Bool} {n : Nat} {k : Key} {x : Value} {Q : Bool → Shared → Prop} (his : (mixKind P w).is k x = true) (hsc : x.scannable = true) (hT : KR P w s.heap a T n) (hn : n + 1 < scanBound)
    (q : ∀ h', Heap.SameBut a s.heap h' → KR P w h' a (fun k' => T k' || decide (k' = k)) (if T k = true then n else n + 1) → Q (!T k) { s with heap := h' }) : wpAny (model P w) A (setAddHashed a x ((mixKind P w).hash k)) Q E s := by
  obtain ⟨o, es, ep, t, ks, ho, hx, hd, he, hk, hT', hsz, hf, hn', hr, hl⟩ := hT
  unfold setAddHashed
  refine wpAny_holding ?_
  rw [setAddHashedIn.eq_def]
  dsimp only
  refine wpAny_bind (wpAny_setState_of ho hd hf ?_)
  dsimp only
  rw [if_pos (byScan_of (knd := mixKind P w) hsc hsz he)]
  refine wpAny_bind ?_
  unfold setAddByScan
  refine wpAny_bind (wpAny_rule ?_)
  refine wpAny_bind (wpAny_setScan_of (knd := mixKind P w) his ho hd hf he ?_)
  cases hfi : List.findIdx? (fun e => (mixKind P w).is k e.2) es.toList with
  | some j =>
    have hk1 : T k = true := by
      rw [hT' k, hk.mem k]
      have h1 := List.findIdx?_eq_some_iff_getElem.mp hfi
      obtain ⟨hj, hp, _⟩ := h1
      exact ⟨_, List.getElem_mem hj, hp⟩
    dsimp only
    refine wpAny_pure ?_
    dsimp only
    refine wpAny_pure ?_
    have q' := q s.heap (Heap.SameBut.refl _ _) ?_
    · rw [hk1] at q'
      exact q'
    · rw [if_pos hk1]
      refine KR.congr ⟨o, es, ep, t, ks, ho, hx, hd, he, hk, hT', hsz, hf, hn', hr, hl⟩ fun k' => ?_
      by_cases e : k' = k
      · rw [e, hk1]; rfl
      · rw [decide_eq_false e, Bool.or_false]
  | none =>
    have hk0 : T k = false := by
      cases e : T k with
      | false => rfl
      | true =>
        obtain ⟨x', hx', hi'⟩ := (hk.mem k).mp ((hT' k).mp e)
        have := List.findIdx?_eq_none_iff.mp hfi x' hx'
        rw [hi'] at this
        cases this
    have nk : k ∉ ks := fun m => by
      have := (hT' k).mpr m
      rw [hk0] at this
      cases this
    dsimp only
    have pm := layNew_perm t es ((mixKind P w).hash k) x
    have fit := layNew_fits t es ((mixKind P w).hash k) x
    have ris := layNew_ris t es ((mixKind P w).hash k) x hr
    have led := layNew_led t es ((mixKind P w).hash k) x
    generalize layNew t es ((mixKind P w).hash k) x = ln at pm fit ris led
    obtain ⟨es1, t1, wd, gv⟩ := ln
    dsimp only at pm fit ris led ⊢
    have sz1 : es1.size = es.size + 1 := by
      have := pm.length_eq
      rwa [Array.length_toList, Array.length_toList, Array.size_push] at this
    have he1 : ElemsOf (mixKind P w) es1.toList := by
      have := he.push his hsc
      rw [← Array.toList_push] at this
      exact this.perm pm
    have hk1 := hk.push his nk pm
    have hT1 : ∀ k', (T k' || decide (k' = k)) = true ↔ k' ∈ ks ++ [k] := fun k' => by
      rw [Bool.or_eq_true, decide_eq_true_eq, hT' k', List.mem_append, List.mem_singleton]
    have hsz1 : es1.size < scanBound := by omega
    have led1 : w.params.followText "set-order" = true ∨ t1.led = true := by
      rcases hl with hl | hl
      · exact .inl hl
      · exact .inr (led.trans hl)
    rw [hk0] at q
    have fin : ∀ h', Heap.SameBut a s.heap h' → KR P w h' a (fun k' => T k' || decide (k' = k)) es1.size → Q true { s with heap := h' } := fun h' b r => q h' b (by rw [sz1, hn'] at r; exact r)
    have tl : ∀ b : Bool, (if b = true then t1 else { t1 with plain := false }).fits es1.size = true ∧ Ris (if b = true then t1 else { t1 with plain := false }).place.toList ∧ (w.params.followText "set-order" = true ∨ (if b = true then t1 else { t1 with plain := false }).led = true) := fun b => by
      cases b
      · exact ⟨SetTable.fits_plain_off fit, ris, led1⟩
      · exact ⟨fit, ris, led1⟩
    refine wpAny_bind ?_
    cases gv <;> (first | refine wpAny_pure ?_ | refine wpAny_rule ?_)
    all_goals
      split
      · rw [hashByValue_scannable _ hsc]
        refine wpAny_bind (wpAny_pure ?_)
        refine kr_tail ?_ ho hx hd he1 hk1 hT1 hsz1 (tl _).1 (tl _).2.1 (tl _).2.2 (fun h' sb r => ?_)
        · intro b s₁ Q' h
          cases b <;> (first | exact wpAny_pure h | exact wpAny_rule h)
        · exact wpAny_pure (fin h' sb r)
      · refine wpAny_bind (wpAny_pure ?_)
        refine kr_tail ?_ ho hx hd he1 hk1 hT1 hsz1 (tl true).1 (tl true).2.1 (tl true).2.2 (fun h' sb r => ?_)
        · intro b s₁ Q' h
          cases b <;> (first | exact wpAny_pure h | exact wpAny_rule h)
        · exact wpAny_pure (fin h' sb r)
end
theorem code_set_led1 {P : Program} {w : World} {A : Around} {E : Value → Shared → Prop} {s : Shared} (a : Value) {Q₁ : Value → Shared → Prop}
    (q : Q₁ (.ref s.heap.objs.size) { s with heap := s.heap.push { cls := .type "set", data := .set #[] 0 (.fresh 0 0 !w.params.followText "set-order") } }) :
    codeAny (model P w) A (.call (.builtin "set.__new__") ⟨[.type "set", a], []⟩) (wants Q₁ E) s := by
  refine codeAny_of_tree ?_
  show wpAny _ _ (_ >>= _) _ _ _
  refine wpAny_bind ?_
  refine wpAny_of_eq (PySem.F.newCall_set_1 a) ?_
  refine wpAny_pure ?_
  refine ⟨plainId_quiet F.plain_set_new _, codeAny_builtin F.entry_set_new ?_⟩
  rw [Around.under_plainId F.plain_set_new _]
  show wpAny _ _ (Builtin.«set.__new__» _) _ _ _
  unfold Builtin.«set.__new__» Builtin.Frozenset.newClass newSet
  dsimp only
  have hs := @PySem.sub_set_self
  repeat (any_goals (first | assumption | wp_step))
  refine wpAny_askSetting ?_
  refine wpAny_pure ?_
  dsimp only
  unfold newObj
  repeat (any_goals (first | assumption | wp_step))

/-! ### set(a list of keys) -/
section
variable {prog : Program} {w : World} {A : Around} {R : Result → Shared → Prop} {I : Addr} {fp wr : List Addr} {G : Array GenState → Array GenState → Prop} {n : Nat} {P : Nat → Value → Prop} {St : Nat → Shared → Prop}
/-- the loop puts in all keys from the i-th on -/
theorem loop_keysQ (W : WalksS prog w A.in1 I fp wr G n P St) (D : Addr) (hD : D ∉ fp) (ks : List Key) (hn : ks.length = n) (hb : n + 1 < scanBound)
    (hv : ∀ i v, P i v → ∃ k, ks[i]? = some k ∧ (mixKind prog w).is k v = true ∧ v.scannable = true) :
    ∀ (d i m : Nat) (T : Key → Bool) (s : Shared), i + d = n → m ≤ i → St i s → KR prog w s.heap D T m →
      (∀ s' T' m', Moved (D :: wr) G s s' → KR prog w s'.heap D T' m' → m' ≤ n → (∀ k, T' k = (T k || (ks.drop i).any fun j => decide (k = j))) → R (.ok (.ret .none)) s') →
      codeAny (model prog w) A (.builtin "set.update.loop" ⟨[.ref D, .ref I], []⟩) R s
  | 0, i, m, T, s, e, hm, st, hT, q => by
    refine codeAny_builtin F.entry_set_update_loop ?_
    rw [Around.under_plainId F.plain_set_update_loop _]
    show wpAny _ A.in1 (pyNext (.ref I) >>= _) _ _ s
    rw [Nat.add_zero] at e
    subst e
    refine wpAny_bind (W.done s _ _ st fun s1 mv => ?_)
    show wpAny _ A.in1 (ret Value.none) _ _ s1
    refine wpAny_pure (q s1 T m (mv.mono fun b hb => List.mem_cons_of_mem _ hb) (hT.at_ fun o ho => mv.heap D _ (fun z => hD (W.sub _ z)) ho) hm fun k => ?_)
    rw [← hn, List.drop_length]
    simp
  | d + 1, i, m, T, s, e, hm, st, hT, q => by
    refine codeAny_builtin F.entry_set_update_loop ?_
    rw [Around.under_plainId F.plain_set_update_loop _]
    show wpAny _ A.in1 (pyNext (.ref I) >>= _) _ _ s
    have hi : i < n := by omega
    refine wpAny_bind (W.item i s _ _ hi st fun v s1 pv st1 mv => ?_)
    obtain ⟨k, ek, his, hsc⟩ := hv i v pv
    have hT1 : KR prog w s1.heap D T m := hT.at_ fun o ho => mv.heap D _ (fun z => hD (W.sub _ z)) ho
    show wpAny _ A.in1 (holding [v] (setAdd D v) >>= _) _ _ s1
    refine wpAny_bind (wpAny_holding ?_)
    unfold setAdd
    refine wpAny_holding ?_
    refine wpAny_bind ((mixKind prog w).pyHash his ?_)
    refine kr_add (s := { s1 with toks := s1.toks + 1 }) his hsc hT1 (by omega) fun h2 sb hT2 => ?_
    refine wpAny_pure ⟨plainId_quiet F.plain_set_update_loop _, loop_keysQ W D hD ks hn hb hv d (i + 1) _ _ _ (by omega) ?_ (W.frame _ s1 _ _ st1 (Nat.le_succ _) fun b hb o e => ?_) hT2 fun s3 T3 m3 mv3 hT3 le eq => ?_⟩
    · split <;> omega
    · rw [sb.2 b (fun z => hD (by rw [← z]; exact hb))]
      exact e
    · refine q s3 T3 m3 (Moved.trans W.gtrans ((mv.mono fun b hb => List.mem_cons_of_mem _ hb).then_heap (Nat.le_succ _) fun b o hb e => ?_) mv3) hT3 le fun k' => ?_
      · rw [sb.2 b (fun z => hb (by rw [z]; exact List.mem_cons_self))]
        exact e
      · rw [eq k']
        have hlt : i < ks.length := by omega
        have ek' : ks[i] = k := by rw [List.getElem?_eq_getElem hlt] at ek; exact Option.some.inj ek
        rw [List.drop_eq_getElem_cons hlt, ek', Bool.or_assoc]
        congr 1
end
section
variable {prog : Program} {w : World} {A : Around} {E : Value → Shared → Prop} {s : Shared}
def newSetQ (w : World) : Obj := { cls := .type "set", dict := none, data := .set #[] 0 (.fresh 0 0 !w.params.followText "set-order") }
/-- what the filling of the new set leaves -/
def FilledQ (prog : Program) (w : World) (ks : List Key) (s s2 : Shared) : Prop := ∃ h' tk T m, s2 = { s with heap := h', toks := tk } ∧ KR prog w h' s.heap.objs.size T m ∧ m ≤ ks.length ∧
  (∀ k, T k = ks.any fun j => decide (k = j)) ∧ ∀ b o, b < s.heap.objs.size → s.heap.get? b = some o → h'.get? b = some o
set_option maxHeartbeats 4000000 in
theorem call_set_keysQ {l : Addr} {items : Array Value} {ks : List Key} {Q : Value → Shared → Prop} (hh : A.handled = none) (hl : s.heap.IsList l items) (hsz : items.size = ks.length)
    (hv : ∀ (i : Nat) (v : Value), items[i]? = some v → ∃ k, ks[i]? = some k ∧ (mixKind prog w).is k v = true ∧ v.scannable = true) (hb : ks.length + 1 < scanBound) (q : ∀ s2, FilledQ prog w ks s s2 → Q (.ref s.heap.objs.size) s2) :
    wpAny (model prog w) A (call (.type "set") [.ref l]) Q E s := by
  obtain ⟨c, tl, hmro⟩ := PySem.F.called_set.mro
  have hmade := PySem.F.called_set.made
  have hsub := PySem.F.called_set.sub
  have h1 := PySem.F.called_set.notType
  have h2 := PySem.F.called_set.canCreate
  have hct := PySem.F.typeCall_set_1 (.ref l)
  refine wpAny_call (codeAny_of_tree ?_)
  show wpAny _ _ (callAny (.type "set") _) _ _ _
  refine wpAny_pure ⟨Code.quiet_builtin _ (by decide +kernel), codeAny_builtin PySem.F.entry_type_call ?_⟩
  rw [Around.under_plain (weight_type_call_type "set" [.ref l] []) rfl]
  repeat (any_goals (first | assumption | wp_step))
  refine codeAny_mono (code_set_led1 (.ref l) (E := E) (Q₁ := fun obj s₁ => obj = .ref s.heap.objs.size ∧ s₁ = { s with heap := s.heap.push (newSetQ w) }) ⟨rfl, rfl⟩) fun r s₁ hr => ?_
  cases r with
  | error e => exact hr
  | ok fl =>
    cases fl with
    | ret obj =>
      obtain ⟨rfl, rfl⟩ := hr
      have hS : (s.heap.push (newSetQ w)).get? s.heap.objs.size = some (newSetQ w) := Heap.get?_push_size _ rfl
      have hT : Shared.TypeIs { s with heap := s.heap.push (newSetQ w) } (.ref s.heap.objs.size) "set" := ⟨_, hS, rfl⟩
      have hli := PySem.F.called_set.init.lookup
      have hbi := PySem.F.called_set.init.bind (.ref s.heap.objs.size)
      repeat (any_goals (first | assumption | wp_step))
      refine codeAny_mono (codeAny_call_builtin (R := wants (fun r s₂ => r = .none ∧ FilledQ prog w ks s s₂) E) PySem.F.called_set.init.plain PySem.F.entry_set_init (check_set_init_1 hT ?_)) fun r₂ s₂ hr₂ => ?_
      · obtain ⟨ol, hol, hcl, nl, hdl⟩ := hl
        obtain ⟨ocls, odict, odata, oslots⟩ := ol
        simp only at hcl hdl
        subst hcl
        subst hdl
        have hol' : (s.heap.push (newSetQ w)).get? l = some { cls := .type "list", dict := odict, data := .seq items nl, slots := oslots } := Heap.get?_push_of_some _ hol
        have hsls := PySem.F.sub_list_set
        have hslf := PySem.F.sub_list_frozenset
        have hne : (Value.type "list" == Value.type "dict") = false := by decide
        have hl1 : (s.heap.push (newSetQ w)).IsList l items := ⟨_, hol', rfl, nl, rfl⟩
        unfold Builtin.«set.__init__» noKeywords Builtin.Frozenset.updateFrom
        generalize hPI : pyIter = PI
        wp_walk
        subst hPI
        refine wpAny_pyIter_list hl1 ?_
        refine wpAny_bind (wpAny_runValue ?_)
        have hlS : l < s.heap.objs.size := Heap.lt_size hol
        have hh3 : A.in1.in1.in1.handled = none := by simp [hh]
        have nI : l ≠ (s.heap.push (newSetQ w)).objs.size := by
          rw [Heap.size_push]
          exact Nat.ne_of_lt (Nat.lt_succ_of_lt hlS)
        have nS : s.heap.objs.size ∉ [(s.heap.push (newSetQ w)).objs.size, l] := by
          rw [Heap.size_push]
          simp only [List.mem_cons, List.not_mem_nil, or_false, not_or]
          exact ⟨Nat.ne_of_lt (Nat.lt_succ_self _), Nat.ne_of_gt hlS⟩
        refine loop_keysQ ((Walks.list hh3 _ l nI items).toS) s.heap.objs.size nS ks hsz.symm (by rw [hsz]; exact hb) hv items.size 0 0 (fun _ => false) _ (Nat.zero_add _) (Nat.le_refl _)
          ⟨⟨_, Heap.get?_push_size _ rfl, rfl, rfl⟩, hl1.push _⟩ ?hA ?hB
        case hA =>
          have hg : ((s.heap.push (newSetQ w)).push { cls := .type "list_iterator", data := .fields #[.ref l, .int 0 0] }).get? s.heap.objs.size = some (newSetQ w) := Heap.get?_push_of_some _ hS
          refine ⟨_, #[], 0, _, [], hg, ⟨rfl, rfl, rfl⟩, rfl, (fun e he => by simp at he), ⟨⟨[], List.Perm.refl _, (fun p h => by cases h), rfl⟩, List.nodup_nil⟩, (fun k => by simp), (by decide), (by rfl), rfl, List.Pairwise.nil, ?_⟩
          show _ ∨ (!w.params.followText "set-order") = true
          cases w.params.followText "set-order" <;> simp
        case hB =>
          intro s' T' m' mv hT' le eq
          obtain ⟨h', g', d', tk', os'⟩ := s'
          have eg : g' = s.gens := mv.gens
          have ed : d' = s.drawn := mv.drawn
          have eo : os' = s.os := mv.os
          subst eg
          subst ed
          subst eo
          show wpAny _ _ _ _ _ _
          refine wpAny_pure ?_
          show wpAny _ _ (ret Value.none) _ _ _
          refine wpAny_pure ⟨rfl, h', tk', T', m', rfl, hT', by omega, fun k => by rw [eq k]; rfl, fun b o hb e => ?_⟩
          refine mv.heap b o ?_ (Heap.get?_push_of_some _ (Heap.get?_push_of_some _ e))
          simp only [List.mem_cons, List.not_mem_nil, or_false, not_or]
          exact ⟨Nat.ne_of_lt hb, by rw [Heap.size_push]; exact Nat.ne_of_lt (Nat.lt_succ_of_lt hb)⟩
      · cases r₂ with
        | error e => exact hr₂
        | ok fl₂ =>
          cases fl₂ with
          | ret r =>
            obtain ⟨rfl, hf⟩ := hr₂
            repeat (any_goals (first | assumption | wp_step))
            exact q _ hf
          | _ => exact hr₂.elim
    | _ => exact hr.elim
end
section
variable {X : Cx}
/-- set(a list of texts), to be gone through -/
def rSetTQ (K : PySem.W.Frag) (P : Program) (w : World) : List V → Hp → VK → Prop := fun xs H Q => ∃ (l : Addr) (zs : List Str), xs = [.ref l] ∧ SqL K H l (zs.map V.str) ∧ zs.length < 1000 ∧
  ∀ a n T, H a = none → n ≤ zs.length → (∀ k, T k = true ↔ ∃ z, k = Sum.inr z ∧ z ∈ zs) → Q (.ref a) (upd H a (SetQ P w a T n))
theorem cr_setTQ (K : PySem.W.Frag) (P : Program) (w : World) (hc : X.calm = true) (e : X.K = K := by rfl) (eP : X.prog = P := by rfl) (ew : X.w = w := by rfl) : CallR X (.type "set") (rSetTQ K P w) := by
  subst e
  subst eP
  subst ew
  intro pins s σ H xs us Q I r h
  obtain ⟨l, zs, rfl, hl, hf, q⟩ := h
  rw [Vals.ref1 r]
  obtain ⟨its, rv, pl, hz⟩ := I.list hl
  have rv : Vals ((zs.map Sum.inr).map kV) its := by
    rw [List.map_map]
    exact rv
  have hle : its.length = zs.length := by rw [← rv.length, List.length_map, List.length_map]
  have hn : H s.heap.objs.size = none := I.hok.fresh (Nat.le_refl _)
  refine call_set_keysQ (ks := zs.map Sum.inr) (I.ok.hd hc) pl.isList (by rw [List.size_toArray, hle, List.length_map]) (fun i v e => keys_vals rv i v (by simpa using e)) (by rw [List.length_map]; unfold scanBound; omega) fun s2 F => ?_
  obtain ⟨h', tk, T, m, rfl, hT, hm, eT, k⟩ := F
  rw [List.length_map] at hm
  refine ⟨.ref s.heap.objs.size, upd H s.heap.objs.size (SetQ X.prog X.w s.heap.objs.size T m), I.laid (t' := tk) (fun b o e => k b o (Heap.lt_size e) e) (Nat.le_refl _) (setQ_new hT), rfl, q _ m T hn hm fun z => ?_⟩
  rw [eT, List.any_eq_true]
  constructor
  · rintro ⟨x, hx, e⟩
    obtain ⟨z', hz', rfl⟩ := List.mem_map.mp hx
    exact ⟨z', of_decide_eq_true e, hz'⟩
  · rintro ⟨z', rfl, hz'⟩
    exact ⟨_, List.mem_map.mpr ⟨z', hz', rfl⟩, decide_eq_true rfl⟩
end
end Qk

/-! Qv: sorted(a set of texts), in, not in -/
namespace Qk
open PySem PySem.Spec PyProof.Rows L2
section
variable {P : Program} {w : World} {A : Around} {E : Value → Shared → Prop} {s : Shared} {a : Addr} {T : Key → Bool} {n : Nat} {Q : Value → Shared → Prop}
theorem strs_of : ∀ (l : List Value) (zs : List Str), l.length = zs.length → (∀ i (h : i < l.length) (h' : i < zs.length), ∃ tk, l[i] = .str zs[i] tk) → StrsAre l zs
  | [], [], _, _ => .nil
  | [], _ :: _, e, _ => by cases e
  | _ :: _, [], e, _ => by cases e
  | v :: l, z :: zs, e, h => by
    obtain ⟨tk, hv⟩ := h 0 (Nat.zero_lt_succ _) (Nat.zero_lt_succ _)
    have hv : v = .str z tk := hv
    subst hv
    exact .cons z tk (strs_of l zs (by simpa using e) fun i h1 h2 => h (i + 1) (Nat.succ_lt_succ h1) (Nat.succ_lt_succ h2))
/-- values whose keys are all texts -/
theorem strs_ex : ∀ (l : List Value), (∀ v ∈ l, ∃ z tk, v = .str z tk) → ∃ zs, StrsAre l zs
  | [], _ => ⟨[], .nil⟩
  | v :: l, h => by
    obtain ⟨z, tk, rfl⟩ := h v List.mem_cons_self
    obtain ⟨zs, hz⟩ := strs_ex l fun u hu => h u (List.mem_cons_of_mem _ hu)
    exact ⟨z :: zs, .cons z tk hz⟩
theorem strs_len {l : List Value} {zs : List Str} (h : StrsAre l zs) : zs.length = l.length := by
  induction h with
  | nil => rfl
  | cons y t r ih => simp [ih]
theorem is_text {z : Str} {v : Value} (h : (mixKind P w).is (Sum.inr z) v = true) : ∃ tk, v = .str z tk := by
  have h : keyIs (Sum.inr z) v = true := h
  have h : v.isStrOf z = true := h
  cases v <;> simp [Value.isStrOf] at h ⊢
  exact h
/-- the texts of values, found by their keys -/
theorem strs_keys : ∀ (l : List (Key × (Int × Value))), (∀ p ∈ l, (mixKind P w).is p.1 p.2.2 = true) → (∀ p ∈ l, ∃ z, p.1 = Sum.inr z) → ∃ zs, StrsAre (l.map (·.2.2)) zs ∧ l.map (·.1) = zs.map Sum.inr
  | [], _, _ => ⟨[], .nil, rfl⟩
  | p :: l, h1, h2 => by
    obtain ⟨z, ez⟩ := h2 p List.mem_cons_self
    have hi := h1 p List.mem_cons_self
    rw [ez] at hi
    obtain ⟨tk, ev⟩ := is_text hi
    obtain ⟨zs, hz, e⟩ := strs_keys l (fun q hq => h1 q (List.mem_cons_of_mem _ hq)) fun q hq => h2 q (List.mem_cons_of_mem _ hq)
    refine ⟨z :: zs, ?_, ?_⟩
    · rw [List.map_cons, ev]
      exact .cons z tk hz
    · rw [List.map_cons, ez, e]
      rfl
theorem StrsAre.perm {l l' : List Value} (pm : l.Perm l') : ∀ {zs : List Str}, StrsAre l zs → ∃ zs', StrsAre l' zs' ∧ zs.Perm zs' := by
  induction pm with
  | nil => intro zs h; exact ⟨zs, h, List.Perm.refl _⟩
  | cons x _ ih =>
    intro zs h
    cases h with
    | cons y t r =>
      obtain ⟨zs', h', p⟩ := ih r
      exact ⟨y :: zs', .cons y t h', p.cons y⟩
  | swap x y l =>
    intro zs h
    cases h with
    | cons a t r =>
      cases r with
      | cons b t' r => exact ⟨_, .cons b t' (.cons a t r), List.Perm.swap _ _ _⟩
  | trans _ _ ih1 ih2 =>
    intro zs h
    obtain ⟨z1, h1, p1⟩ := ih1 h
    obtain ⟨z2, h2, p2⟩ := ih2 h1
    exact ⟨z2, h2, p1.trans p2⟩
theorem sorted_setQ (R : KR P w s.heap a T n) (hh : A.handled = none) (hn : n < 64) (ht : ∀ k, T k = true → ∃ z, k = Sum.inr z)
    (q : ∀ (s' : Shared) (p : Nat) (out : Array Value) (c : Nat) (zs : List Str), (∀ (b : Addr) (o : Obj), s.heap.get? b = some o → s'.heap.get? b = some o) → s'.gens = s.gens → s'.os = s.os → s.heap.objs.size ≤ p →
      s'.heap.get? p = some (seqObj "list" out c) → StrsAre out.toList zs → sortedS zs = true → zs.Nodup → (∀ z, z ∈ zs ↔ T (Sum.inr z) = true) → zs.length = n → Q (.ref p) s') :
    wpAny (model P w) A (call (.builtin "sorted") [.ref a]) Q E s := by
  obtain ⟨o, es, ep, t, ks, ho, hx, hd, he, hk, hT, hsz, hf, hn', hr, hl⟩ := R
  obtain ⟨kes, pm, hi, ek⟩ := hk.ex
  refine Calls.call_function_entry kind_sorted plain_sorted entry_sorted (args_sorted1 _) ?_
  unfold Builtin.sorted
  refine wpAny_bind (wpAny_pure ?_)
  refine wpAny_bind (collect_set (by simpa using hh) ⟨o, ho, hx.1, hd⟩ hf hsz hr hl fun s1 out k1 z1 g1 o1 p1 => ?_)
  have hall : ∀ p ∈ kes, ∃ z, p.1 = Sum.inr z := fun p hp => ht _ ((hT _).mpr (by rw [← ek]; exact List.mem_map.mpr ⟨p, hp, rfl⟩))
  obtain ⟨zs, hz, ez⟩ := strs_keys kes hi hall
  have pv : (kes.map (·.2.2)).Perm out := by
    have := pm.map (·.2)
    rw [List.map_map] at this
    exact this.trans p1.symm
  obtain ⟨zs', hz', pz⟩ := StrsAre.perm pv hz
  have lo : out.length = n := by rw [p1.length_eq, List.length_map, Array.length_toList, hn']
  refine wpAny_bind (wpAny_newList ?_ (by rw [lo, sizeLine_eq]; omega))
  refine wpAny_bind (wpAny_holding ?_)
  have hp : (s1.heap.push { cls := Value.type "list", data := Data.seq out.toArray }).get? s1.heap.objs.size = some (seqObj "list" out.toArray 0) := Heap.get?_push_size _ rfl
  refine wpAny_call_entry slot_list_sort ⟨_, hp, rfl⟩ entry_list_sort ?_ (args_list_sort _)
  refine list_sort_treeK strKind_oneLt hp hz'.keysOf (fun v1 v2 rest e => by subst e; exact keyKind_strs hz') (by omega) fun st' pa so => ?_
  obtain ⟨ss, h1, h2, h3⟩ := sorted_out_str hz' pa so
  refine ⟨.none, rfl, ?_⟩
  refine wpAny_pure ⟨_, rfl, ?_⟩
  obtain ⟨c, hc⟩ := sortedHeap_at (out := Array.map (fun x => x.snd) (arrOf st')) hp
  have nds : ss.Nodup := by
    have nz : zs.Nodup := by
      have := hk.nd
      rw [← ek, ez] at this
      exact (List.pairwise_map.mp this).imp fun h e => h (by rw [e])
    exact (h2.trans pz.symm).nodup_iff.mpr nz
  refine q _ s1.heap.objs.size _ c ss (fun b u e => ?_) g1 o1 z1 hc h1 h3 nds (fun z => ?_) ?_
  · have e1 := k1 b u e
    have l1 := Heap.lt_size e1
    have e2 := sortedHeap_old (h := s1.heap.push { cls := Value.type "list", data := Data.seq out.toArray }) (vs := out) (out := Array.map (fun x => x.snd) (arrOf st')) (Nat.ne_of_lt l1) (by rw [size_push']; exact Nat.lt_succ_of_lt l1)
    exact e2.trans (Heap.get?_push_of_some _ e1)
  · rw [h2.mem_iff, ← pz.mem_iff, hT, ← ek, ez, List.mem_map]
    constructor
    · intro h
      exact ⟨z, h, rfl⟩
    · rintro ⟨z', h, e⟩
      injection e with e
      rw [← e]
      exact h
  · rw [h2.length_eq, strs_len hz', lo]
end
/-! ### the rules -/
def rSortQ (P : Program) (w : World) : List V → Hp → VK → Prop := fun xs H Q => ∃ (a : Addr) (T : Key → Bool) (n : Nat), xs = [.ref a] ∧ H a = some (SetQ P w a T n) ∧ n < 64 ∧ (∀ k, T k = true → ∃ z, k = Sum.inr z) ∧
  ∀ (zs : List Str) (p : Addr), sortedS zs = true → zs.Nodup → (∀ z, z ∈ zs ↔ T (Sum.inr z) = true) → zs.length = n → H p = none → Q (.ref p) (upd H p (.lst (zs.map V.str)))
section
variable {X : Cx}
theorem cr_sortQ (P : Program) (w : World) (hc : X.calm = true) (eP : X.prog = P := by rfl) (ew : X.w = w := by rfl) : CallR X (.builtin "sorted") (rSortQ P w) := by
  subst eP
  subst ew
  intro pins s σ H xs us Q I r h
  obtain ⟨a, T, n, rfl, ha, hn, ht, q⟩ := h
  rw [Vals.ref1 r]
  refine sorted_setQ (setQ_get I ha) (I.ok.hd hc) hn ht fun s' p out c zs k g o hp hg hi hs nd hm hl => ?_
  have hl' : (zs.map V.str).length ≤ sizeLine := by rw [List.length_map, hl, sizeLine_eq]; omega
  have hn : H p = none := I.hok.fresh hp
  obtain ⟨heap, gens, drawn, toks, os⟩ := s'
  have g : gens = s.gens := g
  have o : os = s.os := o
  subst g
  subst o
  have hob : ObjOk X.prog X.w (upd H p (.lst (zs.map V.str))) heap p (.lst (zs.map V.str)) := ⟨hl', out.toList, c, vals_of_strs hi, hg⟩
  have J := I.call (ch := []) (d' := drawn) (t' := toks) (g' := s.gens) (Un.laid k hp hn) (HOk.laid I.hok k hp hob) I.bare (fun x z => (by cases z))
  exact ⟨.ref p, upd H p (.lst (zs.map V.str)), J, rfl, q zs p hs nd hm hl hn⟩
def rInQ (P : Program) (w : World) (neg : Bool) : R2 := fun x y H Q => ∃ (k : Key) (a : Addr) (T : Key → Bool) (n : Nat), x = kV k ∧ y = .ref a ∧ H a = some (SetQ P w a T n) ∧ Q (.bl (if neg = true then !T k else T k)) H
theorem or_inQ : OpR X (compareOp .In) (rInQ X.prog X.w false) := by
  intro pins s σ H x y v u Q I rx ry h
  obtain ⟨k, a, T, n, rfl, rfl, ha, q⟩ := h
  have eu : u = .ref a := ry
  subst eu
  refine wpAny_inSet_of (knd := mixKind X.prog X.w) (kV_is rx) (key_scan rx) (setQ_get I ha).setOf ?_
  exact ⟨.bl (T k), H, I.tok _, rfl, q⟩
theorem or_notinQ : OpR X (compareOp .NotIn) (rInQ X.prog X.w true) := by
  intro pins s σ H x y v u Q I rx ry h
  obtain ⟨k, a, T, n, rfl, rfl, ha, q⟩ := h
  have eu : u = .ref a := ry
  subst eu
  refine wpAny_notInSet_of (knd := mixKind X.prog X.w) (kV_is rx) (key_scan rx) (setQ_get I ha).setOf ?_
  exact ⟨.bl (!T k), H, I.tok _, rfl, q⟩
end
/-! ### in, not in: lists, texts, sets of both kinds -/
def rInN (K : PySem.W.Frag) (P : Program) (w : World) : R2 := fun x y H Q => rInM K P w x y H Q ∨ rInQ P w false x y H Q
def rNotInN (K : PySem.W.Frag) (P : Program) (w : World) : R2 := fun x y H Q => rNotInM K P w x y H Q ∨ rInQ P w true x y H Q
def rSortN (K : PySem.W.Frag) (P : Program) (w : World) : List V → Hp → VK → Prop := fun xs H Q => rSortA K xs H Q ∨ rSortQ P w xs H Q
section
variable {X : Cx}
theorem op_inN (K : PySem.W.Frag) (P : Program) (w : World) (hu : X.A.units + 64 < cLine) (hu' : X.A.units + 65 < cLine) (e : X.K = K := by rfl) (eP : X.prog = P := by rfl) (ew : X.w = w := by rfl) : OpR X (compareOp .In) (rInN K P w) := by
  subst e
  subst eP
  subst ew
  intro pins s σ H x y v u Q I rx ry h
  rcases h with h | h
  · exact op_inM _ _ _ hu hu' rfl rfl rfl pins s σ H x y v u Q I rx ry h
  · exact or_inQ pins s σ H x y v u Q I rx ry h
theorem op_notinN (K : PySem.W.Frag) (P : Program) (w : World) (hu : X.A.units + 64 < cLine) (hu' : X.A.units + 65 < cLine) (e : X.K = K := by rfl) (eP : X.prog = P := by rfl) (ew : X.w = w := by rfl) : OpR X (compareOp .NotIn) (rNotInN K P w) := by
  subst e
  subst eP
  subst ew
  intro pins s σ H x y v u Q I rx ry h
  rcases h with h | h
  · exact op_notinM _ _ _ hu hu' rfl rfl rfl pins s σ H x y v u Q I rx ry h
  · exact or_notinQ pins s σ H x y v u Q I rx ry h
theorem cr_sortN (K : PySem.W.Frag) (P : Program) (w : World) (hc : X.calm = true) (c : CallR X (.builtin "sorted") (rSortA K)) (eP : X.prog = P := by rfl) (ew : X.w = w := by rfl) : CallR X (.builtin "sorted") (rSortN K P w) := by
  intro pins s σ H xs us Q I r h
  rcases h with h | h
  · exact c pins s σ H xs us Q I r h
  · exact cr_sortQ P w hc eP ew pins s σ H xs us Q I r h
end
section
variable {K : PySem.W.Frag} {P : Program} {w : World} {F : Hp} {O O' : Own} {H : Hp} {Q : VK} {x y v : V}
theorem g_inNM (q : rInM K P w x y H Q) : rInN K P w x y H Q := .inl q
theorem g_notinNM (q : rNotInM K P w x y H Q) : rNotInN K P w x y H Q := .inl q
theorem g_inNQ {a : Addr} {T : Key → Bool} {n : Nat} {k : Key} (ek : x = kV k) (h : H a = some (SetQ P w a T n)) (q : Q (.bl (T k)) H) : rInN K P w x (.ref a) H Q := .inr ⟨k, a, T, n, ek, rfl, h, q⟩
theorem g_notinNQ {a : Addr} {T : Key → Bool} {n : Nat} {k : Key} (ek : x = kV k) (h : H a = some (SetQ P w a T n)) (q : Q (.bl (!T k)) H) : rNotInN K P w x (.ref a) H Q := .inr ⟨k, a, T, n, ek, rfl, h, q⟩
theorem g_sortNA {xs : List V} (q : rSortA K xs H Q) : rSortN K P w xs H Q := .inl q
theorem g_sortNQ {a : Addr} {T : Key → Bool} {n : Nat} (h : H a = some (SetQ P w a T n)) (hn : n < 64) (ht : ∀ k, T k = true → ∃ z, k = Sum.inr z) (hH : Has F O H)
    (q : ∀ (zs : List Str) p H', sortedS zs = true → zs.Nodup → (∀ z, z ∈ zs ↔ T (Sum.inr z) = true) → zs.length = n → H p = none → Has F ((p, .lst (zs.map V.str)) :: O) H' → Q (.ref p) H') : rSortN K P w [.ref a] H Q :=
  .inr ⟨a, T, n, rfl, h, hn, ht, fun zs p s nd m l np => q zs p _ s nd m l np (hH.new np)⟩
theorem g_setOfQ {a : Addr} {zs : List Str} (h : H a = some (.lst (zs.map V.str))) (hl : zs.length < 1000) (hH : Has F O H) (q : ∀ p n T H', H p = none → n ≤ zs.length → (∀ k, T k = true ↔ ∃ z, k = Sum.inr z ∧ z ∈ zs) → Has F ((p, SetQ P w p T n) :: O) H' → Q (.ref p) H') : rSetTQ K P w [.ref a] H Q :=
  ⟨a, zs, rfl, SqL.of h, hl, fun p n T np le eT => q p n T _ np le eT (hH.new np)⟩
end
/-! ### min of two numbers -/
def rMin2 : List V → Hp → VK → Prop := fun xs H Q => ∃ i j, xs = [.int i, .int j] ∧ Q (.int (if j < i then j else i)) H
theorem cr_min2 {X : Cx} (hc : X.calm = true) : CallR X (.builtin "min") rMin2 := call_min2 hc
theorem g_min2 {i j : Int} {H : Hp} {Q : VK} (q : Q (.int (min i j)) H) : rMin2 [.int i, .int j] H Q := ⟨i, j, rfl, by
  have e : (if j < i then j else i) = min i j := by split <;> omega
  rw [e]
  exact q⟩
/-! ### any, all of a list of truth values -/
theorem cr_anyK {X : Cx} (K : PySem.W.Frag) (hc : X.calm = true) (e : X.K = K := by rfl) : CallR X (.builtin "any") (rAny K) := by subst e; exact cr_any hc
theorem cr_allK {X : Cx} (K : PySem.W.Frag) (hc : X.calm = true) (e : X.K = K := by rfl) : CallR X (.builtin "all") (rAll K) := by subst e; exact cr_all hc
theorem g_any {K : PySem.W.Frag} {a : Addr} {bs : List Bool} {H : Hp} {Q : VK} (h : H a = some (.lst (bs.map V.bl))) (q : Q (.bl (bs.any id)) H) : rAny K [.ref a] H Q := ⟨a, bs, rfl, SqL.of h, q⟩
theorem g_all {K : PySem.W.Frag} {a : Addr} {bs : List Bool} {H : Hp} {Q : VK} (h : H a = some (.lst (bs.map V.bl))) (q : Q (.bl (bs.all id)) H) : rAll K [.ref a] H Q := ⟨a, bs, rfl, SqL.of h, q⟩
end Qk

/-! Qz: loops over the keys of a dict (locked meanwhile), len of a dict, texts in order, reverse -/
namespace Qk
open PySem PySem.Spec PyProof.Rows L2
def kForK (d : Addr) (od : Obj) (kvs : List (Key × V)) (g : TG) (tb : TS) (D : Ends) (σ : L2.St) (H : Hp) : Prop := kW (Itk d od kvs) g tb D σ H
/-- the ends of a statement under a lock -/
def lockD (d : Addr) (od : Obj) (u : HO) (D : Ends) : Ends := ⟨fun σ' H' => H' d = some (.frz od u) ∧ D.nx σ' (upd H' d u), fun v H' => H' d = some (.frz od u) ∧ D.rt v (upd H' d u), fun σ' H' => H' d = some (.frz od u) ∧ D.bk σ' (upd H' d u), fun σ' H' => H' d = some (.frz od u) ∧ D.ct σ' (upd H' d u)⟩
def kForKx (g : TG) (tb : TS) (D : Ends) (σ : L2.St) (x : V) (H1 : Hp) : Prop := ∃ d o, x = .ref d ∧ ((∃ kvs, H1 d = some (.frz o (.dK kvs)) ∧ kForK d o kvs g tb D σ H1) ∨ ∃ kvs, H1 d = some (.frz o (.dT kvs)) ∧ kW (Itkt d o kvs) g tb D σ H1)
section
variable {K : PySem.W.Frag} {σ : L2.St} {F : Hp} {O O' : Own} {H : Hp} {Q : VK} {te : TE} {x y v : V} {D : Ends} {ts : TS} {g : TG} {d : Addr} {od : Obj} {kvs : List (Key × V)}
theorem g_forK (q : te σ H fun x H1 => kForKx g ts D σ x H1) : tFor (iKeys te) g ts D σ H := q
theorem g_kforKx (h : H d = some (.frz od (.dK kvs))) (q : kForK d od kvs g ts D σ H) : kForKx g ts D σ (.ref d) H := ⟨d, od, rfl, .inl ⟨kvs, h, q⟩⟩
theorem g_lockK {i : Nat} (hv : σ[i]? = some (some (.ref d))) (h : H d = some (.dK kvs)) (q : ∀ od, kForK d od kvs g ts (lockD d od (.dK kvs) D) σ (upd H d (.frz od (.dK kvs)))) : tLock (tFor (iKeys (tVar i)) g ts) D σ H :=
  ⟨d, .dK kvs, h, trivial, fun od => ⟨.ref d, hv, d, od, rfl, .inl ⟨kvs, upd_same, q od⟩⟩⟩
theorem k_forK (Pv : Nat → L2.St → Hp → Prop) (h0 : Pv 0 σ H) (hl : ∀ i σ H, Pv i σ H → H d = some (.frz od (.dK kvs)))
    (hs : ∀ i k v σ H, kvs[i]? = some (k, v) → Pv i σ H → g (kV k) σ H fun σ2 H2 => ts { D with nx := Pv (i + 1), ct := Pv (i + 1), bk := D.nx } σ2 H2) (hd : ∀ σ H, Pv kvs.length σ H → D.nx σ H) : kForK d od kvs g ts D σ H := by
  refine ⟨fun i m σ H => m = kvs.length - i ∧ i ≤ kvs.length ∧ Pv i σ H, ⟨_, rfl, Nat.zero_le _, h0⟩, ?_⟩
  rintro i m σ H1 ⟨rfl, hi, p⟩
  have hq := hl i σ H1 p
  by_cases hlt : i < kvs.length
  · refine .inr ⟨⟨hq, hlt⟩, Pv (i + 1), fun σ' H' p' => ⟨kvs.length - (i + 1), by omega, rfl, hlt, p'⟩, ?_⟩
    rintro x H' ⟨rfl, k, v, e, rfl⟩
    exact hs i k v σ _ e p
  · have e : i = kvs.length := by omega
    subst e
    exact .inl ⟨⟨hq, Nat.le_refl _⟩, hd σ H1 p⟩
end
/-! ### a locked thing -/
section
variable {F H H' : Hp} {O : Own} {d a : Addr} {od : Obj} {u o : HO} {kvs : List (Key × V)}
theorem Has.lock (h : Has F O H) (e : F d = some u) : Has (upd F d (.frz od u)) O (upd H d (.frz od u)) := by
  refine ⟨fun b v q => ?_, fun p hp => ?_, h.nd⟩
  · by_cases c : b = d
    · subst c
      rw [upd_same] at q ⊢
      exact q
    · rw [upd_ne c] at q ⊢
      exact h.same b v q
  · have f := h.own p hp
    have ne : p.1 ≠ d := fun z => by
      rw [z, e] at f
      cases f.1
    rw [upd_ne ne, upd_ne ne]
    exact f
theorem lock_at (e : H d = some u) (h : H a = some o) (ne : o ≠ u) : upd H d (.frz od u) a = some o := by
  rw [upd_ne (fun z => ?_)]
  · exact h
  · subst z
    rw [e] at h
    exact ne (Option.some.inj h).symm
theorem unlock_at (e : H' d = some (.frz od u)) (h : H' a = some o) (ne : o ≠ .frz od u) : upd H' d u a = some o := by
  rw [upd_ne (fun z => ?_)]
  · exact h
  · subst z
    rw [e] at h
    exact ne (Option.some.inj h).symm
theorem unlock_same (e : H d = some u) (s : Same (upd H d (.frz od u)) H') : Same H (upd H' d u) := fun b v q => by
  by_cases c : b = d
  · subst c
    rw [upd_same]
    rw [e] at q
    exact q
  · rw [upd_ne c]
    exact s b v (by rw [upd_ne c]; exact q)
theorem Has.unlock (h : Has F O H) (e : F d = some (.frz od u)) : Has (upd F d u) O (upd H d u) := by
  refine ⟨fun b v q => ?_, fun p hp => ?_, h.nd⟩
  · by_cases c : b = d
    · subst c
      rw [upd_same] at q ⊢
      exact q
    · rw [upd_ne c] at q ⊢
      exact h.same b v q
  · have f := h.own p hp
    have ne : p.1 ≠ d := fun z => by
      rw [z, e] at f
      cases f.1
    rw [upd_ne ne, upd_ne ne]
    exact f
end
mutual
theorem Dq.upL {H H' : Hp} (e1 : ∀ a xs, H a = some (.lst xs) → H' a = some (.lst xs)) (e2 : ∀ a xs, H a = some (.tup xs) → H' a = some (.tup xs)) : ∀ (d : PyData) (v : V), Dq H v d → Dq H' v d
  | _, _, .non => .non
  | _, _, .bl b => .bl b
  | _, _, .int i => .int i
  | _, _, .str x => .str x
  | .list ds, _, .lst s a => .lst (e1 _ _ s) (DqAll.upL e1 e2 ds _ a)
  | .tuple ds, _, .tup s a => .tup (e2 _ _ s) (DqAll.upL e1 e2 ds _ a)
theorem DqAll.upL {H H' : Hp} (e1 : ∀ a xs, H a = some (.lst xs) → H' a = some (.lst xs)) (e2 : ∀ a xs, H a = some (.tup xs) → H' a = some (.tup xs)) : ∀ (ds : List PyData) (vs : List V), DqAll H vs ds → DqAll H' vs ds
  | _, _, .nil => .nil
  | d :: ds, _, .cons h t => .cons (Dq.upL e1 e2 d _ h) (DqAll.upL e1 e2 ds _ t)
end
theorem DqAll.lockK {H : Hp} {d : Addr} {od : Obj} {kvs : List (Key × V)} (e : H d = some (.dK kvs)) {ds : List PyData} {vs : List V} (h : DqAll H vs ds) : DqAll (upd H d (.frz od (.dK kvs))) vs ds :=
  h.upL (fun a xs q => lock_at e q (fun z => by cases z)) (fun a xs q => lock_at e q (fun z => by cases z)) ds vs
/-! ### len, also of a dict -/
def rLenN (K : PySem.W.Frag) : List V → Hp → VK → Prop := fun xs H Q => rLen K xs H Q ∨ ∃ a kvs, xs = [V.ref a] ∧ H a = some (.dK kvs) ∧ Q (.int kvs.length) H
theorem cr_lenN {X : Cx} (K : PySem.W.Frag) (e : X.K = K := by rfl) : CallR X (.builtin "len") (rLenN K) := by
  subst e
  intro pins s σ H xs us Q I r h
  rcases h with h | h
  · exact cr_len pins s σ H xs us Q I r h
  · exact call_lenD pins s σ H xs us Q I r h
section
variable {K : PySem.W.Frag} {H : Hp} {Q : VK}
theorem g_lenNL {a : Addr} {xs : List V} (h : H a = some (.lst xs)) (q : Q (.int (xs.length : Int)) H) : rLenN K [.ref a] H Q := .inl (g_lenL h q)
theorem g_lenNT {a : Addr} {xs : List V} (h : H a = some (.tup xs)) (q : Q (.int (xs.length : Int)) H) : rLenN K [.ref a] H Q := .inl (g_lenT h q)
theorem g_lenNS {z : Str} (h : z.length ≤ sizeLine) (q : Q (.int (z.length : Int)) H) : rLenN K [.str z] H Q := .inl (g_lenS h q)
theorem g_lenND {a : Addr} {kvs : List (Key × V)} (h : H a = some (.dK kvs)) (q : Q (.int (kvs.length : Int)) H) : rLenN K [.ref a] H Q := .inr ⟨a, kvs, rfl, h, q⟩
end
/-! ### texts in order -/
def rLtA : R2 := fun x y H Q => (rI0 (fun i j => .bl (decide (i < j))) x y H Q) ∨ ∃ i j, x = .str i ∧ y = .str j ∧ Q (.bl (decide (i.cps.toList < j.cps.toList))) H
theorem op_ltA {X : Cx} : OpR X (compareOp .Lt) rLtA := by
  intro pins s σ H x y v u Q I rx ry h
  rcases h with h | h
  · exact op_lt pins s σ H x y v u Q I rx ry h
  · exact op_lt_str pins s σ H x y v u Q I rx ry h
theorem g_ltI {i j : Int} {H : Hp} {Q : VK} (q : Q (.bl (decide (i < j))) H) : rLtA (.int i) (.int j) H Q := .inl ⟨i, j, rfl, rfl, q⟩
theorem g_ltS {i j : Str} {H : Hp} {Q : VK} (q : Q (.bl (decide (i.cps.toList < j.cps.toList))) H) : rLtA (.str i) (.str j) H Q := .inr ⟨i, j, rfl, rfl, q⟩
/-! ### reverse -/
def rRevA : V → List V → Hp → VK → Prop := fun x vs H Q => ∃ l xs, x = .ref l ∧ vs = [] ∧ H l = some (.lst xs) ∧ Q .non (upd H l (.lst xs.reverse))
theorem mt_revA {X : Cx} : MtR X "list.reverse" rRevA := mt_reverse
theorem g_revA {F H : Hp} {O O' : Own} {Q : VK} {a : Addr} {xs : List V} (hH : Has F O H) (c : Chg O a (.lst xs) (.lst xs.reverse) O') (q : ∀ H', Has F O' H' → Q .non H') : rRevA (.ref a) [] H Q :=
  ⟨a, xs, rfl, rfl, hH.get c.mem, q _ (hH.put c)⟩
/-! ### list(range(n)) -/
def kLstRg (x : V) (H1 : Hp) (Q : VK) : Prop := ∃ n, x = .int n ∧ (RgOk 0 n ∧ ∀ q, H1 q = none → Q (.ref q) (upd H1 q (.lst (rgV 0 n))))
section
variable {σ : L2.St} {F : Hp} {O : Own} {H : Hp} {Q : VK} {ta : TE}
theorem g_lstRg (q : ta σ H fun x H1 => kLstRg x H1 Q) : tLstRg (tRg1 ta) σ H Q := q
theorem g_kLstRg {n : Nat} (hn : n ≤ 1000) (hH : Has F O H) (q : ∀ p H', H p = none → Has F ((p, .lst ((List.range n).map fun (a : Nat) => V.int (a : Int))) :: O) H' → Q (.ref p) H') : kLstRg (.int (n : Int)) H Q := by
  refine ⟨n, rfl, RgOk.of_le (by omega) (by omega) (by omega) (by omega), fun p np => q p _ np ?_⟩
  have e : rgV 0 (n : Int) = (List.range n).map fun (a : Nat) => V.int (a : Int) := by
    unfold rgV
    have : ((n : Int) - 0).toNat = n := by omega
    rw [this]
    apply List.map_congr_left
    intro a _
    rw [Int.zero_add]
  rw [e]
  exact hH.new np
end
/-! ### dicts read whether locked or not -/
section
variable {K : PySem.W.Frag} {P : Program} {w : World} {H : Hp} {Q : VK} {a : Addr} {kvs : List (Key × V)} {i : Str} {v : V}
theorem g_ixDR (h : Rd H a (.dK kvs)) (hv : valV kvs (.inr i) = some v) (q : Q v H) : rIxA K (.ref a) (.str i) H Q := .inr ⟨a, v, rfl, .inl ⟨kvs, .inr i, h, rfl, hv.symm⟩, q⟩
theorem g_inSR (h : Rd H a (.dK kvs)) (q : Q (.bl (valV kvs (.inr i)).isSome) H) : rInA K (.str i) (.ref a) H Q := .inl (.inr ⟨a, _, rfl, .inl ⟨kvs, .inr i, h, rfl, rfl⟩, q⟩)
theorem g_notinSR (h : Rd H a (.dK kvs)) (q : Q (.bl (!(valV kvs (.inr i)).isSome)) H) : rNotInA K (.str i) (.ref a) H Q := .inl (.inr ⟨a, _, rfl, .inl ⟨kvs, .inr i, h, rfl, rfl⟩, q⟩)
end
end Qk

/-! Qd: a set comprehension of keys with two clauses; set.add; a dict comprehension stored under a name -/
namespace Qk
open PySem PySem.Spec PyProof.Rows L2
theorem kr_fresh (P : Program) (w : World) {h : Heap} : KR P w (h.push (newSetQ w)) h.objs.size (fun _ => false) 0 := by
  refine ⟨_, #[], 0, _, [], Heap.get?_push_size _ rfl, ⟨rfl, rfl, rfl⟩, rfl, (fun e he => by simp at he), ⟨⟨[], List.Perm.refl _, (fun p h => by cases h), rfl⟩, List.nodup_nil⟩, (fun k => by simp), (by decide), (by rfl), rfl, List.Pairwise.nil, ?_⟩
  show _ ∨ (!w.params.followText "set-order") = true
  cases w.params.followText "set-order" <;> simp
theorem newSetQ_ok {P : Program} {w : World} {A : Around} {E : Value → Shared → Prop} {s : Shared} {Q : Value → Shared → Prop} (h : Q (.ref s.heap.objs.size) { s with heap := s.heap.push (newSetQ w) }) : wpAny (model P w) A (newSet (.type "set")) Q E s := PpSet.newSet_ok h
/-- a.add(x) of a key -/
theorem kq_add {P : Program} {w : World} {A : Around} {E : Value → Shared → Prop} {s : Shared} {a : Addr} {T : Key → Bool} {n : Nat} {k : Key} {x : Value} {Q : Value → Shared → Prop} (his : (mixKind P w).is k x = true) (hsc : x.scannable = true) (R : KR P w s.heap a T n) (room : n + 1 < scanBound)
    (q : ∀ h', Heap.SameBut a s.heap h' → KR P w h' a (fun k' => T k' || decide (k' = k)) (if T k = true then n else n + 1) → Q .none { s with heap := h', toks := s.toks + 1 }) : wpAny (model P w) A (call (.builtin "set.add") [.ref a, x]) Q E s := by
  refine wpAny_call_entry F.slot_set_add R.setOf.typeIs F.entry_set_add ?_ (F.args_set_add_2 _ _)
  unfold Builtin.«set.add» Builtin.Frozenset.oneOther
  simp only [List.isEmpty_nil, bind_assoc]
  unfold Builtin.Frozenset.addrOf setAdd
  refine wpAny_bind (wpAny_pure ?_)
  try dsimp only
  refine wpAny_bind (wpAny_pure ?_)
  try dsimp only
  refine wpAny_bind ?_
  refine wpAny_holding ?_
  refine wpAny_bind ((mixKind P w).pyHash his ?_)
  refine kr_add (s := { s with toks := s.toks + 1 }) his hsc R room fun h' sb r => ?_
  show wpAny _ _ (ret Value.none) _ _ _
  exact wpAny_pure ⟨_, rfl, q h' sb r⟩
theorem addQ_ok {X : Cx} {pins : List (Addr × Obj)} {σ : L2.St} {H : Hp} {s : Shared} {E : Value → Shared → Prop} {D : Addr} {T : Key → Bool} {n : Nat} {k : Key} {u : Value} {Q : Value → Shared → Prop} (I : Inv X pins σ H s) (hD : H D = some (SetQ X.prog X.w D T n)) (ru : RelV (kV k) u) (room : n + 1 < scanBound)
    (q : ∀ s', Inv X pins σ (upd H D (SetQ X.prog X.w D (fun k' => T k' || decide (k' = k)) (if T k = true then n else n + 1))) s' → Q .none s') : wpAny (model X.prog X.w) X.A (call (.builtin "set.add") [.ref D, u]) Q E s := by
  refine kq_add (kV_is ru) (key_scan ru) (setQ_get I hD) room fun h' sb new => ?_
  have he : ∃ o, h'.get? D = some o := by
    obtain ⟨o, _, _, _, _, ho, _⟩ := id new
    exact ⟨o, ho⟩
  exact q _ (I.write (e := D) (t' := s.toks + 1) (by rw [hD]; trivial) (.inl rfl) (fun b o hb e => (sb.2 b hb).trans e) he (setQ_new new))
theorem compTurnS2_out (el ta ia tb ib : Expr) (fa fb : List Expr) (sco : Scope) (pos : Pos) (itr ac : Value) (env : Env) :
    compTurn (.SetComp el [⟨ta, ia, fa, 0⟩, ⟨tb, ib, fb, 0⟩] sco pos) 0 itr ac env = (do
      standAt ia.pos
      match ← pyNext itr with
      | none => pure (.done .next)
      | some v =>
        letOwnedTupleGo ta itr v
        assign ta env v
        let mut ok := true
        for c in fa do
          if ok then ok ← isTrue c env (eval c env)
        if ok then
          let x ← eval ib env
          standAt ib.pos
          let x ← foldedSetIterable ib env x
          let _ ← runOwn (.compStart (.SetComp el [⟨ta, ia, fa, 0⟩, ⟨tb, ib, fb, 0⟩] sco pos) 1 (← holding [x] (pyIter x)) ac env) env
        again (.compLoop (.SetComp el [⟨ta, ia, fa, 0⟩, ⟨tb, ib, fb, 0⟩] sco pos) 0 itr ac env)) := by rfl
theorem compTurnS2_in (el ta ia tb ib : Expr) (fa fb : List Expr) (sco : Scope) (pos : Pos) (itr ac : Value) (env : Env) :
    compTurn (.SetComp el [⟨ta, ia, fa, 0⟩, ⟨tb, ib, fb, 0⟩] sco pos) 1 itr ac env = (do
      standAt ib.pos
      match ← pyNext itr with
      | none => pure (.done .next)
      | some v =>
        letOwnedTupleGo tb itr v
        assign tb env v
        let mut ok := true
        for c in fb do
          if ok then ok ← isTrue c env (eval c env)
        if ok then
          (do let v ← eval el env; standAt el.pos; let _ ← call (.builtin "set.add") [ac, v])
        again (.compLoop (.SetComp el [⟨ta, ia, fa, 0⟩, ⟨tb, ib, fb, 0⟩] sco pos) 1 itr ac env)) := by rfl

section
variable {prog : Program} {w : World} {A : Around} {R : Result → Shared → Prop} {s : Shared} {el ta ia tb ib : Expr} {fa fb : List Expr} {sco : Scope} {pos : Pos} {itr ac : Value} {env : Env}
/-- the loop of the first clause -/
theorem compLoopS2_out (hs : ∀ x, foldedSetIterable ib env x = pure x) (I : Nat → Shared → Prop)
    (trn : ∀ n s, I n s → wpAny (model prog w) A (pyNext itr) (fun r s₁ => match r with
      | none => R (.ok .next) s₁
      | some v => wpAny (model prog w) A (letOwnedTupleGo ta itr v) (fun _ s₁' => wpAny (model prog w) A (assign ta env v) (fun _ s₂ =>
          wpAny (model prog w) A (forIn fa true fun c r => if r = true then do let ok ← isTrue c env (eval c env); pure (ForInStep.yield ok) else pure (ForInStep.yield r)) (fun ok s₃ =>
            if ok = true then wpAny (model prog w) A (eval ib env) (fun x s₄ => wpAny (model prog w) A (pyIter x) (fun it1 s₅ =>
              codeAny (model prog w) A (.compStart (.SetComp el [⟨ta, ia, fa, 0⟩, ⟨tb, ib, fb, 0⟩] sco pos) 1 it1 ac env) (fun r s' => match r with
                | .ok _ => ∃ m, m < n ∧ I m s'
                | .error _ => False) s₅) (notedBy (model prog w) A env fun e s' => R (.error e) s') s₄) (notedBy (model prog w) A env fun e s' => R (.error e) s') s₃
            else ∃ m, m < n ∧ I m s₃) (notedBy (model prog w) A env fun e s' => R (.error e) s') s₂) (notedBy (model prog w) A env fun e s' => R (.error e) s') s₁') (notedBy (model prog w) A env fun e s' => R (.error e) s') s₁) (notedBy (model prog w) A env fun e s' => R (.error e) s') s)
    (n : Nat) (h : I n s) :
    codeAny (model prog w) A (.compLoop (.SetComp el [⟨ta, ia, fa, 0⟩, ⟨tb, ib, fb, 0⟩] sco pos) 0 itr ac env) R s := by
  refine codeAny_loop rfl I (fun n s hI => ?_) n h
  show wpAny _ A ((compTurn (.SetComp el [⟨ta, ia, fa, 0⟩, ⟨tb, ib, fb, 0⟩] sco pos) 0 itr ac env).onRaise (fun x => do noteFrame x env; theTreesLotGoes x)) _ _ s
  refine wpAny_noted ?_
  rw [compTurnS2_out]
  refine wpAny_bind (wpAny_standAt (wpAny_bind (wpAny_mono (trn n s hI) (fun r s₁ h₁ => ?_) fun _ _ h' => h')))
  cases r with
  | none => exact wpAny_pure h₁
  | some v =>
    refine wpAny_bind (wpAny_mono h₁ (fun _ s₁' h₁' => ?_) fun _ _ h' => h')
    refine wpAny_bind (wpAny_mono h₁' (fun _ s₂ h₂ => wpAny_bind (wpAny_mono h₂ (fun ok s₃ h₃ => ?_) fun _ _ h' => h')) fun _ _ h' => h')
    cases ok with
    | false => exact wpAny_pure ⟨rfl, h₃⟩
    | true =>
      refine wpAny_bind (wpAny_mono h₃ (fun x s₄ h₄ => ?_) fun _ _ h' => h')
      refine wpAny_bind (wpAny_standAt (wpAny_bind (wpAny_of_eq (hs x) (wpAny_bind (wpAny_holding (wpAny_mono h₄ (fun it1 s₅ h₅ => ?_) fun _ _ h' => h'))))))
      refine wpAny_bind (wpAny_runOwn ?_)
      rw [Around.mark_none]
      refine codeAny_mono h₅ fun r s' hr => ?_
      cases r with
      | ok f =>
        first
          | exact wpAny_pure ⟨rfl, hr⟩
          | exact wpAny_bind (wpAny_pure (wpAny_pure ⟨rfl, hr⟩))
      | error e => exact hr.elim
/-- the loop of the second -/
theorem compLoopS2_in (I : Nat → Shared → Prop)
    (trn : ∀ n s, I n s → wpAny (model prog w) A (pyNext itr) (fun r s₁ => match r with
      | none => R (.ok .next) s₁
      | some v => wpAny (model prog w) A (letOwnedTupleGo tb itr v) (fun _ s₁' => wpAny (model prog w) A (assign tb env v) (fun _ s₂ =>
          wpAny (model prog w) A (forIn fb true fun c r => if r = true then do let ok ← isTrue c env (eval c env); pure (ForInStep.yield ok) else pure (ForInStep.yield r)) (fun ok s₃ =>
            if ok = true then wpAny (model prog w) A (eval el env) (fun x s₄ =>
              wpAny (model prog w) A (call (.builtin "set.add") [ac, x]) (fun _ s₅ => ∃ m, m < n ∧ I m s₅) (notedBy (model prog w) A env fun e s' => R (.error e) s') s₄) (notedBy (model prog w) A env fun e s' => R (.error e) s') s₃
            else ∃ m, m < n ∧ I m s₃) (notedBy (model prog w) A env fun e s' => R (.error e) s') s₂) (notedBy (model prog w) A env fun e s' => R (.error e) s') s₁') (notedBy (model prog w) A env fun e s' => R (.error e) s') s₁) (notedBy (model prog w) A env fun e s' => R (.error e) s') s)
    (n : Nat) (h : I n s) :
    codeAny (model prog w) A (.compLoop (.SetComp el [⟨ta, ia, fa, 0⟩, ⟨tb, ib, fb, 0⟩] sco pos) 1 itr ac env) R s := by
  refine codeAny_loop rfl I (fun n s hI => ?_) n h
  show wpAny _ A ((compTurn (.SetComp el [⟨ta, ia, fa, 0⟩, ⟨tb, ib, fb, 0⟩] sco pos) 1 itr ac env).onRaise (fun x => do noteFrame x env; theTreesLotGoes x)) _ _ s
  refine wpAny_noted ?_
  rw [compTurnS2_in]
  refine wpAny_bind (wpAny_standAt (wpAny_bind (wpAny_mono (trn n s hI) (fun r s₁ h₁ => ?_) fun _ _ h' => h')))
  cases r with
  | none => exact wpAny_pure h₁
  | some v =>
    refine wpAny_bind (wpAny_mono h₁ (fun _ s₁' h₁' => ?_) fun _ _ h' => h')
    refine wpAny_bind (wpAny_mono h₁' (fun _ s₂ h₂ => wpAny_bind (wpAny_mono h₂ (fun ok s₃ h₃ => ?_) fun _ _ h' => h')) fun _ _ h' => h')
    cases ok with
    | false => exact wpAny_pure ⟨rfl, h₃⟩
    | true =>
      exact wpAny_bind (wpAny_bind (wpAny_mono h₃ (fun x s₄ h₄ => wpAny_bind (wpAny_standAt (wpAny_bind (wpAny_mono h₄ (fun _ s₅ h₅ => wpAny_pure (wpAny_pure ⟨rfl, h₅⟩)) fun _ _ h' => h')))) fun _ _ h' => h'))
/-- the second clause's start -/
theorem compStartS1_ok (h0 : codeAny (model prog w) A (.compLoop (.SetComp el [⟨ta, ia, fa, 0⟩, ⟨tb, ib, fb, 0⟩] sco pos) 1 itr ac env) R s)
    (h : wpAny (model prog w) A (pyIter itr) (fun it' s' => codeAny (model prog w) A (.compLoop (.SetComp el [⟨ta, ia, fa, 0⟩, ⟨tb, ib, fb, 0⟩] sco pos) 1 it' ac env) R s')
      (notedBy (model prog w) A env fun x s' => R (.error x) s') s) :
    codeAny (model prog w) A (.compStart (.SetComp el [⟨ta, ia, fa, 0⟩, ⟨tb, ib, fb, 0⟩] sco pos) 1 itr ac env) R s := by
  refine codeAny_of_tree ?_
  show wpAny _ _ ((compStart (.SetComp el [⟨ta, ia, fa, 0⟩, ⟨tb, ib, fb, 0⟩] sco pos) 1 itr ac env).onRaise (fun x => do noteFrame x env; standAt theWindowsPlace)) _ _ s
  refine wpAny_notedAt ?_
  unfold compStart
  show wpAny _ _ (ask >>= _) _ _ s
  refine wpAny_bind (wpAny_askSetting (wpAny_ite ?_))
  split
  · first
      | exact wpAny_bind (wpAny_pure (wpAny_pure (And.intro rfl h0)))
      | exact wpAny_pure (And.intro rfl h0)
  · first
      | exact wpAny_bind (wpAny_rule (wpAny_bind (wpAny_standAt (wpAny_bind (wpAny_mono h (fun it' s' h' => wpAny_pure (And.intro rfl h')) fun _ _ x => x)))))
      | (refine wpAny_bind (wpAny_rule ?_); show wpAny _ _ (standAt ib.pos >>= _) _ _ s; exact wpAny_bind (wpAny_standAt (wpAny_bind (wpAny_mono h (fun it' s' h' => wpAny_pure (And.intro rfl h')) fun _ _ x => x))))
end

section
variable {X : Cx}
/-- [el for tg in ita if .. for tgb in itb if ..]: behind the first clause's store and tests the second source's own loop, from which Nx is reached. vs: the block's names; vs1: those of the second target -/
def tSc2 (P : Program) (w : World) (wi : TI) (g : TG) (tt : TT) (wib : TI) (gb : TG) (ttb : TT) (te : TE) (vs vs1 : List Nat) : TE := fun σ H Q => wi σ H fun J H1 => ∀ D, H1 D = none → ∃ W : Nat → Nat → Hp → Prop, (∃ m, W 0 m (upd H1 D (SetQ P w D (fun _ => false) 0))) ∧ ∀ i m H, W i m H →
  (J.stop i H ∧ Q (.ref D) H) ∨ (J.go i H ∧ ∃ Nx : Hp → Prop, (∀ H', Nx H' → ∃ m', m' < m ∧ W (i + 1) m' H') ∧ ∀ x H', J.yld i H x H' → g x (wipe σ vs) H' fun σ2 H2 => wipe σ2 vs = wipe σ vs ∧ tt σ2 H2 fun b H3 =>
    if b = true then ∃ (d : Addr) (u : HO), H3 d = some u ∧ Mut (some u) ∧ ∀ od, wib σ2 (upd H3 d (.frz od u)) fun J1 H4 => ∃ W1 : Nat → Nat → Hp → Prop, (∃ m, W1 0 m H4) ∧ ∀ j k H, W1 j k H →
      (J1.stop j H ∧ H d = some (.frz od u) ∧ Nx (upd H d u)) ∨ (J1.go j H ∧ ∃ Nx1 : Hp → Prop, (∀ H', Nx1 H' → ∃ k', k' < k ∧ W1 (j + 1) k' H') ∧ ∀ x H', J1.yld j H x H' → gb x (wipe σ2 vs1) H' fun σ3 H5 => wipe σ3 vs1 = wipe σ2 vs1 ∧ ttb σ3 H5 fun b H6 =>
        if b = true then te σ3 H6 fun y H7 => ∃ (k : Key) (T : Key → Bool) (n : Nat), y = kV k ∧ H7 D = some (SetQ P w D T n) ∧ n + 1 < scanBound ∧ Nx1 (upd H7 D (SetQ P w D (fun k' => T k' || decide (k' = k)) (if T k = true then n else n + 1))) else Nx1 H6)
    else Nx H3)
theorem sc2_core {pins : List (Addr × Obj)} {s : Shared} {σ : L2.St} {H : Hp} {Q : VK} {el tg ita tgb itb : Expr} {fs fb : List Expr} {sco : Scope} {own : List (Str × Nat)} {vs1 : List Nat} {pos pos' : Pos} {wi wib : TI} {g gb : TG} {tt ttb : TT} {te : TE} {use : Option (Value → Sem Unit)} {Qf : Value → Shared → Prop}
    (hc : X.calm = true) (hN : X.N.Nodup) (I : Inv X pins σ H s) (hi : PI X tg ita wi) (ok : BlkOk X.N X.env.scope sco own) (hv : ∀ i ∈ vs1, i ∈ own.map (·.2))
    (hg : ∀ (s : Shared) (H : Hp) (C : Addr) (cl : List (Str × Addr)) (fp : List Addr), PG (X.blk s H sco (compEnvC sco cl C X.env) fp) tg g) (ht : ∀ (s : Shared) (H : Hp) (C : Addr) (cl : List (Str × Addr)) (fp : List Addr), PTs (X.blk s H sco (compEnvC sco cl C X.env) fp) fs tt)
    (he : ∀ (s : Shared) (H : Hp) (C : Addr) (cl : List (Str × Addr)) (fp : List Addr), PE (X.blk s H sco (compEnvC sco cl C X.env) fp) el te) (hs : ∀ x, foldedSetIterable ita X.env x = pure x)
    (hi1 : ∀ (s : Shared) (H : Hp) (C : Addr) (cl : List (Str × Addr)) (fp : List Addr), PI (X.blk s H sco (compEnvC sco cl C X.env) fp) tgb itb wib)
    (hg1 : ∀ (s : Shared) (H : Hp) (C : Addr) (cl : List (Str × Addr)) (fp : List Addr), PG (X.blk s H sco (compEnvC sco cl C X.env) fp) tgb gb)
    (ht1 : ∀ (s : Shared) (H : Hp) (C : Addr) (cl : List (Str × Addr)) (fp : List Addr), PTs (X.blk s H sco (compEnvC sco cl C X.env) fp) fb ttb)
    (hs1 : ∀ env x, foldedSetIterable itb env x = pure x)
    (h : tSc2 X.prog X.w wi g tt wib gb ttb te (own.map (·.2)) vs1 σ H Q)
    (hRR : ∀ D C s' m H', Inv X pins σ H' s' → Q (.ref D) H' → s'.heap.Ns C m → FpOk X pins H' C → compPost (model X.prog X.w) X.A X.xe use Qf (.ref D) C (.ok .next) s') :
    wpAny (model X.prog X.w) X.A (comprehension (.SetComp el [⟨tg, ita, fs, 0⟩, ⟨tgb, itb, fb, 0⟩] sco pos) sco X.env pos' (newSet (.type "set")) false (eval ita X.env) use) Qf X.xe s := by
  have freeC : ∀ y ∈ sco.names, y.2 = .free → ∃ c, X.env.cells.lookup y.1 = some c := fun y hy e => by
    rcases ok.free y hy e with k | k
    · exact I.ok.has _ (.inl k)
    · exact I.ok.has _ (.inr k)
  refine wpAny_comprehension_free (use := use) rfl hs (closure_ok freeC) ok.kind (fun y hy e => by rw [ok.uniq y hy, e])
    (thn (hi.run pins s σ H _ I h) fun xv s1 hx => thn hx fun itv s2 h2 => ?_)
  obtain ⟨itr, fp, tn, J, H2, e, I2, T, st2, f2, q⟩ := h2
  subst e
  refine newSetQ_ok (newEnv_comp ?_)
  generalize hD : s2.heap.objs.size = D
  have hDn : H2 D = none := I2.hok.fresh (Nat.le_of_eq hD)
  obtain ⟨W, ⟨m0, w0⟩, trn⟩ := q D hDn
  -- the new list
  generalize hs3 : ({ s2 with heap := s2.heap.push (newSetQ X.w) } : Shared) = s3
  have I3 : Inv X pins σ (upd H2 D (SetQ X.prog X.w D (fun _ => false) 0)) s3 := by
    rw [← hs3]
    refine I2.laid (t' := s2.toks) (fun b o e => Heap.get?_push_of_some _ e) (Nat.le_of_eq hD) ?_
    rw [← hD]
    exact setQ_new (kr_fresh X.prog X.w)
  have h3 : s3.heap = s2.heap.push (newSetQ X.w) := by rw [← hs3]
  have sz : ∀ b ∈ fp, b < s2.heap.objs.size := fun b hb => by
    obtain ⟨o, e, _⟩ := T.obj _ _ st2 b hb
    exact Heap.lt_size e
  have f3 : ∀ b ∈ fp, FpOk X pins (upd H2 D (SetQ X.prog X.w D (fun _ => false) 0)) b ∧ b < s3.heap.objs.size := fun b hb => by
    have hlt := sz b hb
    refine ⟨⟨?_, (f2 b hb).2⟩, by rw [h3, Heap.size_push]; exact Nat.lt_succ_of_lt hlt⟩
    rw [upd_ne (by rw [← hD]; exact Nat.ne_of_lt hlt)]
    exact (f2 b hb).1
  have st3 : tn 0 s3.heap := T.keep _ _ _ st2 fun b _ o e => by rw [h3]; exact Heap.get?_push_of_some _ e
  have I4 := block_start I3 ok hN f3
  have qg := hg s3 (upd H2 D (SetQ X.prog X.w D (fun _ => false) 0)) s3.heap.objs.size (cellsFrom (s3.heap.objs.size + 1) sco.names (cloFrom X.env.cells sco.names [])) fp
  have qt := ht s3 (upd H2 D (SetQ X.prog X.w D (fun _ => false) 0)) s3.heap.objs.size (cellsFrom (s3.heap.objs.size + 1) sco.names (cloFrom X.env.cells sco.names [])) fp
  have qe := he s3 (upd H2 D (SetQ X.prog X.w D (fun _ => false) 0)) s3.heap.objs.size (cellsFrom (s3.heap.objs.size + 1) sco.names (cloFrom X.env.cells sco.names [])) fp
  have qib := hi1 s3 (upd H2 D (SetQ X.prog X.w D (fun _ => false) 0)) s3.heap.objs.size (cellsFrom (s3.heap.objs.size + 1) sco.names (cloFrom X.env.cells sco.names [])) fp
  have qgb := hg1 s3 (upd H2 D (SetQ X.prog X.w D (fun _ => false) 0)) s3.heap.objs.size (cellsFrom (s3.heap.objs.size + 1) sco.names (cloFrom X.env.cells sco.names [])) fp
  have qtb := ht1 s3 (upd H2 D (SetQ X.prog X.w D (fun _ => false) 0)) s3.heap.objs.size (cellsFrom (s3.heap.objs.size + 1) sco.names (cloFrom X.env.cells sco.names [])) fp
  show codeAny _ _ (.compStart (.SetComp el [⟨tg, ita, fs, 0⟩, ⟨tgb, itb, fb, 0⟩] sco pos) 0 (.ref itr) (.ref D) (compEnvC sco (cellsFrom (s3.heap.objs.size + 1) sco.names (cloFrom X.env.cells sco.names [])) s3.heap.objs.size X.env)) (compPost (model X.prog X.w) X.A X.xe use Qf (.ref D) s3.heap.objs.size) { s3 with heap := pushCells (s3.heap.push { cls := .type "dict", data := .dict #[] }) sco.names }
  have noFp : ∀ b ∈ fp, (upd H2 D (SetQ X.prog X.w D (fun _ => false) 0)) b = none := fun b hb => (f3 b hb).1.1
  generalize hce : compEnvC sco (cellsFrom (s3.heap.objs.size + 1) sco.names (cloFrom X.env.cells sco.names [])) s3.heap.objs.size X.env = ce at I4 qg qt qe qib qgb qtb ⊢
  have cL : ce.locals = s3.heap.objs.size := by subst hce; rfl
  generalize hH3 : upd H2 D (SetQ X.prog X.w D (fun _ => false) 0) = H3 at I3 I4 qg qt qe qib qgb qtb w0 noFp f3
  generalize hs4 : ({ s3 with heap := pushCells (s3.heap.push { cls := .type "dict", data := .dict #[] }) sco.names } : Shared) = s4 at I4 ⊢
  have st4 : tn 0 s4.heap := T.keep _ _ _ st3 fun b _ o e => by rw [← hs4]; exact pushCells_keeps _ _ _ _ (Heap.get?_push_of_some _ e)
  have still : ∀ {σ' : L2.St} {H' : Hp} {s' : Shared}, Inv (X.blk s3 H3 sco ce fp) [] σ' H' s' → (∀ b ∈ fp, H' b = none) → ∀ b ∈ fp, FpOk (X.blk s3 H3 sco ce fp) [] H' b := fun {σ' H' s'} I' hn b hb =>
    ⟨hn b hb, (I'.ok.exf b hb).1, I'.ok.exfs b hb, .inl hb, fun x c e => (I'.ok.exf b hb).2 x c e, fun p hp => absurd (show p ∈ ([] : List (Addr × Obj)) ++ [] from hp) (by simp)⟩
  have loop : codeAny (model X.prog X.w) X.A (.compLoop (.SetComp el [⟨tg, ita, fs, 0⟩, ⟨tgb, itb, fb, 0⟩] sco pos) 0 (.ref itr) (.ref D) ce) (compPost (model X.prog X.w) X.A X.xe use Qf (.ref D) s3.heap.objs.size) s4 := by
    refine compLoopS2_out (hs1 ce) (fun n s' => ∃ i H', Inv (X.blk s3 H3 sco ce fp) [] (wipe σ (own.map (·.2))) H' s' ∧ tn i s'.heap ∧ (∀ b ∈ fp, H' b = none) ∧ W i n H') ?_ m0 ⟨0, H3, I4, st4, noFp, w0⟩
    rintro n s5 ⟨i, H5, I5, st5, n5, w5⟩
    rcases trn i n H5 w5 with ⟨stop, qq⟩ | ⟨go, Nx, hNx, step⟩
    · have td := T.done (X.blk s3 H3 sco ce fp) rfl rfl rfl hc i [] s5 _ H5 (fun _ _ => False) I5 (still I5 n5) st5 stop
      refine thnF td fun r s6 ⟨hr, I6⟩ => ?_
      subst hr
      -- back in the def's context
      have I7 : Inv X pins σ H5 s6 := I3.call' (ch := fp) I6.os I6.base I6.hok I6.bare fun b hb => ⟨(f3 b hb).1.2.2.2.1, (f3 b hb).1.2.1, (f3 b hb).1.2.2.2.2.1, (f3 b hb).1.2.2.2.2.2⟩
      have nC : H5 s3.heap.objs.size = none := by
        have z : H5 ce.locals = none := I6.free
        rw [cL] at z
        exact z
      obtain ⟨m, hn, _⟩ := I6.loc
      have hn : s6.heap.Ns ce.locals m := hn
      rw [cL] at hn
      exact hRR D s3.heap.objs.size s6 m H5 I7 qq hn (I3.fpOk (Nat.le_refl _) nC)
    · have ti := T.item (X.blk s3 H3 sco ce fp) rfl rfl rfl hc i [] s5 _ H5 (fun _ _ => False) I5 (still I5 n5) st5 go
      refine thnF ti fun r s6 ⟨u, hr, h6⟩ => ?_
      subst hr
      refine thnF h6 fun _ s7 ⟨x, H7, I7, r7, y7, st7, n7⟩ => ?_
      have I7' := I7.pinned (still I7 n7) (T.obj _ _ st7)
      refine thnF (qg.run _ s7 _ H7 x u _ I7' r7 (step x H7 y7)) fun _ s8 ⟨σ8, H8, I8, hw8, q8⟩ => ?_
      refine thnF (qt.run _ s8 σ8 H8 _ I8 q8) fun b s9 ⟨H9, I9, q9⟩ => ?_
      -- the turn's end, from any slots that know what the block knew at its start
      have last : ∀ {σ9 : L2.St} {s' : Shared} {H' : Hp}, Inv (X.blk s3 H3 sco ce fp) ([] ++ pinsAt fp s7.heap) σ9 H' s' → (wipe σ (own.map (·.2))).length = σ9.length → (∀ (j : Nat) v, (wipe σ (own.map (·.2)))[j]? = some (some v) → σ9[j]? = some (some v)) → Nx H' →
          ∃ m, m < n ∧ ∃ i H', Inv (X.blk s3 H3 sco ce fp) [] (wipe σ (own.map (·.2))) H' s' ∧ tn i s'.heap ∧ (∀ b ∈ fp, H' b = none) ∧ W i m H' := fun {σ9 s' H'} I' hl hk nx => by
        obtain ⟨m', hm, w'⟩ := hNx H' nx
        have pin' : ∀ b ∈ fp, ∀ o, s7.heap.get? b = some o → s'.heap.get? b = some o ∧ H' b = none := fun b hb o e =>
          let z := I'.pin (b, o) (List.mem_append_right _ (List.mem_append_right _ (mem_pinsAt hb e)))
          ⟨z.1, z.2.1⟩
        refine ⟨m', hm, i + 1, H', (I'.unpinned (pins := [])).weak hl hk, T.keep _ _ _ st7 fun b hb o e => (pin' b hb o e).1, fun b hb => ?_, w'⟩
        obtain ⟨o, e, _⟩ := T.obj _ _ st7 b hb
        exact (pin' b hb o e).2
      have hl8 : (wipe σ (own.map (·.2))).length = σ8.length := by rw [← hw8, wipe_length]
      have hk8 : ∀ (j : Nat) v, (wipe σ (own.map (·.2)))[j]? = some (some v) → σ8[j]? = some (some v) := fun j v e => by
        rw [← hw8] at e
        exact (wipe_some e).1
      have hk9 : ∀ (j : Nat) v, (wipe σ (own.map (·.2)))[j]? = some (some v) → (wipe σ8 vs1)[j]? = some (some v) := fun j v e => by
        rw [← hw8] at e
        obtain ⟨e1, e2⟩ := wipe_some e
        rw [wipe_out fun z => e2 (hv j z)]
        exact e1
      cases b with
      | false =>
        simp only [Bool.false_eq_true, if_false] at q9 ⊢
        exact last I9 hl8 hk8 q9
      | true =>
        simp only [if_true] at q9 ⊢
        obtain ⟨dl, ul, hdl, mul, q9⟩ := q9
        have nfz := I9.nofrz hdl mul
        obtain ⟨odl, I9⟩ := I9.lock hdl mul
        refine thnF (qib.run _ s9 σ8 _ _ I9 (q9 odl)) fun xv s10 hx => thnF hx fun itv s11 h11 => ?_
        obtain ⟨it1, fp1, tn1, J1, H11, e1, I11, T1, st11, f11, W1, ⟨m1, w1⟩, trn1⟩ := h11
        subst e1
        -- the inner loop
        have still1 : ∀ {H' : Hp}, (∀ b ∈ fp1, H' b = none) → ∀ b ∈ fp1, FpOk (X.blk s3 H3 sco ce fp) ([] ++ pinsAt fp s7.heap) H' b := fun hn b hb => ⟨hn b hb, (f11 b hb).2⟩
        have loop1 : codeAny (model X.prog X.w) X.A (.compLoop (.SetComp el [⟨tg, ita, fs, 0⟩, ⟨tgb, itb, fb, 0⟩] sco pos) 1 (.ref it1) (.ref D) ce)
            (fun r s' => match r with
              | .ok _ => ∃ m, m < n ∧ ∃ i H', Inv (X.blk s3 H3 sco ce fp) [] (wipe σ (own.map (·.2))) H' s' ∧ tn i s'.heap ∧ (∀ b ∈ fp, H' b = none) ∧ W i m H'
              | .error _ => False) s11 := by
          refine compLoopS2_in (fun k s' => ∃ j H', Inv (X.blk s3 H3 sco ce fp) ([] ++ pinsAt fp s7.heap) (wipe σ8 vs1) H' s' ∧ tn1 j s'.heap ∧ (∀ b ∈ fp1, H' b = none) ∧ W1 j k H') ?_ m1 ⟨0, H11, I11.weak (wipe_length _ _) (fun j v e => (wipe_some e).1), st11, fun b hb => (f11 b hb).1, w1⟩
          rintro k s12 ⟨j, H12, I12, st12, n12, w12⟩
          rcases trn1 j k H12 w12 with ⟨stop1, lk1, nx1⟩ | ⟨go1, Nx1, hNx1, step1⟩
          · refine thnF (T1.done (X.blk s3 H3 sco ce fp) rfl rfl rfl hc j _ s12 (wipe σ8 vs1) H12 (fun _ _ => False) I12 (still1 n12) st12 stop1) fun r s13 ⟨hr, I13⟩ => ?_
            subst hr
            exact last (I13.unlock lk1 nfz) (hl8.trans (wipe_length σ8 vs1).symm) hk9 nx1
          · refine thnF (T1.item (X.blk s3 H3 sco ce fp) rfl rfl rfl hc j _ s12 (wipe σ8 vs1) H12 (fun _ _ => False) I12 (still1 n12) st12 go1) fun r s13 ⟨u1, hr, h13⟩ => ?_
            subst hr
            refine thnF h13 fun _ s14 ⟨x1, H14, I14, r14, y14, st14, n14⟩ => ?_
            have I14' := I14.pinned (still1 n14) (T1.obj _ _ st14)
            refine thnF (qgb.run _ s14 (wipe σ8 vs1) H14 x1 u1 _ I14' r14 (step1 x1 H14 y14)) fun _ s15 ⟨σ15, H15, I15, hw15, q15⟩ => ?_
            refine thnF (qtb.run _ s15 σ15 H15 _ I15 q15) fun b1 s16 ⟨H16, I16, q16⟩ => ?_
            have last1 : ∀ {s' : Shared} {H' : Hp}, Inv (X.blk s3 H3 sco ce fp) (([] ++ pinsAt fp s7.heap) ++ pinsAt fp1 s14.heap) σ15 H' s' → Nx1 H' → ∃ m, m < k ∧ ∃ j H', Inv (X.blk s3 H3 sco ce fp) ([] ++ pinsAt fp s7.heap) (wipe σ8 vs1) H' s' ∧ tn1 j s'.heap ∧ (∀ b ∈ fp1, H' b = none) ∧ W1 j m H' := fun {s' H'} I' nx => by
              obtain ⟨m', hm, w'⟩ := hNx1 H' nx
              have pin' : ∀ b ∈ fp1, ∀ o, s14.heap.get? b = some o → s'.heap.get? b = some o ∧ H' b = none := fun b hb o e =>
                let z := I'.pin (b, o) (List.mem_append_right _ (List.mem_append_right _ (mem_pinsAt hb e)))
                ⟨z.1, z.2.1⟩
              refine ⟨m', hm, j + 1, H', I'.unpinned.weak (by rw [← hw15, wipe_length]) (fun j v e => by rw [← hw15] at e; exact (wipe_some e).1), T1.keep _ _ _ st14 fun b hb o e => (pin' b hb o e).1, fun b hb => ?_, w'⟩
              obtain ⟨o, e, _⟩ := T1.obj _ _ st14 b hb
              exact (pin' b hb o e).2
            cases b1 with
            | false =>
              simp only [Bool.false_eq_true, if_false] at q16 ⊢
              exact last1 I16 q16
            | true =>
              simp only [if_true] at q16 ⊢
              refine thnF (qe.run _ s16 σ15 H16 _ I16 q16) fun z s17 ⟨yv, H17, I17, r17, k0, T0, n0, ek0, hD17, hz17, nx⟩ => ?_
              subst ek0
              exact addQ_ok (X := X.blk s3 H3 sco ce fp) I17 hD17 r17 hz17 fun s18 I18 => last1 I18 nx
        exact compStartS1_ok loop1 (T1.self X.A 0 _ _ _ st11 loop1)
  exact PpSet.codeAny_compStart_set loop (T.self X.A 0 _ _ _ st4 loop)
/-- as a value -/
theorem pe_sc2 {el tg ita tgb itb : Expr} {fs fb : List Expr} {sco : Scope} {own : List (Str × Nat)} {vs1 : List Nat} {pos : Pos} {wi wib : TI} {g gb : TG} {tt ttb : TT} {te : TE} (hc : X.calm = true) (hN : X.N.Nodup) (hi : PI X tg ita wi) (ok : BlkOk X.N X.env.scope sco own) (hv : ∀ i ∈ vs1, i ∈ own.map (·.2))
    (hg : ∀ (s : Shared) (H : Hp) (C : Addr) (cl : List (Str × Addr)) (fp : List Addr), PG (X.blk s H sco (compEnvC sco cl C X.env) fp) tg g) (ht : ∀ (s : Shared) (H : Hp) (C : Addr) (cl : List (Str × Addr)) (fp : List Addr), PTs (X.blk s H sco (compEnvC sco cl C X.env) fp) fs tt)
    (hi1 : ∀ (s : Shared) (H : Hp) (C : Addr) (cl : List (Str × Addr)) (fp : List Addr), PI (X.blk s H sco (compEnvC sco cl C X.env) fp) tgb itb wib)
    (hg1 : ∀ (s : Shared) (H : Hp) (C : Addr) (cl : List (Str × Addr)) (fp : List Addr), PG (X.blk s H sco (compEnvC sco cl C X.env) fp) tgb gb) (ht1 : ∀ (s : Shared) (H : Hp) (C : Addr) (cl : List (Str × Addr)) (fp : List Addr), PTs (X.blk s H sco (compEnvC sco cl C X.env) fp) fb ttb)
    (he : ∀ (s : Shared) (H : Hp) (C : Addr) (cl : List (Str × Addr)) (fp : List Addr), PE (X.blk s H sco (compEnvC sco cl C X.env) fp) el te) (hs : ∀ x, foldedSetIterable ita X.env x = pure x := by intro _; rfl) (hs1 : ∀ env x, foldedSetIterable itb env x = pure x := by intro _ _; rfl) :
    PE X (.SetComp el [⟨tg, ita, fs, 0⟩, ⟨tgb, itb, fb, 0⟩] sco pos) (tSc2 X.prog X.w wi g tt wib gb ttb te (own.map (·.2)) vs1) := by
  refine ⟨fun pins s σ H Q I h => ?_⟩
  rw [PpSet.eval_SetComp]
  refine sc2_core hc hN I hi ok hv hg ht he hs hi1 hg1 ht1 hs1 h fun D C s' m H' I' q hn f => ⟨m, hn, fun h'' sb => ?_⟩
  obtain ⟨f0, f1, f2, f3, f4, f5⟩ := f
  exact ⟨.ref D, H', I'.turned (t' := s'.toks) (fun b o hb e => (sb.2 b hb).trans e) f0 f1 f3 f4 f5, rfl, q⟩
theorem ps_setSc2 {i : Nat} {y : Str} {py : Pos} {el tg ita tgb itb : Expr} {fs fb : List Expr} {sco : Scope} {own : List (Str × Nat)} {vs1 : List Nat} {pos spos : Pos} {wi wib : TI} {g gb : TG} {tt ttb : TT} {te : TE} (hc : X.calm = true) (hN : X.N.Nodup) (hy : X.N[i]? = some y) (hyl : X.env.scope.names.lookup y = some .local)
    (hsw : swapsWith (.SetComp el [⟨tg, ita, fs, 0⟩, ⟨tgb, itb, fb, 0⟩] sco pos) (some (.Name y py)) spos.line X.env = pure true) (hi : PI X tg ita wi) (ok : BlkOk X.N X.env.scope sco own) (hv : ∀ i ∈ vs1, i ∈ own.map (·.2))
    (hg : ∀ (s : Shared) (H : Hp) (C : Addr) (cl : List (Str × Addr)) (fp : List Addr), PG (X.blk s H sco (compEnvC sco cl C X.env) fp) tg g) (ht : ∀ (s : Shared) (H : Hp) (C : Addr) (cl : List (Str × Addr)) (fp : List Addr), PTs (X.blk s H sco (compEnvC sco cl C X.env) fp) fs tt)
    (hi1 : ∀ (s : Shared) (H : Hp) (C : Addr) (cl : List (Str × Addr)) (fp : List Addr), PI (X.blk s H sco (compEnvC sco cl C X.env) fp) tgb itb wib)
    (hg1 : ∀ (s : Shared) (H : Hp) (C : Addr) (cl : List (Str × Addr)) (fp : List Addr), PG (X.blk s H sco (compEnvC sco cl C X.env) fp) tgb gb) (ht1 : ∀ (s : Shared) (H : Hp) (C : Addr) (cl : List (Str × Addr)) (fp : List Addr), PTs (X.blk s H sco (compEnvC sco cl C X.env) fp) fb ttb)
    (he : ∀ (s : Shared) (H : Hp) (C : Addr) (cl : List (Str × Addr)) (fp : List Addr), PE (X.blk s H sco (compEnvC sco cl C X.env) fp) el te) (hs : ∀ x, foldedSetIterable ita X.env x = pure x := by intro _; rfl) (hs1 : ∀ env x, foldedSetIterable itb env x = pure x := by intro _ _; rfl) :
    PS X (.Assign [.Name y py] (.SetComp el [⟨tg, ita, fs, 0⟩, ⟨tgb, itb, fb, 0⟩] sco pos) spos) (tAsg (tSc2 X.prog X.w wi g tt wib gb ttb te (own.map (·.2)) vs1) (gName i)) := by
  refine ⟨fun pins s σ H D I h => ?_⟩
  rw [exec_Assign_Name_used _ _ _ _ hsw]
  refine wpAny_bind (wpAny_standAt (wpAny_bind ?_))
  show wpAny _ X.A (do let _ ← comprehension (.SetComp el [⟨tg, ita, fs, 0⟩, ⟨tgb, itb, fb, 0⟩] sco pos) sco X.env (firstIterPos [⟨tg, ita, fs, 0⟩, ⟨tgb, itb, fb, 0⟩] pos) (newSet (.type "set")) false (eval ita X.env) (some (assign (.Name y py) X.env))) _ _ s
  have h : tSc2 X.prog X.w wi g tt wib gb ttb te (own.map (·.2)) vs1 σ H (fun x H1 => gName i x σ H1 D.nx) := h
  refine wpAny_bind (thn (sc2_core (Qf := fun _ s' => SP X pins D .next s') hc hN I hi ok hv hg ht he hs hi1 hg1 ht1 hs1 h fun L C s' m H' I' q hn f => ?_) fun _ s' hq => wpAny_pure (wpAny_pure hq))
  show wpAny _ _ (assign (.Name y py) X.env (.ref L)) _ _ _
  refine wpAny_assign_Name (store_ok2 (v := V.ref L) I' hN hy (.inl hyl) rfl (fun s2 I2 ⟨a, sb, ha⟩ => ?_) (.inr hyl))
  obtain ⟨f0, f1, f2, f3, f4, f5⟩ := f
  have haC : C ≠ a := by
    rcases ha with z | z
    · rw [z]; exact f1
    · exact fun e => f4 y a z e.symm
  refine ⟨m, hn.sameBut sb haC, fun h3 sb3 => ?_⟩
  exact ⟨_, H', I2.turned (t' := s2.toks) (fun b o hb e => (sb3.2 b hb).trans e) f0 f1 f3 f4 f5, q⟩

end
/-! ### {k for d in ds for k in d}: ds a list of dicts -/
def kSc2 (P : Program) (w : World) (J : It) (g : TG) (tt : TT) (wi1 : TI) (g1 : TG) (tt1 : TT) (te : TE) (vs vs1 : List Nat) (σ : L2.St) (H1 : Hp) (Q : VK) : Prop := ∀ D, H1 D = none → ∃ W : Nat → Nat → Hp → Prop, (∃ m, W 0 m (upd H1 D (SetQ P w D (fun _ => false) 0))) ∧ ∀ i m H, W i m H →
  (J.stop i H ∧ Q (.ref D) H) ∨ (J.go i H ∧ ∃ Nx : Hp → Prop, (∀ H', Nx H' → ∃ m', m' < m ∧ W (i + 1) m' H') ∧ ∀ x H', J.yld i H x H' → g x (wipe σ vs) H' fun σ2 H2 => wipe σ2 vs = wipe σ vs ∧ tt σ2 H2 fun b H3 =>
    if b = true then ∃ (d : Addr) (u : HO), H3 d = some u ∧ Mut (some u) ∧ ∀ od, wi1 σ2 (upd H3 d (.frz od u)) fun J1 H4 => ∃ W1 : Nat → Nat → Hp → Prop, (∃ m, W1 0 m H4) ∧ ∀ j k H, W1 j k H →
      (J1.stop j H ∧ H d = some (.frz od u) ∧ Nx (upd H d u)) ∨ (J1.go j H ∧ ∃ Nx1 : Hp → Prop, (∀ H', Nx1 H' → ∃ k', k' < k ∧ W1 (j + 1) k' H') ∧ ∀ x H', J1.yld j H x H' → g1 x (wipe σ2 vs1) H' fun σ3 H5 => wipe σ3 vs1 = wipe σ2 vs1 ∧ tt1 σ3 H5 fun b H6 =>
        if b = true then te σ3 H6 fun y H7 => ∃ (k : Key) (T : Key → Bool) (n : Nat), y = kV k ∧ H7 D = some (SetQ P w D T n) ∧ n + 1 < scanBound ∧ Nx1 (upd H7 D (SetQ P w D (fun k' => T k' || decide (k' = k)) (if T k = true then n else n + 1))) else Nx1 H6)
    else Nx H3)
def kSc2L (K : PySem.W.Frag) (P : Program) (w : World) (g : TG) (tt : TT) (wi1 : TI) (g1 : TG) (tt1 : TT) (te : TE) (vs vs1 : List Nat) (σ : L2.St) (x : V) (H1 : Hp) (Q : VK) : Prop := ∃ a, x = .ref a ∧ (∃ xs, SqL K H1 a xs) ∧ kSc2 P w (Itl K a) g tt wi1 g1 tt1 te vs vs1 σ H1 Q
theorem g_sc2 {K : PySem.W.Frag} {P : Program} {w : World} {g : TG} {tt : TT} {wi1 : TI} {g1 : TG} {tt1 : TT} {tl te : TE} {vs vs1 : List Nat} {σ : L2.St} {H : Hp} {Q : VK} (q : tl σ H fun x H1 => kSc2L K P w g tt wi1 g1 tt1 te vs vs1 σ x H1 Q) : tSc2 P w (iList K tl) g tt wi1 g1 tt1 te vs vs1 σ H Q := q
/-- the number of entries of the dicts -/
def sumL (kv : Addr → List (Key × V)) : List Addr → Nat
  | [] => 0
  | d :: ds => (kv d).length + sumL kv ds
theorem sumL_app (kv : Addr → List (Key × V)) : ∀ xs ys : List Addr, sumL kv (xs ++ ys) = sumL kv xs + sumL kv ys
  | [], ys => (Nat.zero_add _).symm
  | x :: xs, ys => by
    show (kv x).length + sumL kv (xs ++ ys) = (kv x).length + sumL kv xs + sumL kv ys
    rw [sumL_app kv xs ys]
    omega
theorem sumL_take (kv : Addr → List (Key × V)) (xs : List Addr) (i : Nat) : sumL kv (xs.take i) ≤ sumL kv xs := by
  have := sumL_app kv (xs.take i) (xs.drop i)
  rw [List.take_append_drop] at this
  omega
theorem setQ_frz {P : Program} {w : World} {D : Addr} {T : Key → Bool} {n : Nat} {u : HO} (h : ∀ h', u ≠ .ext h') : SetQ P w D T n ≠ u := fun e => h _ e.symm
theorem k_keysOf {K : PySem.W.Frag} {P : Program} {w : World} {i j : Nat} {σ : L2.St} {F H1 : Hp} {O : Own} {Q : VK} {a : Addr} {ds : List Addr} (hH : Has F O H1) (ha : F a = some (.lst (ds.map V.ref)) ∨ (a, .lst (ds.map V.ref)) ∈ O) (kv : Addr → List (Key × V)) (hd : ∀ d ∈ ds, F d = some (.dK (kv d)))
    (hl : sumL kv ds ≤ 1000) (hi : i < σ.length) (hj : j < σ.length) (ne : i ≠ j)
    (q : ∀ D H' T n, H1 D = none → (∀ k, T k = true ↔ ∃ d ∈ ds, ∃ v, (k, v) ∈ kv d) → n ≤ sumL kv ds → Has F ((D, SetQ P w D T n) :: O) H' → Q (.ref D) H') :
    kSc2L K P w (gName i) tYes (iKeys (tVar i)) (gName j) tYes (tVar j) [i, j] [j] σ (.ref a) H1 Q := by
  have la : ∀ {H' : Hp} {D : Addr} {o : HO}, Has F ((D, o) :: O) H' → H' a = some (.lst (ds.map V.ref)) := fun {H' D o} h => by
    rcases ha with h' | h'
    · exact h.same _ _ h'
    · exact h.get (List.mem_cons_of_mem _ h')
  have la1 : H1 a = some (.lst (ds.map V.ref)) := by
    rcases ha with h' | h'
    · exact hH.same _ _ h'
    · exact hH.get h'
  refine ⟨a, rfl, ⟨_, SqL.of la1⟩, fun D nD => ?_⟩
  refine ⟨fun t m H => m = ds.length - t ∧ t ≤ ds.length ∧ ∃ T n, Has F ((D, SetQ P w D T n) :: O) H ∧ (∀ k, T k = true ↔ ∃ d ∈ ds.take t, ∃ v, (k, v) ∈ kv d) ∧ n ≤ sumL kv (ds.take t),
    ⟨_, rfl, Nat.zero_le _, _, _, hH.new nD, fun k => by simp, Nat.le_refl _⟩, ?_⟩
  rintro t m H ⟨rfl, ht, T, n, hh, hT, hn⟩
  by_cases hlt : t < ds.length
  · have ed : ds[t]? = some ds[t] := List.getElem?_eq_getElem hlt
    generalize ds[t] = d at ed
    have dm := List.mem_of_getElem? ed
    have ex : (ds.map V.ref)[t]? = some (.ref d) := by rw [List.getElem?_map, ed]; rfl
    have tk : ds.take (t + 1) = ds.take t ++ [d] := by rw [List.take_add_one, ed]; rfl
    refine .inr ⟨⟨_, _, SqL.of (la hh), ex⟩, fun H' => ∃ T n, Has F ((D, SetQ P w D T n) :: O) H' ∧ (∀ k, T k = true ↔ ∃ d ∈ ds.take (t + 1), ∃ v, (k, v) ∈ kv d) ∧ n ≤ sumL kv (ds.take (t + 1)), fun H' z => ⟨ds.length - (t + 1), by omega, rfl, hlt, z⟩, ?_⟩
    rintro x H' ⟨rfl, y⟩
    have exx := (y _ (SqL.of (la hh))).symm.trans ex
    injection exx with exx
    subst exx
    have w2 : wipe ((wipe σ [i, j]).set i (some (V.ref d))) [i, j] = wipe σ [i, j] := by
      dsimp only [wipe]
      apply List.ext_getElem?
      intro z
      simp only [List.getElem?_set]
      split <;> split <;> simp_all
    refine ⟨w2, ?_⟩
    refine g_yes (iteT ?_)
    have fd := hd d dm
    have hld := hh.same _ _ fd
    refine ⟨d, _, hld, trivial, fun od => ?_⟩
    have hL := hh.lock (od := od) fd
    have gi : ((wipe σ [i, j]).set i (some (V.ref d)))[i]? = some (some (V.ref d)) := by
      dsimp only [wipe]
      simp [hi]
    refine ⟨.ref d, gi, d, od, rfl, .inl ⟨_, upd_same, ?_⟩⟩
    have lkv : sumL kv (ds.take t) + (kv d).length ≤ 1000 := by
      have h1 := sumL_take kv ds (t + 1)
      rw [tk, sumL_app] at h1
      have h2 : sumL kv [d] = (kv d).length := Nat.add_zero _
      omega
    refine ⟨fun u k H => k = (kv d).length - u ∧ u ≤ (kv d).length ∧ ∃ T n, Has (upd F d (.frz od (.dK (kv d)))) ((D, SetQ P w D T n) :: O) H ∧ (∀ k, T k = true ↔ (∃ d ∈ ds.take t, ∃ v, (k, v) ∈ kv d) ∨ ∃ v, (k, v) ∈ (kv d).take u) ∧ n ≤ sumL kv (ds.take t) + u,
      ⟨_, rfl, Nat.zero_le _, T, n, hL, fun k => by rw [hT k]; simp, by omega⟩, ?_⟩
    rintro u k H ⟨rfl, hu, T, n, hh, hT, hn⟩
    have hfz : H d = some (.frz od (.dK (kv d))) := hh.same _ _ upd_same
    by_cases hul : u < (kv d).length
    · have ep : (kv d)[u]? = some (kv d)[u] := List.getElem?_eq_getElem hul
      generalize (kv d)[u] = p at ep
      have tk2 : (kv d).take (u + 1) = (kv d).take u ++ [p] := by rw [List.take_add_one, ep]; rfl
      refine .inr ⟨⟨hfz, hul⟩, fun H' => ∃ T n, Has (upd F d (.frz od (.dK (kv d)))) ((D, SetQ P w D T n) :: O) H' ∧ (∀ k, T k = true ↔ (∃ d ∈ ds.take t, ∃ v, (k, v) ∈ kv d) ∨ ∃ v, (k, v) ∈ (kv d).take (u + 1)) ∧ n ≤ sumL kv (ds.take t) + (u + 1), fun H' z => ⟨(kv d).length - (u + 1), by omega, rfl, hul, z⟩, ?_⟩
      rintro x H' ⟨rfl, k0, v0, ek, rfl⟩
      rw [ep] at ek
      injection ek with ek
      subst ek
      have w3 : wipe ((wipe ((wipe σ [i, j]).set i (some (V.ref d))) [j]).set j (some (kV k0))) [j] = wipe ((wipe σ [i, j]).set i (some (V.ref d))) [j] := by
        dsimp only [wipe]
        rw [List.set_set]
        rw [List.set_set]
      refine ⟨w3, ?_⟩
      refine g_yes (iteT ?_)
      have gj : ((wipe ((wipe σ [i, j]).set i (some (V.ref d))) [j]).set j (some (kV k0)))[j]? = some (some (kV k0)) := by
        dsimp only [wipe]
        simp [hj]
      refine ⟨_, gj, k0, T, n, rfl, hh.get (List.Mem.head _), by unfold scanBound; omega, _, _, hh.put .hd, fun k' => ?_, ?_⟩
      · rw [Bool.or_eq_true, hT k', decide_eq_true_eq, tk2]
        constructor
        · rintro ((h | ⟨v, h⟩) | h)
          · exact .inl h
          · exact .inr ⟨v, List.mem_append_left _ h⟩
          · subst h
            exact .inr ⟨v0, List.mem_append_right _ (List.mem_singleton.mpr rfl)⟩
        · rintro (h | ⟨v, h⟩)
          · exact .inl (.inl h)
          · rcases List.mem_append.mp h with h | h
            · exact .inl (.inr ⟨v, h⟩)
            · have := List.mem_singleton.mp h
              injection this with e1 e2
              exact .inr e1
      · split <;> omega
    · have e : u = (kv d).length := by omega
      subst e
      refine .inl ⟨⟨hfz, Nat.le_refl _⟩, hfz, ?_⟩
      have hU := hh.unlock (od := od) (u := .dK (kv d)) upd_same
      have eF : upd (upd F d (.frz od (.dK (kv d)))) d (.dK (kv d)) = F := by
        funext b
        by_cases e : b = d
        · subst e
          rw [upd_same, fd]
        · rw [upd_ne e, upd_ne e]
      rw [eF] at hU
      refine ⟨T, n, hU, fun k => ?_, ?_⟩
      · rw [hT k, List.take_length, tk]
        constructor
        · rintro (⟨d', hd', v, h⟩ | ⟨v, h⟩)
          · exact ⟨d', List.mem_append_left _ hd', v, h⟩
          · exact ⟨d, List.mem_append_right _ (List.mem_singleton.mpr rfl), v, h⟩
        · rintro ⟨d', hd', v, h⟩
          rcases List.mem_append.mp hd' with hd' | hd'
          · exact .inl ⟨d', hd', v, h⟩
          · rw [List.mem_singleton.mp hd'] at h
            exact .inr ⟨v, h⟩
      · rw [tk, sumL_app]
        show n ≤ sumL kv (ds.take t) + ((kv d).length + 0)
        omega
  · have e : t = ds.length := by omega
    subst e
    rw [List.take_length] at hT hn
    refine .inl ⟨⟨_, SqL.of (la hh), by rw [List.length_map]; exact Nat.le_refl _⟩, q D H T n nD hT hn hh⟩
section
variable {X : Cx} {ex : Expr} {st : Stmt} {wi wi1 : TI} {g g1 : TG} {tt tt1 : TT} {te : TE} {vs vs1 : List Nat} {i : Nat}
theorem k_sc2 (P : Program) (w : World) (h : PE X ex (tSc2 X.prog X.w wi g tt wi1 g1 tt1 te vs vs1)) (eP : X.prog = P := by rfl) (ew : X.w = w := by rfl) : PE X ex (tSc2 P w wi g tt wi1 g1 tt1 te vs vs1) := by
  subst eP
  subst ew
  exact h
theorem k_sc2S (P : Program) (w : World) (h : PS X st (tAsg (tSc2 X.prog X.w wi g tt wi1 g1 tt1 te vs vs1) (gName i))) (eP : X.prog = P := by rfl) (ew : X.w = w := by rfl) : PS X st (tAsg (tSc2 P w wi g tt wi1 g1 tt1 te vs vs1) (gName i)) := by
  subst eP
  subst ew
  exact h
end
section
variable {elt kx vx : Expr} {gs : List Comprehension} {sco : Scope} {pos py : Pos} {y : Str} {l : Nat} {env : Env}
theorem sw_trueS (hk : env.scope.kind = .function) (hy : env.scope.names.lookup y = some .local) (hl : (py.line == pos.line) = true) (ha : (sco.names.any fun (n, k) => n == y && (k == .local || k == .cell)) = false) : swapsWith (.SetComp elt gs sco pos) (some (.Name y py)) l env = pure true := by
  have ky : env.kindOf y = some .local := hy
  have hb : env.blockKind = .function := by
    unfold Env.blockKind
    rw [hk]
    rfl
  unfold swapsWith
  simp only [hb, ky, ha, Expr.pos, hl]
  rfl
theorem sw_trueD (hk : env.scope.kind = .function) (hy : env.scope.names.lookup y = some .local) (hl : (py.line == pos.line) = true) (ha : (sco.names.any fun (n, k) => n == y && (k == .local || k == .cell)) = false) : swapsWith (.DictComp kx vx gs sco pos) (some (.Name y py)) l env = pure true := by
  have ky : env.kindOf y = some .local := hy
  have hb : env.blockKind = .function := by
    unfold Env.blockKind
    rw [hk]
    rfl
  unfold swapsWith
  simp only [hb, ky, ha, Expr.pos, hl]
  rfl
end
end Qk

/-! Qtr: dicts of lists: list(d), list(d.items()), d.get(k), dict comprehensions -/
namespace Qk
open PySem PySem.Spec PyProof.Rows L2
/-! ### list(d) -/
def rListD : List V → Hp → VK → Prop := fun xs H Q => ∃ (a : Addr) (kvs : List (Key × V)), xs = [.ref a] ∧ Rd H a (.dK kvs) ∧ ∀ p, H p = none → Q (.ref p) (upd H p (.lst (kvs.map fun kv => kV kv.1)))
theorem cr_listD {X : Cx} (hc : X.calm = true) : CallR X (.type "list") rListD := call_listD hc
section
variable {K : PySem.W.Frag} {σ : L2.St} {F : Hp} {O O' : Own} {H : Hp} {Q : VK} {te ta tb : TE} {x y v : V}
theorem g_listD {a : Addr} {kvs : List (Key × V)} (h : H a = some (.dK kvs)) (hH : Has F O H) (q : ∀ p H', H p = none → Has F ((p, .lst (kvs.map fun kv => kV kv.1)) :: O) H' → Q (.ref p) H') : rListD [.ref a] H Q :=
  ⟨a, kvs, rfl, .inl h, fun p n => q p _ n (hH.new n)⟩
/-! ### d.get(k) -/
def kGet1 (ty : TE) (σ : L2.St) (x : V) (H : Hp) (Q : VK) : Prop := ∃ a, x = .ref a ∧ IsD H a ∧ ty σ H fun y H2 => ∃ o, DGet H2 a y o ∧ Q (o.getD .non) H2
theorem g_get1 (q : ta σ H fun x H1 => kGet1 tb σ x H1 Q) : tDGet1 ta tb σ H Q := q
theorem g_kget1 {a : Addr} {kvs : List (Key × V)} (h : H a = some (.dK kvs)) (q : tb σ H fun y H2 => kGot a y .non H2 Q) : kGet1 tb σ (.ref a) H Q := ⟨a, rfl, .inl ⟨kvs, .inl h⟩, q⟩
/-! ### list(d.items()) -/
theorem g_listItems (q : te σ H fun x H1 => LiI.rItemsL x H1 Q) : LiI.tListItems te σ H Q := q
theorem g_items {d : Addr} {kvs : List (Key × V)} (h : H d = some (.dK kvs)) (q : ∀ p H' ts, Same H H' → H p = none → H' p = some (.lst (ts.map V.ref)) → Paired (fun (t : Addr) (q : Key × V) => H' t = some (.tup [kV q.1, q.2])) ts kvs → Q (.ref p) H') : LiI.rItemsL (.ref d) H Q :=
  ⟨d, kvs, rfl, h, fun H' p ts s n _ _ e pd => q p H' ts s n e pd⟩
end
end Qk

/-! Qtm: texts that may lack, trees as dicts of lists -/
namespace Qk
open PySem PySem.Spec PyProof.Rows L2
abbrev Tx := List Str
def txD (t : Tx) : PyData := .list (t.map PyData.str)
def oxD : Option Tx → PyData
  | none => .none
  | some t => txD t
def okX (t : Tx) : Prop := ∀ z ∈ t, PyData.strOk z = true
def okO (o : Option Tx) : Prop := ∀ t, o = some t → okX t
theorem eqv_oxD : ∀ a b : Option Tx, PyData.eqv (oxD a) (oxD b) = decide (a = b)
  | none, none => by rw [oxD, PyData.eqv]; rfl
  | none, some t => by rw [oxD, oxD, txD, PyData.eqv]; rfl
  | some t, none => by rw [oxD, oxD, txD, PyData.eqv]; rfl
  | some s, some t => by
    rw [oxD, oxD, txD, txD, eqv_strs]
    rw [Bool.eq_iff_iff, decide_eq_true_eq, decide_eq_true_eq]
    exact ⟨fun h => by rw [h], fun h => Option.some.inj h⟩
theorem eqvAll_oxD : ∀ xs ys : List (Option Tx), PyData.eqvAll (xs.map oxD) (ys.map oxD) = decide (xs = ys)
  | [], [] => by rw [List.map_nil, PyData.eqvAll]; rfl
  | [], y :: ys => by rw [List.map_nil, List.map_cons, PyData.eqvAll]; rfl
  | x :: xs, [] => by rw [List.map_nil, List.map_cons, PyData.eqvAll]; rfl
  | x :: xs, y :: ys => by
    rw [List.map_cons, List.map_cons, PyData.eqvAll, eqv_oxD, eqvAll_oxD xs ys]
    by_cases e : x = y
    · subst e
      simp
    · simp [e]
theorem eqv_oxL (xs ys : List (Option Tx)) : PyData.eqv (.list (xs.map oxD)) (.list (ys.map oxD)) = decide (xs = ys) := by rw [PyData.eqv, eqvAll_oxD]
theorem any_oxD (xs : List (Option Tx)) (x : Option Tx) : ((xs.map oxD).any fun z => PyData.eqv z (oxD x)) = decide (x ∈ xs) := by
  rw [List.any_map, Bool.eq_iff_iff, List.any_eq_true, decide_eq_true_eq]
  constructor
  · rintro ⟨y, hy, e⟩
    have e : PyData.eqv (oxD y) (oxD x) = true := e
    rw [eqv_oxD] at e
    rw [← of_decide_eq_true e]
    exact hy
  · intro h
    refine ⟨x, h, ?_⟩
    show PyData.eqv (oxD x) (oxD x) = true
    rw [eqv_oxD]
    exact decide_eq_true rfl
theorem sh_oxD {o : Option Tx} (h : okO o) : Sh 1 (oxD o) := by
  cases o with
  | none => exact Sh.non
  | some t => exact Sh.strs (h t rfl)
theorem shL_oxD {xs : List (Option Tx)} (h : ∀ o ∈ xs, okO o) : Sh 2 (.list (xs.map oxD)) := Sh.list fun d hd => by
  obtain ⟨o, ho, rfl⟩ := List.mem_map.mp hd
  exact sh_oxD (h o ho)
theorem okO_some {t : Tx} (h : okX t) : okO (some t) := fun _ e => by
  injection e with e
  rw [← e]
  exact h
theorem okO_none : okO none := fun _ e => by cases e
/-! ### the chosen one -/
def oth (base : Option Tx) (vs : List (Option Tx)) : List (Option Tx) := vs.foldl (fun acc v => if v = base then acc else if v ∈ acc then acc else acc ++ [v]) []
def cho (base : Option Tx) (vs : List (Option Tx)) : Option Tx := if (oth base vs).length = 1 then (oth base vs).headD base else base
theorem oth_step {base : Option Tx} {vs : List (Option Tx)} {i : Nat} {v : Option Tx} (h : vs[i]? = some v) : oth base (vs.take (i + 1)) = if v = base then oth base (vs.take i) else if v ∈ oth base (vs.take i) then oth base (vs.take i) else oth base (vs.take i) ++ [v] := take_foldl h
theorem oth_inv (base : Option Tx) : ∀ (vs acc : List (Option Tx)), acc.Nodup → (vs.foldl (fun acc v => if v = base then acc else if v ∈ acc then acc else acc ++ [v]) acc).Nodup ∧ ∀ v, v ∈ vs.foldl (fun acc v => if v = base then acc else if v ∈ acc then acc else acc ++ [v]) acc ↔ v ∈ acc ∨ (v ∈ vs ∧ v ≠ base)
  | [], acc, n => ⟨n, fun v => by simp⟩
  | x :: vs, acc, n => by
    rw [List.foldl_cons]
    by_cases e : x = base
    · rw [if_pos e]
      obtain ⟨h1, h2⟩ := oth_inv base vs acc n
      refine ⟨h1, fun v => ?_⟩
      rw [h2, List.mem_cons]
      refine or_congr Iff.rfl ⟨fun h => ⟨.inr h.1, h.2⟩, fun h => ?_⟩
      rcases h.1 with h' | h'
      · exact (h.2 (h'.trans e)).elim
      · exact ⟨h', h.2⟩
    · rw [if_neg e]
      by_cases m : x ∈ acc
      · rw [if_pos m]
        obtain ⟨h1, h2⟩ := oth_inv base vs acc n
        refine ⟨h1, fun v => ?_⟩
        rw [h2, List.mem_cons]
        constructor
        · rintro (h | h)
          · exact .inl h
          · exact .inr ⟨.inr h.1, h.2⟩
        · rintro (h | ⟨h | h, k⟩)
          · exact .inl h
          · exact .inl (h ▸ m)
          · exact .inr ⟨h, k⟩
      · rw [if_neg m]
        have n' : (acc ++ [x]).Nodup := by
          rw [List.nodup_append]
          refine ⟨n, by simp, fun a ha b hb e => m ?_⟩
          rw [List.mem_singleton.mp hb] at e
          exact e ▸ ha
        obtain ⟨h1, h2⟩ := oth_inv base vs (acc ++ [x]) n'
        refine ⟨h1, fun v => ?_⟩
        rw [h2, List.mem_append, List.mem_singleton, List.mem_cons]
        constructor
        · rintro ((h | h) | h)
          · exact .inl h
          · subst h
            exact .inr ⟨.inl rfl, e⟩
          · exact .inr ⟨.inr h.1, h.2⟩
        · rintro (h | ⟨h | h, k⟩)
          · exact .inl (.inl h)
          · exact .inl (.inr h)
          · exact .inr ⟨h, k⟩
theorem oth_nd (base : Option Tx) (vs : List (Option Tx)) : (oth base vs).Nodup := (oth_inv base vs [] .nil).1
theorem oth_mem {base : Option Tx} {vs : List (Option Tx)} {v : Option Tx} : v ∈ oth base vs ↔ v ∈ vs ∧ v ≠ base := by
  have := (oth_inv base vs [] .nil).2 v
  rw [show oth base vs = vs.foldl (fun acc v => if v = base then acc else if v ∈ acc then acc else acc ++ [v]) [] from rfl, this]
  simp
theorem oth_len (base : Option Tx) (vs : List (Option Tx)) : (oth base vs).length ≤ vs.length := by
  have : ∀ (ws acc : List (Option Tx)), (ws.foldl (fun acc v => if v = base then acc else if v ∈ acc then acc else acc ++ [v]) acc).length ≤ acc.length + ws.length := by
    intro ws
    induction ws with
    | nil => intro acc; exact Nat.le_refl _
    | cons x ws ih =>
      intro acc
      rw [List.foldl_cons, List.length_cons]
      split
      · have := ih acc; omega
      · split
        · have := ih acc; omega
        · have := ih (acc ++ [x])
          rw [List.length_append, List.length_singleton] at this
          omega
  have h := this vs []
  rw [List.length_nil, Nat.zero_add] at h
  exact h
theorem cho_congr {base : Option Tx} {vs ws : List (Option Tx)} (h : ∀ v, v ≠ base → (v ∈ vs ↔ v ∈ ws)) : cho base vs = cho base ws := by
  have m : ∀ v, v ∈ oth base vs ↔ v ∈ oth base ws := fun v => by
    rw [oth_mem, oth_mem]
    exact ⟨fun k => ⟨(h v k.2).mp k.1, k.2⟩, fun k => ⟨(h v k.2).mpr k.1, k.2⟩⟩
  have pm : (oth base vs).Perm (oth base ws) := (List.perm_ext_iff_of_nodup (oth_nd _ _) (oth_nd _ _)).mpr m
  have l := pm.length_eq
  unfold cho
  rw [l]
  by_cases e : (oth base ws).length = 1
  · rw [if_pos e, if_pos e]
    obtain ⟨a, ea⟩ := List.length_eq_one_iff.mp e
    obtain ⟨b, eb⟩ := List.length_eq_one_iff.mp (l.trans e)
    rw [ea, eb] at pm ⊢
    rw [List.perm_singleton.mp pm]
  · rw [if_neg e, if_neg e]
theorem cho_nil (base : Option Tx) : cho base [] = base := rfl
theorem cho_mem {base : Option Tx} {vs : List (Option Tx)} : cho base vs = base ∨ cho base vs ∈ vs := by
  unfold cho
  by_cases e : (oth base vs).length = 1
  · rw [if_pos e]
    obtain ⟨a, ea⟩ := List.length_eq_one_iff.mp e
    have : a ∈ oth base vs := by rw [ea]; exact List.mem_singleton.mpr rfl
    rw [ea]
    exact .inr (oth_mem.mp this).1
  · rw [if_neg e]
    exact .inl rfl
/-- none, or a new list -/
def Fr (H H' : Hp) (v : V) (o : Option Tx) : Prop := (v = .non ∧ o = none) ∨ ∃ p t, v = .ref p ∧ o = some t ∧ H p = none ∧ H' p = some (.lst (t.map V.str))
theorem Dq.non_inv {H : Hp} {v : V} (h : Dq H v .none) : v = .non := by
  cases h
  rfl
/-! ### trees -/
abbrev Tr := List (Str × Tx)
def kS (z : Str) : Key := Sum.inr z
def getT : Tr → Str → Option Tx
  | [], _ => none
  | p :: r, z => if p.1 = z then some p.2 else getT r z
theorem getT_mem : ∀ {A : Tr} {z : Str} {t : Tx}, getT A z = some t → (z, t) ∈ A
  | [], _, _, h => by cases h
  | p :: r, z, t, h => by
    unfold getT at h
    by_cases e : p.1 = z
    · rw [if_pos e] at h
      injection h with h
      subst e
      subst h
      exact List.mem_cons_self
    · rw [if_neg e] at h
      exact List.mem_cons_of_mem _ (getT_mem h)
theorem getT_of : ∀ {A : Tr} {z : Str} {t : Tx}, (A.map (·.1)).Nodup → (z, t) ∈ A → getT A z = some t
  | [], _, _, _, h => by cases h
  | p :: r, z, t, n, h => by
    rw [List.map_cons] at n
    have n' := List.nodup_cons.mp n
    unfold getT
    rcases List.mem_cons.mp h with e | m
    · subst e
      rw [if_pos rfl]
    · rw [if_neg (fun e => n'.1 ?_)]
      · exact getT_of n'.2 m
      · rw [e]
        exact List.mem_map.mpr ⟨_, m, rfl⟩
theorem getT_none : ∀ {A : Tr} {z : Str}, getT A z = none ↔ z ∉ A.map (·.1)
  | [], _ => by simp [getT]
  | p :: r, z => by
    unfold getT
    rw [List.map_cons, List.mem_cons]
    by_cases e : p.1 = z
    · rw [if_pos e]
      simp [e]
    · rw [if_neg e, getT_none]
      constructor
      · rintro h (k | k)
        · exact e k.symm
        · exact h k
      · exact fun h k => h (.inr k)
/-- a dict of lists, locked or not -/
def RT (H : Hp) (d : Addr) (A : Tr) : Prop := ∃ kvs : List (Key × V), Rd H d (.dK kvs) ∧ kvs.map (·.1) = A.map (fun p => kS p.1) ∧ (A.map (·.1)).Nodup ∧ DqAll H (kvs.map (·.2)) (A.map fun p => txD p.2)
def TrAt (H : Hp) (d : Addr) (A : Tr) : Prop := ∃ kvs : List (Key × V), H d = some (.dK kvs) ∧ kvs.map (·.1) = A.map (fun p => kS p.1) ∧ (A.map (·.1)).Nodup ∧ DqAll H (kvs.map (·.2)) (A.map fun p => txD p.2)
theorem TrAt.rt {H : Hp} {d : Addr} {A : Tr} (h : TrAt H d A) : RT H d A := by
  obtain ⟨kvs, e, r⟩ := h
  exact ⟨kvs, .inl e, r⟩
theorem TrAt.up {H H' : Hp} {d : Addr} {A : Tr} (h : TrAt H d A) (s : Same H H') : TrAt H' d A := by
  obtain ⟨kvs, e, k, n, q⟩ := h
  exact ⟨kvs, s _ _ e, k, n, q.up s _ _⟩
theorem RT.up {H H' : Hp} {d : Addr} {A : Tr} (h : RT H d A) (s : Same H H') : RT H' d A := by
  obtain ⟨kvs, e, k, n, q⟩ := h
  refine ⟨kvs, ?_, k, n, q.up s _ _⟩
  rcases e with e | ⟨o, e⟩
  · exact .inl (s _ _ e)
  · exact .inr ⟨o, s _ _ e⟩
theorem RT.lock {H : Hp} {d e : Addr} {od : Obj} {ks : List (Key × V)} {A : Tr} (he : H e = some (.dK ks)) (h : RT H d A) : RT (upd H e (.frz od (.dK ks))) d A := by
  obtain ⟨kvs, r, k, n, q⟩ := h
  refine ⟨kvs, ?_, k, n, q.lockK he⟩
  by_cases c : d = e
  · subst c
    rcases r with r | ⟨o, r⟩
    · rw [he] at r
      injection r with r
      injection r with r
      subst r
      exact .inr ⟨od, upd_same⟩
    · rw [he] at r
      cases r
  · rcases r with r | ⟨o, r⟩
    · exact .inl (by rw [upd_ne c]; exact r)
    · exact .inr ⟨o, by rw [upd_ne c]; exact r⟩
theorem tr_get {H : Hp} : ∀ {kvs : List (Key × V)} {A : Tr} (z : Str), kvs.map (·.1) = A.map (fun p => kS p.1) → DqAll H (kvs.map (·.2)) (A.map fun p => txD p.2) → Dq H ((valV kvs (.inr z)).getD .non) (oxD (getT A z)) ∧ (valV kvs (.inr z)).isSome = (getT A z).isSome
  | [], [], z, _, _ => ⟨.non, rfl⟩
  | [], _ :: _, _, e, _ => by cases e
  | _ :: _, [], _, e, _ => by cases e
  | kv :: kvs, p :: A, z, e, q => by
    rw [List.map_cons, List.map_cons] at e
    injection e with e1 e2
    rw [List.map_cons, List.map_cons] at q
    cases q with
    | cons q1 q2 =>
    unfold getT
    by_cases c : p.1 = z
    · rw [if_pos c, valV_pos (by rw [e1, c]; rfl)]
      exact ⟨q1, rfl⟩
    · rw [if_neg c, valV_neg (fun h => c (by rw [e1] at h; exact Sum.inr.inj h))]
      exact tr_get z e2 q2
theorem tr_at {H : Hp} {kvs : List (Key × V)} {A : Tr} {z : Str} {t : Tx} (k : kvs.map (·.1) = A.map (fun p => kS p.1)) (q : DqAll H (kvs.map (·.2)) (A.map fun p => txD p.2)) (e : getT A z = some t) : ∃ l, valV kvs (.inr z) = some (.ref l) ∧ H l = some (.lst (t.map V.str)) := by
  obtain ⟨h1, h2⟩ := tr_get z k q
  rw [e] at h1 h2
  cases c : valV kvs (.inr z) with
  | none => rw [c] at h2; cases h2
  | some v =>
    rw [c] at h1
    obtain ⟨l, rfl, hl⟩ := Dq.of_strs (xs := t) h1
    exact ⟨l, rfl, hl⟩
theorem tr_len {kvs : List (Key × V)} {A : Tr} (k : kvs.map (·.1) = A.map (fun p => kS p.1)) : kvs.length = A.length := by
  have := congrArg List.length k
  rw [List.length_map, List.length_map] at this
  exact this
theorem tr_key {kvs : List (Key × V)} {A : Tr} (k : kvs.map (·.1) = A.map (fun p => kS p.1)) {i : Nat} {x : Key} {v : V} (e : kvs[i]? = some (x, v)) : ∃ p, A[i]? = some p ∧ x = .inr p.1 := by
  have e2 : (kvs.map (·.1))[i]? = some x := by rw [List.getElem?_map, e]; rfl
  rw [k, List.getElem?_map] at e2
  obtain ⟨p, ep, e3⟩ := Option.map_eq_some_iff.mp e2
  exact ⟨p, ep, e3.symm⟩
theorem tr_keys {kvs : List (Key × V)} {A : Tr} (k : kvs.map (·.1) = A.map (fun p => kS p.1)) : (kvs.map fun kv => kV kv.1) = (A.map (·.1)).map V.str := by
  have := congrArg (List.map kV) k
  rw [List.map_map, List.map_map] at this
  rw [List.map_map]
  exact this
/-! ### a tree just made: its own lists -/
abbrev Bt := List (Str × Addr × Tx)
def bK (B : Bt) : List (Key × V) := B.map fun b => (kS b.1, V.ref b.2.1)
def bO (B : Bt) : Own := B.map fun b => (b.2.1, HO.lst (b.2.2.map V.str))
def bA (B : Bt) : Tr := B.map fun b => (b.1, b.2.2)
theorem bA_keys (B : Bt) : (bA B).map (·.1) = B.map (·.1) := by
  unfold bA
  rw [List.map_map]
  rfl
theorem bK_keys (B : Bt) : (bK B).map (·.1) = (bA B).map (fun p => kS p.1) := by
  unfold bK bA
  rw [List.map_map, List.map_map]
  rfl
theorem bK_none {B : Bt} {z : Str} (h : z ∉ B.map (·.1)) : valV (bK B) (.inr z) = none := by
  have : ∀ C : Bt, z ∉ C.map (·.1) → valV (bK C) (.inr z) = none := by
    intro C
    induction C with
    | nil => intro _; rfl
    | cons b C ih =>
      intro n
      rw [List.map_cons, List.mem_cons] at n
      show valV ((kS b.1, V.ref b.2.1) :: bK C) (.inr z) = none
      rw [valV_neg (fun e => n (.inl (Sum.inr.inj e).symm))]
      exact ih fun m => n (.inr m)
  exact this B h
theorem bK_snoc (B : Bt) (z : Str) (p : Addr) (t : Tx) : bK (B ++ [(z, p, t)]) = bK B ++ [(kS z, V.ref p)] := by
  unfold bK
  rw [List.map_append]
  rfl
theorem bO_snoc (B : Bt) (z : Str) (p : Addr) (t : Tx) : bO (B ++ [(z, p, t)]) = bO B ++ [(p, HO.lst (t.map V.str))] := by
  unfold bO
  rw [List.map_append]
  rfl
theorem bA_snoc (B : Bt) (z : Str) (p : Addr) (t : Tx) : bA (B ++ [(z, p, t)]) = bA B ++ [(z, t)] := by
  unfold bA
  rw [List.map_append]
  rfl
theorem bK_dq {H : Hp} : ∀ {B : Bt}, (∀ b ∈ B, H b.2.1 = some (.lst (b.2.2.map V.str))) → DqAll H ((bK B).map (·.2)) ((bA B).map fun p => txD p.2)
  | [], _ => .nil
  | b :: B, h => .cons (Dq.strs (xs := b.2.2) (h b List.mem_cons_self)) (bK_dq fun c hc => h c (List.mem_cons_of_mem _ hc))
theorem Has.built {F H : Hp} {d : Addr} {B : Bt} {O : Own} (h : Has F ((d, .dK (bK B)) :: (bO B ++ O)) H) (n : (B.map (·.1)).Nodup) : TrAt H d (bA B) :=
  ⟨bK B, h.get List.mem_cons_self, bK_keys B, by rw [bA_keys]; exact n, bK_dq fun b hb => h.get (List.mem_cons_of_mem _ (List.mem_append_left _ (List.mem_map.mpr ⟨b, hb, rfl⟩)))⟩
/-- one more path, not there yet -/
theorem Has.bput {F H : Hp} {d p : Addr} {B : Bt} {O : Own} {z : Str} {t : Tx} (h : Has F ((p, .lst (t.map V.str)) :: (d, .dK (bK B ++ [(kS z, V.ref p)])) :: (bO B ++ O)) H) : Has F ((d, .dK (bK (B ++ [(z, p, t)]))) :: (bO (B ++ [(z, p, t)]) ++ O)) H := by
  refine h.perm ?_
  rw [bK_snoc, bO_snoc, List.append_assoc, List.singleton_append]
  exact List.perm_middle (a := (p, HO.lst (t.map V.str))) (l₁ := (d, HO.dK (bK B ++ [(kS z, V.ref p)])) :: bO B) (l₂ := O)
/-! ### a loop over the keys of a dict that stands still -/
theorem k_forDK {i : Nat} {d : Addr} {kvs : List (Key × V)} {g : TG} {ts : TS} {D : Ends} {σ : L2.St} {F H : Hp} {O : Own} (hv : σ[i]? = some (some (.ref d))) (fd : F d = some (.dK kvs)) (hH : Has F O H) (S : Nat → L2.St → Own → Prop) (h0 : S 0 σ O)
    (hs : ∀ t k v σ O H od, kvs[t]? = some (k, v) → S t σ O → Has (upd F d (.frz od (.dK kvs))) O H → g (kV k) σ H fun σ2 H2 => ts { lockD d od (.dK kvs) D with nx := fun σ' H' => ∃ O', S (t + 1) σ' O' ∧ Has (upd F d (.frz od (.dK kvs))) O' H', ct := fun σ' H' => ∃ O', S (t + 1) σ' O' ∧ Has (upd F d (.frz od (.dK kvs))) O' H', bk := (lockD d od (.dK kvs) D).nx } σ2 H2)
    (hd : ∀ σ O H, S kvs.length σ O → Has F O H → D.nx σ H) : tLock (tFor (iKeys (tVar i)) g ts) D σ H := by
  refine g_lockK hv (hH.same _ _ fd) (fun od => ?_)
  refine k_forK (fun t σ H' => ∃ O', S t σ O' ∧ Has (upd F d (.frz od (.dK kvs))) O' H') ⟨O, h0, hH.lock fd⟩ ?_ ?_ ?_
  · rintro t σ H' ⟨O', _, h⟩
    exact h.same _ _ upd_same
  · rintro t k v σ H' e ⟨O', s, h⟩
    exact hs t k v σ O' H' od e s h
  · rintro σ H' ⟨O', s, h⟩
    have e : upd (upd F d (.frz od (.dK kvs))) d (.dK kvs) = F := by
      funext b
      by_cases c : b = d
      · subst c
        rw [upd_same, fd]
      · rw [upd_ne c, upd_ne c]
    have h2 := h.unlock (od := od) (u := .dK kvs) upd_same
    rw [e] at h2
    exact ⟨h.same _ _ upd_same, hd σ O' _ s h2⟩
theorem nd_inj {α : Type} {xs : List α} (nd : xs.Nodup) {i j : Nat} {z : α} (h1 : xs[i]? = some z) (h2 : xs[j]? = some z) : i = j := by
  obtain ⟨l1, e1⟩ := List.getElem?_eq_some_iff.mp h1
  obtain ⟨l2, e2⟩ := List.getElem?_eq_some_iff.mp h2
  have pw := List.pairwise_iff_getElem.mp nd
  rcases Nat.lt_trichotomy i j with c | c | c
  · exact (pw i j l1 l2 c (by rw [e1, e2])).elim
  · exact c
  · exact (pw j i l2 l1 c (by rw [e1, e2])).elim
theorem nd_new {α : Type} {xs : List α} (nd : xs.Nodup) {t : Nat} {z : α} (e : xs[t]? = some z) : z ∉ xs.take t := fun m => by
  obtain ⟨j, hj⟩ := List.mem_iff_getElem?.mp m
  have lj := (List.getElem?_eq_some_iff.mp hj).1
  rw [List.length_take] at lj
  rw [List.getElem?_take_of_lt (by omega)] at hj
  have := nd_inj nd hj e
  omega
theorem Has.b0 {F H : Hp} {d : Addr} {O : Own} (h : Has F ((d, .dK []) :: O) H) : Has F ((d, .dK (bK [])) :: (bO [] ++ O)) H := h
/-- what came out stands still from now on -/
theorem Has.fr {F H H' : Hp} {O : Own} {v : V} {o : Option Tx} (h : Has F O H) (s : Same H H') (f : Fr H H' v o) : ∃ F', Same F F' ∧ Has F' O H' ∧ Dq F' v (oxD o) := by
  rcases f with ⟨rfl, rfl⟩ | ⟨p, t, rfl, rfl, n, e⟩
  · exact ⟨F, Same.refl _, h.on s, .non⟩
  · have h2 := h.made n s e
    exact ⟨_, h2.grow, h2.frz, Dq.strs (xs := t) upd_same⟩
theorem oxL_take {H : Hp} {acc : List V} {xs : List (Option Tx)} {i : Nat} {o : Option Tx} {v : V} (h : DqAll H acc ((xs.take i).map oxD)) (e : xs[i]? = some o) (d : Dq H v (oxD o)) : DqAll H (acc ++ [v]) ((xs.take (i + 1)).map oxD) := by
  rw [List.take_add_one, e, List.map_append]
  exact h.snoc d
/-- texts of a bounded length -/
def lnO (o : Option Tx) : Prop := ∀ t, o = some t → t.length ≤ 1000
theorem cho_all {Pr : Option Tx → Prop} {b : Option Tx} {ts : List (Option Tx)} (hb : Pr b) (ht : ∀ o ∈ ts, Pr o) : Pr (cho b ts) := by
  rcases cho_mem (base := b) (vs := ts) with e | m
  · rw [e]; exact hb
  · exact ht _ m
/-! ### lists of trees -/
inductive Trs (H : Hp) : List Addr → List Tr → Prop
  | nil : Trs H [] []
  | cons {d : Addr} {A : Tr} {ds : List Addr} {As : List Tr} : TrAt H d A → Trs H ds As → Trs H (d :: ds) (A :: As)
theorem Trs.len {H : Hp} : ∀ {ds : List Addr} {As : List Tr}, Trs H ds As → ds.length = As.length
  | _, _, .nil => rfl
  | _, _, .cons _ t => by rw [List.length_cons, List.length_cons, t.len]
theorem Trs.up {H H' : Hp} (s : Same H H') : ∀ {ds : List Addr} {As : List Tr}, Trs H ds As → Trs H' ds As
  | _, _, .nil => .nil
  | _, _, .cons h t => .cons (h.up s) (t.up s)
theorem Trs.get {H : Hp} : ∀ {ds : List Addr} {As : List Tr} {i : Nat} {d : Addr}, Trs H ds As → ds[i]? = some d → ∃ A, As[i]? = some A ∧ TrAt H d A
  | _, _, _, _, .nil, e => by simp at e
  | _, _, 0, _, .cons h _, e => by
    have e := Option.some.inj e
    subst e
    exact ⟨_, rfl, h⟩
  | _, _, i + 1, _, .cons _ t, e => t.get (i := i) e
theorem Trs.app {H : Hp} : ∀ {ds es : List Addr} {As Bs : List Tr}, Trs H ds As → Trs H es Bs → Trs H (ds ++ es) (As ++ Bs)
  | _, _, _, _, .nil, h => h
  | _, _, _, _, .cons h t, h' => .cons h (t.app h')
theorem Trs.rev {H : Hp} : ∀ {ds : List Addr} {As : List Tr}, Trs H ds As → Trs H ds.reverse As.reverse
  | _, _, .nil => .nil
  | _, _, .cons h t => by
    rw [List.reverse_cons, List.reverse_cons]
    exact t.rev.app (.cons h .nil)
theorem Trs.snoc {H : Hp} {ds : List Addr} {As : List Tr} {d : Addr} {A : Tr} (h : Trs H ds As) (t : TrAt H d A) : Trs H (ds ++ [d]) (As ++ [A]) := h.app (.cons t .nil)
/-- the entries of the dict at d -/
def kvOf (H : Hp) (d : Addr) : List (Key × V) := match H d with
  | some (.dK kvs) => kvs
  | _ => []
theorem kvOf_at {H : Hp} {d : Addr} {kvs : List (Key × V)} (h : H d = some (.dK kvs)) : kvOf H d = kvs := by
  unfold kvOf
  rw [h]
theorem Trs.at_ {H : Hp} : ∀ {ds : List Addr} {As : List Tr}, Trs H ds As → ∀ d ∈ ds, H d = some (.dK (kvOf H d))
  | _, _, .nil, _, h => by cases h
  | _, _, .cons h t, d, m => by
    rcases List.mem_cons.mp m with rfl | m
    · obtain ⟨kvs, e, _⟩ := h
      rw [kvOf_at e]
      exact e
    · exact t.at_ d m
theorem TrAt.keys {H : Hp} {d : Addr} {A : Tr} (h : TrAt H d A) {k : Key} : (∃ v, (k, v) ∈ kvOf H d) ↔ ∃ z, k = Sum.inr z ∧ z ∈ A.map (·.1) := by
  obtain ⟨kvs, e, ek, _, _⟩ := h
  rw [kvOf_at e]
  constructor
  · rintro ⟨v, m⟩
    have m2 : k ∈ kvs.map (·.1) := List.mem_map.mpr ⟨_, m, rfl⟩
    rw [ek] at m2
    obtain ⟨p, hp, e2⟩ := List.mem_map.mp m2
    exact ⟨p.1, e2.symm, List.mem_map.mpr ⟨p, hp, rfl⟩⟩
  · rintro ⟨z, rfl, m⟩
    obtain ⟨p, hp, rfl⟩ := List.mem_map.mp m
    have m2 : (Sum.inr p.1 : Key) ∈ kvs.map (·.1) := by
      rw [ek]
      exact List.mem_map.mpr ⟨p, hp, rfl⟩
    obtain ⟨q, hq, e2⟩ := List.mem_map.mp m2
    exact ⟨q.2, by rw [← e2]; exact hq⟩
theorem TrAt.klen {H : Hp} {d : Addr} {A : Tr} (h : TrAt H d A) : (kvOf H d).length = A.length := by
  obtain ⟨kvs, e, ek, _, _⟩ := h
  rw [kvOf_at e]
  exact tr_len ek
theorem Trs.keys {H : Hp} : ∀ {ds : List Addr} {As : List Tr}, Trs H ds As → ∀ {k : Key}, (∃ d ∈ ds, ∃ v, (k, v) ∈ kvOf H d) ↔ ∃ z, k = Sum.inr z ∧ ∃ A ∈ As, z ∈ A.map (·.1)
  | _, _, .nil, k => by simp
  | _, _, .cons h t, k => by
    constructor
    · rintro ⟨d, hd, hv⟩
      rcases List.mem_cons.mp hd with rfl | hd
      · obtain ⟨z, e, m⟩ := h.keys.mp hv
        exact ⟨z, e, _, List.mem_cons_self, m⟩
      · obtain ⟨z, e, A, hA, m⟩ := t.keys.mp ⟨d, hd, hv⟩
        exact ⟨z, e, A, List.mem_cons_of_mem _ hA, m⟩
    · rintro ⟨z, e, A, hA, m⟩
      rcases List.mem_cons.mp hA with rfl | hA
      · exact ⟨_, List.mem_cons_self, h.keys.mpr ⟨z, e, m⟩⟩
      · obtain ⟨d, hd, hv⟩ := t.keys.mpr ⟨z, e, A, hA, m⟩
        exact ⟨d, List.mem_cons_of_mem _ hd, hv⟩
theorem Trs.sum {H : Hp} {m : Nat} : ∀ {ds : List Addr} {As : List Tr}, Trs H ds As → (∀ A ∈ As, A.length ≤ m) → sumL (kvOf H) ds ≤ m * As.length
  | _, _, .nil, _ => Nat.zero_le _
  | _, _, .cons (A := A) (As := As) h t, l => by
    have h1 := t.sum fun A hA => l A (List.mem_cons_of_mem _ hA)
    have h2 := h.klen
    have h3 := l A List.mem_cons_self
    show _ + sumL _ _ ≤ _
    rw [List.length_cons, Nat.mul_succ]
    omega
theorem getT_in {A : Tr} {z : Str} {Pr : Option Tx → Prop} (h0 : Pr none) (h : ∀ p ∈ A, Pr (some p.2)) : Pr (getT A z) := by
  cases e : getT A z with
  | none => exact h0
  | some t => exact h _ (getT_mem e)
/-! ### what a call has made -/
theorem Has.join {F H H' : Hp} {O N : Own} (h : Has F O H) (n : Has H N H') : ∃ F', Same F F' ∧ Has F' O H' ∧ ∀ p ∈ N, F' p.1 = some p.2 := by
  refine ⟨fun b => if b ∈ N.map (·.1) then H' b else F b, fun b u e => ?_, ⟨fun b u e => ?_, fun p hp => ⟨?_, ?_⟩, h.nd⟩, fun p hp => ?_⟩
  · have ne : b ∉ N.map (·.1) := fun m => by
      obtain ⟨p, hp, rfl⟩ := List.mem_map.mp m
      have := (n.own p hp).1
      rw [h.same _ _ e] at this
      cases this
    show (if b ∈ N.map (·.1) then H' b else F b) = some u
    rw [if_neg ne]
    exact e
  · have e : (if b ∈ N.map (·.1) then H' b else F b) = some u := e
    split at e
    · exact e
    · exact n.same _ _ (h.same _ _ e)
  · have ne : p.1 ∉ N.map (·.1) := fun m => by
      obtain ⟨q, hq, e⟩ := List.mem_map.mp m
      have := (n.own q hq).1
      rw [e, (h.own p hp).2] at this
      cases this
    show (if p.1 ∈ N.map (·.1) then H' p.1 else F p.1) = none
    rw [if_neg ne]
    exact (h.own p hp).1
  · exact n.same _ _ (h.own p hp).2
  · show (if p.1 ∈ N.map (·.1) then H' p.1 else F p.1) = some p.2
    rw [if_pos (List.mem_map.mpr ⟨p, hp, rfl⟩)]
    exact (n.own p hp).2
theorem Has.plus {F H H' : Hp} {O N : Own} (h : Has F O H) (n : Has H N H') : Has F (N ++ O) H' := by
  refine ⟨h.same.trans n.same, fun p hp => ?_, ?_⟩
  · rcases List.mem_append.mp hp with m | m
    · exact ⟨h.same.free (n.own p m).1, (n.own p m).2⟩
    · exact ⟨(h.own p m).1, n.same _ _ (h.own p m).2⟩
  · rw [List.map_append, List.nodup_append]
    refine ⟨n.nd, h.nd, fun a ha b hb e => ?_⟩
    subst e
    obtain ⟨p, hp, rfl⟩ := List.mem_map.mp ha
    obtain ⟨q, hq, e⟩ := List.mem_map.mp hb
    have := (n.own p hp).1
    rw [← e, (h.own q hq).2] at this
    cases this
theorem tr_own {F : Hp} {d : Addr} {B : Bt} (h : ∀ p ∈ (d, HO.dK (bK B)) :: bO B, F p.1 = some p.2) (n : (B.map (·.1)).Nodup) : TrAt F d (bA B) :=
  ⟨bK B, h _ List.mem_cons_self, bK_keys B, by rw [bA_keys]; exact n, bK_dq fun b hb => h _ (List.mem_cons_of_mem _ (List.mem_map.mpr ⟨b, hb, rfl⟩))⟩
/-- a path laid anew -/
theorem bK_put {b : Str × Addr × Tx} {p : Addr} {x : Tx} : ∀ {B : Bt} {j : Nat}, (B.map (·.1)).Nodup → B[j]? = some b → (bK B).map (fun kv => if kv.1 = kS b.1 then (kv.1, V.ref p) else kv) = bK (B.set j (b.1, p, x))
  | [], j, _, h => by simp at h
  | c :: B, 0, n, h => by
    have e : c = b := Option.some.inj h
    subst e
    rw [List.map_cons] at n
    have n' := List.nodup_cons.mp n
    show (if kS c.1 = kS c.1 then (kS c.1, V.ref p) else _) :: (bK B).map _ = (kS c.1, V.ref p) :: bK B
    rw [if_pos rfl]
    congr 1
    have : ∀ kv ∈ bK B, (if kv.1 = kS c.1 then (kv.1, V.ref p) else kv) = kv := fun kv hkv => by
      obtain ⟨r, hr, rfl⟩ := List.mem_map.mp hkv
      rw [if_neg]
      intro e
      refine n'.1 ?_
      rw [← show r.1 = c.1 from Sum.inr.inj e]
      exact List.mem_map.mpr ⟨r, hr, rfl⟩
    rw [List.map_congr_left this, List.map_id']
  | c :: B, j + 1, n, h => by
    rw [List.map_cons] at n
    have n' := List.nodup_cons.mp n
    have ih := bK_put (p := p) (x := x) n'.2 (j := j) h
    show (if kS c.1 = kS b.1 then (kS c.1, V.ref p) else (kS c.1, V.ref c.2.1)) :: (bK B).map _ = (kS c.1, V.ref c.2.1) :: bK (B.set j _)
    rw [ih, if_neg]
    intro e
    refine n'.1 ?_
    rw [show c.1 = b.1 from Sum.inr.inj e]
    exact List.mem_map.mpr ⟨b, List.mem_of_getElem? h, rfl⟩
theorem putK_rep {b : Str × Addr × Tx} {p : Addr} {x : Tx} {B : Bt} {j : Nat} (n : (B.map (·.1)).Nodup) (h : B[j]? = some b) : putK (bK B) (kS b.1) (V.ref p) = bK (B.set j (b.1, p, x)) := by
  have a : ((bK B).any fun kv => decide (kv.1 = kS b.1)) = true := List.any_eq_true.mpr ⟨(kS b.1, V.ref b.2.1), List.mem_map.mpr ⟨b, List.mem_of_getElem? h, rfl⟩, decide_eq_true rfl⟩
  unfold putK
  rw [if_pos a]
  exact bK_put n h
theorem Has.brep {F H : Hp} {d p : Addr} {B : Bt} {O : Own} {j : Nat} {b : Str × Addr × Tx} {x : Tx} {u : HO} (e : B[j]? = some b) (h : Has F ((p, .lst (x.map V.str)) :: (d, u) :: (bO B ++ O)) H) : Has F ((d, u) :: (bO (B.set j (b.1, p, x)) ++ O)) H := by
  obtain ⟨l, eb⟩ := List.getElem?_eq_some_iff.mp e
  have e1 : B = B.take j ++ b :: B.drop (j + 1) := by
    rw [← eb, ← List.drop_eq_getElem_cons l, List.take_append_drop]
  have e2 : B.set j (b.1, p, x) = B.take j ++ (b.1, p, x) :: B.drop (j + 1) := List.set_eq_take_append_cons_drop.trans (if_pos l)
  rw [e2]
  rw [e1] at h
  have o : ∀ (c : Str × Addr × Tx), bO (B.take j ++ c :: B.drop (j + 1)) ++ O = bO (B.take j) ++ (c.2.1, HO.lst (c.2.2.map V.str)) :: (bO (B.drop (j + 1)) ++ O) := fun c => by
    unfold bO
    rw [List.map_append, List.map_cons, List.append_assoc, List.cons_append]
  rw [o] at h ⊢
  have h2 : Has F ((p, .lst (x.map V.str)) :: (d, u) :: (bO (B.take j) ++ (bO (B.drop (j + 1)) ++ O))) H := h.sub (List.Sublist.cons_cons _ (List.Sublist.cons_cons _ (List.Sublist.append (List.Sublist.refl _) (List.Sublist.cons _ (List.Sublist.refl _)))))
  exact h2.perm (List.perm_middle (a := (p, HO.lst (x.map V.str))) (l₁ := (d, u) :: bO (B.take j)) (l₂ := bO (B.drop (j + 1)) ++ O))
theorem bA_set {B : Bt} {j : Nat} {b : Str × Addr × Tx} {p : Addr} (e : B[j]? = some b) : bA (B.set j (b.1, p, b.2.2)) = bA B := by
  unfold bA
  rw [List.map_set]
  refine List.ext_getElem? fun i => ?_
  rw [List.getElem?_set]
  split
  · rename_i c
    subst c
    split
    · rw [List.getElem?_map, e]
      rfl
    · rename_i c
      rw [List.length_map] at c
      exact (c (List.getElem?_eq_some_iff.mp e).1).elim
  · rfl
theorem DqAll.tak {H : Hp} : ∀ {vs : List V} {ds : List PyData} (n : Nat), DqAll H vs ds → DqAll H (vs.take n) (ds.take n)
  | _, _, 0, _ => .nil
  | _, _, n + 1, .nil => .nil
  | _, _, n + 1, .cons h t => .cons h (DqAll.tak n t)
theorem DqAll.dro {H : Hp} : ∀ {vs : List V} {ds : List PyData} (n : Nat), DqAll H vs ds → DqAll H (vs.drop n) (ds.drop n)
  | _, _, 0, h => h
  | _, _, n + 1, .nil => .nil
  | _, _, n + 1, .cons _ t => DqAll.dro n t
theorem ox_at {H : Hp} {ws : List V} {os : List (Option Tx)} {i : Nat} {v : V} (h : DqAll H ws (os.map oxD)) (e : ws[i]? = some v) : ∃ o, os[i]? = some o ∧ Dq H v (oxD o) := by
  obtain ⟨d, ed, q⟩ := h.get e
  rw [List.getElem?_map] at ed
  obtain ⟨o, eo, rfl⟩ := Option.map_eq_some_iff.mp ed
  exact ⟨o, eo, q⟩
theorem ox_len {H : Hp} {ws : List V} {os : List (Option Tx)} (h : DqAll H ws (os.map oxD)) : ws.length = os.length := by rw [h.len, List.length_map]
/-! ### what a call has made beside what is owned -/
theorem Has.glue {F F' H H' : Hp} {O N : Own} (h : Has F O H) (s : Same H F') (n : Has F' N H') : Has (rmO O F') (N ++ O) H' ∧ Same F (rmO O F') := by
  have off : ∀ p ∈ O, ∀ q ∈ N, q.1 ≠ p.1 := fun p hp q hq e => by
    have := (n.own q hq).1
    rw [e, s _ _ (h.own p hp).2] at this
    cases this
  refine ⟨⟨fun b u e => ?_, fun p hp => ?_, ?_⟩, fun b u e => ?_⟩
  · unfold rmO at e
    split at e
    · cases e
    · exact n.same _ _ e
  · rcases List.mem_append.mp hp with m | m
    · refine ⟨?_, (n.own p m).2⟩
      unfold rmO
      split
      · rfl
      · exact (n.own p m).1
    · exact ⟨if_pos (List.mem_map.mpr ⟨p, m, rfl⟩), n.same _ _ (s _ _ (h.own p m).2)⟩
  · rw [List.map_append, List.nodup_append]
    refine ⟨n.nd, h.nd, fun a ha b hb e => ?_⟩
    obtain ⟨q, hq, rfl⟩ := List.mem_map.mp ha
    obtain ⟨p, hp, rfl⟩ := List.mem_map.mp hb
    exact off p hp q hq e
  · unfold rmO
    rw [if_neg]
    · exact s _ _ (h.same _ _ e)
    · intro m
      obtain ⟨p, hp, rfl⟩ := List.mem_map.mp m
      rw [(h.own p hp).1] at e
      cases e
/-- a call that changes what is owned ahead -/
theorem Has.swap {F H H' : Hp} {A A' R : Own} (h : Has F (A ++ R) H) (h' : Has (rmO A H) A' H') : Has F (A' ++ R) H' := by
  have nd := h.nd
  rw [List.map_append, List.nodup_append] at nd
  have inA : ∀ b, F b ≠ none → b ∉ A.map (·.1) := fun b e m => by
    obtain ⟨p, hp, rfl⟩ := List.mem_map.mp m
    exact e (h.own p (List.mem_append_left _ hp)).1
  have at_ : ∀ b, b ∉ A.map (·.1) → rmO A H b = H b := fun b n => if_neg n
  have sF : ∀ b u, F b = some u → rmO A H b = some u := fun b u e => by
    rw [at_ b (inA b (by rw [e]; exact fun z => by cases z))]
    exact h.same _ _ e
  have aR : ∀ p ∈ R, rmO A H p.1 = some p.2 := fun p hp => by
    rw [at_ p.1 (fun m => nd.2.2 _ m _ (List.mem_map.mpr ⟨p, hp, rfl⟩) rfl)]
    exact (h.own p (List.mem_append_right _ hp)).2
  refine ⟨fun b u e => h'.same _ _ (sF b u e), fun p hp => ?_, ?_⟩
  · rcases List.mem_append.mp hp with m | m
    · refine ⟨?_, (h'.own p m).2⟩
      cases e : F p.1 with
      | none => rfl
      | some u =>
        have := (h'.own p m).1
        rw [sF _ _ e] at this
        cases this
    · exact ⟨(h.own p (List.mem_append_right _ m)).1, h'.same _ _ (aR p m)⟩
  · rw [List.map_append, List.nodup_append]
    refine ⟨h'.nd, nd.2.1, fun a ha b hb e => ?_⟩
    subst e
    obtain ⟨p, hp, rfl⟩ := List.mem_map.mp ha
    obtain ⟨q, hq, e⟩ := List.mem_map.mp hb
    have := (h'.own p hp).1
    rw [← e, aR q hq] at this
    cases this
def treeO (d : Addr) (B : Bt) : Own := (d, HO.dK (bK B)) :: bO B
def tO (Bs : List (Addr × Bt)) : Own := Bs.flatMap fun q => treeO q.1 q.2
theorem tO_snoc (Bs : List (Addr × Bt)) (q : Addr × Bt) : tO (Bs ++ [q]) = tO Bs ++ treeO q.1 q.2 := by
  unfold tO
  rw [List.flatMap_append]
  simp
theorem tO_at {Bs : List (Addr × Bt)} {q : Addr × Bt} (h : q ∈ Bs) : ∀ p ∈ treeO q.1 q.2, p ∈ tO Bs := fun p hp => List.mem_flatMap.mpr ⟨q, h, hp⟩
theorem tr_in {F H : Hp} {O : Own} {d : Addr} {B : Bt} (h : Has F O H) (m : ∀ p ∈ treeO d B, p ∈ O) (n : (B.map (·.1)).Nodup) : TrAt H d (bA B) := tr_own (fun p hp => h.get (m p hp)) n
abbrev Tre := Tr
theorem Chg.right {O O' A : Own} {a : Addr} {o o' : HO} (c : Chg O a o o' O') : Chg (A ++ O) a o o' (A ++ O') := by
  induction A with
  | nil => exact c
  | cons x A ih => exact .tl ih
end Qk

/-! Qtt: loops and comprehensions over a tuple -/
namespace Qk
open PySem PySem.Spec PyProof.Rows L2
theorem k_it {X : Cx} {tg l : Expr} {tl : TE} (K : PySem.W.Frag) (h : PI X tg l (iTup X.K tl)) (e : X.K = K := by rfl) : PI X tg l (iTup K tl) := by subst e; exact h
def kLcT (K : PySem.W.Frag) (g : TG) (tt : TT) (te : TE) (vs : List Nat) (σ : L2.St) (x : V) (H : Hp) (Q : VK) : Prop := ∃ a, x = .ref a ∧ (∃ xs, SqT K H a xs) ∧ kLc (Itt K a) g tt te vs σ H Q
def kForT (K : PySem.W.Frag) (g : TG) (tb : TS) (D : Ends) (σ : L2.St) (x : V) (H : Hp) : Prop := ∃ a, x = .ref a ∧ (∃ xs, SqT K H a xs) ∧ kW (Itt K a) g tb D σ H
section
variable {K : PySem.W.Frag} {σ : L2.St} {F : Hp} {O O' : Own} {H : Hp} {Q : VK} {ta te : TE} {D : Ends} {ts : TS} {g : TG}
theorem g_lcT {tt : TT} {vs : List Nat} (q : ta σ H fun x H1 => kLcT K g tt te vs σ x H1 Q) : tLc (iTup K ta) g tt te vs σ H Q := q
theorem g_forT (q : te σ H fun x H1 => kForT K g ts D σ x H1) : tFor (iTup K te) g ts D σ H := q
/-- over a tuple that stands still -/
theorem k_lcT {a : Addr} {xs : List V} {tt : TT} {vs : List Nat} (h : H a = some (.tup xs)) (hH : Has F O H) (S : Nat → List V → Hp → Own → Prop) (h0 : S 0 [] F O) (hl : ∀ i acc F O H, S i acc F O → Has F O H → H a = some (.tup xs))
    (hs : ∀ i x acc F O D H, xs[i]? = some x → S i acc F O → Has F ((D, .lst acc) :: O) H → g x (wipe σ vs) H fun σ2 H2 => wipe σ2 vs = wipe σ vs ∧ tt σ2 H2 fun b H3 => if b = true then te σ2 H3 fun y H4 => kTurn D (kNx S i D) y H4 else kNx S i D H3)
    (hd : ∀ acc F O D H, S xs.length acc F O → Has F ((D, .lst acc) :: O) H → Q (.ref D) H) : kLcT K g tt te vs σ (.ref a) H Q := by
  refine ⟨a, rfl, ⟨xs, SqT.of h⟩, k_lc hH xs.length S h0 (fun i acc F O D H hi s hh => ?_) (fun acc F O D H s hh => ?_) (fun i x acc F O D H H' hi y s hh => ?_) hd⟩
  · exact ⟨xs, xs[i], SqT.of (hl i acc F O H s hh.drop), List.getElem?_eq_getElem hi⟩
  · exact ⟨xs, SqT.of (hl _ acc F O H s hh.drop), Nat.le_refl _⟩
  · obtain ⟨e, y⟩ := y
    subst e
    exact hs i x acc F O D _ (y xs (SqT.of (hl i acc F O _ s hh.drop))) s hh
theorem k_forT {a : Addr} {xs : List V} (h : H a = some (.tup xs)) (Pv : Nat → L2.St → Hp → Prop) (h0 : Pv 0 σ H) (hl : ∀ i σ H, i ≤ xs.length → Pv i σ H → H a = some (.tup xs))
    (hs : ∀ i x σ H, xs[i]? = some x → Pv i σ H → g x σ H fun σ2 H2 => ts { D with nx := Pv (i + 1), ct := Pv (i + 1), bk := D.nx } σ2 H2) (hd : ∀ σ H, Pv xs.length σ H → D.nx σ H) : kForT K g ts D σ (.ref a) H := by
  refine ⟨a, rfl, ⟨xs, SqT.of h⟩, fun i m σ H => m = xs.length - i ∧ i ≤ xs.length ∧ Pv i σ H, ⟨_, rfl, Nat.zero_le _, h0⟩, ?_⟩
  rintro i m σ H1 ⟨rfl, hi, p⟩
  have hq : SqT K H1 a xs := SqT.of (hl i σ H1 hi p)
  by_cases hlt : i < xs.length
  · refine .inr ⟨⟨xs, xs[i], hq, List.getElem?_eq_getElem hlt⟩, Pv (i + 1), fun σ' H' p' => ⟨xs.length - (i + 1), by omega, rfl, hlt, p'⟩, ?_⟩
    rintro x H' ⟨rfl, y⟩
    exact hs i x σ _ (y xs hq) p
  · have e : i = xs.length := by omega
    subst e
    exact .inl ⟨⟨xs, hq, Nat.le_refl _⟩, hd σ H1 p⟩
end
end Qk

/-! Qw: try with several clauses «except c as n», one name in all -/
namespace Qk
open PySem PySem.Spec PyProof.Rows L2
abbrev Cls3 := Addr → Value → Option Addr → TS
/-- the wish of the clauses, the first that fits takes it -/
def wAsM (K : PySem.W.Frag) (i : Nat) (Wout : WX) (D : Ends) : List (Value × Cls3) → WX
  | [] => Wout
  | p :: r => wAs K p.1 i p.2 (wAsM K i Wout D r) D
inductive Clauses (X : Cx) (n : Str) : List ExceptHandler → List (Value × Cls3) → Prop
  | nil : Clauses X n [] []
  | cons {x : Str} {c : Value} {ts : Cls3} {b : Stmt} {su : List Stmt} {q1 q2 : Pos} {hs : List ExceptHandler} {l : List (Value × Cls3)} (nm : Names X x c)
      (sp : ∀ (a : Addr) (o : Obj) (cls : Value) (d : Option Addr) (pn : List (Addr × Obj)), L2N.Zn cls d o → (∃ vs, o.data = .fields vs) → PSs (X.suite a ((a, o) :: pn)) (b :: su) (ts a cls d)) (rest : Clauses X n hs l) :
      Clauses X n (.ExceptHandler (some (.Name x q1)) (some n) (b :: su) q2 :: hs) ((c, ts) :: l)
set_option maxHeartbeats 4000000 in
theorem ps_tryM {X : Cx} {n : Str} {i : Nat} {body : List Stmt} {h0 : ExceptHandler} {hds : List ExceptHandler} {l : List (Value × Cls3)} {pos : Pos} {tb : WX → TS} {Wout : WX}
    (st : X.stack = X.env :: X.outer) (fr : X.env.frame = some X.env.locals) (nd : X.N.Nodup) (ni : X.N[i]? = some n) (lo : X.env.kindOf n = some .local) (tk : L2N.Takes X Wout)
    (hb : ∀ (W : WX) (pn : List (Addr × Obj)) (xe : Value → Shared → Prop), L2N.Takes (X.tr pn xe) W → PassesOwn (model X.prog X.w) X.A X.env xe → PSs (X.tr pn xe) body (tb W))
    (cs : Clauses X n (h0 :: hds) l) : PS X (.Try body (h0 :: hds) [] [] pos) (fun D σ H => tb (wAsM X.K i Wout D l) D σ H) := by
  refine ⟨fun pins s σ H D I want => ?_⟩
  have I0 := I.ok
  have frs0 : X.A.frames = some (X.env :: X.outer) := by rw [I0.frames, st]
  refine wpAny_Try_except ?_
  let caught : Value → Shared → Prop := fun e s1 => wpAny (model X.prog X.w) X.A (noteFrame e X.env) (fun _ s2 => wpAny (model X.prog X.w) X.A (setFlight e none) (fun _ s3 => wpAny (model X.prog X.w) X.A (handleBy e X.env (h0 :: hds)) (SP X pins D) X.xe s3) X.xe s2) X.xe s1
  have take : L2N.Takes (X.tr (X.pn ++ pins) caught) (wAsM X.K i Wout D l) := fun u s' xx => by
    obtain ⟨a, B, sI, pins', σ1, H1, cls, d, rfl, J', nb, up, sky, na, os, ag, w⟩ := xx
    have J : Inv X pins σ1 H1 sI := J'.ofTry I0
    have sk : Sky B (X.env :: X.outer) a (L2N.Zn cls d) X.env.locals s'.heap := by rw [← st]; exact sky
    show wpAny (model X.prog X.w) X.A (noteFrame (.ref a) X.env) _ _ _
    refine L2N.Sky.land L2N.Zn.steady frs0 fr sk fun h3 f3 u3 => ?_
    have J3 : Inv X pins σ1 H1 { s' with heap := h3 } := J.landed nb f3.1 (up.trans u3) os ag
    obtain ⟨o3, vs3, at3, z3, d3⟩ := f3.there
    have noFrame : a ∉ frs (X.env :: X.outer) := fun m => by
      obtain ⟨_, o', e', bad⟩ := f3.2.2.1.mem m
      rw [at3] at e'
      cases e'
      exact bad _ d3
    have nL : a ≠ X.env.locals := fun z => noFrame (List.mem_filterMap.mpr ⟨X.env, List.mem_cons_self, by rw [fr, z]⟩)
    have nF : a ∉ X.fs := fun m => by
      obtain ⟨e, he, q⟩ := List.mem_filterMap.mp m
      exact noFrame (List.mem_filterMap.mpr ⟨e, List.mem_cons_of_mem _ he, q⟩)
    have S3 := J3.suite at3 d3 na nL nF
    have step : ∀ {hs : List ExceptHandler} {l' : List (Value × Cls3)}, Clauses X n hs l' → wAsM X.K i Wout D l' cls d σ1 H1 → wpAny (model X.prog X.w) X.A (handleBy (.ref a) X.env hs) (SP X pins D) X.xe { s' with heap := h3 } := by
      intro hs l' c
      induction c with
      | nil =>
        intro w0
        refine wpAny_handleBy_nil ?_
        obtain ⟨_, _, _, oe, vs, T, _, _, he, _, hd, h1, _⟩ := id f3
        unfold PySem.passOn
        refine wpAny_bind (wpAny_field he hd h1 ?_)
        have nn : ¬ (Value.ref T == Value.none) = true := by simp
        rw [if_neg nn]
        have off : wpAny (model X.prog X.w) X.A (setFlight (.ref a) X.env.frame) (fun _ s4 => wpAny (model X.prog X.w) X.A (throw (.ref a) : Sem Flow) (SP X pins D) X.xe s4) X.xe { s' with heap := h3 } := by
          rw [fr]
          refine HandSPX.setFlight_upZ f3 fun h4 g4 u4 => wpAny_throw (tk _ _ ?_)
          exact ⟨a, B, sI, pins, σ1, H1, cls, d, rfl, J, nb, (up.trans u3).trans u4, .inr (.inr (by rw [st]; exact g4)), na, os, ag, w0⟩
        first
          | exact wpAny_bind (wpAny_pure (wpAny_bind off))
          | exact wpAny_bind off
      | @cons x c ts b su q1 q2 hs2 l2 nm sp rest ih =>
        intro w0
        obtain ⟨yes, fits, inS, goOn⟩ := w0
        refine wpAny_handleBy_cons (codeAny_handlers_test ?_) (by intro q; cases q)
        have ty : PySem.W.Looks (model X.prog X.w) h3 (typeOf (.ref a)) cls := fun _ _ _ _ k q => wpAny_typeOf_ref (k _ _ at3) (by rw [z3.1]; exact q)
        have look := PySem.W.exm_one (M := model X.prog X.w) J3.kIn ty fits
        have named : ∀ {Q : Value → Shared → Prop} {E : Value → Shared → Prop}, Q c { s' with heap := h3 } → wpAny (model X.prog X.w) (X.A.mark (some (.ref a))) (eval (.Name x q1) X.env) Q E { s' with heap := h3 } := fun {Q E} q => by
          obtain ⟨g1, g2, g3 | ⟨g3, g4, g5⟩⟩ := nm
          · exact ld_glob (X := X.suite a ((a, o3) :: (X.pn ++ pins))) S3 g1 g3 q g2
          · exact ld_blt (X := X.suite a ((a, o3) :: (X.pn ++ pins))) S3 g1 g3 g4 q g5 g2
        refine named (look.here ?_)
        cases yes with
        | false =>
          show wpAny _ X.A (handleBy (.ref a) X.env hs2) _ _ _
          exact ih (goOn rfl)
        | true =>
          refine codeAny_handlers_suite_as ?_
          refine HandSPX.lands_againZ f3 fun h4 f4 u4 => ?_
          have J4 : Inv X pins σ1 H1 { s' with heap := h4 } := J.landed nb f4.1 ((up.trans u3).trans u4) os ag
          obtain ⟨o4, vs4, at4, z4, d4⟩ := f4.there
          have S4 := J4.suite at4 d4 na nL nF
          refine store_ok (X := X.suite a ((a, o4) :: (X.pn ++ pins))) (v := .ref a) S4 nd ni (.inl lo) rfl (fun s5 S5 => ?_) (.inr lo)
          refine wpAny_mono ((sp a o4 cls d (X.pn ++ pins) z4 ⟨_, d4⟩).run [] s5 _ H1 _ S5 (inS rfl a na)) (fun f s6 got => ?_) (fun _ _ z => z.elim)
          have done : ∀ {σ6 : L2.St} {H6 : Hp} {Q : Shared → Prop}, Inv (X.suite a ((a, o4) :: (X.pn ++ pins))) [] σ6 H6 s6 → (∀ s7, Inv X pins (σ6.set i none) H6 s7 → Q s7) → wpAny (model X.prog X.w) X.A (do bindName X.env n .none; unbindBehindTheSuite X.env n q2) (fun _ s7 => Q s7) X.xe s6 :=
            fun S6 hq => gone_ok (S6.unsuite I0) nd ni lo hq
          match f, got with
          | .next, ⟨_, _, S6, q6⟩ => exact done S6 fun s7 J7 => ⟨_, _, J7, q6⟩
          | .brk, ⟨_, _, S6, q6⟩ => exact done S6 fun s7 J7 => ⟨_, _, J7, q6⟩
          | .cont, ⟨_, _, S6, q6⟩ => exact done S6 fun s7 J7 => ⟨_, _, J7, q6⟩
          | .ret _, ⟨_, _, _, S6, r6, q6⟩ => exact done S6 fun s7 J7 => ⟨_, _, _, J7, r6, q6⟩
    exact step cs w
  refine wpAny_mono ((hb (wAsM X.K i Wout D l) (X.pn ++ pins) caught take PassesOwn.looking).run [] s σ H D (I.toTry _) want) (fun f s1 got => ?_) (fun e s1 he => he)
  match f, got with
  | .next, ⟨_, _, J', q⟩ => exact wpAny_execs_nil ⟨_, _, J'.ofTry I0, q⟩
  | .brk, ⟨_, _, J', q⟩ => exact ⟨_, _, J'.ofTry I0, q⟩
  | .cont, ⟨_, _, J', q⟩ => exact ⟨_, _, J'.ofTry I0, q⟩
  | .ret _, ⟨_, _, _, J', r, q⟩ => exact ⟨_, _, _, J'.ofTry I0, r, q⟩
def tTryM (K : PySem.W.Frag) (i : Nat) (tb : WX → TS) (l : List (Value × Cls3)) (Wout : WX) : TS := fun D σ H => tb (wAsM K i Wout D l) D σ H
theorem k_tryM {X : Cx} {n : Str} {i : Nat} {body : List Stmt} {h0 : ExceptHandler} {hds : List ExceptHandler} {l : List (Value × Cls3)} {pos : Pos} {tb : WX → TS} {Wout : WX} (K : PySem.W.Frag)
    (st : X.stack = X.env :: X.outer) (fr : X.env.frame = some X.env.locals) (nd : X.N.Nodup) (ni : X.N[i]? = some n) (lo : X.env.kindOf n = some .local) (tk : L2N.Takes X Wout)
    (hb : ∀ (W : WX) (pn : List (Addr × Obj)) (xe : Value → Shared → Prop), L2N.Takes (X.tr pn xe) W → PassesOwn (model X.prog X.w) X.A X.env xe → PSs (X.tr pn xe) body (tb W))
    (cs : Clauses X n (h0 :: hds) l) (e : X.K = K := by rfl) : PS X (.Try body (h0 :: hds) [] [] pos) (tTryM K i tb l Wout) := by
  subst e
  exact ps_tryM st fr nd ni lo tk hb cs
theorem g_tryM {K : PySem.W.Frag} {i : Nat} {tb : WX → TS} {l : List (Value × Cls3)} {Wout : WX} {D : Ends} {σ : L2.St} {H : Hp} (q : tb (wAsM K i Wout D l) D σ H) : tTryM K i tb l Wout D σ H := q
theorem g_caughtM {K : PySem.W.Frag} {c cls : Value} {i : Nat} {ts : Cls3} {r : List (Value × Cls3)} {Wout : WX} {D : Ends} {d : Option Addr} {σ : L2.St} {H : Hp} (m : PySem.W.exmOne K cls c = some true)
    (q : ∀ a, H a = none → ts a cls d { nx := fun σ' H' => D.nx (σ'.set i none) H', rt := D.rt, bk := fun σ' H' => D.bk (σ'.set i none) H', ct := fun σ' H' => D.ct (σ'.set i none) H' } (σ.set i (some (.ref a))) H) : wAsM K i Wout D ((c, ts) :: r) cls d σ H :=
  g_caught m q
theorem g_passM {K : PySem.W.Frag} {c cls : Value} {i : Nat} {ts : Cls3} {r : List (Value × Cls3)} {Wout : WX} {D : Ends} {d : Option Addr} {σ : L2.St} {H : Hp} (m : PySem.W.exmOne K cls c = some false) (q : wAsM K i Wout D r cls d σ H) : wAsM K i Wout D ((c, ts) :: r) cls d σ H :=
  ⟨false, m, (fun z => by cases z), fun _ => q⟩
end Qk

set_option maxHeartbeats 2000000
/-! Qh: where an exception is handled: a list comprehension over range(n), all() of a list of truth values. -/
namespace Qk
open PySem PySem.Spec PyProof.Rows L2 HotX L2H
/-! ### a list's end, all() -/
section
variable {prog : Program} {w : World} {A : Around} {E : Value → Shared → Prop} {s : Shared}
theorem next_list_endH {it l x1 : Addr} {i : Nat} {items : Array Value} {Q : Option Value → Shared → Prop} (hot : HotAt A x1 s.heap) (hit : s.heap.IsListIter it l i) (hl : s.heap.IsList l items) (hx : items[i]? = none) (hne : x1 ≠ it)
    (hQ : ∀ h', (∀ b o, b ≠ it → s.heap.get? b = some o → h'.get? b = some o) → Q none { s with heap := h' }) : wpAny (model prog w) A (pyNext (.ref it)) Q E s := by
  obtain ⟨o, ho, hc, hd⟩ := id hit
  obtain ⟨ol, hol, _, nl, hdl⟩ := hl
  obtain ⟨hh, o1, vs1, h1, d1, c1⟩ := hot
  unfold pyNext
  refine wpAny_bind (wpAny_attempt (wpAny_callSpecial?_slot (name := Str.ofString "__next__") hit.typeIs slot_listiter_next
    (wpAny_call_entry slot_listiter_next hit.typeIs entry_listiter_next ?_ (args_listiter_next _))))
  show wpAny _ _ (field (.ref it) 0 >>= _) _ _ s
  refine wpAny_bind (wpAny_field ho hd (x := .ref l) rfl ?_)
  show wpAny _ _ (if (Value.ref l == Value.none) = true then _ else _) _ _ s
  rw [if_neg (show ¬ ((Value.ref l == Value.none) = true) from Bool.false_ne_true)]
  show wpAny _ _ (field (.ref it) 1 >>= _) _ _ s
  refine wpAny_bind (wpAny_field ho hd (x := .int i 0) rfl ?_)
  show wpAny _ _ (seqItems? (.ref l) >>= _) _ _ s
  refine wpAny_bind (wpAny_seqItems hol hdl ?_)
  simp only [Int.toNat_natCast, hx]
  refine wpAny_bind (wpAny_rule (wpAny_bind (wpAny_setField ho hd (by simp) ?_)))
  have k0 : ∀ b u, b ≠ it → s.heap.get? b = some u → (s.heap.update it (Obj.mapFields (·.setIfInBounds 0 .none))).get? b = some u := fun b u ne e => by
    rw [Heap.get?_update_other _ _ (Ne.symm ne)]
    exact e
  show wpAny _ _ (newExc (.type "StopIteration") [] >>= _) _ _ _
  refine wpAny_bind ?_
  simp only [newExc, newTuple]
  refine wpAny_bind (wpAny_newObj_type ?_ (by size_fits))
  refine wpAny_bind (m := firstArgMember _ _) (wpAny_of_eq (a := Value.none) (by first | rfl | (simp only [firstArgMember]; rfl)) ?_)
  refine wpAny_newObj_type ?_ (by size_fits)
  refine raiseNew_hot ⟨hh, o1, vs1, Heap.get?_push_of_some _ (Heap.get?_push_of_some _ (k0 _ _ hne h1)), d1, c1⟩ (Nat.ne_of_lt (Heap.lt_size (Heap.get?_push_of_some _ (k0 _ _ hne h1)))) (Heap.get?_push_size _ rfl) rfl (by first | (simp; done) | (simp; omega) | (simp only [Array.size_append]; simp; omega)) ?_
  refine wpAny_bind (wpAny_isInstance (T := "StopIteration") (b := true) ⟨_, Heap.get?_update_self _ (Heap.get?_push_size _ rfl) rfl, rfl⟩ isSubtype_stop ?_)
  refine wpAny_pure (hQ _ fun b u ne e => ?_)
  rw [Heap.get?_update_other _ _ (Nat.ne_of_gt (Heap.lt_size (Heap.get?_push_of_some _ (k0 b u ne e))))]
  exact Heap.get?_push_of_some _ (Heap.get?_push_of_some _ (k0 b u ne e))
end
theorem walks_listH {prog : Program} {w : World} {A : Around} {x1 : Addr} (I ax : Addr) (hne : ax ≠ I) (hn1 : x1 ≠ I) (items : Array Value) :
    Walks prog w A I [I, ax, x1] [I] items.size (fun i v => items[i]? = some v) (fun i h => (h.IsListIter I ax i ∧ h.IsList ax items) ∧ HotAt A x1 h) where
  sub := fun b hb => by simp at hb; simp [hb]
  frame := fun _ _ _ st hk => by
    obtain ⟨⟨s1, s2⟩, hh, o1, vs1, h1, d1, c1⟩ := st
    exact ⟨⟨s1.at fun o e => hk I (by simp) o e, s2.at fun o e => hk ax (by simp) o e⟩, hh, o1, vs1, hk x1 (by simp) _ h1, d1, c1⟩
  item := fun i s Q E hi st hQ => by
    obtain ⟨⟨s1, s2⟩, hh, o1, vs1, h1, d1, c1⟩ := st
    refine wpAny_pyNext_list_item s1 s2 (x := items[i]) (by simp [hi]) fun h' hit' hs' => ?_
    exact hQ _ h' s.toks (by simp [hi]) ⟨⟨hit', s2.extBut hs'.extBut hne⟩, hh, o1, vs1, hs'.extBut x1 o1 hn1 h1, d1, c1⟩ fun b o hb e => hs'.extBut b o (fun h => hb (by simp [h])) e
  done := fun s Q E st hQ => next_list_endH st.2 st.1.1 st.1.2 (by simp) hn1 fun h' he' => hQ h' s.toks fun b o hb e => he' b o (fun h => hb (by simp [h])) e
  self := fun _ _ _ _ st hQ => wpAny_pyIter_listiter st.1.1 hQ
theorem cr_allH {X : Cx} (K : PySem.W.Frag) (hc : HotC X) (e : X.K = K := by rfl) : CallR X (.builtin "all") (rAll K) := by
  subst e
  intro pins s σ H vs us Q I r h
  obtain ⟨a, bs, rfl, hs, q⟩ := h
  obtain ⟨its, rv, hl, _⟩ := I.list hs
  rw [Vals.ref1 r]
  have hb := rv.bls
  obtain ⟨x1, hh, o1, vs1, h1, d1, c1⟩ := hc.at I
  refine call_all_walk (iter_any hl.isList fun s₂ e2 st hne => ?_)
  subst e2
  have n1 : x1 ≠ s.heap.objs.size := Nat.ne_of_lt (Heap.lt_size h1)
  refine ⟨_, _, _, _, _, _, _, rfl, walks_listH (A := X.A.in1) (x1 := x1) _ a hne n1 its.toArray, ⟨st, hh, o1, vs1, Heap.get?_push_of_some _ h1, d1, c1⟩, truth_bools hb, fun h' tk hk => ?_⟩
  refine ⟨.bl _, H, I.kept fun b o eo => hk b o (fun hmem => ?_) (Heap.get?_push_of_some _ eo), ?_, q⟩
  · rcases List.mem_cons.mp hmem with e1 | hmem
    · exact absurd (e1 ▸ Heap.lt_size eo) (Nat.lt_irrefl _)
    · cases hmem
  · show Value.bool _ = Value.bool _
    rw [← L2.all_range, hb, List.size_toArray, List.length_map]
/-! ### the comprehension's block, the handled exception kept in sight -/
abbrev blkH (X : Cx) (s : Shared) (H : Hp) (scope : Scope) (cenv : Env) (fp : List Addr) (p : Addr × Obj) : Cx := { X.blk s H scope cenv fp with pn := [p] }
theorem blkH_ok {X : Cx} {s : Shared} {H : Hp} {scope : Scope} {cenv : Env} {fp : List Addr} {p : Addr × Obj} (ok : (X.blk s H scope cenv fp).Ok) : (blkH X s H scope cenv fp p).Ok :=
  ⟨ok.mod, ok.kind, ok.glob, ok.blt, ok.above, ok.inj, ok.has, ok.cab, ok.hd, ok.frames, ok.stk, ok.exf, ok.bs, ok.bsz, ok.noex, ok.exfs, ok.funs, ok.frf⟩
section
variable {X : Cx}
theorem lcH {pins : List (Addr × Obj)} {s : Shared} {σ : L2.St} {H : Hp} {Q : VK} {elt tg iter : Expr} {ifs : List Expr} {scope : Scope} {own : List (Str × Nat)} {pos pos' : Pos} {wi : TI} {g : TG} {tt : TT} {te : TE} {use : Option (Value → Sem Unit)} {Qf : Value → Shared → Prop}
    (hc : HotC X) (hN : X.N.Nodup) (I : Inv X pins σ H s) (hi : PIH X tg iter wi) (ok : BlkOk X.N X.env.scope scope own)
    (hg : ∀ (s : Shared) (H : Hp) (C : Addr) (cl : List (Str × Addr)) (fp : List Addr) (p : Addr × Obj), Hot1 X.A p → PG (blkH X s H scope (compEnvC scope cl C X.env) fp p) tg g) (ht : ∀ (s : Shared) (H : Hp) (C : Addr) (cl : List (Str × Addr)) (fp : List Addr) (p : Addr × Obj), Hot1 X.A p → PTs (blkH X s H scope (compEnvC scope cl C X.env) fp p) ifs tt)
    (he : ∀ (s : Shared) (H : Hp) (C : Addr) (cl : List (Str × Addr)) (fp : List Addr) (p : Addr × Obj), Hot1 X.A p → PE (blkH X s H scope (compEnvC scope cl C X.env) fp p) elt te) (hs : ∀ x, foldedSetIterable iter X.env x = pure x)
    (h : tLc wi g tt te (own.map (·.2)) σ H Q)
    (hRR : ∀ D C s' m H', Inv X pins σ H' s' → Q (.ref D) H' → s'.heap.Ns C m → FpOk X pins H' C → compPost (model X.prog X.w) X.A X.xe use Qf (.ref D) C (.ok .next) s') :
    wpAny (model X.prog X.w) X.A (comprehension (.ListComp elt [⟨tg, iter, ifs, 0⟩] scope pos) scope X.env pos' (newList []) false (eval iter X.env) use) Qf X.xe s := by
  obtain ⟨p, hot, hp⟩ := hc
  have hfree : ∀ y ∈ scope.names, y.2 = .free → ∃ c, X.env.cells.lookup y.1 = some c := fun y hy e => by
    rcases ok.free y hy e with k | k
    · exact I.ok.has _ (.inl k)
    · exact I.ok.has _ (.inr k)
  refine wpAny_comprehension_free (use := use) rfl hs (closure_ok hfree) ok.kind (fun y hy e => by rw [ok.uniq y hy, e])
    (thn (hi.run pins s σ H _ I h) fun xv s1 hx => thn hx fun itv s2 h2 => ?_)
  obtain ⟨it, fp, tn, J, H2, e, I2, T, st2, f2, q⟩ := h2
  subst e
  refine wpAny_newObj_type (newEnv_comp ?_) (by show 0 ≤ sizeLine; decide)
  generalize hD : s2.heap.objs.size = D
  have hDn : H2 D = none := I2.hok.fresh (Nat.le_of_eq hD)
  obtain ⟨W, ⟨m0, w0⟩, turn⟩ := q D hDn
  generalize hs3 : ({ s2 with heap := s2.heap.push { cls := .type "list", data := .seq ([] : List Value).toArray } } : Shared) = s3
  have I3 : Inv X pins σ (upd H2 D (.lst [])) s3 := by
    rw [← hs3]
    refine I2.laid (t' := s2.toks) (fun b o e => Heap.get?_push_of_some _ e) (Nat.le_of_eq hD) ⟨Nat.zero_le _, [], 0, .nil, ?_⟩
    rw [← hD]
    exact Heap.get?_push_size _ rfl
  have h3 : s3.heap = s2.heap.push { cls := .type "list", data := .seq ([] : List Value).toArray } := by rw [← hs3]
  have sz : ∀ b ∈ fp, b < s2.heap.objs.size := fun b hb => by
    obtain ⟨o, e, _⟩ := T.obj _ _ st2 b hb
    exact Heap.lt_size e
  have f3 : ∀ b ∈ fp, FpOk X pins (upd H2 D (.lst [])) b ∧ b < s3.heap.objs.size := fun b hb => by
    have hlt := sz b hb
    refine ⟨⟨?_, (f2 b hb).2⟩, by rw [h3, Heap.size_push]; exact Nat.lt_succ_of_lt hlt⟩
    rw [upd_ne (by rw [← hD]; exact Nat.ne_of_lt hlt)]
    exact (f2 b hb).1
  have st3 : tn 0 s3.heap := T.keep _ _ _ st2 fun b _ o e => by rw [h3]; exact Heap.get?_push_of_some _ e
  have P3 := I3.pin p (List.mem_append_left _ hp)
  have I4' := block_start I3 ok hN f3
  have I4 : Inv (blkH X s3 (upd H2 D (.lst [])) scope (compEnvC scope (cellsFrom (s3.heap.objs.size + 1) scope.names (cloFrom X.env.cells scope.names [])) s3.heap.objs.size X.env) fp p) [] (wipe σ (own.map (·.2))) (upd H2 D (.lst [])) { s3 with heap := pushCells (s3.heap.push { cls := .type "dict", data := .dict #[] }) scope.names } := by
    refine ⟨blkH_ok I4'.ok, I4'.os, I4'.bare, I4'.base, I4'.loc, I4'.cell, I4'.free, I4'.freeC, fun q hq => ?_, I4'.hok, I4'.len⟩
    have e : q = p := by simpa using hq
    subst e
    refine ⟨pushCells_keeps _ _ _ _ (Heap.get?_push_of_some _ P3.1), P3.2.1, ?_, ?_, P3.2.2.2.2⟩
    · show q.1 ≠ s3.heap.objs.size
      exact Nat.ne_of_lt (Heap.lt_size P3.1)
    · intro hm
      exact (List.mem_cons.mp (I3.stkSub q.1 hm)).elim P3.2.2.1 P3.2.2.2.1
  have pg := hg s3 (upd H2 D (.lst [])) s3.heap.objs.size (cellsFrom (s3.heap.objs.size + 1) scope.names (cloFrom X.env.cells scope.names [])) fp p hot
  have pt := ht s3 (upd H2 D (.lst [])) s3.heap.objs.size (cellsFrom (s3.heap.objs.size + 1) scope.names (cloFrom X.env.cells scope.names [])) fp p hot
  have pe := he s3 (upd H2 D (.lst [])) s3.heap.objs.size (cellsFrom (s3.heap.objs.size + 1) scope.names (cloFrom X.env.cells scope.names [])) fp p hot
  clear I4'
  show codeAny _ _ (.compStart (.ListComp elt [⟨tg, iter, ifs, 0⟩] scope pos) 0 (.ref it) (.ref D) (compEnvC scope (cellsFrom (s3.heap.objs.size + 1) scope.names (cloFrom X.env.cells scope.names [])) s3.heap.objs.size X.env)) (compPost (model X.prog X.w) X.A X.xe use Qf (.ref D) s3.heap.objs.size) { s3 with heap := pushCells (s3.heap.push { cls := .type "dict", data := .dict #[] }) scope.names }
  have nfp : ∀ b ∈ fp, (upd H2 D (.lst [])) b = none := fun b hb => (f3 b hb).1.1
  generalize hce : compEnvC scope (cellsFrom (s3.heap.objs.size + 1) scope.names (cloFrom X.env.cells scope.names [])) s3.heap.objs.size X.env = ce at I4 pg pt pe ⊢
  have cL : ce.locals = s3.heap.objs.size := by subst hce; rfl
  generalize hH3 : upd H2 D (.lst []) = H3 at I3 I4 pg pt pe w0 nfp f3 P3
  generalize hs4 : ({ s3 with heap := pushCells (s3.heap.push { cls := .type "dict", data := .dict #[] }) scope.names } : Shared) = s4 at I4 ⊢
  have st4 : tn 0 s4.heap := T.keep _ _ _ st3 fun b _ o e => by rw [← hs4]; exact pushCells_keeps _ _ _ _ (Heap.get?_push_of_some _ e)
  have hcB : HotC (blkH X s3 H3 scope ce fp p) := ⟨p, hot, List.mem_singleton.mpr rfl⟩
  have stat : ∀ {σ' : L2.St} {H' : Hp} {s' : Shared}, Inv (blkH X s3 H3 scope ce fp p) [] σ' H' s' → (∀ b ∈ fp, H' b = none) → ∀ b ∈ fp, FpOk (blkH X s3 H3 scope ce fp p) [] H' b := fun {σ' H' s'} I' hn b hb =>
    ⟨hn b hb, (I'.ok.exf b hb).1, I'.ok.exfs b hb, .inl hb, fun x c e => (I'.ok.exf b hb).2 x c e, fun q hq => by
      have e : q = p := by simpa using hq
      subst e
      exact (f3 b hb).1.2.2.2.2.2 q (List.mem_append_left _ hp)⟩
  have loop : codeAny (model X.prog X.w) X.A (.compLoop (.ListComp elt [⟨tg, iter, ifs, 0⟩] scope pos) 0 (.ref it) (.ref D) ce) (compPost (model X.prog X.w) X.A X.xe use Qf (.ref D) s3.heap.objs.size) s4 := by
    refine compLoop_any (fun n s' => ∃ i H', Inv (blkH X s3 H3 scope ce fp p) [] (wipe σ (own.map (·.2))) H' s' ∧ tn i s'.heap ∧ (∀ b ∈ fp, H' b = none) ∧ W i n H') ?_ m0 ⟨0, H3, I4, st4, nfp, w0⟩
    rintro n s5 ⟨i, H5, I5, st5, n5, w5⟩
    rcases turn i n H5 w5 with ⟨stop, qq⟩ | ⟨go, Nx, hNx, step⟩
    · have td := T.done (blkH X s3 H3 scope ce fp p) rfl rfl rfl hcB i [] s5 _ H5 (fun _ _ => False) I5 (stat I5 n5) st5 stop
      refine thnF td fun r s6 ⟨hr, I6⟩ => ?_
      subst hr
      have I7 : Inv X pins σ H5 s6 := I3.call' (ch := fp) I6.os I6.base I6.hok I6.bare fun b hb => ⟨(f3 b hb).1.2.2.2.1, (f3 b hb).1.2.1, (f3 b hb).1.2.2.2.2.1, (f3 b hb).1.2.2.2.2.2⟩
      have nC : H5 s3.heap.objs.size = none := by
        have z : H5 ce.locals = none := I6.free
        rw [cL] at z
        exact z
      obtain ⟨m, hn, _⟩ := I6.loc
      have hn : s6.heap.Ns ce.locals m := hn
      rw [cL] at hn
      exact hRR D s3.heap.objs.size s6 m H5 I7 qq hn (I3.fpOk (Nat.le_refl _) nC)
    · have ti := T.item (blkH X s3 H3 scope ce fp p) rfl rfl rfl hcB i [] s5 _ H5 (fun _ _ => False) I5 (stat I5 n5) st5 go
      refine thnF ti fun r s6 ⟨u, hr, h6⟩ => ?_
      subst hr
      refine thnF h6 fun _ s7 ⟨x, H7, I7, r7, y7, st7, n7⟩ => ?_
      have I7' := I7.pinned (stat I7 n7) (T.obj _ _ st7)
      refine thnF (pg.run _ s7 _ H7 x u _ I7' r7 (step x H7 y7)) fun _ s8 ⟨σ8, H8, I8, hw8, q8⟩ => ?_
      refine thnF (pt.run _ s8 σ8 H8 _ I8 q8) fun b s9 ⟨H9, I9, q9⟩ => ?_
      have fin : ∀ {s' : Shared} {H' : Hp}, Inv (blkH X s3 H3 scope ce fp p) ([] ++ pinsAt fp s7.heap) σ8 H' s' → Nx H' → ∃ m, m < n ∧ ∃ i H', Inv (blkH X s3 H3 scope ce fp p) [] (wipe σ (own.map (·.2))) H' s' ∧ tn i s'.heap ∧ (∀ b ∈ fp, H' b = none) ∧ W i m H' := fun {s' H'} I' nx => by
        obtain ⟨m', hm, w'⟩ := hNx H' nx
        have pin' : ∀ b ∈ fp, ∀ o, s7.heap.get? b = some o → s'.heap.get? b = some o ∧ H' b = none := fun b hb o e =>
          let z := I'.pin (b, o) (List.mem_append_right _ (List.mem_append_right _ (mem_pinsAt hb e)))
          ⟨z.1, z.2.1⟩
        have hl : (wipe σ (own.map (·.2))).length = σ8.length := by rw [← hw8, wipe_length]
        refine ⟨m', hm, i + 1, H', (I'.unpinned (pins := [])).weak hl (fun j v e => ?_), T.keep _ _ _ st7 fun b hb o e => (pin' b hb o e).1, fun b hb => ?_, w'⟩
        · rw [← hw8] at e
          exact (wipe_some e).1
        · obtain ⟨o, e, _⟩ := T.obj _ _ st7 b hb
          exact (pin' b hb o e).2
      cases b with
      | false =>
        simp only [Bool.false_eq_true, if_false] at q9 ⊢
        exact fin I9 q9
      | true =>
        simp only [if_true] at q9 ⊢
        refine thnF (pe.run _ s9 σ8 H9 _ I9 q9) fun z s10 ⟨yv, H10, I10, r10, acc, hD10, hz10, nx⟩ => ?_
        exact app_ok (X := blkH X s3 H3 scope ce fp p) I10 hD10 hz10 r10 fun s11 I11 => fin I11 nx
  exact codeAny_compStart_list loop (T.self X.A 0 _ _ _ st4 loop)
theorem pe_lcH {elt tg iter : Expr} {ifs : List Expr} {scope : Scope} {own : List (Str × Nat)} {pos : Pos} {wi : TI} {g : TG} {tt : TT} {te : TE} (hc : HotC X) (hN : X.N.Nodup) (hi : PIH X tg iter wi) (ok : BlkOk X.N X.env.scope scope own)
    (hg : ∀ (s : Shared) (H : Hp) (C : Addr) (cl : List (Str × Addr)) (fp : List Addr) (p : Addr × Obj), Hot1 X.A p → PG (blkH X s H scope (compEnvC scope cl C X.env) fp p) tg g) (ht : ∀ (s : Shared) (H : Hp) (C : Addr) (cl : List (Str × Addr)) (fp : List Addr) (p : Addr × Obj), Hot1 X.A p → PTs (blkH X s H scope (compEnvC scope cl C X.env) fp p) ifs tt)
    (he : ∀ (s : Shared) (H : Hp) (C : Addr) (cl : List (Str × Addr)) (fp : List Addr) (p : Addr × Obj), Hot1 X.A p → PE (blkH X s H scope (compEnvC scope cl C X.env) fp p) elt te) (hs : ∀ x, foldedSetIterable iter X.env x = pure x := by intro _; rfl) :
    PE X (.ListComp elt [⟨tg, iter, ifs, 0⟩] scope pos) (tLc wi g tt te (own.map (·.2))) := by
  refine ⟨fun pins s σ H Q I h => ?_⟩
  rw [eval_ListComp]
  refine lcH hc hN I hi ok hg ht he hs h fun D C s' m H' I' q hn f => ⟨m, hn, fun h'' sb => ?_⟩
  obtain ⟨f0, f1, f2, f3, f4, f5⟩ := f
  exact ⟨.ref D, H', I'.turned (t' := s'.toks) (fun b o hb e => (sb.2 b hb).trans e) f0 f1 f3 f4 f5, rfl, q⟩
end
/-! ### in a suite: isinstance(e, (c, d)) -/
theorem vals_refs : ∀ {cs : List Addr} {its : List Value}, Vals (cs.map V.ref) its → its = cs.map Value.ref
  | [], _, .nil => rfl
  | c :: cs, _, .cons r rr => by
    obtain rfl := (show _ = Value.ref c from r)
    rw [vals_refs rr]
    rfl
def rIsXU (K : PySem.W.Frag) (a : Addr) (cls : Value) (d : Option Addr) : List V → Hp → VK → Prop := fun xs H Q => ∃ (D tp : Addr) (cs : List Addr) (b : Bool), cls = .ref D ∧ IsC K D ∧ (d = none ∨ ∃ dd fs, d = some dd ∧ H dd = some (.xd fs)) ∧ xs = [.ref a, .ref tp] ∧ H tp = some (.tup (cs.map V.ref)) ∧ PySem.W.kitAny K (.ref D) (cs.map Value.ref) = some b ∧ Q (.bl b) H
theorem cr_isXU {X : Cx} {a : Addr} {oe : Obj} {cls : Value} {d : Option Addr} {pn : List (Addr × Obj)} (K : PySem.W.Frag) (hz : L2.Zc cls d oe) (hf : ∃ vs, oe.data = .fields vs) (e : X.K = K := by rfl) : CallR (X.suite a ((a, oe) :: pn)) (.builtin "isinstance") (rIsXU K a cls d) := by
  subst e
  intro pins s σ H xs us Q I r h
  obtain ⟨D, tp, cs, b, ecl, C, hd, rfl, hT, e, q⟩ := h
  obtain ⟨u1, u2, rfl, r1, r2⟩ := vals2 r
  cases (show u1 = Value.ref a from r1)
  cases (show u2 = Value.ref tp from r2)
  obtain ⟨hget, _⟩ := I.pin (a, oe) (List.mem_append.mpr (.inl List.mem_cons_self))
  obtain ⟨vs, hv⟩ := hf
  have hcl : oe.cls = .ref D := hz.1.trans ecl
  have hdx := hz.2
  obtain ⟨_, its, rv, o, h1, h2, n, h3⟩ := (show ObjOk X.prog X.w H s.heap tp (.tup (cs.map V.ref)) from I.hok tp _ hT)
  have e3 := vals_refs rv
  subst e3
  obtain ⟨oc, od, dt, sl⟩ := o
  simp only at h2 h3
  subst h2 h3
  have key : ∀ od, PySem.W.InstAt s.heap a oe D od → wpAny (model X.prog X.w) (X.suite a ((a, oe) :: pn)).A (call (.builtin "isinstance") [.ref a, .ref tp]) (EP (X.suite a ((a, oe) :: pn)) pins σ Q) (X.suite a ((a, oe) :: pn)).xe s := fun od J =>
    PySem.W.kia_tup (PySem.W.kitx_exc C.cl C.hg C.hk C.hs C.ha C.hn C.ht C.hm) I.kIn J h1 e (fun z => nomatch z) fun tk => ⟨.bl b, H, I.kept (t' := tk) fun _ _ z => z, rfl, q⟩
  rcases hd with hd | ⟨dd, fs, hd, ea⟩
  · refine key none ?_
    rw [hd] at hdx
    exact ⟨hget, hcl, by unfold PySem.W.notCls; rw [hv] <;> rfl, by rw [hdx]; trivial⟩
  · have hx : ObjOk X.prog X.w H s.heap dd (.xd fs) := I.hok dd _ ea
    obtain ⟨mA, hns, hr⟩ := hx
    obtain ⟨od, ho, hl⟩ := lookIn_ns hns
    refine key (some od) ?_
    rw [hd] at hdx
    exact ⟨hget, hcl, by unfold PySem.W.notCls; rw [hv] <;> rfl, by rw [hdx]; exact ho⟩
theorem g_isXU {K : PySem.W.Frag} {a D C1 C2 dd tp : Addr} {fs : List (Str × V)} {b1 b2 : Bool} {H : Hp} {Q : VK} (I : IsC K D) (hd : H dd = some (.xd fs)) (ht : H tp = some (.tup [.ref C1, .ref C2])) (k1 : PySem.W.kitOne K (.ref D) (.ref C1) = some b1) (k2 : PySem.W.kitOne K (.ref D) (.ref C2) = some b2) (q : Q (.bl (b1 || b2)) H) : rIsXU K a (.ref D) (some dd) [.ref a, .ref tp] H Q := by
  refine ⟨D, tp, [C1, C2], b1 || b2, rfl, I, .inr ⟨dd, fs, rfl, hd⟩, rfl, ht, ?_, q⟩
  refine kitAny_cons k1 (fun z => ?_) (fun z => by rw [z]; rfl)
  refine kitAny_cons k2 (fun y => ?_) (fun y => by rw [z, y]; rfl)
  rw [z, y]
  exact kitAny_nil
end Qk

set_option maxHeartbeats 2000000
/-! Qg: a for loop in a generator's body. -/
namespace Qk
open PySem PySem.Spec PyProof.Rows GenW L2
section
variable {M : Model} {A : Around} {R : GenEnd} {Y : Protocol} {n : Nat} {s₀ : Shared} {c : Code} {fs : List Frame} {s : Shared} {env : Env}
theorem segw_bind {α β : Type} {m : Sem α} {f : α → Sem β} {K : β → Sem PySem.Fin} {J : Value → Sem PySem.Fin} {gd : Bool → Bool} {lv : List Value → List Value}
    (h : wpAny M (A.over c fs) m (fun a s' => Seg M A R Y n s₀ c ((f a).wrap K J gd lv) fs s') (fun x s' => Seg M A R Y n s₀ c (J x) fs s') s) : Seg M A R Y n s₀ c ((m >>= f).wrap K J gd lv) fs s := by
  rw [Sem.bind_eq_wrap', Sem.wrap_wrap]
  exact seg_wrap h
theorem seg_For {K : Flow → Sem PySem.Fin} {H : Value → Sem PySem.Fin} {gd : Bool → Bool} {lv : List Value → List Value} {target iter : Expr} {body orelse : List Stmt} {pos : Pos} (hs : ∀ x, foldedSetIterable iter env x = pure x)
    (h : wpAny M (A.over c fs) (eval iter env) (fun x s₁ => wpAny M (A.over c fs) (pyIter x) (fun it s₂ => ∀ p, Seg M A R Y n s₀ (.forLoop target it body orelse env) (M.den (.forLoop target it body orelse env))
      (.ret (fun r => ((match r with | .ok f => (.pure f : Sem Flow) | .error e => .raise e).onRaise (cameBack env)).wrap K H gd lv) none (gd false) (lv []) c p [] :: fs) s₂) (fun x s' => Seg M A R Y n s₀ c (H x) fs s') s₁) (fun x s' => Seg M A R Y n s₀ c (H x) fs s') s) :
    Seg M A R Y n s₀ c ((exec (.For target iter body orelse pos) env).wrap K H gd lv) fs s := by
  rw [exec_For]
  refine segw_bind (wpAny_standAt ?_)
  refine segw_bind (wpAny_mono h (fun v s1 h1 => ?_) fun _ _ hx => hx)
  refine segw_bind (wpAny_of_eq (hs v) ?_)
  refine segw_bind (wpAny_standAt ?_)
  refine segw_bind (wpAny_holding (wpAny_mono h1 (fun it s2 h2 => ?_) fun _ _ hx => hx))
  exact seg_call h2
end
section
variable {prog : Program} {w : World} {A : Around} {R : GenEnd} {Y : Protocol} {n : Nat} {s₀ : Shared} {fs : List Frame} {s : Shared} {env : Env}
abbrev exF (env : Env) (e : Value) : Sem PySem.Fin := (do noteFrame e env; theTreesLotGoes e : Sem Unit).bind fun _ => .raise e
theorem seg_forLoop {target : Expr} {it : Value} {body : List Stmt}
    (h : wpAny (model prog w) (A.over (.forLoop target it body [] env) fs) (pyNext it) (fun r s1 => match r with
      | none => Seg (model prog w) A R Y n s₀ (.block [] env) ((model prog w).den (.block [] env)) fs s1
      | some v => wpAny (model prog w) (A.over (.forLoop target it body [] env) fs) (letOwnedTupleGo target it v) (fun _ s' => wpAny (model prog w) (A.over (.forLoop target it body [] env) fs) (assign target env v) (fun _ s2 =>
          Seg (model prog w) A R Y n s₀ (.forLoop target it body [] env) ((execs body env).wrap (fun f => match f with
            | .next | .cont => .pure (.again (.forLoop target it body [] env))
            | .brk => .pure (.done .next)
            | .ret v => .pure (.done (.ret v))) (exF env) id id) fs s2) (fun x s' => Seg (model prog w) A R Y n s₀ (.forLoop target it body [] env) (exF env x) fs s') s') (fun x s' => Seg (model prog w) A R Y n s₀ (.forLoop target it body [] env) (exF env x) fs s') s1)
      (fun x s' => Seg (model prog w) A R Y n s₀ (.forLoop target it body [] env) (exF env x) fs s') s) :
    Seg (model prog w) A R Y n s₀ (.forLoop target it body [] env) ((model prog w).den (.forLoop target it body [] env)) fs s := by
  show Seg _ A R Y n s₀ _ ((forTurn target it body [] env).onRaise (fun x => do noteFrame x env; theTreesLotGoes x)) fs s
  rw [Sem.onRaise_eq_wrap]
  unfold forTurn
  refine segw_bind (wpAny_standAt ?_)
  refine segw_bind (wpAny_onRaise (wpAny_mono h (fun r s1 h1 => ?_) fun _ _ h' => wpAny_standAt h'))
  cases r with
  | none => exact seg_again rfl h1
  | some v =>
    refine segw_bind (wpAny_mono h1 (fun _ s' h' => ?_) fun _ _ hx => hx)
    refine segw_bind (wpAny_mono h' (fun _ s2 h2 => ?_) fun _ _ hx => hx)
    show Seg _ A R Y n s₀ _ (Sem.wrap _ _ _ _ (execs body env >>= _)) fs s2
    rw [Sem.bind_eq_wrap', Sem.wrap_wrap]
    have e : ∀ K1 : Flow → Sem PySem.Fin, (∀ f, K1 f = match f with
            | .next | .cont => .pure (.again (.forLoop target it body [] env))
            | .brk => .pure (.done .next)
            | .ret v => .pure (.done (.ret v))) → Seg (model prog w) A R Y n s₀ (.forLoop target it body [] env) ((execs body env).wrap K1 (exF env) id id) fs s2 := fun K1 hK => by
      rw [funext hK]
      exact h2
    exact e _ fun f => by cases f <;> rfl
end
/-! ### the statement -/
def tGFor (wi : TI) (g : TG) (tb : TGn) : TGn := fun D ys σ H => wi σ H fun J H1 => ∃ W : Nat → Nat → List V → L2.St → Hp → Prop, (∃ m, W 0 m ys σ H1) ∧ ∀ i m ys σ H, W i m ys σ H →
  (J.stop i H ∧ D.nx ys σ H) ∨ (J.go i H ∧ ∃ N : List V → L2.St → Hp → Prop, (∀ ys' σ' H', N ys' σ' H' → ∃ m', m' < m ∧ W (i + 1) m' ys' σ' H') ∧ ∀ x H', J.yld i H x H' → g x σ H' fun σ2 H2 => tb { D with nx := N, ct := N, bk := D.nx } ys σ2 H2)
section
variable {X : Cx}
theorem gs_for {tg iter : Expr} {body : List Stmt} {wi : TI} {g : TG} {tb : TGn} {pos : Pos} (hp : PassesOwn (model X.prog X.w) X.A X.env X.xe) (hc : X.calm = true) (hi : PI X tg iter wi) (hg : PG X tg g) (hb : GSs X body tb)
    (hs : ∀ x, foldedSetIterable iter X.env x = pure x := by intro _; rfl) : GS X (.For tg iter body [] pos) (tGFor wi g tb) := by
  refine ⟨fun A S ip R n ys s₀ c fs K J gd lv s σ H D g_ hn k hI ht => ?_⟩
  obtain ⟨acc, cc, r, I⟩ := hI
  refine seg_For hs ?_
  rw [g_.over]
  refine wpAny_mono (hi.run _ s σ H _ I ht) (fun v s1 h1 => wpAny_mono h1 (fun itv s2 h2 => ?_) fun x s' hx => k.exc n s₀ x s' hx) fun x s' hx => k.exc n s₀ x s' hx
  obtain ⟨it, fp, tn, Jt, H2, e, I2, T, st2, f2, W, ⟨m0, w0⟩, turn⟩ := h2
  subst e
  intro p
  have gl := fun (kk : Result → Sem PySem.Fin) => gc_loop (k := kk) (c' := .forLoop tg (.ref it) body [] X.env) (l := lv []) (kp := []) (p := p) g_ rfl rfl
  have neS : ∀ b ∈ fp, S ≠ b := fun b hb => (f2 b hb).2.2.2.2.2 (S, lstObj acc cc) (List.mem_append_right _ List.mem_cons_self)
  have stat : ∀ {H' : Hp} {acc' : Array Value} {cc' : Nat}, (∀ b ∈ fp, H' b = none) → ∀ b ∈ fp, FpOk X ((S, lstObj acc' cc') :: ip) H' b := fun hn b hb =>
    ⟨hn b hb, (f2 b hb).2.1, (f2 b hb).2.2.1, (f2 b hb).2.2.2.1, (f2 b hb).2.2.2.2.1, fun q hq => by
      rcases List.mem_append.mp hq with hq | hq
      · exact (f2 b hb).2.2.2.2.2 q (List.mem_append_left _ hq)
      · rcases List.mem_cons.mp hq with rfl | hq
        · exact neS b hb
        · exact (f2 b hb).2.2.2.2.2 q (List.mem_append_right _ (List.mem_cons_of_mem _ hq))⟩
  have loop : ∀ (m n i : Nat) (ys : List V) (s₀ s : Shared) (σ : L2.St) (H : Hp), n + ys.length = sizeLine → W i m ys σ H → GI X S ip ys σ H s → tn i s.heap → (∀ b ∈ fp, H b = none) →
      Seg (model X.prog X.w) A R (GY X S) n s₀ (.forLoop tg (.ref it) body [] X.env) ((model X.prog X.w).den (.forLoop tg (.ref it) body [] X.env))
        (.ret (fun r => ((match r with | .ok f => (.pure f : Sem Flow) | .error e => .raise e).onRaise (cameBack X.env)).wrap K J gd lv) none (gd false) (lv []) c p [] :: fs) s := by
    intro m
    induction m using Nat.strongRecOn with
    | ind m ih =>
      intro n i ys s₀ s σ H hn w hI st fr
      have ee : ∀ (n : Nat) (s₀ : Shared) (x : Value) (s' : Shared), X.xe x s' → Seg (model X.prog X.w) A R (GY X S) n s₀ (.forLoop tg (.ref it) body [] X.env) (exF X.env x)
          (.ret (fun r => ((match r with | .ok f => (.pure f : Sem Flow) | .error e => .raise e).onRaise (cameBack X.env)).wrap K J gd lv) none (gd false) (lv []) c p [] :: fs) s' := fun n s₀ x s' hx => by
        show Seg _ _ _ _ _ _ _ ((do noteFrame x X.env; theTreesLotGoes x : Sem Unit).bind fun _ => .raise x) _ _
        rw [Sem.bind_eq_wrap]
        refine seg_wrap ?_
        rw [(gl _).over]
        refine wpAny_bind (wpAny_mono (hp x s' hx) (fun _ s'' hcb => wpAny_theTreesLotGoes ?_) fun y s'' hcb => ?_)
        · exact seg_leaf (.error x) (seg_cameBack g_ k hcb)
        · exact seg_leaf (.error y) (seg_cameBack g_ k hcb)
      refine seg_forLoop ?_
      rw [(gl _).over]
      obtain ⟨acc', cc', r', I3⟩ := hI
      rcases turn i m ys σ H w with ⟨stop, qn⟩ | ⟨go, N, hN, step⟩
      · refine wpAny_mono (T.done X rfl rfl rfl hc i _ s σ H _ I3 (stat fr) st stop) (fun r s4 ⟨hr, I4⟩ => ?_) fun _ _ hx => hx
        subst hr
        exact seg_leaf (.ok .next) (k.ok n ys s₀ s4 .next hn ⟨σ, H, ⟨acc', cc', r', I4⟩, qn⟩)
      · refine wpAny_mono (T.item X rfl rfl rfl hc i _ s σ H _ I3 (stat fr) st go) (fun r s4 ⟨u, hr, h4⟩ => ?_) fun _ _ hx => hx
        subst hr
        refine wpAny_mono h4 (fun _ s5 ⟨x, H5, I5, r5, y5, st5, fr5⟩ => ?_) fun _ _ hx => hx
        have I5' := I5.pinned (stat fr5) (T.obj _ _ st5)
        refine wpAny_mono (hg.run _ s5 σ H5 x u _ I5' r5 (step x H5 y5)) (fun _ s6 ⟨σ6, H6, I6, q6⟩ => ?_) fun x s' hx => ee n s₀ x s' hx
        have gg := gl (fun r => ((match r with | .ok f => (.pure f : Sem Flow) | .error e => .raise e).onRaise (cameBack X.env)).wrap K J gd lv)
        have gb : GC X S (ip ++ pinsAt fp s5.heap) A (.forLoop tg (.ref it) body [] X.env) (.ret (fun r => ((match r with | .ok f => (.pure f : Sem Flow) | .error e => .raise e).onRaise (cameBack X.env)).wrap K J gd lv) none (gd false) (lv []) c p [] :: fs) id :=
          ⟨gg.pn, fun q hq => by
            rcases List.mem_append.mp hq with hq | hq
            · exact gg.ip q hq
            · exact fun e => neS q.1 (of_pinsAt hq).1 e.symm, gg.apart, gg.over, gg.split, gg.guard, gg.gd⟩
        have off : ∀ {ys' : List V} {σ' : L2.St} {H' : Hp} {s' : Shared}, GI X S (ip ++ pinsAt fp s5.heap) ys' σ' H' s' → GI X S ip ys' σ' H' s' ∧ tn (i + 1) s'.heap ∧ ∀ b ∈ fp, H' b = none := fun {ys' σ' H' s'} h => by
          obtain ⟨a2, c2, r2, I7⟩ := h
          have pin : ∀ b ∈ fp, ∀ o, s5.heap.get? b = some o → s'.heap.get? b = some o ∧ H' b = none := fun b hb o e =>
            let z := I7.pin (b, o) (List.mem_append_right _ (List.mem_cons_of_mem _ (List.mem_append_right _ (mem_pinsAt hb e))))
            ⟨z.1, z.2.1⟩
          refine ⟨⟨a2, c2, r2, I7.pins_of fun q hq => I7.pin q ?_⟩, T.keep _ _ _ st5 fun b hb o e => (pin b hb o e).1, fun b hb => ?_⟩
          · rcases List.mem_cons.mp hq with rfl | hq
            · exact List.mem_append_right _ List.mem_cons_self
            · exact List.mem_append_right _ (List.mem_cons_of_mem _ (List.mem_append_left _ hq))
          · obtain ⟨o, e, _⟩ := T.obj _ _ st5 b hb
            exact (pin b hb o e).2
        refine hb.run A S (ip ++ pinsAt fp s5.heap) R n ys s₀ _ _ _ _ id id s6 σ6 H6 { D with nx := N, ct := N, bk := D.nx } gb hn ⟨fun n' ys' s₀' s3 f hn' hs' => ?_, fun n' s₀' x s3 hx => ee n' s₀' x s3 hx⟩ ⟨acc', cc', r', I6⟩ q6
        cases f with
        | next =>
          obtain ⟨σ3, H3, I3, n3⟩ := hs'
          obtain ⟨m', hm, w3⟩ := hN ys' σ3 H3 n3
          obtain ⟨o1, o2, o3⟩ := off I3
          exact seg_again rfl (ih m' hm n' (i + 1) ys' s₀' s3 σ3 H3 hn' w3 o1 o2 o3)
        | cont =>
          obtain ⟨σ3, H3, I3, n3⟩ := hs'
          obtain ⟨m', hm, w3⟩ := hN ys' σ3 H3 n3
          obtain ⟨o1, o2, o3⟩ := off I3
          exact seg_again rfl (ih m' hm n' (i + 1) ys' s₀' s3 σ3 H3 hn' w3 o1 o2 o3)
        | brk =>
          obtain ⟨σ3, H3, I3, q3⟩ := hs'
          exact seg_leaf (.ok .next) (k.ok n' ys' s₀' s3 .next hn' ⟨σ3, H3, (off I3).1, q3⟩)
        | ret v =>
          obtain ⟨x3, σ3, H3, I3, rv, q3⟩ := hs'
          exact seg_leaf (.ok (.ret v)) (k.ok n' ys' s₀' s3 (.ret v) hn' ⟨x3, σ3, H3, (off I3).1, rv, q3⟩)
  exact loop m0 n 0 ys s₀ s2 σ H2 hn w0 ⟨acc, cc, r, I2⟩ st2 fun b hb => (f2 b hb).1
end
/-! ### the loops in continuation form -/
def kWG (J : It) (g : TG) (tb : TGn) (D : GEnds) (ys : List V) (σ : L2.St) (H : Hp) : Prop := ∃ W : Nat → Nat → List V → L2.St → Hp → Prop, (∃ m, W 0 m ys σ H) ∧ ∀ i m ys σ H, W i m ys σ H →
  (J.stop i H ∧ D.nx ys σ H) ∨ (J.go i H ∧ ∃ N : List V → L2.St → Hp → Prop, (∀ ys' σ' H', N ys' σ' H' → ∃ m', m' < m ∧ W (i + 1) m' ys' σ' H') ∧ ∀ x H', J.yld i H x H' → g x σ H' fun σ2 H2 => tb { D with nx := N, ct := N, bk := D.nx } ys σ2 H2)
def kGForL (K : PySem.W.Frag) (g : TG) (tb : TGn) (D : GEnds) (ys : List V) (σ : L2.St) (x : V) (H : Hp) : Prop := ∃ a, x = .ref a ∧ (∃ xs, SqL K H a xs) ∧ kWG (Itl K a) g tb D ys σ H
def kGForE (K : PySem.W.Frag) (g : TG) (tb : TGn) (D : GEnds) (ys : List V) (σ : L2.St) (vs : List V) (H : Hp) : Prop := ∃ a xs, vs = [.ref a] ∧ SqL K H a xs ∧ kWG (Ite K a) g tb D ys σ H
section
variable {K : PySem.W.Frag} {σ : L2.St} {H : Hp} {D : GEnds} {ys : List V} {ts : TGn} {g : TG}
theorem g_gforL {te : TE} (q : te σ H fun x H1 => kGForL K g ts D ys σ x H1) : tGFor (iList K te) g ts D ys σ H := q
theorem g_gforE {ta : TA} (q : ta σ H fun vs H1 => kGForE K g ts D ys σ vs H1) : tGFor (iEnum K ta) g ts D ys σ H := q
theorem k_gforL {a : Addr} {xs : List V} (h : H a = some (.lst xs)) (Pv : Nat → List V → L2.St → Hp → Prop) (h0 : Pv 0 ys σ H) (hl : ∀ i ys σ H, Pv i ys σ H → H a = some (.lst xs))
    (hs : ∀ i x ys σ H, xs[i]? = some x → Pv i ys σ H → g x σ H fun σ2 H2 => ts { D with nx := Pv (i + 1), ct := Pv (i + 1), bk := D.nx } ys σ2 H2) (hd : ∀ ys σ H, Pv xs.length ys σ H → D.nx ys σ H) : kGForL K g ts D ys σ (.ref a) H := by
  refine ⟨a, rfl, ⟨xs, SqL.of h⟩, fun i m ys σ H => m = xs.length - i ∧ i ≤ xs.length ∧ Pv i ys σ H, ⟨_, rfl, Nat.zero_le _, h0⟩, ?_⟩
  rintro i m ys σ H1 ⟨rfl, hi, p⟩
  have hq : SqL K H1 a xs := SqL.of (hl i ys σ H1 p)
  by_cases hlt : i < xs.length
  · refine .inr ⟨⟨xs, xs[i], hq, List.getElem?_eq_getElem hlt⟩, Pv (i + 1), fun ys' σ' H' p' => ⟨xs.length - (i + 1), by omega, rfl, hlt, p'⟩, ?_⟩
    rintro x H' ⟨e, y⟩
    subst e
    exact hs i x ys σ _ (y xs hq) p
  · have e : i = xs.length := by omega
    subst e
    exact .inl ⟨⟨xs, hq, Nat.le_refl _⟩, hd ys σ H1 p⟩
theorem k_gforE {a : Addr} {xs : List V} (h : H a = some (.lst xs)) (Pv : Nat → List V → L2.St → Hp → Prop) (h0 : Pv 0 ys σ H) (hl : ∀ i ys σ H, Pv i ys σ H → H a = some (.lst xs))
    (hs : ∀ i x ys σ H T, xs[i]? = some x → Pv i ys σ H → H T = none → g (.ref T) σ (upd H T (.tup [.int (i : Nat), x])) fun σ2 H2 => ts { D with nx := Pv (i + 1), ct := Pv (i + 1), bk := D.nx } ys σ2 H2) (hd : ∀ ys σ H, Pv xs.length ys σ H → D.nx ys σ H) : kGForE K g ts D ys σ [.ref a] H := by
  refine ⟨a, xs, rfl, SqL.of h, fun i m ys σ H => m = xs.length - i ∧ i ≤ xs.length ∧ Pv i ys σ H, ⟨_, rfl, Nat.zero_le _, h0⟩, ?_⟩
  rintro i m ys σ H1 ⟨rfl, hi, p⟩
  have hq : SqL K H1 a xs := SqL.of (hl i ys σ H1 p)
  by_cases hlt : i < xs.length
  · refine .inr ⟨⟨xs, xs[i], hq, List.getElem?_eq_getElem hlt⟩, Pv (i + 1), fun ys' σ' H' p' => ⟨xs.length - (i + 1), by omega, rfl, hlt, p'⟩, ?_⟩
    rintro x H' ⟨T, y, rfl, n, rfl, e⟩
    exact hs i y ys σ H1 T (e xs hq) p n
  · have e : i = xs.length := by omega
    subst e
    exact .inl ⟨⟨xs, hq, Nat.le_refl _⟩, hd ys σ H1 p⟩
/-- the other statements -/
theorem g_gplain {t : TS} (q : t (D.at ys) σ H) : tPlain t D ys σ H := q
theorem g_gthen {t u : TGn} (q : t { D with nx := fun ys' σ' H' => u D ys' σ' H' } ys σ H) : tGThen t u D ys σ H := q
theorem g_gyield {te : TE} (l : ys.length < sizeLine) (q : te σ H fun x H1 => D.nx (ys ++ [x]) σ H1) : tGYield te D ys σ H := ⟨l, q⟩
theorem g_g0 (q : D.nx ys σ H) : tG0 D ys σ H := q
end
/-! ### an exception whose context is None is one -/
theorem cxN_cx {P : Program} {w : World} {outer : List Env} {H : Hp} {s : Shared} {E : XK} {u : Value} {s' : Shared} (c : L2N.CX P w outer H s E u s') : L2.CX P w outer H s E u s' := by
  obtain ⟨a, B, H', cls, d, e, fl, r⟩ := c
  exact ⟨a, B, H', cls, d, e, L2H.flyingZ_imp (fun _ z => z.zc) fl, r⟩
theorem passAtG {X : Cx} {W : WX} (tk : L2.Takes X W) (σ : L2.St) : PassesAt (L2N.CX X.prog X.w) X σ (WE W σ) := fun p H s e s' I c => L2.passAt tk σ p H s e s' I (cxN_cx c)
theorem Fun.okG {P : Program} {w : World} {K : PySem.W.Frag} {mg : Str → Option Value} {base : Heap} {x qual : Str} {st : Stmt} {f : Addr} {fd : FuncData} {N ps : List Str} {k : Nat} {sp : SpG} (F : Fun K x qual st f fd) (S : GScope N ps (defScope st)) (len : ∀ vs H Q E, sp vs H Q E → vs.length = ps.length)
    (hbody : ∀ (cdv : Value) (A : Around) (outer : List Env) (s : Shared) (H : Hp) (vs : List V) (Q : List V → Hp → Prop) (E : XK) (pn : List (Addr × Obj)), Room k (A.deeper (envOfC qual (defScope st) s.heap.objs.size f cdv)) → sp vs H Q E →
      ∃ t, GSs (gcxOf P w K mg base N qual (defScope st) f cdv A outer s H E pn) (defBody st) t ∧ t { nx := fun ys _ H' => Q ys H', rt := fun ys v H' => v = .non ∧ Q ys H' } [] (L2.start N vs) H) : GFn P w K mg base (k + 1) f fd ps sp := by
  obtain ⟨oc, od, kV, doc, pm, an, cdv, ct, osl, rfl, lk, hcd⟩ := F.ex
  exact gfn_of lk hcd S len fun A outer s H vs Q E pn hr h => hbody cdv A outer s H vs Q E pn hr h
end Qk

/-! Qc: exceptions of which no more is known than class and dict: those out of list(g); try with several clauses over them -/
namespace Qk
open PySem PySem.Spec PyProof.Rows GenW L2
inductive ClausesC (X : Cx) (n : Str) : List ExceptHandler → List (Value × Cls3) → Prop
  | nil : ClausesC X n [] []
  | cons {x : Str} {c : Value} {ts : Cls3} {b : Stmt} {su : List Stmt} {q1 q2 : Pos} {hs : List ExceptHandler} {l : List (Value × Cls3)} (nm : Names X x c)
      (sp : ∀ (a : Addr) (o : Obj) (cls : Value) (d : Option Addr) (pn : List (Addr × Obj)), L2.Zc cls d o → (∃ vs, o.data = .fields vs) → PSs (X.suite a ((a, o) :: pn)) (b :: su) (ts a cls d)) (rest : ClausesC X n hs l) :
      ClausesC X n (.ExceptHandler (some (.Name x q1)) (some n) (b :: su) q2 :: hs) ((c, ts) :: l)
set_option maxHeartbeats 4000000 in
theorem ps_tryC {X : Cx} {n : Str} {i : Nat} {body : List Stmt} {h0 : ExceptHandler} {hds : List ExceptHandler} {l : List (Value × Cls3)} {pos : Pos} {tb : WX → TS} {Wout : WX}
    (st : X.stack = X.env :: X.outer) (fr : X.env.frame = some X.env.locals) (nd : X.N.Nodup) (ni : X.N[i]? = some n) (lo : X.env.kindOf n = some .local) (tk : L2.Takes X Wout)
    (hb : ∀ (W : WX) (pn : List (Addr × Obj)) (xe : Value → Shared → Prop), L2.Takes (X.tr pn xe) W → PassesOwn (model X.prog X.w) X.A X.env xe → PSs (X.tr pn xe) body (tb W))
    (cs : ClausesC X n (h0 :: hds) l) : PS X (.Try body (h0 :: hds) [] [] pos) (fun D σ H => tb (wAsM X.K i Wout D l) D σ H) := by
  refine ⟨fun pins s σ H D I want => ?_⟩
  have I0 := I.ok
  have frs0 : X.A.frames = some (X.env :: X.outer) := by rw [I0.frames, st]
  refine wpAny_Try_except ?_
  let caught : Value → Shared → Prop := fun e s1 => wpAny (model X.prog X.w) X.A (noteFrame e X.env) (fun _ s2 => wpAny (model X.prog X.w) X.A (setFlight e none) (fun _ s3 => wpAny (model X.prog X.w) X.A (handleBy e X.env (h0 :: hds)) (SP X pins D) X.xe s3) X.xe s2) X.xe s1
  have take : L2.Takes (X.tr (X.pn ++ pins) caught) (wAsM X.K i Wout D l) := fun u s' xx => by
    obtain ⟨a, B, sI, pins', σ1, H1, cls, d, rfl, J', nb, up, sky, na, os, ag, w⟩ := xx
    have J : Inv X pins σ1 H1 sI := J'.ofTry I0
    have sk : Sky B (X.env :: X.outer) a (L2.Zc cls d) X.env.locals s'.heap := by rw [← st]; exact sky
    show wpAny (model X.prog X.w) X.A (noteFrame (.ref a) X.env) _ _ _
    refine L2.Sky.land L2.Zc.steady frs0 fr sk fun h3 f3 u3 => ?_
    have J3 : Inv X pins σ1 H1 { s' with heap := h3 } := J.landed nb f3.1 (up.trans u3) os ag
    obtain ⟨o3, vs3, at3, z3, d3⟩ := f3.there
    have noFrame : a ∉ frs (X.env :: X.outer) := fun m => by
      obtain ⟨_, o', e', bad⟩ := f3.2.2.1.mem m
      rw [at3] at e'
      cases e'
      exact bad _ d3
    have nL : a ≠ X.env.locals := fun z => noFrame (List.mem_filterMap.mpr ⟨X.env, List.mem_cons_self, by rw [fr, z]⟩)
    have nF : a ∉ X.fs := fun m => by
      obtain ⟨e, he, q⟩ := List.mem_filterMap.mp m
      exact noFrame (List.mem_filterMap.mpr ⟨e, List.mem_cons_of_mem _ he, q⟩)
    have S3 := J3.suite at3 d3 na nL nF
    have step : ∀ {hs : List ExceptHandler} {l' : List (Value × Cls3)}, ClausesC X n hs l' → wAsM X.K i Wout D l' cls d σ1 H1 → wpAny (model X.prog X.w) X.A (handleBy (.ref a) X.env hs) (SP X pins D) X.xe { s' with heap := h3 } := by
      intro hs l' c
      induction c with
      | nil =>
        intro w0
        refine wpAny_handleBy_nil ?_
        obtain ⟨_, _, _, oe, vs, T, _, _, he, _, hd, h1, _⟩ := id f3
        unfold PySem.passOn
        refine wpAny_bind (wpAny_field he hd h1 ?_)
        have nn : ¬ (Value.ref T == Value.none) = true := by simp
        rw [if_neg nn]
        have off : wpAny (model X.prog X.w) X.A (setFlight (.ref a) X.env.frame) (fun _ s4 => wpAny (model X.prog X.w) X.A (throw (.ref a) : Sem Flow) (SP X pins D) X.xe s4) X.xe { s' with heap := h3 } := by
          rw [fr]
          refine HandSPX.setFlight_upZ f3 fun h4 g4 u4 => wpAny_throw (tk _ _ ?_)
          exact ⟨a, B, sI, pins, σ1, H1, cls, d, rfl, J, nb, (up.trans u3).trans u4, .inr (.inr (by rw [st]; exact g4)), na, os, ag, w0⟩
        first
          | exact wpAny_bind (wpAny_pure (wpAny_bind off))
          | exact wpAny_bind off
      | @cons x c ts b su q1 q2 hs2 l2 nm sp rest ih =>
        intro w0
        obtain ⟨yes, fits, inS, goOn⟩ := w0
        refine wpAny_handleBy_cons (codeAny_handlers_test ?_) (by intro q; cases q)
        have ty : PySem.W.Looks (model X.prog X.w) h3 (typeOf (.ref a)) cls := fun _ _ _ _ k q => wpAny_typeOf_ref (k _ _ at3) (by rw [z3.1]; exact q)
        have look := PySem.W.exm_one (M := model X.prog X.w) J3.kIn ty fits
        have named : ∀ {Q : Value → Shared → Prop} {E : Value → Shared → Prop}, Q c { s' with heap := h3 } → wpAny (model X.prog X.w) (X.A.mark (some (.ref a))) (eval (.Name x q1) X.env) Q E { s' with heap := h3 } := fun {Q E} q => by
          obtain ⟨g1, g2, g3 | ⟨g3, g4, g5⟩⟩ := nm
          · exact ld_glob (X := X.suite a ((a, o3) :: (X.pn ++ pins))) S3 g1 g3 q g2
          · exact ld_blt (X := X.suite a ((a, o3) :: (X.pn ++ pins))) S3 g1 g3 g4 q g5 g2
        refine named (look.here ?_)
        cases yes with
        | false =>
          show wpAny _ X.A (handleBy (.ref a) X.env hs2) _ _ _
          exact ih (goOn rfl)
        | true =>
          refine codeAny_handlers_suite_as ?_
          refine HandSPX.lands_againZ f3 fun h4 f4 u4 => ?_
          have J4 : Inv X pins σ1 H1 { s' with heap := h4 } := J.landed nb f4.1 ((up.trans u3).trans u4) os ag
          obtain ⟨o4, vs4, at4, z4, d4⟩ := f4.there
          have S4 := J4.suite at4 d4 na nL nF
          refine store_ok (X := X.suite a ((a, o4) :: (X.pn ++ pins))) (v := .ref a) S4 nd ni (.inl lo) rfl (fun s5 S5 => ?_) (.inr lo)
          refine wpAny_mono ((sp a o4 cls d (X.pn ++ pins) z4 ⟨_, d4⟩).run [] s5 _ H1 _ S5 (inS rfl a na)) (fun f s6 got => ?_) (fun _ _ z => z.elim)
          have done : ∀ {σ6 : L2.St} {H6 : Hp} {Q : Shared → Prop}, Inv (X.suite a ((a, o4) :: (X.pn ++ pins))) [] σ6 H6 s6 → (∀ s7, Inv X pins (σ6.set i none) H6 s7 → Q s7) → wpAny (model X.prog X.w) X.A (do bindName X.env n .none; unbindBehindTheSuite X.env n q2) (fun _ s7 => Q s7) X.xe s6 :=
            fun S6 hq => gone_ok (S6.unsuite I0) nd ni lo hq
          match f, got with
          | .next, ⟨_, _, S6, q6⟩ => exact done S6 fun s7 J7 => ⟨_, _, J7, q6⟩
          | .brk, ⟨_, _, S6, q6⟩ => exact done S6 fun s7 J7 => ⟨_, _, J7, q6⟩
          | .cont, ⟨_, _, S6, q6⟩ => exact done S6 fun s7 J7 => ⟨_, _, J7, q6⟩
          | .ret _, ⟨_, _, _, S6, r6, q6⟩ => exact done S6 fun s7 J7 => ⟨_, _, _, J7, r6, q6⟩
    exact step cs w
  refine wpAny_mono ((hb (wAsM X.K i Wout D l) (X.pn ++ pins) caught take PassesOwn.looking).run [] s σ H D (I.toTry _) want) (fun f s1 got => ?_) (fun e s1 he => he)
  match f, got with
  | .next, ⟨_, _, J', q⟩ => exact wpAny_execs_nil ⟨_, _, J'.ofTry I0, q⟩
  | .brk, ⟨_, _, J', q⟩ => exact ⟨_, _, J'.ofTry I0, q⟩
  | .cont, ⟨_, _, J', q⟩ => exact ⟨_, _, J'.ofTry I0, q⟩
  | .ret _, ⟨_, _, _, J', r, q⟩ => exact ⟨_, _, _, J'.ofTry I0, r, q⟩
theorem k_tryC {X : Cx} {n : Str} {i : Nat} {body : List Stmt} {h0 : ExceptHandler} {hds : List ExceptHandler} {l : List (Value × Cls3)} {pos : Pos} {tb : WX → TS} {Wout : WX} (K : PySem.W.Frag)
    (st : X.stack = X.env :: X.outer) (fr : X.env.frame = some X.env.locals) (nd : X.N.Nodup) (ni : X.N[i]? = some n) (lo : X.env.kindOf n = some .local) (tk : L2.Takes X Wout)
    (hb : ∀ (W : WX) (pn : List (Addr × Obj)) (xe : Value → Shared → Prop), L2.Takes (X.tr pn xe) W → PassesOwn (model X.prog X.w) X.A X.env xe → PSs (X.tr pn xe) body (tb W))
    (cs : ClausesC X n (h0 :: hds) l) (e : X.K = K := by rfl) : PS X (.Try body (h0 :: hds) [] [] pos) (tTryM K i tb l Wout) := by
  subst e
  exact ps_tryC st fr nd ni lo tk hb cs
theorem takesC {X : Cx} : L2.Takes X (fun _ _ _ _ => False) := fun _ _ x => by
  obtain ⟨_, _, _, _, _, _, _, _, _, _, _, _, _, _, _, _, z⟩ := x
  exact z.elim
theorem passC0 {X : Cx} : Passes (L2.CX X.prog X.w) X E0 := fun _ _ _ _ _ _ _ h => by
  obtain ⟨_, _, _, _, _, _, _, _, _, _, _, _, z⟩ := h
  exact z.elim
theorem passC0S {X : Cx} : ∀ σ, PassesAt (L2.CX X.prog X.w) X σ ((fun _ => E0) σ) := fun _ _ _ _ _ _ _ h => by
  obtain ⟨_, _, _, _, _, _, _, _, _, _, _, _, z⟩ := h
  exact z.elim
section
variable {P : Program} {w : World} {K : PySem.W.Frag} {mg : Str → Option Value} {base : Heap}
theorem Fun.okC {x qual : Str} {st : Stmt} {f : Addr} {fd : FuncData} {N ps : List Str} {k : Nat} {sp : Sp} (F : Fun K x qual st f fd) (S : FnScope N ps (defScope st)) (len : ∀ vs H Q E, sp vs H Q E → vs.length = ps.length)
    (hbody : ∀ (cdv : Value) (A : Around) (outer : List Env) (s : Shared) (H : Hp) (vs : List V) (Q : VK) (E : XK), Room k (A.deeper (envOfC qual (defScope st) s.heap.objs.size f cdv)) → sp vs H Q E →
      ∃ t, PSs (cxOf (L2.CX P w) P w K mg base N qual (defScope st) f cdv A outer s H E) (defBody st) t ∧ t { nx := fun _ H' => Q .non H', rt := Q } (start N vs) H) : FnOk P w K mg base (L2.CX P w) (k + 1) f fd ps sp := by
  obtain ⟨oc, od, kV, doc, pm, an, cdv, ct, osl, rfl, lk, hcd⟩ := F.ex
  exact fn_of lk hcd S len fun A outer s H vs Q E hr hsp => hbody cdv A outer s H vs Q E hr hsp
end
/-! ### list(f(..)) of a generator def whose errors are wished for by names -/
/-- the wish, and that no StopIteration comes -/
def EG (K : PySem.W.Frag) (W : WX) (σ : L2.St) : XK := fun cls d H => PySem.W.subIn K cls (.type "StopIteration") = some false ∧ W cls d σ H
def tListC (sp : SpG) (E : L2.St → XK) (t : TA) : TE := fun σ H Q => t σ H fun vs H1 => sp vs H1 (fun out H2 => ∀ p, H2 p = none → Q (.ref p) (upd H2 p (.lst out))) (E σ)
section
variable {X : Cx} {k : Nat} {f : Addr} {fd : FuncData} {ps : List Str} {sp : SpG} {x nm : Str} {p p' pos pos' : Pos} {E : L2.St → XK}
theorem pe_listC {e : Expr} {es : List Expr} {t : TA} (F : GFn X.prog X.w X.K X.mg X.base k f fd ps sp) (hx : ∀ σ, PassesAt (L2.CX X.prog X.w) X σ (E σ)) (hns : ∀ σ, NoStop X.K (E σ)) (hr : Room (k + 3) X.A) (hg : Gl X nm) (hmg : X.mg nm = none) (hv : bootBuiltins nm = some (.type "list"))
    (hgf : Gl X x) (hm : X.mg x = some (.ref f)) (hk : PySem.W.keepIn X.K (.ref f) = true) (hb : Binds X.K fd ps []) (ha : PA X (e :: es) t) (hnm : nm ≠ "__name__" := by decide) (hdb : (nm == ("__debug__" : Str)) = false := by decide) (hdf : (x == ("__debug__" : Str)) = false := by decide)
    (hef : starEach (e :: es) X.env = (false, eval e X.env) :: starEach es X.env := by rfl) (hpl : (backTo pos' (starEach es X.env)).any (·.1) = false := by rfl)
    (he : starEach [.Call (.Name x p') (e :: es) [] pos'] X.env = (false, eval (.Call (.Name x p') (e :: es) [] pos') X.env) :: starEach [] X.env := by rfl) : PE X (.Call (.Name nm p) [.Call (.Name x p') (e :: es) [] pos'] [] pos) (tListC sp E t) := by
  refine ⟨fun pins s σ H Q I hq => ?_⟩
  have G : PGen X k (.Call (.Name x p') (e :: es) [] pos') (tCallG sp [] (E σ) t) (E σ) := pgen_call F (hr.mono (by omega)) hgf hm hk hb .nil ha hdf hef hpl
  refine wpAny_Call_Name_kw (ld_blt I hg hmg hv ?_ hnm hdb)
  refine PyProof.Rows.callWith_type1 ?_ he rfl
  rw [he]
  show wpAny _ _ (spliced ((false, eval (.Call (.Name x p') (e :: es) [] pos') X.env) :: backTo pos (starEach [] X.env))) _ _ s
  have hq' : tCallG sp [] (E σ) t σ H (fun out H2 => ∀ p, H2 p = none → Q (.ref p) (upd H2 p (.lst out))) := by
    unfold tCallG
    simp only [List.append_nil]
    exact hq
  refine Calls.spliced_cons (thn (G.run pins s σ H _ I hq') fun u s1 ⟨H1, sc, ex, I1, hex, hG⟩ => ?_)
  refine Calls.spliced_nil ?_
  have hsz : sc.heap.objs.size ≤ s1.heap.objs.size := by
    obtain ⟨a, g, c, _, h1, h2, _⟩ := hG
    exact Nat.le_trans h1 (Nat.le_of_lt h2)
  refine call_list_new hr I1.ok.frames hG (fun S s' acc c H' ys q0 q1 q2 hl q3 q4 q5 q6 q7 q8 => ?_) fun e s' g hc => ?_
  · exact ⟨.ref S, upd H' S (.lst ys), I1.drained (Nat.le_trans hsz q0) hl q1 q2 hex q3 q4 q5 q6 q7, rfl, q8 S q7⟩
  · have kin : X.K.In s'.heap := by
      obtain ⟨a, B, H', cls, d, _, fl, _, ub, _⟩ := id hc
      refine I1.ok.mod.kin.keeps fun b o eb => fl.1 b o (ub.keep b o (I1.bs b o eb).1 (I1.bs b o eb).2 fun hm => ?_)
      rcases List.mem_cons.mp (I1.stkSub b hm) with z | z
      · have h1 := Heap.lt_size eb
        have h2 := Nat.le_trans I1.ok.bsz I1.ok.above
        rw [z] at h1
        exact absurd (Nat.lt_of_lt_of_le h1 h2) (Nat.lt_irrefl _)
      · exact I1.ok.nofr eb z
    refine ⟨notStop_of (hns σ) kin hc, hx σ pins H1 sc e _ I1 ?_⟩
    obtain ⟨a, B, H', cls, d, z1, fl, z2, ub, z3, z4, z5, z6⟩ := hc
    exact ⟨a, B, H', cls, d, z1, fl, z2, ub, z3, z4, allBare_setGen z5 rfl, z6⟩
end
theorem passEG {X : Cx} {W : WX} (K : PySem.W.Frag) (tk : L2.Takes X W) (σ : L2.St) : PassesAt (L2.CX X.prog X.w) X σ (EG K W σ) := fun p H s e s' I c => by
  obtain ⟨a, B, H', cls, d, z1, fl, z2, ub, z3, z4, z5, z6⟩ := c
  exact L2.passAt tk σ p H s e s' I ⟨a, B, H', cls, d, z1, fl, z2, ub, z3, z4, z5, z6.2⟩
theorem nsEG {K : PySem.W.Frag} {W : WX} (σ : L2.St) : NoStop K (EG K W σ) := fun _ _ _ h => h.1
theorem ns0 {K : PySem.W.Frag} (σ : L2.St) : NoStop K ((fun _ => E0) σ) := fun _ _ _ h => h.elim
theorem g_listC {sp : SpG} {E : L2.St → XK} {t : TA} {σ : L2.St} {H : Hp} {Q : VK} (q : t σ H fun vs H1 => sp vs H1 (fun out H2 => ∀ p, H2 p = none → Q (.ref p) (upd H2 p (.lst out))) (E σ)) : tListC sp E t σ H Q := q
end Qk

set_option maxHeartbeats 2000000
/-! Qr: raise C(..) from e in the suite that caught e -/
namespace Qk
open PySem PySem.Spec PyProof.Rows L2 HotX
def causeAt (hp : Heap) (n c : Addr) : Heap :=
  (hp.update n (Obj.mapFields (fun us => us.setIfInBounds 3 (.ref c)))).update n (Obj.mapFields (fun us => us.setIfInBounds 4 (.bool true)))
theorem causeAt_self {hp : Heap} {n c : Addr} {ob : Obj} {us : Array Value} (hn : hp.get? n = some ob) (hu : ob.data = .fields us) :
    (causeAt hp n c).get? n = some ((ob.mapFields (fun us => us.setIfInBounds 3 (.ref c))).mapFields (fun us => us.setIfInBounds 4 (.bool true))) ∧
    ((ob.mapFields (fun us => us.setIfInBounds 3 (.ref c))).mapFields (fun us => us.setIfInBounds 4 (.bool true))).data = .fields ((us.setIfInBounds 3 (.ref c)).setIfInBounds 4 (.bool true)) := by
  have d3 := Obj.data_mapFields hu (fun us => us.setIfInBounds 3 (.ref c))
  have g3 := Heap.get?_update_self (Obj.mapFields (fun us => us.setIfInBounds 3 (.ref c))) hn (Obj.isFreed_of_fields d3)
  have d4 := Obj.data_mapFields d3 (fun us => us.setIfInBounds 4 (.bool true))
  exact ⟨Heap.get?_update_self (Obj.mapFields (fun us => us.setIfInBounds 4 (.bool true))) g3 (Obj.isFreed_of_fields d4), d4⟩
theorem causeAt_ne {hp : Heap} {n c b : Addr} (ne : n ≠ b) : (causeAt hp n c).get? b = hp.get? b :=
  (Heap.get?_update_other _ _ ne).trans (Heap.get?_update_other _ _ ne)
theorem raise_from_hot {P : Program} {w : World} {B : Around} {Er : Value → Shared → Prop} {env : Env} {s0 : Shared} {mk cs : Sem Value} {QF : Flow → Shared → Prop} {c : Addr}
    (hmk : wpAny (model P w) B mk (fun u s1 => ∃ n ob us cl cl1, u = .ref n ∧ s1.heap.get? n = some ob ∧ ob.cls = cl ∧ ob.data = .fields us ∧ us[1]? = some .none ∧ 4 < us.size ∧ c ≠ n ∧ HotAt B c s1.heap ∧
      (∀ QC : Value → Shared → Prop, QC (.ref c) s1 → wpAny (model P w) B cs QC Er s1) ∧
      PySem.W.Looks (model P w) s1.heap (typeOf (.ref c)) cl1 ∧ PySem.W.Looks (model P w) s1.heap (isSubtype cl1 (.type "BaseException")) true ∧
      PySem.W.Looks (model P w) s1.heap (isSubtype cl (.type "BaseException")) true ∧ PySem.W.Looks (model P w) (causeAt s1.heap n c) (typeOf cl) (.type "type") ∧
      Er (.ref n) { s1 with heap := (causeAt s1.heap n c).update n (Obj.mapFields (·.setIfInBounds 2 (.ref c))) }) Er s0) :
    wpAny (model P w) B (raiseStmt env (some mk) (some cs)) QF Er s0 := by
  unfold raiseStmt
  dsimp only
  refine wpAny_bind (wpAny_mono hmk (fun u s1 hu => ?_) fun _ _ z => z)
  obtain ⟨n, ob, us, cl, cl1, rfl, gn, ec, du, u1, big, cn, hot, ev, lt1, ls1, lsn, ltn, fin⟩ := hu
  have tyN : PySem.W.Looks (model P w) s1.heap (typeOf (.ref n)) cl := fun _ _ _ s2 k q => wpAny_typeOf_ref (k _ _ gn) (by rw [ec]; exact q)
  have insN : PySem.W.Looks (model P w) s1.heap (isInstance (.ref n) (.type "BaseException")) true := tyN.andThen lsn
  have insC : PySem.W.Looks (model P w) s1.heap (isInstance (.ref c) (.type "BaseException")) true := lt1.andThen ls1
  have noTy : ∀ {b : Addr} {o : Obj} {vs : Array Value} {s2 : Shared} {QB : Bool → Shared → Prop}, s2.heap.get? b = some o → o.data = .fields vs → QB false s2 → wpAny (model P w) B (isType (.ref b)) QB Er s2 := by
    intro b o vs s2 QB hb hd hq
    simp only [isType, loadHead]
    refine wpAny_bind (wpAny_loadPart hb ?_)
    rw [hd]
    exact wpAny_pure hq
  obtain ⟨hh, oc, vc, gc, dc, ctx⟩ := id hot
  have d3 := Obj.data_mapFields du (fun us => us.setIfInBounds 3 (.ref c))
  have g3 := Heap.get?_update_self (Obj.mapFields (fun us => us.setIfInBounds 3 (.ref c))) gn (Obj.isFreed_of_fields d3)
  obtain ⟨g4, d4⟩ := causeAt_self (c := c) gn du
  have big4 : 4 < (us.setIfInBounds 3 (Value.ref c)).size := by
    rw [set_size]
    exact big
  have big2 : 2 < ((us.setIfInBounds 3 (Value.ref c)).setIfInBounds 4 (Value.bool true)).size := by
    rw [set_size, set_size]
    omega
  have tb4 : ((us.setIfInBounds 3 (Value.ref c)).setIfInBounds 4 (Value.bool true))[1]? = some Value.none := set_other (by decide) (set_other (by decide) u1)
  have ec4 : ((ob.mapFields (fun us => us.setIfInBounds 3 (.ref c))).mapFields (fun us => us.setIfInBounds 4 (.bool true))).cls = cl := by
    rw [Obj.cls_mapFields, Obj.cls_mapFields]
    exact ec
  have tyN4 : PySem.W.Looks (model P w) (causeAt s1.heap n c) (typeOf (.ref n)) cl := fun _ _ _ s2 k q => wpAny_typeOf_ref (k _ _ g4) (by rw [ec4]; exact q)
  have hot4 : HotAt B c (causeAt s1.heap n c) := ⟨hh, oc, vc, by rw [causeAt_ne (Ne.symm cn)]; exact gc, dc, ctx⟩
  -- behind the two stores
  have tail : wpAny (model P w) B (do
      let ty ← isType (.ref n)
      if ty = true then do
        let x ← holding [.ref n] (raisedFor (.ref n) (.ref n))
        setFlight x none
        raiseNew x
      else do
        let x ← raisedInstance (.ref n)
        setFlight x none
        raiseNew x : Sem Flow) QF Er { s1 with heap := causeAt s1.heap n c } := by
    refine wpAny_bind (noTy (s2 := { s1 with heap := causeAt s1.heap n c }) g4 d4 ?_)
    simp only [Bool.false_eq_true, if_false]
    unfold raisedInstance
    refine wpAny_bind (wpAny_bind (tyN4.here (wpAny_bind (ltn.here ?_))))
    rw [if_pos (beq_self_eq_true _)]
    refine wpAny_pure ?_
    unfold setFlight
    refine wpAny_bind (wpAny_bind (wpAny_field g4 d4 tb4 ?_))
    rw [if_neg (by decide)]
    refine wpAny_pure ?_
    exact raiseNew_hot hot4 cn g4 d4 big2 fin
  refine wpAny_bind (wpAny_holding (ev _ (wpAny_bind (wpAny_pure ?_))))
  dsimp only
  refine wpAny_bind (wpAny_holding ?_)
  unfold excFromValue isExcClass
  refine wpAny_bind (wpAny_bind (noTy gn du ?_))
  simp only [Bool.false_eq_true, if_false]
  refine wpAny_pure ?_
  simp only [Bool.false_eq_true, if_false]
  refine wpAny_bind (insN.here ?_)
  simp only [if_true]
  refine wpAny_pure ?_
  have nn : (Value.ref c == Value.none) = false := rfl
  rw [nn]
  simp only [Bool.false_eq_true, if_false]
  refine wpAny_bind (wpAny_holding (wpAny_bind (wpAny_bind (noTy gc dc ?_))))
  simp only [Bool.false_eq_true, if_false]
  refine wpAny_pure ?_
  simp only [Bool.false_eq_true, if_false]
  refine wpAny_bind (insC.here ?_)
  simp only [if_true]
  refine wpAny_pure ?_
  refine wpAny_bind (wpAny_setField gn du (by omega) ?_)
  refine wpAny_bind (wpAny_setField (s := { s1 with heap := s1.heap.update n (Obj.mapFields (fun us => us.setIfInBounds 3 (.ref c))) }) g3 d3 big4 ?_)
  exact tail
/-- the same state with another object for the frame -/
theorem frame_put {h h2 : Heap} {L : Addr} {o2 : Obj} {m2 : Str → Option Value} (lt : L < h.objs.size) (there : ∃ o, h.get? L = some o) (e2 : h2.get? L = some o2) (n2 : h2.Ns L m2) :
    Heap.SameBut L h (h.update L fun _ => o2) ∧ (h.update L fun _ => o2).Ns L m2 ∧ (h.update L fun _ => o2).get? L = some o2 := by
  obtain ⟨o, eo⟩ := there
  have nf : o2.isFreed = false := (Heap.get?_some_iff.mp e2).2
  have eL : (h.update L fun _ => o2).get? L = some o2 := Heap.get?_update_self (fun _ => o2) eo nf
  refine ⟨⟨?_, fun b hb => Heap.get?_update_other _ _ (Ne.symm hb)⟩, ?_, eL⟩
  · simp [Heap.update]
  · refine n2.at' fun u eu => ?_
    rw [e2] at eu
    rw [← eu]
    exact eL
theorem name_off {X : Cx} {pins : List (Addr × Obj)} {σ : L2.St} {H : Hp} {s : Shared} {i : Nat} {n : Str} {m : Str → Option Value} {h' : Heap} {v : Option Value} (I : Inv X pins σ H s) (nd : X.N.Nodup) (ni : X.N[i]? = some n) (hn : s.heap.Ns X.env.locals m)
    (lk : ∀ (j : Nat) (y : Str) (x : V), X.N[j]? = some y → σ[j]? = some (some x) → Vis X.env.scope y → ∃ u, RelV x u ∧ Look X.env s.heap m y u) (hn' : h'.Ns X.env.locals (fun y => if y = n then v else m y)) (hs : Heap.SameBut X.env.locals s.heap h') :
    Inv X pins (σ.set i none) H { s with heap := h' } := by
  have apart : ∀ b o, X.s_0.heap.get? b = some o → b ≠ X.env.locals := fun b o e => Nat.ne_of_lt (Nat.lt_of_lt_of_le (Heap.lt_size e) I.ok.above)
  have keepB := fun (b : Addr) (o : Obj) (e : X.s_0.heap.get? b = some o) => hs.2 b (apart b o e)
  refine ⟨I.ok, I.os, I.bare, ⟨fun b o e n hb hx => (keepB b o e).trans (I.base.keep b o e n hb hx), fun b o e n hb hx => ?_, I.base.free, fun b o e hx => ?_, I.base.tups, I.base.frzs, I.base.tbls⟩, ⟨_, hn', fun j y x e1 e2 e3 => ?_⟩, fun y c e => ?_, I.free, I.freeC, fun p hp => ?_, fun b ob e => ?_, ?_⟩
  · obtain ⟨sl, q⟩ := I.base.slot b o e n hb hx
    exact ⟨sl, (keepB b o e).trans q⟩
  · obtain ⟨o', q⟩ := I.base.there b o e hx
    exact ⟨o', (keepB b o e).trans q⟩
  · have ne : j ≠ i := fun z => by
      subst z
      by_cases lt : j < σ.length
      · rw [List.getElem?_set_self lt] at e2
        cases e2
      · rw [List.getElem?_eq_none (by simpa using lt)] at e2
        cases e2
    rw [List.getElem?_set_ne (Ne.symm ne)] at e2
    obtain ⟨u, r, q⟩ := lk j y x e1 e2 e3
    refine ⟨u, r, ?_⟩
    rcases q with ⟨k, q⟩ | ⟨k, c, q, z⟩
    · have ny : y ≠ n := fun z => ne (nodup_ix nd e1 (z ▸ ni))
      exact .inl ⟨k, (if_neg ny).trans q⟩
    · exact .inr ⟨k, c, q, z.sameBut hs (I.cne y c q)⟩
  · obtain ⟨x, z⟩ := I.cell y c e
    exact ⟨x, z.sameBut hs (I.cne y c e)⟩
  · obtain ⟨e, n0, ne, nf, dd⟩ := I.pin p hp
    exact ⟨(hs.2 p.1 ne).trans e, n0, ne, nf, dd⟩
  · refine (I.hok b ob e).stay (fun c x hc q => (hs.2 c fun z => ?_).trans q) (fun _ q => q) fun _ _ q => q
    subst z
    rcases hc with hc | hc
    · rw [← hc, I.free] at e
      cases e
    · rw [I.free] at hc
      cases hc
  · rw [List.length_set]
    exact I.len
theorem traced_off {h h' base : Heap} {e L : Addr} {Z : Obj → Prop} {fl : Value} {m : Str → Option Value} (x : HandSPX.TracedZ h base e Z fl) (hn : h.Ns L m) (hs : Heap.SameBut L h h') : HandSPX.TracedZ h' base e Z fl := by
  obtain ⟨oe, vs, T, oT, ts, he, hz, hd, h1, hnT, hTe, hT, hdT, h3⟩ := x
  obtain ⟨oL, es, ep, hoL, hdL, _⟩ := hn
  have noE : e ≠ L := fun q => by
    rw [q, hoL] at he
    injection he with he
    rw [← he, hdL] at hd
    cases hd
  have noT : T ≠ L := fun q => by
    rw [q, hoL] at hT
    injection hT with hT
    rw [← hT, hdL] at hdT
    cases hdT
  exact ⟨oe, vs, T, oT, ts, (hs.2 e noE).trans he, hz, hd, h1, hnT, hTe, (hs.2 T noT).trans hT, hdT, h3⟩
/-- what flies out of a named suite: the name goes, the exception goes on -/
theorem flies_off {X : Cx} {W : WX} {i : Nat} {n : Str} {q2 : Pos} {hd : Option Value} {u : Value} {s' : Shared} {E2 E3 : Value → Shared → Prop} (st : X.stack = X.env :: X.outer) (fr : X.env.frame = some X.env.locals) (nd : X.N.Nodup) (ni : X.N[i]? = some n) (lo : X.env.kindOf n = some .local)
    (tk : L2.Takes X W) (wk : ∀ cls d σ H, W cls d σ H → W cls d (σ.set i none) H) (x : L2.XE X W u s') :
    wpAny (model X.prog X.w) (X.A.mark hd) (noteFrame u X.env) (fun _ s3 => wpAny (model X.prog X.w) (X.A.mark hd) (do bindName X.env n .none; unbindBehindTheSuite X.env n q2)
      (fun _ s4 => wpAny (model X.prog X.w) (X.A.mark hd) (PySem.passOn "try.except-as" u X.env : Sem Flow) (fun _ _ => False) (notedBy (model X.prog X.w) (X.A.mark hd) X.env (cameBackBy (model X.prog X.w) X.A X.env X.xe)) s4) E2 s3) E3 s' := by
  obtain ⟨a, B, sI, pins, σ, H, cls, d, rfl, I, nb, up, sky, na, os, ag, w⟩ := x
  have ok := I.ok
  have frs0 : (X.A.mark hd).frames = some (X.env :: X.outer) := by
    show X.A.frames = _
    rw [ok.frames, st]
  have sk : Sky B (X.env :: X.outer) a (Zc cls d) X.env.locals s'.heap := by rw [← st]; exact sky
  have go : ∀ h1, HandSPX.HeldZ B (X.env :: X.outer) a (Zc cls d) X.env.locals h1 → s'.heap.UpToSlots h1 →
      wpAny (model X.prog X.w) (X.A.mark hd) (do bindName X.env n .none; unbindBehindTheSuite X.env n q2)
        (fun _ s4 => wpAny (model X.prog X.w) (X.A.mark hd) (PySem.passOn "try.except-as" (.ref a) X.env : Sem Flow) (fun _ _ => False) (notedBy (model X.prog X.w) (X.A.mark hd) X.env (cameBackBy (model X.prog X.w) X.A X.env X.xe)) s4) E2 { s' with heap := h1 } := by
    intro h1 held u1
    obtain ⟨b1, b0, f1, t1⟩ := held
    obtain ⟨m, hn, lk⟩ := id I.loc
    have up1 := up.trans u1
    have hn1 : h1.Ns X.env.locals m := up1.ns hn
    have kd : (X.env.scope.kind == .class || (X.env.scope.kind == .module && X.env.locals != X.env.globals)) = false := by rw [ok.kind]; rfl
    have bL : B.get? X.env.locals = none := by
      obtain ⟨_, ⟨L', _, q, z, _⟩, _⟩ := f1
      rw [fr] at q
      injection q with q
      rw [q]
      exact z
    refine wpAny_nameGoes_keeps lo hn1 kd fun h2 v hn2 hs2 => ?_
    have b2 : B.StaysIn h2 := fun b o hb => (hs2.2 b fun z => by rw [z, bL] at hb; cases hb).trans (b1 b o hb)
    have f2 : h2.FunFrames B (X.env :: X.outer) := Heap.FunFrames.sameBut hs2 hn2 f1
    have t2 := traced_off t1 hn1 hs2
    obtain ⟨o2, es2, ep2, eo2, dd2, rest2⟩ := id hn2
    obtain ⟨oI, esI, epI, eoI, ddI, restI⟩ := id hn
    obtain ⟨sb, nsG, atG⟩ := frame_put (h := sI.heap) (Heap.lt_size eoI) ⟨oI, eoI⟩ eo2 hn2
    have J := name_off (h' := sI.heap.update X.env.locals fun _ => o2) I nd ni hn lk nsG sb
    have upG : (sI.heap.update X.env.locals fun _ => o2).UpToSlots h2 := fun b o hb hnf => by
      by_cases c : b = X.env.locals
      · subst c
        rw [atG] at hb
        injection hb with hb
        subst hb
        exact ⟨o2.slots, eo2⟩
      · rw [sb.2 b c] at hb
        obtain ⟨sl, q⟩ := up1 b o hb hnf
        exact ⟨sl, (hs2.2 b c).trans q⟩
    obtain ⟨oe, vs, T, oT, ts, he, hz, hdd, h11, r⟩ := id t2
    unfold PySem.passOn
    refine wpAny_bind (wpAny_field he hdd h11 ?_)
    have nn : ¬ (Value.ref T == Value.none) = true := by simp
    rw [if_neg nn, fr]
    have fin : wpAny (model X.prog X.w) (X.A.mark hd) (setFlight (.ref a) (some X.env.locals)) (fun _ s5 => wpAny (model X.prog X.w) (X.A.mark hd) (throw (.ref a) : Sem Flow) (fun _ _ => False) (notedBy (model X.prog X.w) (X.A.mark hd) X.env (cameBackBy (model X.prog X.w) X.A X.env X.xe)) s5)
        (notedBy (model X.prog X.w) (X.A.mark hd) X.env (cameBackBy (model X.prog X.w) X.A X.env X.xe)) { s' with heap := h2, toks := s'.toks + 1 } := by
      refine HandSPX.setFlight_anyZ (s := { s' with heap := h2, toks := s'.toks + 1 }) b2 f2 t2 fun h3 b3 f3 t3 u3 => wpAny_throw ?_
      show wpAny (model X.prog X.w) (X.A.mark hd) (noteFrame (.ref a) X.env) _ _ _
      refine HandSPX.againZ fr t3 ?_
      obtain ⟨oe', vs', T', oT', ts', he', hz', hd', h1', r'⟩ := id t3
      show wpAny (model X.prog X.w) X.A (do
        if (← field (.ref a) 1) == .none then unsupported "frame.own-activation:exception-without-traceback"
        setFlight (.ref a) X.env.frame) _ _ _
      refine wpAny_bind (wpAny_field he' hd' h1' ?_)
      have nn' : ¬ (Value.ref T' == Value.none) = true := by simp
      rw [if_neg nn', fr]
      refine HandSPX.setFlight_anyZ (s := { s' with heap := h3, toks := s'.toks + 1 }) b3 f3 t3 fun h4 b4 f4 t4 u4 => ?_
      exact tk _ _ ⟨a, B, _, pins, σ.set i none, H, cls, d, rfl, J, fun b o hb hbf => nb b o (by
        rw [sb.2 b (fun z => hbf (by rw [z, st]; exact List.mem_filterMap.mpr ⟨X.env, List.mem_cons_self, fr⟩))] at hb
        exact hb) hbf, (upG.trans u3).trans u4, .inr (.inr (by rw [st]; exact ⟨b4, b0, f4, t4⟩)), na, os, ag, wk _ _ _ _ w⟩
    first
      | exact wpAny_bind (wpAny_pure (wpAny_bind fin))
      | exact wpAny_bind fin
  rcases sk with ⟨hB, hn0, hl, oe, vs, he, hz, hdd, h1⟩ | fl | held
  · exact HandSPX.look_newZ Zc.steady frs0 hl fr he hB hn0 hdd h1 hz go
  · exact HandSPX.looks_onZ Zc.steady frs0 fr fl go
  · exact HandSPX.againZ fr held.2.2.2 (go s'.heap held (Heap.UpToSlots.refl _))
/-- the context of a suite that may raise -/
abbrev sX (X : Cx) (a : Addr) (pn : List (Addr × Obj)) (xe : Value → Shared → Prop) : Cx := { X with A := X.A.mark (some (.ref a)), calm := false, pn := pn, xe := xe }
theorem sX_of {X : Cx} {a : Addr} {pn pins : List (Addr × Obj)} {xe : Value → Shared → Prop} {σ : L2.St} {H : Hp} {s : Shared} (I : Inv (X.suite a pn) pins σ H s) : Inv (sX X a pn xe) pins σ H s := Inv.unwish (X := sX X a pn xe) (E := fun _ _ => False) I
theorem sX_in {X : Cx} {a : Addr} {pn pins : List (Addr × Obj)} {xe : Value → Shared → Prop} {σ : L2.St} {H : Hp} {s : Shared} (I : Inv (sX X a pn xe) pins σ H s) : Inv (X.suite a pn) pins σ H s := I.wish fun _ _ => False
set_option maxHeartbeats 4000000 in
theorem ps_tryX {X : Cx} {n : Str} {i : Nat} {body : List Stmt} {x : Str} {c : Value} {b : Stmt} {su : List Stmt} {q1 q2 : Pos} {pos : Pos} {tb : WX → TS} {ts : Cls3} {Wout Ws : WX}
    (st : X.stack = X.env :: X.outer) (fr : X.env.frame = some X.env.locals) (nd : X.N.Nodup) (ni : X.N[i]? = some n) (lo : X.env.kindOf n = some .local) (tk : L2N.Takes X Wout) (tks : L2.Takes X Ws) (wk : ∀ cls d σ H, Ws cls d σ H → Ws cls d (σ.set i none) H)
    (hb : ∀ (W : WX) (pn : List (Addr × Obj)) (xe : Value → Shared → Prop), L2N.Takes (X.tr pn xe) W → PassesOwn (model X.prog X.w) X.A X.env xe → PSs (X.tr pn xe) body (tb W))
    (nm : Names X x c)
    (sp : ∀ (a : Addr) (o : Obj) (cls : Value) (d : Option Addr) (pn : List (Addr × Obj)) (xe : Value → Shared → Prop), L2N.Zn cls d o → (∃ vs, o.data = .fields vs) → L2.Takes (sX X a ((a, o) :: pn) xe) Ws → L2H.HotC (sX X a ((a, o) :: pn) xe) → PSs (sX X a ((a, o) :: pn) xe) (b :: su) (ts a cls d)) :
    PS X (.Try body [.ExceptHandler (some (.Name x q1)) (some n) (b :: su) q2] [] [] pos) (fun D σ H => tb (wAs X.K c i ts Wout D) D σ H) := by
  refine ⟨fun pins s σ H D I want => ?_⟩
  have I0 := I.ok
  have frs0 : X.A.frames = some (X.env :: X.outer) := by rw [I0.frames, st]
  refine wpAny_Try_except ?_
  let caught : Value → Shared → Prop := fun e s1 => wpAny (model X.prog X.w) X.A (noteFrame e X.env) (fun _ s2 => wpAny (model X.prog X.w) X.A (setFlight e none) (fun _ s3 => wpAny (model X.prog X.w) X.A (handleBy e X.env [.ExceptHandler (some (.Name x q1)) (some n) (b :: su) q2]) (SP X pins D) X.xe s3) X.xe s2) X.xe s1
  have take : L2N.Takes (X.tr (X.pn ++ pins) caught) (wAs X.K c i ts Wout D) := fun u s' xx => by
    obtain ⟨a, B, sI, pins', σ1, H1, cls, d, rfl, J', nb, up, sky, na, os, ag, w⟩ := xx
    have J : Inv X pins σ1 H1 sI := J'.ofTry I0
    have sk : Sky B (X.env :: X.outer) a (L2N.Zn cls d) X.env.locals s'.heap := by rw [← st]; exact sky
    show wpAny (model X.prog X.w) X.A (noteFrame (.ref a) X.env) _ _ _
    refine L2N.Sky.land L2N.Zn.steady frs0 fr sk fun h3 f3 u3 => ?_
    have J3 : Inv X pins σ1 H1 { s' with heap := h3 } := J.landed nb f3.1 (up.trans u3) os ag
    obtain ⟨o3, vs3, at3, z3, d3⟩ := f3.there
    have noFrame : a ∉ frs (X.env :: X.outer) := fun m => by
      obtain ⟨_, o', e', bad⟩ := f3.2.2.1.mem m
      rw [at3] at e'
      cases e'
      exact bad _ d3
    have nL : a ≠ X.env.locals := fun z => noFrame (List.mem_filterMap.mpr ⟨X.env, List.mem_cons_self, by rw [fr, z]⟩)
    have nF : a ∉ X.fs := fun m => by
      obtain ⟨e, he, q⟩ := List.mem_filterMap.mp m
      exact noFrame (List.mem_filterMap.mpr ⟨e, List.mem_cons_of_mem _ he, q⟩)
    have S3 := J3.suite at3 d3 na nL nF
    have none_fits : Wout cls d σ1 H1 → wpAny (model X.prog X.w) X.A (handleBy (.ref a) X.env []) (SP X pins D) X.xe { s' with heap := h3 } := fun w0 => by
      refine wpAny_handleBy_nil ?_
      obtain ⟨_, _, _, oe, vs, T, _, _, he, _, hd, h1, _⟩ := id f3
      unfold PySem.passOn
      refine wpAny_bind (wpAny_field he hd h1 ?_)
      have nn : ¬ (Value.ref T == Value.none) = true := by simp
      rw [if_neg nn]
      have off : wpAny (model X.prog X.w) X.A (setFlight (.ref a) X.env.frame) (fun _ s4 => wpAny (model X.prog X.w) X.A (throw (.ref a) : Sem Flow) (SP X pins D) X.xe s4) X.xe { s' with heap := h3 } := by
        rw [fr]
        refine HandSPX.setFlight_upZ f3 fun h4 g4 u4 => wpAny_throw (tk _ _ ?_)
        exact ⟨a, B, sI, pins, σ1, H1, cls, d, rfl, J, nb, (up.trans u3).trans u4, .inr (.inr (by rw [st]; exact g4)), na, os, ag, w0⟩
      first
        | exact wpAny_bind (wpAny_pure (wpAny_bind off))
        | exact wpAny_bind off
    obtain ⟨yes, fits, inS, goOn⟩ := w
    refine wpAny_handleBy_cons (codeAny_handlers_test ?_) (by intro q; cases q)
    have ty : PySem.W.Looks (model X.prog X.w) h3 (typeOf (.ref a)) cls := fun _ _ _ _ k q => wpAny_typeOf_ref (k _ _ at3) (by rw [z3.1]; exact q)
    have look := PySem.W.exm_one (M := model X.prog X.w) J3.kIn ty fits
    have named : ∀ {Q : Value → Shared → Prop} {E : Value → Shared → Prop}, Q c { s' with heap := h3 } → wpAny (model X.prog X.w) (X.A.mark (some (.ref a))) (eval (.Name x q1) X.env) Q E { s' with heap := h3 } := fun {Q E} q => by
      obtain ⟨g1, g2, g3 | ⟨g3, g4, g5⟩⟩ := nm
      · exact ld_glob (X := X.suite a ((a, o3) :: (X.pn ++ pins))) S3 g1 g3 q g2
      · exact ld_blt (X := X.suite a ((a, o3) :: (X.pn ++ pins))) S3 g1 g3 g4 q g5 g2
    refine named (look.here ?_)
    cases yes with
    | false =>
      show wpAny _ X.A (handleBy (.ref a) X.env []) _ _ _
      exact none_fits (goOn rfl)
    | true =>
      refine codeAny_handlers_suite_as ?_
      refine HandSPX.lands_againZ f3 fun h4 f4 u4 => ?_
      have J4 : Inv X pins σ1 H1 { s' with heap := h4 } := J.landed nb f4.1 ((up.trans u3).trans u4) os ag
      obtain ⟨o4, vs4, at4, z4, d4⟩ := f4.there
      have S4 := J4.suite at4 d4 na nL nF
      let xs : Value → Shared → Prop := fun u sx => wpAny (model X.prog X.w) (X.A.mark (some (.ref a))) (noteFrame u X.env) (fun _ s3 => wpAny (model X.prog X.w) (X.A.mark (some (.ref a))) (do bindName X.env n .none; unbindBehindTheSuite X.env n q2)
        (fun _ s4 => wpAny (model X.prog X.w) (X.A.mark (some (.ref a))) (PySem.passOn "try.except-as" u X.env : Sem Flow) (fun _ _ => False) (notedBy (model X.prog X.w) (X.A.mark (some (.ref a))) X.env (cameBackBy (model X.prog X.w) X.A X.env X.xe)) s4)
        (fun y s4 => wpAny (model X.prog X.w) (X.A.mark (some (.ref a))) (setFlight u none) (fun _ s5 => notedBy (model X.prog X.w) (X.A.mark (some (.ref a))) X.env (cameBackBy (model X.prog X.w) X.A X.env X.xe) y s5) (notedBy (model X.prog X.w) (X.A.mark (some (.ref a))) X.env (cameBackBy (model X.prog X.w) X.A X.env X.xe)) s4) s3)
        (notedBy (model X.prog X.w) (X.A.mark (some (.ref a))) X.env (cameBackBy (model X.prog X.w) X.A X.env X.xe)) sx
      have tkS : L2.Takes (sX X a ((a, o4) :: (X.pn ++ pins)) xs) Ws := fun u2 s2 x2 => by
        obtain ⟨a2, B2, sI2, pn2, σ2, H2, cls2, d2, e2, I2, r2⟩ := x2
        exact flies_off st fr nd ni lo tks wk ⟨a2, B2, sI2, pins, σ2, H2, cls2, d2, e2, (sX_in I2).unsuite I0, r2⟩
      have hot : L2H.HotC (sX X a ((a, o4) :: (X.pn ++ pins)) xs) := ⟨(a, o4), ⟨rfl, vs4, d4, z4.2.2 vs4 d4⟩, List.mem_cons_self⟩
      refine store_ok (X := X.suite a ((a, o4) :: (X.pn ++ pins))) (v := .ref a) S4 nd ni (.inl lo) rfl (fun s5 S5 => ?_) (.inr lo)
      refine wpAny_mono ((sp a o4 cls d (X.pn ++ pins) xs z4 ⟨_, d4⟩ tkS hot).run [] s5 _ H1 _ (sX_of S5) (inS rfl a na)) (fun f s6 got => ?_) (fun e6 s6 z => z)
      have done : ∀ {σ6 : L2.St} {H6 : Hp} {Q : Shared → Prop}, Inv (sX X a ((a, o4) :: (X.pn ++ pins)) xs) [] σ6 H6 s6 → (∀ s7, Inv X pins (σ6.set i none) H6 s7 → Q s7) → wpAny (model X.prog X.w) X.A (do bindName X.env n .none; unbindBehindTheSuite X.env n q2) (fun _ s7 => Q s7) X.xe s6 :=
        fun S6 hq => gone_ok ((sX_in S6).unsuite I0) nd ni lo hq
      match f, got with
      | .next, ⟨_, _, S6, q6⟩ => exact done S6 fun s7 J7 => ⟨_, _, J7, q6⟩
      | .brk, ⟨_, _, S6, q6⟩ => exact done S6 fun s7 J7 => ⟨_, _, J7, q6⟩
      | .cont, ⟨_, _, S6, q6⟩ => exact done S6 fun s7 J7 => ⟨_, _, J7, q6⟩
      | .ret _, ⟨_, _, _, S6, r6, q6⟩ => exact done S6 fun s7 J7 => ⟨_, _, _, J7, r6, q6⟩
  refine wpAny_mono ((hb (wAs X.K c i ts Wout D) (X.pn ++ pins) caught take PassesOwn.looking).run [] s σ H D (I.toTry _) want) (fun f s1 got => ?_) (fun e s1 he => he)
  match f, got with
  | .next, ⟨_, _, J', q⟩ => exact wpAny_execs_nil ⟨_, _, J'.ofTry I0, q⟩
  | .brk, ⟨_, _, J', q⟩ => exact ⟨_, _, J'.ofTry I0, q⟩
  | .cont, ⟨_, _, J', q⟩ => exact ⟨_, _, J'.ofTry I0, q⟩
  | .ret _, ⟨_, _, _, J', r, q⟩ => exact ⟨_, _, _, J'.ofTry I0, r, q⟩
end Qk
namespace Qk
open PySem PySem.Spec PyProof.Rows L2 HotX
/-- raise C(..) from e in the suite that caught e -/
theorem ps_raiseFE {X : Cx} {W : WX} {a : Addr} {oe : Obj} {cls : Value} {d : Option Addr} {pn : List (Addr × Obj)} {xe : Value → Shared → Prop} {e : Expr} {t : L2.St → Hp → XK → Prop} {i : Nat} {nm : Str} {cp pos : Pos}
    (hz : L2N.Zn cls d oe) (hf : ∃ vs, oe.data = .fields vs) (tk : L2.Takes (sX X a ((a, oe) :: pn) xe) W) (he : L2H.PMk5 (sX X a ((a, oe) :: pn) xe) e t) (hi : X.N[i]? = some nm) (hv : X.env.kindOf nm = some .local) (hd : (nm == ("__debug__" : Str)) = false := by decide) :
    PS (sX X a ((a, oe) :: pn) xe) (.Raise (some e) (some (.Name nm cp)) pos) (fun _ σ H => t σ H fun cls' d' H' => σ[i]? = some (some (.ref a)) ∧ PySem.W.subIn X.K cls (.type "BaseException") = some true ∧ W cls' d' σ H') := by
  refine ⟨fun pins s σ H D I want => ?_⟩
  obtain ⟨v1, e1⟩ := hf
  show wpAny _ _ (do standAt pos; raiseStmt X.env (some (do let v ← eval e X.env; standAt pos; pure v)) (some (do let v ← eval (.Name nm cp) X.env; standAt pos; pure v))) _ _ _
  refine wpAny_bind (wpAny_standAt (raise_from_hot (c := a) (wpAny_bind (wpAny_mono (he pins s σ H _ I want) (fun u s1 hu => wpAny_bind (wpAny_standAt (wpAny_pure ?_))) fun _ _ x => x))))
  obtain ⟨⟨n, ob, us, sI, H', cl, d2, rfl, J, k, hne, gn, zn, du, u1, na, os, ag, r, sl, sub, q⟩, six⟩ := hu
  have big : 4 < us.size := six n ob us rfl gn du
  have J1 : Inv (sX X a ((a, oe) :: pn) xe) pins σ H' s1 := by
    have J0 := J.kept (h' := s1.heap) (t' := s1.toks) k
    exact ⟨J0.ok, os.trans J.os, ag, J0.base, J0.loc, J0.cell, J0.free, J0.freeC, J0.pin, J0.hok, J0.len⟩
  have P1 := (J.pin (a, oe) (List.mem_append_left _ List.mem_cons_self)).1
  have apart : n ≠ a := fun z => by
    rw [z] at hne
    have P2 : sI.heap.get? a = some oe := P1
    rw [hne] at P2
    cases P2
  have P3 : s1.heap.get? a = some oe := k _ _ P1
  have keepN : ∀ b o, sI.heap.get? b = some o → (causeAt s1.heap n a).get? b = some o := fun b o z => by
    rw [causeAt_ne (fun y => by rw [← y, hne] at z; cases z)]
    exact k b o z
  obtain ⟨r1, _⟩ := r (model X.prog X.w) s1.heap (J.kIn.keeps k)
  obtain ⟨_, r2⟩ := r (model X.prog X.w) (causeAt s1.heap n a) (J.kIn.keeps keepN)
  obtain ⟨g4, d4⟩ := causeAt_self (c := a) gn du
  have tb : (((us.setIfInBounds 3 (Value.ref a)).setIfInBounds 4 (Value.bool true)).setIfInBounds 2 (Value.ref a))[1]? = some Value.none := set_other (by decide) (set_other (by decide) (set_other (by decide) u1))
  refine ⟨n, ob, us, cl, cls, rfl, gn, zn.1, du, u1, big, Ne.symm apart, ⟨rfl, oe, v1, P3, e1, hz.2.2 v1 e1⟩, fun QC qc => ?_, fun _ _ _ s2 kk qq => wpAny_typeOf_ref (kk _ _ P3) (by rw [hz.1]; exact qq), PySem.W.looks_subIn J1.kIn sub, r1, r2, tk _ _ (XE.new J (fun b u z => ?_) hne (Heap.get?_update_self _ g4 (Obj.isFreed_of_fields (Obj.data_mapFields d4 _)))
    ⟨by rw [Obj.cls_mapFields, Obj.cls_mapFields, Obj.cls_mapFields]; exact zn.1, by rw [HandSPX.dict_mapFields, HandSPX.dict_mapFields, HandSPX.dict_mapFields]; exact zn.2.1⟩ (Obj.data_mapFields d4 _) tb na os ag q)⟩
  · obtain ⟨m, hn, lk⟩ := J1.loc
    obtain ⟨u, ru, l⟩ := lk i nm (.ref a) hi sl (.inl hv)
    obtain rfl : u = Value.ref a := ru
    rcases l with ⟨hk, hm⟩ | ⟨hk, c, hc, hcell⟩
    · exact wpAny_bind (wpAny_Name (wpAny_loadName_local J1.ok.kind hk hn hm (wpAny_bind (wpAny_standAt (wpAny_pure qc)))) hd)
    · rcases hk with hk | hk
      · have hv' : X.env.kindOf nm = some .cell := hk
        rw [hv] at hv'
        cases hv'
      · have hv' : X.env.kindOf nm = some .free := hk
        rw [hv] at hv'
        cases hv'
  · have nab : n ≠ b := fun y => by
      rw [← y, hne] at z
      cases z
    show ((causeAt s1.heap n a).update n (Obj.mapFields (·.setIfInBounds 2 (.ref a)))).get? b = some u
    rw [Heap.get?_update_other _ _ nab]
    exact keepN b u z
end Qk
namespace Qk
open PySem PySem.Spec PyProof.Rows L2
section
variable {X : Cx} {a : Addr} {pn : List (Addr × Obj)} {xe : Value → Shared → Prop}
theorem pe_sX {e : Expr} {te : TE} (h : PE (X.suite a pn) e te) : PE (sX X a pn xe) e te :=
  ⟨fun pins s σ H Q I w => wpAny_mono (h.run pins s σ H Q (sX_in I) w) (fun _ _ ⟨v, H1, I1, r⟩ => ⟨v, H1, sX_of I1, r⟩) fun _ _ z => z.elim⟩
theorem pa_sX {es : List Expr} {ta : TA} (h : PA (X.suite a pn) es ta) : PA (sX X a pn xe) es ta :=
  ⟨fun p pins s σ H Q I w => wpAny_mono (h.run p pins s σ H Q (sX_in I) w) (fun _ _ ⟨v, H1, I1, r⟩ => ⟨v, H1, sX_of I1, r⟩) fun _ _ z => z.elim⟩
end
theorem skyN {B h : Heap} {l : List Env} {a : Addr} {cls : Value} {d : Option Addr} {L : Addr} (x : Sky B l a (L2N.Zn cls d) L h) : Sky B l a (Zc cls d) L h := by
  rcases x with ⟨h1, h2, h3, oe, vs, he, hz, r⟩ | fl | held
  · exact .inl ⟨h1, h2, h3, oe, vs, he, hz.zc, r⟩
  · exact .inr (.inl (L2H.flyingZ_imp (fun _ z => z.zc) fl))
  · exact .inr (.inr ⟨held.1, held.2.1, held.2.2.1, L2H.tracedZ_imp (fun _ z => z.zc) held.2.2.2⟩)
theorem takesCN {X : Cx} {W : WX} (tk : L2.Takes X W) : L2N.Takes X W := fun u s' ⟨a, B, sI, pins, σ, H, cls, d, e, I, nb, up, sky, r⟩ => tk u s' ⟨a, B, sI, pins, σ, H, cls, d, e, I, nb, up, skyN sky, r⟩
/-- raise C(..) where errors are of L2.CX -/
theorem k_raiseC {X : Cx} {W : WX} {e : Expr} {C : Addr} {sp : Sp} {ta : TA} {pos : Pos} (hc : X.calm = true) (tk : L2.Takes X W) (he : L2N.PMk X e (tMkO C sp [] ta)) : PS X (.Raise (some e) none pos) (tRaise W C sp ta) := k_raise hc (takesCN tk) he
/-- try: body, except c as i: a suite that may raise -/
def tTryX (K : PySem.W.Frag) (c : Value) (i : Nat) (tb : WX → TS) (ts : Cls3) (Wout : WX) : TS := fun D σ H => tb (wAs K c i ts Wout D) D σ H
theorem k_tryX {X : Cx} {n : Str} {i : Nat} {body : List Stmt} {x : Str} {c : Value} {b : Stmt} {su : List Stmt} {q1 q2 : Pos} {pos : Pos} {tb : WX → TS} {ts : Cls3} {Wout Ws : WX} (K : PySem.W.Frag)
    (st : X.stack = X.env :: X.outer) (fr : X.env.frame = some X.env.locals) (nd : X.N.Nodup) (ni : X.N[i]? = some n) (lo : X.env.kindOf n = some .local) (tk : L2N.Takes X Wout) (tks : L2.Takes X Ws) (wk : ∀ cls d σ H, Ws cls d σ H → Ws cls d (σ.set i none) H)
    (nm : Names X x c) (hb : ∀ (W : WX) (pn : List (Addr × Obj)) (xe : Value → Shared → Prop), L2N.Takes (X.tr pn xe) W → PassesOwn (model X.prog X.w) X.A X.env xe → PSs (X.tr pn xe) body (tb W))
    (sp : ∀ (a : Addr) (o : Obj) (cls : Value) (d : Option Addr) (pn : List (Addr × Obj)) (xe : Value → Shared → Prop), L2N.Zn cls d o → (∃ vs, o.data = .fields vs) → L2.Takes (sX X a ((a, o) :: pn) xe) Ws → L2H.HotC (sX X a ((a, o) :: pn) xe) → PSs (sX X a ((a, o) :: pn) xe) (b :: su) (ts a cls d)) (e : X.K = K := by rfl) :
    PS X (.Try body [.ExceptHandler (some (.Name x q1)) (some n) (b :: su) q2] [] [] pos) (tTryX K c i tb ts Wout) := by
  subst e
  exact ps_tryX st fr nd ni lo tk tks wk hb nm sp
theorem g_tryX {K : PySem.W.Frag} {c : Value} {i : Nat} {tb : WX → TS} {ts : Cls3} {Wout : WX} {D : Ends} {σ : L2.St} {H : Hp} (q : tb (wAs K c i ts Wout D) D σ H) : tTryX K c i tb ts Wout D σ H := q
/-- raise C(..) from e -/
def tRaiseF (K : PySem.W.Frag) (a : Addr) (cls : Value) (i : Nat) (W : WX) (C : Addr) (sp : Sp) (ta : TA) : TS := fun _ σ H => tMkO C sp [] ta σ H fun cls' d' H' => σ[i]? = some (some (.ref a)) ∧ PySem.W.subIn K cls (.type "BaseException") = some true ∧ W cls' d' σ H'
theorem k_raiseF {X : Cx} {W : WX} {a : Addr} {oe : Obj} {cls : Value} {d : Option Addr} {pn : List (Addr × Obj)} {xe : Value → Shared → Prop} {e : Expr} {i : Nat} {nm : Str} {cp pos : Pos} {C : Addr} {sp : Sp} {ta : TA} (K : PySem.W.Frag)
    (hz : L2N.Zn cls d oe) (hf : ∃ vs, oe.data = .fields vs) (tk : L2.Takes (sX X a ((a, oe) :: pn) xe) W) (he : L2H.PMk5 (sX X a ((a, oe) :: pn) xe) e (tMkO C sp [] ta)) (hi : X.N[i]? = some nm) (hv : X.env.kindOf nm = some .local) (ek : X.K = K := by rfl) (hd : (nm == ("__debug__" : Str)) = false := by decide) :
    PS (sX X a ((a, oe) :: pn) xe) (.Raise (some e) (some (.Name nm cp)) pos) (tRaiseF K a cls i W C sp ta) := by
  subst ek
  exact ps_raiseFE hz hf tk he hi hv hd
theorem g_raiseF {K : PySem.W.Frag} {a : Addr} {cls : Value} {i : Nat} {W : WX} {C : Addr} {sp : Sp} {ta : TA} {D : Ends} {σ : L2.St} {H : Hp} (hs : σ[i]? = some (some (.ref a))) (hb : PySem.W.subIn K cls (.type "BaseException") = some true) (q : ta σ H fun vs H1 => kMk C sp vs H1 fun cls d H' => W cls d σ H') : tRaiseF K a cls i W C sp ta D σ H := by
  have key : (fun cls' d' H' => σ[i]? = some (some (V.ref a)) ∧ PySem.W.subIn K cls (.type "BaseException") = some true ∧ W cls' d' σ H') = fun cls' d' H' => W cls' d' σ H' := by
    funext c' d' H'
    exact propext ⟨fun z => z.2.2, fun z => ⟨hs, hb, z⟩⟩
  show tMkO C sp [] ta σ H _
  rw [key]
  exact q
end Qk

/-! Qdc: dict comprehensions, split, startswith -/
namespace Qk
open PySem PySem.Spec PyProof.Rows L2
def kDc (J : It) (g : TG) (tt : TT) (tk tv : TE) (vs : List Nat) (σ : L2.St) (H1 : Hp) (Q : VK) : Prop := ∀ D, H1 D = none → ∃ W : Nat → Nat → Hp → Prop, (∃ m, W 0 m (upd H1 D (.dK []))) ∧ ∀ i m H, W i m H →
  (J.stop i H ∧ Q (.ref D) H) ∨ (J.go i H ∧ ∃ Nx : Hp → Prop, (∀ H', Nx H' → ∃ m', m' < m ∧ W (i + 1) m' H') ∧ ∀ x H', J.yld i H x H' → g x (wipe σ vs) H' fun σ2 H2 => wipe σ2 vs = wipe σ vs ∧ tt σ2 H2 fun b H3 =>
    if b = true then tk σ2 H3 fun y H4 => tv σ2 H4 fun z H5 => ∃ kvs k, y = kV k ∧ H5 D = some (.dK kvs) ∧ kvs.length < sizeLine ∧ Nx (upd H5 D (.dK (putK kvs k z))) else Nx H3)
def kDNx (S : Nat → List (Key × V) → Hp → Own → Prop) (i : Nat) (D : Addr) (H : Hp) : Prop := ∃ acc F' O', S (i + 1) acc F' O' ∧ Has F' ((D, .dK acc) :: O') H
def kDTurn (D : Addr) (Nx : Hp → Prop) (y z : V) (H : Hp) : Prop := ∃ kvs k, y = kV k ∧ H D = some (.dK kvs) ∧ kvs.length < sizeLine ∧ Nx (upd H D (.dK (putK kvs k z)))
def kDcL (K : PySem.W.Frag) (g : TG) (tt : TT) (tk tv : TE) (vs : List Nat) (σ : L2.St) (x : V) (H : Hp) (Q : VK) : Prop := ∃ a, x = .ref a ∧ (∃ xs, SqL K H a xs) ∧ kDc (Itl K a) g tt tk tv vs σ H Q
def kDcT (K : PySem.W.Frag) (g : TG) (tt : TT) (tk tv : TE) (vs : List Nat) (σ : L2.St) (x : V) (H : Hp) (Q : VK) : Prop := ∃ a, x = .ref a ∧ (∃ xs, SqT K H a xs) ∧ kDc (Itt K a) g tt tk tv vs σ H Q
section
variable {K : PySem.W.Frag} {σ : L2.St} {F : Hp} {O : Own} {H : Hp} {Q : VK} {ta tk tv : TE} {tt : TT} {vs : List Nat} {g : TG}
theorem g_dcL (q : ta σ H fun x H1 => kDcL K g tt tk tv vs σ x H1 Q) : tDc (iList K ta) g tt tk tv vs σ H Q := q
theorem g_dcT (q : ta σ H fun x H1 => kDcT K g tt tk tv vs σ x H1 Q) : tDc (iTup K ta) g tt tk tv vs σ H Q := q
theorem kd_turn {S : Nat → List (Key × V) → Hp → Own → Prop} {i : Nat} {D : Addr} {acc : List (Key × V)} {y z : V} {k : Key} (e : y = kV k) (h : Has F ((D, .dK acc) :: O) H) (hl : acc.length ≤ 100000) (s : S (i + 1) (putK acc k z) F O) : kDTurn D (kDNx S i D) y z H :=
  ⟨acc, k, e, h.get (List.Mem.head _), by rw [sizeLine_eq]; omega, _, F, O, s, h.put .hd⟩
theorem kd_skip {S : Nat → List (Key × V) → Hp → Own → Prop} {i : Nat} {D : Addr} {acc : List (Key × V)} (h : Has F ((D, .dK acc) :: O) H) (s : S (i + 1) acc F O) : kDNx S i D H := ⟨acc, F, O, s, h⟩
theorem k_dc {J : It} (hH : Has F O H) (n : Nat) (S : Nat → List (Key × V) → Hp → Own → Prop) (h0 : S 0 [] F O)
    (go : ∀ i acc F O D H, i < n → S i acc F O → Has F ((D, .dK acc) :: O) H → J.go i H) (stop : ∀ acc F O D H, S n acc F O → Has F ((D, .dK acc) :: O) H → J.stop n H)
    (hs : ∀ i x acc F O D H H', i < n → J.yld i H x H' → S i acc F O → Has F ((D, .dK acc) :: O) H → g x (wipe σ vs) H' fun σ2 H2 => wipe σ2 vs = wipe σ vs ∧ tt σ2 H2 fun b H3 => if b = true then tk σ2 H3 fun y H4 => tv σ2 H4 fun z H5 => kDTurn D (kDNx S i D) y z H5 else kDNx S i D H3)
    (hd : ∀ acc F O D H, S n acc F O → Has F ((D, .dK acc) :: O) H → Q (.ref D) H) : kDc J g tt tk tv vs σ H Q := by
  intro D nD
  refine ⟨fun i m H => m = n - i ∧ i ≤ n ∧ ∃ acc F O, S i acc F O ∧ Has F ((D, .dK acc) :: O) H, ⟨n, by simp, Nat.zero_le _, [], F, O, h0, hH.new nD⟩, ?_⟩
  rintro i m H1 ⟨rfl, le, acc, F1, O1, s1, h1⟩
  by_cases lt : i < n
  · exact .inr ⟨go i acc F1 O1 D H1 lt s1 h1, kDNx S i D, fun H' p => ⟨n - (i + 1), by omega, rfl, lt, p⟩, fun x H' y => hs i x acc F1 O1 D H1 H' lt y s1 h1⟩
  · have e : i = n := by omega
    subst e
    exact .inl ⟨stop acc F1 O1 D H1 s1 h1, hd acc F1 O1 D H1 s1 h1⟩
theorem k_dcL {a : Addr} {xs : List V} (h : H a = some (.lst xs)) (hH : Has F O H) (S : Nat → List (Key × V) → Hp → Own → Prop) (h0 : S 0 [] F O) (hl : ∀ i acc F O H, S i acc F O → Has F O H → H a = some (.lst xs))
    (hs : ∀ i x acc F O D H, xs[i]? = some x → S i acc F O → Has F ((D, .dK acc) :: O) H → g x (wipe σ vs) H fun σ2 H2 => wipe σ2 vs = wipe σ vs ∧ tt σ2 H2 fun b H3 => if b = true then tk σ2 H3 fun y H4 => tv σ2 H4 fun z H5 => kDTurn D (kDNx S i D) y z H5 else kDNx S i D H3)
    (hd : ∀ acc F O D H, S xs.length acc F O → Has F ((D, .dK acc) :: O) H → Q (.ref D) H) : kDcL K g tt tk tv vs σ (.ref a) H Q := by
  refine ⟨a, rfl, ⟨xs, SqL.of h⟩, k_dc hH xs.length S h0 (fun i acc F O D H lt s hh => ⟨xs, xs[i], SqL.of (hl i acc F O H s hh.drop), List.getElem?_eq_getElem lt⟩) (fun acc F O D H s hh => ⟨xs, SqL.of (hl _ acc F O H s hh.drop), Nat.le_refl _⟩) (fun i x acc F O D H H' lt y s hh => ?_) hd⟩
  obtain ⟨e, y⟩ := y
  subst e
  exact hs i x acc F O D _ (y xs (SqL.of (hl i acc F O _ s hh.drop))) s hh
theorem k_dcT {a : Addr} {xs : List V} (h : H a = some (.tup xs)) (hH : Has F O H) (S : Nat → List (Key × V) → Hp → Own → Prop) (h0 : S 0 [] F O) (hl : ∀ i acc F O H, S i acc F O → Has F O H → H a = some (.tup xs))
    (hs : ∀ i x acc F O D H, xs[i]? = some x → S i acc F O → Has F ((D, .dK acc) :: O) H → g x (wipe σ vs) H fun σ2 H2 => wipe σ2 vs = wipe σ vs ∧ tt σ2 H2 fun b H3 => if b = true then tk σ2 H3 fun y H4 => tv σ2 H4 fun z H5 => kDTurn D (kDNx S i D) y z H5 else kDNx S i D H3)
    (hd : ∀ acc F O D H, S xs.length acc F O → Has F ((D, .dK acc) :: O) H → Q (.ref D) H) : kDcT K g tt tk tv vs σ (.ref a) H Q := by
  refine ⟨a, rfl, ⟨xs, SqT.of h⟩, k_dc hH xs.length S h0 (fun i acc F O D H lt s hh => ⟨xs, xs[i], SqT.of (hl i acc F O H s hh.drop), List.getElem?_eq_getElem lt⟩) (fun acc F O D H s hh => ⟨xs, SqT.of (hl _ acc F O H s hh.drop), Nat.le_refl _⟩) (fun i x acc F O D H H' lt y s hh => ?_) hd⟩
  obtain ⟨e, y⟩ := y
  subst e
  exact hs i x acc F O D _ (y xs (SqT.of (hl i acc F O _ s hh.drop))) s hh
end
/-! ### split, startswith -/
def rSplit : V → List V → Hp → VK → Prop := fun x xs H Q => ∃ a b, x = .str a ∧ xs = [.str b] ∧ (b.length == 0) = false ∧ a.length + 2 ≤ sizeLine ∧ rNewStrs (Txt.split a b) H Q
def rStarts : V → List V → Hp → VK → Prop := fun x xs H Q => ∃ a b, x = .str a ∧ xs = [.str b] ∧ Q (.bl (Txt.startswith a b)) H
section
variable {X : Cx} {o e : Expr} {to te : TE}
theorem k_split {apos pos : Pos} (ho : PE X o to) (he : PE X e te) (hs : starEach [e] X.env = [(false, eval e X.env)] := by rfl) (hb : attributeBase o "split" X.env (eval o X.env) = eval o X.env := by rfl) (hl : (apos.endLine == pos.line) = true := by rfl) :
    PE X (.Call (.Attribute o "split" apos) [e] [] pos) (tM1 rSplit to te) := pe_split ho he hs hb hl
theorem k_starts {apos pos : Pos} (ho : PE X o to) (he : PE X e te) (hs : starEach [e] X.env = [(false, eval e X.env)] := by rfl) (hb : attributeBase o "startswith" X.env (eval o X.env) = eval o X.env := by rfl) (hl : (apos.endLine == pos.line) = true := by rfl) :
    PE X (.Call (.Attribute o "startswith" apos) [e] [] pos) (tM1 rStarts to te) := pe_m1 F.slot_str_startswith F.type_str_startswith mt_startswith ho he hs hb hl
end
def kM1 (r : V → List V → Hp → VK → Prop) (te : TE) (σ : L2.St) (x : V) (H : Hp) (Q : VK) : Prop := (∃ a, x = .str a) ∧ te σ H fun y H2 => r x [y] H2 Q
theorem g_m1s {r : V → List V → Hp → VK → Prop} {to te : TE} {σ : L2.St} {H : Hp} {Q : VK} (q : to σ H fun x H1 => kM1 r te σ x H1 Q) : tM1 r to te σ H Q := q
theorem g_km1s {r : V → List V → Hp → VK → Prop} {te : TE} {σ : L2.St} {a : Str} {H : Hp} {Q : VK} (q : te σ H fun y H2 => r (.str a) [y] H2 Q) : kM1 r te σ (.str a) H Q := ⟨⟨a, rfl⟩, q⟩
theorem g_split {F H : Hp} {O : Own} {Q : VK} {a b : Str} (nb : (b.length == 0) = false) (la : a.length ≤ 100000) (hH : Has F O H) (q : ∀ p H', H p = none → Has F ((p, .lst ((Txt.split a b).map V.str)) :: O) H' → Q (.ref p) H') : rSplit (.str a) [.str b] H Q :=
  ⟨a, b, rfl, rfl, nb, by rw [sizeLine_eq]; omega, fun p n => q p _ n (hH.new n)⟩
theorem g_starts {H : Hp} {Q : VK} {a b : Str} (q : Q (.bl (Txt.startswith a b)) H) : rStarts (.str a) [.str b] H Q := ⟨a, b, rfl, rfl, q⟩
/-! ### comprehensions over a text -/
def kLcS (g : TG) (tt : TT) (te : TE) (vs : List Nat) (σ : L2.St) (x : V) (H : Hp) (Q : VK) : Prop := ∃ z, x = .str z ∧ kLc (Its z) g tt te vs σ H Q
theorem g_lcS {ta te : TE} {g : TG} {tt : TT} {vs : List Nat} {σ : L2.St} {H : Hp} {Q : VK} (q : ta σ H fun x H1 => kLcS g tt te vs σ x H1 Q) : tLc (iStr ta) g tt te vs σ H Q := q
theorem k_lcS {z : Str} {te : TE} {g : TG} {tt : TT} {vs : List Nat} {σ : L2.St} {F H : Hp} {O : Own} {Q : VK} (hH : Has F O H) (S : Nat → List V → Hp → Own → Prop) (h0 : S 0 [] F O)
    (hs : ∀ i c acc F O D H, z.cps[i]? = some c → S i acc F O → Has F ((D, .lst acc) :: O) H → g (.str ⟨#[c]⟩) (wipe σ vs) H fun σ2 H2 => wipe σ2 vs = wipe σ vs ∧ tt σ2 H2 fun b H3 => if b = true then te σ2 H3 fun y H4 => kTurn D (kNx S i D) y H4 else kNx S i D H3)
    (hd : ∀ acc F O D H, S z.length acc F O → Has F ((D, .lst acc) :: O) H → Q (.ref D) H) : kLcS g tt te vs σ (.str z) H Q := by
  refine ⟨z, rfl, k_lc hH z.length S h0 (fun i acc F O D H lt s hh => lt) (fun acc F O D H s hh => Nat.le_refl _) (fun i x acc F O D H H' lt y s hh => ?_) hd⟩
  obtain ⟨e, c, hc, rfl⟩ := y
  subst e
  exact hs i c acc F O D _ hc s hh
/-! ### a text times a number -/
def repS (z : Str) (n : Nat) : Str := ⟨(List.replicate n z.cps).foldl (· ++ ·) #[]⟩
theorem foldl_cps (z : Array Nat) : ∀ (n : Nat) (acc : Array Nat), ((List.replicate n z).foldl (· ++ ·) acc).toList = acc.toList ++ (List.replicate n z.toList).flatten
  | 0, acc => by simp
  | n + 1, acc => by
    rw [List.replicate_succ, List.foldl_cons, foldl_cps z n, Array.toList_append, List.replicate_succ, List.flatten_cons, List.append_assoc]
theorem repS_list (z : Str) (n : Nat) : (repS z n).cps.toList = (List.replicate n z.cps.toList).flatten := by
  unfold repS
  rw [foldl_cps]
  rfl
theorem repS_len (z : Str) (n : Nat) : (repS z n).length = n * z.length := by
  have h := congrArg List.length (repS_list z n)
  have e : (repS z n).cps.toList.length = (repS z n).length := Array.length_toList
  rw [e] at h
  rw [h, List.length_flatten, List.map_replicate, List.sum_replicate_nat]
  rfl
def rRepS : R2 := fun x y H Q => ∃ (z : Str) (k : Int), x = .str z ∧ y = .int k ∧ 1 ≤ k ∧ k ≤ 1000 ∧ z.length ≤ 1000 ∧ Q (.str (repS z k.toNat)) H
section
variable {X : Cx}
theorem op_repS : OpR X (binaryOp .Mult) rRepS := by
  intro pins s σ H x y v u Q I rx ry h
  obtain ⟨z, k, rfl, rfl, k1, k2, lz, q⟩ := h
  obtain ⟨t, rfl⟩ := rx
  obtain ⟨t', rfl⟩ := ry
  have e1 : decide (k < -(2 ^ 63 : Int)) = false := decide_eq_false (by omega)
  have e2 : decide (k ≥ 2 ^ 63) = false := decide_eq_false (by omega)
  have big : z.length * k.toNat ≤ 1000000 := Nat.mul_le_mul lz (m₂ := 1000) (by omega)
  refine PySem.P.mul_str (by rw [e1, e2]; rfl) (fun _ _ => ?_) (fun _ _ => ?_) ?_
  · have h1 : (z.length : Int) * k ≤ 2 ^ 63 - 1 := by
      have e : (z.length : Int) * k = ((z.length * k.toNat : Nat) : Int) := by
        rw [Int.natCast_mul, Int.toNat_of_nonneg (by omega)]
      rw [e]
      omega
    have := (Int.le_ediv_iff_mul_le (a := (z.length : Int)) (b := 2 ^ 63 - 1) (c := k) (by omega)).mpr h1
    omega
  · unfold Builtin.Str.tooLong
    simp only [decide_eq_false_iff_not]
    rw [sizeLine_eq]
    omega
  · rw [if_neg (by omega)]
    by_cases c : (k == 1 || z.length == 0) = true
    · rw [if_pos c]
      have e : repS z k.toNat = z := by
        have hl := repS_list z k.toNat
        have : (repS z k.toNat).cps = z.cps := by
          apply Array.ext'
          rw [hl]
          rcases Bool.or_eq_true _ _ ▸ c with c | c
          · have : k = 1 := by simpa using c
            subst this
            simp
          · have c : z.length = 0 := by simpa using c
            have : z.cps.toList = [] := List.eq_nil_of_length_eq_zero (by rw [Array.length_toList]; exact c)
            rw [this]
            simp
        cases z
        exact congrArg Str.mk this
      rw [e] at q
      exact ⟨.str z, H, I, ⟨_, rfl⟩, q⟩
    · rw [if_neg c]
      refine ⟨?_, .str _, H, I.tok _, ⟨_, rfl⟩, q⟩
      have l := repS_len z k.toNat
      have l2 : (repS z k.toNat).length ≤ 1000000 := by rw [l, Nat.mul_comm]; exact big
      rw [sizeLine_eq]
      exact Nat.le_trans l2 (by decide)
end
theorem g_repS {H : Hp} {Q : VK} {z : Str} {k : Int} (k1 : 1 ≤ k) (k2 : k ≤ 1000) (lz : z.length ≤ 1000) (q : Q (.str (repS z k.toNat)) H) : rRepS (.str z) (.int k) H Q := ⟨z, k, rfl, rfl, k1, k2, lz, q⟩
end Qk

/-! Qdk: comprehensions over a dict that stands still -/
namespace Qk
open PySem PySem.Spec PyProof.Rows L2
/-- S of what stands still once the dict is free again -/
def lkS {α : Type} (d : Addr) (od : Obj) (u : HO) (S : Nat → α → Hp → Own → Prop) : Nat → α → Hp → Own → Prop := fun t acc G O => ∃ F', G = upd F' d (.frz od u) ∧ F' d = some u ∧ S t acc F' O
theorem upd_eta {H : Hp} {d : Addr} {o : HO} (e : H d = some o) : upd H d o = H := by
  funext b
  by_cases c : b = d
  · subst c
    rw [upd_same, e]
  · rw [upd_ne c]
theorem lk_turn {α : Type} {d : Addr} {od : Obj} {u : HO} {S : Nat → α → Hp → Own → Prop} {t : Nat} {acc : α} {G : Hp} {O : Own} (e : G d = some (.frz od u)) (s : S t acc (upd G d u) O) : lkS d od u S t acc G O :=
  ⟨upd G d u, by rw [upd_upd, upd_eta e], upd_same, s⟩
theorem un_same {F G : Hp} {d : Addr} {od : Obj} {u : HO} (fd : F d = some u) (s : Same (upd F d (.frz od u)) G) : Same F (upd G d u) := fun b v q => by
  by_cases c : b = d
  · subst c
    rw [fd] at q
    rw [upd_same, q]
  · rw [upd_ne c]
    exact s b v (by rw [upd_ne c]; exact q)
theorem un_at {G : Hp} {d b : Addr} {od : Obj} {u o : HO} (e : G d = some (.frz od u)) (h : G b = some o) (ne : o ≠ .frz od u) : upd G d u b = some o := by
  by_cases c : b = d
  · subst c
    rw [e] at h
    injection h with h
    exact (ne h.symm).elim
  · rw [upd_ne c]
    exact h
section
variable {K : PySem.W.Frag} {σ : L2.St} {F : Hp} {O : Own} {H : Hp} {Q : VK} {te tk tv : TE} {tt : TT} {vs : List Nat} {g : TG} {d : Addr} {kvs : List (Key × V)}
theorem k_dcDK {i : Nat} (hv : σ[i]? = some (some (.ref d))) (fd : F d = some (.dK kvs)) (hH : Has F O H) (S : Nat → List (Key × V) → Hp → Own → Prop) (h0 : S 0 [] F O)
    (hs : ∀ t k v acc F' O' D H od, kvs[t]? = some (k, v) → S t acc F' O' → F' d = some (.dK kvs) → Has (upd F' d (.frz od (.dK kvs))) ((D, .dK acc) :: O') H →
      g (kV k) (wipe σ vs) H fun σ2 H2 => wipe σ2 vs = wipe σ vs ∧ tt σ2 H2 fun b H3 => if b = true then tk σ2 H3 fun y H4 => tv σ2 H4 fun z H5 => kDTurn D (kDNx (lkS d od (.dK kvs) S) t D) y z H5 else kDNx (lkS d od (.dK kvs) S) t D H3)
    (hd : ∀ acc F' O' D H, S kvs.length acc F' O' → Has F' ((D, .dK acc) :: O') H → Q (.ref D) H) : tLockE (tDc (iKeys (tVar i)) g tt tk tv vs) σ H Q := by
  refine ⟨d, .dK kvs, hH.same _ _ fd, trivial, fun od => ⟨.ref d, hv, d, od, rfl, .inl ⟨kvs, upd_same, ?_⟩⟩⟩
  show kDc (Itk d od kvs) g tt tk tv vs σ (upd H d (.frz od (.dK kvs))) (fun v H' => H' d = some (.frz od (.dK kvs)) ∧ Q v (upd H' d (.dK kvs)))
  refine k_dc (hH.lock fd) kvs.length (lkS d od (.dK kvs) S) ⟨F, rfl, fd, h0⟩ ?_ ?_ ?_ ?_
  · rintro t acc G O' D H' lt ⟨F', rfl, _, _⟩ hh
    exact ⟨hh.same _ _ upd_same, lt⟩
  · rintro acc G O' D H' ⟨F', rfl, _, _⟩ hh
    exact ⟨hh.same _ _ upd_same, Nat.le_refl _⟩
  · rintro t x acc G O' D H1 H' lt ⟨rfl, k, v, e, rfl⟩ ⟨F', rfl, fd', s⟩ hh
    exact hs t k v acc F' O' D _ od e s fd' hh
  · rintro acc G O' D H' ⟨F', rfl, fd', s⟩ hh
    have h2 := hh.unlock (od := od) (u := .dK kvs) upd_same
    rw [upd_upd, upd_eta fd'] at h2
    exact ⟨hh.same _ _ upd_same, hd acc F' O' D _ s h2⟩
theorem k_lcDK {i : Nat} (hv : σ[i]? = some (some (.ref d))) (fd : F d = some (.dK kvs)) (hH : Has F O H) (S : Nat → List V → Hp → Own → Prop) (h0 : S 0 [] F O)
    (hs : ∀ t k v acc F' O' D H od, kvs[t]? = some (k, v) → S t acc F' O' → F' d = some (.dK kvs) → Has (upd F' d (.frz od (.dK kvs))) ((D, .lst acc) :: O') H →
      g (kV k) (wipe σ vs) H fun σ2 H2 => wipe σ2 vs = wipe σ vs ∧ tt σ2 H2 fun b H3 => if b = true then te σ2 H3 fun y H4 => kTurn D (kNx (lkS d od (.dK kvs) S) t D) y H4 else kNx (lkS d od (.dK kvs) S) t D H3)
    (hd : ∀ acc F' O' D H, S kvs.length acc F' O' → Has F' ((D, .lst acc) :: O') H → Q (.ref D) H) : tLockE (tLc (iKeys (tVar i)) g tt te vs) σ H Q := by
  refine ⟨d, .dK kvs, hH.same _ _ fd, trivial, fun od => ⟨.ref d, hv, d, od, rfl, .inl ⟨kvs, upd_same, ?_⟩⟩⟩
  show kLc (Itk d od kvs) g tt te vs σ (upd H d (.frz od (.dK kvs))) (fun v H' => H' d = some (.frz od (.dK kvs)) ∧ Q v (upd H' d (.dK kvs)))
  refine k_lc (hH.lock fd) kvs.length (lkS d od (.dK kvs) S) ⟨F, rfl, fd, h0⟩ ?_ ?_ ?_ ?_
  · rintro t acc G O' D H' lt ⟨F', rfl, _, _⟩ hh
    exact ⟨hh.same _ _ upd_same, lt⟩
  · rintro acc G O' D H' ⟨F', rfl, _, _⟩ hh
    exact ⟨hh.same _ _ upd_same, Nat.le_refl _⟩
  · rintro t x acc G O' D H1 H' lt ⟨rfl, k, v, e, rfl⟩ ⟨F', rfl, fd', s⟩ hh
    exact hs t k v acc F' O' D _ od e s fd' hh
  · rintro acc G O' D H' ⟨F', rfl, fd', s⟩ hh
    have h2 := hh.unlock (od := od) (u := .dK kvs) upd_same
    rw [upd_upd, upd_eta fd'] at h2
    exact ⟨hh.same _ _ upd_same, hd acc F' O' D _ s h2⟩
end
/-! ### comprehensions over reversed(list); d.pop(k) -/
def kLcRv (K : PySem.W.Frag) (g : TG) (tt : TT) (te : TE) (vs : List Nat) (σ : L2.St) (x0 : List V) (H : Hp) (Q : VK) : Prop := ∃ (a : Addr) (xs : List V), x0 = [.ref a] ∧ SqL K H a xs ∧ kLc (Itv K a xs.length) g tt te vs σ H Q
def kDPop (ty : TE) (σ : L2.St) (x : V) (H1 : Hp) (Q : VK) : Prop := ∃ a, x = .ref a ∧ IsD H1 a ∧ ty σ H1 fun y H2 => ∃ kvs k v, H2 a = some (.dK kvs) ∧ y = kV k ∧ valV kvs k = some v ∧ Q v (upd H2 a (.dK (dropK kvs k)))
def kDPopped (a : Addr) (y : V) (H2 : Hp) (Q : VK) : Prop := ∃ kvs k v, H2 a = some (.dK kvs) ∧ y = kV k ∧ valV kvs k = some v ∧ Q v (upd H2 a (.dK (dropK kvs k)))
section
variable {K : PySem.W.Frag} {σ : L2.St} {F : Hp} {O O' : Own} {H : Hp} {Q : VK} {te td ty : TE} {ta : TA} {tt : TT} {vs : List Nat} {g : TG} {d : Addr} {kvs : List (Key × V)}
theorem g_lcRv (q : ta σ H fun xs H1 => kLcRv K g tt te vs σ xs H1 Q) : tLc (iRev K ta) g tt te vs σ H Q := q
theorem k_lcRv {a : Addr} {xs : List V} (h : H a = some (.lst xs)) (hH : Has F O H) (S : Nat → List V → Hp → Own → Prop) (h0 : S 0 [] F O) (hl : ∀ i acc F O H, S i acc F O → Has F O H → H a = some (.lst xs))
    (hs : ∀ i x acc F O D H, xs.reverse[i]? = some x → S i acc F O → Has F ((D, .lst acc) :: O) H → g x (wipe σ vs) H fun σ2 H2 => wipe σ2 vs = wipe σ vs ∧ tt σ2 H2 fun b H3 => if b = true then te σ2 H3 fun y H4 => kTurn D (kNx S i D) y H4 else kNx S i D H3)
    (hd : ∀ acc F O D H, S xs.length acc F O → Has F ((D, .lst acc) :: O) H → Q (.ref D) H) : kLcRv K g tt te vs σ [.ref a] H Q := by
  refine ⟨a, xs, rfl, SqL.of h, k_lc hH xs.length S h0 (fun i acc F O D H hi s hh => ?_) (fun acc F O D H s hh => ?_) (fun i x acc F O D H H' hi y s hh => ?_) hd⟩
  · exact ⟨hi, xs, xs[xs.length - 1 - i]'(by omega), SqL.of (hl i acc F O H s hh.drop), List.getElem?_eq_getElem (by omega)⟩
  · exact Nat.le_refl _
  · obtain ⟨e, y⟩ := y
    subst e
    have := y xs (SqL.of (hl i acc F O _ s hh.drop))
    refine hs i x acc F O D _ ?_ s hh
    rw [List.getElem?_reverse hi]
    exact this
theorem g_dpop1 (q : td σ H fun x H1 => kDPop ty σ x H1 Q) : tDPop1 td ty σ H Q := q
theorem g_kdpop {a : Addr} (h : H a = some (.dK kvs)) (q : ty σ H fun y H2 => kDPopped a y H2 Q) : kDPop ty σ (.ref a) H Q := ⟨a, rfl, .inl ⟨kvs, .inl h⟩, q⟩
theorem g_kdpopped {a : Addr} {k : Key} {v z : V} (ez : z = kV k) (hH : Has F O H) (c : Chg O a (.dK kvs) (.dK (dropK kvs k)) O') (hv : valV kvs k = some v) (q : ∀ H', Has F O' H' → Q v H') : kDPopped a z H Q :=
  ⟨kvs, k, v, hH.get c.mem, ez, hv, q _ (hH.put c)⟩
end
end Qk

/-! Qen: for over a list or a tuple, and over enumerate of either -/
namespace Qk
open PySem PySem.Spec PyProof.Rows L2
set_option maxHeartbeats 1000000 in
theorem meets_enum_tup (l : Addr) (items : Array Value) : Meets (Builtin.«enumerate.__new__» ⟨[.type "enumerate", .ref l], []⟩) (fun _ R s => s.heap.IsTuple l items ∧
      R (.ok (.ret (.ref (s.heap.push { cls := .type "tuple_iterator", data := .fields #[.ref l, .int 0 0] }).objs.size)))
        { s with heap := (s.heap.push { cls := .type "tuple_iterator", data := .fields #[.ref l, .int 0 0] }).push { cls := .type "enumerate", data := .fields #[.none, .bool false, .ref s.heap.objs.size, rawInt 0, .none, .none] } }) :=
  .of_wp fun prog w A R s h => by
    obtain ⟨hp, g, d, tk, os⟩ := s; obtain ⟨h1, h⟩ := h
    have hsub := sub_enumerate
    have q1 : ∀ {A' : Around} {E : Value → Shared → Prop} {Q : Value → Shared → Prop}, Q (.ref hp.objs.size) ⟨hp.push { cls := .type "tuple_iterator", data := .fields #[.ref l, .int 0 0] }, g, d, tk, os⟩ → wpAny (model prog w) A' (pyIter (.ref l)) Q E ⟨hp, g, d, tk, os⟩ :=
      fun q => wpAny_pyIter_tuple h1 q
    wp_walk using q1
    refine wpAny_stack_any fun st => wpAny_pure ?_
    split
    · rename_i c _ _ _ _ _
      cases (c == Value.type "enumerate")
      · wp_walk using q1
        exact ⟨_, rfl, h⟩
      · wp_walk using q1
        exact ⟨_, rfl, h⟩
    · wp_walk using q1
      exact ⟨_, rfl, h⟩
section
variable {prog : Program} {w : World} {A : Around} {E : Value → Shared → Prop} {s : Shared}
theorem call_enum_tup {l : Addr} {items : Array Value} {Q : Value → Shared → Prop} (hL : s.heap.IsTuple l items)
    (h : ∀ h', IsEnum h' (s.heap.objs.size + 1) s.heap.objs.size 0 .none → h'.IsTupleIter s.heap.objs.size l 0 → h'.objs.size = s.heap.objs.size + 2 →
      (∀ b o, s.heap.get? b = some o → h'.get? b = some o) → Q (.ref (s.heap.objs.size + 1)) { s with heap := h' }) :
    wpAny (model prog w) A (call (.type "enumerate") [.ref l]) Q E s := by
  refine callType_new F.called_enumerate (by decide) (F.typeCall_enumerate_1 _) (F.newCall_enumerate_1 _) (fun obj => F.args_object_init_2 obj _) F.entry_enumerate_new
    (meets_enum_tup l items) ⟨hL, ?_⟩
  have hz : (s.heap.push { cls := .type "tuple_iterator", data := .fields #[.ref l, .int 0 0] }).objs.size = s.heap.objs.size + 1 := Heap.size_push ..
  show _ ∧ _
  rw [hz]
  have he : IsEnum ((s.heap.push { cls := .type "tuple_iterator", data := .fields #[.ref l, .int 0 0] }).push
      { cls := .type "enumerate", data := .fields #[.none, .bool false, .ref s.heap.objs.size, rawInt 0, .none, .none] }) (s.heap.objs.size + 1) s.heap.objs.size 0 .none := by
    have := Heap.get?_push_size (s.heap.push { cls := .type "tuple_iterator", data := .fields #[.ref l, .int 0 0] })
      (o := { cls := .type "enumerate", data := .fields #[.none, .bool false, .ref s.heap.objs.size, rawInt 0, .none, .none] }) rfl
    rw [hz] at this; exact this
  refine ⟨⟨_, he, rfl⟩, h _ he ⟨_, Heap.get?_push_of_some _ (Heap.get?_push_size _ rfl), rfl, rfl⟩ (by rw [Heap.size_push, hz]) fun b o x => Heap.get?_push_of_some _ (Heap.get?_push_of_some _ x)⟩
end
def IteT (K : PySem.W.Frag) (a : Addr) : It :=
  ⟨fun i H => ∃ (xs : List V) (x : V), SqT K H a xs ∧ xs[i]? = some x, fun i H v H' => ∃ T x, v = .ref T ∧ H T = none ∧ H' = upd H T (.tup [.int (i : Nat), x]) ∧ ∀ xs, SqT K H a xs → xs[i]? = some x, fun i H => ∃ xs : List V, SqT K H a xs ∧ xs.length = i⟩
theorem apart_tup {h : Heap} {a b : Addr} {items : Array Value} {o : Obj} (ht : h.IsTuple a items) (e : h.get? b = some o) (n : o.cls ≠ .type "tuple") : a ≠ b := fun z => by
  obtain ⟨ot, hot, hc, _⟩ := ht
  rw [z, e] at hot
  injection hot with hot
  rw [hot] at n
  exact n hc
theorem turn_enumT {P : Program} {w : World} {K : PySem.W.Frag} {elts : List Expr} {kk : Nat} {tpos : Pos} (a e it : Addr) :
    Turn P w K (.Tuple elts kk tpos) (IteT K a) [e, it] e (fun i h => (∃ old, IsEnum h e it ((i : Nat) : Int) old) ∧ h.IsTupleIter it a i ∧ e ≠ it) where
  mem := by simp
  obj := fun i h st b hb => by
    obtain ⟨⟨old, he⟩, ⟨o, ho, hc, hd⟩, _⟩ := st
    have e' : b = e ∨ b = it := by simpa using hb
    rcases e' with z | z
    · rw [z]; exact ⟨_, he, fun v q => nomatch q⟩
    · rw [z]; exact ⟨o, ho, fun v q => by rw [hd] at q; cases q⟩
  keep := fun i h h' st k => let ⟨⟨old, he⟩, hi, hne⟩ := st; ⟨⟨old, k e (by simp) _ he⟩, hi.at fun o q => k it (by simp) o q, hne⟩
  item := by
    intro X hP hw hK hc i pins s σ H E I hf st hg
    subst hP hw hK
    obtain ⟨⟨old, he⟩, hit, hne⟩ := st
    obtain ⟨xs, x, hq, hx⟩ := hg
    obtain ⟨its, rv, p, hz⟩ := I.tuple hq
    have p : s.heap.IsTuple a its.toArray := p
    obtain ⟨u, hu, ru⟩ := rv.get hx
    have hel : e < s.heap.objs.size := Heap.lt_size he
    have hil : it < s.heap.objs.size := by obtain ⟨_, q, _⟩ := hit; exact Heap.lt_size q
    have nae : a ≠ e := apart_tup p he (by simp)
    have nai : a ≠ it := by
      obtain ⟨oi, hoi, hci, _⟩ := id hit
      exact apart_tup p hoi (by rw [hci]; simp)
    have lu : i < its.toArray.size := by
      have := (List.getElem?_eq_some_iff.mp hu).1
      simpa using this
    refine wpAny_pyNext_enum_itemD (Draws.tuple (A := X.A.in1) (show X.A.in1.handled = none from I.ok.hd hc) it a nai its.toArray) he ⟨hit, p⟩ lu hne (by simp [hne, nae.symm]) fun x' h' tk px ho st' hT hsz hk => ?_
    have ex : x' = u := by
      have px : its.toArray[i]? = some x' := px
      rw [show its.toArray[i]? = some u by simpa using hu] at px
      exact (Option.some.inj px).symm
    subst ex
    have hit' := st'.1
    refine ⟨_, rfl, wpAny_letOwnedTupleGo_enum (s := { s with heap := h', toks := tk + 1 }) ho fun h'' he' sb => ?_⟩
    have hT2 : h''.get? s.heap.objs.size = some { cls := .type "tuple", data := .seq #[.int i tk, x'] } := (sb.2 _ (Nat.ne_of_gt hel)).trans hT
    have new : ObjOk X.prog X.w (upd H s.heap.objs.size (.tup [.int (i : Nat), x])) h'' s.heap.objs.size (.tup [.int (i : Nat), x]) :=
      ⟨by show 2 ≤ sizeLine; decide, [.int i tk, x'], .cons ⟨_, rfl⟩ (.cons ru .nil), ⟨_, hT2, rfl, _, rfl⟩⟩
    have I1 : Inv X pins σ (upd H s.heap.objs.size (.tup [.int (i : Nat), x])) { s with heap := h'', toks := tk + 1 } :=
      I.turnedNew (ch := [e, it]) (fun b ob hb q => (sb.2 b (fun z => hb (by simp [z]))).trans (hk b ob (fun z => hb (by simp [z])) (fun z => hb (by simp [z])) q)) hf (Nat.le_refl _) new
    refine ⟨.ref s.heap.objs.size, _, I1, rfl, ⟨_, x, rfl, I.hok.fresh (Nat.le_refl _), rfl, fun ys hy => by rw [I.tuple_inj hy hq]; exact hx⟩, ⟨⟨x', ?_⟩, hit'.at fun o q => (sb.2 it (Ne.symm hne)).trans q, hne⟩, fun b hb => ?_⟩
    · have e1 : ((i + 1 : Nat) : Int) = (i : Int) + 1 := by omega
      rw [e1]; exact he'
    · have hb' : b < s.heap.objs.size := by
        have e' : b = e ∨ b = it := by simpa using hb
        rcases e' with z | z
        · rw [z]; exact hel
        · rw [z]; exact hil
      rw [upd_ne (Nat.ne_of_lt hb')]
      exact (hf b hb).1
  done := by
    intro X hP hw hK hc i pins s σ H E I hf st hg
    subst hP hw hK
    obtain ⟨⟨old, he⟩, hit, hne⟩ := st
    obtain ⟨xs, hq, hx⟩ := hg
    obtain ⟨its, rv, p, hz⟩ := I.tuple hq
    have p : s.heap.IsTuple a its.toArray := p
    obtain ⟨f0, f1, f2, f3, f4, f5⟩ := hf it (by simp)
    have nai : a ≠ it := by
      obtain ⟨oi, hoi, hci, _⟩ := id hit
      exact apart_tup p hoi (by rw [hci]; simp)
    have hl := rv.length
    have e1 : its.toArray.size = i := by simp; omega
    refine wpAny_pyNext_enum_endD (Draws.tuple (A := X.A.in1) (show X.A.in1.handled = none from I.ok.hd hc) it a nai its.toArray) he ⟨by rw [e1]; exact hit, p⟩ fun h' eb => ⟨rfl, I.turned (t' := s.toks) (fun b o hb q => eb b o hb q) f0 f1 f3 f4 f5⟩
  self := fun A i s Q E st h => let ⟨⟨_, he⟩, _⟩ := st; wpAny_pyIter_enum he h
/-- enumerate of a list or of a tuple -/
def iEnumA (K : PySem.W.Frag) (ta : TA) : TI := fun σ H R => ta σ H fun vs H1 => ∃ a, vs = [.ref a] ∧ ((∃ xs, SqL K H1 a xs ∧ R (Ite K a) H1) ∨ (∃ xs, SqT K H1 a xs ∧ R (IteT K a) H1))
theorem pi_enumA {X : Cx} {e : Expr} {ta : TA} {p pos tpos : Pos} {elts : List Expr} {kk : Nat} (hg : Gl X "enumerate") (hm : X.mg "enumerate" = none) (ha : PA X [e] ta) (hs : starEach [e] X.env = [(false, eval e X.env)] := by rfl) :
    PI X (.Tuple elts kk tpos) (.Call (.Name "enumerate" p) [e] [] pos) (iEnumA X.K ta) := by
  refine ⟨fun pins s σ H R I h => ?_⟩
  refine Call_ (ld_blt I hg hm boot_enumerate (PyProof.Rows.callWith_type1 (thn (ha.run pos pins s σ H _ I h) fun us s1 ⟨vs, H1, I1, r1, q1⟩ => ?_) hs rfl))
  obtain ⟨a, ex, q1⟩ := q1
  subst ex
  cases r1 with
  | cons r rr =>
    cases rr
    cases r
    have fp : ∀ b ∈ [s1.heap.objs.size + 1, s1.heap.objs.size], FpOk X pins H1 b := fun b hb => by
      have e' : b = s1.heap.objs.size + 1 ∨ b = s1.heap.objs.size := by simpa using hb
      have hle : s1.heap.objs.size ≤ b := by
        rcases e' with z | z
        · rw [z]; exact Nat.le_add_right _ _
        · rw [z]; exact Nat.le_refl _
      exact I1.fpOk hle (I1.hok.fresh hle)
    rcases q1 with ⟨xs, hq, q⟩ | ⟨xs, hq, q⟩
    · obtain ⟨its, rv, p', hz⟩ := I1.list hq
      refine call_enumerate_list p'.isList fun h' he hit hsz hk => wpAny_pyIter_enum he ?_
      have I2 : Inv X pins σ H1 { s1 with heap := h' } := I1.kept (t' := s1.toks) hk
      exact ⟨s1.heap.objs.size + 1, [s1.heap.objs.size + 1, s1.heap.objs.size], _, _, H1, rfl, I2, turn_enum a (s1.heap.objs.size + 1) s1.heap.objs.size, ⟨⟨.none, he⟩, hit, Nat.succ_ne_self _⟩, fp, q⟩
    · obtain ⟨its, rv, p', hz⟩ := I1.tuple hq
      refine call_enum_tup (show s1.heap.IsTuple a its.toArray from p') fun h' he hit hsz hk => wpAny_pyIter_enum he ?_
      have I2 : Inv X pins σ H1 { s1 with heap := h' } := I1.kept (t' := s1.toks) hk
      exact ⟨s1.heap.objs.size + 1, [s1.heap.objs.size + 1, s1.heap.objs.size], _, _, H1, rfl, I2, turn_enumT a (s1.heap.objs.size + 1) s1.heap.objs.size, ⟨⟨.none, he⟩, hit, Nat.succ_ne_self _⟩, fp, q⟩
/-- a list or a tuple -/
def iSeqA (K : PySem.W.Frag) (tl : TE) : TI := fun σ H R => tl σ H fun x H1 => ∃ a, x = .ref a ∧ (((∃ xs, SqL K H1 a xs) ∧ R (Itl K a) H1) ∨ ((∃ xs, SqT K H1 a xs) ∧ R (Itt K a) H1))
theorem pi_seqA {X : Cx} {tg l : Expr} {tl : TE} (hl : PE X l tl) : PI X tg l (iSeqA X.K tl) := by
  refine ⟨fun pins s σ H R I h => ?_⟩
  refine thn (hl.run pins s σ H _ I h) fun v s1 ⟨x, H1, I1, r1, q1⟩ => ?_
  obtain ⟨a, e, q1⟩ := q1
  subst e
  cases r1
  have fp : ∀ b ∈ [s1.heap.objs.size], FpOk X pins H1 b := fun b hb => by
    have e : b = s1.heap.objs.size := by simpa using hb
    subst e
    exact I1.fpOk (Nat.le_refl _) (I1.hok.fresh (Nat.le_refl _))
  rcases q1 with ⟨⟨xs, hq⟩, q⟩ | ⟨⟨xs, hq⟩, q⟩
  · obtain ⟨its, rv, p, hz⟩ := I1.list hq
    refine wpAny_pyIter_list p.isList ?_
    exact ⟨s1.heap.objs.size, [s1.heap.objs.size], _, _, H1, rfl, I1.kept (t' := s1.toks) fun b o e => Heap.get?_push_of_some _ e, turn_list a _, ⟨_, Heap.get?_push_size _ rfl, rfl, rfl⟩, fp, q⟩
  · obtain ⟨its, rv, p, hz⟩ := I1.tuple hq
    refine wpAny_pyIter_tuple (show s1.heap.IsTuple a its.toArray from p) ?_
    exact ⟨s1.heap.objs.size, [s1.heap.objs.size], _, _, H1, rfl, I1.kept (t' := s1.toks) fun b o e => Heap.get?_push_of_some _ e, turn_tuple a _, ⟨_, Heap.get?_push_size _ rfl, rfl, rfl⟩, fp, q⟩
/-! ### in continuation form -/
/-- a list or a tuple of these -/
def SeqO (o : HO) (xs : List V) : Prop := o = .lst xs ∨ o = .tup xs
def kForEA (K : PySem.W.Frag) (g : TG) (tb : TS) (D : Ends) (σ : L2.St) (vs : List V) (H : Hp) : Prop := ∃ a, vs = [.ref a] ∧ ((∃ xs, SqL K H a xs ∧ kW (Ite K a) g tb D σ H) ∨ (∃ xs, SqT K H a xs ∧ kW (IteT K a) g tb D σ H))
def kForSA (K : PySem.W.Frag) (g : TG) (tb : TS) (D : Ends) (σ : L2.St) (x : V) (H : Hp) : Prop := ∃ a, x = .ref a ∧ (((∃ xs, SqL K H a xs) ∧ kW (Itl K a) g tb D σ H) ∨ ((∃ xs, SqT K H a xs) ∧ kW (Itt K a) g tb D σ H))
section
variable {K : PySem.W.Frag} {σ : L2.St} {H : Hp} {D : Ends} {ts : TS} {g : TG} {a : Addr} {xs : List V} {ta : TA} {te : TE}
theorem g_forEA (q : ta σ H fun vs H1 => kForEA K g ts D σ vs H1) : tFor (iEnumA K ta) g ts D σ H := q
theorem g_forSA (q : te σ H fun x H1 => kForSA K g ts D σ x H1) : tFor (iSeqA K te) g ts D σ H := q
theorem k_forEA {o : HO} (so : SeqO o xs) (Pv : Nat → L2.St → Hp → Prop) (h0 : Pv 0 σ H) (hl : ∀ i σ H, Pv i σ H → H a = some o)
    (hs : ∀ i x σ H T, xs[i]? = some x → Pv i σ H → H T = none → g (.ref T) σ (upd H T (.tup [.int (i : Nat), x])) fun σ2 H2 => ts { D with nx := Pv (i + 1), ct := Pv (i + 1), bk := D.nx } σ2 H2) (hd : ∀ σ H, Pv xs.length σ H → D.nx σ H) : kForEA K g ts D σ [.ref a] H := by
  refine ⟨a, rfl, ?_⟩
  rcases so with rfl | rfl
  · refine .inl ⟨xs, SqL.of (hl _ _ _ h0), fun i m σ H => m = xs.length - i ∧ i ≤ xs.length ∧ Pv i σ H, ⟨_, rfl, Nat.zero_le _, h0⟩, ?_⟩
    rintro i m σ H1 ⟨rfl, hi, p⟩
    have hq : SqL K H1 a xs := SqL.of (hl i σ H1 p)
    by_cases hlt : i < xs.length
    · refine .inr ⟨⟨xs, xs[i], hq, List.getElem?_eq_getElem hlt⟩, Pv (i + 1), fun σ' H' p' => ⟨xs.length - (i + 1), by omega, rfl, hlt, p'⟩, ?_⟩
      rintro x H' ⟨T, y, rfl, n, rfl, e⟩
      exact hs i y σ H1 T (e xs hq) p n
    · have e : i = xs.length := by omega
      subst e
      exact .inl ⟨⟨xs, hq, Nat.le_refl _⟩, hd σ H1 p⟩
  · refine .inr ⟨xs, SqT.of (hl _ _ _ h0), fun i m σ H => m = xs.length - i ∧ i ≤ xs.length ∧ Pv i σ H, ⟨_, rfl, Nat.zero_le _, h0⟩, ?_⟩
    rintro i m σ H1 ⟨rfl, hi, p⟩
    have hq : SqT K H1 a xs := SqT.of (hl i σ H1 p)
    by_cases hlt : i < xs.length
    · refine .inr ⟨⟨xs, xs[i], hq, List.getElem?_eq_getElem hlt⟩, Pv (i + 1), fun σ' H' p' => ⟨xs.length - (i + 1), by omega, rfl, hlt, p'⟩, ?_⟩
      rintro x H' ⟨T, y, rfl, n, rfl, e⟩
      exact hs i y σ H1 T (e xs hq) p n
    · have e : i = xs.length := by omega
      subst e
      exact .inl ⟨⟨xs, hq, rfl⟩, hd σ H1 p⟩
theorem k_forSA {o : HO} (so : SeqO o xs) (Pv : Nat → L2.St → Hp → Prop) (h0 : Pv 0 σ H) (hl : ∀ i σ H, Pv i σ H → H a = some o)
    (hs : ∀ i x σ H, xs[i]? = some x → Pv i σ H → g x σ H fun σ2 H2 => ts { D with nx := Pv (i + 1), ct := Pv (i + 1), bk := D.nx } σ2 H2) (hd : ∀ σ H, Pv xs.length σ H → D.nx σ H) : kForSA K g ts D σ (.ref a) H := by
  refine ⟨a, rfl, ?_⟩
  rcases so with rfl | rfl
  · refine .inl ⟨⟨xs, SqL.of (hl _ _ _ h0)⟩, fun i m σ H => m = xs.length - i ∧ i ≤ xs.length ∧ Pv i σ H, ⟨_, rfl, Nat.zero_le _, h0⟩, ?_⟩
    rintro i m σ H1 ⟨rfl, hi, p⟩
    have hq : SqL K H1 a xs := SqL.of (hl i σ H1 p)
    by_cases hlt : i < xs.length
    · refine .inr ⟨⟨xs, xs[i], hq, List.getElem?_eq_getElem hlt⟩, Pv (i + 1), fun σ' H' p' => ⟨xs.length - (i + 1), by omega, rfl, hlt, p'⟩, ?_⟩
      rintro x H' ⟨rfl, e⟩
      exact hs i x σ _ (e xs hq) p
    · have e : i = xs.length := by omega
      subst e
      exact .inl ⟨⟨xs, hq, Nat.le_refl _⟩, hd σ H1 p⟩
  · refine .inr ⟨⟨xs, SqT.of (hl _ _ _ h0)⟩, fun i m σ H => m = xs.length - i ∧ i ≤ xs.length ∧ Pv i σ H, ⟨_, rfl, Nat.zero_le _, h0⟩, ?_⟩
    rintro i m σ H1 ⟨rfl, hi, p⟩
    have hq : SqT K H1 a xs := SqT.of (hl i σ H1 p)
    by_cases hlt : i < xs.length
    · refine .inr ⟨⟨xs, xs[i], hq, List.getElem?_eq_getElem hlt⟩, Pv (i + 1), fun σ' H' p' => ⟨xs.length - (i + 1), by omega, rfl, hlt, p'⟩, ?_⟩
      rintro x H' ⟨rfl, e⟩
      exact hs i x σ _ (e xs hq) p
    · have e : i = xs.length := by omega
      subst e
      exact .inl ⟨⟨xs, hq, Nat.le_refl _⟩, hd σ H1 p⟩
end
theorem k_sa {X : Cx} {tg e : Expr} {te : TE} (K : PySem.W.Frag) (h : PI X tg e (iSeqA X.K te)) (ek : X.K = K := by rfl) : PI X tg e (iSeqA K te) := by subst ek; exact h
theorem k_ea {X : Cx} {tg e : Expr} {ta : TA} (K : PySem.W.Frag) (h : PI X tg e (iEnumA X.K ta)) (ek : X.K = K := by rfl) : PI X tg e (iEnumA K ta) := by subst ek; exact h
/-! ### set(), s.add(k) -/
theorem cr_set0P {X : Cx} (P : Program) (w : World) (eP : X.prog = P := by rfl) (ew : X.w = w := by rfl) : CallR X (.type "set") (rSet0K P w) := by
  subst eP
  subst ew
  exact cr_set0K
theorem k_sadd {X : Cx} {ex : Expr} {to : TE} {t : TA} (P : Program) (w : World) (h : PE X ex (tSAddK X.prog X.w to t)) (eP : X.prog = P := by rfl) (ew : X.w = w := by rfl) : PE X ex (tSAddK P w to t) := by
  subst eP
  subst ew
  exact h
def kSAdd (P : Program) (w : World) (t : TA) (σ : L2.St) (x : V) (H1 : Hp) (Q : VK) : Prop := (∃ a S n, x = V.ref a ∧ H1 a = some (SetK P w a S n)) ∧ t σ H1 fun xs H2 => rSAddK P w x xs H2 Q
section
variable {P : Program} {w : World} {σ : L2.St} {F : Hp} {O O' : Own} {H : Hp} {Q : VK} {to : TE} {t : TA}
theorem g_sadd (q : to σ H fun x H1 => kSAdd P w t σ x H1 Q) : tSAddK P w to t σ H Q := q
theorem g_ksadd {a : Addr} {S : Key → Bool} {n : Nat} (h : H a = some (SetK P w a S n)) (q : t σ H fun xs H2 => rSAddK P w (.ref a) xs H2 Q) : kSAdd P w t σ (.ref a) H Q := ⟨⟨a, S, n, rfl, h⟩, q⟩
theorem g_set0 (hH : Has F O H) (q : ∀ p H', H p = none → Has F ((p, SetK P w p (fun _ => false) 0) :: O) H' → Q (.ref p) H') : rSet0K P w [] H Q := ⟨rfl, fun p n => q p _ n (hH.new n)⟩
theorem g_saddK {a : Addr} {k : Key} {S : Key → Bool} {n : Nat} {z : V} (ez : z = kV k) (hH : Has F O H) (c : Chg O a (SetK P w a S n) (SetK P w a (fun j => S j || decide (j = k)) (if S k = true then n else n + 1)) O') (room : n + 1 < scanBound) (q : ∀ H', Has F O' H' → Q .non H') : rSAddK P w (.ref a) [z] H Q :=
  ⟨a, k, S, n, rfl, by rw [ez], hH.get c.mem, room, q _ (hH.put c)⟩
end
/-! ### a tuple times a number -/
theorem op_repTK {X : Cx} (K : PySem.W.Frag) (e : X.K = K := by rfl) : OpR X (binaryOp .Mult) (rRepT K) := by
  subst e
  exact op_repT
theorem g_repT {K : PySem.W.Frag} {F H : Hp} {O : Own} {Q : VK} {l : Addr} {k : Int} {xs : List V} (h : H l = some (.tup xs)) (ne : xs ≠ []) (k1 : 2 ≤ k) (k2 : k ≤ 1000) (lx : xs.length ≤ 1000) (hH : Has F O H) (q : ∀ p H' F', H p = none → Same F F' → F' p = some (.tup (List.replicate k.toNat xs).flatten) → Has F' O H' → Q (.ref p) H') : rRepT K (.ref l) (.int k) H Q :=
  ⟨l, k, xs, rfl, rfl, SqT.of h, ne, k1, k2, lx, fun p n => q p _ (upd F p (.tup (List.replicate k.toNat xs).flatten)) n (same_upd (hH.same.free n)) upd_same (hH.new n).frz⟩
end Qk

/-! Qts: set(dict), set | set, few keys -/
namespace Qk
open PySem PySem.Spec PyProof.Rows L2
/-- a new key finds its slot in a table in order -/
theorem layNew_ok {t : SetTable} {es : Array (Int × Value)} {h : Int} {x : Value} (T : TabOk t (es.toList.map (·.1))) (hl : es.size + 1 ≤ t.mask) :
    ∃ es1 t1, layNew t es h x = (es1, t1, false, false) ∧ TabOk t1 (es1.toList.map (·.1)) ∧ t1.mask = t.mask ∧ t1.led = t.led ∧ t1.plain = t.plain ∧ t1.fill = es.size + 1 ∧ es1.size = es.size + 1 := by
  have hle : (es.toList.map (·.1)).length = es.size := by rw [List.length_map, Array.length_toList]
  obtain ⟨K, k1, k2, k3⟩ := T.first (by omega) h
  have key := go_spec t T.ris T.dm (fun _ => h + 1) h (10 * SetTable.turns t.mask) K (t.probeStart h) rfl k1 k3 k2
  have hp : t.probe (fun _ => h + 1) h (t.probeStart h) = some (.empty (way t.mask h K) none) := by
    rcases key with ⟨k, i, _, _, e, _⟩ | ⟨_, e⟩
    · exact absurd e (by show ¬ (h + 1 = h); omega)
    · exact e
  have hf : t.freeSlot h = some (way t.mask h K, false) := by
    unfold SetTable.freeSlot
    rw [hp]
    rfl
  obtain ⟨p1, p2, p3, p4, p5, p6, _, _, p9⟩ := T.put k2 k3
  rw [hle] at p2 p9
  generalize SetTable.below t.place (way t.mask h K) = b at p1 p2 p3
  have hes : (SetTable.insertAt es b (h, x)).toList = es.toList.take b ++ (h, x) :: es.toList.drop b := SetTable.toList_insertAt _ _ _
  have hsz : (SetTable.insertAt es b (h, x)).size = es.size + 1 := by
    rw [← Array.length_toList, hes, List.length_append, List.length_cons, List.length_take, List.length_drop, Array.length_toList]
    omega
  have hm : (SetTable.insertAt es b (h, x)).toList.map (·.1) = (es.toList.map (·.1)).take b ++ h :: (es.toList.map (·.1)).drop b := by
    rw [hes, List.map_append, List.map_cons, List.map_take, List.map_drop]
  have T1 : TabOk (t.put (way t.mask h K)).1 ((SetTable.insertAt es b (h, x)).toList.map (·.1)) := by
    rw [hm]
    exact p3
  have fits : (t.put (way t.mask h K)).1.fits (SetTable.insertAt es b (h, x)).size = true := by
    unfold SetTable.fits
    rw [T1.sz, List.length_map, Array.length_toList, p9, p4]
    simp
    omega
  refine ⟨SetTable.insertAt es b (h, x), (t.put (way t.mask h K)).1, ?_, T1, p4, p5, p6, p9, hsz⟩
  unfold layNew
  rw [hf]
  show (SetTable.insertAt es (t.put (way t.mask h K)).2 (h, x), (t.put (way t.mask h K)).1.orStandIn (SetTable.insertAt es (t.put (way t.mask h K)).2 (h, x)).size, false, !(t.put (way t.mask h K)).1.fits (SetTable.insertAt es (t.put (way t.mask h K)).2 (h, x)).size) = _
  rw [p1, fits]
  unfold SetTable.orStandIn
  rw [if_pos fits]
  rfl
def hasK (ks : List Key) (k : Key) : Bool := ks.any fun j => decide (k = j)
theorem hasK_iff {ks : List Key} {k : Key} : hasK ks k = true ↔ k ∈ ks := by
  unfold hasK
  rw [List.any_eq_true]
  constructor
  · rintro ⟨x, hx, e⟩
    rw [of_decide_eq_true e]
    exact hx
  · intro h
    exact ⟨k, h, decide_eq_true rfl⟩
theorem hasK_not {ks : List Key} {k : Key} (h : k ∉ ks) : hasK ks k = false := by
  cases e : hasK ks k with
  | false => rfl
  | true => exact absurd (hasK_iff.mp e) h
/-- a set of keys whose table is in order -/
def KT (P : Program) (w : World) (h : Heap) (a : Addr) (M : Nat) (ks : List Key) : Prop :=
  ∃ (o : Obj) (es : Array (Int × Value)) (ep : Nat) (t : SetTable), h.get? a = some o ∧ o.ExactSet ∧ o.data = .set es ep t ∧ ElemsOf (mixKind P w) es.toList ∧ KE P w es ks ∧ TabOk t (es.toList.map (·.1)) ∧ t.mask = M ∧ es.size * 5 < M * 3 ∧ (w.params.followText "set-order" = true ∨ t.led = true)
section
variable {P : Program} {w : World} {A : Around} {E : Value → Shared → Prop} {s : Shared} {a : Addr} {M : Nat} {ks : List Key}
theorem KT.at_ {h h' : Heap} (r : KT P w h a M ks) (s : ∀ o, h.get? a = some o → h'.get? a = some o) : KT P w h' a M ks := by
  obtain ⟨o, es, ep, t, h1, rest⟩ := r
  exact ⟨o, es, ep, t, s _ h1, rest⟩
theorem tab_fill {t : SetTable} {hs : List Int} (T : TabOk t hs) : t.fill = hs.length := by
  unfold SetTable.fill
  rw [T.sz, T.dm]
  rfl
theorem mask_le {m : Nat} (h : MaskOk m) : m ≤ 127 := by
  rcases h with e | e | e <;> omega
theorem KT.kr {h : Heap} (r : KT P w h a M ks) : KR P w h a (hasK ks) ks.length := by
  obtain ⟨o, es, ep, t, h1, h2, h3, h4, h5, T, hM, hs, hl⟩ := r
  have le := h5.len
  have hle : (es.toList.map (·.1)).length = es.size := by rw [List.length_map, Array.length_toList]
  have hm := mask_le T.mok
  refine ⟨o, es, ep, t, ks, h1, h2, h3, h4, h5, fun k => hasK_iff, by unfold scanBound; omega, ?_, le.symm, T.ris, hl⟩
  unfold SetTable.fits
  rw [T.sz, tab_fill T, hle, hM]
  simp
  omega
theorem tab_plain {t : SetTable} {hs : List Int} (T : TabOk t hs) : TabOk { t with plain := false } hs := ⟨T.ris, T.dm, T.sz, T.mok, T.bd, T.reach⟩
theorem kt_tail {g : Bool → Sem Unit} {o : Obj} {es : Array (Int × Value)} {ep : Nat} {t : SetTable}
    (ho : s.heap.get? a = some o) (hx : o.ExactSet) (hd : o.data = .set es ep t) {es1 : Array (Int × Value)} {t2 : SetTable}
    (he : ElemsOf (mixKind P w) es1.toList) (hk : KE P w es1 ks) (T : TabOk t2 (es1.toList.map (·.1))) (hM : t2.mask = M) (hf : es1.size * 5 < M * 3) (hl : w.params.followText "set-order" = true ∨ t2.led = true)
    {wasDummy : Bool} {R : Option Bool → Shared → Prop} (q : ∀ h', Heap.SameBut a s.heap h' → KT P w h' a M ks → R (some true) { s with heap := h' }) :
    wpAny (model P w) A (do
      storeSet a es1 t2
      if (!wasDummy && t2.tooFull) = true then do
          g (relayAll t2 es1 (SetTable.grown es1.size)).snd.snd
          storeSet a (relayAll t2 es1 (SetTable.grown es1.size)).fst (relayAll t2 es1 (SetTable.grown es1.size)).snd.fst
          pure (some true)
        else pure (some true)) R E s := by
  have hle : (es1.toList.map (·.1)).length = es1.size := by rw [List.length_map, Array.length_toList]
  have hm := mask_le T.mok
  refine wpAny_bind (wpAny_storeSet_of ho hd ?_ (fits_of_scanBound (by unfold scanBound; omega)))
  have h1 := store_at (es' := es1) (t' := t2) ho hd
  have b1 := Heap.SameBut.update s.heap a (Obj.putSet es1 t2)
  have nf : t2.tooFull = false := by
    unfold SetTable.tooFull
    rw [tab_fill T, hle, hM]
    simp
    omega
  rw [nf, Bool.and_false, if_neg Bool.false_ne_true]
  exact wpAny_pure (q _ b1 ⟨_, es1, ep + 1, t2, h1, ⟨hx.1, hx.2.1, hx.2.2⟩, rfl, he, hk, T, hM, hf, hl⟩)
theorem kt_add {k : Key} {x : Value} {Q : Bool → Shared → Prop} (his : (mixKind P w).is k x = true) (hsc : x.scannable = true) (hT : KT P w s.heap a M ks) (hn : (ks.length + 1) * 5 < M * 3)
    (q : ∀ h', Heap.SameBut a s.heap h' → KT P w h' a M (if hasK ks k = true then ks else ks ++ [k]) → Q (!hasK ks k) { s with heap := h' }) : wpAny (model P w) A (setAddHashed a x ((mixKind P w).hash k)) Q E s := by
  obtain ⟨o, es, ep, t, ho, hx, hd, he, hk, T, hM, hsz, hl⟩ := hT
  have len := hk.len
  have hm := mask_le T.mok
  have hle : (es.toList.map (·.1)).length = es.size := by rw [List.length_map, Array.length_toList]
  have hsb : es.size < scanBound := by unfold scanBound; omega
  have hf : t.fits es.size = true := by
    unfold SetTable.fits
    rw [T.sz, tab_fill T, hle, hM]
    simp
    omega
  unfold setAddHashed
  refine wpAny_holding ?_
  rw [setAddHashedIn.eq_def]
  dsimp only
  refine wpAny_bind (wpAny_setState_of ho hd hf ?_)
  dsimp only
  rw [if_pos (byScan_of (knd := mixKind P w) hsc hsb he)]
  refine wpAny_bind ?_
  unfold setAddByScan
  refine wpAny_bind (wpAny_rule ?_)
  refine wpAny_bind (wpAny_setScan_of (knd := mixKind P w) his ho hd hf he ?_)
  cases hfi : List.findIdx? (fun e => (mixKind P w).is k e.2) es.toList with
  | some j =>
    have hk1 : k ∈ ks := by
      rw [hk.mem k]
      have h1 := List.findIdx?_eq_some_iff_getElem.mp hfi
      obtain ⟨hj, hp, _⟩ := h1
      exact ⟨_, List.getElem_mem hj, hp⟩
    dsimp only
    refine wpAny_pure ?_
    dsimp only
    refine wpAny_pure ?_
    rw [if_pos (hasK_iff.mpr hk1), hasK_iff.mpr hk1] at q
    exact q s.heap (Heap.SameBut.refl _ _) ⟨o, es, ep, t, ho, hx, hd, he, hk, T, hM, hsz, hl⟩
  | none =>
    have nk : k ∉ ks := fun m => by
      obtain ⟨x', hx', hi'⟩ := (hk.mem k).mp m
      have := List.findIdx?_eq_none_iff.mp hfi x' hx'
      rw [hi'] at this
      cases this
    dsimp only
    have pm := layNew_perm t es ((mixKind P w).hash k) x
    obtain ⟨es1, t1, eln, T1, M1, led1, pl1, _, sz1⟩ := layNew_ok (h := (mixKind P w).hash k) (x := x) T (by omega)
    rw [eln] at pm ⊢
    dsimp only at pm ⊢
    have he1 : ElemsOf (mixKind P w) es1.toList := by
      have := he.push his hsc
      rw [← Array.toList_push] at this
      exact this.perm pm
    have hk1 := hk.push his nk pm
    rw [hasK_not nk, if_neg Bool.false_ne_true] at q
    have hl1 : w.params.followText "set-order" = true ∨ t1.led = true := by
      rcases hl with hl | hl
      · exact .inl hl
      · exact .inr (led1.trans hl)
    refine wpAny_bind ?_
    refine wpAny_pure ?_
    split
    · rw [hashByValue_scannable _ hsc]
      refine wpAny_bind (wpAny_pure ?_)
      refine kt_tail (M := M) (ks := ks ++ [k]) ho hx hd he1 hk1 ?_ ?_ (by omega) ?_ (fun h' sb r => ?_)
      · split
        · exact T1
        · exact tab_plain T1
      · split <;> exact M1.trans hM
      · split <;> exact hl1
      · exact wpAny_pure (q h' sb r)
    · refine wpAny_bind (wpAny_pure ?_)
      refine kt_tail (M := M) (ks := ks ++ [k]) ho hx hd he1 hk1 ?_ ?_ (by omega) ?_ (fun h' sb r => ?_)
      · split
        · exact T1
        · exact tab_plain T1
      · split <;> exact M1.trans hM
      · split <;> exact hl1
      · exact wpAny_pure (q h' sb r)
end
section
variable {prog : Program} {w : World} {A : Around} {E : Value → Shared → Prop} {s : Shared}
theorem mix_scan {k : Key} {v : Value} (h : (mixKind prog w).is k v = true) : v.scannable = true := by
  cases k with
  | inl i => cases v <;> first | rfl | cases h
  | inr z => cases v <;> first | rfl | cases h
theorem pairs_at {es : List DictEntry} {vs : List (Key × Value)} (h : Pairs (mixKind prog w) es vs) : ∀ {i : Nat} {e : DictEntry}, es[i]? = some e → ∃ kv, vs[i]? = some kv ∧ (mixKind prog w).is kv.1 e.key = true := by
  induction h with
  | nil => intro i e h; simp at h
  | @cons e0 kv es vs h1 h2 _ ih =>
    intro i e h
    cases i with
    | zero =>
      have e' : e0 = e := Option.some.inj h
      subst e'
      exact ⟨kv, rfl, h1⟩
    | succ i => exact ih (i := i) h
theorem dict_fill {l D : Addr} {es : Array DictEntry} {ep : Nat} {vs : List (Key × Value)} {o : Obj} {Q : PUnit → Shared → Prop} (m1 m2 : String) (hD : l ≠ D) (hd : o.data = .dict es ep) (ho : s.heap.get? l = some o)
    (hks : PySem.KeysOf (mixKind prog w) es) (hpr : Pairs (mixKind prog w) es.toList vs) (hnd : (vs.map (·.1)).Nodup) (hb : vs.length ≤ 4) (r0 : KT prog w s.heap D 7 [])
    (q : ∀ h', KT prog w h' D 7 (vs.map (·.1)) → Heap.SameBut D s.heap h' → Q PUnit.unit { s with heap := h' }) :
    wpAny (model prog w) A (forIn ([:es.size] : Std.Legacy.Range) PUnit.unit fun i (__s : PUnit) => do
              let __do_lift ← dictEntries l
              match __do_lift[i]? with
                | some e => do
                  let _ ← holding [e.key] (setAddHashed D e.key e.hash)
                  let __do_lift ← dictEpoch l
                  if (__do_lift != ep) = true then do
                      unsupported m1
                      pure (ForInStep.yield PUnit.unit)
                    else pure (ForInStep.yield PUnit.unit)
                | x => do
                  unsupported m2
                  pure (ForInStep.yield PUnit.unit)) Q E s := by
  have les : es.size = vs.length := by
    rw [← hpr.length, Array.length_toList]
  refine PySem.SeqAt.wpAny_forIn_span 0 es.size _ (fun i _ s' => ∃ h', s' = { s with heap := h' } ∧ KT prog w h' D 7 ((vs.map (·.1)).take i) ∧ Heap.SameBut D s.heap h') Q ?_ ?_ _ ⟨s.heap, rfl, r0, Heap.SameBut.refl _ _⟩
  · rintro i c s' _ hi ⟨h', rfl, r, sb⟩
    have hl' : h'.get? l = some o := by rw [sb.2 l hD]; exact ho
    refine wpAny_bind (wpAny_dictEntries hl' hd ?_)
    have hget : es[i]? = some es[i] := Array.getElem?_eq_getElem hi
    rw [hget]
    generalize es[i] = e at hget
    obtain ⟨kv, ekv, his⟩ := pairs_at hpr (i := i) (e := e) (by rw [Array.getElem?_toList]; exact hget)
    obtain ⟨k, hk, eh⟩ := hks e (Array.mem_of_getElem? hget)
    have ek : k = kv.1 := (mixKind prog w).inj _ _ _ hk his
    subst ek
    have e1 : (vs.map (·.1))[i]? = some kv.1 := by rw [List.getElem?_map, ekv]; rfl
    have nin : kv.1 ∉ (vs.map (·.1)).take i := fun m => by
      obtain ⟨j, hj⟩ := List.mem_iff_getElem?.mp m
      rw [List.getElem?_take] at hj
      split at hj
      · rename_i hji
        obtain ⟨l1, x1⟩ := List.getElem?_eq_some_iff.mp hj
        obtain ⟨l2, x2⟩ := List.getElem?_eq_some_iff.mp e1
        exact (List.pairwise_iff_getElem.mp hnd j i l1 l2 hji) (by rw [x1, x2])
      · cases hj
    dsimp only
    rw [eh]
    refine wpAny_bind (wpAny_holding (kt_add (s := { s with heap := h' }) hk (mix_scan hk) r (by rw [List.length_take]; omega) fun h2 sb2 r2 => ?_))
    have hl2 : h2.get? l = some o := by rw [sb2.2 l hD]; exact hl'
    refine wpAny_bind (wpAny_dictEpoch hl2 hd ?_)
    rw [if_neg (by simp)]
    rw [hasK_not nin, if_neg Bool.false_ne_true] at r2
    refine wpAny_pure ⟨h2, rfl, ?_, sb.trans sb2⟩
    rw [List.take_add_one, e1]
    exact r2
  · rintro c s' ⟨h', rfl, r, sb⟩
    have e0 : max 0 es.size = es.size := by omega
    rw [e0, les, List.take_of_length_le (by rw [List.length_map]; exact Nat.le_refl _)] at r
    exact q h' r sb
/-- what the filling of the new set leaves -/
def FilledT (prog : Program) (w : World) (ks : List Key) (s s2 : Shared) : Prop := ∃ h' tk, s2 = { s with heap := h', toks := tk } ∧ KT prog w h' s.heap.objs.size 7 ks ∧ ∀ b o, b < s.heap.objs.size → s.heap.get? b = some o → h'.get? b = some o
set_option maxHeartbeats 4000000 in
theorem call_set_dictQ {l : Addr} {vs : List (Key × Value)} {Q : Value → Shared → Prop} (hh : A.handled = none) (hl : s.heap.DictOf (mixKind prog w) l vs) (hsys : (l == sysModules) = false) (hb : vs.length ≤ 4) (q : ∀ s2, FilledT prog w (vs.map (·.1)) s s2 → Q (.ref s.heap.objs.size) s2) :
    wpAny (model prog w) A (call (.type "set") [.ref l]) Q E s := by
  obtain ⟨c, tl, hmro⟩ := PySem.F.called_set.mro
  have hmade := PySem.F.called_set.made
  have hsub := PySem.F.called_set.sub
  have h1 := PySem.F.called_set.notType
  have h2 := PySem.F.called_set.canCreate
  have hct := PySem.F.typeCall_set_1 (.ref l)
  refine wpAny_call (codeAny_of_tree ?_)
  show wpAny _ _ (callAny (.type "set") _) _ _ _
  refine wpAny_pure ⟨Code.quiet_builtin _ (by decide +kernel), codeAny_builtin PySem.F.entry_type_call ?_⟩
  rw [Around.under_plain (weight_type_call_type "set" [.ref l] []) rfl]
  repeat (any_goals (first | assumption | wp_step))
  refine codeAny_mono (code_set_led1 (.ref l) (E := E) (Q₁ := fun obj s₁ => obj = .ref s.heap.objs.size ∧ s₁ = { s with heap := s.heap.push (newSetQ w) }) ⟨rfl, rfl⟩) fun r s₁ hr => ?_
  cases r with
  | error e => exact hr
  | ok fl =>
    cases fl with
    | ret obj =>
      obtain ⟨rfl, rfl⟩ := hr
      have hS : (s.heap.push (newSetQ w)).get? s.heap.objs.size = some (newSetQ w) := Heap.get?_push_size _ rfl
      have hT : Shared.TypeIs { s with heap := s.heap.push (newSetQ w) } (.ref s.heap.objs.size) "set" := ⟨_, hS, rfl⟩
      have hli := PySem.F.called_set.init.lookup
      have hbi := PySem.F.called_set.init.bind (.ref s.heap.objs.size)
      repeat (any_goals (first | assumption | wp_step))
      refine codeAny_mono (codeAny_call_builtin (R := wants (fun r s₂ => r = .none ∧ FilledT prog w (vs.map (·.1)) s s₂) E) PySem.F.called_set.init.plain PySem.F.entry_set_init (check_set_init_1 hT ?_)) fun r₂ s₂ hr₂ => ?_
      · obtain ⟨ol, es, ep, hol, hcl, hdl, hks, hpr, hnd⟩ := hl
        obtain ⟨ocls, odict, odata, oslots⟩ := ol
        obtain ⟨hc1, hc2, hc3⟩ := hcl
        simp only at hc1 hc2 hc3 hdl
        subst hc1
        subst hdl
        have hol' : (s.heap.push (newSetQ w)).get? l = some { cls := .type "dict", dict := odict, data := .dict es ep, slots := oslots } := Heap.get?_push_of_some _ hol
        have hsls := PySem.F.sub_dict_set
        have hslf := PySem.F.sub_dict_frozenset
        have hne : (Value.type "dict" == Value.type "dict") = true := by decide
        unfold Builtin.«set.__init__» noKeywords Builtin.Frozenset.updateFrom
        wp_walk using wpAny_dictEpoch hol' rfl, wpAny_dictEntries hol' rfl
        have les : es.size = vs.length := by
          rw [← hpr.length, Array.length_toList]
        have hlS : l < s.heap.objs.size := Heap.lt_size hol
        have hr : (SetTable.fresh 0 0 !w.params.followText "set-order").roomFor es.size = none := by
          unfold SetTable.roomFor
          rw [if_neg]
          show ¬ ((0 + es.size) * 5 ≥ 7 * 3)
          omega
        have hg : (s.heap.push (newSetQ w)).get? s.heap.objs.size = some (newSetQ w) := hS
        have r0 : KT prog w (s.heap.push (newSetQ w)) s.heap.objs.size 7 [] := by
          refine ⟨_, #[], 0, _, hg, ⟨rfl, rfl, rfl⟩, rfl, (fun e he => by simp at he), ⟨⟨[], List.Perm.refl _, (fun p h => by cases h), rfl⟩, List.nodup_nil⟩, ⟨List.Pairwise.nil, rfl, rfl, .inl rfl, (fun x hx => by cases hx), (fun i h j e _ => by cases e)⟩, rfl, (by decide), ?_⟩
          show _ ∨ (!w.params.followText "set-order") = true
          cases w.params.followText "set-order" <;> simp
        show wpAny _ _ (match (SetTable.fresh 0 0 !w.params.followText "set-order").roomFor es.size with | some wanted => setRelay s.heap.objs.size wanted | x => pure ()) _ _ _
        rw [hr]
        refine wpAny_pure ?_
        refine wpAny_bind (wpAny_dictEntries hol' rfl ?_)
        refine wpAny_bind (dict_fill _ _ (Nat.ne_of_lt hlS) rfl hol' hks hpr hnd hb r0 (fun h' r sb => ?_))
        refine wpAny_pure ?_
        show wpAny _ _ (ret Value.none) _ _ _
        refine wpAny_pure ⟨rfl, h', _, rfl, r, fun b o hb e => ?_⟩
        rw [sb.2 b (Nat.ne_of_lt hb)]
        exact Heap.get?_push_of_some _ e
      · cases r₂ with
        | error e => exact hr₂
        | ok fl₂ =>
          cases fl₂ with
          | ret r =>
            obtain ⟨rfl, hf⟩ := hr₂
            repeat (any_goals (first | assumption | wp_step))
            exact q _ hf
          | _ => exact hr₂.elim
    | _ => exact hr.elim
end
section
variable {X : Cx}
def SetT (P : Program) (w : World) (a : Addr) (ks : List Key) : HO := HO.ext fun h => KT P w h a 7 ks
theorem setT_new {P : Program} {w : World} {H : Hp} {h : Heap} {a : Addr} {ks : List Key} (r : KT P w h a 7 ks) : ObjOk P w H h a (SetT P w a ks) := by
  obtain ⟨o, _, _, _, ho, _⟩ := id r
  exact ⟨r, ⟨o, ho⟩, fun h1 h2 r1 s => KT.at_ r1 s⟩
/-- set(a dict with few keys) -/
def rSetDT (P : Program) (w : World) : List V → Hp → VK → Prop := fun xs H Q => ∃ (l : Addr) (kvs : List (Key × V)), xs = [.ref l] ∧ H l = some (.dK kvs) ∧ kvs.length ≤ 4 ∧
  ∀ a, H a = none → Q (.ref a) (upd H a (SetT P w a (kvs.map (·.1))))
theorem kv_keys {kvs : List (Key × V)} {vs : List (Key × Value)} (h : KV kvs vs) : kvs.map (·.1) = vs.map (·.1) := by
  unfold KV at h
  induction h with
  | nil => rfl
  | cons h _ ih => rw [List.map_cons, List.map_cons, h.1, ih]
theorem cr_setDT (P : Program) (w : World) (hc : X.calm = true) (eP : X.prog = P := by rfl) (ew : X.w = w := by rfl) : CallR X (.type "set") (rSetDT P w) := by
  subst eP
  subst ew
  intro pins s σ H xs us Q I r h
  obtain ⟨l, kvs, rfl, hl, hf, q⟩ := h
  rw [Vals.ref1 r]
  obtain ⟨z, lo, vs, rk, hd⟩ := (show ObjOk X.prog X.w H s.heap l (.dK kvs) from I.hok l _ hl)
  have hn : H s.heap.objs.size = none := I.hok.fresh (Nat.le_refl _)
  have ek := kv_keys rk
  have lk : vs.length = kvs.length := by
    have := congrArg List.length ek
    rw [List.length_map, List.length_map] at this
    exact this.symm
  refine call_set_dictQ (I.ok.hd hc) hd lo (by omega) fun s2 F => ?_
  obtain ⟨h', tk, rfl, hT, k⟩ := F
  rw [← ek] at hT
  exact ⟨.ref s.heap.objs.size, upd H s.heap.objs.size (SetT X.prog X.w s.heap.objs.size (kvs.map (·.1))), I.laid (t' := tk) (fun b o e => k b o (Heap.lt_size e) e) (Nat.le_refl _) (setT_new hT), rfl, q _ hn⟩
end
end Qk

namespace Qk
open PySem PySem.Spec PyProof.Rows L2
section
variable {P : Program} {w : World} {A : Around} {E : Value → Shared → Prop} {s : Shared} {a : Addr} {ks : List Key}
theorem kt_fits {t : SetTable} {es : Array (Int × Value)} (T : TabOk t (es.toList.map (·.1))) (h : es.size ≤ t.mask) : t.fits es.size = true := by
  have hle : (es.toList.map (·.1)).length = es.size := by rw [List.length_map, Array.length_toList]
  unfold SetTable.fits
  rw [T.sz, tab_fill T, hle]
  simp
  omega
theorem kt_copy {D : Addr} {each : Sem Unit} {Q : Unit → Shared → Prop} (hD : a ≠ D) (r : KT P w s.heap a 7 ks) (r0 : s.heap.get? D = some (newSetQ w))
    (q : ∀ h', Heap.SameBut D s.heap h' → KT P w h' D 7 ks → Q () { s with heap := h' }) : wpAny (model P w) A (setMerge D a each) Q E s := by
  obtain ⟨o, es, ep, t, ho, hx, hd, he, hk, T, hM, hsz, hl⟩ := r
  have hf := kt_fits T (by omega)
  have hne : (D == a) = false := by
    rw [beq_eq_false_iff_ne]
    exact fun e => hD e.symm
  have f0 : (SetTable.fresh 0 0 !w.params.followText "set-order").fits (#[] : Array (Int × Value)).size = true := rfl
  have hr : (SetTable.fresh 0 0 !w.params.followText "set-order").roomFor es.size = none := by
    unfold SetTable.roomFor
    rw [if_neg]
    show ¬ ((0 + es.size) * 5 ≥ 7 * 3)
    omega
  have led : w.params.followText "set-order" = true ∨ (!w.params.followText "set-order") = true := by
    cases w.params.followText "set-order" <;> simp
  unfold setMerge
  rw [hne]
  show wpAny _ _ (setState a >>= _) _ _ _
  refine wpAny_bind (wpAny_setState_of ho hd hf ?_)
  dsimp only
  by_cases e0 : es.isEmpty = true
  · rw [if_pos e0]
    refine wpAny_pure ?_
    have es0 : es.size = 0 := by
      have := Array.isEmpty_iff.mp e0
      rw [this]
      rfl
    have k0 : ks = [] := List.length_eq_zero_iff.mp (by rw [hk.len]; exact es0)
    subst k0
    exact q s.heap (Heap.SameBut.refl _ _) ⟨_, #[], 0, _, r0, ⟨rfl, rfl, rfl⟩, rfl, (fun e he => by simp at he), ⟨⟨[], List.Perm.refl _, (fun p h => by cases h), rfl⟩, List.nodup_nil⟩, ⟨List.Pairwise.nil, rfl, rfl, .inl rfl, (fun x hx => by cases hx), (fun i h j e _ => by cases e)⟩, rfl, (by decide), led⟩
  rw [if_neg e0]
  unfold setRoomFor
  refine wpAny_bind ?_
  refine wpAny_bind (wpAny_setState_of r0 rfl f0 ?_)
  dsimp only
  rw [hr]
  refine wpAny_pure ?_
  refine wpAny_bind (wpAny_setState_of r0 rfl f0 ?_)
  dsimp only
  have road : (SetTable.fresh 0 0 !w.params.followText "set-order").road t = .slotForSlot := by
    unfold SetTable.road
    rw [if_neg (by show ¬ ((0 : Nat) != 0) = true; decide), T.dm, hM]
    rfl
  rw [road]
  dsimp only
  have T' : TabOk { t with finger := (SetTable.fresh 0 0 !w.params.followText "set-order").finger, led := (SetTable.fresh 0 0 !w.params.followText "set-order").led && t.led, moves := (SetTable.fresh 0 0 !w.params.followText "set-order").moves, plain := (SetTable.fresh 0 0 !w.params.followText "set-order").plain && t.plain } (es.toList.map (·.1)) := ⟨T.ris, T.dm, T.sz, T.mok, T.bd, T.reach⟩
  refine wpAny_storeSet_of r0 rfl ?_ (fits_of_scanBound (by unfold scanBound; omega))
  refine q _ (Heap.SameBut.update s.heap D _) ⟨_, es, 0 + 1, _, store_at r0 rfl, ⟨rfl, rfl, rfl⟩, rfl, he, hk, T', hM, hsz, ?_⟩
  show _ ∨ ((!w.params.followText "set-order") && t.led) = true
  rcases hl with hl | hl
  · exact .inl hl
  · rcases led with l | l
    · exact .inl l
    · right
      rw [l, hl]
      rfl
end
end Qk

/-! Qtv: tables of keys with any mask whose runs meet every slot -/
namespace Qk
open PySem PySem.Spec PyProof.Rows L2
/-- every slot begins a run early enough -/
def Cov (m : Nat) : Prop := ∀ (h : Int) (j : Nat), j ≤ m → ∃ n, n < SetTable.turns m ∧ runI m (SetTable.bits h) n = j
theorem lcg15 : ((List.range 16).all fun i => (List.range 16).all fun j => (List.range 16).any fun k => lcgI 15 i k == j) = true := by decide +kernel
theorem lcg31 : ((List.range 32).all fun i => (List.range 32).all fun j => (List.range 32).any fun k => lcgI 31 i k == j) = true := by decide +kernel
theorem lcg7 : ((List.range 8).all fun i => (List.range 8).all fun j => (List.range 8).any fun k => lcgI 7 i k == j) = true := by decide +kernel
theorem cov_of {m : Nat} (e : ((List.range (m + 1)).all fun i => (List.range (m + 1)).all fun j => (List.range (m + 1)).any fun k => lcgI m i k == j) = true) : Cov m := fun h j hj => by
  have h1 := List.all_eq_true.mp e (runI m (SetTable.bits h) 12) (List.mem_range.mpr (Nat.lt_succ_of_le (runI_le _ _ _)))
  have h2 := List.all_eq_true.mp h1 j (List.mem_range.mpr (Nat.lt_succ_of_le hj))
  obtain ⟨k, hk, e2⟩ := List.any_eq_true.mp h2
  have hk := List.mem_range.mp hk
  have e2 : lcgI m (runI m (SetTable.bits h) 12) k = j := eq_of_beq e2
  refine ⟨12 + k, by unfold SetTable.turns; omega, ?_⟩
  rw [runI_tail (bits_lt h)]
  exact e2
theorem cov7 : Cov 7 := cov_of lcg7
theorem cov15 : Cov 15 := cov_of lcg15
theorem cov31 : Cov 31 := cov_of lcg31
theorem free_some {m j : Nat} {owner : Array (Option Nat)} (hj : j ≤ m) (he : oAt owner j = none) : ∀ (n f i b : Nat), n < f → i ≤ m → (itL m i b n).1 = j → ∃ j', SetTable.layClean.free m owner f i b = some j' ∧ j' ≤ m ∧ oAt owner j' = none := by
  have hit : ∀ (i k : Nat), i ≤ m → ((List.range (SetTable.runEnd m i + 1 - i)).find? fun k => (oAt owner (i + k)).isNone) = some k → i + k ≤ m ∧ oAt owner (i + k) = none := fun i k hi e => by
    have h1 := List.find?_some e
    have h2 := List.mem_range.mp (List.mem_of_find?_eq_some e)
    have h3 := runEnd_bd hi
    refine ⟨by omega, ?_⟩
    cases q : oAt owner (i + k) with
    | none => rfl
    | some x =>
      have h1 : (oAt owner (i + k)).isNone = true := h1
      rw [q] at h1
      cases h1
  intro n
  induction n with
  | zero =>
    intro f i b hf hi e
    have e : i = j := e
    subst e
    obtain ⟨f, rfl⟩ : ∃ f', f = f' + 1 := ⟨f - 1, by omega⟩
    rw [free_succ]
    cases q : ((List.range (SetTable.runEnd m i + 1 - i)).find? fun k => (oAt owner (i + k)).isNone) with
    | some k => exact ⟨i + k, rfl, hit i k hi q⟩
    | none =>
      have := List.find?_eq_none.mp q 0 (List.mem_range.mpr (by have := runEnd_ge m i; omega))
      rw [Nat.add_zero, he] at this
      exact absurd rfl this
  | succ n ih =>
    intro f i b hf hi e
    obtain ⟨f, rfl⟩ : ∃ f', f = f' + 1 := ⟨f - 1, by omega⟩
    rw [free_succ]
    cases q : ((List.range (SetTable.runEnd m i + 1 - i)).find? fun k => (oAt owner (i + k)).isNone) with
    | some k => exact ⟨i + k, rfl, hit i k hi q⟩
    | none => exact ih f _ _ (by omega) (leap_le m i b) e
/-- who sits where, and nothing more -/
structure OwnW (m n : Nat) (owner : Array (Option Nat)) : Prop where
  sz : owner.size = m + 1
  at_ : ∀ j k, j ≤ m → oAt owner j = some k → k < n
  inj : ∀ i j k, i ≤ m → j ≤ m → oAt owner i = some k → oAt owner j = some k → i = j
  all : ∀ k, k < n → ∃ j, j ≤ m ∧ oAt owner j = some k
  ps : ∃ ps : List Nat, ps.length = n ∧ ∀ j, j ≤ m → oAt owner j ≠ none → j ∈ ps
theorem OwnW.init (m : Nat) : OwnW m 0 (Array.replicate (m + 1) none) where
  sz := by simp
  at_ := fun j k hj e => by
    rw [oAt_init hj] at e
    cases e
  inj := fun i j k hi hj e => by
    rw [oAt_init hi] at e
    cases e
  all := fun k hk => absurd hk (Nat.not_lt_zero _)
  ps := ⟨[], rfl, fun j hj e => absurd (oAt_init hj) e⟩
theorem OwnW.step {m n : Nat} {owner : Array (Option Nat)} (C : Cov m) (W : OwnW m n owner) (hn : n ≤ m) (h : Int) :
    ∃ j, SetTable.layClean.free m owner (SetTable.turns m) (SetTable.bits h % (m + 1)) (SetTable.bits h) = some j ∧ OwnW m (n + 1) (owner.setIfInBounds j (some n)) := by
  obtain ⟨ps, lps, hps⟩ := W.ps
  obtain ⟨j0, hj0, nj0⟩ := st_missing ps (m + 1) (by omega)
  have e0 : oAt owner j0 = none := Classical.byContradiction fun c => nj0 (hps j0 (by omega) c)
  obtain ⟨r, hr, er⟩ := C h j0 (by omega)
  obtain ⟨j, ej, hj, oj⟩ := free_some (m := m) (owner := owner) (j := j0) (by omega) e0 r (SetTable.turns m) (SetTable.bits h % (m + 1)) (SetTable.bits h) hr (Nat.le_of_lt_succ (Nat.mod_lt _ (Nat.succ_pos _))) (by rw [itL_run]; exact er)
  have hjs : j < owner.size := by rw [W.sz]; omega
  refine ⟨j, ej, ?_⟩
  have self := oAt_set_self (owner := owner) (some n) hjs
  have ne : ∀ {i : Nat}, i ≠ j → oAt (owner.setIfInBounds j (some n)) i = oAt owner i := fun hne => oAt_set_ne _ hne
  refine ⟨by rw [Array.size_setIfInBounds]; exact W.sz, fun i k hi e => ?_, fun i i' k hi hi' e e' => ?_, fun k hk => ?_, ⟨j :: ps, by rw [List.length_cons, lps], fun i hi e => ?_⟩⟩
  · by_cases c : i = j
    · subst c
      rw [self] at e
      injection e with e
      omega
    · rw [ne c] at e
      have := W.at_ i k hi e
      omega
  · by_cases c : i = j
    · by_cases c' : i' = j
      · rw [c, c']
      · subst c
        rw [self] at e
        injection e with e
        subst e
        rw [ne c'] at e'
        have := W.at_ i' _ hi' e'
        omega
    · by_cases c' : i' = j
      · subst c'
        rw [self] at e'
        injection e' with e'
        subst e'
        rw [ne c] at e
        have := W.at_ i _ hi e
        omega
      · rw [ne c] at e
        rw [ne c'] at e'
        exact W.inj i i' k hi hi' e e'
  · by_cases c : k = n
    · subst c
      exact ⟨j, hj, self⟩
    · obtain ⟨i, hi, ei⟩ := W.all k (by omega)
      have : i ≠ j := fun q => by
        rw [q, oj] at ei
        cases ei
      exact ⟨i, hi, by rw [ne this]; exact ei⟩
  · by_cases c : i = j
    · subst c
      exact List.mem_cons_self
    · rw [ne c] at e
      exact List.mem_cons_of_mem _ (hps i hi e)
theorem foldW {m : Nat} (C : Cov m) : ∀ (rest : List Int) (n : Nat) (owner : Array (Option Nat)), OwnW m n owner → n + rest.length ≤ m + 1 →
    ∃ owner', rest.foldl (stepF m) (some (owner, n)) = some (owner', n + rest.length) ∧ OwnW m (n + rest.length) owner'
  | [], n, owner, W, _ => ⟨owner, rfl, W⟩
  | h :: rest, n, owner, W, hl => by
    rw [List.length_cons] at hl
    obtain ⟨j, ej, W'⟩ := W.step C (by omega) h
    rw [List.foldl_cons, stepF_some ej]
    obtain ⟨o', e1, e2⟩ := foldW C rest (n + 1) _ W' (by omega)
    refine ⟨o', ?_, ?_⟩
    · rw [e1, List.length_cons]
      congr 2
      omega
    · rw [List.length_cons, show n + (rest.length + 1) = n + 1 + rest.length by omega]
      exact e2
theorem layCleanW {m : Nat} (C : Cov m) {hs : Array Int} (hn : hs.size ≤ m) : ∃ owner, SetTable.layClean m hs = some owner ∧ OwnW m hs.size owner := by
  obtain ⟨o, e1, e2⟩ := foldW C hs.toList 0 _ (OwnW.init m) (by rw [Array.length_toList]; omega)
  rw [Nat.zero_add, Array.length_toList] at e2
  exact ⟨o, by rw [layClean_eq, e1]; rfl, e2⟩
/-- a table whose runs meet every slot -/
structure TabW (t : SetTable) (n : Nat) : Prop where
  ris : Ris t.place.toList
  dm : t.dummies = #[]
  sz : t.place.size = n
  cov : Cov t.mask
  bd : ∀ x ∈ t.place.toList, x ≤ t.mask
theorem relaidW (t : SetTable) {hs : Array Int} {wanted M : Nat} (hw : SetTable.sizeAbove wanted - 1 = M) (C : Cov M) (hn : hs.size ≤ M) :
    ∃ t' order, t.relaid hs wanted = some (t', order) ∧ order.toList.Perm (List.range hs.size) ∧ TabW t' hs.size ∧ t'.mask = M ∧ t'.led = t.led ∧ t'.plain = t.plain := by
  obtain ⟨owner, e, W⟩ := layCleanW C hn
  have hr : t.relaid hs wanted = some (tabOf t M owner, ((liveOf M owner).map (·.2)).toArray) := by
    rw [relaid_eq, hw, e] <;> rfl
  have ris := ris_live (fun j => owner.getD j none) (List.range (M + 1)) (by
    unfold Ris
    first | exact List.pairwise_lt_range | exact List.pairwise_lt_range _)
  have r1 : Ris ((liveOf M owner).map (·.1)) := ris.1
  have r2 : ∀ x ∈ (liveOf M owner).map (·.1), x ∈ List.range (M + 1) := ris.2
  have nd : ((liveOf M owner).map (·.1)).Nodup := List.Pairwise.imp (fun h => Nat.ne_of_lt h) r1
  have all : ∀ k, k < hs.size → k ∈ (liveOf M owner).map (·.2) := fun k hk => by
    obtain ⟨j, hj, ej⟩ := W.all k hk
    exact List.mem_map.mpr ⟨(j, k), (mem_live W.sz).mpr ⟨hj, ej⟩, rfl⟩
  have hlen : (liveOf M owner).length = hs.size := by
    obtain ⟨ps, p1, p2⟩ := W.ps
    have a := nat_nodup_len ((liveOf M owner).map (·.1)) ps nd fun x hx => by
      obtain ⟨p, hp, rfl⟩ := List.mem_map.mp hx
      obtain ⟨j, k⟩ := p
      obtain ⟨hj, ej⟩ := (mem_live W.sz).mp hp
      exact p2 j hj (by rw [ej]; exact fun z => by cases z)
    have b := nat_nodup_len (List.range hs.size) ((liveOf M owner).map (·.2)) List.nodup_range fun x hx => all x (List.mem_range.mp hx)
    rw [List.length_map, p1] at a
    rw [List.length_range, List.length_map] at b
    omega
  have hpl : (tabOf t M owner).place.toList = (liveOf M owner).map (·.1) := by
    unfold tabOf
    simp
  refine ⟨_, _, hr, ?_, ⟨by rw [hpl]; exact r1, rfl, ?_, C, fun x hx => ?_⟩, rfl, rfl, rfl⟩
  · have : ((liveOf M owner).map (·.2)).toArray.toList = (liveOf M owner).map (·.2) := by simp
    rw [this]
    exact perm_range _ _ (by rw [List.length_map, hlen]) all
  · rw [← Array.length_toList, hpl, List.length_map, hlen]
  · rw [hpl] at hx
    have := List.mem_range.mp (r2 x hx)
    show x ≤ M
    omega
theorem TabW.firstW {t : SetTable} {n : Nat} (T : TabW t n) (hl : n ≤ t.mask) (h : Int) : ∃ K, K < 10 * SetTable.turns t.mask ∧ way t.mask h K ∉ t.place.toList ∧ ∀ k, k < K → way t.mask h k ∈ t.place.toList := by
  have hlen : t.place.toList.length < t.mask + 1 := by
    rw [Array.length_toList, T.sz]
    omega
  obtain ⟨j, hj, hn⟩ := st_missing t.place.toList (t.mask + 1) hlen
  obtain ⟨r, hr, er⟩ := T.cov h j (by omega)
  obtain ⟨k, hk, e2⟩ := run_nth t.mask (SetTable.bits h) r
  have e : way t.mask h k = j := by
    show (nth t.mask (runAt t.mask (SetTable.bits h % (t.mask + 1)) (SetTable.bits h)) k).j = j
    rw [e2]
    exact er
  obtain ⟨K, h1, h2, h3⟩ := st_least (p := fun k => way t.mask h k ∉ t.place.toList) k (by show way t.mask h k ∉ _; rw [e]; exact hn)
  refine ⟨K, by omega, h2, fun k' hk' => ?_⟩
  rcases Classical.em (way t.mask h k' ∈ t.place.toList) with c | c
  · exact c
  · exact absurd c (h3 k' hk')
end Qk

/-! Qtw: sets of keys in such tables: adding, growing -/
namespace Qk
open PySem PySem.Spec PyProof.Rows L2
theorem TabW.of {t : SetTable} {hs : List Int} (T : TabOk t hs) (C : Cov t.mask) : TabW t hs.length := ⟨T.ris, T.dm, T.sz, C, T.bd⟩
theorem TabW.fill {t : SetTable} {n : Nat} (T : TabW t n) : t.fill = n := by
  unfold SetTable.fill
  rw [T.sz, T.dm]
  rfl
theorem TabW.fits {t : SetTable} {n : Nat} (T : TabW t n) (h : n ≤ t.mask) : t.fits n = true := by
  unfold SetTable.fits
  rw [T.sz, T.fill]
  simp
  omega
theorem wayW_le {m : Nat} {h : Int} {k : Nat} : way m h k ≤ m := by
  have h0 : (runAt m (SetTable.bits h % (m + 1)) (SetTable.bits h)).j + (runAt m (SetTable.bits h % (m + 1)) (SetTable.bits h)).more ≤ m := by
    have hi : SetTable.bits h % (m + 1) ≤ m := Nat.le_of_lt_succ (Nat.mod_lt _ (Nat.succ_pos _))
    have := runEnd_bd hi
    show SetTable.bits h % (m + 1) + (SetTable.runEnd m (SetTable.bits h % (m + 1)) - SetTable.bits h % (m + 1)) ≤ m
    omega
  have := nth_in k _ h0
  show (nth m (runAt m (SetTable.bits h % (m + 1)) (SetTable.bits h)) k).j ≤ m
  omega
theorem TabW.put {t : SetTable} {n j : Nat} (T : TabW t n) (hj : j ≤ t.mask) (nj : j ∉ t.place.toList) : TabW (t.put j).1 (n + 1) ∧ (t.put j).2 = SetTable.below t.place j ∧ SetTable.below t.place j ≤ n := by
  obtain ⟨c1, _, _⟩ := below_cut T.ris j
  have hpl : SetTable.below t.place j ≤ t.place.toList.length := by
    rw [Array.length_toList]
    exact c1
  have hph : SetTable.below t.place j ≤ n := by
    rw [← T.sz]
    exact c1
  have hnp : t.place[SetTable.below t.place j]? ≠ some j := fun e => nj (List.mem_of_getElem? (by rw [Array.getElem?_toList]; exact e))
  have hpp := put_place t j
  have hsize : (t.put j).1.place.size = n + 1 := by
    rw [← Array.length_toList, hpp, len_ins _ hpl, Array.length_toList, T.sz]
  refine ⟨⟨ris_insert T.ris hnp, put_dm T.dm j, hsize, T.cov, fun x hx => ?_⟩, rfl, hph⟩
  rw [hpp] at hx
  rcases mem_ins.1 hx with z | z
  · rw [z]
    exact hj
  · exact T.bd x z
theorem layNewW {t : SetTable} {es : Array (Int × Value)} {h : Int} {x : Value} (T : TabW t es.size) (hl : es.size + 1 ≤ t.mask) :
    ∃ es1 t1, layNew t es h x = (es1, t1, false, false) ∧ TabW t1 es1.size ∧ t1.mask = t.mask ∧ t1.led = t.led ∧ es1.size = es.size + 1 := by
  obtain ⟨K, k1, k2, k3⟩ := T.firstW (by omega) h
  have key := go_spec t T.ris T.dm (fun _ => h + 1) h (10 * SetTable.turns t.mask) K (t.probeStart h) rfl k1 k3 k2
  have hp : t.probe (fun _ => h + 1) h (t.probeStart h) = some (.empty (way t.mask h K) none) := by
    rcases key with ⟨k, i, _, _, e, _⟩ | ⟨_, e⟩
    · exact absurd e (by show ¬ (h + 1 = h); omega)
    · exact e
  have hf : t.freeSlot h = some (way t.mask h K, false) := by
    unfold SetTable.freeSlot
    rw [hp]
    rfl
  obtain ⟨T1, p1, p2⟩ := T.put wayW_le k2
  have hsz : (SetTable.insertAt es (SetTable.below t.place (way t.mask h K)) (h, x)).size = es.size + 1 := by
    rw [← Array.length_toList, SetTable.toList_insertAt, List.length_append, List.length_cons, List.length_take, List.length_drop, Array.length_toList]
    omega
  have fits : (t.put (way t.mask h K)).1.fits (SetTable.insertAt es (SetTable.below t.place (way t.mask h K)) (h, x)).size = true := by
    rw [hsz]
    exact T1.fits hl
  refine ⟨_, (t.put (way t.mask h K)).1, ?_, by rw [hsz]; exact T1, rfl, rfl, hsz⟩
  unfold layNew
  rw [hf]
  show (SetTable.insertAt es (t.put (way t.mask h K)).2 (h, x), (t.put (way t.mask h K)).1.orStandIn (SetTable.insertAt es (t.put (way t.mask h K)).2 (h, x)).size, false, !(t.put (way t.mask h K)).1.fits (SetTable.insertAt es (t.put (way t.mask h K)).2 (h, x)).size) = _
  rw [p1, fits]
  unfold SetTable.orStandIn
  rw [if_pos fits]
  rfl
theorem range_get {α : Type} : ∀ (l : List α), (List.range l.length).filterMap (fun i => l[i]?) = l
  | [] => rfl
  | x :: l => by
    rw [List.length_cons, List.range_succ_eq_map, List.filterMap_cons, List.filterMap_map]
    show x :: (List.range l.length).filterMap (fun i => l[i]?) = _
    rw [range_get l]
theorem order_perm {es : Array (Int × Value)} {order : Array Nat} (hp : order.toList.Perm (List.range es.size)) : (order.filterMap (es[·]?)).toList.Perm es.toList := by
  have e : (order.filterMap (es[·]?)).toList = order.toList.filterMap (fun i => es.toList[i]?) := by
    rw [Array.toList_filterMap]
    congr 1
    funext i
    rw [Array.getElem?_toList]
  rw [e]
  have h := hp.filterMap (fun i => es.toList[i]?)
  have h2 := range_get es.toList
  rw [Array.length_toList] at h2
  rw [h2] at h
  exact h
/-- a set of keys in such a table -/
def KW (P : Program) (w : World) (h : Heap) (a : Addr) (M : Nat) (ks : List Key) : Prop :=
  ∃ (o : Obj) (es : Array (Int × Value)) (ep : Nat) (t : SetTable), h.get? a = some o ∧ o.ExactSet ∧ o.data = .set es ep t ∧ ElemsOf (mixKind P w) es.toList ∧ KE P w es ks ∧ TabW t es.size ∧ t.mask = M ∧ M ≤ 127 ∧ es.size * 5 < M * 3 ∧ (w.params.followText "set-order" = true ∨ t.led = true)
section
variable {P : Program} {w : World} {A : Around} {E : Value → Shared → Prop} {s : Shared} {a : Addr} {M : Nat} {ks : List Key}
theorem KT.kw {h : Heap} (r : KT P w h a 7 ks) : KW P w h a 7 ks := by
  obtain ⟨o, es, ep, t, h1, h2, h3, h4, h5, T, hM, hs, hl⟩ := r
  have := TabW.of T (by rw [hM]; exact cov7)
  rw [List.length_map, Array.length_toList] at this
  exact ⟨o, es, ep, t, h1, h2, h3, h4, h5, this, hM, by decide, hs, hl⟩
theorem KW.kr {h : Heap} (r : KW P w h a M ks) : KR P w h a (hasK ks) ks.length := by
  obtain ⟨o, es, ep, t, h1, h2, h3, h4, h5, T, hM, hm, hs, hl⟩ := r
  exact ⟨o, es, ep, t, ks, h1, h2, h3, h4, h5, fun k => hasK_iff, by unfold scanBound; omega, T.fits (by omega), h5.len.symm, T.ris, hl⟩
theorem kw_relay {wanted M' : Nat} {Q : Unit → Shared → Prop} (r : KW P w s.heap a M ks) (hw : SetTable.sizeAbove wanted - 1 = M') (hw2 : SetTable.sizeAbove wanted ≤ 128) (C : Cov M') (hm : M' ≤ 127) (hn : ks.length * 5 < M' * 3)
    (q : ∀ h', Heap.SameBut a s.heap h' → KW P w h' a M' ks → Q () { s with heap := h' }) : wpAny (model P w) A (setRelay a wanted) Q E s := by
  obtain ⟨o, es, ep, t, ho, hx, hd, he, hk, T, hM, hm0, hs, hl⟩ := r
  have len := hk.len
  obtain ⟨t', order, e, hp, T', em, el, _⟩ := relaidW t (hs := es.map (·.1)) (wanted := wanted) hw C (by rw [Array.size_map]; omega)
  rw [Array.size_map] at hp T'
  have pm := order_perm hp
  have hs2 : (order.filterMap (es[·]?)).size = es.size := by
    have := pm.length_eq
    rw [Array.length_toList, Array.length_toList] at this
    exact this
  rw [setRelay_eq]
  refine wpAny_bind (wpAny_setState_of ho hd (T.fits (by omega)) ?_)
  dsimp only
  refine wp_if_neg (by rw [sizeLine_eq]; omega) ?_
  try refine wpAny_bind (wpAny_pure ?_)
  rw [e]
  dsimp only
  refine wpAny_bind ?_
  refine wp_if_neg (by rw [hs2]; simp) ?_
  try refine wpAny_bind (wpAny_pure ?_)
  refine wpAny_pure ?_
  dsimp only
  refine wpAny_storeSet_of ho hd ?_ (by rw [hs2, sizeLine_eq]; omega)
  refine q _ (Heap.SameBut.update ..) ⟨_, order.filterMap (es[·]?), ep + 1, t', store_at ho hd, ⟨hx.1, hx.2.1, hx.2.2⟩, rfl, he.perm pm, hk.perm pm, by rw [hs2]; exact T', em, hm, by rw [hs2]; omega, ?_⟩
  rcases hl with hl | hl
  · exact .inl hl
  · exact .inr (el.trans hl)
theorem kw_tail {g : Bool → Sem Unit} {o : Obj} {es : Array (Int × Value)} {ep : Nat} {t : SetTable}
    (ho : s.heap.get? a = some o) (hx : o.ExactSet) (hd : o.data = .set es ep t) {es1 : Array (Int × Value)} {t2 : SetTable}
    (he : ElemsOf (mixKind P w) es1.toList) (hk : KE P w es1 ks) (T : TabW t2 es1.size) (hM : t2.mask = M) (hm : M ≤ 127) (hf : es1.size * 5 < M * 3) (hl : w.params.followText "set-order" = true ∨ t2.led = true)
    {wasDummy : Bool} {R : Option Bool → Shared → Prop} (q : ∀ h', Heap.SameBut a s.heap h' → KW P w h' a M ks → R (some true) { s with heap := h' }) :
    wpAny (model P w) A (do
      storeSet a es1 t2
      if (!wasDummy && t2.tooFull) = true then do
          g (relayAll t2 es1 (SetTable.grown es1.size)).snd.snd
          storeSet a (relayAll t2 es1 (SetTable.grown es1.size)).fst (relayAll t2 es1 (SetTable.grown es1.size)).snd.fst
          pure (some true)
        else pure (some true)) R E s := by
  refine wpAny_bind (wpAny_storeSet_of ho hd ?_ (fits_of_scanBound (by unfold scanBound; omega)))
  have h1 := store_at (es' := es1) (t' := t2) ho hd
  have b1 := Heap.SameBut.update s.heap a (Obj.putSet es1 t2)
  have nf : t2.tooFull = false := by
    unfold SetTable.tooFull
    rw [T.fill, hM]
    simp
    omega
  rw [nf, Bool.and_false, if_neg Bool.false_ne_true]
  exact wpAny_pure (q _ b1 ⟨_, es1, ep + 1, t2, h1, ⟨hx.1, hx.2.1, hx.2.2⟩, rfl, he, hk, T, hM, hm, hf, hl⟩)
theorem kw_add {k : Key} {x : Value} {Q : Bool → Shared → Prop} (his : (mixKind P w).is k x = true) (hsc : x.scannable = true) (hT : KW P w s.heap a M ks) (hn : (ks.length + 1) * 5 < M * 3)
    (q : ∀ h', Heap.SameBut a s.heap h' → KW P w h' a M (if hasK ks k = true then ks else ks ++ [k]) → Q (!hasK ks k) { s with heap := h' }) : wpAny (model P w) A (setAddHashed a x ((mixKind P w).hash k)) Q E s := by
  obtain ⟨o, es, ep, t, ho, hx, hd, he, hk, T, hM, hm, hsz, hl⟩ := hT
  have len := hk.len
  have hsb : es.size < scanBound := by unfold scanBound; omega
  have hf : t.fits es.size = true := T.fits (by omega)
  unfold setAddHashed
  refine wpAny_holding ?_
  rw [setAddHashedIn.eq_def]
  dsimp only
  refine wpAny_bind (wpAny_setState_of ho hd hf ?_)
  dsimp only
  rw [if_pos (byScan_of (knd := mixKind P w) hsc hsb he)]
  refine wpAny_bind ?_
  unfold setAddByScan
  refine wpAny_bind (wpAny_rule ?_)
  refine wpAny_bind (wpAny_setScan_of (knd := mixKind P w) his ho hd hf he ?_)
  cases hfi : List.findIdx? (fun e => (mixKind P w).is k e.2) es.toList with
  | some j =>
    have hk1 : k ∈ ks := by
      rw [hk.mem k]
      have h1 := List.findIdx?_eq_some_iff_getElem.mp hfi
      obtain ⟨hj, hp, _⟩ := h1
      exact ⟨_, List.getElem_mem hj, hp⟩
    dsimp only
    refine wpAny_pure ?_
    dsimp only
    refine wpAny_pure ?_
    rw [if_pos (hasK_iff.mpr hk1), hasK_iff.mpr hk1] at q
    exact q s.heap (Heap.SameBut.refl _ _) ⟨o, es, ep, t, ho, hx, hd, he, hk, T, hM, hm, hsz, hl⟩
  | none =>
    have nk : k ∉ ks := fun m => by
      obtain ⟨x', hx', hi'⟩ := (hk.mem k).mp m
      have := List.findIdx?_eq_none_iff.mp hfi x' hx'
      rw [hi'] at this
      cases this
    dsimp only
    have pm := layNew_perm t es ((mixKind P w).hash k) x
    obtain ⟨es1, t1, eln, T1, M1, led1, sz1⟩ := layNewW (h := (mixKind P w).hash k) (x := x) T (by omega)
    rw [eln] at pm ⊢
    dsimp only at pm ⊢
    have he1 : ElemsOf (mixKind P w) es1.toList := by
      have := he.push his hsc
      rw [← Array.toList_push] at this
      exact this.perm pm
    have hk1 := hk.push his nk pm
    rw [hasK_not nk, if_neg Bool.false_ne_true] at q
    have hl1 : w.params.followText "set-order" = true ∨ t1.led = true := by
      rcases hl with hl | hl
      · exact .inl hl
      · exact .inr (led1.trans hl)
    refine wpAny_bind ?_
    refine wpAny_pure ?_
    split
    · rw [hashByValue_scannable _ hsc]
      refine wpAny_bind (wpAny_pure ?_)
      refine kw_tail (M := M) (ks := ks ++ [k]) ho hx hd he1 hk1 ?_ ?_ hm (by omega) ?_ (fun h' sb r => ?_)
      · split
        · exact T1
        · exact ⟨T1.ris, T1.dm, T1.sz, T1.cov, T1.bd⟩
      · split <;> exact M1.trans hM
      · split <;> exact hl1
      · exact wpAny_pure (q h' sb r)
    · refine wpAny_bind (wpAny_pure ?_)
      refine kw_tail (M := M) (ks := ks ++ [k]) ho hx hd he1 hk1 ?_ ?_ hm (by omega) ?_ (fun h' sb r => ?_)
      · split
        · exact T1
        · exact ⟨T1.ris, T1.dm, T1.sz, T1.cov, T1.bd⟩
      · split <;> exact M1.trans hM
      · split <;> exact hl1
      · exact wpAny_pure (q h' sb r)
theorem kw_room {more : Nat} {Q : Unit → Shared → Prop} (r : KW P w s.heap a 7 ks) (hm : more ≤ 4)
    (q : ∀ h' M', Heap.SameBut a s.heap h' → KW P w h' a M' ks → (ks.length + more) * 5 < M' * 3 → Q () { s with heap := h' }) : wpAny (model P w) A (setRoomFor a more) Q E s := by
  obtain ⟨o, es, ep, t, ho, hx, hd, he, hk, T, hM, hm0, hs, hl⟩ := id r
  have len := hk.len
  unfold setRoomFor
  refine wpAny_bind (wpAny_setState_of ho hd (T.fits (by omega)) ?_)
  dsimp only
  by_cases c : (ks.length + more) * 5 < 7 * 3
  · have e : t.roomFor more = none := by
      unfold SetTable.roomFor
      rw [T.fill, hM, if_neg (by omega)]
    rw [e]
    exact wpAny_pure (q s.heap 7 (Heap.SameBut.refl _ _) r c)
  · have e : t.roomFor more = some ((es.size + more) * 2) := by
      unfold SetTable.roomFor
      rw [T.fill, T.sz, hM, if_pos (by omega)]
    rw [e]
    dsimp only
    have l4 : ks.length ≤ 4 := by omega
    have tot : es.size + more = 5 ∨ es.size + more = 6 ∨ es.size + more = 7 ∨ es.size + more = 8 := by omega
    have s15 : ∀ n, (n = 5 ∨ n = 6 ∨ n = 7) → SetTable.sizeAbove (n * 2) = 16 := by
      intro n hn
      rcases hn with rfl | rfl | rfl <;> decide +kernel
    have s31 : SetTable.sizeAbove (8 * 2) = 32 := by decide +kernel
    by_cases c8 : es.size + more = 8
    · have e8 : SetTable.sizeAbove ((es.size + more) * 2) = 32 := by rw [c8]; exact s31
      exact kw_relay r (M' := 31) (by rw [e8]) (by rw [e8]; decide) cov31 (by decide) (by omega) fun h' sb r' => q h' 31 sb r' (by omega)
    · have e7 : SetTable.sizeAbove ((es.size + more) * 2) = 16 := s15 _ (by omega)
      exact kw_relay r (M' := 15) (by rw [e7]) (by rw [e7]; decide) cov15 (by decide) (by omega) fun h' sb r' => q h' 15 sb r' (by omega)
end
end Qk

/-! Qtx: a set of keys gone through by its makers -/
namespace Qk
open PySem PySem.Spec PyProof.Rows L2
theorem pick_go {α : Type} (next : Nat → Nat) : ∀ (fuel k : Nat) (left : List α) (out : Array α), left.length ≤ fuel → (pickOrder.go next fuel k left out).toList.Perm (out.toList ++ left)
  | 0, k, left, out, h => by
    have e : left = [] := List.length_eq_zero_iff.mp (Nat.le_zero.mp h)
    subst e
    rw [List.append_nil]
    exact List.Perm.refl _
  | fuel + 1, k, [], out, h => by
    rw [List.append_nil]
    exact List.Perm.refl _
  | fuel + 1, k, x :: l, out, h => by
    have hi : next k % (x :: l).length < (x :: l).length := Nat.mod_lt _ (Nat.succ_pos _)
    have e : (x :: l)[next k % (x :: l).length]? = some ((x :: l)[next k % (x :: l).length]) := List.getElem?_eq_getElem hi
    have p := erase_perm (x :: l) _ _ e
    rw [pickOrder.go, e]
    dsimp only
    refine (pick_go next fuel (k + 1) _ _ ?_).trans ?_
    · have l1 : ((x :: l).eraseIdx (next k % (x :: l).length)).length + 1 = (x :: l).length := p.length_eq
      omega
    · rw [Array.toList_push, List.append_assoc]
      exact p.append_left _
theorem pick_perm {α : Type} (next : Nat → Nat) (xs : Array α) : (pickOrder next xs).toList.Perm xs.toList := by
  have := pick_go next xs.size 0 xs.toList #[] (by rw [Array.length_toList]; exact Nat.le_refl _)
  exact this
section
variable {P : Program} {w : World} {A : Around} {E : Value → Shared → Prop} {s : Shared} {a : Addr}
theorem kw_setWalk {o : Obj} {es : Array (Int × Value)} {ep : Nat} {t : SetTable} {Q : Array (Int × Value) → Shared → Prop} (ho : s.heap.get? a = some o) (hd : o.data = .set es ep t) (hf : t.fits es.size = true) (hl : w.params.followText "set-order" = true ∨ t.led = true)
    (q : ∀ es' d, es'.toList.Perm es.toList → Q es' { s with drawn := d }) : wpAny (model P w) A (setWalk a) Q E s := by
  unfold setWalk
  refine wpAny_bind (wpAny_setState_of ho hd hf ?_)
  dsimp only
  refine wpAny_bind (wpAny_byText ?_)
  by_cases hb : w.params.followText "set-order" = true
  · refine wp_if_pos hb ?_
    refine wpAny_bind (wpAny_askSetting (wpAny_pure ?_))
    exact q _ s.drawn (pick_perm _ _)
  · refine wp_if_neg hb ?_
    have hled : t.led = true := hl.resolve_left hb
    try refine wpAny_bind (wpAny_pure ?_)
    by_cases hdr : (!t.plain && decide (es.size > 1)) = true
    · refine wp_if_pos hdr ?_
      refine wpAny_bind (drawOrder_at es.size es.toList s _ (by rw [Array.length_toList]; exact Nat.le_refl _) fun ys d pm => ?_)
      exact wpAny_pure (q _ d (by simpa using pm))
    · refine wp_if_neg hdr ?_
      try refine wpAny_bind (wpAny_pure ?_)
      refine wpAny_bind (wpAny_of_eq (a := ()) ?_ ?_)
      · show (if (!t.led && decide (es.size > 1)) = true then unsupported "set:maker-not-led" else pure ()) = pure ()
        rw [hled] <;> rfl
      · exact wpAny_pure (q es s.drawn (List.Perm.refl _))
theorem quiet_at {b : Addr} {Mf : Nat} {kf ks : List Key} {M : Nat} {Q : Bool → Shared → Prop} (r : KW P w s.heap a M ks) (rf : KW P w s.heap b Mf kf) (q : Q true s) : wpAny (model P w) A (setsQuiet [a, b]) Q E s := by
  unfold setsQuiet
  refine wpAny_bind (wpAny_forIn_list _ (fun rest c s' => c = (none, ()) ∧ s' = s ∧ ∀ y ∈ rest, ∃ M ks, KW P w s.heap y M ks) _ ?_ ?_ _ _ ⟨rfl, rfl, fun y hy => ?_⟩)
  · rintro y rest c s' ⟨rfl, rfl, hm⟩
    obtain ⟨M1, k1, o, es, ep, t, ho, hx, hd, he, hk, T, hM, hm0, hs, hl⟩ := hm y List.mem_cons_self
    refine wpAny_bind ?_
    unfold setEntries
    refine wpAny_bind (wpAny_setState_of ho hd (T.fits (by omega)) (wpAny_pure ?_))
    dsimp only
    refine wpAny_bind (PySem.MeetsSeq2.wpAny_forIn_array _ (fun rest c s'' => c = (none, ()) ∧ s'' = s' ∧ ∀ e ∈ rest, e.2.scannable = true) _ ?_ ?_ _ _ ⟨rfl, rfl, fun e hm => (he e hm).2⟩)
    · rintro ⟨h, x⟩ rest' c s'' ⟨rfl, rfl, hm'⟩
      have sc := hm' _ List.mem_cons_self
      have hm2 : ∀ e ∈ rest', e.2.scannable = true := fun e h => hm' e (List.mem_cons_of_mem _ h)
      cases x <;> first | (cases sc; done) | exact wpAny_pure ⟨rfl, rfl, hm2⟩
    · rintro c s'' ⟨rfl, rfl, _⟩
      dsimp only
      exact wpAny_pure ⟨rfl, rfl, fun z h => hm z (List.mem_cons_of_mem _ h)⟩
  · rintro c s' ⟨rfl, rfl, _⟩
    dsimp only
    exact wpAny_pure q
  · simp only [List.mem_cons, List.not_mem_nil, or_false] at hy
    rcases hy with rfl | rfl
    · exact ⟨M, ks, r⟩
    · exact ⟨Mf, kf, rf⟩
theorem kw_walk {f : Addr} {kf ks : List Key} {M Mf : Nat} {o : Obj} {es : Array (Int × Value)} {ep : Nat} {t : SetTable} {Q : Array (Int × Value) → Shared → Prop} (r : KW P w s.heap a M ks) (rf : KW P w s.heap f Mf kf)
    (ho : s.heap.get? a = some o) (hd : o.data = .set es ep t)
    (q : ∀ es' d h', es'.toList.Perm es.toList → Heap.SameBut f s.heap h' → KW P w h' f Mf kf → Q es' { s with heap := h', drawn := d }) : wpAny (model P w) A (setWalkUnseen a [f] (some f)) Q E s := by
  obtain ⟨o', es', ep', t', ho', hx, hd', he, hk, T, hM, hm0, hs, hl⟩ := id r
  have eo : o = o' := Option.some.inj (ho.symm.trans ho')
  subst eo
  rw [hd] at hd'
  injection hd' with e1 e2 e3
  subst e1 e2 e3
  have hf := T.fits (by omega)
  unfold setWalkUnseen
  refine wpAny_bind (wpAny_setState_of ho hd hf ?_)
  dsimp only
  refine wpAny_bind (wpAny_byText ?_)
  by_cases c : (w.params.followText "set-order" || (t.led && t.plain) || decide (es.size ≤ 1)) = true
  · refine wp_if_pos c ?_
    exact kw_setWalk ho hd hf hl fun es' d pm => q es' d s.heap pm (Heap.SameBut.refl _ _) rf
  · refine wp_if_neg c ?_
    try refine wpAny_bind (wpAny_pure ?_)
    refine wpAny_bind (quiet_at r rf ?_)
    refine wp_if_neg (by simp) ?_
    try refine wpAny_bind (wpAny_pure ?_)
    refine wpAny_bind (wpAny_rule ?_)
    obtain ⟨of, ef, epf, tf, hof, hxf, hdf, hef, hkf, Tf, hMf, hmf, hsf, hlf⟩ := id rf
    refine wpAny_bind (wpAny_setState_of hof hdf (Tf.fits (by omega)) ?_)
    dsimp only
    have hb : w.params.followText "set-order" = false := by
      cases q : w.params.followText "set-order" with
      | false => rfl
      | true => rw [q] at c; exact absurd rfl c
    have tl : t.led = true := by
      rcases hl with h | h
      · rw [hb] at h; cases h
      · exact h
    have tfl : tf.led = true := by
      rcases hlf with h | h
      · rw [hb] at h; cases h
      · exact h
    by_cases c2 : (tf.led && !t.led || tf.plain && !t.plain) = true
    · refine wp_if_pos c2 ?_
      refine wpAny_bind (wpAny_storeSet_of hof hdf ?_ (fits_of_scanBound (by unfold scanBound; omega)))
      refine wpAny_pure (q es s.drawn _ (List.Perm.refl _) (Heap.SameBut.update s.heap f _) ⟨_, ef, epf + 1, _, store_at hof hdf, ⟨hxf.1, hxf.2.1, hxf.2.2⟩, rfl, hef, hkf, ⟨Tf.ris, Tf.dm, Tf.sz, Tf.cov, Tf.bd⟩, hMf, hmf, hsf, .inr ?_⟩)
      show (tf.led && t.led) = true
      rw [tl, tfl]
      rfl
    · refine wp_if_neg c2 ?_
      exact wpAny_pure (q es s.drawn s.heap (List.Perm.refl _) (Heap.SameBut.refl _ _) rf)
theorem kw_merge {f : Addr} {kf ks : List Key} {M : Nat} {each : Sem Unit} {Q : Unit → Shared → Prop} (ne : f ≠ a) (r : KW P w s.heap a M ks) (rf : KW P w s.heap f 7 kf) (n0 : kf ≠ []) (l1 : ks.length ≤ 4) 
    (he_ : ∀ (s' : Shared) (Q' : Unit → Shared → Prop), s'.heap.get? a = s.heap.get? a → Q' () s' → wpAny (model P w) A each Q' E s')
    (q : ∀ h' d M' kf', Heap.SameBut f s.heap h' → KW P w h' f M' kf' → (∀ k, k ∈ kf' ↔ k ∈ kf ∨ k ∈ ks) → Q () { s with heap := h', drawn := d }) : wpAny (model P w) A (setMerge f a each) Q E s := by
  obtain ⟨o, es, ep, t, ho, hx, hd, he, hk, T, hM, hm0, hs, hl⟩ := id r
  have len := hk.len
  have hne : (f == a) = false := by
    rw [beq_eq_false_iff_ne]
    exact ne
  unfold setMerge
  rw [hne]
  show wpAny _ _ (setState a >>= _) _ _ _
  refine wpAny_bind (wpAny_setState_of ho hd (T.fits (by omega)) ?_)
  dsimp only
  by_cases e0 : es.isEmpty = true
  · refine wp_if_pos e0 ?_
    have es0 : es.size = 0 := by
      have := Array.isEmpty_iff.mp e0
      rw [this]
      rfl
    have k0 : ks = [] := List.length_eq_zero_iff.mp (by rw [len]; exact es0)
    subst k0
    exact wpAny_pure (q s.heap s.drawn 7 kf (Heap.SameBut.refl _ _) rf fun k => by simp)
  refine wp_if_neg e0 ?_
  try refine wpAny_bind (wpAny_pure ?_)
  refine wpAny_bind (kw_room rf (by omega) fun h1 M1 sb1 rf1 room => ?_)
  obtain ⟨of, ef, epf, tf, hof, hxf, hdf, hef, hkf, Tf, hMf, hmf, hsf, hlf⟩ := id rf1
  refine wpAny_bind (wpAny_setState_of (s := { s with heap := h1 }) hof hdf (Tf.fits (by omega)) ?_)
  dsimp only
  have road : tf.road t = .oneByOne := by
    unfold SetTable.road
    rw [Tf.fill, if_pos]
    have z1 := hkf.len
    have z2 : kf.length ≠ 0 := fun e => n0 (List.length_eq_zero_iff.mp e)
    rw [bne_iff_ne]
    omega
  rw [road]
  dsimp only
  have ho1 : h1.get? a = some o := by rw [sb1.2 a ne.symm]; exact ho
  have r1 : KW P w h1 a M ks := ⟨o, es, ep, t, ho1, hx, hd, he, hk, T, hM, hm0, hs, hl⟩
  refine wpAny_bind (kw_walk (s := { s with heap := h1 }) r1 rf1 ho1 hd fun es' d h2 pm sb2 rf2 => ?_)
  have lpm := pm.length_eq
  rw [Array.length_toList, Array.length_toList] at lpm
  have he' : ElemsOf (mixKind P w) es'.toList := he.perm pm
  refine wpAny_bind (PySem.MeetsSeq2.wpAny_forIn_array _ (fun rest _ s' => ∃ h' kf', s' = { s with heap := h', drawn := d } ∧ Heap.SameBut f s.heap h' ∧ KW P w h' f M1 kf' ∧ kf'.length + rest.length ≤ kf.length + es.size ∧ (∀ e ∈ rest, (∃ k, (mixKind P w).is k e.2 = true ∧ e.1 = (mixKind P w).hash k) ∧ e.2.scannable = true) ∧ (∀ k, (k ∈ kf' ∨ ∃ e ∈ rest, (mixKind P w).is k e.2 = true) ↔ k ∈ kf ∨ k ∈ ks)) _ ?_ ?_ _ _ ⟨h2, kf, rfl, sb1.trans sb2, rf2, by have z3 : es'.toList.length = es'.size := Array.length_toList; omega, fun e h => he' e h, fun k => ?_⟩)
  · rintro ⟨hh, x⟩ rest c s' ⟨h', kf', rfl, sb, rk, ll, hr, hmem⟩
    obtain ⟨⟨k, hk1, hh1⟩, sc⟩ := hr _ List.mem_cons_self
    have hh1 : hh = (mixKind P w).hash k := hh1
    subst hh1
    rw [List.length_cons] at ll
    dsimp only
    refine wpAny_bind (wpAny_holding (kw_add (s := { s with heap := h', drawn := d }) hk1 sc rk (by omega) fun h3 sb3 rk3 => ?_))
    have ho3 : h3.get? a = some o := by rw [sb3.2 a ne.symm, sb.2 a ne.symm]; exact ho
    refine wpAny_bind (he_ _ _ (by show h3.get? a = _; rw [ho3, ho]) ?_)
    refine wpAny_bind (wpAny_setState_of (s := { s with heap := h3, drawn := d }) ho3 hd (T.fits (by omega)) ?_)
    dsimp only
    refine wp_if_neg (by simp) ?_
    try refine wpAny_bind (wpAny_pure ?_)
    refine wpAny_pure ⟨h3, _, rfl, sb.trans sb3, rk3, ?_, fun e h => hr e (List.mem_cons_of_mem _ h), fun k' => ?_⟩
    · split
      · omega
      · rw [List.length_append]
        show kf'.length + 1 + rest.length ≤ _
        omega
    · rw [← hmem k']
      have key : k' ∈ (if hasK kf' k = true then kf' else kf' ++ [k]) ↔ k' ∈ kf' ∨ k' = k := by
        split
        · rename_i hq
          have := hasK_iff.mp hq
          constructor
          · exact .inl
          · rintro (z | z)
            · exact z
            · rw [z]
              exact this
        · rw [List.mem_append, List.mem_singleton]
      rw [key]
      constructor
      · rintro ((z | z) | ⟨e, h1, h2⟩)
        · exact .inl z
        · exact .inr ⟨_, List.mem_cons_self, by rw [z]; exact hk1⟩
        · exact .inr ⟨e, List.mem_cons_of_mem _ h1, h2⟩
      · rintro (z | ⟨e, h1, h2⟩)
        · exact .inl (.inl z)
        · rcases List.mem_cons.mp h1 with z | z
          · subst z
            exact .inl (.inr ((mixKind P w).inj _ _ _ h2 hk1))
          · exact .inr ⟨e, z, h2⟩
  · rintro c s' ⟨h', kf', rfl, sb, rk, ll, hr, hmem⟩
    exact wpAny_pure (q h' d M1 kf' sb rk fun k => by
      rw [← hmem k]
      simp)
  · rw [hk.mem k]
    constructor
    · rintro (z | ⟨e, h1, h2⟩)
      · exact .inl z
      · exact .inr ⟨e, pm.mem_iff.mp h1, h2⟩
    · rintro (z | ⟨e, h1, h2⟩)
      · exact .inl z
      · exact .inr ⟨e, pm.mem_iff.mpr h1, h2⟩
end
end Qk

/-! Qty: set(dict) | set(dict) -/
namespace Qk
open PySem PySem.Spec PyProof.Rows L2 Builtin Builtin.Frozenset
section
variable {P : Program} {w : World} {A : Around} {E : Value → Shared → Prop} {s : Shared} {a b : Addr} {ka kb : List Key}
theorem kt_type (r : KT P w s.heap a 7 ka) : s.TypeIs (.ref a) "set" := by
  obtain ⟨o, es, ep, t, ho, hx, hd, _⟩ := r
  exact ⟨o, ho, hx.1⟩
theorem entry_set_or : entryFor table "set.__or__" = some Builtin.«frozenset.__or__» := entryFor_alias (id' := "frozenset.__or__") (by kernel_rfl) rfl (by decide +kernel) (by kernel_rfl)
def unionQ (id : String) (l : Addr) (r : Value) : Sem Value := do
  let result ← copyOf l
  if r != .ref l then holding [result] (updateFrom id (← addrOf result) r)
  return result
theorem or_eq : Builtin.«frozenset.__or__» = (fun args => (do
  let (self, other) ← slot1 "__or__" args
  if !(← isAnySet self <&&> isAnySet other) then rule s!"frozenset.{"__or__"}.declined"; return ← PySem.ret .notImplemented
  PySem.ret (← unionQ s!"frozenset.{"__or__"}" (← addrOf self) other))) := rfl
theorem isAny_ok {v : Value} {Q : Bool → Shared → Prop} (ta : s.TypeIs v "set") (q : Q true s) : wpAny (model P w) A (isAnySet v) Q E s := by
  have hs := @PySem.sub_set_self
  unfold isAnySet
  show wpAny _ _ (isInstance v (.type "set") >>= _) _ _ _
  refine wpAny_bind (wpAny_isInstance ta hs ?_)
  exact wpAny_pure q
theorem kt_empty {D : Addr} {each : Sem Unit} {Q : Unit → Shared → Prop} (hD : a ≠ D) (r : KT P w s.heap a 7 []) (q : Q () s) : wpAny (model P w) A (setMerge D a each) Q E s := by
  obtain ⟨o, es, ep, t, ho, hx, hd, he, hk, T, hM, hsz, hl⟩ := r
  have hf := kt_fits T (by omega)
  have hne : (D == a) = false := by
    rw [beq_eq_false_iff_ne]
    exact fun e => hD e.symm
  unfold setMerge
  rw [hne]
  show wpAny _ _ (setState a >>= _) _ _ _
  refine wpAny_bind (wpAny_setState_of ho hd hf ?_)
  dsimp only
  have e0 : es.isEmpty = true := by
    rw [Array.isEmpty_iff_size_eq_zero]
    exact hk.len.symm
  rw [if_pos e0]
  exact wpAny_pure q
theorem kt_epoch {Q : Nat → Shared → Prop} (r : KT P w s.heap a 7 ka) (q : ∀ ep, (∀ {A : Around} {E : Value → Shared → Prop} (s' : Shared) (Q' : Unit → Shared → Prop), s'.heap.get? a = s.heap.get? a → Q' () s' → wpAny (model P w) A (unchanged "frozenset.__or__" a ep) Q' E s') → Q ep s) : wpAny (model P w) A (setEpoch a) Q E s := by
  obtain ⟨o, es, ep, t, ho, hx, hd, he, hk, T, hM, hsz, hl⟩ := r
  have hf := kt_fits T (by omega)
  unfold setEpoch
  refine wpAny_bind (wpAny_setState_of ho hd hf ?_)
  refine wpAny_pure (q ep fun {A E} s' Q' e q' => ?_)
  unfold unchanged setEpoch
  refine wpAny_bind (wpAny_bind (wpAny_setState_of (by rw [e]; exact ho) hd hf (wpAny_pure ?_)))
  refine wp_if_neg (by simp) ?_
  exact wpAny_pure q'
set_option maxHeartbeats 4000000 in
theorem or_sets {Q : Value → Shared → Prop} (ra : KT P w s.heap a 7 ka) (rb : KT P w s.heap b 7 kb) (ne : a ≠ b) (la : ka.length ≤ 4) (lb : kb.length ≤ 4)
    (q : ∀ h' d M ks, (∀ c o, c < s.heap.objs.size → s.heap.get? c = some o → h'.get? c = some o) → KW P w h' s.heap.objs.size M ks → (∀ k, k ∈ ks ↔ k ∈ ka ∨ k ∈ kb) → Q (.ref s.heap.objs.size) { s with heap := h', drawn := d }) :
    wpAny (model P w) A (binaryOp .BitOr (.ref a) (.ref b)) Q E s := by
  have ta := kt_type ra
  have tb := kt_type rb
  refine wpAny_binaryOp_same (op := .BitOr) (T := "set") ta tb F.fills_set_or F.slot_set_or (wpAny_call_entry F.slot_set_or ta entry_set_or ?_ (F.args_set_or_2 _ _))
  rw [or_eq]
  dsimp only
  refine wpAny_bind (wpAny_of_eq (show slot1 "__or__" ⟨[.ref a, .ref b], []⟩ = pure (.ref a, .ref b) from rfl) ?_)
  dsimp only
  refine wpAny_bind ?_
  show wpAny _ _ (isAnySet (.ref a) >>= _) _ _ _
  refine wpAny_bind (isAny_ok ta (isAny_ok tb ?_))
  refine wp_if_neg (by decide) ?_
  try refine wpAny_bind (wpAny_pure ?_)
  refine wpAny_bind ?_
  have hs := @PySem.sub_set_self
  unfold unionQ copyOf baseOf newSet
  dsimp only
  refine wpAny_bind (wpAny_bind (wpAny_bind (wpAny_isInstance ta hs ?_)))
  refine wpAny_pure ?_
  rw [if_pos rfl]
  refine wpAny_bind (wpAny_bind ?_)
  unfold setsByText
  refine wpAny_bind (wpAny_askSetting ?_)
  refine wpAny_pure ?_
  dsimp only
  unfold newObj
  repeat (any_goals (first | assumption | wp_step))
  show wpAny (model P w) A.in1 (setMerge s.heap.objs.size a) _ _ _
  have hD : a < s.heap.objs.size := by
    obtain ⟨o, _, _, _, ho, _⟩ := ra
    exact Heap.lt_size ho
  have hE : b < s.heap.objs.size := by
    obtain ⟨o, _, _, _, ho, _⟩ := rb
    exact Heap.lt_size ho
  have up : ∀ c o, s.heap.get? c = some o → (s.heap.push (newSetQ w)).get? c = some o := fun c o e => Heap.get?_push_of_some _ e
  have r0 : (s.heap.push (newSetQ w)).get? s.heap.objs.size = some (newSetQ w) := Heap.get?_push_size _ rfl
  have ra1 : KT P w (s.heap.push (newSetQ w)) a 7 ka := ra.at_ (up a)
  have rb1 : KT P w (s.heap.push (newSetQ w)) b 7 kb := rb.at_ (up b)
  have nb : (Value.ref b != Value.ref a) = true := by
    rw [bne_iff_ne]
    intro e
    injection e with e
    exact ne e.symm
  have idq : (toString "frozenset." ++ toString "__or__") = "frozenset.__or__" := by decide
  rw [idq]
  have isb : ∀ {h1 : Heap}, KT P w h1 b 7 kb → Shared.TypeIs { s with heap := h1 } (.ref b) "set" := fun r => kt_type (s := { s with heap := _ }) r
  by_cases e0 : ka = []
  · subst e0
    refine kt_empty (s := { s with heap := s.heap.push (newSetQ w) }) (Nat.ne_of_lt hD) ra1 ?_
    refine wpAny_pure ?_
    rw [if_pos nb]
    refine wpAny_bind (wpAny_of_eq (show addrOf (.ref s.heap.objs.size) = pure s.heap.objs.size from rfl) ?_)
    refine wpAny_bind (wpAny_holding ?_)
    unfold Builtin.Frozenset.updateFrom merge
    refine wpAny_bind (isAny_ok (isb rb1) ?_)
    refine wp_if_pos rfl ?_
    refine wpAny_bind (wpAny_of_eq (show addrOf (.ref b) = pure b from rfl) ?_)
    refine wpAny_bind (kt_epoch (s := { s with heap := s.heap.push (newSetQ w) }) rb1 fun ep he => ?_)
    refine kt_copy (s := { s with heap := s.heap.push (newSetQ w) }) (Nat.ne_of_lt hE) rb1 r0 (fun h1 sb1 rD => ?_)
    refine wpAny_pure ?_
    refine wpAny_pure ⟨_, rfl, by simp, q h1 s.drawn 7 kb (fun c o lt e => ?_) rD.kw fun k => by simp⟩
    rw [sb1.2 c (Nat.ne_of_lt lt)]
    exact up c o e
  · refine kt_copy (s := { s with heap := s.heap.push (newSetQ w) }) (Nat.ne_of_lt hD) ra1 r0 (fun h1 sb1 rD => ?_)
    have rb2 : KT P w h1 b 7 kb := rb1.at_ fun o e => by rw [sb1.2 b (Nat.ne_of_lt hE)]; exact e
    refine wpAny_pure ?_
    rw [if_pos nb]
    refine wpAny_bind (wpAny_of_eq (show addrOf (.ref s.heap.objs.size) = pure s.heap.objs.size from rfl) ?_)
    refine wpAny_bind (wpAny_holding ?_)
    unfold Builtin.Frozenset.updateFrom merge
    refine wpAny_bind (isAny_ok (isb rb2) ?_)
    refine wp_if_pos rfl ?_
    refine wpAny_bind (wpAny_of_eq (show addrOf (.ref b) = pure b from rfl) ?_)
    refine wpAny_bind (kt_epoch (s := { s with heap := h1 }) rb2 fun ep he => ?_)
    refine kw_merge (s := { s with heap := h1 }) (Nat.ne_of_gt hE) rb2.kw rD.kw e0 lb (fun s' Q' e q' => he s' Q' e q') (fun h' d M' kf' sb2 rk mk => ?_)
    refine wpAny_pure ?_
    refine wpAny_pure ⟨_, rfl, by simp, q h' d M' kf' (fun c o lt e => ?_) rk mk⟩
    rw [sb2.2 c (Nat.ne_of_lt lt)]
    show h1.get? c = _
    rw [sb1.2 c (Nat.ne_of_lt lt)]
    exact up c o e
end
theorem keys_le {α : Type} [DecidableEq α] : ∀ {xs ys : List α}, xs.Nodup → (∀ z ∈ xs, z ∈ ys) → xs.length ≤ ys.length
  | [], _, _, _ => Nat.zero_le _
  | x :: xs, ys, n, h => by
    have n' := List.nodup_cons.mp n
    have hx := h x List.mem_cons_self
    have := keys_le (xs := xs) (ys := ys.erase x) n'.2 fun z hz => (List.mem_erase_of_ne (fun e => n'.1 (by rw [← e]; exact hz))).mpr (h z (List.mem_cons_of_mem _ hz))
    rw [List.length_erase_of_mem hx] at this
    have := List.length_pos_of_mem hx
    rw [List.length_cons]
    omega
theorem KW.nodup {P : Program} {w : World} {h : Heap} {a : Addr} {M : Nat} {ks : List Key} (r : KW P w h a M ks) : ks.Nodup := by
  obtain ⟨o, es, ep, t, h1, h2, h3, h4, h5, T, hM, hm, hs, hl⟩ := r
  exact h5.2
def rOrT (P : Program) (w : World) : R2 := fun x y H Q => ∃ (a b : Addr) (ka kb : List Key), x = .ref a ∧ y = .ref b ∧ H a = some (SetT P w a ka) ∧ H b = some (SetT P w b kb) ∧ a ≠ b ∧ ka.length ≤ 4 ∧ kb.length ≤ 4 ∧
  ∀ p n T, H p = none → n ≤ 8 → (∀ k, T k = true ↔ k ∈ ka ∨ k ∈ kb) → Q (.ref p) (upd H p (SetQ P w p T n))
section
variable {X : Cx}
theorem setT_get {pins : List (Addr × Obj)} {σ : L2.St} {H : Hp} {s : Shared} {a : Addr} {ks : List Key} (I : L2.Inv X pins σ H s) (ha : H a = some (SetT X.prog X.w a ks)) : KT X.prog X.w s.heap a 7 ks := (I.hok a _ ha).1
theorem op_orT : OpR X (binaryOp .BitOr) (rOrT X.prog X.w) := by
  intro pins s σ H x y v u Q I rx ry h
  obtain ⟨a, b, ka, kb, rfl, rfl, ha, hb, ne, la, lb, q⟩ := h
  have ev : v = .ref a := rx
  have eu : u = .ref b := ry
  subst ev
  subst eu
  refine or_sets (setT_get I ha) (setT_get I hb) ne la lb (fun h' d M ks k rk mk => ?_)
  have hn : H s.heap.objs.size = none := I.hok.fresh (Nat.le_refl _)
  have ln : ks.length ≤ 8 := by
    have := keys_le rk.nodup (ys := ka ++ kb) fun z hz => List.mem_append.mpr ((mk z).mp hz)
    rw [List.length_append] at this
    omega
  have k' : ∀ b o, s.heap.get? b = some o → h'.get? b = some o := fun c o e => k c o (Heap.lt_size e) e
  have J := I.call (ch := []) (d' := d) (t' := s.toks) (g' := s.gens) (Un.laid k' (Nat.le_refl _) hn) (HOk.laid I.hok k' (Nat.le_refl _) (setQ_new (T := hasK ks) (n := ks.length) rk.kr)) I.bare (fun x z => (by cases z))
  exact ⟨.ref s.heap.objs.size, _, J, rfl, q _ _ _ hn ln fun k => hasK_iff.trans (mk k)⟩
/-- | of numbers or of sets out of dicts -/
def rOrN (P : Program) (w : World) : R2 := fun x y H Q => rI0 (fun i j => .int (Builtin.bitOr i j)) x y H Q ∨ rOrT P w x y H Q
theorem op_orN (P : Program) (w : World) (eP : X.prog = P := by rfl) (ew : X.w = w := by rfl) : OpR X (binaryOp .BitOr) (rOrN P w) := by
  subst eP
  subst ew
  intro pins s σ H x y v u Q I rx ry h
  rcases h with h | h
  · exact op_or pins s σ H x y v u Q I rx ry h
  · exact op_orT pins s σ H x y v u Q I rx ry h
end
section
variable {K : PySem.W.Frag} {P : Program} {w : World} {F : Hp} {O : Own} {H : Hp} {Q : VK}
theorem g_orT {a b : Addr} {ka kb : List Key} (ha : H a = some (SetT P w a ka)) (hb : H b = some (SetT P w b kb)) (ne : a ≠ b) (la : ka.length ≤ 4) (lb : kb.length ≤ 4) (hH : Has F O H)
    (q : ∀ p n T H', H p = none → n ≤ 8 → (∀ k, T k = true ↔ k ∈ ka ∨ k ∈ kb) → Has F ((p, SetQ P w p T n) :: O) H' → Q (.ref p) H') : rOrN P w (.ref a) (.ref b) H Q :=
  .inr ⟨a, b, ka, kb, rfl, rfl, ha, hb, ne, la, lb, fun p n T np ln eT => q p n T _ np ln eT (hH.new np)⟩
theorem g_setDT {a : Addr} {kvs : List (Key × V)} (h : H a = some (.dK kvs)) (l : kvs.length ≤ 4) (hH : Has F O H) (q : ∀ p H', H p = none → Has F ((p, SetT P w p (kvs.map (·.1))) :: O) H' → Q (.ref p) H') : rSetDT P w [.ref a] H Q :=
  ⟨a, kvs, rfl, h, l, fun p np => q p _ np (hH.new np)⟩
end
end Qk

namespace K07
open PySem PySem.Spec PyProof.Rows L2 Qk
/-! ### the text -/
def topS (i : Nat) : Stmt := PySem.Challenge.pw_partclones_k07_puts.main.body.getD i (.Pass ⟨0, 0, 0, 0⟩)
abbrev s_is_line : Stmt := topS 9
abbrev n_is_line : List Str := ["value", "sign"]
theorem sc_is_line : FnScope n_is_line ["value"] (defScope s_is_line) := ⟨rfl, rfl, rfl, by decide +kernel, rfl, by decide +kernel, by decide +kernel⟩
abbrev s_checked_text : Stmt := topS 10
abbrev n_checked_text : List Str := ["text", "place", "line"]
theorem sc_checked_text : FnScope n_checked_text ["text"] (defScope s_checked_text) := ⟨rfl, rfl, rfl, by decide +kernel, rfl, by decide +kernel, by decide +kernel⟩
abbrev s_text_at : Stmt := topS 12
abbrev n_text_at : List Str := ["tree", "path"]
theorem sc_text_at : FnScope n_text_at ["tree", "path"] (defScope s_text_at) := ⟨rfl, rfl, rfl, by decide +kernel, rfl, by decide +kernel, by decide +kernel⟩
abbrev s_tree_changes : Stmt := topS 13
abbrev n_tree_changes : List Str := ["old", "new", "changes", "path", "before", "after"]
theorem sc_tree_changes : FnScope n_tree_changes ["old", "new"] (defScope s_tree_changes) := ⟨rfl, rfl, rfl, by decide +kernel, rfl, by decide +kernel, by decide +kernel⟩
abbrev s_is_word : Stmt := topS 18
abbrev n_is_word : List Str := ["value", "sign"]
theorem sc_is_word : FnScope n_is_word ["value"] (defScope s_is_word) := ⟨rfl, rfl, rfl, by decide +kernel, rfl, by decide +kernel, by decide +kernel⟩
abbrev s_is_path : Stmt := topS 19
abbrev n_is_path : List Str := ["value", "words", "word"]
theorem sc_is_path : FnScope n_is_path ["value"] (defScope s_is_path) := ⟨rfl, rfl, rfl, by decide +kernel, rfl, by decide +kernel, by decide +kernel⟩
abbrev s_puts_between : Stmt := topS 21
abbrev n_puts_between : List Str := ["old", "new", "path", "_", "after"]
theorem sc_puts_between : FnScope n_puts_between ["old", "new"] (defScope s_puts_between) := ⟨rfl, rfl, rfl, by decide +kernel, rfl, by decide +kernel, by decide +kernel⟩
abbrev s_check_puts : Stmt := topS 22
abbrev n_check_puts : List Str := ["puts", "seen", "place", "path", "lines", "e"]
theorem sc_check_puts : FnScope n_check_puts ["puts"] (defScope s_check_puts) := ⟨rfl, rfl, rfl, by decide +kernel, rfl, by decide +kernel, by decide +kernel⟩
abbrev s_put_tree : Stmt := topS 23
abbrev n_put_tree : List Str := ["tree", "puts", "texts", "path", "lines"]
theorem sc_put_tree : FnScope n_put_tree ["tree", "puts"] (defScope s_put_tree) := ⟨rfl, rfl, rfl, by decide +kernel, rfl, by decide +kernel, by decide +kernel⟩
abbrev s_l_feed : Stmt := topS 25
abbrev n_l_feed : List Str := ["script", "cell"]
theorem sc_l_feed : FnScope n_l_feed ["script"] (defScope s_l_feed) := ⟨rfl, rfl, rfl, by decide +kernel, rfl, by decide +kernel, by decide +kernel⟩
abbrev s_l_next : Stmt := topS 26
abbrev n_l_next : List Str := ["cells", "many", "number"]
theorem sc_l_next : FnScope n_l_next ["cells", "many"] (defScope s_l_next) := ⟨rfl, rfl, rfl, by decide +kernel, rfl, by decide +kernel, by decide +kernel⟩
abbrev s_l_same : Stmt := topS 27
abbrev n_l_same : List Str := ["told", "due", "k", "key"]
theorem sc_l_same : FnScope n_l_same ["told", "due"] (defScope s_l_same) := ⟨rfl, rfl, rfl, by decide +kernel, rfl, by decide +kernel, by decide +kernel⟩
abbrev s_l_way : Stmt := topS 28
abbrev n_l_way : List Str := ["place", "paths"]
theorem sc_l_way : FnScope n_l_way ["place"] (defScope s_l_way) := ⟨rfl, rfl, rfl, by decide +kernel, rfl, by decide +kernel, by decide +kernel⟩
abbrev s_l_text : Stmt := topS 29
abbrev n_l_text : List Str := ["place", "texts"]
theorem sc_l_text : FnScope n_l_text ["place"] (defScope s_l_text) := ⟨rfl, rfl, rfl, by decide +kernel, rfl, by decide +kernel, by decide +kernel⟩
abbrev s_l_row : Stmt := topS 30
abbrev n_l_row : List Str := ["text"]
theorem sc_l_row : FnScope n_l_row ["text"] (defScope s_l_row) := ⟨rfl, rfl, rfl, by decide +kernel, rfl, by decide +kernel, by decide +kernel⟩
abbrev s_l_made : Stmt := topS 31
abbrev n_l_made : List Str := ["paths", "texts", "tree", "k"]
theorem sc_l_made : FnScope n_l_made ["paths", "texts"] (defScope s_l_made) := ⟨rfl, rfl, rfl, by decide +kernel, rfl, by decide +kernel, by decide +kernel⟩
abbrev s_l_copy : Stmt := topS 32
abbrev n_l_copy : List Str := ["tree", "copy", "path"]
theorem sc_l_copy : FnScope n_l_copy ["tree"] (defScope s_l_copy) := ⟨rfl, rfl, rfl, by decide +kernel, rfl, by decide +kernel, by decide +kernel⟩
abbrev s_l_rising : Stmt := topS 33
abbrev n_l_rising : List Str := ["tree", "rising", "path"]
theorem sc_l_rising : FnScope n_l_rising ["tree"] (defScope s_l_rising) := ⟨rfl, rfl, rfl, by decide +kernel, rfl, by decide +kernel, by decide +kernel⟩
abbrev s_l_kept : Stmt := topS 34
abbrev n_l_kept : List Str := ["passed", "tree"]
theorem sc_l_kept : FnScope n_l_kept ["passed", "tree"] (defScope s_l_kept) := ⟨rfl, rfl, rfl, by decide +kernel, rfl, by decide +kernel, by decide +kernel⟩
abbrev s_l_spoil : Stmt := topS 35
abbrev n_l_spoil : List Str := ["tree", "path"]
theorem sc_l_spoil : FnScope n_l_spoil ["tree"] (defScope s_l_spoil) := ⟨rfl, rfl, rfl, by decide +kernel, rfl, by decide +kernel, by decide +kernel⟩
abbrev s_l_signs : Stmt := topS 36
abbrev n_l_signs : List Str := ["word", "signs", "sign"]
theorem sc_l_signs : FnScope n_l_signs ["word", "signs"] (defScope s_l_signs) := ⟨rfl, rfl, rfl, by decide +kernel, rfl, by decide +kernel, by decide +kernel⟩
abbrev s_l_is_way : Stmt := topS 37
abbrev n_l_is_way : List Str := ["path", "words", "word"]
theorem sc_l_is_way : FnScope n_l_is_way ["path"] (defScope s_l_is_way) := ⟨rfl, rfl, rfl, by decide +kernel, rfl, by decide +kernel, by decide +kernel⟩
abbrev s_l_is_text : Stmt := topS 38
abbrev n_l_is_text : List Str := ["lines", "line"]
theorem sc_l_is_text : FnScope n_l_is_text ["lines"] (defScope s_l_is_text) := ⟨rfl, rfl, rfl, by decide +kernel, rfl, by decide +kernel, by decide +kernel⟩
abbrev s_l_first_bad : Stmt := topS 39
abbrev n_l_first_bad : List Str := ["puts", "seen", "k", "path"]
theorem sc_l_first_bad : FnScope n_l_first_bad ["puts"] (defScope s_l_first_bad) := ⟨rfl, rfl, rfl, by decide +kernel, rfl, by decide +kernel, by decide +kernel⟩
abbrev s_l_put : Stmt := topS 40
abbrev n_l_put : List Str := ["tree", "puts", "state", "one"]
theorem sc_l_put : FnScope n_l_put ["tree", "puts"] (defScope s_l_put) := ⟨rfl, rfl, rfl, by decide +kernel, rfl, by decide +kernel, by decide +kernel⟩
abbrev s_l_between : Stmt := topS 41
abbrev n_l_between : List Str := ["old", "new", "puts", "path", "one"]
theorem sc_l_between : FnScope n_l_between ["old", "new"] (defScope s_l_between) := ⟨rfl, rfl, rfl, by decide +kernel, rfl, by decide +kernel, by decide +kernel⟩
abbrev s_l_drawn : Stmt := topS 42
abbrev n_l_drawn : List Str := ["cells", "start", "step", "puts", "k", "path"]
theorem sc_l_drawn : FnScope n_l_drawn ["cells", "start", "step"] (defScope s_l_drawn) := ⟨rfl, rfl, rfl, by decide +kernel, rfl, by decide +kernel, by decide +kernel⟩
abbrev s_l_bent : Stmt := topS 43
abbrev n_l_bent : List Str := ["cells", "puts", "bad", "bent", "k", "path", "lines", "kind", "rows", "ways"]
theorem sc_l_bent : FnScope n_l_bent ["cells", "puts"] (defScope s_l_bent) := ⟨rfl, rfl, rfl, by decide +kernel, rfl, by decide +kernel, by decide +kernel⟩
abbrev s_l_applies : Stmt := topS 44
abbrev n_l_applies : List Str := ["tree", "puts", "bad", "given", "passed", "told", "place", "kinds", "e"]
theorem sc_l_applies : FnScope n_l_applies ["tree", "puts"] (defScope s_l_applies) := ⟨rfl, rfl, rfl, by decide +kernel, rfl, by decide +kernel, by decide +kernel⟩
abbrev s_l_finds : Stmt := topS 45
abbrev n_l_finds : List Str := ["old", "new", "due", "passed", "told"]
theorem sc_l_finds : FnScope n_l_finds ["old", "new", "due"] (defScope s_l_finds) := ⟨rfl, rfl, rfl, by decide +kernel, rfl, by decide +kernel, by decide +kernel⟩
abbrev s_law : Stmt := topS 46
abbrev n_law : List Str := ["script", "cells", "start", "step", "paths", "old", "new", "due", "puts", "good", "one", "asked", "k", "other"]
theorem sc_law : FnScope n_law ["script"] (defScope s_law) := ⟨rfl, rfl, rfl, by decide +kernel, rfl, by decide +kernel, by decide +kernel⟩
set_option maxHeartbeats 4000000 in
structure Txt (K : PySem.W.Frag) (mg : Str → Option Value) where
  f_is_line : Addr
  fd_is_line : FuncData
  F_is_line : Fun K "is_line" "is_line" s_is_line f_is_line fd_is_line
  g_is_line : mg "is_line" = some (.ref f_is_line)
  b_is_line : Binds K fd_is_line ["value"] []
  f_checked_text : Addr
  fd_checked_text : FuncData
  F_checked_text : Fun K "checked_text" "checked_text" s_checked_text f_checked_text fd_checked_text
  g_checked_text : mg "checked_text" = some (.ref f_checked_text)
  b_checked_text : Binds K fd_checked_text ["text"] []
  f_text_at : Addr
  fd_text_at : FuncData
  F_text_at : Fun K "_text_at" "_text_at" s_text_at f_text_at fd_text_at
  g_text_at : mg "_text_at" = some (.ref f_text_at)
  b_text_at : Binds K fd_text_at ["tree", "path"] []
  f_tree_changes : Addr
  fd_tree_changes : FuncData
  F_tree_changes : Fun K "tree_changes" "tree_changes" s_tree_changes f_tree_changes fd_tree_changes
  g_tree_changes : mg "tree_changes" = some (.ref f_tree_changes)
  b_tree_changes : Binds K fd_tree_changes ["old", "new"] []
  f_is_word : Addr
  fd_is_word : FuncData
  F_is_word : Fun K "_is_word" "_is_word" s_is_word f_is_word fd_is_word
  g_is_word : mg "_is_word" = some (.ref f_is_word)
  b_is_word : Binds K fd_is_word ["value"] []
  f_is_path : Addr
  fd_is_path : FuncData
  F_is_path : Fun K "is_path" "is_path" s_is_path f_is_path fd_is_path
  g_is_path : mg "is_path" = some (.ref f_is_path)
  b_is_path : Binds K fd_is_path ["value"] []
  f_puts_between : Addr
  fd_puts_between : FuncData
  F_puts_between : Fun K "puts_between" "puts_between" s_puts_between f_puts_between fd_puts_between
  g_puts_between : mg "puts_between" = some (.ref f_puts_between)
  b_puts_between : Binds K fd_puts_between ["old", "new"] []
  f_check_puts : Addr
  fd_check_puts : FuncData
  F_check_puts : Fun K "_check_puts" "_check_puts" s_check_puts f_check_puts fd_check_puts
  g_check_puts : mg "_check_puts" = some (.ref f_check_puts)
  b_check_puts : Binds K fd_check_puts ["puts"] []
  f_put_tree : Addr
  fd_put_tree : FuncData
  F_put_tree : Fun K "put_tree" "put_tree" s_put_tree f_put_tree fd_put_tree
  g_put_tree : mg "put_tree" = some (.ref f_put_tree)
  b_put_tree : Binds K fd_put_tree ["tree", "puts"] []
  f_l_feed : Addr
  fd_l_feed : FuncData
  F_l_feed : Fun K "_law_feed" "_law_feed" s_l_feed f_l_feed fd_l_feed
  g_l_feed : mg "_law_feed" = some (.ref f_l_feed)
  b_l_feed : Binds K fd_l_feed ["script"] []
  f_l_next : Addr
  fd_l_next : FuncData
  F_l_next : Fun K "_law_next" "_law_next" s_l_next f_l_next fd_l_next
  g_l_next : mg "_law_next" = some (.ref f_l_next)
  b_l_next : Binds K fd_l_next ["cells", "many"] []
  f_l_same : Addr
  fd_l_same : FuncData
  F_l_same : Fun K "_law_same" "_law_same" s_l_same f_l_same fd_l_same
  g_l_same : mg "_law_same" = some (.ref f_l_same)
  b_l_same : Binds K fd_l_same ["told", "due"] []
  f_l_way : Addr
  fd_l_way : FuncData
  F_l_way : Fun K "_law_way" "_law_way" s_l_way f_l_way fd_l_way
  g_l_way : mg "_law_way" = some (.ref f_l_way)
  b_l_way : Binds K fd_l_way ["place"] []
  f_l_text : Addr
  fd_l_text : FuncData
  F_l_text : Fun K "_law_text" "_law_text" s_l_text f_l_text fd_l_text
  g_l_text : mg "_law_text" = some (.ref f_l_text)
  b_l_text : Binds K fd_l_text ["place"] []
  f_l_row : Addr
  fd_l_row : FuncData
  F_l_row : Fun K "_law_row" "_law_row" s_l_row f_l_row fd_l_row
  g_l_row : mg "_law_row" = some (.ref f_l_row)
  b_l_row : Binds K fd_l_row ["text"] []
  f_l_made : Addr
  fd_l_made : FuncData
  F_l_made : Fun K "_law_made" "_law_made" s_l_made f_l_made fd_l_made
  g_l_made : mg "_law_made" = some (.ref f_l_made)
  b_l_made : Binds K fd_l_made ["paths", "texts"] []
  f_l_copy : Addr
  fd_l_copy : FuncData
  F_l_copy : Fun K "_law_copy" "_law_copy" s_l_copy f_l_copy fd_l_copy
  g_l_copy : mg "_law_copy" = some (.ref f_l_copy)
  b_l_copy : Binds K fd_l_copy ["tree"] []
  f_l_rising : Addr
  fd_l_rising : FuncData
  F_l_rising : Fun K "_law_rising" "_law_rising" s_l_rising f_l_rising fd_l_rising
  g_l_rising : mg "_law_rising" = some (.ref f_l_rising)
  b_l_rising : Binds K fd_l_rising ["tree"] []
  f_l_kept : Addr
  fd_l_kept : FuncData
  F_l_kept : Fun K "_law_kept" "_law_kept" s_l_kept f_l_kept fd_l_kept
  g_l_kept : mg "_law_kept" = some (.ref f_l_kept)
  b_l_kept : Binds K fd_l_kept ["passed", "tree"] []
  f_l_spoil : Addr
  fd_l_spoil : FuncData
  F_l_spoil : Fun K "_law_spoil" "_law_spoil" s_l_spoil f_l_spoil fd_l_spoil
  g_l_spoil : mg "_law_spoil" = some (.ref f_l_spoil)
  b_l_spoil : Binds K fd_l_spoil ["tree"] []
  f_l_signs : Addr
  fd_l_signs : FuncData
  F_l_signs : Fun K "_law_signs" "_law_signs" s_l_signs f_l_signs fd_l_signs
  g_l_signs : mg "_law_signs" = some (.ref f_l_signs)
  b_l_signs : Binds K fd_l_signs ["word", "signs"] []
  f_l_is_way : Addr
  fd_l_is_way : FuncData
  F_l_is_way : Fun K "_law_is_way" "_law_is_way" s_l_is_way f_l_is_way fd_l_is_way
  g_l_is_way : mg "_law_is_way" = some (.ref f_l_is_way)
  b_l_is_way : Binds K fd_l_is_way ["path"] []
  f_l_is_text : Addr
  fd_l_is_text : FuncData
  F_l_is_text : Fun K "_law_is_text" "_law_is_text" s_l_is_text f_l_is_text fd_l_is_text
  g_l_is_text : mg "_law_is_text" = some (.ref f_l_is_text)
  b_l_is_text : Binds K fd_l_is_text ["lines"] []
  f_l_first_bad : Addr
  fd_l_first_bad : FuncData
  F_l_first_bad : Fun K "_law_first_bad" "_law_first_bad" s_l_first_bad f_l_first_bad fd_l_first_bad
  g_l_first_bad : mg "_law_first_bad" = some (.ref f_l_first_bad)
  b_l_first_bad : Binds K fd_l_first_bad ["puts"] []
  f_l_put : Addr
  fd_l_put : FuncData
  F_l_put : Fun K "_law_put" "_law_put" s_l_put f_l_put fd_l_put
  g_l_put : mg "_law_put" = some (.ref f_l_put)
  b_l_put : Binds K fd_l_put ["tree", "puts"] []
  f_l_between : Addr
  fd_l_between : FuncData
  F_l_between : Fun K "_law_between" "_law_between" s_l_between f_l_between fd_l_between
  g_l_between : mg "_law_between" = some (.ref f_l_between)
  b_l_between : Binds K fd_l_between ["old", "new"] []
  f_l_drawn : Addr
  fd_l_drawn : FuncData
  F_l_drawn : Fun K "_law_drawn" "_law_drawn" s_l_drawn f_l_drawn fd_l_drawn
  g_l_drawn : mg "_law_drawn" = some (.ref f_l_drawn)
  b_l_drawn : Binds K fd_l_drawn ["cells", "start", "step"] []
  f_l_bent : Addr
  fd_l_bent : FuncData
  F_l_bent : Fun K "_law_bent" "_law_bent" s_l_bent f_l_bent fd_l_bent
  g_l_bent : mg "_law_bent" = some (.ref f_l_bent)
  b_l_bent : Binds K fd_l_bent ["cells", "puts"] []
  f_l_applies : Addr
  fd_l_applies : FuncData
  F_l_applies : Fun K "_law_applies" "_law_applies" s_l_applies f_l_applies fd_l_applies
  g_l_applies : mg "_law_applies" = some (.ref f_l_applies)
  b_l_applies : Binds K fd_l_applies ["tree", "puts"] []
  f_l_finds : Addr
  fd_l_finds : FuncData
  F_l_finds : Fun K "_law_finds" "_law_finds" s_l_finds f_l_finds fd_l_finds
  g_l_finds : mg "_law_finds" = some (.ref f_l_finds)
  b_l_finds : Binds K fd_l_finds ["old", "new", "due"] []
  f_law : Addr
  fd_law : FuncData
  F_law : Fun K "law" "law" s_law f_law fd_law
  g_law : mg "law" = some (.ref f_law)
  b_law : Binds K fd_law ["script"] []
  C_PartError : Addr
  g_PartError : mg "PartError" = some (.ref C_PartError)
  C_BadText : Addr
  g_BadText : mg "BadText" = some (.ref C_BadText)
  fi_BadText : Addr
  fdi_BadText : FuncData
  Fi_BadText : Fun K "__init__" "BadText.__init__" (inClass (topS 2) 0) fi_BadText fdi_BadText
  bi_BadText : Binds K fdi_BadText ["self", "place"] []
  O_BadText : OexC K C_BadText
  iC_BadText : PySem.W.findIn K (.ref C_BadText) "__init__" = some (some (.ref fi_BadText))
  tI_BadText : PySem.W.typeIn K (.ref fi_BadText) = some (.type "function")
  N_BadText_place : PySem.W.findIn K (.ref C_BadText) "place" = some none
  XF_BadText : XfC K C_BadText
  IS_BadText : IsC K C_BadText
  C_BadTree : Addr
  g_BadTree : mg "BadTree" = some (.ref C_BadTree)
  C_BadPut : Addr
  g_BadPut : mg "BadPut" = some (.ref C_BadPut)
  fi_BadPut : Addr
  fdi_BadPut : FuncData
  Fi_BadPut : Fun K "__init__" "BadPut.__init__" (inClass (topS 4) 0) fi_BadPut fdi_BadPut
  bi_BadPut : Binds K fdi_BadPut ["self", "place"] []
  O_BadPut : OexC K C_BadPut
  iC_BadPut : PySem.W.findIn K (.ref C_BadPut) "__init__" = some (some (.ref fi_BadPut))
  tI_BadPut : PySem.W.typeIn K (.ref fi_BadPut) = some (.type "function")
  N_BadPut_place : PySem.W.findIn K (.ref C_BadPut) "place" = some none
  XF_BadPut : XfC K C_BadPut
  IS_BadPut : IsC K C_BadPut
  M_BadText_BadPut : PySem.W.exmOne K (.ref C_BadText) (.ref C_BadPut) = some false
  M_BadText_BadText : PySem.W.exmOne K (.ref C_BadText) (.ref C_BadText) = some true
  K_BadText_BadTree : PySem.W.kitOne K (.ref C_BadText) (.ref C_BadTree) = some false
  K_BadText_PartError : PySem.W.kitOne K (.ref C_BadText) (.ref C_PartError) = some true
  K_BadText_ValueError : PySem.W.kitOne K (.ref C_BadText) (.type "ValueError") = some true
  M_BadPut_BadPut : PySem.W.exmOne K (.ref C_BadPut) (.ref C_BadPut) = some true
  M_BadPut_BadText : PySem.W.exmOne K (.ref C_BadPut) (.ref C_BadText) = some false
  K_BadPut_BadTree : PySem.W.kitOne K (.ref C_BadPut) (.ref C_BadTree) = some false
  K_BadPut_PartError : PySem.W.kitOne K (.ref C_BadPut) (.ref C_PartError) = some true
  K_BadPut_ValueError : PySem.W.kitOne K (.ref C_BadPut) (.type "ValueError") = some true
  m_ValueError : mg "ValueError" = none
  m_abs : mg "abs" = none
  m_bool : mg "bool" = none
  m_dict : mg "dict" = none
  m_enumerate : mg "enumerate" = none
  m_int : mg "int" = none
  m_isinstance : mg "isinstance" = none
  m_len : mg "len" = none
  m_list : mg "list" = none
  m_max : mg "max" = none
  m_range : mg "range" = none
  m_set : mg "set" = none
  m_sorted : mg "sorted" = none
  m_str : mg "str" = none
  m_tuple : mg "tuple" = none
  k_SIGNS : ∃ u, mg "SIGNS" = some u ∧ RelV (.str "abcdefghijklmnopqrstuvwxyz0123456789 <=>|-") u
  k_LINE_LENGTH : ∃ u, mg "LINE_LENGTH" = some u ∧ RelV (.int 20) u
  k_TEXT_LENGTH : ∃ u, mg "TEXT_LENGTH" = some u ∧ RelV (.int 40) u
  k_WORD_SIGNS : ∃ u, mg "WORD_SIGNS" = some u ∧ RelV (.str "abcdefghijklmnopqrstuvwxyz0123456789") u
  k_WORD_LENGTH : ∃ u, mg "WORD_LENGTH" = some u ∧ RelV (.int 6) u
  k_PATH_WORDS : ∃ u, mg "PATH_WORDS" = some u ∧ RelV (.int 3) u
section
variable {P : Program} {w : World} {K : PySem.W.Frag} {mg : Str → Option Value} {base : Heap}
theorem sc_init_BadText : FnScope ["self", "place"] ["self", "place"] (defScope (inClass (topS 2) 0)) := ⟨rfl, rfl, rfl, by decide +kernel, rfl, by decide +kernel, by decide +kernel⟩
theorem ok_init_BadText (T : Txt K mg) : FnOk P w K mg base CX0 1 T.fi_BadText T.fdi_BadText ["self", "place"] (sp_oinit T.C_BadText ["place"]) := by
  refine T.Fi_BadText.ok sc_init_BadText (fun vs H Q E h => sp_oinit_len h) (fun cdv A outer s H vs Q E hr h => ?_)
  refine ⟨_, (pss_one (ps_ost (pv 0) (pv 1))), ?_⟩
  obtain ⟨a, ws, rfl, hl, ha, q⟩ := h
  match ws, hl with
  | [v1], _ =>
  refine ⟨_, rfl, _, rfl, a, T.C_BadText, rfl, T.O_BadText, T.N_BadText_place, .inl ⟨ha, fun dx n ne => ?_⟩⟩
  have z := q dx n ne
  first | exact z | (rw [upd_over ne]; exact z) | (rw [upd_over ne, upd_over ne]; exact z)
theorem sc_init_BadPut : FnScope ["self", "place"] ["self", "place"] (defScope (inClass (topS 4) 0)) := ⟨rfl, rfl, rfl, by decide +kernel, rfl, by decide +kernel, by decide +kernel⟩
theorem ok_init_BadPut (T : Txt K mg) : FnOk P w K mg base CX0 1 T.fi_BadPut T.fdi_BadPut ["self", "place"] (sp_oinit T.C_BadPut ["place"]) := by
  refine T.Fi_BadPut.ok sc_init_BadPut (fun vs H Q E h => sp_oinit_len h) (fun cdv A outer s H vs Q E hr h => ?_)
  refine ⟨_, (pss_one (ps_ost (pv 0) (pv 1))), ?_⟩
  obtain ⟨a, ws, rfl, hl, ha, q⟩ := h
  match ws, hl with
  | [v1], _ =>
  refine ⟨_, rfl, _, rfl, a, T.C_BadPut, rfl, T.O_BadPut, T.N_BadPut_place, .inl ⟨ha, fun dx n ne => ?_⟩⟩
  have z := q dx n ne
  first | exact z | (rw [upd_over ne]; exact z) | (rw [upd_over ne, upd_over ne]; exact z)
theorem ok_init_BadPut_h (T : Txt K mg) : L2H.FnH P w K mg base CX0 1 T.fi_BadPut T.fdi_BadPut ["self", "place"] (sp_oinit T.C_BadPut ["place"]) := by
  refine Fun.okH T.Fi_BadPut sc_init_BadPut (fun vs H Q E h => sp_oinit_len h) (fun cdv A outer s H vs Q E p hot hr h => ?_)
  refine ⟨_, (pss_one (ps_ost (pv 0) (pv 1))), ?_⟩
  obtain ⟨a, ws, rfl, hl, ha, q⟩ := h
  match ws, hl with
  | [v1], _ =>
  refine ⟨_, rfl, _, rfl, a, T.C_BadPut, rfl, T.O_BadPut, T.N_BadPut_place, .inl ⟨ha, fun dx n ne => ?_⟩⟩
  have z := q dx n ne
  first | exact z | (rw [upd_over ne]; exact z) | (rw [upd_over ne, upd_over ne]; exact z)
end
local macro_rules | `(tactic| walk_at "m") => `(tactic| ((repeat (first | exact List.Mem.head _ | apply List.Mem.tail)); done))
local macro_rules | `(tactic| walk_at "h") => `(tactic| first | assumption | exact Has.gF (by assumption) (by assumption) | exact Has.get (by assumption) (by walk_at "m"))
local macro_rules | `(tactic| walk_at "c") => `(tactic| ((repeat (first | exact Chg.hd | apply Chg.tl)); done))
local macro_rules | `(tactic| walk_at "is") => `(tactic| first
  | ((with_reducible refine' is2_non ?gh ?_); (case gh => walk_at "h"))
  | (with_reducible refine is_int_list ?_)
  | (with_reducible refine is_int_tuple ?_)
  | (with_reducible refine is_int_dict ?_)
  | (with_reducible refine is_int_int ?_)
  | (with_reducible refine is_int_bool ?_)
  | (with_reducible refine is_int_str ?_)
  | ((with_reducible refine' is2_int ?gh ?_); (case gh => walk_at "h"))
  | (with_reducible refine is_str_list ?_)
  | (with_reducible refine is_str_tuple ?_)
  | (with_reducible refine is_str_dict ?_)
  | (with_reducible refine is_str_int ?_)
  | (with_reducible refine is_str_bool ?_)
  | (with_reducible refine is_str_str ?_)
  | ((with_reducible refine' is2_str ?gh ?_); (case gh => walk_at "h"))
  | (with_reducible refine is_bool_list ?_)
  | (with_reducible refine is_bool_tuple ?_)
  | (with_reducible refine is_bool_dict ?_)
  | (with_reducible refine is_bool_int ?_)
  | (with_reducible refine is_bool_bool ?_)
  | (with_reducible refine is_bool_str ?_)
  | ((with_reducible refine' is2_bool ?gh ?_); (case gh => walk_at "h"))
  | ((with_reducible refine' is_list_list ?gh ?_); (case gh => walk_at "h"))
  | ((with_reducible refine' is_list_tuple ?gh ?_); (case gh => walk_at "h"))
  | ((with_reducible refine' is_list_dict ?gh ?_); (case gh => walk_at "h"))
  | ((with_reducible refine' is_list_int ?gh ?_); (case gh => walk_at "h"))
  | ((with_reducible refine' is_list_bool ?gh ?_); (case gh => walk_at "h"))
  | ((with_reducible refine' is_list_str ?gh ?_); (case gh => walk_at "h"))
  | ((with_reducible refine' is2_list ?ga ?gb ?_); (case ga => walk_at "h"); (case gb => walk_at "h"))
  | ((with_reducible refine' is_tuple_list ?gh ?_); (case gh => walk_at "h"))
  | ((with_reducible refine' is_tuple_tuple ?gh ?_); (case gh => walk_at "h"))
  | ((with_reducible refine' is_tuple_dict ?gh ?_); (case gh => walk_at "h"))
  | ((with_reducible refine' is_tuple_int ?gh ?_); (case gh => walk_at "h"))
  | ((with_reducible refine' is_tuple_bool ?gh ?_); (case gh => walk_at "h"))
  | ((with_reducible refine' is_tuple_str ?gh ?_); (case gh => walk_at "h"))
  | ((with_reducible refine' is2_tuple ?ga ?gb ?_); (case ga => walk_at "h"); (case gb => walk_at "h"))
  | ((with_reducible refine' is_dict_list ?gh ?_); (case gh => walk_at "h"))
  | ((with_reducible refine' is_dict_tuple ?gh ?_); (case gh => walk_at "h"))
  | ((with_reducible refine' is_dict_dict ?gh ?_); (case gh => walk_at "h"))
  | ((with_reducible refine' is_dict_int ?gh ?_); (case gh => walk_at "h"))
  | ((with_reducible refine' is_dict_bool ?gh ?_); (case gh => walk_at "h"))
  | ((with_reducible refine' is_dict_str ?gh ?_); (case gh => walk_at "h"))
  | ((with_reducible refine' is2_dict ?ga ?gb ?_); (case ga => walk_at "h"); (case gb => walk_at "h")))
local macro_rules | `(tactic| walk_at "g") => `(tactic| first
  | (with_reducible refine g_seq ?_)
  | (with_reducible refine g_asg ?_)
  | ((with_reducible refine g_name ?_); dsimp only [List.set, wipe, List.map])
  | ((with_reducible refine' g_var ?gv ?_); (case gv => exact rfl))
  | (with_reducible refine g_c ?_)
  | (with_reducible refine g_op ?_)
  | (with_reducible refine g_cons ?_)
  | (with_reducible refine g_nil ?_)
  | (with_reducible refine g_cb ?_)
  | (with_reducible refine g_call ?_)
  | (with_reducible refine g_tup ?_)
  | (with_reducible refine g_lst ?_)
  | (with_reducible refine g_bm ?_)
  | (with_reducible refine g_bm0 ?_)
  | ((with_reducible refine' g_kbm ?gh ?_); (case gh => walk_at "h"))
  | (with_reducible refine g_drop ?_)
  | (with_reducible refine g_ret ?_)
  | (with_reducible refine g_retN ?_)
  | (with_reducible refine g_next ?_)
  | (with_reducible refine g_brk ?_)
  | (with_reducible refine g_cont ?_)
  | (with_reducible refine g_if ?_)
  | ((with_reducible refine' g_aug ?gv ?_); (case gv => exact rfl))
  | (with_reducible refine g_ipI ?_)
  | (with_reducible refine g_test ?_)
  | (with_reducible refine g_tB ?_)
  | (with_reducible refine g_kB ?_)
  | (with_reducible refine g_not ?_)
  | (with_reducible refine g_and ?_)
  | (with_reducible refine g_or ?_)
  | (with_reducible refine g_andV ?_)
  | (with_reducible refine g_orV ?_)
  | (with_reducible refine g_notV ?_)
  | (with_reducible refine g_ifE ?_)
  | (with_reducible refine g_addI ?_)
  | (with_reducible refine g_rI0 ?_)
  | (with_reducible refine g_eqI ?_)
  | (with_reducible refine g_eqS ?_)
  | (with_reducible refine g_neI ?_)
  | (with_reducible refine g_neS ?_)
  | (with_reducible refine g_isN ?_)
  | (with_reducible refine g_notN ?_)
  | (with_reducible refine g_int ?_)
  | (with_reducible refine g_max2 ?_)
  | (with_reducible refine g_min2 ?_)
  | ((with_reducible refine' g_lenL ?gh ?_); (case gh => walk_at "h"))
  | (with_reducible refine g_sub ?_)
  | (with_reducible refine g_gcons ?_)
  | (with_reducible refine g_gnil ?_)
  | (with_reducible refine g_un ?_)
  | (with_reducible refine g_rU ?_)
  | (with_reducible refine g_forL ?_)
  | (with_reducible refine g_forS ?_)
  | (with_reducible refine g_forR1 ?_)
  | (with_reducible refine g_forR2 ?_)
  | (with_reducible refine g_forR3 ?_)
  | (with_reducible refine g_lcL ?_)
  | (with_reducible refine g_lcR1 ?_)
  | (with_reducible refine g_lcR2 ?_)
  | (with_reducible refine g_slice ?_)
  | (with_reducible refine g_part ?_)
  | (with_reducible refine g_kOI ?_)
  | (with_reducible refine g_nopart ?_)
  | (with_reducible refine g_yes ?_)
  | ((with_reducible refine' g_wipe ?gv ?_); (case gv => exact rfl))
  | (with_reducible refine iteT ?_)
  | (with_reducible refine iteF ?_)
  | (with_reducible refine i_nf ?_)
  | (with_reducible refine i_nt ?_)
  | ((with_reducible refine' g_gtup ?gh ?gl ?_); (case gh => walk_at "h"); (case gl => exact rfl))
  | ((with_reducible refine' g_notinI ?gh ?_); (case gh => walk_at "h"))
  | ((with_reducible refine' g_inI ?gh ?_); (case gh => walk_at "h"))
  | ((with_reducible refine' g_kget2 ?gh ?_); (case gh => walk_at "h"))
  | ((with_reducible refine' g_kgotI ?gh ?_); (case gh => walk_at "h"))
  | (with_reducible refine g_tRev ?_)
  | (with_reducible refine g_neB ?_)
  | (with_reducible refine g_eqB ?_)
  | ((with_reducible refine' g_lenT ?gh ?_); (case gh => walk_at "h"))
  | (with_reducible refine g_star ?_)
  | ((with_reducible refine' g_kstarL ?gh ?_); (case gh => walk_at "h"))
  | ((with_reducible refine' g_kstarT ?gh ?_); (case gh => walk_at "h"))
  | (with_reducible refine g_tru ?_)
  | ((with_reducible refine' g_truL ?gh ?_); (case gh => walk_at "h"))
  | (with_reducible refine g_get2 ?_)
  | (with_reducible refine g_try ?_)
  | (with_reducible refine g_fld ?_)
  | (with_reducible refine g_sfld ?_)
  | (with_reducible refine g_meth ?_)
  | (with_reducible refine g_make ?_)
  | (with_reducible refine g_del ?_)
  | (with_reducible refine g_callS ?_)
  | (with_reducible refine g_raise ?_)
  | (with_reducible refine g_xf ?_)
  | (with_reducible refine g_m0 ?_)
  | (with_reducible refine g_km0 ?_)
  | walk_at "is")
local macro_rules | `(tactic| walk_at "gg") => `(tactic| repeat walk_at "g")
local macro_rules | `(tactic| walk_at "sz") => `(tactic| (refine sz ?_; simp only [List.length_cons, List.length_nil, List.length_map, List.length_append, List.length_replicate]; omega))
local macro_rules | `(tactic| walk_at "sub") => `(tactic| ((repeat (first | exact List.Sublist.slnil | with_reducible apply List.Sublist.cons_cons | with_reducible apply List.Sublist.cons)); done))

/-! ### lists of texts -/
theorem map_take1 {α β : Type} (f : α → β) {l : List α} {i : Nat} {x : α} (h : l[i]? = some x) : (l.take (i + 1)).map f = (l.take i).map f ++ [f x] := by
  rw [List.take_add_one, h, List.map_append]
  rfl
theorem str_at {xs : List Str} {i : Nat} {x : V} (h : (xs.map V.str)[i]? = some x) : ∃ z, xs[i]? = some z ∧ x = .str z := by
  rw [List.getElem?_map] at h
  obtain ⟨z, hz, rfl⟩ := Option.map_eq_some_iff.mp h
  exact ⟨z, hz, rfl⟩

/-! ### the draws: a list of pairs -/
def cellD (p : Int × Int) : PyData := .list [.int p.1, .int p.2]
theorem cell_inv {F : Hp} {v : V} {p : Int × Int} (h : Dq F v (cellD p)) : ∃ r, v = .ref r ∧ F r = some (.lst [.int p.1, .int p.2]) := by
  cases h with
  | lst hT hs =>
    cases hs with
    | cons h1 hs =>
      cases hs with
      | cons h2 hs =>
        cases hs
        cases h1
        cases h2
        exact ⟨_, rfl, hT⟩
theorem cells_sh (rows : List (Int × Int)) : Sh 2 (.list (rows.map cellD)) := Sh.list fun d hd => by
  obtain ⟨p, _, rfl⟩ := List.mem_map.mp hd
  exact Sh.list fun d hd => by
    rcases List.mem_cons.mp hd with rfl | hd
    · exact Sh.int _
    · rw [List.mem_singleton.mp hd]
      exact Sh.int _
/-- the draws stand at c: what is left, each number with its count -/
structure Cells (F : Hp) (c : Addr) (H : Hp) (vs : List V) : Prop where
  at_ : H c = some (.lst vs)
  dq : ∃ rows : List (Int × Int), DqAll F vs (rows.map cellD) ∧ rows.length ≤ 100
section
variable {P : Program} {w : World} {K : PySem.W.Frag} {mg : Str → Option Value} {base : Heap}
def sp_l_feed (K : PySem.W.Frag) : Sp := fun vs H Q _ => ∃ (a : Addr) (ns : List Int), vs = [.ref a] ∧ SqL K H a (ns.map V.int) ∧ ns.length ≤ 63 ∧
  ∀ p H' F' (vs : List V) (rows : List (Int × Int)), H p = none → Same H F' → Has F' [(p, .lst vs)] H' → DqAll F' vs (rows.map cellD) → rows.length ≤ 100 → Q (.ref p) H'
theorem sp_l_feed_len {vs H Q E} (h : sp_l_feed K vs H Q E) : vs.length = 1 := by
  obtain ⟨_, _, rfl, _⟩ := h
  rfl
theorem ok_l_feed (T : Txt K mg) : FnOk P w K mg base CX0 1 T.f_l_feed T.fd_l_feed ["script"] (sp_l_feed K) := by
  refine T.F_l_feed.ok sc_l_feed (fun vs H Q E h => sp_l_feed_len h) (fun cdv A outer s H vs Q E hr h => ?_)
  refine ⟨_, (pss_one (ps_ret (pe_lc (own := [("cell", 1)]) (g := gName 1) (tt := tYes) rfl sc_l_feed.nd (k_il K (pi_list (pe_slice (sl_K K) (pv 0) po_none (po_some pe_int)))) (blkOk_by (N := n_l_feed) (sc := defScope s_l_feed) (by decide +kernel)) (fun _ _ _ _ _ => (pg_name (i := 1) sc_l_feed.nd rfl (.inl rfl))) (fun _ _ _ _ _ => pts_nil) (fun _ _ _ _ _ => (pe_lst (pa_cons (pe_callB cr_abs1 (by rfl) T.m_abs (by decide +kernel) (pa_cons (pe_callTy cr_int1 (by rfl) T.m_int (by decide +kernel) (pa_cons (pv 1) pa_nil)) pa_nil)) (pa_cons pe_int pa_nil))))))), ?_⟩
  obtain ⟨a, ns, rfl, ha, hn, q⟩ := h
  have hH := Has.start H
  refine g_start (σ' := [some (.ref a), none]) rfl ?_
  walk_at "gg"
  refine g_slS ha hH (fun p2 H2 n2 hH2 => ?_)
  obtain ⟨ms, em, lm⟩ := cutV_ints ns none (some 63)
  rw [em] at hH2
  refine k_lcL (by walk_at "h") hH2 (fun i acc F' O' => ∃ rows : List (Int × Int), DqAll F' acc (rows.map cellD) ∧ rows.length = i ∧ Same H F' ∧ O' = [(p2, .lst (ms.map V.int))]) ⟨[], .nil, rfl, Same.refl _, rfl⟩ ?_ ?_ ?_
  · rintro i acc F' O' H3 ⟨rows, dq, rfl, sF, rfl⟩ hh
    walk_at "h"
  · rintro i x acc F' O' D H3 hx ⟨rows, dq, rfl, sF, rfl⟩ hh
    rw [List.getElem?_map] at hx
    obtain ⟨z, hz, rfl⟩ := Option.map_eq_some_iff.mp hx
    have hl : rows.length < ms.length := (List.getElem?_eq_some_iff.mp hz).1
    have hal : acc.length = rows.length := by rw [dq.len, List.length_map]
    walk_at "gg"
    refine g_abs (fun j hj => ?_)
    walk_at "gg"
    refine g_klstF (by walk_at "sz") hh (fun r H4 F4 n4 s4 f4 h4 => ?_)
    refine k_turn h4 (by omega) ⟨rows ++ [(j, 0)], ?_, by rw [List.length_append]; rfl, sF.trans s4, rfl⟩
    rw [List.map_append]
    exact (dq.up s4 _ _).snoc (.lst f4 (.cons (.int _) (.cons (.int _) .nil)))
  · rintro acc F' O' D H3 ⟨rows, dq, hk, sF, rfl⟩ hh
    rw [List.length_map] at hk
    exact q D H3 F' acc rows (sF.free hh.free) sF (hh.sub (.cons_cons _ (.cons _ (List.Sublist.refl _)))) dq (by omega)
theorem Grow.refl (F H : Hp) : Grow F H F := ⟨Same.refl F, fun _ _ => rfl⟩
theorem Grow.new {F H : Hp} {p : Addr} {o : HO} (n : H p = none) (f : F p = none) : Grow F H (upd F p o) := ⟨same_upd f, fun b h => upd_ne (fun z => h (by rw [z]; exact n))⟩
theorem Grow.new2 {F H F1 : Hp} {p : Addr} {o : HO} (g : Grow F H F1) (n : H p = none) (f : F1 p = none) : Grow F H (upd F1 p o) := ⟨g.1.trans (same_upd f), fun b h => by rw [upd_ne (fun z => h (by rw [z]; exact n))]; exact g.2 b h⟩
def sp_l_next (K : PySem.W.Frag) : Sp := fun vs H Q _ => ∃ (c : Addr) (m : Int) (F : Hp) (ws : List V) (rows : List (Int × Int)), vs = [.ref c, .int m] ∧ Has F [(c, .lst ws)] H ∧ DqAll F ws (rows.map cellD) ∧ rows.length ≤ 100 ∧ 0 < m ∧ m < 1000000 ∧
  ∀ H' F' (ws' : List V) (rows' : List (Int × Int)) (r : Int), But c H H' → Grow F H F' → Has F' [(c, .lst ws')] H' → DqAll F' ws' (rows'.map cellD) → rows'.length ≤ 100 → 0 ≤ r → r < m → Q (.int r) H'
theorem sp_l_next_len {vs H Q E} (h : sp_l_next K vs H Q E) : vs.length = 2 := by
  obtain ⟨_, _, _, _, _, rfl, _⟩ := h
  rfl
theorem same_upd2 {F G : Hp} {p : Addr} {o : HO} (s : Same F G) : Same (upd F p o) (upd G p o) := fun b u q => by
  by_cases e : b = p
  · subst e
    rw [upd_same] at q ⊢
    exact q
  · rw [upd_ne e] at q ⊢
    exact s b u q
theorem ok_l_next (T : Txt K mg) : FnOk P w K mg base CX0 1 T.f_l_next T.fd_l_next ["cells", "many"] (sp_l_next K) := by
  refine T.F_l_next.ok sc_l_next (fun vs H Q E h => sp_l_next_len h) (fun cdv A outer s H vs Q E hr h => ?_)
  refine ⟨_, (pss_cons (ps_if (pt_cmpR (op_eqK K hr.units) (pv 0) (pe_lst pa_nil) (nomark _)) (pss_one (ps_ret pe_int)) pss_nil)
      (pss_cons (ps_set (i := 2) sc_l_next.nd rfl (.inl rfl) (pe_op op_mod (pe_callTy cr_int1 (by rfl) T.m_int (by decide +kernel) (pa_cons (pe_ix (ix_K K (hu_of hr)) (pe_ix (ix_K K (hu_of hr)) (pv 0) pe_int (fun _ _ => rfl)) pe_int (fun _ _ => rfl)) pa_nil)) (pv 1)))
      (pss_cons (ps_asg (pe_lst (pa_cons (pe_op op_fdiv (pe_ix (ix_K K (hu_of hr)) (pe_ix (ix_K K (hu_of hr)) (pv 0) pe_int (fun _ _ => rfl)) pe_int (fun _ _ => rfl)) (pv 1)) (pa_cons (pe_op (op_addK K) (pe_ix (ix_K K (hu_of hr)) (pe_ix (ix_K K (hu_of hr)) (pv 0) pe_int (fun _ _ => rfl)) pe_int (fun _ _ => rfl)) pe_int) pa_nil))) (pg_sub (pv 0) pe_int (set_any (hu_of hr))))
      (pss_cons (ps_if (PW.pt (pw_or (pt_cmpR (op_eqK K hr.units) (pe_ix (ix_K K (hu_of hr)) (pe_ix (ix_K K (hu_of hr)) (pv 0) pe_int (fun _ _ => rfl)) pe_int (fun _ _ => rfl)) pe_int (nomark _)) (pw_or1 (pt_cmpR (op_eqK K hr.units) (pe_ix (ix_K K (hu_of hr)) (pe_ix (ix_K K (hu_of hr)) (pv 0) pe_int (fun _ _ => rfl)) pe_int (fun _ _ => rfl)) pe_int (nomark _))))) (pss_one (ps_expr (k_bm K (pe_bm PySem.F.plainAttrs_list PySem.F.slot_list_pop PySem.F.type_list_pop mt_popAt (pv 0) (pa_cons pe_int pa_nil))))) pss_nil)
      (pss_one (ps_ret (pv 2))))))), ?_⟩
  obtain ⟨c, m, F, ws, rows, rfl, hH, dq0, hl, hm0, hm, q⟩ := h
  have sFG : Same F (rm H c) := same_rm hH.same hH.free
  have dq := dq0.up sFG _ _
  have hR := Has.arg (hH.get (List.Mem.head _))
  generalize hG : rm H c = G at *
  refine g_start (σ' := [some (.ref c), some (.int m), none]) rfl ?_
  walk_at "gg"
  refine g_klst (by walk_at "sz") hR (fun t H1 n1 hR1 => ?_)
  have hR1' := hR1.drop
  have hc1 := hR1'.get (List.Mem.head _)
  refine g_eqD (.lst hc1 (dq.up hR1'.same _ _)) (.lst (hR1.get (List.Mem.head _)) .nil) ((cells_sh rows).ok (by decide)) (by decide +kernel) ?_
  walk_at "gg"
  cases rows with
  | nil =>
    cases dq
    refine i_b (fun _ => ?_) (fun z => ?_)
    · walk_at "gg"
      exact q H1 F [] [] 0 (But.of (by rw [hG]; exact hR1.same)) (Grow.refl _ _) (hR1'.mono sFG) .nil (by simp) (by omega) hm0
    · rw [List.map_nil, PyData.eqv, PyData.eqvAll] at z
      cases z
  | cons row rows =>
    cases dq with
    | @cons v vs _ _ dv dvs =>
    cases dq0 with
    | cons dv0 dvs0 =>
    obtain ⟨r, rfl, hr⟩ := cell_inv dv
    refine i_b (fun z => ?_) (fun _ => ?_)
    · rw [List.map_cons, PyData.eqv, PyData.eqvAll] at z
      cases z
    have hr1 := hR1'.same _ _ hr
    walk_at "gg"
    refine g_ixL (v := .ref r) hc1 (atI_nat (j := 0) rfl) ?_
    walk_at "gg"
    refine g_ixL (v := .int row.1) hr1 (atI_nat (j := 0) rfl) ?_
    walk_at "gg"
    refine g_rI hm0 ?_
    walk_at "gg"
    refine g_ixL (v := .ref r) hc1 (atI_nat (j := 0) rfl) ?_
    walk_at "gg"
    refine g_ixL (v := .int row.1) hr1 (atI_nat (j := 0) rfl) ?_
    walk_at "gg"
    refine g_rI ⟨by omega, by omega⟩ ?_
    walk_at "gg"
    refine g_ixL (v := .ref r) hc1 (atI_nat (j := 0) rfl) ?_
    walk_at "gg"
    refine g_ixL (v := .int row.2) hr1 (atI_nat (j := 1) rfl) ?_
    walk_at "gg"
    refine g_klst (by walk_at "sz") hR1' (fun p H2 n2 hR2 => ?_)
    have fp : F p = none := sFG.free hR2.free
    have np : H p = none := by
      have nd : p ≠ c := by
        have := hR2.nd
        simp only [List.map_cons, List.map_nil, List.nodup_cons, List.mem_singleton] at this
        exact this.1
      have e := hR2.free
      rw [← hG, rm_ne nd] at e
      exact e
    have hR3 := hR2.frz
    have sG3 := hR2.grow
    have dv2 : Dq (upd F p (.lst [.int (row.1 / m), .int (row.2 + 1)])) (.ref p) (cellD (row.1 / m, row.2 + 1)) := .lst upd_same (.cons (.int _) (.cons (.int _) .nil))
    have dvs2 := dvs0.up (same_upd (o := .lst [.int (row.1 / m), .int (row.2 + 1)]) fp) _ _
    have gF : Grow F H (upd F p (.lst [.int (row.1 / m), .int (row.2 + 1)])) := Grow.new np fp
    have hp3 : upd G p (.lst [.int (row.1 / m), .int (row.2 + 1)]) p = some (.lst [.int (row.1 / m), .int (row.2 + 1)]) := upd_same
    walk_at "gg"
    refine g_stL (j := 0) hR3 (by walk_at "c") (ixN_nat (by decide) (by rw [List.length_cons]; omega)) (fun H4 hR4 => ?_)
    have fin : ∀ (H5 : Hp) (ws' : List V) (rows' : List (Int × Int)), Has (upd G p (.lst [.int (row.1 / m), .int (row.2 + 1)])) [(c, .lst ws')] H5 → DqAll (upd F p (.lst [.int (row.1 / m), .int (row.2 + 1)])) ws' (rows'.map cellD) → rows'.length ≤ 100 → Q (.int (row.1 % m)) H5 := fun H5 ws' rows' h5 d5 l5 =>
      q H5 _ ws' rows' _ (But.of (by rw [hG]; exact sG3.trans h5.same)) gF (h5.mono (same_upd2 sFG)) d5 l5 (Int.emod_nonneg _ (by omega)) (Int.emod_lt_of_pos _ hm0)
    have hc4 := hR4.get (List.Mem.head _)
    have hp4 := hR4.same _ _ hp3
    walk_at "g"
    walk_at "g"
    refine g_fact (fun _ => True) (fun R r => ?_) (fun b _ => ?_)
    · walk_at "gg"
      refine g_ixL (v := .ref p) hc4 (atI_nat (j := 0) rfl) ?_
      walk_at "gg"
      refine g_ixL (v := .int (row.1 / m)) hp4 (atI_nat (j := 0) rfl) ?_
      walk_at "gg"
      refine i_d (fun _ => r _ trivial) (fun _ => ?_)
      walk_at "gg"
      refine g_ixL (v := .ref p) hc4 (atI_nat (j := 0) rfl) ?_
      walk_at "gg"
      refine g_ixL (v := .int (row.2 + 1)) hp4 (atI_nat (j := 1) rfl) ?_
      walk_at "gg"
      exact r _ trivial
    refine i_b (fun _ => ?_) (fun _ => ?_)
    · walk_at "gg"
      refine g_popAt (k := 0) (y := .ref p) hR4 (by walk_at "c") (by omega) (by omega) (ixN_seq (ixN_nat (k := 0) (by decide) (by rw [List.length_set, List.length_cons]; omega))).1 rfl (fun H5 h5 => ?_)
      walk_at "gg"
      exact fin H5 vs rows h5 dvs2 (by rw [List.length_cons] at hl; omega)
    · walk_at "gg"
      exact fin H4 (.ref p :: vs) ((row.1 / m, row.2 + 1) :: rows) hR4 (.cons dv2 dvs2) hl
theorem Has.drawn {F F' H H' : Hp} {O : Own} {c : Addr} {ws ws' : List V} (h : Has F ((c, .lst ws) :: O) H) (hb : But c H H') (g : Grow F H F') (s : Has F' [(c, .lst ws')] H') : Has F' ((c, .lst ws') :: O) H' :=
  h.grown .hd hb g s.same (s.get (List.Mem.head _))
end

end K07

namespace K07
open PySem PySem.Spec PyProof.Rows L2 Qk
local macro_rules | `(tactic| walk_at "m") => `(tactic| ((repeat (first | exact List.Mem.head _ | apply List.Mem.tail)); done))
local macro_rules | `(tactic| walk_at "h") => `(tactic| first | assumption | exact Has.gF (by assumption) (by assumption) | exact Has.get (by assumption) (by walk_at "m"))
local macro_rules | `(tactic| walk_at "c") => `(tactic| ((repeat (first | exact Chg.hd | apply Chg.tl)); done))
local macro_rules | `(tactic| walk_at "is") => `(tactic| first
  | ((with_reducible refine' is2_non ?gh ?_); (case gh => walk_at "h"))
  | (with_reducible refine is_int_list ?_)
  | (with_reducible refine is_int_tuple ?_)
  | (with_reducible refine is_int_dict ?_)
  | (with_reducible refine is_int_int ?_)
  | (with_reducible refine is_int_bool ?_)
  | (with_reducible refine is_int_str ?_)
  | ((with_reducible refine' is2_int ?gh ?_); (case gh => walk_at "h"))
  | (with_reducible refine is_str_list ?_)
  | (with_reducible refine is_str_tuple ?_)
  | (with_reducible refine is_str_dict ?_)
  | (with_reducible refine is_str_int ?_)
  | (with_reducible refine is_str_bool ?_)
  | (with_reducible refine is_str_str ?_)
  | ((with_reducible refine' is2_str ?gh ?_); (case gh => walk_at "h"))
  | (with_reducible refine is_bool_list ?_)
  | (with_reducible refine is_bool_tuple ?_)
  | (with_reducible refine is_bool_dict ?_)
  | (with_reducible refine is_bool_int ?_)
  | (with_reducible refine is_bool_bool ?_)
  | (with_reducible refine is_bool_str ?_)
  | ((with_reducible refine' is2_bool ?gh ?_); (case gh => walk_at "h"))
  | ((with_reducible refine' is_list_list ?gh ?_); (case gh => walk_at "h"))
  | ((with_reducible refine' is_list_tuple ?gh ?_); (case gh => walk_at "h"))
  | ((with_reducible refine' is_list_dict ?gh ?_); (case gh => walk_at "h"))
  | ((with_reducible refine' is_list_int ?gh ?_); (case gh => walk_at "h"))
  | ((with_reducible refine' is_list_bool ?gh ?_); (case gh => walk_at "h"))
  | ((with_reducible refine' is_list_str ?gh ?_); (case gh => walk_at "h"))
  | ((with_reducible refine' is2_list ?ga ?gb ?_); (case ga => walk_at "h"); (case gb => walk_at "h"))
  | ((with_reducible refine' is_tuple_list ?gh ?_); (case gh => walk_at "h"))
  | ((with_reducible refine' is_tuple_tuple ?gh ?_); (case gh => walk_at "h"))
  | ((with_reducible refine' is_tuple_dict ?gh ?_); (case gh => walk_at "h"))
  | ((with_reducible refine' is_tuple_int ?gh ?_); (case gh => walk_at "h"))
  | ((with_reducible refine' is_tuple_bool ?gh ?_); (case gh => walk_at "h"))
  | ((with_reducible refine' is_tuple_str ?gh ?_); (case gh => walk_at "h"))
  | ((with_reducible refine' is2_tuple ?ga ?gb ?_); (case ga => walk_at "h"); (case gb => walk_at "h"))
  | ((with_reducible refine' is_dict_list ?gh ?_); (case gh => walk_at "h"))
  | ((with_reducible refine' is_dict_tuple ?gh ?_); (case gh => walk_at "h"))
  | ((with_reducible refine' is_dict_dict ?gh ?_); (case gh => walk_at "h"))
  | ((with_reducible refine' is_dict_int ?gh ?_); (case gh => walk_at "h"))
  | ((with_reducible refine' is_dict_bool ?gh ?_); (case gh => walk_at "h"))
  | ((with_reducible refine' is_dict_str ?gh ?_); (case gh => walk_at "h"))
  | ((with_reducible refine' is2_dict ?ga ?gb ?_); (case ga => walk_at "h"); (case gb => walk_at "h")))
local macro_rules | `(tactic| walk_at "g") => `(tactic| first
  | (with_reducible refine g_seq ?_)
  | (with_reducible refine g_asg ?_)
  | ((with_reducible refine g_name ?_); dsimp only [List.set, wipe, List.map])
  | ((with_reducible refine' g_var ?gv ?_); (case gv => exact rfl))
  | (with_reducible refine g_c ?_)
  | (with_reducible refine g_op ?_)
  | (with_reducible refine g_cons ?_)
  | (with_reducible refine g_nil ?_)
  | (with_reducible refine g_cb ?_)
  | (with_reducible refine g_call ?_)
  | (with_reducible refine g_tup ?_)
  | (with_reducible refine g_lst ?_)
  | (with_reducible refine g_bm ?_)
  | (with_reducible refine g_bm0 ?_)
  | ((with_reducible refine' g_kbm ?gh ?_); (case gh => walk_at "h"))
  | (with_reducible refine g_drop ?_)
  | (with_reducible refine g_ret ?_)
  | (with_reducible refine g_retN ?_)
  | (with_reducible refine g_next ?_)
  | (with_reducible refine g_brk ?_)
  | (with_reducible refine g_cont ?_)
  | (with_reducible refine g_if ?_)
  | ((with_reducible refine' g_aug ?gv ?_); (case gv => exact rfl))
  | (with_reducible refine g_ipI ?_)
  | (with_reducible refine g_test ?_)
  | (with_reducible refine g_tB ?_)
  | (with_reducible refine g_kB ?_)
  | (with_reducible refine g_not ?_)
  | (with_reducible refine g_and ?_)
  | (with_reducible refine g_or ?_)
  | (with_reducible refine g_andV ?_)
  | (with_reducible refine g_orV ?_)
  | (with_reducible refine g_notV ?_)
  | (with_reducible refine g_ifE ?_)
  | (with_reducible refine g_addI ?_)
  | (with_reducible refine g_rI0 ?_)
  | (with_reducible refine g_eqI ?_)
  | (with_reducible refine g_eqS ?_)
  | (with_reducible refine g_neI ?_)
  | (with_reducible refine g_neS ?_)
  | (with_reducible refine g_isN ?_)
  | (with_reducible refine g_notN ?_)
  | (with_reducible refine g_int ?_)
  | (with_reducible refine g_max2 ?_)
  | (with_reducible refine g_min2 ?_)
  | ((with_reducible refine' g_lenL ?gh ?_); (case gh => walk_at "h"))
  | (with_reducible refine g_sub ?_)
  | (with_reducible refine g_gcons ?_)
  | (with_reducible refine g_gnil ?_)
  | (with_reducible refine g_un ?_)
  | (with_reducible refine g_rU ?_)
  | (with_reducible refine g_forL ?_)
  | (with_reducible refine g_forS ?_)
  | (with_reducible refine g_forR1 ?_)
  | (with_reducible refine g_forR2 ?_)
  | (with_reducible refine g_forR3 ?_)
  | (with_reducible refine g_lcL ?_)
  | (with_reducible refine g_lcR1 ?_)
  | (with_reducible refine g_lcR2 ?_)
  | (with_reducible refine g_slice ?_)
  | (with_reducible refine g_part ?_)
  | (with_reducible refine g_kOI ?_)
  | (with_reducible refine g_nopart ?_)
  | (with_reducible refine g_yes ?_)
  | ((with_reducible refine' g_wipe ?gv ?_); (case gv => exact rfl))
  | (with_reducible refine iteT ?_)
  | (with_reducible refine iteF ?_)
  | (with_reducible refine i_nf ?_)
  | (with_reducible refine i_nt ?_)
  | ((with_reducible refine' g_gtup ?gh ?gl ?_); (case gh => walk_at "h"); (case gl => exact rfl))
  | ((with_reducible refine' g_notinI ?gh ?_); (case gh => walk_at "h"))
  | ((with_reducible refine' g_inI ?gh ?_); (case gh => walk_at "h"))
  | ((with_reducible refine' g_kget2 ?gh ?_); (case gh => walk_at "h"))
  | ((with_reducible refine' g_kgotI ?gh ?_); (case gh => walk_at "h"))
  | (with_reducible refine g_tRev ?_)
  | (with_reducible refine g_neB ?_)
  | (with_reducible refine g_eqB ?_)
  | ((with_reducible refine' g_lenT ?gh ?_); (case gh => walk_at "h"))
  | (with_reducible refine g_star ?_)
  | ((with_reducible refine' g_kstarL ?gh ?_); (case gh => walk_at "h"))
  | ((with_reducible refine' g_kstarT ?gh ?_); (case gh => walk_at "h"))
  | (with_reducible refine g_tru ?_)
  | ((with_reducible refine' g_truL ?gh ?_); (case gh => walk_at "h"))
  | (with_reducible refine g_get2 ?_)
  | (with_reducible refine g_try ?_)
  | (with_reducible refine g_fld ?_)
  | (with_reducible refine g_sfld ?_)
  | (with_reducible refine g_meth ?_)
  | (with_reducible refine g_make ?_)
  | (with_reducible refine g_del ?_)
  | (with_reducible refine g_callS ?_)
  | (with_reducible refine g_raise ?_)
  | (with_reducible refine g_xf ?_)
  | (with_reducible refine g_m0 ?_)
  | (with_reducible refine g_km0 ?_)
  | walk_at "is")
local macro_rules | `(tactic| walk_at "gg") => `(tactic| repeat walk_at "g")
local macro_rules | `(tactic| walk_at "sz") => `(tactic| (refine sz ?_; simp only [List.length_cons, List.length_nil, List.length_map, List.length_append, List.length_replicate]; omega))
local macro_rules | `(tactic| walk_at "sub") => `(tactic| ((repeat (first | exact List.Sublist.slnil | with_reducible apply List.Sublist.cons_cons | with_reducible apply List.Sublist.cons)); done))

/-! ### _law_same, trees among the data -/
/-- what _law_same finds the same, n deep -/
def Sm (H : Hp) : Nat → V → V → Prop
  | 0, _, _ => False
  | n + 1, x, y => (x = .non ∧ y = .non) ∨ (∃ i : Int, x = .int i ∧ y = .int i) ∨ (∃ z : Str, x = .str z ∧ y = .str z) ∨
    (∃ (a b : Addr) (xs ys : List V), x = .ref a ∧ y = .ref b ∧ ((H a = some (.lst xs) ∧ H b = some (.lst ys)) ∨ (H a = some (.tup xs) ∧ H b = some (.tup ys))) ∧ xs.length = ys.length ∧ xs.length ≤ 100000 ∧ ∀ (i : Nat) (u v : V), xs[i]? = some u → ys[i]? = some v → Sm H n u v) ∨
    (∃ (a b : Addr) (A : Tr), x = .ref a ∧ y = .ref b ∧ TrAt H a A ∧ TrAt H b A ∧ 2 ≤ n ∧ A.length ≤ 1000 ∧ ∀ p ∈ A, p.2.length ≤ 1000)
theorem Sm.up {H H' : Hp} (s : Same H H') : ∀ {n : Nat} {x y : V}, Sm H n x y → Sm H' n x y
  | 0, _, _, h => h.elim
  | n + 1, _, _, h => by
    rcases h with h | h | h | ⟨a, b, xs, ys, e1, e2, h1, l1, l2, h2⟩ | ⟨a, b, A, e1, e2, t1, t2, r⟩
    · exact .inl h
    · exact .inr (.inl h)
    · exact .inr (.inr (.inl h))
    · refine .inr (.inr (.inr (.inl ⟨a, b, xs, ys, e1, e2, ?_, l1, l2, fun i u v hu hv => (h2 i u v hu hv).up s⟩)))
      rcases h1 with h1 | h1
      · exact .inl ⟨s _ _ h1.1, s _ _ h1.2⟩
      · exact .inr ⟨s _ _ h1.1, s _ _ h1.2⟩
    · exact .inr (.inr (.inr (.inr ⟨a, b, A, e1, e2, t1.up s, t2.up s, r⟩)))
theorem Sm.strs {H : Hp} {n : Nat} {a b : Addr} {xs : List Str} (ha : H a = some (.lst (xs.map V.str))) (hb : H b = some (.lst (xs.map V.str))) (l : xs.length ≤ 100000) : Sm H (n + 2) (.ref a) (.ref b) := by
  refine .inr (.inr (.inr (.inl ⟨a, b, _, _, rfl, rfl, .inl ⟨ha, hb⟩, rfl, by rw [List.length_map]; exact l, fun i u v hu hv => ?_⟩)))
  rw [hu] at hv
  injection hv with hv
  subst hv
  rw [List.getElem?_map] at hu
  obtain ⟨z, _, rfl⟩ := Option.map_eq_some_iff.mp hu
  exact .inr (.inr (.inl ⟨z, rfl, rfl⟩))
theorem Sm.non {H : Hp} {n : Nat} : Sm H (n + 1) .non .non := .inl ⟨rfl, rfl⟩
theorem Sm.int {H : Hp} {n : Nat} {i : Int} : Sm H (n + 1) (.int i) (.int i) := .inr (.inl ⟨i, rfl, rfl⟩)
theorem Sm.tree {H : Hp} {n : Nat} {a b : Addr} {A : Tr} (h1 : TrAt H a A) (h2 : TrAt H b A) (l : A.length ≤ 1000) (lt : ∀ p ∈ A, p.2.length ≤ 1000) : Sm H (n + 3) (.ref a) (.ref b) := .inr (.inr (.inr (.inr ⟨a, b, A, rfl, rfl, h1, h2, by omega, l, lt⟩)))
section
variable {P : Program} {w : World} {K : PySem.W.Frag} {mg : Str → Option Value} {base : Heap}
def sp_l_same_n (K : PySem.W.Frag) (n : Nat) : Sp := fun vs H Q _ => ∃ (x y : V), vs = [x, y] ∧ Sm H n x y ∧ ∀ H', Same H H' → Q (.bl true) H'
theorem sp_l_same_n_len {n vs H Q E} (h : sp_l_same_n K n vs H Q E) : vs.length = 2 := by
  obtain ⟨_, _, rfl, _⟩ := h
  rfl
set_option maxHeartbeats 1000000 in
theorem ok_l_same_n (T : Txt K mg) (n : Nat) : FnOk P w K mg base CX0 n T.f_l_same T.fd_l_same ["told", "due"] (sp_l_same_n K n) := by
  induction n with
  | zero =>
    refine ⟨fun _ _ _ _ h => sp_l_same_n_len h, fun _ _ _ _ _ _ _ _ _ _ _ _ _ h => ?_⟩
    obtain ⟨_, _, _, h, _⟩ := h
    exact h.elim
  | succ n GR =>
  refine T.F_l_same.ok sc_l_same (fun vs H Q E h => sp_l_same_n_len h) (fun cdv A outer s H vs Q E hr h => ?_)
  refine ⟨_, (pss_cons (ps_if (pt_val (pe_callB (cr_isK K) (by rfl) T.m_isinstance (by decide +kernel) (pa_cons (pv 1) (pa_cons (pe_tup (pa_cons (pe_bltn (v := .ty "list") (by rfl) T.m_list (by decide +kernel) rfl) (pa_cons (pe_bltn (v := .ty "tuple") (by rfl) T.m_tuple (by decide +kernel) rfl) pa_nil))) pa_nil)))) (pss_cons (ps_if (pt_cmpR (op_neK K hr.units) (pe_callB (cr_isK K) (by rfl) T.m_isinstance (by decide +kernel) (pa_cons (pv 0) (pa_cons (pe_bltn (v := .ty "list") (by rfl) T.m_list (by decide +kernel) rfl) pa_nil))) (pe_callB (cr_isK K) (by rfl) T.m_isinstance (by decide +kernel) (pa_cons (pv 1) (pa_cons (pe_bltn (v := .ty "list") (by rfl) T.m_list (by decide +kernel) rfl) pa_nil))) (nomark _)) (pss_one (ps_ret pe_bl)) pss_nil)
      (pss_cons (ps_if (PW.pt (pw_or (pt_cmpR (op_neK K hr.units) (pe_callB (cr_isK K) (by rfl) T.m_isinstance (by decide +kernel) (pa_cons (pv 0) (pa_cons (pe_bltn (v := .ty "tuple") (by rfl) T.m_tuple (by decide +kernel) rfl) pa_nil))) (pe_callB (cr_isK K) (by rfl) T.m_isinstance (by decide +kernel) (pa_cons (pv 1) (pa_cons (pe_bltn (v := .ty "tuple") (by rfl) T.m_tuple (by decide +kernel) rfl) pa_nil))) (nomark _)) (pw_or1 (pt_cmpR (op_neK K hr.units) (pe_callB (cr_lenK K) (by rfl) T.m_len (by decide +kernel) (pa_cons (pv 0) pa_nil)) (pe_callB (cr_lenK K) (by rfl) T.m_len (by decide +kernel) (pa_cons (pv 1) pa_nil)) (nomark _))))) (pss_one (ps_ret pe_bl)) pss_nil)
      (pss_cons (ps_for PassesOwn.never rfl (pi_range1 rfl T.m_range (pa_cons (pe_callB (cr_lenK K) (by rfl) T.m_len (by decide +kernel) (pa_cons (pv 1) pa_nil)) pa_nil)) (pg_name (i := 2) sc_l_same.nd rfl (.inl rfl)) (pss_one (ps_if (pt_not (pt_val (pe_call GR hr (by rfl) T.g_l_same T.F_l_same.kp T.b_l_same .nil pass0 (pa_cons (pe_ix (ix_K K (hu_of hr)) (pv 0) (pv 2) (fun _ _ => rfl)) (pa_cons (pe_ix (ix_K K (hu_of hr)) (pv 1) (pv 2) (fun _ _ => rfl)) pa_nil))))) (pss_one (ps_ret pe_bl)) pss_nil)))
      (pss_one (ps_ret pe_bl))))) pss_nil)
      (pss_cons (ps_if (pt_val (pe_callB (cr_isK K) (by rfl) T.m_isinstance (by decide +kernel) (pa_cons (pv 1) (pa_cons (pe_bltn (v := .ty "dict") (by rfl) T.m_dict (by decide +kernel) rfl) pa_nil)))) (pss_cons (ps_if (PW.pt (pw_or (pt_not (pt_val (pe_callB (cr_isK K) (by rfl) T.m_isinstance (by decide +kernel) (pa_cons (pv 0) (pa_cons (pe_bltn (v := .ty "dict") (by rfl) T.m_dict (by decide +kernel) rfl) pa_nil))))) (pw_or1 (pt_not (pt_val (pe_call GR hr (by rfl) T.g_l_same T.F_l_same.kp T.b_l_same .nil pass0 (pa_cons (pe_callTy (cr_listD rfl) (by rfl) T.m_list (by decide +kernel) (pa_cons (pv 0) pa_nil)) (pa_cons (pe_callTy (cr_listD rfl) (by rfl) T.m_list (by decide +kernel) (pa_cons (pv 1) pa_nil)) pa_nil)))))))) (pss_one (ps_ret pe_bl)) pss_nil)
      (pss_cons (ps_lock (ps_for PassesOwn.never rfl (pi_keys (pv 1)) (pg_name (i := 3) sc_l_same.nd rfl (.inl rfl)) (pss_one (ps_if (pt_not (pt_val (pe_call GR hr (by rfl) T.g_l_same T.F_l_same.kp T.b_l_same .nil pass0 (pa_cons (pe_ix (ix_K K (hu_of hr)) (pv 0) (pv 3) (fun _ _ => rfl)) (pa_cons (pe_ix (ix_K K (hu_of hr)) (pv 1) (pv 3) (fun _ _ => rfl)) pa_nil))))) (pss_one (ps_ret pe_bl)) pss_nil))))
      (pss_one (ps_ret pe_bl)))) pss_nil)
      (pss_cons (ps_if (pt_cmpR op_isNA (pv 1) pe_non (nomark _)) (pss_one (ps_ret (pe_cmpR op_isNA (pv 0) pe_non (nomark _)))) pss_nil)
      (pss_cons (ps_if (pt_val (pe_callB (cr_isK K) (by rfl) T.m_isinstance (by decide +kernel) (pa_cons (pv 1) (pa_cons (pe_bltn (v := .ty "int") (by rfl) T.m_int (by decide +kernel) rfl) pa_nil)))) (pss_one (ps_ret (pe_and (pe_callB (cr_isK K) (by rfl) T.m_isinstance (by decide +kernel) (pa_cons (pv 0) (pa_cons (pe_bltn (v := .ty "int") (by rfl) T.m_int (by decide +kernel) rfl) pa_nil))) (pe_and (pe_not (pe_callB (cr_isK K) (by rfl) T.m_isinstance (by decide +kernel) (pa_cons (pv 0) (pa_cons (pe_bltn (v := .ty "bool") (by rfl) T.m_bool (by decide +kernel) rfl) pa_nil)))) (pe_one (pe_cmpR (op_eqK K hr.units) (pv 0) (pv 1) (nomark _))))))) pss_nil)
      (pss_one (ps_ret (pe_and (pe_callB (cr_isK K) (by rfl) T.m_isinstance (by decide +kernel) (pa_cons (pv 0) (pa_cons (pe_bltn (v := .ty "str") (by rfl) T.m_str (by decide +kernel) rfl) pa_nil))) (pe_one (pe_cmpR (op_eqK K hr.units) (pv 0) (pv 1) (nomark _)))))))))), ?_⟩
  obtain ⟨x, y, rfl, hs, q⟩ := h
  have hH := Has.start H
  refine g_start (σ' := [some (x), some (y), none, none]) rfl ?_
  rcases hs with ⟨rfl, rfl⟩ | ⟨i, rfl, rfl⟩ | ⟨z, rfl, rfl⟩ | ⟨a, b, xs, ys, rfl, rfl, hab, l1, l2, hs⟩ | ⟨a, b, A, rfl, rfl, t1, t2, hn, lA, lt⟩
  · walk_at "gg"
    refine g_ktupF (by walk_at "sz") hH (fun p1 H1 F1 n1 s1 f1 h1 => ?_)
    walk_at "gg"
    refine g_is (b := false) (.base .non) (by decide +kernel) ?_
    walk_at "gg"
    refine i_d (fun _ => ?_) (fun z => (z rfl).elim)
    walk_at "gg"
    rw [decide_eq_true rfl]
    exact q H1 (s1.trans h1.same)
  · walk_at "gg"
    refine g_ktupF (by walk_at "sz") hH (fun p1 H1 F1 n1 s1 f1 h1 => ?_)
    walk_at "gg"
    refine i_d (fun z => by cases z) (fun _ => ?_)
    walk_at "gg"
    rw [decide_eq_true rfl]
    exact q H1 (s1.trans h1.same)
  · walk_at "gg"
    refine g_ktupF (by walk_at "sz") hH (fun p1 H1 F1 n1 s1 f1 h1 => ?_)
    walk_at "gg"
    refine i_d (fun z => by cases z) (fun _ => ?_)
    walk_at "gg"
    rw [decide_eq_true rfl]
    exact q H1 (s1.trans h1.same)
  · walk_at "gg"
    refine g_ktupF (by walk_at "sz") hH (fun p1 H1 F1 n1 s1 f1 h1 => ?_)
    rcases hab with ⟨ha, hb⟩ | ⟨ha, hb⟩
    · have ha1 := s1 _ _ ha
      have hb1 := s1 _ _ hb
      walk_at "gg"
      refine i_n (fun z => (z rfl).elim) (fun _ => ?_)
      walk_at "gg"
      refine i_n (fun z => (z rfl).elim) (fun _ => ?_)
      walk_at "gg"
      refine i_n (fun z => (z (by rw [l1])).elim) (fun _ => ?_)
      walk_at "gg"
      refine k_forR1 (fun i σ H' => ∃ y2 y3, σ = [some (.ref a), some (.ref b), y2, y3] ∧ Has F1 [] H') (by omega) (by omega) ⟨_, _, rfl, h1⟩ ?_ ?_
      · rintro i σ H2 hi ⟨y2, y3, rfl, h2⟩
        walk_at "gg"
        refine g_ixV (by walk_at "h") (by omega) (by omega) (fun u hu => ?_)
        walk_at "gg"
        refine g_ixV (by walk_at "h") (by omega) (by omega) (fun v hv => ?_)
        walk_at "gg"
        refine ⟨u, v, rfl, (hs _ u v hu hv).up (s1.trans h2.same), fun H3 s3 => ?_⟩
        walk_at "gg"
        exact ⟨_, _, rfl, h2.on s3⟩
      · rintro σ H2 ⟨y2, y3, rfl, h2⟩
        walk_at "gg"
        exact q H2 (s1.trans h2.same)
    · have ha1 := s1 _ _ ha
      have hb1 := s1 _ _ hb
      walk_at "gg"
      refine i_n (fun z => (z rfl).elim) (fun _ => ?_)
      walk_at "gg"
      refine i_n (fun z => (z rfl).elim) (fun _ => ?_)
      walk_at "gg"
      refine i_n (fun z => (z (by rw [l1])).elim) (fun _ => ?_)
      walk_at "gg"
      refine k_forR1 (fun i σ H' => ∃ y2 y3, σ = [some (.ref a), some (.ref b), y2, y3] ∧ Has F1 [] H') (by omega) (by omega) ⟨_, _, rfl, h1⟩ ?_ ?_
      · rintro i σ H2 hi ⟨y2, y3, rfl, h2⟩
        walk_at "gg"
        refine g_ixVT (by walk_at "h") (by omega) (by omega) (fun u hu => ?_)
        walk_at "gg"
        refine g_ixVT (by walk_at "h") (by omega) (by omega) (fun v hv => ?_)
        walk_at "gg"
        refine ⟨u, v, rfl, (hs _ u v hu hv).up (s1.trans h2.same), fun H3 s3 => ?_⟩
        walk_at "gg"
        exact ⟨_, _, rfl, h2.on s3⟩
      · rintro σ H2 ⟨y2, y3, rfl, h2⟩
        walk_at "gg"
        exact q H2 (s1.trans h2.same)
  · obtain ⟨m, rfl⟩ : ∃ m, n = m + 2 := ⟨n - 2, by omega⟩
    obtain ⟨ka, ha, eka, nda, dqa⟩ := t1
    obtain ⟨kb, hb, ekb, ndb, dqb⟩ := t2
    walk_at "gg"
    refine g_ktupF (by walk_at "sz") hH (fun p1 H1 F1 n1 s1 f1 h1 => ?_)
    have fa := s1 _ _ ha
    have fb := s1 _ _ hb
    have dqa := dqa.up s1 _ _
    have dqb := dqb.up s1 _ _
    walk_at "gg"
    refine g_listD (h1.same _ _ fa) h1 (fun p2 H2 n2 h2 => ?_)
    walk_at "gg"
    refine g_listD (h2.same _ _ fb) h2 (fun p3 H3 n3 h3 => ?_)
    rw [tr_keys eka] at h3
    rw [tr_keys ekb] at h3
    walk_at "gg"
    refine ⟨.ref p2, .ref p3, rfl, Sm.strs (h3.get (by walk_at "m")) (h3.get (List.Mem.head _)) (by rw [List.length_map]; omega), fun H4 s4 => ?_⟩
    have h4 := (h3.on s4).drop.drop
    walk_at "gg"
    refine k_forDK rfl fb h4 (fun t σ O' => ∃ y2 y3, σ = [some (.ref a), some (.ref b), y2, y3] ∧ O' = []) ⟨_, _, rfl, rfl⟩ ?_ ?_
    · rintro t k v σ O' H5 od ekv ⟨y2, y3, rfl, rfl⟩ h5
      obtain ⟨p, ep, rfl⟩ := tr_key ekb ekv
      have ra : RT (upd F1 b (.frz od (.dK kb))) a A := RT.lock fb ⟨ka, .inl fa, eka, nda, dqa⟩
      have rb : RT (upd F1 b (.frz od (.dK kb))) b A := RT.lock fb ⟨kb, .inl fb, ekb, ndb, dqb⟩
      obtain ⟨ka', rda, eka', _, dqa'⟩ := ra.up h5.same
      obtain ⟨kb', rdb, ekb', _, dqb'⟩ := rb.up h5.same
      have eg : getT A p.1 = some p.2 := getT_of nda (List.mem_of_getElem? ep)
      obtain ⟨l1, v1, hl1⟩ := tr_at eka' dqa' eg
      obtain ⟨l2, v2, hl2⟩ := tr_at ekb' dqb' eg
      walk_at "gg"
      refine g_ixDR rda v1 ?_
      walk_at "gg"
      refine g_ixDR rdb v2 ?_
      walk_at "gg"
      refine ⟨.ref l1, .ref l2, rfl, Sm.strs hl1 hl2 (by have := lt p (List.mem_of_getElem? ep); omega), fun H6 s6 => ?_⟩
      walk_at "gg"
      exact ⟨[], ⟨_, _, rfl, rfl⟩, h5.on s6⟩
    · rintro σ O' H5 ⟨y2, y3, rfl, rfl⟩ h5
      walk_at "gg"
      exact q H5 (s1.trans h5.same)
def sp_l_same (K : PySem.W.Frag) : Sp := sp_l_same_n K 6
theorem ok_l_same (T : Txt K mg) : FnOk P w K mg base CX0 6 T.f_l_same T.fd_l_same ["told", "due"] (sp_l_same K) := ok_l_same_n T 6
end

end K07

namespace K07
open PySem PySem.Spec PyProof.Rows L2 Qk
local macro_rules | `(tactic| walk_at "m") => `(tactic| ((repeat (first | exact List.Mem.head _ | apply List.Mem.tail)); done))
local macro_rules | `(tactic| walk_at "h") => `(tactic| first | assumption | exact Has.gF (by assumption) (by assumption) | exact Has.get (by assumption) (by walk_at "m"))
local macro_rules | `(tactic| walk_at "c") => `(tactic| ((repeat (first | exact Chg.hd | apply Chg.tl)); done))
local macro_rules | `(tactic| walk_at "is") => `(tactic| first
  | ((with_reducible refine' is2_non ?gh ?_); (case gh => walk_at "h"))
  | (with_reducible refine is_int_list ?_)
  | (with_reducible refine is_int_tuple ?_)
  | (with_reducible refine is_int_dict ?_)
  | (with_reducible refine is_int_int ?_)
  | (with_reducible refine is_int_bool ?_)
  | (with_reducible refine is_int_str ?_)
  | ((with_reducible refine' is2_int ?gh ?_); (case gh => walk_at "h"))
  | (with_reducible refine is_str_list ?_)
  | (with_reducible refine is_str_tuple ?_)
  | (with_reducible refine is_str_dict ?_)
  | (with_reducible refine is_str_int ?_)
  | (with_reducible refine is_str_bool ?_)
  | (with_reducible refine is_str_str ?_)
  | ((with_reducible refine' is2_str ?gh ?_); (case gh => walk_at "h"))
  | (with_reducible refine is_bool_list ?_)
  | (with_reducible refine is_bool_tuple ?_)
  | (with_reducible refine is_bool_dict ?_)
  | (with_reducible refine is_bool_int ?_)
  | (with_reducible refine is_bool_bool ?_)
  | (with_reducible refine is_bool_str ?_)
  | ((with_reducible refine' is2_bool ?gh ?_); (case gh => walk_at "h"))
  | ((with_reducible refine' is_list_list ?gh ?_); (case gh => walk_at "h"))
  | ((with_reducible refine' is_list_tuple ?gh ?_); (case gh => walk_at "h"))
  | ((with_reducible refine' is_list_dict ?gh ?_); (case gh => walk_at "h"))
  | ((with_reducible refine' is_list_int ?gh ?_); (case gh => walk_at "h"))
  | ((with_reducible refine' is_list_bool ?gh ?_); (case gh => walk_at "h"))
  | ((with_reducible refine' is_list_str ?gh ?_); (case gh => walk_at "h"))
  | ((with_reducible refine' is2_list ?ga ?gb ?_); (case ga => walk_at "h"); (case gb => walk_at "h"))
  | ((with_reducible refine' is_tuple_list ?gh ?_); (case gh => walk_at "h"))
  | ((with_reducible refine' is_tuple_tuple ?gh ?_); (case gh => walk_at "h"))
  | ((with_reducible refine' is_tuple_dict ?gh ?_); (case gh => walk_at "h"))
  | ((with_reducible refine' is_tuple_int ?gh ?_); (case gh => walk_at "h"))
  | ((with_reducible refine' is_tuple_bool ?gh ?_); (case gh => walk_at "h"))
  | ((with_reducible refine' is_tuple_str ?gh ?_); (case gh => walk_at "h"))
  | ((with_reducible refine' is2_tuple ?ga ?gb ?_); (case ga => walk_at "h"); (case gb => walk_at "h"))
  | ((with_reducible refine' is_dict_list ?gh ?_); (case gh => walk_at "h"))
  | ((with_reducible refine' is_dict_tuple ?gh ?_); (case gh => walk_at "h"))
  | ((with_reducible refine' is_dict_dict ?gh ?_); (case gh => walk_at "h"))
  | ((with_reducible refine' is_dict_int ?gh ?_); (case gh => walk_at "h"))
  | ((with_reducible refine' is_dict_bool ?gh ?_); (case gh => walk_at "h"))
  | ((with_reducible refine' is_dict_str ?gh ?_); (case gh => walk_at "h"))
  | ((with_reducible refine' is2_dict ?ga ?gb ?_); (case ga => walk_at "h"); (case gb => walk_at "h")))
local macro_rules | `(tactic| walk_at "g") => `(tactic| first
  | (with_reducible refine g_seq ?_)
  | (with_reducible refine g_asg ?_)
  | ((with_reducible refine g_name ?_); dsimp only [List.set, wipe, List.map])
  | ((with_reducible refine' g_var ?gv ?_); (case gv => exact rfl))
  | (with_reducible refine g_c ?_)
  | (with_reducible refine g_op ?_)
  | (with_reducible refine g_cons ?_)
  | (with_reducible refine g_nil ?_)
  | (with_reducible refine g_cb ?_)
  | (with_reducible refine g_call ?_)
  | (with_reducible refine g_tup ?_)
  | (with_reducible refine g_lst ?_)
  | (with_reducible refine g_bm ?_)
  | (with_reducible refine g_bm0 ?_)
  | ((with_reducible refine' g_kbm ?gh ?_); (case gh => walk_at "h"))
  | (with_reducible refine g_drop ?_)
  | (with_reducible refine g_ret ?_)
  | (with_reducible refine g_retN ?_)
  | (with_reducible refine g_next ?_)
  | (with_reducible refine g_brk ?_)
  | (with_reducible refine g_cont ?_)
  | (with_reducible refine g_if ?_)
  | ((with_reducible refine' g_aug ?gv ?_); (case gv => exact rfl))
  | (with_reducible refine g_ipI ?_)
  | (with_reducible refine g_test ?_)
  | (with_reducible refine g_tB ?_)
  | (with_reducible refine g_kB ?_)
  | (with_reducible refine g_not ?_)
  | (with_reducible refine g_and ?_)
  | (with_reducible refine g_or ?_)
  | (with_reducible refine g_andV ?_)
  | (with_reducible refine g_orV ?_)
  | (with_reducible refine g_notV ?_)
  | (with_reducible refine g_ifE ?_)
  | (with_reducible refine g_addI ?_)
  | (with_reducible refine g_rI0 ?_)
  | (with_reducible refine g_eqI ?_)
  | (with_reducible refine g_eqS ?_)
  | (with_reducible refine g_neI ?_)
  | (with_reducible refine g_neS ?_)
  | (with_reducible refine g_isN ?_)
  | (with_reducible refine g_notN ?_)
  | (with_reducible refine g_int ?_)
  | (with_reducible refine g_max2 ?_)
  | (with_reducible refine g_min2 ?_)
  | ((with_reducible refine' g_lenL ?gh ?_); (case gh => walk_at "h"))
  | (with_reducible refine g_sub ?_)
  | (with_reducible refine g_gcons ?_)
  | (with_reducible refine g_gnil ?_)
  | (with_reducible refine g_un ?_)
  | (with_reducible refine g_rU ?_)
  | (with_reducible refine g_forL ?_)
  | (with_reducible refine g_forS ?_)
  | (with_reducible refine g_forR1 ?_)
  | (with_reducible refine g_forR2 ?_)
  | (with_reducible refine g_forR3 ?_)
  | (with_reducible refine g_lcL ?_)
  | (with_reducible refine g_lcR1 ?_)
  | (with_reducible refine g_lcR2 ?_)
  | (with_reducible refine g_slice ?_)
  | (with_reducible refine g_part ?_)
  | (with_reducible refine g_kOI ?_)
  | (with_reducible refine g_nopart ?_)
  | (with_reducible refine g_yes ?_)
  | ((with_reducible refine' g_wipe ?gv ?_); (case gv => exact rfl))
  | (with_reducible refine iteT ?_)
  | (with_reducible refine iteF ?_)
  | (with_reducible refine i_nf ?_)
  | (with_reducible refine i_nt ?_)
  | ((with_reducible refine' g_gtup ?gh ?gl ?_); (case gh => walk_at "h"); (case gl => exact rfl))
  | ((with_reducible refine' g_notinI ?gh ?_); (case gh => walk_at "h"))
  | ((with_reducible refine' g_inI ?gh ?_); (case gh => walk_at "h"))
  | ((with_reducible refine' g_kget2 ?gh ?_); (case gh => walk_at "h"))
  | ((with_reducible refine' g_kgotI ?gh ?_); (case gh => walk_at "h"))
  | (with_reducible refine g_tRev ?_)
  | (with_reducible refine g_neB ?_)
  | (with_reducible refine g_eqB ?_)
  | ((with_reducible refine' g_lenT ?gh ?_); (case gh => walk_at "h"))
  | (with_reducible refine g_star ?_)
  | ((with_reducible refine' g_kstarL ?gh ?_); (case gh => walk_at "h"))
  | ((with_reducible refine' g_kstarT ?gh ?_); (case gh => walk_at "h"))
  | (with_reducible refine g_tru ?_)
  | ((with_reducible refine' g_truL ?gh ?_); (case gh => walk_at "h"))
  | (with_reducible refine g_get2 ?_)
  | (with_reducible refine g_try ?_)
  | (with_reducible refine g_fld ?_)
  | (with_reducible refine g_sfld ?_)
  | (with_reducible refine g_meth ?_)
  | (with_reducible refine g_make ?_)
  | (with_reducible refine g_del ?_)
  | (with_reducible refine g_callS ?_)
  | (with_reducible refine g_raise ?_)
  | (with_reducible refine g_xf ?_)
  | (with_reducible refine g_m0 ?_)
  | (with_reducible refine g_km0 ?_)
  | walk_at "is")
local macro_rules | `(tactic| walk_at "gg") => `(tactic| repeat walk_at "g")
local macro_rules | `(tactic| walk_at "sz") => `(tactic| (refine sz ?_; simp only [List.length_cons, List.length_nil, List.length_map, List.length_append, List.length_replicate]; omega))
local macro_rules | `(tactic| walk_at "sub") => `(tactic| ((repeat (first | exact List.Sublist.slnil | with_reducible apply List.Sublist.cons_cons | with_reducible apply List.Sublist.cons)); done))

/-! ### ascending lists of texts -/
abbrev kk (z : Str) : List Nat := z.cps.toList
theorem kk_inj {a b : Str} (h : kk a = kk b) : a = b := by
  cases a with
  | mk x =>
    cases b with
    | mk y =>
      congr 1
      exact Array.toList_inj.mp h
def Asc (xs : List Str) : Prop := xs.Pairwise fun a b => kk a < kk b
theorem kk_cases {a b : Str} (h : ¬ kk b < kk a) (n : a ≠ b) : kk a < kk b := by
  refine Decidable.byContradiction fun h2 => n (kk_inj ?_)
  exact List.le_antisymm (List.not_lt.mp h) (List.not_lt.mp h2)
theorem asc_rise : ∀ (p : Str) (l : List Str), risingS p l = true → (p :: l).Nodup → Asc (p :: l)
  | p, [], _, _ => List.pairwise_cons.mpr ⟨fun _ h => (by cases h), List.Pairwise.nil⟩
  | p, x :: r, h, n => by
    have h : (!PySem.Spec.ltCps x.cps.toList p.cps.toList && risingS x r) = true := h
    rw [Bool.and_eq_true] at h
    have h1 : ¬ kk x < kk p := by
      have := h.1
      rw [ltCps_eq] at this
      simpa using this
    have n2 := List.nodup_cons.mp n
    have ih := asc_rise x r h.2 n2.2
    have lt : kk p < kk x := kk_cases h1 fun e => n2.1 (by rw [e]; exact List.mem_cons_self)
    refine List.pairwise_cons.mpr ⟨fun z hz => ?_, ih⟩
    rcases List.mem_cons.mp hz with rfl | hz
    · exact lt
    · exact List.lt_trans lt ((List.pairwise_cons.mp ih).1 z hz)
theorem asc_of {xs : List Str} (h : sortedS xs = true) (n : xs.Nodup) : Asc xs := by
  cases xs with
  | nil => exact List.Pairwise.nil
  | cons x r => exact asc_rise x r h n
theorem Asc.nodup {xs : List Str} (h : Asc xs) : xs.Nodup := h.imp fun {a b} l e => by
  rw [e] at l
  exact List.lt_irrefl _ l
theorem Asc.ext : ∀ {xs ys : List Str}, Asc xs → Asc ys → (∀ z, z ∈ xs ↔ z ∈ ys) → xs = ys
  | [], [], _, _, _ => rfl
  | [], y :: ys, _, _, h => by cases (h y).mpr List.mem_cons_self
  | x :: xs, [], _, _, h => by cases (h x).mp List.mem_cons_self
  | x :: xs, y :: ys, hx, hy, h => by
    have hx' := List.pairwise_cons.mp hx
    have hy' := List.pairwise_cons.mp hy
    have e : x = y := by
      rcases List.mem_cons.mp ((h x).mp List.mem_cons_self) with e | m1
      · exact e
      · rcases List.mem_cons.mp ((h y).mpr List.mem_cons_self) with e | m2
        · exact e.symm
        · exact (List.lt_irrefl _ (List.lt_trans (hy'.1 x m1) (hx'.1 y m2))).elim
    subst e
    have := Asc.ext hx'.2 hy'.2 fun z => by
      have hz := h z
      rw [List.mem_cons, List.mem_cons] at hz
      constructor
      · intro m
        rcases hz.mp (.inr m) with e | m'
        · exact (List.lt_irrefl _ (e ▸ hx'.1 z m)).elim
        · exact m'
      · intro m
        rcases hz.mpr (.inr m) with e | m'
        · exact (List.lt_irrefl _ (e ▸ hy'.1 z m)).elim
        · exact m'
    rw [this]
theorem Asc.filter {xs : List Str} (h : Asc xs) (p : Str → Bool) : Asc (xs.filter p) := h.sublist List.filter_sublist
/-- a list without repeats, grown by one -/
def addL (xs : List Str) (y : Str) : List Str := if y ∈ xs then xs else xs ++ [y]
theorem addL_mem {xs : List Str} {y z : Str} : z ∈ addL xs y ↔ z ∈ xs ∨ z = y := by
  unfold addL
  split
  · next h =>
    constructor
    · exact .inl
    · rintro (m | rfl)
      · exact m
      · exact h
  · simp
theorem addL_nodup {xs : List Str} {y : Str} (n : xs.Nodup) : (addL xs y).Nodup := by
  unfold addL
  split
  · exact n
  · next h =>
    rw [List.nodup_append]
    refine ⟨n, List.nodup_cons.mpr ⟨fun h => (by cases h), List.nodup_nil⟩, fun a ha b hb e => ?_⟩
    rw [List.mem_singleton.mp hb] at e
    exact h (e ▸ ha)
theorem addL_len (xs : List Str) (y : Str) : (addL xs y).length ≤ xs.length + 1 := by
  unfold addL
  split
  · omega
  · rw [List.length_append]; exact Nat.le_refl _
/-- the keys of a dict that is used as a set -/
def tk (xs : List Str) : List (Key × V) := xs.map fun z => (Sum.inr z, V.bl true)
theorem tk_keys (xs : List Str) : (tk xs).map (·.1) = xs.map Sum.inr := by
  unfold tk
  rw [List.map_map]
  rfl
theorem tk_val (xs : List Str) (z : Str) : (valV (tk xs) (.inr z)).isSome = decide (z ∈ xs) := by
  rw [← valV_any]
  unfold tk
  rw [List.any_map, Bool.eq_iff_iff]
  simp only [List.any_eq_true, Function.comp, decide_eq_true_eq]
  constructor
  · rintro ⟨x, hx, e⟩
    exact Sum.inr.inj e ▸ hx
  · exact fun h => ⟨z, h, rfl⟩
theorem tk_put (xs : List Str) (z : Str) : putK (tk xs) (.inr z) (.bl true) = tk (addL xs z) := by
  unfold putK addL
  rw [valV_any, tk_val]
  by_cases h : z ∈ xs
  · rw [if_pos (decide_eq_true h), if_pos h]
    unfold tk
    rw [List.map_map]
    apply List.map_congr_left
    intro x hx
    show (if (Sum.inr x : Key) = .inr z then ((Sum.inr x : Key), V.bl true) else (.inr x, .bl true)) = _
    split <;> rfl
  · rw [if_neg (by simpa using h), if_neg h]
    unfold tk
    rw [List.map_append]
    rfl
theorem tk_len (xs : List Str) : (tk xs).length = xs.length := List.length_map ..

/-! ### trees: the law's own makings -/
def mkT (ps : List Str) (os : List (Option Tx)) : Tr := (ps.zip os).filterMap fun p => p.2.map fun t => (p.1, t)
theorem mkT_step {ps : List Str} {os : List (Option Tx)} {i : Nat} {z : Str} {o : Option Tx} (h1 : ps[i]? = some z) (h2 : os[i]? = some o) : mkT (ps.take (i + 1)) (os.take (i + 1)) = mkT (ps.take i) (os.take i) ++ (o.map fun t => (z, t)).toList := by
  unfold mkT
  rw [List.take_add_one, h1, List.take_add_one, h2]
  have l1 := (List.getElem?_eq_some_iff.mp h1).1
  have l2 := (List.getElem?_eq_some_iff.mp h2).1
  rw [show (some z).toList = [z] from rfl, show (some o).toList = [o] from rfl, List.zip_append (by rw [List.length_take, List.length_take]; omega), List.filterMap_append]
  congr 1
theorem mkT_keys {ps : List Str} {os : List (Option Tx)} : ((mkT ps os).map (·.1)).Sublist ps := by
  unfold mkT
  induction ps generalizing os with
  | nil => exact List.nil_sublist _
  | cons z ps ih =>
    cases os with
    | nil => exact List.nil_sublist _
    | cons o os =>
      rw [List.zip_cons_cons]
      cases o with
      | none => exact List.Sublist.cons _ ih
      | some t => exact List.Sublist.cons_cons _ ih
def AscT (A : Tr) : Prop := Asc (A.map (·.1))
theorem AscT.nd {A : Tr} (h : AscT A) : (A.map (·.1)).Nodup := Asc.nodup h
theorem AscT.ext {A B : Tr} (ha : AscT A) (hb : AscT B) (h : ∀ z t, (z, t) ∈ A ↔ (z, t) ∈ B) : A = B := by
  have hk : ∀ z, z ∈ A.map (·.1) ↔ z ∈ B.map (·.1) := fun z => by
    rw [List.mem_map, List.mem_map]
    constructor
    · rintro ⟨p, hp, rfl⟩
      exact ⟨p, (h p.1 p.2).mp hp, rfl⟩
    · rintro ⟨p, hp, rfl⟩
      exact ⟨p, (h p.1 p.2).mpr hp, rfl⟩
  have ek := Asc.ext ha hb hk
  refine List.ext_getElem? fun i => ?_
  cases ea : A[i]? with
  | none =>
    have l : A.length = B.length := by
      have := congrArg List.length ek
      rw [List.length_map, List.length_map] at this
      exact this
    rw [List.getElem?_eq_none_iff] at ea
    rw [List.getElem?_eq_none (by omega)]
  | some p =>
    have ek' : (A.map (·.1))[i]? = (B.map (·.1))[i]? := by rw [ek]
    rw [List.getElem?_map, List.getElem?_map, ea] at ek'
    obtain ⟨r, er, e2⟩ := Option.map_eq_some_iff.mp ek'.symm
    rw [er]
    have m1 := getT_of hb.nd (List.mem_of_getElem? er)
    have m2 := getT_of hb.nd ((h p.1 p.2).mp (List.mem_of_getElem? ea))
    rw [e2, m2] at m1
    injection m1 with m1
    rw [show p = r from Prod.ext e2.symm m1]
/-- what may be compared -/
def okTr (A : Tr) : Prop := ∀ p ∈ A, PyData.strOk p.1 = true ∧ okX p.2
def itD (A : Tr) : PyData := .list (A.map fun p => .tuple [.str p.1, txD p.2])
theorem sh_itD {A : Tr} (h : okTr A) : SeqAt.shaped (itD A) = true := by
  refine Sh.ok (n := 3) (Sh.list (n := 2) fun d hd => ?_) (by decide)
  obtain ⟨p, hp, rfl⟩ := List.mem_map.mp hd
  refine Sh.tuple (n := 1) fun d hd => ?_
  simp only [List.mem_cons, List.not_mem_nil, or_false] at hd
  rcases hd with rfl | rfl
  · exact Sh.str (h p hp).1
  · exact Sh.strs (n := 0) (h p hp).2
theorem dq_items {H : Hp} : ∀ {ts : List Addr} {kvs : List (Key × V)} {A : Tr}, Paired (fun (t : Addr) (q : Key × V) => H t = some (.tup [kV q.1, q.2])) ts kvs → kvs.map (·.1) = A.map (fun p => kS p.1) → DqAll H (kvs.map (·.2)) (A.map fun p => txD p.2) → DqAll H (ts.map V.ref) (A.map fun p => .tuple [.str p.1, txD p.2])
  | [], [], [], _, _, _ => .nil
  | [], [], _ :: _, _, e, _ => by cases e
  | t :: ts, q :: kvs, [], _, e, _ => by cases e
  | t :: ts, q :: kvs, p :: A, .cons h pd, e, dq => by
    rw [List.map_cons, List.map_cons] at e
    injection e with e1 e2
    cases dq with
    | cons d1 d2 =>
    rw [e1] at h
    exact .cons (.tup h (.cons (.str p.1) (.cons d1 .nil))) (dq_items pd e2 d2)
  | [], _ :: _, _, pd, _, _ => by cases pd
theorem eqvAll_self : ∀ {ds : List PyData}, (∀ d ∈ ds, PyData.eqv d d = true) → PyData.eqvAll ds ds = true
  | [], _ => by rw [PyData.eqvAll]
  | d :: ds, h => by
    rw [PyData.eqvAll, h d List.mem_cons_self, eqvAll_self fun x hx => h x (List.mem_cons_of_mem _ hx)]
    rfl
theorem eqv_itD (A : Tr) : PyData.eqv (itD A) (itD A) = true := by
  rw [itD, PyData.eqv]
  refine eqvAll_self fun d hd => ?_
  obtain ⟨p, _, rfl⟩ := List.mem_map.mp hd
  rw [PyData.eqv]
  refine eqvAll_self fun d hd => ?_
  simp only [List.mem_cons, List.not_mem_nil, or_false] at hd
  rcases hd with rfl | rfl
  · rw [PyData.eqv]
    exact beq_self_eq_true _
  · rw [txD, eqv_strs]
    exact decide_eq_true rfl
theorem Chg.bt {b : Str × Addr × Tx} {t : Tx} {O : Own} : ∀ {B : Bt} {k : Nat}, B[k]? = some b → Chg (bO B ++ O) b.2.1 (.lst (b.2.2.map V.str)) (.lst (t.map V.str)) (bO (B.set k (b.1, b.2.1, t)) ++ O)
  | [], k, h => by simp at h
  | x :: B, 0, h => by
    have e : x = b := Option.some.inj h
    subst e
    exact .hd
  | x :: B, k + 1, h => .tl (Chg.bt (B := B) (k := k) h)
theorem bK_set {b : Str × Addr × Tx} {t : Tx} : ∀ {B : Bt} {k : Nat}, B[k]? = some b → bK (B.set k (b.1, b.2.1, t)) = bK B
  | [], k, h => by simp at h
  | x :: B, 0, h => by
    have e : x = b := Option.some.inj h
    subst e
    rfl
  | x :: B, k + 1, h => by
    have := bK_set (B := B) (k := k) (t := t) h
    show _ :: bK (B.set k _) = _ :: bK B
    rw [this]
theorem bK_at : ∀ {B : Bt} {k : Nat} {b : Str × Addr × Tx}, (B.map (·.1)).Nodup → B[k]? = some b → valV (bK B) (.inr b.1) = some (.ref b.2.1)
  | [], k, _, _, h => by simp at h
  | x :: B, 0, b, _, h => by
    have e : x = b := Option.some.inj h
    subst e
    exact valV_pos rfl
  | x :: B, k + 1, b, n, h => by
    rw [List.map_cons] at n
    have n' := List.nodup_cons.mp n
    show valV ((kS x.1, V.ref x.2.1) :: bK B) _ = _
    rw [valV_neg (fun e => n'.1 ?_)]
    · exact bK_at n'.2 (k := k) h
    · have : x.1 = b.1 := Sum.inr.inj e
      rw [this]
      exact List.mem_map.mpr ⟨b, List.mem_of_getElem? h, rfl⟩
section
variable {P : Program} {w : World} {K : PySem.W.Frag} {mg : Str → Option Value} {base : Heap}
def wayM : List Str := ["a", "a/b", "b/a/c", "ab", "0", "abcdef/012345/z9", "a/b/c", "a0"]
def way (i : Int) : Str := wayM.getD (i % 8).toNat ""
theorem way_ok (i : Int) : PyData.strOk (way i) = true := by
  have h : ∀ k, k < 8 → PyData.strOk (wayM.getD k "") = true := by decide +kernel
  exact h _ (by omega)
def sp_l_way (K : PySem.W.Frag) : Sp := fun vs H Q _ => ∃ i : Int, vs = [.int i] ∧ ∀ H', Same H H' → Q (.str (way i)) H'
theorem sp_l_way_len {vs H Q E} (h : sp_l_way K vs H Q E) : vs.length = 1 := by
  obtain ⟨_, rfl, _⟩ := h
  rfl
theorem ok_l_way (T : Txt K mg) : FnOk P w K mg base CX0 1 T.f_l_way T.fd_l_way ["place"] (sp_l_way K) := by
  refine T.F_l_way.ok sc_l_way (fun vs H Q E h => sp_l_way_len h) (fun cdv A outer s H vs Q E hr h => ?_)
  refine ⟨_, (pss_cons (ps_set (i := 1) sc_l_way.nd rfl (.inl rfl) (pe_lst (pa_cons pe_str (pa_cons pe_str (pa_cons pe_str (pa_cons pe_str (pa_cons pe_str (pa_cons pe_str (pa_cons pe_str (pa_cons pe_str pa_nil))))))))))
      (pss_one (ps_ret (pe_ix (ix_K K (hu_of hr)) (pv 1) (pe_op op_mod (pe_callTy cr_int1 (by rfl) T.m_int (by decide +kernel) (pa_cons (pv 0) pa_nil)) pe_int) (fun _ _ => rfl))))), ?_⟩
  obtain ⟨i, rfl, q⟩ := h
  have hH := Has.start H
  refine g_start (σ' := [some (.int i), none]) rfl ?_
  walk_at "gg"
  refine g_klst (by walk_at "sz") hH (fun p1 H1 n1 h1 => ?_)
  walk_at "gg"
  refine g_rI (by show (0 : Int) < 8; decide) ?_
  have h0 : (0 : Int) ≤ i % 8 := Int.emod_nonneg _ (by decide)
  have h8 : i % 8 < 8 := Int.emod_lt_of_pos _ (by decide)
  refine g_ixZ (xs := wayM) (h1.get (List.Mem.head _)) h0 (by exact h8) (fun z hz => ?_)
  have e : z = way i := by
    unfold way
    rw [List.getD_eq_getElem?_getD, hz]
    rfl
  rw [e]
  exact q H1 h1.same
def sp_l_made (K : PySem.W.Frag) : Sp := fun vs H Q _ => ∃ (pl tl : Addr) (ps : List Str) (ws : List V) (os : List (Option Tx)), vs = [.ref pl, .ref tl] ∧ H pl = some (.lst (ps.map V.str)) ∧ H tl = some (.lst ws) ∧ DqAll H ws (os.map oxD) ∧ ps.length = os.length ∧ ps.length ≤ 100 ∧ ps.Nodup ∧
  ∀ d (B : Bt) H', Has H ((d, .dK (bK B)) :: bO B) H' → bA B = mkT ps os → Q (.ref d) H'
theorem sp_l_made_len {vs H Q E} (h : sp_l_made K vs H Q E) : vs.length = 2 := by
  obtain ⟨_, _, _, _, _, rfl, _⟩ := h
  rfl
theorem ok_l_made (T : Txt K mg) : FnOk P w K mg base CX0 1 T.f_l_made T.fd_l_made ["paths", "texts"] (sp_l_made K) := by
  refine T.F_l_made.ok sc_l_made (fun vs H Q E h => sp_l_made_len h) (fun cdv A outer s H vs Q E hr h => ?_)
  refine ⟨_, (pss_cons (ps_set (i := 2) sc_l_made.nd rfl (.inl rfl) pe_dnewK)
      (pss_cons (ps_for PassesOwn.never rfl (pi_range1 rfl T.m_range (pa_cons (pe_callB (cr_lenK K) (by rfl) T.m_len (by decide +kernel) (pa_cons (pv 0) pa_nil)) pa_nil)) (pg_name (i := 3) sc_l_made.nd rfl (.inl rfl)) (pss_one (ps_if (pt_cmpR op_notNA (pe_ix (ix_K K (hu_of hr)) (pv 1) (pv 3) (fun _ _ => rfl)) pe_non (nomark _)) (pss_one (ps_asg (pe_callTy (cr_listK K) (by rfl) T.m_list (by decide +kernel) (pa_cons (pe_ix (ix_K K (hu_of hr)) (pv 1) (pv 3) (fun _ _ => rfl)) pa_nil)) (pg_sub (pv 2) (pe_ix (ix_K K (hu_of hr)) (pv 0) (pv 3) (fun _ _ => rfl)) (set_any (hu_of hr))))) pss_nil)))
      (pss_one (ps_ret (pv 2))))), ?_⟩
  obtain ⟨pl, tl, ps, ws, os, rfl, hp, ht, dq, le, few, nd, q⟩ := h
  have hH := Has.start H
  have lw : ws.length = ps.length := by rw [dq.len, List.length_map, le]
  refine g_start (σ' := [some (.ref pl), some (.ref tl), none, none]) rfl ?_
  walk_at "gg"
  refine g_dnewK hH (fun d H1 n1 h1 => ?_)
  walk_at "gg"
  rw [List.length_map]
  refine k_forR1 (fun t σ H' => ∃ (B : Bt) (y3 : Option V), σ = [some (.ref pl), some (.ref tl), some (.ref d), y3] ∧ Has H ((d, .dK (bK B)) :: (bO B ++ [])) H' ∧ bA B = mkT (ps.take t) (os.take t)) (by omega) (by omega) ⟨[], _, rfl, Has.b0 h1, rfl⟩ ?_ ?_
  · rintro t σ H2 ht' ⟨B, y3, rfl, h2, eB⟩
    have lt : t < ps.length := by omega
    have ez : ps[t]? = some ps[t] := List.getElem?_eq_getElem lt
    generalize ps[t] = z at ez
    have eo : os[t]? = some (os[t]'(by omega)) := List.getElem?_eq_getElem (by omega)
    generalize os[t]'(by omega) = o at eo
    have eu : ws[t]? = some (ws[t]'(by omega)) := List.getElem?_eq_getElem (by omega)
    generalize ws[t]'(by omega) = u at eu
    obtain ⟨dd, ed, dqu⟩ := dq.get eu
    rw [List.getElem?_map, eo] at ed
    injection ed with ed
    subst ed
    have step := mkT_step ez eo
    have lB : B.length ≤ t := by
      have h1 := congrArg List.length eB
      have h2 := (mkT_keys (ps := ps.take t) (os := os.take t)).length_le
      rw [List.length_map, List.length_take] at h2
      unfold bA at h1
      rw [List.length_map] at h1
      omega
    walk_at "gg"
    refine g_ixL (v := u) (h2.same _ _ ht) (atI_nat eu) ?_
    walk_at "gg"
    cases o with
    | none =>
      have e := dqu.non_inv
      subst e
      refine i_n (fun c => (c rfl).elim) (fun _ => ?_)
      walk_at "gg"
      refine ⟨B, _, rfl, h2, ?_⟩
      rw [step, eB]
      exact (List.append_nil _).symm
    | some x =>
      obtain ⟨l, rfl, hx⟩ := Dq.of_strs (xs := x) dqu
      refine i_n (fun _ => ?_) (fun c => by cases c)
      walk_at "gg"
      refine g_ixL (v := .ref l) (h2.same _ _ ht) (atI_nat eu) ?_
      walk_at "gg"
      refine g_listL (h2.same _ _ hx) h2 (fun p H3 n3 h3 => ?_)
      walk_at "gg"
      refine g_ixL (v := .str z) (h3.same _ _ hp) (atI_nat (by rw [List.getElem?_map, ez]; rfl)) ?_
      have nz : z ∉ B.map (·.1) := fun m => by
        rw [← bA_keys, eB] at m
        have m2 := mkT_keys.subset m
        exact nd_new nd ez m2
      walk_at "gg"
      refine g_stD (k := .inr z) rfl h3 (.tl .hd) (szl (by unfold bK; rw [List.length_map]; omega)) (fun H4 h4 => ?_)
      rw [putK_new _ (bK_none nz)] at h4
      walk_at "gg"
      refine ⟨B ++ [(z, p, x)], _, rfl, Has.bput h4, ?_⟩
      rw [bA_snoc, eB, step]
      rfl
  · rintro σ H2 ⟨B, y3, rfl, h2, eB⟩
    have e5 : (ps.length : Int).toNat = ps.length := by omega
    rw [e5, List.take_length, le, List.take_length] at eB
    rw [List.append_nil] at h2
    walk_at "gg"
    exact q d B H2 h2 eB
def sp_l_copy (K : PySem.W.Frag) : Sp := fun vs H Q _ => ∃ (a : Addr) (A : Tr), vs = [.ref a] ∧ TrAt H a A ∧ A.length ≤ 1000 ∧ ∀ d (B : Bt) H', Has H ((d, .dK (bK B)) :: bO B) H' → bA B = A → Q (.ref d) H'
theorem sp_l_copy_len {vs H Q E} (h : sp_l_copy K vs H Q E) : vs.length = 1 := by
  obtain ⟨_, _, rfl, _⟩ := h
  rfl
theorem take_new' {A : Tr} (n : (A.map (·.1)).Nodup) {t : Nat} {p : Str × Tx} (e : A[t]? = some p) : p.1 ∉ (A.take t).map (·.1) := by
  rw [List.map_take]
  exact nd_new n (by rw [List.getElem?_map, e]; rfl)
theorem ok_l_copy (T : Txt K mg) : FnOk P w K mg base CX0 1 T.f_l_copy T.fd_l_copy ["tree"] (sp_l_copy K) := by
  refine T.F_l_copy.ok sc_l_copy (fun vs H Q E h => sp_l_copy_len h) (fun cdv A outer s H vs Q E hr h => ?_)
  refine ⟨_, (pss_cons (ps_set (i := 1) sc_l_copy.nd rfl (.inl rfl) pe_dnewK)
      (pss_cons (ps_lock (ps_for PassesOwn.never rfl (pi_keys (pv 0)) (pg_name (i := 2) sc_l_copy.nd rfl (.inl rfl)) (pss_one (ps_asg (pe_callTy (cr_listK K) (by rfl) T.m_list (by decide +kernel) (pa_cons (pe_ix (ix_K K (hu_of hr)) (pv 0) (pv 2) (fun _ _ => rfl)) pa_nil)) (pg_sub (pv 1) (pv 2) (set_any (hu_of hr)))))))
      (pss_one (ps_ret (pv 1))))), ?_⟩
  obtain ⟨a, A, rfl, ⟨kvs, ha, ek, nd, dq⟩, lA, q⟩ := h
  have hH := Has.start H
  have lk := tr_len ek
  refine g_start (σ' := [some (.ref a), none, none]) rfl ?_
  walk_at "gg"
  refine g_dnewK hH (fun d H1 n1 h1 => ?_)
  walk_at "gg"
  refine k_forDK rfl ha (Has.b0 h1) (fun t σ O' => ∃ (B : Bt) (y2 : Option V), σ = [some (.ref a), some (.ref d), y2] ∧ O' = (d, .dK (bK B)) :: (bO B ++ []) ∧ bA B = A.take t) ⟨[], _, rfl, rfl, rfl⟩ ?_ ?_
  · rintro t k v σ O' H2 od ekv ⟨B, y2, rfl, rfl, eB⟩ h2
    obtain ⟨p, ep, rfl⟩ := tr_key ek ekv
    obtain ⟨kv2, rd, ek2, _, dq2⟩ := (RT.lock (od := od) ha ⟨kvs, .inl ha, ek, nd, dq⟩).up h2.same
    obtain ⟨l, vl, hl⟩ := tr_at ek2 dq2 (getT_of nd (List.mem_of_getElem? ep))
    have lB : B.length ≤ t := by
      have := congrArg List.length eB
      unfold bA at this
      rw [List.length_map, List.length_take] at this
      omega
    have lt : t < A.length := (List.getElem?_eq_some_iff.mp ep).1
    walk_at "gg"
    refine g_ixDR rd vl ?_
    walk_at "gg"
    refine g_listL hl h2 (fun p1 H3 n3 h3 => ?_)
    have nz : p.1 ∉ B.map (·.1) := by
      rw [← bA_keys, eB]
      exact take_new' nd ep
    walk_at "gg"
    refine g_stD (k := .inr p.1) rfl h3 (.tl .hd) (szl (by unfold bK; rw [List.length_map]; omega)) (fun H4 h4 => ?_)
    rw [putK_new _ (bK_none nz)] at h4
    walk_at "gg"
    refine ⟨_, ⟨B ++ [(p.1, p1, p.2)], _, rfl, rfl, ?_⟩, Has.bput h4⟩
    rw [bA_snoc, eB, List.take_add_one, ep]
    rfl
  · rintro σ O' H2 ⟨B, y2, rfl, rfl, eB⟩ h2
    rw [lk, List.take_length] at eB
    rw [List.append_nil] at h2
    walk_at "gg"
    exact q d B H2 h2 eB
def sp_l_rising (K : PySem.W.Frag) : Sp := fun vs H Q _ => ∃ (a : Addr) (A : Tr), vs = [.ref a] ∧ TrAt H a A ∧ A.length ≤ 60 ∧ ∀ d (B : Bt) H', Has H ((d, .dK (bK B)) :: bO B) H' → AscT (bA B) → (∀ p, p ∈ bA B ↔ p ∈ A) → Q (.ref d) H'
theorem sp_l_rising_len {vs H Q E} (h : sp_l_rising K vs H Q E) : vs.length = 1 := by
  obtain ⟨_, _, rfl, _⟩ := h
  rfl
theorem ok_l_rising (T : Txt K mg) : FnOk P w K mg base CX0 1 T.f_l_rising T.fd_l_rising ["tree"] (sp_l_rising K) := by
  refine T.F_l_rising.ok sc_l_rising (fun vs H Q E h => sp_l_rising_len h) (fun cdv A outer s H vs Q E hr h => ?_)
  refine ⟨_, (pss_cons (ps_set (i := 1) sc_l_rising.nd rfl (.inl rfl) pe_dnewK)
      (pss_cons (ps_for PassesOwn.never rfl (k_il K (pi_list (pe_callB (cr_sortN K P w rfl (cr_sortA K rfl)) (by rfl) T.m_sorted (by decide +kernel) (pa_cons (pe_callTy (cr_listD rfl) (by rfl) T.m_list (by decide +kernel) (pa_cons (pv 0) pa_nil)) pa_nil)))) (pg_name (i := 2) sc_l_rising.nd rfl (.inl rfl)) (pss_one (ps_asg (pe_callTy (cr_listK K) (by rfl) T.m_list (by decide +kernel) (pa_cons (pe_ix (ix_K K (hu_of hr)) (pv 0) (pv 2) (fun _ _ => rfl)) pa_nil)) (pg_sub (pv 1) (pv 2) (set_any (hu_of hr))))))
      (pss_one (ps_ret (pv 1))))), ?_⟩
  obtain ⟨a, A, rfl, ⟨kvs, ha, ek, nd, dq⟩, lA, q⟩ := h
  have hH := Has.start H
  refine g_start (σ' := [some (.ref a), none, none]) rfl ?_
  walk_at "gg"
  refine g_dnewK hH (fun d H1 n1 h1 => ?_)
  walk_at "gg"
  refine g_listD (h1.same _ _ ha) h1 (fun p1 H2 n2 h2 => ?_)
  rw [tr_keys ek] at h2
  walk_at "gg"
  refine g_sortNA (g_sortS (h2.get (List.Mem.head _)) (by rw [List.length_map]; omega) h2 (fun us p2 H3 pm srt n3 h3 => ?_))
  have asc := asc_of srt (pm.nodup_iff.mpr nd)
  have h3 : Has H ((d, .dK (bK [])) :: (bO [] ++ [(p2, .lst (us.map V.str)), (p1, .lst ((A.map (·.1)).map V.str))])) H3 := h3.perm (by exact (List.perm_middle (l₁ := [_, _]) (l₂ := [])).symm)
  walk_at "gg"
  refine k_forL (h3.get (List.Mem.tail _ (List.Mem.head _))) (fun t σ H' => ∃ (B : Bt) (y2 : Option V), σ = [some (.ref a), some (.ref d), y2] ∧ Has H ((d, .dK (bK B)) :: (bO B ++ [(p2, .lst (us.map V.str)), (p1, .lst ((A.map (·.1)).map V.str))])) H' ∧ (bA B).map (·.1) = us.take t ∧ ∀ p ∈ bA B, p ∈ A) ⟨[], _, rfl, h3, rfl, fun p h => by cases h⟩ ?_ ?_ ?_
  · rintro t σ H' _ ⟨B, y2, rfl, h, _⟩
    exact h.get (List.mem_cons_of_mem _ (List.mem_append_right _ (List.Mem.head _)))
  · rintro t x σ H4 hx ⟨B, y2, rfl, h4, eB, sB⟩
    rw [List.getElem?_map] at hx
    obtain ⟨z, hz, rfl⟩ := Option.map_eq_some_iff.mp hx
    have zm : z ∈ A.map (·.1) := pm.mem_iff.mp (List.mem_of_getElem? hz)
    obtain ⟨p, hp, rfl⟩ := List.mem_map.mp zm
    obtain ⟨l, vl, hl⟩ := tr_at ek (dq.up h4.same _ _) (getT_of nd hp)
    have lt := (List.getElem?_eq_some_iff.mp hz).1
    have lu := pm.length_eq
    rw [List.length_map] at lu
    have lB : B.length ≤ t := by
      have := congrArg List.length eB
      unfold bA at this
      rw [List.length_map, List.length_map, List.length_take] at this
      omega
    have nz : p.1 ∉ B.map (·.1) := by
      rw [← bA_keys, eB]
      intro m
      exact nd_new asc.nodup hz m
    walk_at "gg"
    refine g_ixDS (h4.same _ _ ha) vl ?_
    walk_at "gg"
    refine g_listL hl h4 (fun p3 H5 n5 h5 => ?_)
    walk_at "gg"
    refine g_stD (k := .inr p.1) rfl h5 (.tl .hd) (szl (by unfold bK; rw [List.length_map]; omega)) (fun H6 h6 => ?_)
    rw [putK_new _ (bK_none nz)] at h6
    walk_at "gg"
    refine ⟨B ++ [(p.1, p3, p.2)], _, rfl, Has.bput h6, ?_, fun r hr => ?_⟩
    · rw [bA_snoc, List.map_append, eB, List.take_add_one, hz]
      rfl
    · rw [bA_snoc] at hr
      rcases List.mem_append.mp hr with hr | hr
      · exact sB r hr
      · rw [List.mem_singleton.mp hr]
        exact hp
  · rintro σ H4 ⟨B, y2, rfl, h4, eB, sB⟩
    rw [List.length_map, List.take_length] at eB
    walk_at "gg"
    refine q d B H4 (h4.sub (List.Sublist.cons_cons _ (List.sublist_append_left _ _))) (by unfold AscT; rw [eB]; exact asc) fun p => ⟨sB p, fun hp => ?_⟩
    have m : p.1 ∈ (bA B).map (·.1) := by
      rw [eB]
      exact pm.mem_iff.mpr (List.mem_map.mpr ⟨p, hp, rfl⟩)
    obtain ⟨r, hr, er⟩ := List.mem_map.mp m
    have e1 := getT_of nd hp
    have e2 := getT_of nd (sB r hr)
    rw [er, e1] at e2
    injection e2 with e2
    rw [show p = r from Prod.ext er.symm e2]
    exact hr
def sp_l_kept (K : PySem.W.Frag) : Sp := fun vs H Q _ => ∃ (a b : Addr) (A : Tr), vs = [.ref a, .ref b] ∧ TrAt H a A ∧ TrAt H b A ∧ okTr A ∧ ∀ H', Same H H' → Q (.bl true) H'
theorem sp_l_kept_len {vs H Q E} (h : sp_l_kept K vs H Q E) : vs.length = 2 := by
  obtain ⟨_, _, _, rfl, _⟩ := h
  rfl
theorem ok_l_kept (T : Txt K mg) : FnOk P w K mg base CX0 1 T.f_l_kept T.fd_l_kept ["passed", "tree"] (sp_l_kept K) := by
  refine T.F_l_kept.ok sc_l_kept (fun vs H Q E h => sp_l_kept_len h) (fun cdv A outer s H vs Q E hr h => ?_)
  refine ⟨_, (pss_one (ps_ret (pe_cmpR (op_eqK K hr.units) (LiI.pe_listItems rfl (pv 0) (by rfl) T.m_list (by decide +kernel)) (LiI.pe_listItems rfl (pv 1) (by rfl) T.m_list (by decide +kernel)) (nomark _)))), ?_⟩
  obtain ⟨a, b, A, rfl, ⟨ka, ha, eka, _, dqa⟩, ⟨kb, hb, ekb, _, dqb⟩, ok, q⟩ := h
  refine g_start (σ' := [some (.ref a), some (.ref b)]) rfl ?_
  walk_at "gg"
  refine g_listItems ?_
  walk_at "gg"
  refine g_items ha (fun p1 H1 ts1 s1 n1 e1 pd1 => ?_)
  walk_at "gg"
  refine g_listItems ?_
  walk_at "gg"
  refine g_items (s1 _ _ hb) (fun p2 H2 ts2 s2 n2 e2 pd2 => ?_)
  refine g_eqD (d := itD A) (e := itD A) (.lst (s2 _ _ e1) ((dq_items pd1 eka (dqa.up s1 _ _)).up s2 _ _)) (.lst e2 (dq_items pd2 ekb (dqb.up (s1.trans s2) _ _))) (sh_itD ok) (sh_itD ok) ?_
  rw [eqv_itD]
  exact q H2 (s1.trans s2)
def sp_l_spoil (K : PySem.W.Frag) : Sp := fun vs H Q _ => ∃ (d : Addr) (B : Bt) (F : Hp), vs = [.ref d] ∧ Has F ((d, .dK (bK B)) :: bO B) H ∧ (B.map (·.1)).Nodup ∧ B.length ≤ 1000 ∧ (∀ b ∈ B, b.2.2.length ≤ 1000) ∧ ∀ H', Same F H' → Q .non H'
theorem sp_l_spoil_len {vs H Q E} (h : sp_l_spoil K vs H Q E) : vs.length = 1 := by
  obtain ⟨_, _, _, rfl, _⟩ := h
  rfl
theorem ok_l_spoil (T : Txt K mg) : FnOk P w K mg base CX0 1 T.f_l_spoil T.fd_l_spoil ["tree"] (sp_l_spoil K) := by
  refine T.F_l_spoil.ok sc_l_spoil (fun vs H Q E h => sp_l_spoil_len h) (fun cdv A outer s H vs Q E hr h => ?_)
  refine ⟨_, (pss_cons (ps_for PassesOwn.never rfl (k_il K (pi_list (pe_callTy (cr_listD rfl) (by rfl) T.m_list (by decide +kernel) (pa_cons (pv 0) pa_nil)))) (pg_name (i := 1) sc_l_spoil.nd rfl (.inl rfl)) (pss_one (ps_expr (k_bm K (pe_bm PySem.F.plainAttrs_list PySem.F.slot_list_append PySem.F.type_list_append mt_append (pe_ix (ix_K K (hu_of hr)) (pv 0) (pv 1) (fun _ _ => rfl)) (pa_cons pe_str pa_nil))))))
      (pss_one (ps_asg (pe_lst (pa_cons pe_str pa_nil)) (pg_sub (pv 0) pe_str (set_any (hu_of hr)))))), ?_⟩
  obtain ⟨d, B, F, rfl, h, nd, lB, lt, q⟩ := h
  refine g_start (σ' := [some (.ref d), none]) rfl ?_
  walk_at "gg"
  refine g_listD (h.get (List.Mem.head _)) h (fun l H1 n1 h1 => ?_)
  have ek : (bK B).map (fun kv => kV kv.1) = (B.map (·.1)).map V.str := by
    unfold bK
    rw [List.map_map, List.map_map]
    rfl
  rw [ek] at h1
  refine k_forL (h1.get (List.Mem.head _)) (fun t σ H' => ∃ (C : Bt) (y1 : Option V), σ = [some (.ref d), y1] ∧ bK C = bK B ∧ Has F ((l, .lst ((B.map (·.1)).map V.str)) :: (d, .dK (bK C)) :: (bO C ++ [])) H' ∧ ∀ b ∈ C, b.2.2.length ≤ 1000 + t) ⟨B, _, rfl, rfl, by rw [List.append_nil]; exact h1, fun b hb => lt b hb⟩ ?_ ?_ ?_
  · rintro t σ H' _ ⟨C, y1, rfl, eC, h, _⟩
    exact h.get (List.Mem.head _)
  · rintro t x σ H2 hx ⟨C, y1, rfl, eC, h2, lC⟩
    rw [List.getElem?_map] at hx
    obtain ⟨z, hz, rfl⟩ := Option.map_eq_some_iff.mp hx
    have kC : C.map (·.1) = B.map (·.1) := by
      have := congrArg (List.map (·.1)) eC
      rw [bK_keys, bK_keys] at this
      have e : ∀ D : Bt, (bA D).map (fun p => kS p.1) = (D.map (·.1)).map kS := fun D => by
        unfold bA
        rw [List.map_map, List.map_map]
        rfl
      rw [e, e] at this
      exact (List.map_inj_right (fun a b h => Sum.inr.inj h)).mp this
    rw [← kC, List.getElem?_map] at hz
    obtain ⟨b, eb, rfl⟩ := Option.map_eq_some_iff.mp hz
    have tl : t < B.length := by
      have := (List.getElem?_eq_some_iff.mp eb).1
      have := congrArg List.length kC
      rw [List.length_map, List.length_map] at this
      omega
    have lb := lC b (List.mem_of_getElem? eb)
    walk_at "gg"
    refine g_ixDS (h2.get (List.Mem.tail _ (List.Mem.head _))) (bK_at (by rw [kC]; exact nd) eb) ?_
    have hb : H2 b.2.1 = some (.lst (b.2.2.map V.str)) := h2.get (List.mem_cons_of_mem _ (List.mem_cons_of_mem _ (List.mem_append_left _ (List.mem_map.mpr ⟨b, List.mem_of_getElem? eb, rfl⟩))))
    have c : Chg ((l, HO.lst ((B.map (·.1)).map V.str)) :: (d, .dK (bK C)) :: (bO C ++ [])) b.2.1 (.lst (b.2.2.map V.str)) (.lst (b.2.2.map V.str ++ [V.str "c"])) ((l, HO.lst ((B.map (·.1)).map V.str)) :: (d, .dK (bK C)) :: (bO (C.set t (b.1, b.2.1, b.2.2 ++ (["c"] : Tx))) ++ [])) := by
      have := Chg.bt (t := b.2.2 ++ (["c"] : Tx)) (O := []) eb
      rw [List.map_append] at this
      exact .tl (.tl this)
    walk_at "gg"
    refine g_append h2 c (szl (by rw [List.length_map]; omega)) (fun H3 h3 => ?_)
    walk_at "gg"
    have e3 := bK_set (t := b.2.2 ++ (["c"] : Tx)) eb
    refine ⟨C.set t (b.1, b.2.1, b.2.2 ++ (["c"] : Tx)), _, rfl, e3.trans eC, by rw [e3]; exact h3, fun r hr => ?_⟩
    rcases List.mem_or_eq_of_mem_set hr with hr | rfl
    · have := lC r hr
      omega
    · show (b.2.2 ++ (["c"] : Tx)).length ≤ _
      rw [List.length_append]
      show _ + 1 ≤ _
      omega
  · rintro σ H2 ⟨C, y1, rfl, eC, h2, lC⟩
    have l2 : (bK C).length ≤ 1000 := by
      rw [eC]
      unfold bK
      rw [List.length_map]
      exact lB
    walk_at "gg"
    refine g_klst (by walk_at "sz") h2 (fun p3 H3 n3 h3 => ?_)
    walk_at "gg"
    refine g_stD (k := .inr "zz") rfl h3 (.tl (.tl .hd)) (szl (by omega)) (fun H4 h4 => ?_)
    walk_at "gg"
    exact q H4 h4.same
end

end K07

namespace K07
open PySem PySem.Spec PyProof.Rows L2 Qk
local macro_rules | `(tactic| walk_at "m") => `(tactic| ((repeat (first | exact List.Mem.head _ | apply List.Mem.tail)); done))
local macro_rules | `(tactic| walk_at "h") => `(tactic| first | assumption | exact Has.gF (by assumption) (by assumption) | exact Has.get (by assumption) (by walk_at "m"))
local macro_rules | `(tactic| walk_at "c") => `(tactic| ((repeat (first | exact Chg.hd | apply Chg.tl)); done))
local macro_rules | `(tactic| walk_at "is") => `(tactic| first
  | ((with_reducible refine' is2_non ?gh ?_); (case gh => walk_at "h"))
  | (with_reducible refine is_int_list ?_)
  | (with_reducible refine is_int_tuple ?_)
  | (with_reducible refine is_int_dict ?_)
  | (with_reducible refine is_int_int ?_)
  | (with_reducible refine is_int_bool ?_)
  | (with_reducible refine is_int_str ?_)
  | ((with_reducible refine' is2_int ?gh ?_); (case gh => walk_at "h"))
  | (with_reducible refine is_str_list ?_)
  | (with_reducible refine is_str_tuple ?_)
  | (with_reducible refine is_str_dict ?_)
  | (with_reducible refine is_str_int ?_)
  | (with_reducible refine is_str_bool ?_)
  | (with_reducible refine is_str_str ?_)
  | ((with_reducible refine' is2_str ?gh ?_); (case gh => walk_at "h"))
  | (with_reducible refine is_bool_list ?_)
  | (with_reducible refine is_bool_tuple ?_)
  | (with_reducible refine is_bool_dict ?_)
  | (with_reducible refine is_bool_int ?_)
  | (with_reducible refine is_bool_bool ?_)
  | (with_reducible refine is_bool_str ?_)
  | ((with_reducible refine' is2_bool ?gh ?_); (case gh => walk_at "h"))
  | ((with_reducible refine' is_list_list ?gh ?_); (case gh => walk_at "h"))
  | ((with_reducible refine' is_list_tuple ?gh ?_); (case gh => walk_at "h"))
  | ((with_reducible refine' is_list_dict ?gh ?_); (case gh => walk_at "h"))
  | ((with_reducible refine' is_list_int ?gh ?_); (case gh => walk_at "h"))
  | ((with_reducible refine' is_list_bool ?gh ?_); (case gh => walk_at "h"))
  | ((with_reducible refine' is_list_str ?gh ?_); (case gh => walk_at "h"))
  | ((with_reducible refine' is2_list ?ga ?gb ?_); (case ga => walk_at "h"); (case gb => walk_at "h"))
  | ((with_reducible refine' is_tuple_list ?gh ?_); (case gh => walk_at "h"))
  | ((with_reducible refine' is_tuple_tuple ?gh ?_); (case gh => walk_at "h"))
  | ((with_reducible refine' is_tuple_dict ?gh ?_); (case gh => walk_at "h"))
  | ((with_reducible refine' is_tuple_int ?gh ?_); (case gh => walk_at "h"))
  | ((with_reducible refine' is_tuple_bool ?gh ?_); (case gh => walk_at "h"))
  | ((with_reducible refine' is_tuple_str ?gh ?_); (case gh => walk_at "h"))
  | ((with_reducible refine' is2_tuple ?ga ?gb ?_); (case ga => walk_at "h"); (case gb => walk_at "h"))
  | ((with_reducible refine' is_dict_list ?gh ?_); (case gh => walk_at "h"))
  | ((with_reducible refine' is_dict_tuple ?gh ?_); (case gh => walk_at "h"))
  | ((with_reducible refine' is_dict_dict ?gh ?_); (case gh => walk_at "h"))
  | ((with_reducible refine' is_dict_int ?gh ?_); (case gh => walk_at "h"))
  | ((with_reducible refine' is_dict_bool ?gh ?_); (case gh => walk_at "h"))
  | ((with_reducible refine' is_dict_str ?gh ?_); (case gh => walk_at "h"))
  | ((with_reducible refine' is2_dict ?ga ?gb ?_); (case ga => walk_at "h"); (case gb => walk_at "h")))
local macro_rules | `(tactic| walk_at "g") => `(tactic| first
  | (with_reducible refine g_seq ?_)
  | (with_reducible refine g_asg ?_)
  | ((with_reducible refine g_name ?_); dsimp only [List.set, wipe, List.map])
  | ((with_reducible refine' g_var ?gv ?_); (case gv => exact rfl))
  | (with_reducible refine g_c ?_)
  | (with_reducible refine g_op ?_)
  | (with_reducible refine g_cons ?_)
  | (with_reducible refine g_nil ?_)
  | (with_reducible refine g_cb ?_)
  | (with_reducible refine g_call ?_)
  | (with_reducible refine g_tup ?_)
  | (with_reducible refine g_lst ?_)
  | (with_reducible refine g_bm ?_)
  | (with_reducible refine g_bm0 ?_)
  | ((with_reducible refine' g_kbm ?gh ?_); (case gh => walk_at "h"))
  | (with_reducible refine g_drop ?_)
  | (with_reducible refine g_ret ?_)
  | (with_reducible refine g_retN ?_)
  | (with_reducible refine g_next ?_)
  | (with_reducible refine g_brk ?_)
  | (with_reducible refine g_cont ?_)
  | (with_reducible refine g_if ?_)
  | ((with_reducible refine' g_aug ?gv ?_); (case gv => exact rfl))
  | (with_reducible refine g_ipI ?_)
  | (with_reducible refine g_test ?_)
  | (with_reducible refine g_tB ?_)
  | (with_reducible refine g_kB ?_)
  | (with_reducible refine g_not ?_)
  | (with_reducible refine g_and ?_)
  | (with_reducible refine g_or ?_)
  | (with_reducible refine g_andV ?_)
  | (with_reducible refine g_orV ?_)
  | (with_reducible refine g_notV ?_)
  | (with_reducible refine g_ifE ?_)
  | (with_reducible refine g_addI ?_)
  | (with_reducible refine g_rI0 ?_)
  | (with_reducible refine g_eqI ?_)
  | (with_reducible refine g_eqS ?_)
  | (with_reducible refine g_neI ?_)
  | (with_reducible refine g_neS ?_)
  | (with_reducible refine g_isN ?_)
  | (with_reducible refine g_notN ?_)
  | (with_reducible refine g_int ?_)
  | (with_reducible refine g_max2 ?_)
  | (with_reducible refine g_min2 ?_)
  | ((with_reducible refine' g_lenL ?gh ?_); (case gh => walk_at "h"))
  | (with_reducible refine g_sub ?_)
  | (with_reducible refine g_gcons ?_)
  | (with_reducible refine g_gnil ?_)
  | (with_reducible refine g_un ?_)
  | (with_reducible refine g_rU ?_)
  | (with_reducible refine g_forL ?_)
  | (with_reducible refine g_forS ?_)
  | (with_reducible refine g_forR1 ?_)
  | (with_reducible refine g_forR2 ?_)
  | (with_reducible refine g_forR3 ?_)
  | (with_reducible refine g_lcL ?_)
  | (with_reducible refine g_lcR1 ?_)
  | (with_reducible refine g_lcR2 ?_)
  | (with_reducible refine g_slice ?_)
  | (with_reducible refine g_part ?_)
  | (with_reducible refine g_kOI ?_)
  | (with_reducible refine g_nopart ?_)
  | (with_reducible refine g_yes ?_)
  | ((with_reducible refine' g_wipe ?gv ?_); (case gv => exact rfl))
  | (with_reducible refine iteT ?_)
  | (with_reducible refine iteF ?_)
  | (with_reducible refine i_nf ?_)
  | (with_reducible refine i_nt ?_)
  | ((with_reducible refine' g_gtup ?gh ?gl ?_); (case gh => walk_at "h"); (case gl => exact rfl))
  | ((with_reducible refine' g_notinI ?gh ?_); (case gh => walk_at "h"))
  | ((with_reducible refine' g_inI ?gh ?_); (case gh => walk_at "h"))
  | ((with_reducible refine' g_kget2 ?gh ?_); (case gh => walk_at "h"))
  | ((with_reducible refine' g_kgotI ?gh ?_); (case gh => walk_at "h"))
  | (with_reducible refine g_tRev ?_)
  | (with_reducible refine g_neB ?_)
  | (with_reducible refine g_eqB ?_)
  | ((with_reducible refine' g_lenT ?gh ?_); (case gh => walk_at "h"))
  | (with_reducible refine g_star ?_)
  | ((with_reducible refine' g_kstarL ?gh ?_); (case gh => walk_at "h"))
  | ((with_reducible refine' g_kstarT ?gh ?_); (case gh => walk_at "h"))
  | (with_reducible refine g_tru ?_)
  | ((with_reducible refine' g_truL ?gh ?_); (case gh => walk_at "h"))
  | (with_reducible refine g_get2 ?_)
  | (with_reducible refine g_try ?_)
  | (with_reducible refine g_fld ?_)
  | (with_reducible refine g_sfld ?_)
  | (with_reducible refine g_meth ?_)
  | (with_reducible refine g_make ?_)
  | (with_reducible refine g_del ?_)
  | (with_reducible refine g_callS ?_)
  | (with_reducible refine g_raise ?_)
  | (with_reducible refine g_xf ?_)
  | (with_reducible refine g_m0 ?_)
  | (with_reducible refine g_km0 ?_)
  | walk_at "is")
local macro_rules | `(tactic| walk_at "gg") => `(tactic| repeat walk_at "g")
local macro_rules | `(tactic| walk_at "sz") => `(tactic| (refine sz ?_; simp only [List.length_cons, List.length_nil, List.length_map, List.length_append, List.length_replicate]; omega))
local macro_rules | `(tactic| walk_at "sub") => `(tactic| ((repeat (first | exact List.Sublist.slnil | with_reducible apply List.Sublist.cons_cons | with_reducible apply List.Sublist.cons)); done))

def kForE (K : PySem.W.Frag) (g : TG) (tb : TS) (D : Ends) (σ : L2.St) (vs : List V) (H : Hp) : Prop := ∃ a xs, vs = [.ref a] ∧ SqL K H a xs ∧ kW (Ite K a) g tb D σ H
theorem g_forE {K : PySem.W.Frag} {σ : L2.St} {H : Hp} {D : Ends} {ts : TS} {g : TG} {ta : TA} (q : ta σ H fun vs H1 => kForE K g ts D σ vs H1) : tFor (iEnum K ta) g ts D σ H := by
  have e : (tFor (iEnum K ta) g ts D σ H) = (ta σ H fun vs H1 => kForE K g ts D σ vs H1) := rfl
  rw [e]
  exact q
theorem k_forE {K : PySem.W.Frag} {σ : L2.St} {H : Hp} {D : Ends} {ts : TS} {g : TG} {a : Addr} {xs : List V} (h : H a = some (.lst xs)) (Pv : Nat → L2.St → Hp → Prop) (h0 : Pv 0 σ H) (hl : ∀ i σ H, Pv i σ H → H a = some (.lst xs))
    (hs : ∀ i x σ H T, xs[i]? = some x → Pv i σ H → H T = none → g (.ref T) σ (upd H T (.tup [.int (i : Nat), x])) fun σ2 H2 => ts { D with nx := Pv (i + 1), ct := Pv (i + 1), bk := D.nx } σ2 H2) (hd : ∀ σ H, Pv xs.length σ H → D.nx σ H) : kForE K g ts D σ [.ref a] H := by
  refine ⟨a, xs, rfl, SqL.of h, fun i m σ H => m = xs.length - i ∧ i ≤ xs.length ∧ Pv i σ H, ⟨_, rfl, Nat.zero_le _, h0⟩, ?_⟩
  rintro i m σ H1 ⟨rfl, hi, p⟩
  have hq : SqL K H1 a xs := SqL.of (hl i σ H1 p)
  by_cases hlt : i < xs.length
  · refine .inr ⟨⟨xs, xs[i], hq, List.getElem?_eq_getElem hlt⟩, Pv (i + 1), fun σ' H' p' => ⟨xs.length - (i + 1), by omega, rfl, hlt, p'⟩, ?_⟩
    rintro x H' ⟨T, y, rfl, n, rfl, e⟩
    exact hs i y σ H1 T (e xs hq) p n
  · have e : i = xs.length := by omega
    subst e
    exact .inl ⟨⟨xs, hq, Nat.le_refl _⟩, hd σ H1 p⟩
local macro_rules | `(tactic| walk_at "g") => `(tactic| (with_reducible refine g_forE ?_))

local macro_rules | `(tactic| walk_at "g") => `(tactic| (with_reducible refine g_forE ?_))

local macro_rules | `(tactic| walk_at "g") => `(tactic| first
  | (with_reducible refine g_dcL ?_)
  | (with_reducible refine g_dcT ?_)
  | (with_reducible refine g_m1s ?_)
  | (with_reducible refine g_km1s ?_)
  | (with_reducible refine g_starts ?_)
  | (with_reducible refine g_tryX ?_)
  | (with_reducible refine g_lcS ?_))

/-! ### lines and texts -/
def signsL : List Nat := ("abcdefghijklmnopqrstuvwxyz0123456789 <=>|-" : Str).cps.toList
def allIn (L : List Nat) (z : Str) : Bool := z.cps.toList.all fun c => decide (c ∈ L)
def isLine (z : Str) : Bool := decide (z.length ≤ 20) && allIn signsL z
def badF : Nat → Tx → Option Nat
  | _, [] => none
  | k, z :: r => if 40 ≤ k then some k else if isLine z = true then badF (k + 1) r else some k
def badT (t : Tx) : Option Nat := badF 0 t
theorem badF_drop {t : Tx} {i : Nat} {z : Str} (h : t[i]? = some z) : badF i (t.drop i) = if 40 ≤ i then some i else if isLine z = true then badF (i + 1) (t.drop (i + 1)) else some i := by
  obtain ⟨lt, e⟩ := List.getElem?_eq_some_iff.mp h
  rw [List.drop_eq_getElem_cons lt, e]
  rfl
theorem badF_end (t : Tx) (i : Nat) (h : t.length ≤ i) : badF i (t.drop i) = none := by
  rw [List.drop_of_length_le h]
  rfl
theorem allIn_at {L : List Nat} {z : Str} : allIn L z = true ↔ ∀ (i : Nat) (c : Nat), z.cps[i]? = some c → c ∈ L := by
  unfold allIn
  rw [List.all_eq_true]
  constructor
  · intro h i c e
    exact of_decide_eq_true (h c (by rw [Array.mem_toList_iff]; exact Array.mem_of_getElem? e))
  · intro h c hc
    obtain ⟨i, hi⟩ := Array.getElem?_of_mem (Array.mem_toList_iff.mp hc)
    exact decide_eq_true (h i c hi)
section
variable {P : Program} {w : World} {K : PySem.W.Frag} {mg : Str → Option Value} {base : Heap}
def lost_pl (C : Addr) (H : Hp) (E : XK) (i : Int) : Prop := ∀ e H', Same H H' → H e = none → H' e = some (.xd [("place", .int i)]) → E (.ref C) (some e) H'
def sp_is_line (K : PySem.W.Frag) : Sp := fun vs H Q _ => ∃ z : Str, vs = [.str z] ∧ z.length ≤ 10000 ∧ Q (.bl (isLine z)) H
theorem sp_is_line_len {vs H Q E} (h : sp_is_line K vs H Q E) : vs.length = 1 := by
  obtain ⟨_, rfl, _⟩ := h
  rfl
theorem ok_is_line (T : Txt K mg) : FnOk P w K mg base CX0 1 T.f_is_line T.fd_is_line ["value"] (sp_is_line K) := by
  refine T.F_is_line.ok sc_is_line (fun vs H Q E h => sp_is_line_len h) (fun cdv A outer s H vs Q E hr h => ?_)
  refine ⟨_, (pss_cons (ps_if (pt_cmpR op_gt (pe_callB (cr_lenK K) (by rfl) T.m_len (by decide +kernel) (pa_cons (pv 0) pa_nil)) (pe_gc (v := .int 20) (by rfl) T.k_LINE_LENGTH) (nomark _)) (pss_one (ps_ret pe_bl)) pss_nil)
      (pss_cons (ps_for PassesOwn.never rfl (pi_str (pv 0)) (pg_name (i := 1) sc_is_line.nd rfl (.inl rfl)) (pss_one (ps_if (pt_cmpR (op_notinK K hr.units (u65 hr)) (pv 1) (pe_gc (v := .str "abcdefghijklmnopqrstuvwxyz0123456789 <=>|-") (by rfl) T.k_SIGNS) (by rfl)) (pss_one (ps_ret pe_bl)) pss_nil)))
      (pss_one (ps_ret pe_bl)))), ?_⟩
  obtain ⟨z, rfl, lz, q⟩ := h
  refine g_start (σ' := [some (.str z), none]) rfl ?_
  walk_at "gg"
  refine g_lenS (sz (by omega)) ?_
  walk_at "gg"
  refine i_d (fun e => ?_) (fun e => ?_)
  · walk_at "gg"
    have : isLine z = false := by
      unfold isLine
      rw [decide_eq_false (by omega), Bool.false_and]
    rw [this] at q
    exact q
  walk_at "gg"
  refine k_forS (fun i σ H' => (∃ y1, σ = [some (.str z), y1] ∧ H' = H) ∧ ∀ j c, j < i → z.cps[j]? = some c → c ∈ signsL) ⟨⟨_, rfl, rfl⟩, fun j c h => absurd h (Nat.not_lt_zero _)⟩ ?_ ?_
  · rintro i c σ H' hc ⟨⟨y1, rfl, rfl⟩, ok⟩
    walk_at "gg"
    refine g_notinC ?_
    walk_at "gg"
    refine i_n (fun no => ?_) (fun yes => ?_)
    · walk_at "gg"
      have : isLine z = false := by
        unfold isLine
        cases e : allIn signsL z with
        | false => rw [Bool.and_false]
        | true => exact (no (allIn_at.mp e i c hc)).elim
      rw [this] at q
      exact q
    · walk_at "gg"
      refine ⟨⟨_, rfl, rfl⟩, fun j d lt hd => ?_⟩
      by_cases e : j = i
      · subst e
        rw [hc] at hd
        injection hd with hd
        rw [← hd]
        exact yes
      · exact ok j d (by omega) hd
  · rintro σ H' ⟨⟨y1, rfl, rfl⟩, ok⟩
    walk_at "gg"
    have : isLine z = true := by
      unfold isLine
      rw [decide_eq_true (by omega), Bool.true_and]
      refine allIn_at.mpr fun i c hc => ok i c ?_ hc
      have := (Array.getElem?_eq_some_iff.mp hc).1
      exact this
    rw [this] at q
    exact q
def sp_checked_text (T : Txt K mg) : Sp := fun vs H Q E => ∃ (l : Addr) (t : Tx), vs = [.ref l] ∧ H l = some (.lst (t.map V.str)) ∧ (∀ z ∈ t, z.length ≤ 10000) ∧ t.length ≤ 1000 ∧
  (badT t = none → ∀ p H', Same H H' → H p = none → H' p = some (.lst (t.map V.str)) → Q (.ref p) H') ∧ (∀ k, badT t = some k → lost_pl T.C_BadText H E (k : Nat))
theorem sp_checked_text_len {T : Txt K mg} {vs H Q E} (h : sp_checked_text T vs H Q E) : vs.length = 1 := by
  obtain ⟨_, _, rfl, _⟩ := h
  rfl
theorem ok_checked_text (T : Txt K mg) : FnOk P w K mg base (L2N.CX P w) 3 T.f_checked_text T.fd_checked_text ["text"] (sp_checked_text T) := by
  refine Fun.okN T.F_checked_text sc_checked_text (fun vs H Q E h => sp_checked_text_len h) (fun cdv A outer s H vs Q E hr h => ?_)
  refine ⟨_, (pss_cons (ps_for (L2.passes_of rfl) rfl (pi_enum (by rfl) T.m_enumerate (pa_cons (pv 0) pa_nil)) (k_gt K (pg_tup (by rfl) (pgs_cons (pg_name (i := 1) sc_checked_text.nd rfl (.inl rfl)) (pgs_cons (pg_name (i := 2) sc_checked_text.nd rfl (.inl rfl)) pgs_nil)))) (pss_cons (ps_if (pt_cmpR op_ge (pv 1) (pe_gc (v := .int 40) (by rfl) T.k_TEXT_LENGTH) (nomark _)) (pss_one (k_raise rfl (L2N.takes_of rfl rfl rfl rfl) (pmk_oexN T.O_BadText T.iC_BadText T.tI_BadText (ok_init_BadText T) (hr.mono (by decide)) T.bi_BadText pass0 (by rfl) T.g_BadText (pa_cons (pv 1) pa_nil)))) pss_nil)
      (pss_one (ps_if (pt_not (pt_val (pe_call (ok_is_line T) (hr.mono (by decide)) (by rfl) T.g_is_line T.F_is_line.kp T.b_is_line .nil pass0 (pa_cons (pv 2) pa_nil)))) (pss_one (k_raise rfl (L2N.takes_of rfl rfl rfl rfl) (pmk_oexN T.O_BadText T.iC_BadText T.tI_BadText (ok_init_BadText T) (hr.mono (by decide)) T.bi_BadText pass0 (by rfl) T.g_BadText (pa_cons (pv 1) pa_nil)))) pss_nil))))
      (pss_one (ps_ret (pe_callTy (cr_listK K) (by rfl) T.m_list (by decide +kernel) (pa_cons (pv 0) pa_nil))))), ?_⟩
  obtain ⟨l, t, rfl, hl, lz, lt, q, qe⟩ := h
  refine g_start (σ' := [some (.ref l), none, none]) rfl ?_
  walk_at "gg"
  refine k_forE hl (fun i σ H' => (∃ y1 y2, σ = [some (.ref l), y1, y2] ∧ Same H H') ∧ badT t = badF i (t.drop i)) ⟨⟨_, _, rfl, Same.refl _⟩, by rw [List.drop_zero]; rfl⟩ ?_ ?_ ?_
  · rintro i σ H' ⟨⟨y1, y2, rfl, s⟩, _⟩
    exact s _ _ hl
  · rintro i xx σ H2 T2 hx ⟨⟨y1, y2, rfl, s⟩, eb⟩ nT
    obtain ⟨z, hz, rfl⟩ := str_at hx
    have h2 := (Has.start H2).new (o := .tup [.int (i : Nat), .str z]) nT
    refine g_gtup (h2.get (List.Mem.head _)) rfl ?_
    walk_at "gg"
    have h2 := h2.drop
    generalize upd H2 T2 _ = H3 at h2
    have s3 := s.trans h2.same
    rw [badF_drop hz] at eb
    refine i_d (fun e => ?_) (fun e => ?_)
    · rw [if_pos (by omega)] at eb
      walk_at "gg"
      exact g_mk rfl (by decide) h2 (fun e H' n' h' => qe i eb e H' (s.trans h'.same) (s3.free n') (h'.get (List.Mem.head _)))
    rw [if_neg (by omega)] at eb
    walk_at "gg"
    refine ⟨z, rfl, lz z (List.mem_of_getElem? hz), ?_⟩
    walk_at "gg"
    cases hb : isLine z with
    | false =>
      rw [hb, if_neg (by decide)] at eb
      walk_at "gg"
      exact g_mk rfl (by decide) h2 (fun e H' n' h' => qe i eb e H' (s.trans h'.same) (s3.free n') (h'.get (List.Mem.head _)))
    | true =>
      rw [hb, if_pos rfl] at eb
      walk_at "gg"
      exact ⟨⟨_, _, rfl, s3⟩, eb⟩
  · rintro σ H2 ⟨⟨y1, y2, rfl, s⟩, eb⟩
    rw [badF_end _ _ (by rw [List.length_map]; omega)] at eb
    walk_at "gg"
    refine g_listL (s _ _ hl) (Has.start H2) (fun p H3 n3 h3 => ?_)
    exact q eb p H3 (s.trans h3.same) (s.free n3) (h3.get (List.Mem.head _))
end

end K07

namespace K07
open PySem PySem.Spec PyProof.Rows L2 Qk
local macro_rules | `(tactic| walk_at "m") => `(tactic| ((repeat (first | exact List.Mem.head _ | apply List.Mem.tail)); done))
local macro_rules | `(tactic| walk_at "h") => `(tactic| first | assumption | exact Has.gF (by assumption) (by assumption) | exact Has.get (by assumption) (by walk_at "m"))
local macro_rules | `(tactic| walk_at "c") => `(tactic| ((repeat (first | exact Chg.hd | apply Chg.tl)); done))
local macro_rules | `(tactic| walk_at "is") => `(tactic| first
  | ((with_reducible refine' is2_non ?gh ?_); (case gh => walk_at "h"))
  | (with_reducible refine is_int_list ?_)
  | (with_reducible refine is_int_tuple ?_)
  | (with_reducible refine is_int_dict ?_)
  | (with_reducible refine is_int_int ?_)
  | (with_reducible refine is_int_bool ?_)
  | (with_reducible refine is_int_str ?_)
  | ((with_reducible refine' is2_int ?gh ?_); (case gh => walk_at "h"))
  | (with_reducible refine is_str_list ?_)
  | (with_reducible refine is_str_tuple ?_)
  | (with_reducible refine is_str_dict ?_)
  | (with_reducible refine is_str_int ?_)
  | (with_reducible refine is_str_bool ?_)
  | (with_reducible refine is_str_str ?_)
  | ((with_reducible refine' is2_str ?gh ?_); (case gh => walk_at "h"))
  | (with_reducible refine is_bool_list ?_)
  | (with_reducible refine is_bool_tuple ?_)
  | (with_reducible refine is_bool_dict ?_)
  | (with_reducible refine is_bool_int ?_)
  | (with_reducible refine is_bool_bool ?_)
  | (with_reducible refine is_bool_str ?_)
  | ((with_reducible refine' is2_bool ?gh ?_); (case gh => walk_at "h"))
  | ((with_reducible refine' is_list_list ?gh ?_); (case gh => walk_at "h"))
  | ((with_reducible refine' is_list_tuple ?gh ?_); (case gh => walk_at "h"))
  | ((with_reducible refine' is_list_dict ?gh ?_); (case gh => walk_at "h"))
  | ((with_reducible refine' is_list_int ?gh ?_); (case gh => walk_at "h"))
  | ((with_reducible refine' is_list_bool ?gh ?_); (case gh => walk_at "h"))
  | ((with_reducible refine' is_list_str ?gh ?_); (case gh => walk_at "h"))
  | ((with_reducible refine' is2_list ?ga ?gb ?_); (case ga => walk_at "h"); (case gb => walk_at "h"))
  | ((with_reducible refine' is_tuple_list ?gh ?_); (case gh => walk_at "h"))
  | ((with_reducible refine' is_tuple_tuple ?gh ?_); (case gh => walk_at "h"))
  | ((with_reducible refine' is_tuple_dict ?gh ?_); (case gh => walk_at "h"))
  | ((with_reducible refine' is_tuple_int ?gh ?_); (case gh => walk_at "h"))
  | ((with_reducible refine' is_tuple_bool ?gh ?_); (case gh => walk_at "h"))
  | ((with_reducible refine' is_tuple_str ?gh ?_); (case gh => walk_at "h"))
  | ((with_reducible refine' is2_tuple ?ga ?gb ?_); (case ga => walk_at "h"); (case gb => walk_at "h"))
  | ((with_reducible refine' is_dict_list ?gh ?_); (case gh => walk_at "h"))
  | ((with_reducible refine' is_dict_tuple ?gh ?_); (case gh => walk_at "h"))
  | ((with_reducible refine' is_dict_dict ?gh ?_); (case gh => walk_at "h"))
  | ((with_reducible refine' is_dict_int ?gh ?_); (case gh => walk_at "h"))
  | ((with_reducible refine' is_dict_bool ?gh ?_); (case gh => walk_at "h"))
  | ((with_reducible refine' is_dict_str ?gh ?_); (case gh => walk_at "h"))
  | ((with_reducible refine' is2_dict ?ga ?gb ?_); (case ga => walk_at "h"); (case gb => walk_at "h")))
local macro_rules | `(tactic| walk_at "g") => `(tactic| first
  | (with_reducible refine g_seq ?_)
  | (with_reducible refine g_asg ?_)
  | ((with_reducible refine g_name ?_); dsimp only [List.set, wipe, List.map])
  | ((with_reducible refine' g_var ?gv ?_); (case gv => exact rfl))
  | (with_reducible refine g_c ?_)
  | (with_reducible refine g_op ?_)
  | (with_reducible refine g_cons ?_)
  | (with_reducible refine g_nil ?_)
  | (with_reducible refine g_cb ?_)
  | (with_reducible refine g_call ?_)
  | (with_reducible refine g_tup ?_)
  | (with_reducible refine g_lst ?_)
  | (with_reducible refine g_bm ?_)
  | (with_reducible refine g_bm0 ?_)
  | ((with_reducible refine' g_kbm ?gh ?_); (case gh => walk_at "h"))
  | (with_reducible refine g_drop ?_)
  | (with_reducible refine g_ret ?_)
  | (with_reducible refine g_retN ?_)
  | (with_reducible refine g_next ?_)
  | (with_reducible refine g_brk ?_)
  | (with_reducible refine g_cont ?_)
  | (with_reducible refine g_if ?_)
  | ((with_reducible refine' g_aug ?gv ?_); (case gv => exact rfl))
  | (with_reducible refine g_ipI ?_)
  | (with_reducible refine g_test ?_)
  | (with_reducible refine g_tB ?_)
  | (with_reducible refine g_kB ?_)
  | (with_reducible refine g_not ?_)
  | (with_reducible refine g_and ?_)
  | (with_reducible refine g_or ?_)
  | (with_reducible refine g_andV ?_)
  | (with_reducible refine g_orV ?_)
  | (with_reducible refine g_notV ?_)
  | (with_reducible refine g_ifE ?_)
  | (with_reducible refine g_addI ?_)
  | (with_reducible refine g_rI0 ?_)
  | (with_reducible refine g_eqI ?_)
  | (with_reducible refine g_eqS ?_)
  | (with_reducible refine g_neI ?_)
  | (with_reducible refine g_neS ?_)
  | (with_reducible refine g_isN ?_)
  | (with_reducible refine g_notN ?_)
  | (with_reducible refine g_int ?_)
  | (with_reducible refine g_max2 ?_)
  | (with_reducible refine g_min2 ?_)
  | ((with_reducible refine' g_lenL ?gh ?_); (case gh => walk_at "h"))
  | (with_reducible refine g_sub ?_)
  | (with_reducible refine g_gcons ?_)
  | (with_reducible refine g_gnil ?_)
  | (with_reducible refine g_un ?_)
  | (with_reducible refine g_rU ?_)
  | (with_reducible refine g_forL ?_)
  | (with_reducible refine g_forS ?_)
  | (with_reducible refine g_forR1 ?_)
  | (with_reducible refine g_forR2 ?_)
  | (with_reducible refine g_forR3 ?_)
  | (with_reducible refine g_lcL ?_)
  | (with_reducible refine g_lcR1 ?_)
  | (with_reducible refine g_lcR2 ?_)
  | (with_reducible refine g_slice ?_)
  | (with_reducible refine g_part ?_)
  | (with_reducible refine g_kOI ?_)
  | (with_reducible refine g_nopart ?_)
  | (with_reducible refine g_yes ?_)
  | ((with_reducible refine' g_wipe ?gv ?_); (case gv => exact rfl))
  | (with_reducible refine iteT ?_)
  | (with_reducible refine iteF ?_)
  | (with_reducible refine i_nf ?_)
  | (with_reducible refine i_nt ?_)
  | ((with_reducible refine' g_gtup ?gh ?gl ?_); (case gh => walk_at "h"); (case gl => exact rfl))
  | ((with_reducible refine' g_notinI ?gh ?_); (case gh => walk_at "h"))
  | ((with_reducible refine' g_inI ?gh ?_); (case gh => walk_at "h"))
  | ((with_reducible refine' g_kget2 ?gh ?_); (case gh => walk_at "h"))
  | ((with_reducible refine' g_kgotI ?gh ?_); (case gh => walk_at "h"))
  | (with_reducible refine g_tRev ?_)
  | (with_reducible refine g_neB ?_)
  | (with_reducible refine g_eqB ?_)
  | ((with_reducible refine' g_lenT ?gh ?_); (case gh => walk_at "h"))
  | (with_reducible refine g_star ?_)
  | ((with_reducible refine' g_kstarL ?gh ?_); (case gh => walk_at "h"))
  | ((with_reducible refine' g_kstarT ?gh ?_); (case gh => walk_at "h"))
  | (with_reducible refine g_tru ?_)
  | ((with_reducible refine' g_truL ?gh ?_); (case gh => walk_at "h"))
  | (with_reducible refine g_get2 ?_)
  | (with_reducible refine g_try ?_)
  | (with_reducible refine g_fld ?_)
  | (with_reducible refine g_sfld ?_)
  | (with_reducible refine g_meth ?_)
  | (with_reducible refine g_make ?_)
  | (with_reducible refine g_del ?_)
  | (with_reducible refine g_callS ?_)
  | (with_reducible refine g_raise ?_)
  | (with_reducible refine g_xf ?_)
  | (with_reducible refine g_m0 ?_)
  | (with_reducible refine g_km0 ?_)
  | walk_at "is")
local macro_rules | `(tactic| walk_at "gg") => `(tactic| repeat walk_at "g")
local macro_rules | `(tactic| walk_at "sz") => `(tactic| (refine sz ?_; simp only [List.length_cons, List.length_nil, List.length_map, List.length_append, List.length_replicate]; omega))
local macro_rules | `(tactic| walk_at "sub") => `(tactic| ((repeat (first | exact List.Sublist.slnil | with_reducible apply List.Sublist.cons_cons | with_reducible apply List.Sublist.cons)); done))

local macro_rules | `(tactic| walk_at "g") => `(tactic| first
  | (with_reducible refine g_dcL ?_)
  | (with_reducible refine g_dcT ?_)
  | (with_reducible refine g_m1s ?_)
  | (with_reducible refine g_km1s ?_)
  | (with_reducible refine g_starts ?_)
  | (with_reducible refine g_tryX ?_)
  | (with_reducible refine g_lcS ?_))

/-! ### paths -/
def wsignsL : List Nat := ("abcdefghijklmnopqrstuvwxyz0123456789" : Str).cps.toList
def isWord (z : Str) : Bool := decide (1 ≤ z.length) && (decide (z.length ≤ 6) && allIn wsignsL z)
def isPath (z : Str) : Bool := decide ((Txt.split z "/").length ≤ 3) && (Txt.split z "/").all isWord
theorem len_zero {z : Str} : z = "" ↔ z.length = 0 := by
  constructor
  · rintro rfl
    rfl
  · intro h
    cases z with
    | mk cps =>
      have h : cps.size = 0 := h
      have : cps = #[] := Array.eq_empty_of_size_eq_zero h
      rw [this]
      rfl
section
variable {P : Program} {w : World} {K : PySem.W.Frag} {mg : Str → Option Value} {base : Heap}
def sp_is_word (K : PySem.W.Frag) : Sp := fun vs H Q _ => ∃ z : Str, vs = [.str z] ∧ z.length ≤ 10000 ∧ Q (.bl (isWord z)) H
theorem sp_is_word_len {vs H Q E} (h : sp_is_word K vs H Q E) : vs.length = 1 := by
  obtain ⟨_, rfl, _⟩ := h
  rfl
theorem ok_is_word (T : Txt K mg) : FnOk P w K mg base CX0 1 T.f_is_word T.fd_is_word ["value"] (sp_is_word K) := by
  refine T.F_is_word.ok sc_is_word (fun vs H Q E h => sp_is_word_len h) (fun cdv A outer s H vs Q E hr h => ?_)
  refine ⟨_, (pss_cons (ps_if (pt_cmpR (op_eqK K hr.units) (pv 0) pe_str (nomark _)) (pss_one (ps_ret pe_bl)) pss_nil)
      (pss_cons (ps_if (pt_cmpR op_gt (pe_callB (cr_lenK K) (by rfl) T.m_len (by decide +kernel) (pa_cons (pv 0) pa_nil)) (pe_gc (v := .int 6) (by rfl) T.k_WORD_LENGTH) (nomark _)) (pss_one (ps_ret pe_bl)) pss_nil)
      (pss_cons (ps_for PassesOwn.never rfl (pi_str (pv 0)) (pg_name (i := 1) sc_is_word.nd rfl (.inl rfl)) (pss_one (ps_if (pt_cmpR (op_notinK K hr.units (u65 hr)) (pv 1) (pe_gc (v := .str "abcdefghijklmnopqrstuvwxyz0123456789") (by rfl) T.k_WORD_SIGNS) (by rfl)) (pss_one (ps_ret pe_bl)) pss_nil)))
      (pss_one (ps_ret pe_bl))))), ?_⟩
  obtain ⟨z, rfl, lz, q⟩ := h
  refine g_start (σ' := [some (.str z), none]) rfl ?_
  walk_at "gg"
  refine i_d (fun e => ?_) (fun ne => ?_)
  · walk_at "gg"
    have : isWord z = false := by
      unfold isWord
      rw [decide_eq_false (by rw [len_zero.mp e]; decide), Bool.false_and]
    rw [this] at q
    exact q
  have l1 : 1 ≤ z.length := by
    have : z.length ≠ 0 := fun h => ne (len_zero.mpr h)
    omega
  walk_at "gg"
  refine g_lenS (sz (by omega)) ?_
  walk_at "gg"
  refine i_d (fun e => ?_) (fun e => ?_)
  · walk_at "gg"
    have : isWord z = false := by
      unfold isWord
      rw [decide_eq_false (p := z.length ≤ 6) (by omega), Bool.false_and, Bool.and_false]
    rw [this] at q
    exact q
  have core : isWord z = allIn wsignsL z := by
    unfold isWord
    rw [decide_eq_true l1, decide_eq_true (by omega), Bool.true_and, Bool.true_and]
  rw [core] at q
  walk_at "gg"
  refine k_forS (fun i σ H' => (∃ y1, σ = [some (.str z), y1] ∧ H' = H) ∧ ∀ j c, j < i → z.cps[j]? = some c → c ∈ wsignsL) ⟨⟨_, rfl, rfl⟩, fun j c h => absurd h (Nat.not_lt_zero _)⟩ ?_ ?_
  · rintro i c σ H' hc ⟨⟨y1, rfl, rfl⟩, ok⟩
    walk_at "gg"
    refine g_notinC ?_
    walk_at "gg"
    refine i_n (fun no => ?_) (fun yes => ?_)
    · walk_at "gg"
      have : allIn wsignsL z = false := by
        cases e : allIn wsignsL z with
        | false => rfl
        | true => exact (no (allIn_at.mp e i c hc)).elim
      rw [this] at q
      exact q
    · walk_at "gg"
      refine ⟨⟨_, rfl, rfl⟩, fun j d lt hd => ?_⟩
      by_cases e : j = i
      · subst e
        rw [hc] at hd
        injection hd with hd
        rw [← hd]
        exact yes
      · exact ok j d (by omega) hd
  · rintro σ H' ⟨⟨y1, rfl, rfl⟩, ok⟩
    walk_at "gg"
    have : allIn wsignsL z = true := allIn_at.mpr fun i c hc => ok i c (Array.getElem?_eq_some_iff.mp hc).1 hc
    rw [this] at q
    exact q
def sp_is_path (K : PySem.W.Frag) : Sp := fun vs H Q _ => ∃ z : Str, vs = [.str z] ∧ z.length ≤ 5000 ∧ ∀ H', Same H H' → Q (.bl (isPath z)) H'
theorem sp_is_path_len {vs H Q E} (h : sp_is_path K vs H Q E) : vs.length = 1 := by
  obtain ⟨_, rfl, _⟩ := h
  rfl
theorem ok_is_path (T : Txt K mg) : FnOk P w K mg base CX0 2 T.f_is_path T.fd_is_path ["value"] (sp_is_path K) := by
  refine T.F_is_path.ok sc_is_path (fun vs H Q E h => sp_is_path_len h) (fun cdv A outer s H vs Q E hr h => ?_)
  refine ⟨_, (pss_cons (ps_set (i := 1) sc_is_path.nd rfl (.inl rfl) (k_split (pv 0) pe_str))
      (pss_cons (ps_if (pt_cmpR op_gt (pe_callB (cr_lenK K) (by rfl) T.m_len (by decide +kernel) (pa_cons (pv 1) pa_nil)) (pe_gc (v := .int 3) (by rfl) T.k_PATH_WORDS) (nomark _)) (pss_one (ps_ret pe_bl)) pss_nil)
      (pss_cons (ps_for PassesOwn.never rfl (k_il K (pi_list (pv 1))) (pg_name (i := 2) sc_is_path.nd rfl (.inl rfl)) (pss_one (ps_if (pt_not (pt_val (pe_call (ok_is_word T) (hr.mono (by decide)) (by rfl) T.g_is_word T.F_is_word.kp T.b_is_word .nil pass0 (pa_cons (pv 2) pa_nil)))) (pss_one (ps_ret pe_bl)) pss_nil)))
      (pss_one (ps_ret pe_bl))))), ?_⟩
  obtain ⟨z, rfl, lz, q⟩ := h
  refine g_start (σ' := [some (.str z), none, none]) rfl ?_
  walk_at "gg"
  refine g_split rfl (by omega) (Has.start H) (fun p H1 n1 h1 => ?_)
  have lsp := PyProof.Rows.split_le z "/"
  have lpa : ∀ a ∈ Txt.split z "/", a.length ≤ z.length := fun a ha => PyProof.Rows.part_short ha
  have hp := h1.get (List.Mem.head _)
  unfold isPath at q
  generalize Txt.split z "/" = ws at h1 lsp lpa q hp
  walk_at "gg"
  rw [List.length_map]
  refine i_d (fun e => ?_) (fun e => ?_)
  · walk_at "gg"
    rw [decide_eq_false (by omega), Bool.false_and] at q
    exact q H1 h1.same
  rw [decide_eq_true (by omega), Bool.true_and] at q
  walk_at "gg"
  refine k_forL hp (fun i σ H' => (∃ y2, σ = [some (.str z), some (.ref p), y2] ∧ H' = H1) ∧ ∀ a ∈ ws.take i, isWord a = true) ⟨⟨_, rfl, rfl⟩, fun a h => by cases h⟩ ?_ ?_ ?_
  · rintro i σ H' _ ⟨⟨y2, rfl, rfl⟩, _⟩
    exact hp
  · rintro i v σ H' hv ⟨⟨y2, rfl, rfl⟩, ok⟩
    obtain ⟨a, ha, rfl⟩ := str_at hv
    have la := lpa a (List.mem_of_getElem? ha)
    walk_at "gg"
    refine ⟨a, rfl, by omega, ?_⟩
    walk_at "gg"
    cases hb : isWord a with
    | false =>
      walk_at "gg"
      have : ws.all isWord = false := by
        cases e : ws.all isWord with
        | false => rfl
        | true =>
          have := List.all_eq_true.mp e a (List.mem_of_getElem? ha)
          rw [hb] at this
          cases this
      rw [this] at q
      exact q _ h1.same
    | true =>
      walk_at "gg"
      refine ⟨⟨_, rfl, rfl⟩, fun b hb' => ?_⟩
      rw [List.take_add_one, ha] at hb'
      rcases List.mem_append.mp hb' with h | h
      · exact ok b h
      · have e : b = a := by simpa using h
        rw [e]
        exact hb
  · rintro σ H' ⟨⟨y2, rfl, rfl⟩, ok⟩
    rw [List.length_map, List.take_length] at ok
    walk_at "gg"
    have : ws.all isWord = true := List.all_eq_true.mpr ok
    rw [this] at q
    exact q _ h1.same
end

end K07

namespace K07
open PySem PySem.Spec PyProof.Rows L2 Qk
local macro_rules | `(tactic| walk_at "m") => `(tactic| ((repeat (first | exact List.Mem.head _ | apply List.Mem.tail)); done))
local macro_rules | `(tactic| walk_at "h") => `(tactic| first | assumption | exact Has.gF (by assumption) (by assumption) | exact Has.get (by assumption) (by walk_at "m"))
local macro_rules | `(tactic| walk_at "c") => `(tactic| ((repeat (first | exact Chg.hd | apply Chg.tl)); done))
local macro_rules | `(tactic| walk_at "is") => `(tactic| first
  | ((with_reducible refine' is2_non ?gh ?_); (case gh => walk_at "h"))
  | (with_reducible refine is_int_list ?_)
  | (with_reducible refine is_int_tuple ?_)
  | (with_reducible refine is_int_dict ?_)
  | (with_reducible refine is_int_int ?_)
  | (with_reducible refine is_int_bool ?_)
  | (with_reducible refine is_int_str ?_)
  | ((with_reducible refine' is2_int ?gh ?_); (case gh => walk_at "h"))
  | (with_reducible refine is_str_list ?_)
  | (with_reducible refine is_str_tuple ?_)
  | (with_reducible refine is_str_dict ?_)
  | (with_reducible refine is_str_int ?_)
  | (with_reducible refine is_str_bool ?_)
  | (with_reducible refine is_str_str ?_)
  | ((with_reducible refine' is2_str ?gh ?_); (case gh => walk_at "h"))
  | (with_reducible refine is_bool_list ?_)
  | (with_reducible refine is_bool_tuple ?_)
  | (with_reducible refine is_bool_dict ?_)
  | (with_reducible refine is_bool_int ?_)
  | (with_reducible refine is_bool_bool ?_)
  | (with_reducible refine is_bool_str ?_)
  | ((with_reducible refine' is2_bool ?gh ?_); (case gh => walk_at "h"))
  | ((with_reducible refine' is_list_list ?gh ?_); (case gh => walk_at "h"))
  | ((with_reducible refine' is_list_tuple ?gh ?_); (case gh => walk_at "h"))
  | ((with_reducible refine' is_list_dict ?gh ?_); (case gh => walk_at "h"))
  | ((with_reducible refine' is_list_int ?gh ?_); (case gh => walk_at "h"))
  | ((with_reducible refine' is_list_bool ?gh ?_); (case gh => walk_at "h"))
  | ((with_reducible refine' is_list_str ?gh ?_); (case gh => walk_at "h"))
  | ((with_reducible refine' is2_list ?ga ?gb ?_); (case ga => walk_at "h"); (case gb => walk_at "h"))
  | ((with_reducible refine' is_tuple_list ?gh ?_); (case gh => walk_at "h"))
  | ((with_reducible refine' is_tuple_tuple ?gh ?_); (case gh => walk_at "h"))
  | ((with_reducible refine' is_tuple_dict ?gh ?_); (case gh => walk_at "h"))
  | ((with_reducible refine' is_tuple_int ?gh ?_); (case gh => walk_at "h"))
  | ((with_reducible refine' is_tuple_bool ?gh ?_); (case gh => walk_at "h"))
  | ((with_reducible refine' is_tuple_str ?gh ?_); (case gh => walk_at "h"))
  | ((with_reducible refine' is2_tuple ?ga ?gb ?_); (case ga => walk_at "h"); (case gb => walk_at "h"))
  | ((with_reducible refine' is_dict_list ?gh ?_); (case gh => walk_at "h"))
  | ((with_reducible refine' is_dict_tuple ?gh ?_); (case gh => walk_at "h"))
  | ((with_reducible refine' is_dict_dict ?gh ?_); (case gh => walk_at "h"))
  | ((with_reducible refine' is_dict_int ?gh ?_); (case gh => walk_at "h"))
  | ((with_reducible refine' is_dict_bool ?gh ?_); (case gh => walk_at "h"))
  | ((with_reducible refine' is_dict_str ?gh ?_); (case gh => walk_at "h"))
  | ((with_reducible refine' is2_dict ?ga ?gb ?_); (case ga => walk_at "h"); (case gb => walk_at "h")))
local macro_rules | `(tactic| walk_at "g") => `(tactic| first
  | (with_reducible refine g_seq ?_)
  | (with_reducible refine g_asg ?_)
  | ((with_reducible refine g_name ?_); dsimp only [List.set, wipe, List.map])
  | ((with_reducible refine' g_var ?gv ?_); (case gv => exact rfl))
  | (with_reducible refine g_c ?_)
  | (with_reducible refine g_op ?_)
  | (with_reducible refine g_cons ?_)
  | (with_reducible refine g_nil ?_)
  | (with_reducible refine g_cb ?_)
  | (with_reducible refine g_call ?_)
  | (with_reducible refine g_tup ?_)
  | (with_reducible refine g_lst ?_)
  | (with_reducible refine g_bm ?_)
  | (with_reducible refine g_bm0 ?_)
  | ((with_reducible refine' g_kbm ?gh ?_); (case gh => walk_at "h"))
  | (with_reducible refine g_drop ?_)
  | (with_reducible refine g_ret ?_)
  | (with_reducible refine g_retN ?_)
  | (with_reducible refine g_next ?_)
  | (with_reducible refine g_brk ?_)
  | (with_reducible refine g_cont ?_)
  | (with_reducible refine g_if ?_)
  | ((with_reducible refine' g_aug ?gv ?_); (case gv => exact rfl))
  | (with_reducible refine g_ipI ?_)
  | (with_reducible refine g_test ?_)
  | (with_reducible refine g_tB ?_)
  | (with_reducible refine g_kB ?_)
  | (with_reducible refine g_not ?_)
  | (with_reducible refine g_and ?_)
  | (with_reducible refine g_or ?_)
  | (with_reducible refine g_andV ?_)
  | (with_reducible refine g_orV ?_)
  | (with_reducible refine g_notV ?_)
  | (with_reducible refine g_ifE ?_)
  | (with_reducible refine g_addI ?_)
  | (with_reducible refine g_rI0 ?_)
  | (with_reducible refine g_eqI ?_)
  | (with_reducible refine g_eqS ?_)
  | (with_reducible refine g_neI ?_)
  | (with_reducible refine g_neS ?_)
  | (with_reducible refine g_isN ?_)
  | (with_reducible refine g_notN ?_)
  | (with_reducible refine g_int ?_)
  | (with_reducible refine g_max2 ?_)
  | (with_reducible refine g_min2 ?_)
  | ((with_reducible refine' g_lenL ?gh ?_); (case gh => walk_at "h"))
  | (with_reducible refine g_sub ?_)
  | (with_reducible refine g_gcons ?_)
  | (with_reducible refine g_gnil ?_)
  | (with_reducible refine g_un ?_)
  | (with_reducible refine g_rU ?_)
  | (with_reducible refine g_forL ?_)
  | (with_reducible refine g_forS ?_)
  | (with_reducible refine g_forR1 ?_)
  | (with_reducible refine g_forR2 ?_)
  | (with_reducible refine g_forR3 ?_)
  | (with_reducible refine g_lcL ?_)
  | (with_reducible refine g_lcR1 ?_)
  | (with_reducible refine g_lcR2 ?_)
  | (with_reducible refine g_slice ?_)
  | (with_reducible refine g_part ?_)
  | (with_reducible refine g_kOI ?_)
  | (with_reducible refine g_nopart ?_)
  | (with_reducible refine g_yes ?_)
  | ((with_reducible refine' g_wipe ?gv ?_); (case gv => exact rfl))
  | (with_reducible refine iteT ?_)
  | (with_reducible refine iteF ?_)
  | (with_reducible refine i_nf ?_)
  | (with_reducible refine i_nt ?_)
  | ((with_reducible refine' g_gtup ?gh ?gl ?_); (case gh => walk_at "h"); (case gl => exact rfl))
  | ((with_reducible refine' g_notinI ?gh ?_); (case gh => walk_at "h"))
  | ((with_reducible refine' g_inI ?gh ?_); (case gh => walk_at "h"))
  | ((with_reducible refine' g_kget2 ?gh ?_); (case gh => walk_at "h"))
  | ((with_reducible refine' g_kgotI ?gh ?_); (case gh => walk_at "h"))
  | (with_reducible refine g_tRev ?_)
  | (with_reducible refine g_neB ?_)
  | (with_reducible refine g_eqB ?_)
  | ((with_reducible refine' g_lenT ?gh ?_); (case gh => walk_at "h"))
  | (with_reducible refine g_star ?_)
  | ((with_reducible refine' g_kstarL ?gh ?_); (case gh => walk_at "h"))
  | ((with_reducible refine' g_kstarT ?gh ?_); (case gh => walk_at "h"))
  | (with_reducible refine g_tru ?_)
  | ((with_reducible refine' g_truL ?gh ?_); (case gh => walk_at "h"))
  | (with_reducible refine g_get2 ?_)
  | (with_reducible refine g_try ?_)
  | (with_reducible refine g_fld ?_)
  | (with_reducible refine g_sfld ?_)
  | (with_reducible refine g_meth ?_)
  | (with_reducible refine g_make ?_)
  | (with_reducible refine g_del ?_)
  | (with_reducible refine g_callS ?_)
  | (with_reducible refine g_raise ?_)
  | (with_reducible refine g_xf ?_)
  | (with_reducible refine g_m0 ?_)
  | (with_reducible refine g_km0 ?_)
  | walk_at "is")
local macro_rules | `(tactic| walk_at "gg") => `(tactic| repeat walk_at "g")
local macro_rules | `(tactic| walk_at "sz") => `(tactic| (refine sz ?_; simp only [List.length_cons, List.length_nil, List.length_map, List.length_append, List.length_replicate]; omega))
local macro_rules | `(tactic| walk_at "sub") => `(tactic| ((repeat (first | exact List.Sublist.slnil | with_reducible apply List.Sublist.cons_cons | with_reducible apply List.Sublist.cons)); done))

local macro_rules | `(tactic| walk_at "g") => `(tactic| first
  | (with_reducible refine g_dcL ?_)
  | (with_reducible refine g_dcT ?_)
  | (with_reducible refine g_m1s ?_)
  | (with_reducible refine g_km1s ?_)
  | (with_reducible refine g_starts ?_)
  | (with_reducible refine g_tryX ?_)
  | (with_reducible refine g_lcS ?_))

/-! ### changes -/
def otD : Option Tx → PyData
  | none => .none
  | some t => .tuple (t.map PyData.str)
abbrev Cg := Str × Option Tx × Option Tx
def cD (c : Cg) : PyData := .tuple [.str c.1, otD c.2.1, otD c.2.2]
theorem eqv_otD : ∀ a b : Option Tx, PyData.eqv (otD a) (otD b) = decide (a = b)
  | none, none => by rw [otD, PyData.eqv]; rfl
  | none, some t => by rw [otD, otD, PyData.eqv]; rfl
  | some t, none => by rw [otD, otD, PyData.eqv]; rfl
  | some s, some t => by
    rw [otD, otD, PyData.eqv, eqvAll_strs]
    exact decide_eq_decide.mpr ⟨fun h => by rw [h], fun h => Option.some.inj h⟩
theorem sh_otD {n : Nat} : ∀ {o : Option Tx}, okO o → Sh (n + 1) (otD o)
  | none, _ => Sh.non
  | some t, h => Sh.tuple fun d hd => by
    obtain ⟨z, hz, rfl⟩ := List.mem_map.mp hd
    exact Sh.str (h t rfl z hz)
/-- a text told afresh as a tuple, or None -/
def FrT (H H' : Hp) (v : V) (o : Option Tx) : Prop := (v = .non ∧ o = none) ∨ ∃ p t, v = .ref p ∧ o = some t ∧ H p = none ∧ H' p = some (.tup (t.map V.str))
theorem Has.frT {F H H' : Hp} {O : Own} {v : V} {o : Option Tx} (h : Has F O H) (s : Same H H') (f : FrT H H' v o) : ∃ F', Same F F' ∧ Has F' O H' ∧ Dq F' v (otD o) := by
  rcases f with ⟨rfl, rfl⟩ | ⟨p, t, rfl, rfl, n, e⟩
  · exact ⟨F, Same.refl _, h.on s, .non⟩
  · have h2 := h.made n s e
    exact ⟨_, h2.grow, h2.frz, .tup upd_same (DqAll.strs t)⟩
section
variable {P : Program} {w : World} {K : PySem.W.Frag} {mg : Str → Option Value} {base : Heap}
def sp_text_at (K : PySem.W.Frag) : Sp := fun vs H Q _ => ∃ (a : Addr) (A : Tr) (z : Str), vs = [.ref a, .str z] ∧ TrAt H a A ∧ ∀ v H', Same H H' → FrT H H' v (getT A z) → Q v H'
theorem sp_text_at_len {vs H Q E} (h : sp_text_at K vs H Q E) : vs.length = 2 := by
  obtain ⟨_, _, _, rfl, _⟩ := h
  rfl
theorem ok_text_at (T : Txt K mg) : FnOk P w K mg base CX0 1 T.f_text_at T.fd_text_at ["tree", "path"] (sp_text_at K) := by
  refine T.F_text_at.ok sc_text_at (fun vs H Q E h => sp_text_at_len h) (fun cdv A outer s H vs Q E hr h => ?_)
  refine ⟨_, (pss_cons (ps_if (pt_cmpR (op_inN K P w hr.units (u65 hr)) (pv 1) (pv 0) (by rfl)) (pss_one (ps_ret (pe_callTy (cr_tupleK K) (by rfl) T.m_tuple (by decide +kernel) (pa_cons (pe_ix (ix_K K (hu_of hr)) (pv 0) (pv 1) (fun _ _ => rfl)) pa_nil)))) pss_nil)
      (pss_one (ps_ret pe_non))), ?_⟩
  obtain ⟨a, A, z, rfl, ⟨kvs, ha, ek, nd, dq⟩, q⟩ := h
  have hH := Has.start H
  refine g_start (σ' := [some (.ref a), some (.str z)]) rfl ?_
  walk_at "gg"
  refine g_inNM (g_inM (g_inS ha ?_))
  obtain ⟨g1, g2⟩ := tr_get z ek dq
  rw [g2]
  walk_at "gg"
  cases eg : getT A z with
  | none =>
    rw [eg] at q
    rw [show (none : Option Tx).isSome = false from rfl]
    walk_at "gg"
    exact q _ H (Same.refl _) (.inl ⟨rfl, rfl⟩)
  | some t =>
    rw [eg] at q
    obtain ⟨l, vl, hl⟩ := tr_at ek dq eg
    rw [show (some t : Option Tx).isSome = true from rfl]
    walk_at "gg"
    refine g_ixDS ha vl ?_
    walk_at "gg"
    refine g_tupleL hl hH (fun p1 H1 F1 n1 s1 f1 h1 => ?_)
    exact q _ H1 (s1.trans h1.same) (.inr ⟨p1, t, rfl, rfl, n1, h1.same _ _ f1⟩)
/-- the changes at these paths -/
def chgL (A B : Tr) (us : List Str) : List Cg := us.filterMap fun z => if getT A z = getT B z then none else some (z, getT A z, getT B z)
theorem chgL_snoc (A B : Tr) (us : List Str) (z : Str) : chgL A B (us ++ [z]) = chgL A B us ++ (if getT A z = getT B z then [] else [(z, getT A z, getT B z)]) := by
  unfold chgL
  rw [List.filterMap_append]
  congr 1
  by_cases h : getT A z = getT B z
  · rw [List.filterMap_cons_none (by rw [if_pos h]), if_pos h]
    rfl
  · rw [List.filterMap_cons_some (b := (z, getT A z, getT B z)) (by rw [if_neg h]), if_neg h]
    rfl
theorem chgL_len (A B : Tr) (us : List Str) : (chgL A B us).length ≤ us.length := List.length_filterMap_le ..
theorem okO_get {A : Tr} (h : okTr A) (z : Str) : okO (getT A z) := getT_in okO_none fun p hp => okO_some (h p hp).2
/-- the paths of both, in order -/
def Both (A B : Tr) (us : List Str) : Prop := Asc us ∧ ∀ z, z ∈ us ↔ z ∈ A.map (·.1) ∨ z ∈ B.map (·.1)
theorem Both.uniq {A B : Tr} {us vs : List Str} (h : Both A B us) (k : Both A B vs) : us = vs := Asc.ext h.1 k.1 fun z => (h.2 z).trans (k.2 z).symm
def sp_tree_changes (K : PySem.W.Frag) : Sp := fun vs H Q _ => ∃ (a b : Addr) (A B : Tr), vs = [.ref a, .ref b] ∧ TrAt H a A ∧ TrAt H b B ∧ A.length ≤ 4 ∧ B.length ≤ 4 ∧ okTr A ∧ okTr B ∧
  ∀ p F H' ws us, Same H F → Has F [(p, .lst ws)] H' → Both A B us → us.length ≤ 8 → DqAll F ws ((chgL A B us).map cD) → Q (.ref p) H'
theorem sp_tree_changes_len {vs H Q E} (h : sp_tree_changes K vs H Q E) : vs.length = 2 := by
  obtain ⟨_, _, _, _, rfl, _⟩ := h
  rfl
set_option maxHeartbeats 1000000 in
theorem ok_tree_changes (T : Txt K mg) : FnOk P w K mg base CX0 2 T.f_tree_changes T.fd_tree_changes ["old", "new"] (sp_tree_changes K) := by
  refine T.F_tree_changes.ok sc_tree_changes (fun vs H Q E h => sp_tree_changes_len h) (fun cdv A outer s H vs Q E hr h => ?_)
  refine ⟨_, (pss_cons (ps_set (i := 2) sc_tree_changes.nd rfl (.inl rfl) (pe_lst pa_nil))
      (pss_cons (ps_for PassesOwn.never rfl (k_il K (pi_list (pe_callB (cr_sortN K P w rfl (cr_sortA K rfl)) (by rfl) T.m_sorted (by decide +kernel) (pa_cons (pe_op (op_orN P w) (pe_callTy (cr_setDT P w rfl) (by rfl) T.m_set (by decide +kernel) (pa_cons (pv 0) pa_nil)) (pe_callTy (cr_setDT P w rfl) (by rfl) T.m_set (by decide +kernel) (pa_cons (pv 1) pa_nil))) pa_nil)))) (pg_name (i := 3) sc_tree_changes.nd rfl (.inl rfl)) (pss_cons (ps_set (i := 4) sc_tree_changes.nd rfl (.inl rfl) (pe_call (ok_text_at T) (hr.mono (by decide)) (by rfl) T.g_text_at T.F_text_at.kp T.b_text_at .nil pass0 (pa_cons (pv 0) (pa_cons (pv 3) pa_nil))))
      (pss_cons (ps_set (i := 5) sc_tree_changes.nd rfl (.inl rfl) (pe_call (ok_text_at T) (hr.mono (by decide)) (by rfl) T.g_text_at T.F_text_at.kp T.b_text_at .nil pass0 (pa_cons (pv 1) (pa_cons (pv 3) pa_nil))))
      (pss_one (ps_if (pt_cmpR (op_neK K hr.units) (pv 4) (pv 5) (nomark _)) (pss_one (ps_expr (k_bm K (pe_bm PySem.F.plainAttrs_list PySem.F.slot_list_append PySem.F.type_list_append mt_append (pv 2) (pa_cons (pe_tup (pa_cons (pv 3) (pa_cons (pv 4) (pa_cons (pv 5) pa_nil)))) pa_nil))))) pss_nil)))))
      (pss_one (ps_ret (pv 2))))), ?_⟩
  obtain ⟨a, b, A, B, rfl, ta, tb, lA, lB, okA, okB, q⟩ := h
  have hH := Has.start H
  obtain ⟨ka, ha, eka, nda, dqa⟩ := id ta
  obtain ⟨kb, hb, ekb, ndb, dqb⟩ := id tb
  have lka := tr_len eka
  have lkb := tr_len ekb
  refine g_start (σ' := [some (.ref a), some (.ref b), none, none, none, none]) rfl ?_
  walk_at "gg"
  refine g_klst (by walk_at "sz") hH (fun c H1 n1 h1 => ?_)
  walk_at "gg"
  refine g_setDT (h1.same _ _ ha) (by omega) h1 (fun s1 H2 n2 h2 => ?_)
  walk_at "gg"
  refine g_setDT (h2.same _ _ hb) (by omega) h2 (fun s2 H3 n3 h3 => ?_)
  have ne : s1 ≠ s2 := fun e => by
    have := h3.nd
    simp [e] at this
  refine g_orT (h3.get (List.Mem.tail _ (List.Mem.head _))) (h3.get (List.Mem.head _)) ne (by rw [List.length_map]; omega) (by rw [List.length_map]; omega) h3 (fun s3 n T H4 n4 ln mT h4 => ?_)
  have mT2 : ∀ k, T k = true ↔ ∃ z, k = Sum.inr z ∧ (z ∈ A.map (·.1) ∨ z ∈ B.map (·.1)) := fun k => by
    rw [mT, eka, ekb]
    constructor
    · rintro (h | h)
      · obtain ⟨p, hp, rfl⟩ := List.mem_map.mp h
        exact ⟨p.1, rfl, .inl (List.mem_map.mpr ⟨p, hp, rfl⟩)⟩
      · obtain ⟨p, hp, rfl⟩ := List.mem_map.mp h
        exact ⟨p.1, rfl, .inr (List.mem_map.mpr ⟨p, hp, rfl⟩)⟩
    · rintro ⟨z, rfl, h | h⟩
      · obtain ⟨p, hp, rfl⟩ := List.mem_map.mp h
        exact .inl (List.mem_map.mpr ⟨p, hp, rfl⟩)
      · obtain ⟨p, hp, rfl⟩ := List.mem_map.mp h
        exact .inr (List.mem_map.mpr ⟨p, hp, rfl⟩)
  walk_at "gg"
  refine g_sortNQ (h4.get (List.Mem.head _)) (by omega) (fun k hk => ?_) h4 (fun us sl H5 srt nd mu lu n5 h5 => ?_)
  · obtain ⟨z, e, _⟩ := (mT2 k).mp hk
    exact ⟨z, e⟩
  have bo : Both A B us := ⟨asc_of srt nd, fun z => by
    rw [mu, mT2]
    exact ⟨fun ⟨z', e, r⟩ => by rw [Sum.inr.inj e]; exact r, fun r => ⟨z, rfl, r⟩⟩⟩
  have h5 := h5.sub (O' := [(sl, .lst (us.map V.str)), (c, .lst [])]) (by walk_at "sub")
  refine k_forL (h5.get (List.Mem.head _)) (fun t σ H' => ∃ (y3 y4 y5 : Option V) (F : Hp) (ws : List V), σ = [some (.ref a), some (.ref b), some (.ref c), y3, y4, y5] ∧ Same H F ∧ Has F [(sl, .lst (us.map V.str)), (c, .lst ws)] H' ∧ DqAll F ws ((chgL A B (us.take t)).map cD)) ⟨_, _, _, H, [], rfl, Same.refl _, h5, .nil⟩ ?_ ?_ ?_
  · rintro t σ H' _ ⟨y3, y4, y5, F, ws, rfl, _, h, _⟩
    exact h.get (List.Mem.head _)
  · rintro t x σ H6 hx ⟨y3, y4, y5, F, ws, rfl, sF, h6, dw⟩
    obtain ⟨z, hz, rfl⟩ := str_at hx
    have tk : us.take (t + 1) = us.take t ++ [z] := by rw [List.take_add_one, hz]; rfl
    have lw : ws.length ≤ us.length := by
      have h1 := dw.len
      have h2 := chgL_len A B (us.take t)
      rw [List.length_map] at h1
      rw [List.length_take] at h2
      omega
    walk_at "gg"
    refine ⟨a, A, z, rfl, ta.up (sF.trans h6.same), fun v H7 s7 fv => ?_⟩
    obtain ⟨F7, sF7, h7, dv⟩ := Has.frT h6 s7 fv
    walk_at "gg"
    refine ⟨b, B, z, rfl, tb.up (sF.trans (sF7.trans h7.same)), fun u H8 s8 fu => ?_⟩
    obtain ⟨F8, sF8, h8, du⟩ := Has.frT h7 s8 fu
    have dv := dv.up sF8 _ _
    walk_at "gg"
    refine g_neD (dv.up h8.same _ _) (du.up h8.same _ _) ((sh_otD (n := 1) (okO_get okA z)).ok (by decide)) ((sh_otD (n := 1) (okO_get okB z)).ok (by decide)) ?_
    rw [eqv_otD]
    walk_at "gg"
    refine i_n (fun ne => ?_) (fun e => ?_)
    · walk_at "gg"
      refine g_ktupF (by walk_at "sz") h8 (fun p9 H9 F9 n9 s9 f9 h9 => ?_)
      walk_at "gg"
      refine g_append h9 (.tl .hd) (szl (by omega)) (fun H10 h10 => ?_)
      walk_at "gg"
      refine ⟨_, _, _, F9, _, rfl, sF.trans (sF7.trans (sF8.trans s9)), h10, ?_⟩
      rw [tk, chgL_snoc, if_neg (by simpa using ne), List.map_append]
      exact (dw.up (sF7.trans (sF8.trans s9)) _ _).snoc (.tup f9 (.cons (.str z) (.cons (dv.up s9 _ _) (.cons (du.up s9 _ _) .nil))))
    · walk_at "gg"
      refine ⟨_, _, _, F8, ws, rfl, sF.trans (sF7.trans sF8), h8, ?_⟩
      rw [tk, chgL_snoc, if_pos (by simpa using e), List.append_nil]
      exact dw.up (sF7.trans sF8) _ _
  · rintro σ H6 ⟨y3, y4, y5, F, ws, rfl, sF, h6, dw⟩
    rw [List.length_map, List.take_length] at dw
    walk_at "gg"
    exact q c F H6 ws us sF h6.drop bo (by omega) dw
end

end K07

namespace K07
open PySem PySem.Spec PyProof.Rows L2 Qk
local macro_rules | `(tactic| walk_at "m") => `(tactic| ((repeat (first | exact List.Mem.head _ | apply List.Mem.tail)); done))
local macro_rules | `(tactic| walk_at "h") => `(tactic| first | assumption | exact Has.gF (by assumption) (by assumption) | exact Has.get (by assumption) (by walk_at "m"))
local macro_rules | `(tactic| walk_at "c") => `(tactic| ((repeat (first | exact Chg.hd | apply Chg.tl)); done))
local macro_rules | `(tactic| walk_at "is") => `(tactic| first
  | ((with_reducible refine' is2_non ?gh ?_); (case gh => walk_at "h"))
  | (with_reducible refine is_int_list ?_)
  | (with_reducible refine is_int_tuple ?_)
  | (with_reducible refine is_int_dict ?_)
  | (with_reducible refine is_int_int ?_)
  | (with_reducible refine is_int_bool ?_)
  | (with_reducible refine is_int_str ?_)
  | ((with_reducible refine' is2_int ?gh ?_); (case gh => walk_at "h"))
  | (with_reducible refine is_str_list ?_)
  | (with_reducible refine is_str_tuple ?_)
  | (with_reducible refine is_str_dict ?_)
  | (with_reducible refine is_str_int ?_)
  | (with_reducible refine is_str_bool ?_)
  | (with_reducible refine is_str_str ?_)
  | ((with_reducible refine' is2_str ?gh ?_); (case gh => walk_at "h"))
  | (with_reducible refine is_bool_list ?_)
  | (with_reducible refine is_bool_tuple ?_)
  | (with_reducible refine is_bool_dict ?_)
  | (with_reducible refine is_bool_int ?_)
  | (with_reducible refine is_bool_bool ?_)
  | (with_reducible refine is_bool_str ?_)
  | ((with_reducible refine' is2_bool ?gh ?_); (case gh => walk_at "h"))
  | ((with_reducible refine' is_list_list ?gh ?_); (case gh => walk_at "h"))
  | ((with_reducible refine' is_list_tuple ?gh ?_); (case gh => walk_at "h"))
  | ((with_reducible refine' is_list_dict ?gh ?_); (case gh => walk_at "h"))
  | ((with_reducible refine' is_list_int ?gh ?_); (case gh => walk_at "h"))
  | ((with_reducible refine' is_list_bool ?gh ?_); (case gh => walk_at "h"))
  | ((with_reducible refine' is_list_str ?gh ?_); (case gh => walk_at "h"))
  | ((with_reducible refine' is2_list ?ga ?gb ?_); (case ga => walk_at "h"); (case gb => walk_at "h"))
  | ((with_reducible refine' is_tuple_list ?gh ?_); (case gh => walk_at "h"))
  | ((with_reducible refine' is_tuple_tuple ?gh ?_); (case gh => walk_at "h"))
  | ((with_reducible refine' is_tuple_dict ?gh ?_); (case gh => walk_at "h"))
  | ((with_reducible refine' is_tuple_int ?gh ?_); (case gh => walk_at "h"))
  | ((with_reducible refine' is_tuple_bool ?gh ?_); (case gh => walk_at "h"))
  | ((with_reducible refine' is_tuple_str ?gh ?_); (case gh => walk_at "h"))
  | ((with_reducible refine' is2_tuple ?ga ?gb ?_); (case ga => walk_at "h"); (case gb => walk_at "h"))
  | ((with_reducible refine' is_dict_list ?gh ?_); (case gh => walk_at "h"))
  | ((with_reducible refine' is_dict_tuple ?gh ?_); (case gh => walk_at "h"))
  | ((with_reducible refine' is_dict_dict ?gh ?_); (case gh => walk_at "h"))
  | ((with_reducible refine' is_dict_int ?gh ?_); (case gh => walk_at "h"))
  | ((with_reducible refine' is_dict_bool ?gh ?_); (case gh => walk_at "h"))
  | ((with_reducible refine' is_dict_str ?gh ?_); (case gh => walk_at "h"))
  | ((with_reducible refine' is2_dict ?ga ?gb ?_); (case ga => walk_at "h"); (case gb => walk_at "h")))
local macro_rules | `(tactic| walk_at "g") => `(tactic| first
  | (with_reducible refine g_seq ?_)
  | (with_reducible refine g_asg ?_)
  | ((with_reducible refine g_name ?_); dsimp only [List.set, wipe, List.map])
  | ((with_reducible refine' g_var ?gv ?_); (case gv => exact rfl))
  | (with_reducible refine g_c ?_)
  | (with_reducible refine g_op ?_)
  | (with_reducible refine g_cons ?_)
  | (with_reducible refine g_nil ?_)
  | (with_reducible refine g_cb ?_)
  | (with_reducible refine g_call ?_)
  | (with_reducible refine g_tup ?_)
  | (with_reducible refine g_lst ?_)
  | (with_reducible refine g_bm ?_)
  | (with_reducible refine g_bm0 ?_)
  | ((with_reducible refine' g_kbm ?gh ?_); (case gh => walk_at "h"))
  | (with_reducible refine g_drop ?_)
  | (with_reducible refine g_ret ?_)
  | (with_reducible refine g_retN ?_)
  | (with_reducible refine g_next ?_)
  | (with_reducible refine g_brk ?_)
  | (with_reducible refine g_cont ?_)
  | (with_reducible refine g_if ?_)
  | ((with_reducible refine' g_aug ?gv ?_); (case gv => exact rfl))
  | (with_reducible refine g_ipI ?_)
  | (with_reducible refine g_test ?_)
  | (with_reducible refine g_tB ?_)
  | (with_reducible refine g_kB ?_)
  | (with_reducible refine g_not ?_)
  | (with_reducible refine g_and ?_)
  | (with_reducible refine g_or ?_)
  | (with_reducible refine g_andV ?_)
  | (with_reducible refine g_orV ?_)
  | (with_reducible refine g_notV ?_)
  | (with_reducible refine g_ifE ?_)
  | (with_reducible refine g_addI ?_)
  | (with_reducible refine g_rI0 ?_)
  | (with_reducible refine g_eqI ?_)
  | (with_reducible refine g_eqS ?_)
  | (with_reducible refine g_neI ?_)
  | (with_reducible refine g_neS ?_)
  | (with_reducible refine g_isN ?_)
  | (with_reducible refine g_notN ?_)
  | (with_reducible refine g_int ?_)
  | (with_reducible refine g_max2 ?_)
  | (with_reducible refine g_min2 ?_)
  | ((with_reducible refine' g_lenL ?gh ?_); (case gh => walk_at "h"))
  | (with_reducible refine g_sub ?_)
  | (with_reducible refine g_gcons ?_)
  | (with_reducible refine g_gnil ?_)
  | (with_reducible refine g_un ?_)
  | (with_reducible refine g_rU ?_)
  | (with_reducible refine g_forL ?_)
  | (with_reducible refine g_forS ?_)
  | (with_reducible refine g_forR1 ?_)
  | (with_reducible refine g_forR2 ?_)
  | (with_reducible refine g_forR3 ?_)
  | (with_reducible refine g_lcL ?_)
  | (with_reducible refine g_lcR1 ?_)
  | (with_reducible refine g_lcR2 ?_)
  | (with_reducible refine g_slice ?_)
  | (with_reducible refine g_part ?_)
  | (with_reducible refine g_kOI ?_)
  | (with_reducible refine g_nopart ?_)
  | (with_reducible refine g_yes ?_)
  | ((with_reducible refine' g_wipe ?gv ?_); (case gv => exact rfl))
  | (with_reducible refine iteT ?_)
  | (with_reducible refine iteF ?_)
  | (with_reducible refine i_nf ?_)
  | (with_reducible refine i_nt ?_)
  | ((with_reducible refine' g_gtup ?gh ?gl ?_); (case gh => walk_at "h"); (case gl => exact rfl))
  | ((with_reducible refine' g_notinI ?gh ?_); (case gh => walk_at "h"))
  | ((with_reducible refine' g_inI ?gh ?_); (case gh => walk_at "h"))
  | ((with_reducible refine' g_kget2 ?gh ?_); (case gh => walk_at "h"))
  | ((with_reducible refine' g_kgotI ?gh ?_); (case gh => walk_at "h"))
  | (with_reducible refine g_tRev ?_)
  | (with_reducible refine g_neB ?_)
  | (with_reducible refine g_eqB ?_)
  | ((with_reducible refine' g_lenT ?gh ?_); (case gh => walk_at "h"))
  | (with_reducible refine g_star ?_)
  | ((with_reducible refine' g_kstarL ?gh ?_); (case gh => walk_at "h"))
  | ((with_reducible refine' g_kstarT ?gh ?_); (case gh => walk_at "h"))
  | (with_reducible refine g_tru ?_)
  | ((with_reducible refine' g_truL ?gh ?_); (case gh => walk_at "h"))
  | (with_reducible refine g_get2 ?_)
  | (with_reducible refine g_try ?_)
  | (with_reducible refine g_fld ?_)
  | (with_reducible refine g_sfld ?_)
  | (with_reducible refine g_meth ?_)
  | (with_reducible refine g_make ?_)
  | (with_reducible refine g_del ?_)
  | (with_reducible refine g_callS ?_)
  | (with_reducible refine g_raise ?_)
  | (with_reducible refine g_xf ?_)
  | (with_reducible refine g_m0 ?_)
  | (with_reducible refine g_km0 ?_)
  | walk_at "is")
local macro_rules | `(tactic| walk_at "gg") => `(tactic| repeat walk_at "g")
local macro_rules | `(tactic| walk_at "sz") => `(tactic| (refine sz ?_; simp only [List.length_cons, List.length_nil, List.length_map, List.length_append, List.length_replicate]; omega))
local macro_rules | `(tactic| walk_at "sub") => `(tactic| ((repeat (first | exact List.Sublist.slnil | with_reducible apply List.Sublist.cons_cons | with_reducible apply List.Sublist.cons)); done))

local macro_rules | `(tactic| walk_at "g") => `(tactic| first
  | (with_reducible refine g_dcL ?_)
  | (with_reducible refine g_dcT ?_)
  | (with_reducible refine g_m1s ?_)
  | (with_reducible refine g_km1s ?_)
  | (with_reducible refine g_starts ?_)
  | (with_reducible refine g_tryX ?_)
  | (with_reducible refine g_lcS ?_))

/-! ### the law: texts, rows -/
section
variable {P : Program} {w : World} {K : PySem.W.Frag} {mg : Str → Option Value} {base : Heap}
def gdO (o : Option Tx) : Prop := okO o ∧ ∀ t, o = some t → t.length ≤ 10 ∧ ∀ z ∈ t, z.length ≤ 100 ∧ isLine z = true
def sp_l_text (K : PySem.W.Frag) : Sp := fun vs H Q _ => ∃ i : Int, vs = [.int i] ∧ ∀ v H' o, Same H H' → Fr H H' v o → gdO o → Q v H'
theorem sp_l_text_len {vs H Q E} (h : sp_l_text K vs H Q E) : vs.length = 1 := by
  obtain ⟨_, rfl, _⟩ := h
  rfl
theorem gd_one {t : Tx} (h : (t.all PyData.strOk && (decide (t.length ≤ 10) && t.all fun z => decide (z.length ≤ 100) && isLine z)) = true) : gdO (some t) := by
  rw [Bool.and_eq_true, Bool.and_eq_true, decide_eq_true_eq, List.all_eq_true, List.all_eq_true] at h
  exact ⟨fun x e => by injection e with e; subst e; exact h.1, fun x e => by injection e with e; subst e; exact ⟨h.2.1, fun z hz => by have := h.2.2 z hz; rw [Bool.and_eq_true, decide_eq_true_eq] at this; exact this⟩⟩
theorem ok_l_text (T : Txt K mg) : FnOk P w K mg base CX0 1 T.f_l_text T.fd_l_text ["place"] (sp_l_text K) := by
  refine T.F_l_text.ok sc_l_text (fun vs H Q E h => sp_l_text_len h) (fun cdv A outer s H vs Q E hr h => ?_)
  refine ⟨_, (pss_cons (ps_set (i := 1) sc_l_text.nd rfl (.inl rfl) (pe_lst (pa_cons pe_non (pa_cons (pe_lst pa_nil) (pa_cons (pe_lst (pa_cons pe_str pa_nil)) (pa_cons (pe_lst (pa_cons pe_str pa_nil)) (pa_cons (pe_lst (pa_cons pe_str (pa_cons pe_str pa_nil))) (pa_cons (pe_lst (pa_cons pe_str (pa_cons pe_str pa_nil))) (pa_cons (pe_lst (pa_cons pe_str pa_nil)) (pa_cons (pe_lst (pa_cons pe_str (pa_cons pe_str pa_nil))) pa_nil))))))))))
      (pss_one (ps_ret (pe_ix (ix_K K (hu_of hr)) (pv 1) (pe_op op_mod (pe_callTy cr_int1 (by rfl) T.m_int (by decide +kernel) (pa_cons (pv 0) pa_nil)) pe_int) (fun _ _ => rfl))))), ?_⟩
  obtain ⟨i, rfl, q⟩ := h
  have hH := Has.start H
  refine g_start (σ' := [some (.int i), none]) rfl ?_
  walk_at "gg"
  refine g_klst (by walk_at "sz") hH (fun p1 H1 n1 h => ?_)
  walk_at "gg"
  refine g_klst (by walk_at "sz") h (fun p2 H2 n2 h => ?_)
  walk_at "gg"
  refine g_klst (by walk_at "sz") h (fun p3 H3 n3 h => ?_)
  walk_at "gg"
  refine g_klst (by walk_at "sz") h (fun p4 H4 n4 h => ?_)
  walk_at "gg"
  refine g_klst (by walk_at "sz") h (fun p5 H5 n5 h => ?_)
  walk_at "gg"
  refine g_klst (by walk_at "sz") h (fun p6 H6 n6 h => ?_)
  walk_at "gg"
  refine g_klst (by walk_at "sz") h (fun p7 H7 n7 h => ?_)
  walk_at "gg"
  refine g_klst (by walk_at "sz") h (fun p8 H8 n8 h => ?_)
  walk_at "gg"
  refine g_rI (by show (0 : Int) < 8; decide) ?_
  refine g_ixV (h.get (List.Mem.head _)) (Int.emod_nonneg _ (by decide)) (by exact Int.emod_lt_of_pos _ (by decide)) (fun v hv => ?_)
  have one : ∀ (p : Addr) (t : Tx), (p, HO.lst (t.map V.str)) ∈ [(p8, HO.lst [V.non, .ref p1, .ref p2, .ref p3, .ref p4, .ref p5, .ref p6, .ref p7]), (p7, HO.lst [.str "b", .str "a"]), (p6, HO.lst [.str ""]), (p5, HO.lst [.str "a", .str "a"]), (p4, HO.lst [.str "a", .str "b"]), (p3, HO.lst [.str "b"]), (p2, HO.lst [.str "a"]), (p1, HO.lst [])] → gdO (some t) → Q (.ref p) H8 := fun p t m g =>
    q _ H8 (some t) h.same (.inr ⟨p, t, rfl, rfl, (h.own _ m).1, (h.own _ m).2⟩) g
  have := List.mem_of_getElem? hv
  simp only [List.mem_cons, List.not_mem_nil, or_false] at this
  rcases this with rfl | rfl | rfl | rfl | rfl | rfl | rfl | rfl
  · exact q _ H8 none h.same (.inl ⟨rfl, rfl⟩) ⟨okO_none, fun _ e => by cases e⟩
  · exact one p1 [] (by simp) (gd_one (by decide +kernel))
  · exact one p2 ["a"] (by simp) (gd_one (by decide +kernel))
  · exact one p3 ["b"] (by simp) (gd_one (by decide +kernel))
  · exact one p4 ["a", "b"] (by simp) (gd_one (by decide +kernel))
  · exact one p5 ["a", "a"] (by simp) (gd_one (by decide +kernel))
  · exact one p6 [""] (by simp) (gd_one (by decide +kernel))
  · exact one p7 ["b", "a"] (by simp) (gd_one (by decide +kernel))
def sp_l_row (K : PySem.W.Frag) : Sp := fun vs H Q _ => ∃ (v : V) (o : Option Tx), vs = [v] ∧ Dq H v (oxD o) ∧ ∀ u H', Same H H' → FrT H H' u o → Q u H'
theorem sp_l_row_len {vs H Q E} (h : sp_l_row K vs H Q E) : vs.length = 1 := by
  obtain ⟨_, _, rfl, _⟩ := h
  rfl
theorem ok_l_row (T : Txt K mg) : FnOk P w K mg base CX0 1 T.f_l_row T.fd_l_row ["text"] (sp_l_row K) := by
  refine T.F_l_row.ok sc_l_row (fun vs H Q E h => sp_l_row_len h) (fun cdv A outer s H vs Q E hr h => ?_)
  refine ⟨_, (pss_cons (ps_if (pt_cmpR op_isNA (pv 0) pe_non (nomark _)) (pss_one (ps_ret pe_non)) pss_nil)
      (pss_one (ps_ret (pe_callTy (cr_tupleK K) (by rfl) T.m_tuple (by decide +kernel) (pa_cons (pv 0) pa_nil))))), ?_⟩
  obtain ⟨v, o, rfl, dv, q⟩ := h
  have hH := Has.start H
  refine g_start (σ' := [some (v)]) rfl ?_
  walk_at "gg"
  cases o with
  | none =>
    have e := dv.non_inv
    subst e
    refine i_d (fun _ => ?_) (fun c => (c rfl).elim)
    walk_at "gg"
    exact q _ H (Same.refl _) (.inl ⟨rfl, rfl⟩)
  | some t =>
    obtain ⟨l, rfl, hl⟩ := Dq.of_strs (xs := t) dv
    refine i_d (fun c => by cases c) (fun _ => ?_)
    walk_at "gg"
    refine g_tupleL hl hH (fun p1 H1 F1 n1 s1 f1 h1 => ?_)
    exact q _ H1 (s1.trans h1.same) (.inr ⟨p1, t, rfl, rfl, n1, h1.same _ _ f1⟩)
end

end K07

namespace K07
open PySem PySem.Spec PyProof.Rows L2 Qk
local macro_rules | `(tactic| walk_at "m") => `(tactic| ((repeat (first | exact List.Mem.head _ | apply List.Mem.tail)); done))
local macro_rules | `(tactic| walk_at "h") => `(tactic| first | assumption | exact Has.gF (by assumption) (by assumption) | exact Has.get (by assumption) (by walk_at "m"))
local macro_rules | `(tactic| walk_at "c") => `(tactic| ((repeat (first | exact Chg.hd | apply Chg.tl)); done))
local macro_rules | `(tactic| walk_at "is") => `(tactic| first
  | ((with_reducible refine' is2_non ?gh ?_); (case gh => walk_at "h"))
  | (with_reducible refine is_int_list ?_)
  | (with_reducible refine is_int_tuple ?_)
  | (with_reducible refine is_int_dict ?_)
  | (with_reducible refine is_int_int ?_)
  | (with_reducible refine is_int_bool ?_)
  | (with_reducible refine is_int_str ?_)
  | ((with_reducible refine' is2_int ?gh ?_); (case gh => walk_at "h"))
  | (with_reducible refine is_str_list ?_)
  | (with_reducible refine is_str_tuple ?_)
  | (with_reducible refine is_str_dict ?_)
  | (with_reducible refine is_str_int ?_)
  | (with_reducible refine is_str_bool ?_)
  | (with_reducible refine is_str_str ?_)
  | ((with_reducible refine' is2_str ?gh ?_); (case gh => walk_at "h"))
  | (with_reducible refine is_bool_list ?_)
  | (with_reducible refine is_bool_tuple ?_)
  | (with_reducible refine is_bool_dict ?_)
  | (with_reducible refine is_bool_int ?_)
  | (with_reducible refine is_bool_bool ?_)
  | (with_reducible refine is_bool_str ?_)
  | ((with_reducible refine' is2_bool ?gh ?_); (case gh => walk_at "h"))
  | ((with_reducible refine' is_list_list ?gh ?_); (case gh => walk_at "h"))
  | ((with_reducible refine' is_list_tuple ?gh ?_); (case gh => walk_at "h"))
  | ((with_reducible refine' is_list_dict ?gh ?_); (case gh => walk_at "h"))
  | ((with_reducible refine' is_list_int ?gh ?_); (case gh => walk_at "h"))
  | ((with_reducible refine' is_list_bool ?gh ?_); (case gh => walk_at "h"))
  | ((with_reducible refine' is_list_str ?gh ?_); (case gh => walk_at "h"))
  | ((with_reducible refine' is2_list ?ga ?gb ?_); (case ga => walk_at "h"); (case gb => walk_at "h"))
  | ((with_reducible refine' is_tuple_list ?gh ?_); (case gh => walk_at "h"))
  | ((with_reducible refine' is_tuple_tuple ?gh ?_); (case gh => walk_at "h"))
  | ((with_reducible refine' is_tuple_dict ?gh ?_); (case gh => walk_at "h"))
  | ((with_reducible refine' is_tuple_int ?gh ?_); (case gh => walk_at "h"))
  | ((with_reducible refine' is_tuple_bool ?gh ?_); (case gh => walk_at "h"))
  | ((with_reducible refine' is_tuple_str ?gh ?_); (case gh => walk_at "h"))
  | ((with_reducible refine' is2_tuple ?ga ?gb ?_); (case ga => walk_at "h"); (case gb => walk_at "h"))
  | ((with_reducible refine' is_dict_list ?gh ?_); (case gh => walk_at "h"))
  | ((with_reducible refine' is_dict_tuple ?gh ?_); (case gh => walk_at "h"))
  | ((with_reducible refine' is_dict_dict ?gh ?_); (case gh => walk_at "h"))
  | ((with_reducible refine' is_dict_int ?gh ?_); (case gh => walk_at "h"))
  | ((with_reducible refine' is_dict_bool ?gh ?_); (case gh => walk_at "h"))
  | ((with_reducible refine' is_dict_str ?gh ?_); (case gh => walk_at "h"))
  | ((with_reducible refine' is2_dict ?ga ?gb ?_); (case ga => walk_at "h"); (case gb => walk_at "h")))
local macro_rules | `(tactic| walk_at "g") => `(tactic| first
  | (with_reducible refine g_seq ?_)
  | (with_reducible refine g_asg ?_)
  | ((with_reducible refine g_name ?_); dsimp only [List.set, wipe, List.map])
  | ((with_reducible refine' g_var ?gv ?_); (case gv => exact rfl))
  | (with_reducible refine g_c ?_)
  | (with_reducible refine g_op ?_)
  | (with_reducible refine g_cons ?_)
  | (with_reducible refine g_nil ?_)
  | (with_reducible refine g_cb ?_)
  | (with_reducible refine g_call ?_)
  | (with_reducible refine g_tup ?_)
  | (with_reducible refine g_lst ?_)
  | (with_reducible refine g_bm ?_)
  | (with_reducible refine g_bm0 ?_)
  | ((with_reducible refine' g_kbm ?gh ?_); (case gh => walk_at "h"))
  | (with_reducible refine g_drop ?_)
  | (with_reducible refine g_ret ?_)
  | (with_reducible refine g_retN ?_)
  | (with_reducible refine g_next ?_)
  | (with_reducible refine g_brk ?_)
  | (with_reducible refine g_cont ?_)
  | (with_reducible refine g_if ?_)
  | ((with_reducible refine' g_aug ?gv ?_); (case gv => exact rfl))
  | (with_reducible refine g_ipI ?_)
  | (with_reducible refine g_test ?_)
  | (with_reducible refine g_tB ?_)
  | (with_reducible refine g_kB ?_)
  | (with_reducible refine g_not ?_)
  | (with_reducible refine g_and ?_)
  | (with_reducible refine g_or ?_)
  | (with_reducible refine g_andV ?_)
  | (with_reducible refine g_orV ?_)
  | (with_reducible refine g_notV ?_)
  | (with_reducible refine g_ifE ?_)
  | (with_reducible refine g_addI ?_)
  | (with_reducible refine g_rI0 ?_)
  | (with_reducible refine g_eqI ?_)
  | (with_reducible refine g_eqS ?_)
  | (with_reducible refine g_neI ?_)
  | (with_reducible refine g_neS ?_)
  | (with_reducible refine g_isN ?_)
  | (with_reducible refine g_notN ?_)
  | (with_reducible refine g_int ?_)
  | (with_reducible refine g_max2 ?_)
  | (with_reducible refine g_min2 ?_)
  | ((with_reducible refine' g_lenL ?gh ?_); (case gh => walk_at "h"))
  | (with_reducible refine g_sub ?_)
  | (with_reducible refine g_gcons ?_)
  | (with_reducible refine g_gnil ?_)
  | (with_reducible refine g_un ?_)
  | (with_reducible refine g_rU ?_)
  | (with_reducible refine g_forL ?_)
  | (with_reducible refine g_forS ?_)
  | (with_reducible refine g_forR1 ?_)
  | (with_reducible refine g_forR2 ?_)
  | (with_reducible refine g_forR3 ?_)
  | (with_reducible refine g_lcL ?_)
  | (with_reducible refine g_lcR1 ?_)
  | (with_reducible refine g_lcR2 ?_)
  | (with_reducible refine g_slice ?_)
  | (with_reducible refine g_part ?_)
  | (with_reducible refine g_kOI ?_)
  | (with_reducible refine g_nopart ?_)
  | (with_reducible refine g_yes ?_)
  | ((with_reducible refine' g_wipe ?gv ?_); (case gv => exact rfl))
  | (with_reducible refine iteT ?_)
  | (with_reducible refine iteF ?_)
  | (with_reducible refine i_nf ?_)
  | (with_reducible refine i_nt ?_)
  | ((with_reducible refine' g_gtup ?gh ?gl ?_); (case gh => walk_at "h"); (case gl => exact rfl))
  | ((with_reducible refine' g_notinI ?gh ?_); (case gh => walk_at "h"))
  | ((with_reducible refine' g_inI ?gh ?_); (case gh => walk_at "h"))
  | ((with_reducible refine' g_kget2 ?gh ?_); (case gh => walk_at "h"))
  | ((with_reducible refine' g_kgotI ?gh ?_); (case gh => walk_at "h"))
  | (with_reducible refine g_tRev ?_)
  | (with_reducible refine g_neB ?_)
  | (with_reducible refine g_eqB ?_)
  | ((with_reducible refine' g_lenT ?gh ?_); (case gh => walk_at "h"))
  | (with_reducible refine g_star ?_)
  | ((with_reducible refine' g_kstarL ?gh ?_); (case gh => walk_at "h"))
  | ((with_reducible refine' g_kstarT ?gh ?_); (case gh => walk_at "h"))
  | (with_reducible refine g_tru ?_)
  | ((with_reducible refine' g_truL ?gh ?_); (case gh => walk_at "h"))
  | (with_reducible refine g_get2 ?_)
  | (with_reducible refine g_try ?_)
  | (with_reducible refine g_fld ?_)
  | (with_reducible refine g_sfld ?_)
  | (with_reducible refine g_meth ?_)
  | (with_reducible refine g_make ?_)
  | (with_reducible refine g_del ?_)
  | (with_reducible refine g_callS ?_)
  | (with_reducible refine g_raise ?_)
  | (with_reducible refine g_xf ?_)
  | (with_reducible refine g_m0 ?_)
  | (with_reducible refine g_km0 ?_)
  | walk_at "is")
local macro_rules | `(tactic| walk_at "gg") => `(tactic| repeat walk_at "g")
local macro_rules | `(tactic| walk_at "sz") => `(tactic| (refine sz ?_; simp only [List.length_cons, List.length_nil, List.length_map, List.length_append, List.length_replicate]; omega))
local macro_rules | `(tactic| walk_at "sub") => `(tactic| ((repeat (first | exact List.Sublist.slnil | with_reducible apply List.Sublist.cons_cons | with_reducible apply List.Sublist.cons)); done))

local macro_rules | `(tactic| walk_at "g") => `(tactic| first
  | (with_reducible refine g_dcL ?_)
  | (with_reducible refine g_dcT ?_)
  | (with_reducible refine g_m1s ?_)
  | (with_reducible refine g_km1s ?_)
  | (with_reducible refine g_starts ?_)
  | (with_reducible refine g_tryX ?_)
  | (with_reducible refine g_lcS ?_))

local macro_rules | `(tactic| walk_at "g") => `(tactic| first
  | (with_reducible refine g_forEA ?_)
  | (with_reducible refine g_forSA ?_)
  | (with_reducible refine g_sadd ?_))

/-! ### puts -/
abbrev Pt := Str × Option Tx
def pD (p : Pt) : PyData := .tuple [.str p.1, otD p.2]
def okText (o : Option Tx) : Bool := match o with
  | none => true
  | some t => (badT t).isNone
def badPs : Nat → List Str → List Pt → Option Nat
  | _, _, [] => none
  | k, seen, p :: r => if isPath p.1 = true then (if p.1 ∈ seen then some k else if okText p.2 = true then badPs (k + 1) (seen ++ [p.1]) r else some k) else some k
theorem badPs_drop {seen : List Str} {ps : List Pt} {i : Nat} {p : Pt} (h : ps[i]? = some p) : badPs i seen (ps.drop i) = if isPath p.1 = true then (if p.1 ∈ seen then some i else if okText p.2 = true then badPs (i + 1) (seen ++ [p.1]) (ps.drop (i + 1)) else some i) else some i := by
  obtain ⟨lt, e⟩ := List.getElem?_eq_some_iff.mp h
  rw [List.drop_eq_getElem_cons lt, e]
  rfl
theorem badPs_end (seen : List Str) (ps : List Pt) (i : Nat) (h : ps.length ≤ i) : badPs i seen (ps.drop i) = none := by
  rw [List.drop_of_length_le h]
  rfl
theorem pD_inv {F : Hp} {v : V} {p : Pt} (h : Dq F v (pD p)) : ∃ T u, v = .ref T ∧ F T = some (.tup [.str p.1, u]) ∧ Dq F u (otD p.2) := by
  unfold pD at h
  cases h with
  | tup hT hs =>
    cases hs with
    | cons h1 hs =>
      cases hs with
      | cons h2 hs =>
        cases hs
        cases h1
        exact ⟨_, _, rfl, hT, h2⟩
theorem ot_some {F : Hp} {v : V} {t : Tx} (h : Dq F v (otD (some t))) : ∃ l, v = .ref l ∧ F l = some (.tup (t.map V.str)) := by
  cases h with
  | tup h1 h2 =>
    rw [DqAll.of_strs h2] at h1
    exact ⟨_, rfl, h1⟩
/-- bounds -/
def PtB (ps : List Pt) : Prop := ∀ p ∈ ps, p.1.length ≤ 5000 ∧ ∀ t, p.2 = some t → t.length ≤ 1000 ∧ ∀ z ∈ t, z.length ≤ 10000
section
variable {P : Program} {w : World} {K : PySem.W.Frag} {mg : Str → Option Value} {base : Heap}
def sp_check_puts (T : Txt K mg) : Sp := fun vs H Q E => ∃ (l : Addr) (o : HO) (ws : List V) (ps : List Pt), vs = [.ref l] ∧ H l = some o ∧ SeqO o ws ∧ DqAll H ws (ps.map pD) ∧ ps.length ≤ 60 ∧ PtB ps ∧
  (badPs 0 [] ps = none → ∀ H', Same H H' → Q .non H') ∧ (∀ k, badPs 0 [] ps = some k → lost_pl T.C_BadPut H E (k : Nat))
theorem sp_check_puts_len {T : Txt K mg} {vs H Q E} (h : sp_check_puts T vs H Q E) : vs.length = 1 := by
  obtain ⟨_, _, _, _, rfl, _⟩ := h
  rfl
set_option maxHeartbeats 1000000 in
theorem ok_check_puts (T : Txt K mg) : FnOk P w K mg base (L2.CX P w) 4 T.f_check_puts T.fd_check_puts ["puts"] (sp_check_puts T) := by
  refine Fun.okC T.F_check_puts sc_check_puts (fun vs H Q E h => sp_check_puts_len h) (fun cdv A outer s H vs Q E hr h => ?_)
  refine ⟨_, (pss_cons (ps_set (i := 1) sc_check_puts.nd rfl (.inl rfl) (pe_callTy0 (cr_set0P P w) (by rfl) T.m_set (by decide +kernel)))
      (pss_one (ps_for (L2.passes_of rfl) rfl (k_ea K (pi_enumA (by rfl) T.m_enumerate (pa_cons (pv 0) pa_nil))) (k_gt K (pg_tup (by rfl) (pgs_cons (pg_name (i := 2) sc_check_puts.nd rfl (.inl rfl)) (pgs_cons (k_gt K (pg_tup (by rfl) (pgs_cons (pg_name (i := 3) sc_check_puts.nd rfl (.inl rfl)) (pgs_cons (pg_name (i := 4) sc_check_puts.nd rfl (.inl rfl)) pgs_nil)))) pgs_nil)))) (pss_cons (ps_if (pt_not (pt_val (pe_call (ok_is_path T) (hr.mono (by decide)) (by rfl) T.g_is_path T.F_is_path.kp T.b_is_path .nil pass0 (pa_cons (pv 3) pa_nil)))) (pss_one (k_raiseC rfl (L2.takes_of rfl rfl rfl rfl) (pmk_oexN T.O_BadPut T.iC_BadPut T.tI_BadPut (ok_init_BadPut T) (hr.mono (by decide)) T.bi_BadPut pass0 (by rfl) T.g_BadPut (pa_cons (pv 2) pa_nil)))) pss_nil)
      (pss_cons (ps_if (pt_cmpR (op_inM K P w hr.units (u65 hr)) (pv 3) (pv 1) (by rfl)) (pss_one (k_raiseC rfl (L2.takes_of rfl rfl rfl rfl) (pmk_oexN T.O_BadPut T.iC_BadPut T.tI_BadPut (ok_init_BadPut T) (hr.mono (by decide)) T.bi_BadPut pass0 (by rfl) T.g_BadPut (pa_cons (pv 2) pa_nil)))) pss_nil)
      (pss_cons (ps_if (pt_cmpR op_notNA (pv 4) pe_non (nomark _)) (pss_one (k_tryX K (i := 5) (Wout := fun _ _ _ _ => False) rfl rfl sc_check_puts.nd rfl rfl takesN (L2.takes_of rfl rfl rfl rfl) (fun _ _ _ _ h => h) ⟨rfl, by decide, Or.inl T.g_BadText⟩ (fun W pn xe tk hown => (pss_one (ps_expr (pe_callS (ok_checked_text T) (hr.mono (by decide)) (by rfl) T.g_checked_text T.F_checked_text.kp T.b_checked_text (fun σ => L2N.passAt tk σ) (pa_cons (pe_callTy (cr_listK K) (by rfl) T.m_list (by decide +kernel) (pa_cons (pv 4) pa_nil)) pa_nil))))) (fun a oe cls d pn xe hz hf tkS hot => (pss_one (k_raiseF K (i := 5) hz hf tkS (L2H.pmk5_oexH T.O_BadPut T.iC_BadPut T.tI_BadPut (ok_init_BadPut_h T) (roomS hr (by decide)) hot T.bi_BadPut (fun _ _ _ _ _ _ _ h => h.elim) (by rfl) T.g_BadPut (pa_cons (pv 2) pa_nil)) rfl rfl))))) pss_nil)
      (pss_one (ps_expr (k_sadd P w (pe_saddK (pv 1) (pa_cons (pv 3) pa_nil))))))))))), ?_⟩
  obtain ⟨l, o, ws, ps, rfl, hl, so, dw, lp, pb, q, qe⟩ := h
  have hH := Has.start H
  have lw := dw.len
  rw [List.length_map] at lw
  refine g_start (σ' := [some (.ref l), none, none, none, none, none]) rfl ?_
  walk_at "gg"
  refine g_set0 hH (fun sn H1 n1 h1 => ?_)
  walk_at "gg"
  refine k_forEA so (fun t σ H' => ∃ (y2 y3 y4 y5 : Option V) (S : Key → Bool) (n : Nat), σ = [some (.ref l), some (.ref sn), y2, y3, y4, y5] ∧ Has H [(sn, SetK P w sn S n)] H' ∧ n ≤ t ∧ (∀ z, S (.inr z) = true ↔ z ∈ (ps.take t).map (·.1)) ∧ badPs 0 [] ps = badPs t ((ps.take t).map (·.1)) (ps.drop t)) ⟨_, _, _, _, _, 0, rfl, h1, Nat.le_refl _, by simp, rfl⟩ ?_ ?_ ?_
  · rintro t σ H' ⟨y2, y3, y4, y5, S, n, rfl, h, _⟩
    exact h.same _ _ hl
  · rintro t xx σ H2 T2 hx ⟨y2, y3, y4, y5, S, n, rfl, h2, ln, mS, eb⟩ nT
    obtain ⟨d, ed, dx⟩ := dw.get hx
    rw [List.getElem?_map] at ed
    obtain ⟨p, ep, rfl⟩ := Option.map_eq_some_iff.mp ed
    obtain ⟨Tp, u, rfl, hT, du⟩ := pD_inv dx
    have tl := (List.getElem?_eq_some_iff.mp ep).1
    have pB := pb p (List.mem_of_getElem? ep)
    have tk : (ps.take (t + 1)).map (·.1) = (ps.take t).map (·.1) ++ [p.1] := by rw [List.take_add_one, ep, List.map_append]; rfl
    have h3 := h2.new (o := .tup [.int (t : Nat), .ref Tp]) nT
    refine g_gtup (h3.get (List.Mem.head _)) rfl ?_
    have sT := h3.same
    walk_at "gg"
    have h3 := h3.drop
    generalize upd H2 T2 _ = H3 at h3 sT
    rw [badPs_drop ep] at eb
    refine ⟨p.1, rfl, pB.1, fun H4 s4 => ?_⟩
    have h4 := h3.on s4
    walk_at "gg"
    cases hb : isPath p.1 with
    | false =>
      rw [hb, if_neg (by decide)] at eb
      walk_at "gg"
      exact g_mk rfl (by decide) h4 (fun e H' n' h' => qe t eb e H' h'.same (h4.same.free n') (h'.get (List.Mem.head _)))
    | true =>
    rw [hb, if_pos rfl] at eb
    walk_at "gg"
    refine g_inK (k := .inr p.1) rfl (h4.get (List.Mem.head _)) ?_
    walk_at "gg"
    cases hs : S (.inr p.1) with
    | true =>
      rw [if_pos ((mS p.1).mp hs)] at eb
      walk_at "gg"
      exact g_mk rfl (by decide) h4 (fun e H' n' h' => qe t eb e H' h'.same (h4.same.free n') (h'.get (List.Mem.head _)))
    | false =>
    have ns : p.1 ∉ (ps.take t).map (·.1) := fun m => by
      rw [(mS p.1).mpr m] at hs
      cases hs
    rw [if_neg ns] at eb
    walk_at "gg"
    have mem' : ∀ z, (S (.inr z) || decide ((Sum.inr z : Key) = .inr p.1)) = true ↔ z ∈ (ps.take (t + 1)).map (·.1) := fun z => by
      rw [tk, List.mem_append, List.mem_singleton, Bool.or_eq_true, decide_eq_true_eq, mS z]
      exact ⟨fun h => h.elim .inl (fun e => .inr (Sum.inr.inj e)), fun h => h.elim .inl (fun e => .inr (by rw [e]))⟩
    have room : n + 1 < scanBound := by
      unfold scanBound
      omega
    cases eo : p.2 with
    | none =>
      rw [eo] at du eb
      have e := du.non_inv
      subst e
      refine i_n (fun c => (c rfl).elim) (fun _ => ?_)
      rw [if_pos (show okText none = true from rfl), ← tk] at eb
      walk_at "gg"
      refine g_ksadd (h4.get (List.Mem.head _)) ?_
      walk_at "gg"
      refine g_saddK (k := .inr p.1) rfl h4 .hd room (fun H5 h5 => ?_)
      walk_at "gg"
      refine ⟨_, _, _, _, _, _, rfl, h5, ?_, mem', eb⟩
      rw [hs, if_neg (by decide)]
      omega
    | some x =>
      rw [eo] at du eb
      obtain ⟨lx, rfl, hx⟩ := ot_some du
      have bx := pB.2 x eo
      refine i_n (fun _ => ?_) (fun c => by cases c)
      walk_at "gg"
      refine g_listT (h4.same _ _ hx) h4 (fun p5 H5 n5 h5 => ?_)
      walk_at "gg"
      refine ⟨p5, x, rfl, h5.get (List.Mem.head _), bx.2, bx.1, fun e p6 H6 s6 n6 h6 => ?_, fun k e => ?_⟩
      · have h6 := (h5.on s6).drop
        rw [if_pos (show okText (some x) = true by show (badT x).isNone = true; rw [e]; rfl), ← tk] at eb
        walk_at "gg"
        refine g_ksadd (h6.get (List.Mem.head _)) ?_
        walk_at "gg"
        refine g_saddK (k := .inr p.1) rfl h6 .hd room (fun H7 h7 => ?_)
        walk_at "gg"
        refine ⟨_, _, _, _, _, _, rfl, h7, ?_, mem', eb⟩
        rw [hs, if_neg (by decide)]
        omega
      · rw [if_neg (show ¬ okText (some x) = true by show ¬ (badT x).isNone = true; rw [e]; simp)] at eb
        intro ex H6 s6 n6 h6
        have h6 := h5.made n6 s6 h6
        refine g_caught T.M_BadText_BadText (fun exn nxn => ?_)
        refine g_raiseF rfl T.O_BadText.exC ?_
        walk_at "gg"
        exact g_mk rfl (by decide) h6 (fun e H' n' h' => qe t eb e H' h'.same (h6.same.free n') (h'.get (List.Mem.head _)))
  · rintro σ H2 ⟨y2, y3, y4, y5, S, n, rfl, h2, ln, mS, eb⟩
    rw [badPs_end _ _ _ (by omega)] at eb
    walk_at "gg"
    exact q eb H2 h2.same
/-- the puts between -/
def putL (cs : List Cg) : List Pt := cs.map fun c => (c.1, c.2.2)
def sp_puts_between (K : PySem.W.Frag) : Sp := fun vs H Q _ => ∃ (a b : Addr) (A B : Tr), vs = [.ref a, .ref b] ∧ TrAt H a A ∧ TrAt H b B ∧ A.length ≤ 4 ∧ B.length ≤ 4 ∧ okTr A ∧ okTr B ∧
  ∀ p F H' ws us, Same H F → Has F [(p, .lst ws)] H' → Both A B us → us.length ≤ 8 → DqAll F ws ((putL (chgL A B us)).map pD) → Q (.ref p) H'
theorem sp_puts_between_len {vs H Q E} (h : sp_puts_between K vs H Q E) : vs.length = 2 := by
  obtain ⟨_, _, _, _, rfl, _⟩ := h
  rfl
theorem tup_at {F : Hp} {v : V} {c : Cg} (h : Dq F v (cD c)) : ∃ T u1 u2, v = .ref T ∧ F T = some (.tup [.str c.1, u1, u2]) ∧ Dq F u1 (otD c.2.1) ∧ Dq F u2 (otD c.2.2) := by
  unfold cD at h
  cases h with
  | tup hT hs =>
    cases hs with
    | cons h1 hs =>
      cases hs with
      | cons h2 hs =>
        cases hs with
        | cons h3 hs =>
          cases hs
          cases h1
          exact ⟨_, _, _, rfl, hT, h2, h3⟩
theorem ok_puts_between (T : Txt K mg) : FnOk P w K mg base CX0 3 T.f_puts_between T.fd_puts_between ["old", "new"] (sp_puts_between K) := by
  refine T.F_puts_between.ok sc_puts_between (fun vs H Q E h => sp_puts_between_len h) (fun cdv A outer s H vs Q E hr h => ?_)
  refine ⟨_, (pss_one (ps_ret (pe_lc (own := [("path", 2), ("_", 3), ("after", 4)]) (g := gTup K 3 (gCons (gName 2) (gCons (gName 3) (gCons (gName 4) gNil)))) (tt := tYes) rfl sc_puts_between.nd (k_il K (pi_list (pe_call (ok_tree_changes T) (hr.mono (by decide)) (by rfl) T.g_tree_changes T.F_tree_changes.kp T.b_tree_changes .nil pass0 (pa_cons (pv 0) (pa_cons (pv 1) pa_nil))))) (blkOk_by (N := n_puts_between) (sc := defScope s_puts_between) (by decide +kernel)) (fun _ _ _ _ _ => (k_gt K (pg_tup (by rfl) (pgs_cons (pg_name (i := 2) sc_puts_between.nd rfl (.inl rfl)) (pgs_cons (pg_name (i := 3) sc_puts_between.nd rfl (.inl rfl)) (pgs_cons (pg_name (i := 4) sc_puts_between.nd rfl (.inl rfl)) pgs_nil)))))) (fun _ _ _ _ _ => pts_nil) (fun _ _ _ _ _ => (pe_tup (pa_cons (pv 2) (pa_cons (pv 4) pa_nil))))))), ?_⟩
  obtain ⟨a, b, A, B, rfl, ta, tb, lA, lB, okA, okB, q⟩ := h
  refine g_start (σ' := [some (.ref a), some (.ref b), none, none, none]) rfl ?_
  walk_at "gg"
  refine ⟨a, b, A, B, rfl, ta, tb, lA, lB, okA, okB, fun l F1 H1 ws us s1 h1 bo lus dw => ?_⟩
  have lw := dw.len
  rw [List.length_map] at lw
  have lc := chgL_len A B us
  walk_at "gg"
  refine k_lcL (h1.get (List.Mem.head _)) h1 (fun i acc F' O' => DqAll F' acc (((putL (chgL A B us)).take i).map pD) ∧ Same F1 F' ∧ O' = [(l, .lst ws)]) ⟨.nil, Same.refl _, rfl⟩ ?_ ?_ ?_
  · rintro i acc F' O' H' ⟨_, sF, rfl⟩ hh
    exact hh.get (List.Mem.head _)
  · rintro i x acc F' O' D H2 hx ⟨da, sF, rfl⟩ hh
    obtain ⟨d, ed, dx⟩ := dw.get hx
    rw [List.getElem?_map] at ed
    obtain ⟨c, ec, rfl⟩ := Option.map_eq_some_iff.mp ed
    obtain ⟨Tc, u1, u2, rfl, hT, d1, d2⟩ := tup_at dx
    have la := da.len
    have li := (List.getElem?_eq_some_iff.mp ec).1
    rw [List.length_map, List.length_take] at la
    refine g_gtup ((sF.trans hh.same) _ _ hT) rfl ?_
    walk_at "gg"
    refine g_ktupF (by walk_at "sz") hh (fun p9 H9 F9 n9 s9 f9 h9 => ?_)
    refine k_turn h9 (by omega) ⟨?_, sF.trans s9, rfl⟩
    have ep : (putL (chgL A B us))[i]? = some (c.1, c.2.2) := by
      unfold putL
      rw [List.getElem?_map, ec]
      rfl
    rw [List.take_add_one, ep, List.map_append]
    exact (da.up s9 _ _).snoc (.tup f9 (.cons (.str c.1) (.cons (d2.up (sF.trans s9) _ _) .nil)))
  · rintro acc F' O' D H2 ⟨da, sF, rfl⟩ hh
    have ep : (putL (chgL A B us)).length = ws.length := by
      unfold putL
      rw [List.length_map]
      exact lw.symm
    rw [← ep, List.take_length] at da
    exact q D F' H2 acc us (s1.trans sF) (hh.sub (List.Sublist.cons_cons _ (List.nil_sublist _))) bo lus da
end

end K07

namespace K07
open PySem PySem.Spec PyProof.Rows L2 Qk
local macro_rules | `(tactic| walk_at "m") => `(tactic| ((repeat (first | exact List.Mem.head _ | apply List.Mem.tail)); done))
local macro_rules | `(tactic| walk_at "h") => `(tactic| first | assumption | exact Has.gF (by assumption) (by assumption) | exact Has.get (by assumption) (by walk_at "m"))
local macro_rules | `(tactic| walk_at "c") => `(tactic| ((repeat (first | exact Chg.hd | apply Chg.tl)); done))
local macro_rules | `(tactic| walk_at "is") => `(tactic| first
  | ((with_reducible refine' is2_non ?gh ?_); (case gh => walk_at "h"))
  | (with_reducible refine is_int_list ?_)
  | (with_reducible refine is_int_tuple ?_)
  | (with_reducible refine is_int_dict ?_)
  | (with_reducible refine is_int_int ?_)
  | (with_reducible refine is_int_bool ?_)
  | (with_reducible refine is_int_str ?_)
  | ((with_reducible refine' is2_int ?gh ?_); (case gh => walk_at "h"))
  | (with_reducible refine is_str_list ?_)
  | (with_reducible refine is_str_tuple ?_)
  | (with_reducible refine is_str_dict ?_)
  | (with_reducible refine is_str_int ?_)
  | (with_reducible refine is_str_bool ?_)
  | (with_reducible refine is_str_str ?_)
  | ((with_reducible refine' is2_str ?gh ?_); (case gh => walk_at "h"))
  | (with_reducible refine is_bool_list ?_)
  | (with_reducible refine is_bool_tuple ?_)
  | (with_reducible refine is_bool_dict ?_)
  | (with_reducible refine is_bool_int ?_)
  | (with_reducible refine is_bool_bool ?_)
  | (with_reducible refine is_bool_str ?_)
  | ((with_reducible refine' is2_bool ?gh ?_); (case gh => walk_at "h"))
  | ((with_reducible refine' is_list_list ?gh ?_); (case gh => walk_at "h"))
  | ((with_reducible refine' is_list_tuple ?gh ?_); (case gh => walk_at "h"))
  | ((with_reducible refine' is_list_dict ?gh ?_); (case gh => walk_at "h"))
  | ((with_reducible refine' is_list_int ?gh ?_); (case gh => walk_at "h"))
  | ((with_reducible refine' is_list_bool ?gh ?_); (case gh => walk_at "h"))
  | ((with_reducible refine' is_list_str ?gh ?_); (case gh => walk_at "h"))
  | ((with_reducible refine' is2_list ?ga ?gb ?_); (case ga => walk_at "h"); (case gb => walk_at "h"))
  | ((with_reducible refine' is_tuple_list ?gh ?_); (case gh => walk_at "h"))
  | ((with_reducible refine' is_tuple_tuple ?gh ?_); (case gh => walk_at "h"))
  | ((with_reducible refine' is_tuple_dict ?gh ?_); (case gh => walk_at "h"))
  | ((with_reducible refine' is_tuple_int ?gh ?_); (case gh => walk_at "h"))
  | ((with_reducible refine' is_tuple_bool ?gh ?_); (case gh => walk_at "h"))
  | ((with_reducible refine' is_tuple_str ?gh ?_); (case gh => walk_at "h"))
  | ((with_reducible refine' is2_tuple ?ga ?gb ?_); (case ga => walk_at "h"); (case gb => walk_at "h"))
  | ((with_reducible refine' is_dict_list ?gh ?_); (case gh => walk_at "h"))
  | ((with_reducible refine' is_dict_tuple ?gh ?_); (case gh => walk_at "h"))
  | ((with_reducible refine' is_dict_dict ?gh ?_); (case gh => walk_at "h"))
  | ((with_reducible refine' is_dict_int ?gh ?_); (case gh => walk_at "h"))
  | ((with_reducible refine' is_dict_bool ?gh ?_); (case gh => walk_at "h"))
  | ((with_reducible refine' is_dict_str ?gh ?_); (case gh => walk_at "h"))
  | ((with_reducible refine' is2_dict ?ga ?gb ?_); (case ga => walk_at "h"); (case gb => walk_at "h")))
local macro_rules | `(tactic| walk_at "g") => `(tactic| first
  | (with_reducible refine g_seq ?_)
  | (with_reducible refine g_asg ?_)
  | ((with_reducible refine g_name ?_); dsimp only [List.set, wipe, List.map])
  | ((with_reducible refine' g_var ?gv ?_); (case gv => exact rfl))
  | (with_reducible refine g_c ?_)
  | (with_reducible refine g_op ?_)
  | (with_reducible refine g_cons ?_)
  | (with_reducible refine g_nil ?_)
  | (with_reducible refine g_cb ?_)
  | (with_reducible refine g_call ?_)
  | (with_reducible refine g_tup ?_)
  | (with_reducible refine g_lst ?_)
  | (with_reducible refine g_bm ?_)
  | (with_reducible refine g_bm0 ?_)
  | ((with_reducible refine' g_kbm ?gh ?_); (case gh => walk_at "h"))
  | (with_reducible refine g_drop ?_)
  | (with_reducible refine g_ret ?_)
  | (with_reducible refine g_retN ?_)
  | (with_reducible refine g_next ?_)
  | (with_reducible refine g_brk ?_)
  | (with_reducible refine g_cont ?_)
  | (with_reducible refine g_if ?_)
  | ((with_reducible refine' g_aug ?gv ?_); (case gv => exact rfl))
  | (with_reducible refine g_ipI ?_)
  | (with_reducible refine g_test ?_)
  | (with_reducible refine g_tB ?_)
  | (with_reducible refine g_kB ?_)
  | (with_reducible refine g_not ?_)
  | (with_reducible refine g_and ?_)
  | (with_reducible refine g_or ?_)
  | (with_reducible refine g_andV ?_)
  | (with_reducible refine g_orV ?_)
  | (with_reducible refine g_notV ?_)
  | (with_reducible refine g_ifE ?_)
  | (with_reducible refine g_addI ?_)
  | (with_reducible refine g_rI0 ?_)
  | (with_reducible refine g_eqI ?_)
  | (with_reducible refine g_eqS ?_)
  | (with_reducible refine g_neI ?_)
  | (with_reducible refine g_neS ?_)
  | (with_reducible refine g_isN ?_)
  | (with_reducible refine g_notN ?_)
  | (with_reducible refine g_int ?_)
  | (with_reducible refine g_max2 ?_)
  | (with_reducible refine g_min2 ?_)
  | ((with_reducible refine' g_lenL ?gh ?_); (case gh => walk_at "h"))
  | (with_reducible refine g_sub ?_)
  | (with_reducible refine g_gcons ?_)
  | (with_reducible refine g_gnil ?_)
  | (with_reducible refine g_un ?_)
  | (with_reducible refine g_rU ?_)
  | (with_reducible refine g_forL ?_)
  | (with_reducible refine g_forS ?_)
  | (with_reducible refine g_forR1 ?_)
  | (with_reducible refine g_forR2 ?_)
  | (with_reducible refine g_forR3 ?_)
  | (with_reducible refine g_lcL ?_)
  | (with_reducible refine g_lcR1 ?_)
  | (with_reducible refine g_lcR2 ?_)
  | (with_reducible refine g_slice ?_)
  | (with_reducible refine g_part ?_)
  | (with_reducible refine g_kOI ?_)
  | (with_reducible refine g_nopart ?_)
  | (with_reducible refine g_yes ?_)
  | ((with_reducible refine' g_wipe ?gv ?_); (case gv => exact rfl))
  | (with_reducible refine iteT ?_)
  | (with_reducible refine iteF ?_)
  | (with_reducible refine i_nf ?_)
  | (with_reducible refine i_nt ?_)
  | ((with_reducible refine' g_gtup ?gh ?gl ?_); (case gh => walk_at "h"); (case gl => exact rfl))
  | ((with_reducible refine' g_notinI ?gh ?_); (case gh => walk_at "h"))
  | ((with_reducible refine' g_inI ?gh ?_); (case gh => walk_at "h"))
  | ((with_reducible refine' g_kget2 ?gh ?_); (case gh => walk_at "h"))
  | ((with_reducible refine' g_kgotI ?gh ?_); (case gh => walk_at "h"))
  | (with_reducible refine g_tRev ?_)
  | (with_reducible refine g_neB ?_)
  | (with_reducible refine g_eqB ?_)
  | ((with_reducible refine' g_lenT ?gh ?_); (case gh => walk_at "h"))
  | (with_reducible refine g_star ?_)
  | ((with_reducible refine' g_kstarL ?gh ?_); (case gh => walk_at "h"))
  | ((with_reducible refine' g_kstarT ?gh ?_); (case gh => walk_at "h"))
  | (with_reducible refine g_tru ?_)
  | ((with_reducible refine' g_truL ?gh ?_); (case gh => walk_at "h"))
  | (with_reducible refine g_get2 ?_)
  | (with_reducible refine g_try ?_)
  | (with_reducible refine g_fld ?_)
  | (with_reducible refine g_sfld ?_)
  | (with_reducible refine g_meth ?_)
  | (with_reducible refine g_make ?_)
  | (with_reducible refine g_del ?_)
  | (with_reducible refine g_callS ?_)
  | (with_reducible refine g_raise ?_)
  | (with_reducible refine g_xf ?_)
  | (with_reducible refine g_m0 ?_)
  | (with_reducible refine g_km0 ?_)
  | walk_at "is")
local macro_rules | `(tactic| walk_at "gg") => `(tactic| repeat walk_at "g")
local macro_rules | `(tactic| walk_at "sz") => `(tactic| (refine sz ?_; simp only [List.length_cons, List.length_nil, List.length_map, List.length_append, List.length_replicate]; omega))
local macro_rules | `(tactic| walk_at "sub") => `(tactic| ((repeat (first | exact List.Sublist.slnil | with_reducible apply List.Sublist.cons_cons | with_reducible apply List.Sublist.cons)); done))

local macro_rules | `(tactic| walk_at "g") => `(tactic| first
  | (with_reducible refine g_dcL ?_)
  | (with_reducible refine g_dcT ?_)
  | (with_reducible refine g_m1s ?_)
  | (with_reducible refine g_km1s ?_)
  | (with_reducible refine g_starts ?_)
  | (with_reducible refine g_tryX ?_)
  | (with_reducible refine g_lcS ?_))

/-! ### texts by paths -/
def upF (f : Str → Option Tx) (z : Str) (o : Option Tx) : Str → Option Tx := fun y => if y = z then o else f y
/-- texts by paths, None among them -/
abbrev Es := List (Str × Option Tx)
def getE : Es → Str → Option (Option Tx)
  | [], _ => none
  | p :: r, z => if p.1 = z then some p.2 else getE r z
def fE (es : Es) (z : Str) : Option Tx := (getE es z).getD none
def putE : Es → Str → Option Tx → Es
  | [], z, o => [(z, o)]
  | p :: r, z, o => if p.1 = z then (z, o) :: r else p :: putE r z o
theorem getE_put (z : Str) (o : Option Tx) : ∀ (es : Es) (y : Str), getE (putE es z o) y = if y = z then some o else getE es y
  | [], y => by
    unfold putE getE
    by_cases h : z = y
    · rw [if_pos h, if_pos h.symm]
    · rw [if_neg h, if_neg (fun e => h e.symm)]
      rfl
  | p :: r, y => by
    unfold putE
    by_cases h : p.1 = z
    · rw [if_pos h]
      unfold getE
      by_cases k : z = y
      · rw [if_pos k, if_pos k.symm]
      · rw [if_neg k, if_neg (fun e => k e.symm), if_neg (fun e => k (h.symm.trans e))]
    · rw [if_neg h]
      unfold getE
      by_cases k : p.1 = y
      · rw [if_pos k, if_pos k, if_neg (fun e => h (k.trans e))]
      · rw [if_neg k, if_neg k, getE_put z o r y]
theorem fE_put (es : Es) (z : Str) (o : Option Tx) : fE (putE es z o) = upF (fE es) z o := by
  funext y
  unfold fE upF
  rw [getE_put]
  by_cases h : y = z
  · rw [if_pos h, if_pos h]
    rfl
  · rw [if_neg h, if_neg h]
theorem putE_mem {z : Str} {o : Option Tx} : ∀ {es : Es} {y : Str}, y ∈ (putE es z o).map (·.1) ↔ y ∈ es.map (·.1) ∨ y = z
  | [], y => by simp [putE]
  | p :: r, y => by
    unfold putE
    by_cases h : p.1 = z
    · rw [if_pos h, List.map_cons, List.map_cons, List.mem_cons, List.mem_cons, h]
      constructor
      · exact .inl
      · rintro (k | k)
        · exact k
        · exact .inl k
    · rw [if_neg h, List.map_cons, List.map_cons, List.mem_cons, List.mem_cons, putE_mem, or_assoc]
theorem putE_nd {z : Str} {o : Option Tx} : ∀ {es : Es}, (es.map (·.1)).Nodup → ((putE es z o).map (·.1)).Nodup
  | [], _ => by simp [putE]
  | p :: r, n => by
    rw [List.map_cons] at n
    have n' := List.nodup_cons.mp n
    unfold putE
    by_cases h : p.1 = z
    · rw [if_pos h, List.map_cons]
      rw [← h]
      exact n
    · rw [if_neg h, List.map_cons]
      refine List.nodup_cons.mpr ⟨fun m => ?_, putE_nd n'.2⟩
      rcases putE_mem.mp m with m | m
      · exact n'.1 m
      · exact h m
theorem putE_len (z : Str) (o : Option Tx) : ∀ es : Es, (putE es z o).length ≤ es.length + 1
  | [] => by simp [putE]
  | p :: r => by
    unfold putE
    by_cases h : p.1 = z
    · rw [if_pos h]
      simp
    · rw [if_neg h, List.length_cons, List.length_cons]
      have := putE_len z o r
      omega
theorem fE_mem : ∀ {es : Es} {z : Str} {t : Tx}, fE es z = some t → z ∈ es.map (·.1)
  | [], z, t, h => by cases h
  | p :: r, z, t, h => by
    unfold fE getE at h
    rw [List.map_cons, List.mem_cons]
    by_cases k : p.1 = z
    · exact .inl k.symm
    · rw [if_neg k] at h
      exact .inr (fE_mem h)
theorem putK_cons {kv : Key × V} {r : List (Key × V)} {k : Key} {u : V} (n : kv.1 ∉ r.map (·.1)) : putK (kv :: r) k u = if kv.1 = k then (kv.1, u) :: r else kv :: putK r k u := by
  unfold putK
  by_cases h : kv.1 = k
  · have a : ((kv :: r).any fun q => decide (q.1 = k)) = true := List.any_eq_true.mpr ⟨kv, List.mem_cons_self, decide_eq_true h⟩
    rw [if_pos a, if_pos h, List.map_cons, if_pos h]
    congr 1
    refine (List.map_congr_left fun q hq => ?_).trans (List.map_id r)
    rw [if_neg (fun e => n (by rw [h, ← e]; exact List.mem_map.mpr ⟨q, hq, rfl⟩))]
    rfl
  · rw [if_neg h, List.any_cons, decide_eq_false h, Bool.false_or]
    split
    · rw [List.map_cons, if_neg h]
    · rfl
theorem getT_snoc : ∀ {A : Tr} {p : Str × Tx}, p.1 ∉ A.map (·.1) → ∀ z, getT (A ++ [p]) z = if z = p.1 then some p.2 else getT A z
  | [], p, _, z => by
    show (if p.1 = z then some p.2 else none) = _
    by_cases h : p.1 = z
    · rw [if_pos h, if_pos h.symm]
    · rw [if_neg h, if_neg (fun e => h e.symm)]
      rfl
  | q :: A, p, n, z => by
    rw [List.map_cons, List.mem_cons] at n
    have n' := not_or.mp n
    show (if q.1 = z then some q.2 else getT (A ++ [p]) z) = if z = p.1 then some p.2 else (if q.1 = z then some q.2 else getT A z)
    rw [getT_snoc n'.2 z]
    by_cases h : q.1 = z
    · rw [if_pos h, if_pos h, if_neg (fun e => n'.1 (e.symm.trans h.symm))]
    · rw [if_neg h, if_neg h]
/-- the tree that these texts are -/
def outT (f : Str → Option Tx) (us : List Str) : Tr := us.filterMap fun z => (f z).map fun t => (z, t)
theorem outT_snoc (f : Str → Option Tx) (us : List Str) (z : Str) : outT f (us ++ [z]) = outT f us ++ (match f z with | none => [] | some t => [(z, t)]) := by
  unfold outT
  rw [List.filterMap_append]
  congr 1
  cases e : f z with
  | none => rw [List.filterMap_cons_none (by rw [e]; rfl)]; rfl
  | some t => rw [List.filterMap_cons_some (b := (z, t)) (by rw [e]; rfl)]; rfl
theorem outT_keys (f : Str → Option Tx) : ∀ us : List Str, ((outT f us).map (·.1)).Sublist us
  | [] => List.Sublist.refl _
  | z :: r => by
    unfold outT
    cases e : f z with
    | none =>
      rw [List.filterMap_cons_none (by rw [e]; rfl)]
      exact (outT_keys f r).cons _
    | some t =>
      rw [List.filterMap_cons_some (b := (z, t)) (by rw [e]; rfl), List.map_cons]
      exact (outT_keys f r).cons_cons _
theorem outT_mem {f : Str → Option Tx} {us : List Str} {z : Str} {t : Tx} : (z, t) ∈ outT f us ↔ z ∈ us ∧ f z = some t := by
  unfold outT
  rw [List.mem_filterMap]
  constructor
  · rintro ⟨y, hy, e⟩
    obtain ⟨x, ex, e2⟩ := Option.map_eq_some_iff.mp e
    injection e2 with e2 e3
    subst e2
    subst e3
    exact ⟨hy, ex⟩
  · rintro ⟨h, e⟩
    exact ⟨z, h, by rw [e]; rfl⟩
theorem getE_of : ∀ {es : Es} {z : Str}, z ∈ es.map (·.1) → ∃ o, getE es z = some o
  | [], z, h => by cases h
  | p :: r, z, h => by
    unfold getE
    by_cases c : p.1 = z
    · exact ⟨p.2, if_pos c⟩
    · rw [if_neg c]
      rw [List.map_cons, List.mem_cons] at h
      exact getE_of (h.elim (fun e => (c e.symm).elim) id)
theorem keys_put {z : Str} {o : Option Tx} {u : V} : ∀ {kvs : List (Key × V)} {es : Es}, kvs.map (·.1) = es.map (fun p => kS p.1) → (es.map (·.1)).Nodup → (putK kvs (.inr z) u).map (·.1) = (putE es z o).map (fun p => kS p.1)
  | [], [], _, _ => rfl
  | [], _ :: _, e, _ => by cases e
  | _ :: _, [], e, _ => by cases e
  | kv :: kvs, p :: es, e, nd => by
    rw [List.map_cons, List.map_cons] at e
    injection e with e1 e2
    rw [List.map_cons] at nd
    have nd' := List.nodup_cons.mp nd
    have nk : kv.1 ∉ kvs.map (·.1) := fun m => by
      rw [e1, e2] at m
      obtain ⟨q, hq, eq⟩ := List.mem_map.mp m
      have : q.1 = p.1 := Sum.inr.inj eq
      exact nd'.1 (List.mem_map.mpr ⟨q, hq, this⟩)
    rw [putK_cons nk]
    unfold putE
    by_cases h : p.1 = z
    · have h2 : kv.1 = Sum.inr z := by rw [e1, ← h]; rfl
      rw [if_pos h, if_pos h2, List.map_cons, List.map_cons, e2, h2]
      rfl
    · have h2 : ¬ kv.1 = Sum.inr z := fun e => h (Sum.inr.inj (e1.symm.trans e))
      rw [if_neg h, if_neg h2, List.map_cons, List.map_cons, e1, keys_put e2 nd'.2]

end K07

namespace K07
open PySem PySem.Spec PyProof.Rows L2 Qk
local macro_rules | `(tactic| walk_at "m") => `(tactic| ((repeat (first | exact List.Mem.head _ | apply List.Mem.tail)); done))
local macro_rules | `(tactic| walk_at "h") => `(tactic| first | assumption | exact Has.gF (by assumption) (by assumption) | exact Has.get (by assumption) (by walk_at "m"))
local macro_rules | `(tactic| walk_at "c") => `(tactic| ((repeat (first | exact Chg.hd | apply Chg.tl)); done))
local macro_rules | `(tactic| walk_at "is") => `(tactic| first
  | ((with_reducible refine' is2_non ?gh ?_); (case gh => walk_at "h"))
  | (with_reducible refine is_int_list ?_)
  | (with_reducible refine is_int_tuple ?_)
  | (with_reducible refine is_int_dict ?_)
  | (with_reducible refine is_int_int ?_)
  | (with_reducible refine is_int_bool ?_)
  | (with_reducible refine is_int_str ?_)
  | ((with_reducible refine' is2_int ?gh ?_); (case gh => walk_at "h"))
  | (with_reducible refine is_str_list ?_)
  | (with_reducible refine is_str_tuple ?_)
  | (with_reducible refine is_str_dict ?_)
  | (with_reducible refine is_str_int ?_)
  | (with_reducible refine is_str_bool ?_)
  | (with_reducible refine is_str_str ?_)
  | ((with_reducible refine' is2_str ?gh ?_); (case gh => walk_at "h"))
  | (with_reducible refine is_bool_list ?_)
  | (with_reducible refine is_bool_tuple ?_)
  | (with_reducible refine is_bool_dict ?_)
  | (with_reducible refine is_bool_int ?_)
  | (with_reducible refine is_bool_bool ?_)
  | (with_reducible refine is_bool_str ?_)
  | ((with_reducible refine' is2_bool ?gh ?_); (case gh => walk_at "h"))
  | ((with_reducible refine' is_list_list ?gh ?_); (case gh => walk_at "h"))
  | ((with_reducible refine' is_list_tuple ?gh ?_); (case gh => walk_at "h"))
  | ((with_reducible refine' is_list_dict ?gh ?_); (case gh => walk_at "h"))
  | ((with_reducible refine' is_list_int ?gh ?_); (case gh => walk_at "h"))
  | ((with_reducible refine' is_list_bool ?gh ?_); (case gh => walk_at "h"))
  | ((with_reducible refine' is_list_str ?gh ?_); (case gh => walk_at "h"))
  | ((with_reducible refine' is2_list ?ga ?gb ?_); (case ga => walk_at "h"); (case gb => walk_at "h"))
  | ((with_reducible refine' is_tuple_list ?gh ?_); (case gh => walk_at "h"))
  | ((with_reducible refine' is_tuple_tuple ?gh ?_); (case gh => walk_at "h"))
  | ((with_reducible refine' is_tuple_dict ?gh ?_); (case gh => walk_at "h"))
  | ((with_reducible refine' is_tuple_int ?gh ?_); (case gh => walk_at "h"))
  | ((with_reducible refine' is_tuple_bool ?gh ?_); (case gh => walk_at "h"))
  | ((with_reducible refine' is_tuple_str ?gh ?_); (case gh => walk_at "h"))
  | ((with_reducible refine' is2_tuple ?ga ?gb ?_); (case ga => walk_at "h"); (case gb => walk_at "h"))
  | ((with_reducible refine' is_dict_list ?gh ?_); (case gh => walk_at "h"))
  | ((with_reducible refine' is_dict_tuple ?gh ?_); (case gh => walk_at "h"))
  | ((with_reducible refine' is_dict_dict ?gh ?_); (case gh => walk_at "h"))
  | ((with_reducible refine' is_dict_int ?gh ?_); (case gh => walk_at "h"))
  | ((with_reducible refine' is_dict_bool ?gh ?_); (case gh => walk_at "h"))
  | ((with_reducible refine' is_dict_str ?gh ?_); (case gh => walk_at "h"))
  | ((with_reducible refine' is2_dict ?ga ?gb ?_); (case ga => walk_at "h"); (case gb => walk_at "h")))
local macro_rules | `(tactic| walk_at "g") => `(tactic| first
  | (with_reducible refine g_seq ?_)
  | (with_reducible refine g_asg ?_)
  | ((with_reducible refine g_name ?_); dsimp only [List.set, wipe, List.map])
  | ((with_reducible refine' g_var ?gv ?_); (case gv => exact rfl))
  | (with_reducible refine g_c ?_)
  | (with_reducible refine g_op ?_)
  | (with_reducible refine g_cons ?_)
  | (with_reducible refine g_nil ?_)
  | (with_reducible refine g_cb ?_)
  | (with_reducible refine g_call ?_)
  | (with_reducible refine g_tup ?_)
  | (with_reducible refine g_lst ?_)
  | (with_reducible refine g_bm ?_)
  | (with_reducible refine g_bm0 ?_)
  | ((with_reducible refine' g_kbm ?gh ?_); (case gh => walk_at "h"))
  | (with_reducible refine g_drop ?_)
  | (with_reducible refine g_ret ?_)
  | (with_reducible refine g_retN ?_)
  | (with_reducible refine g_next ?_)
  | (with_reducible refine g_brk ?_)
  | (with_reducible refine g_cont ?_)
  | (with_reducible refine g_if ?_)
  | ((with_reducible refine' g_aug ?gv ?_); (case gv => exact rfl))
  | (with_reducible refine g_ipI ?_)
  | (with_reducible refine g_test ?_)
  | (with_reducible refine g_tB ?_)
  | (with_reducible refine g_kB ?_)
  | (with_reducible refine g_not ?_)
  | (with_reducible refine g_and ?_)
  | (with_reducible refine g_or ?_)
  | (with_reducible refine g_andV ?_)
  | (with_reducible refine g_orV ?_)
  | (with_reducible refine g_notV ?_)
  | (with_reducible refine g_ifE ?_)
  | (with_reducible refine g_addI ?_)
  | (with_reducible refine g_rI0 ?_)
  | (with_reducible refine g_eqI ?_)
  | (with_reducible refine g_eqS ?_)
  | (with_reducible refine g_neI ?_)
  | (with_reducible refine g_neS ?_)
  | (with_reducible refine g_isN ?_)
  | (with_reducible refine g_notN ?_)
  | (with_reducible refine g_int ?_)
  | (with_reducible refine g_max2 ?_)
  | (with_reducible refine g_min2 ?_)
  | ((with_reducible refine' g_lenL ?gh ?_); (case gh => walk_at "h"))
  | (with_reducible refine g_sub ?_)
  | (with_reducible refine g_gcons ?_)
  | (with_reducible refine g_gnil ?_)
  | (with_reducible refine g_un ?_)
  | (with_reducible refine g_rU ?_)
  | (with_reducible refine g_forL ?_)
  | (with_reducible refine g_forS ?_)
  | (with_reducible refine g_forR1 ?_)
  | (with_reducible refine g_forR2 ?_)
  | (with_reducible refine g_forR3 ?_)
  | (with_reducible refine g_lcL ?_)
  | (with_reducible refine g_lcR1 ?_)
  | (with_reducible refine g_lcR2 ?_)
  | (with_reducible refine g_slice ?_)
  | (with_reducible refine g_part ?_)
  | (with_reducible refine g_kOI ?_)
  | (with_reducible refine g_nopart ?_)
  | (with_reducible refine g_yes ?_)
  | ((with_reducible refine' g_wipe ?gv ?_); (case gv => exact rfl))
  | (with_reducible refine iteT ?_)
  | (with_reducible refine iteF ?_)
  | (with_reducible refine i_nf ?_)
  | (with_reducible refine i_nt ?_)
  | ((with_reducible refine' g_gtup ?gh ?gl ?_); (case gh => walk_at "h"); (case gl => exact rfl))
  | ((with_reducible refine' g_notinI ?gh ?_); (case gh => walk_at "h"))
  | ((with_reducible refine' g_inI ?gh ?_); (case gh => walk_at "h"))
  | ((with_reducible refine' g_kget2 ?gh ?_); (case gh => walk_at "h"))
  | ((with_reducible refine' g_kgotI ?gh ?_); (case gh => walk_at "h"))
  | (with_reducible refine g_tRev ?_)
  | (with_reducible refine g_neB ?_)
  | (with_reducible refine g_eqB ?_)
  | ((with_reducible refine' g_lenT ?gh ?_); (case gh => walk_at "h"))
  | (with_reducible refine g_star ?_)
  | ((with_reducible refine' g_kstarL ?gh ?_); (case gh => walk_at "h"))
  | ((with_reducible refine' g_kstarT ?gh ?_); (case gh => walk_at "h"))
  | (with_reducible refine g_tru ?_)
  | ((with_reducible refine' g_truL ?gh ?_); (case gh => walk_at "h"))
  | (with_reducible refine g_get2 ?_)
  | (with_reducible refine g_try ?_)
  | (with_reducible refine g_fld ?_)
  | (with_reducible refine g_sfld ?_)
  | (with_reducible refine g_meth ?_)
  | (with_reducible refine g_make ?_)
  | (with_reducible refine g_del ?_)
  | (with_reducible refine g_callS ?_)
  | (with_reducible refine g_raise ?_)
  | (with_reducible refine g_xf ?_)
  | (with_reducible refine g_m0 ?_)
  | (with_reducible refine g_km0 ?_)
  | walk_at "is")
local macro_rules | `(tactic| walk_at "gg") => `(tactic| repeat walk_at "g")
local macro_rules | `(tactic| walk_at "sz") => `(tactic| (refine sz ?_; simp only [List.length_cons, List.length_nil, List.length_map, List.length_append, List.length_replicate]; omega))
local macro_rules | `(tactic| walk_at "sub") => `(tactic| ((repeat (first | exact List.Sublist.slnil | with_reducible apply List.Sublist.cons_cons | with_reducible apply List.Sublist.cons)); done))

local macro_rules | `(tactic| walk_at "g") => `(tactic| first
  | (with_reducible refine g_dcL ?_)
  | (with_reducible refine g_dcT ?_)
  | (with_reducible refine g_m1s ?_)
  | (with_reducible refine g_km1s ?_)
  | (with_reducible refine g_starts ?_)
  | (with_reducible refine g_tryX ?_)
  | (with_reducible refine g_lcS ?_))

local macro_rules | `(tactic| walk_at "g") => `(tactic| first
  | (with_reducible refine g_forEA ?_)
  | (with_reducible refine g_forSA ?_)
  | (with_reducible refine g_sadd ?_))

/-! ### put_tree -/
def runP (f : Str → Option Tx) (ps : List Pt) : Str → Option Tx := ps.foldl (fun f p => upF f p.1 p.2) f
theorem runP_snoc (f : Str → Option Tx) (ps : List Pt) (p : Pt) : runP f (ps ++ [p]) = upF (runP f ps) p.1 p.2 := by
  unfold runP
  rw [List.foldl_append]
  rfl
/-- a text at v, as a list or as a tuple, or None -/
def VT (F : Hp) (v : V) (o : Option Tx) : Prop := (v = .non ∧ o = none) ∨ ∃ l t, v = .ref l ∧ o = some t ∧ (F l = some (.lst (t.map V.str)) ∨ F l = some (.tup (t.map V.str)))
theorem VT.up {F F' : Hp} {v : V} {o : Option Tx} (h : VT F v o) (s : Same F F') : VT F' v o := by
  rcases h with h | ⟨l, t, e1, e2, h⟩
  · exact .inl h
  · exact .inr ⟨l, t, e1, e2, h.imp (s _ _) (s _ _)⟩
theorem VT.of {F : Hp} {v : V} {o : Option Tx} (h : Dq F v (otD o)) : VT F v o := by
  cases o with
  | none => exact .inl ⟨h.non_inv, rfl⟩
  | some t =>
    obtain ⟨l, e, hl⟩ := ot_some h
    exact .inr ⟨l, t, e, rfl, .inr hl⟩
structure EvAt (F : Hp) (kvs : List (Key × V)) (es : Es) : Prop where
  keys : kvs.map (·.1) = es.map fun p => kS p.1
  nd : (es.map (·.1)).Nodup
  at_ : ∀ z o, getE es z = some o → ∃ v, valV kvs (.inr z) = some v ∧ VT F v o
theorem EvAt.up {F F' : Hp} {kvs : List (Key × V)} {es : Es} (h : EvAt F kvs es) (s : Same F F') : EvAt F' kvs es := ⟨h.keys, h.nd, fun z o e => by
  obtain ⟨v, e1, e2⟩ := h.at_ z o e
  exact ⟨v, e1, e2.up s⟩⟩
theorem EvAt.len {F : Hp} {kvs : List (Key × V)} {es : Es} (h : EvAt F kvs es) : kvs.length = es.length := by
  have := congrArg List.length h.keys
  rw [List.length_map, List.length_map] at this
  exact this
theorem EvAt.put {F : Hp} {kvs : List (Key × V)} {es : Es} {z : Str} {o : Option Tx} {u : V} (h : EvAt F kvs es) (du : VT F u o) : EvAt F (putK kvs (.inr z) u) (putE es z o) :=
  ⟨keys_put h.keys h.nd, putE_nd h.nd, fun y o' e => by
    rw [getE_put] at e
    rw [L2.valV_put]
    by_cases c : y = z
    · rw [if_pos c] at e
      injection e with e
      subst e
      exact ⟨u, if_pos (by rw [c]), du⟩
    · rw [if_neg c] at e
      rw [if_neg (fun e => c (Sum.inr.inj e))]
      exact h.at_ y o' e⟩
section
variable {P : Program} {w : World} {K : PySem.W.Frag} {mg : Str → Option Value} {base : Heap}
def sp_put_tree (T : Txt K mg) : Sp := fun vs H Q E => ∃ (a l : Addr) (A : Tr) (o : HO) (ws : List V) (ps : List Pt), vs = [.ref a, .ref l] ∧ TrAt H a A ∧ H l = some o ∧ SeqO o ws ∧ DqAll H ws (ps.map pD) ∧ A.length ≤ 20 ∧ ps.length ≤ 20 ∧ PtB ps ∧
  (badPs 0 [] ps = none → ∀ d (B : Bt) H', Has H ((d, .dK (bK B)) :: bO B) H' → AscT (bA B) → (∀ z t, (z, t) ∈ bA B ↔ runP (getT A) ps z = some t) → Q (.ref d) H') ∧ (∀ k, badPs 0 [] ps = some k → lost_pl T.C_BadPut H E (k : Nat))
theorem sp_put_tree_len {T : Txt K mg} {vs H Q E} (h : sp_put_tree T vs H Q E) : vs.length = 2 := by
  obtain ⟨_, _, _, _, _, _, rfl, _⟩ := h
  rfl
set_option maxHeartbeats 1000000 in
theorem ok_put_tree (T : Txt K mg) : FnOk P w K mg base (L2.CX P w) 5 T.f_put_tree T.fd_put_tree ["tree", "puts"] (sp_put_tree T) := by
  refine Fun.okC T.F_put_tree sc_put_tree (fun vs H Q E h => sp_put_tree_len h) (fun cdv A outer s H vs Q E hr h => ?_)
  refine ⟨_, (pss_cons (ps_expr (pe_callS (ok_check_puts T) (hr.mono (by decide)) (by rfl) T.g_check_puts T.F_check_puts.kp T.b_check_puts (fun σ => L2.passAt (L2.takes_of rfl rfl rfl rfl) σ) (pa_cons (pv 1) pa_nil)))
      (pss_cons (ps_set (i := 2) sc_put_tree.nd rfl (.inr rfl) (pe_lock (pe_dc (own := [("path", 3)]) (g := gName 3) (tt := tYes) rfl sc_put_tree.nd (pi_keys (pv 0)) (blkOk_by (N := n_put_tree) (sc := defScope s_put_tree) (by decide +kernel)) (fun _ _ _ _ _ => (pg_name (i := 3) sc_put_tree.nd rfl (.inl rfl))) (fun _ _ _ _ _ => pts_nil) (fun _ _ _ _ _ => (pv 3)) (fun _ _ _ _ _ => (pe_ix (ix_K K (hu_of hr)) (pv 0) (pv 3) (fun _ _ => rfl))))))
      (pss_cons (ps_for (L2.passes_of rfl) rfl (k_sa K (pi_seqA (pv 1))) (k_gt K (pg_tup (by rfl) (pgs_cons (pg_name (i := 3) sc_put_tree.nd rfl (.inl rfl)) (pgs_cons (pg_name (i := 4) sc_put_tree.nd rfl (.inl rfl)) pgs_nil)))) (pss_one (ps_asg (pv 4) (pg_sub (pv 2) (pv 3) (set_any (hu_of hr))))))
      (pss_one (ps_ret (pe_dc (own := [("path", 3)]) (g := gName 3) rfl sc_put_tree.nd (k_il K (pi_list (pe_callB (cr_sortN K P w rfl (cr_sortA K rfl)) (by rfl) T.m_sorted (by decide +kernel) (pa_cons (pv 2) pa_nil)))) (blkOk_by (N := n_put_tree) (sc := defScope s_put_tree) (by decide +kernel)) (fun _ _ _ _ _ => (pg_name (i := 3) sc_put_tree.nd rfl (.inl rfl))) (fun _ _ _ _ _ => (pts_one (pt_cmpR op_notNA (pe_ix (ix_K K (hu_of hr)) (pv 2) (pv 3) (fun _ _ => rfl)) pe_non (nomark _)))) (fun _ _ _ _ _ => (pv 3)) (fun _ _ _ _ _ => (pe_callTy (cr_listK K) (by rfl) T.m_list (by decide +kernel) (pa_cons (pe_ix (ix_K K (hu_of hr)) (pv 2) (pv 3) (fun _ _ => rfl)) pa_nil))))))))), ?_⟩
  obtain ⟨a, l, A, o, ws, ps, rfl, ta, hl, so, dw, lA, lp, pb, q, qe⟩ := h
  obtain ⟨ka, ha, eka, nda, dqa⟩ := id ta
  have lka := tr_len eka
  have lw := dw.len
  rw [List.length_map] at lw
  refine g_start (σ' := [some (.ref a), some (.ref l), none, none, none]) rfl ?_
  walk_at "gg"
  refine ⟨l, o, ws, ps, rfl, hl, so, dw, by omega, pb, fun ebad H1 s1 => ?_, fun k e => qe k e⟩
  have q := q ebad
  have h1 := (Has.start H).on s1
  walk_at "gg"
  refine k_dcDK rfl ha h1 (fun t acc F' O' => ∃ es : Es, EvAt F' acc es ∧ fE es = getT (A.take t) ∧ es.length ≤ t ∧ H = F' ∧ O' = []) ⟨[], ⟨rfl, List.nodup_nil, fun z o e => by cases e⟩, rfl, Nat.le_refl _, rfl, rfl⟩ ?_ ?_
  · rintro t k v acc F' O' D H2 od ekv ⟨es, he, ef, le, rfl, rfl⟩ fd hh
    obtain ⟨p, ep, rfl⟩ := tr_key eka ekv
    obtain ⟨x, vx, hx⟩ := tr_at eka dqa (getT_of nda (List.mem_of_getElem? ep))
    have rd : Rd H2 a (.dK ka) := .inr ⟨od, hh.same _ _ upd_same⟩
    have lt : t < A.length := (List.getElem?_eq_some_iff.mp ep).1
    have eU : upd (upd H a (.frz od (.dK ka))) a (.dK ka) = H := by rw [L2.upd_upd, upd_eta fd]
    walk_at "gg"
    refine g_ixDR rd vx ?_
    refine kd_turn (k := .inr p.1) rfl hh (by rw [he.len]; omega) (lk_turn upd_same ⟨putE es p.1 (some p.2), ?_, ?_, by have := putE_len p.1 (some p.2) es; omega, eU.symm, rfl⟩)
    · rw [eU]
      exact he.put (.inr ⟨x, p.2, rfl, rfl, .inl hx⟩)
    · rw [fE_put, ef]
      funext y
      rw [List.take_add_one, ep]
      exact (getT_snoc (take_new' nda ep) y).symm
  rintro acc F1 O1 D H2 ⟨es, he, ef, le, rfl, rfl⟩ h2
  rw [lka, List.take_length] at ef
  rw [lka] at le
  rw [← ef] at q
  walk_at "gg"
  refine k_forSA so (fun t σ H' => ∃ (y3 y4 : Option V) (kvs : List (Key × V)) (es' : Es), σ = [some (.ref a), some (.ref l), some (.ref D), y3, y4] ∧ Has H [(D, .dK kvs)] H' ∧ EvAt H kvs es' ∧ es'.length ≤ A.length + t ∧ fE es' = runP (fE es) (ps.take t)) ⟨_, _, acc, es, rfl, h2, he, by omega, rfl⟩ ?_ ?_ ?_
  · rintro t σ H' ⟨_, _, _, _, rfl, h, _⟩
    exact h.same _ _ hl
  · rintro t x σ H3 hx ⟨y3, y4, kvs, es', rfl, h3, he', le', er⟩
    obtain ⟨d, ed, dx⟩ := dw.get hx
    rw [List.getElem?_map] at ed
    obtain ⟨p, ep, rfl⟩ := Option.map_eq_some_iff.mp ed
    obtain ⟨Tp, u, rfl, hT, du⟩ := pD_inv dx
    have tl := (List.getElem?_eq_some_iff.mp ep).1
    refine g_gtup (h3.same _ _ hT) rfl ?_
    walk_at "gg"
    refine g_stD (k := .inr p.1) rfl h3 .hd (szl (by rw [he'.len]; omega)) (fun H4 h4 => ?_)
    walk_at "gg"
    refine ⟨_, _, _, _, rfl, h4, he'.put (VT.of du), by have := putE_len p.1 p.2 es'; omega, ?_⟩
    rw [fE_put, er, List.take_add_one, ep]
    exact (runP_snoc _ _ _).symm
  · rintro σ H3 ⟨y3, y4, kvs, es', rfl, h3, he', le', er⟩
    rw [lw, List.take_length] at er
    rw [← er] at q
    walk_at "gg"
    refine g_sortNA (g_sortDS (h3.get (List.Mem.head _)) (by rw [he'.keys, List.map_map]; rfl) (ks := es'.map (·.1)) (by rw [List.length_map]; omega) h3 (fun us p2 H4 pm srt n4 h4 => ?_))
    have asc := asc_of srt (pm.nodup_iff.mpr he'.nd)
    have lu := pm.length_eq
    rw [List.length_map] at lu
    refine k_dcL (h4.get (List.Mem.head _)) h4 (fun t acc F' O' => ∃ B : Bt, acc = bK B ∧ bA B = outT (fE es') (us.take t) ∧ H = F' ∧ O' = bO B ++ [(p2, .lst (us.map V.str)), (D, .dK kvs)]) ⟨[], rfl, rfl, rfl, rfl⟩ ?_ ?_ ?_
    · rintro t acc F' O' H5 ⟨B, rfl, _, rfl, rfl⟩ hh
      exact hh.get (List.mem_append_right _ (List.Mem.head _))
    · rintro t xx acc F' O' E' H5 hx ⟨B, rfl, eB, rfl, rfl⟩ hh
      obtain ⟨z, hz, rfl⟩ := str_at hx
      have zm : z ∈ es'.map (·.1) := pm.mem_iff.mp (List.mem_of_getElem? hz)
      obtain ⟨oo, eo⟩ := getE_of zm
      obtain ⟨v, ev, dv⟩ := he'.at_ z oo eo
      have ez : fE es' z = oo := by
        unfold fE
        rw [eo]
        rfl
      have hD := hh.get (List.mem_cons_of_mem _ (List.mem_append_right _ (List.Mem.tail _ (List.Mem.head _))))
      have tk : us.take (t + 1) = us.take t ++ [z] := by rw [List.take_add_one, hz]; rfl
      have lB : B.length ≤ t := by
        have h1 := congrArg List.length eB
        have h2 := (outT_keys (fE es') (us.take t)).length_le
        unfold bA at h1
        rw [List.length_map] at h1 h2
        rw [List.length_take] at h2
        omega
      have lt := (List.getElem?_eq_some_iff.mp hz).1
      walk_at "gg"
      refine g_ixDS hD ev ?_
      walk_at "gg"
      rcases dv with ⟨rfl, rfl⟩ | ⟨lx, x, rfl, rfl, hx⟩
      · refine i_n (fun c => (c rfl).elim) (fun _ => ?_)
        refine kd_skip hh ⟨B, rfl, ?_, rfl, rfl⟩
        rw [tk, outT_snoc, ez, eB]
        exact (List.append_nil _).symm
      · refine i_n (fun _ => ?_) (fun c => by cases c)
        have nz : z ∉ B.map (·.1) := by
          rw [← bA_keys, eB]
          intro m
          exact nd_new asc.nodup hz ((outT_keys _ _).subset m)
        have fin : ∀ p5 H6, Has H ((p5, .lst (x.map V.str)) :: (E', .dK (bK B)) :: (bO B ++ [(p2, .lst (us.map V.str)), (D, .dK kvs)])) H6 → kDTurn E' (kDNx (fun t acc F' O' => ∃ B : Bt, acc = bK B ∧ bA B = outT (fE es') (us.take t) ∧ H = F' ∧ O' = bO B ++ [(p2, .lst (us.map V.str)), (D, .dK kvs)]) t E') (.str z) (.ref p5) H6 := fun p5 H6 h5 => by
          have h6 : Has H ((E', .dK (bK B)) :: (bO (B ++ [(z, p5, x)]) ++ [(p2, .lst (us.map V.str)), (D, .dK kvs)])) H6 := by
            rw [bO_snoc]
            refine h5.perm ?_
            rw [List.append_assoc]
            exact (List.perm_middle (a := (p5, HO.lst (x.map V.str))) (l₁ := (E', HO.dK (bK B)) :: bO B) (l₂ := [(p2, HO.lst (us.map V.str)), (D, HO.dK kvs)]))
          refine kd_turn (k := .inr z) rfl h6 (by unfold bK; rw [List.length_map]; omega) ⟨B ++ [(z, p5, x)], ?_, ?_, rfl, rfl⟩
          · rw [putK_new _ (bK_none nz), bK_snoc]
            rfl
          · rw [bA_snoc, tk, outT_snoc, ez, eB]
        walk_at "gg"
        refine g_ixDS hD ev ?_
        walk_at "gg"
        rcases hx with hx | hx
        · exact g_listL (hh.same _ _ hx) hh (fun p5 H6 n6 h6 => fin p5 H6 h6)
        · exact g_listT (hh.same _ _ hx) hh (fun p5 H6 n6 h6 => fin p5 H6 h6)
    rintro acc F' O' E' H5 ⟨B, rfl, eB, rfl, rfl⟩ hh
    rw [List.length_map, List.take_length] at eB
    refine q E' B H5 (hh.sub (O' := (E', .dK (bK B)) :: bO B) (List.Sublist.cons_cons _ (List.sublist_append_left _ _))) ?_ fun z t => ?_
    · unfold AscT
      rw [eB]
      exact List.Pairwise.sublist (outT_keys _ _) asc
    · rw [eB, outT_mem]
      exact ⟨fun h => h.2, fun h => ⟨pm.mem_iff.mpr (fE_mem h), h⟩⟩
end

end K07

namespace K07
open PySem PySem.Spec PyProof.Rows L2 Qk
local macro_rules | `(tactic| walk_at "m") => `(tactic| ((repeat (first | exact List.Mem.head _ | apply List.Mem.tail)); done))
local macro_rules | `(tactic| walk_at "h") => `(tactic| first | assumption | exact Has.gF (by assumption) (by assumption) | exact Has.get (by assumption) (by walk_at "m"))
local macro_rules | `(tactic| walk_at "c") => `(tactic| ((repeat (first | exact Chg.hd | apply Chg.tl)); done))
local macro_rules | `(tactic| walk_at "is") => `(tactic| first
  | ((with_reducible refine' is2_non ?gh ?_); (case gh => walk_at "h"))
  | (with_reducible refine is_int_list ?_)
  | (with_reducible refine is_int_tuple ?_)
  | (with_reducible refine is_int_dict ?_)
  | (with_reducible refine is_int_int ?_)
  | (with_reducible refine is_int_bool ?_)
  | (with_reducible refine is_int_str ?_)
  | ((with_reducible refine' is2_int ?gh ?_); (case gh => walk_at "h"))
  | (with_reducible refine is_str_list ?_)
  | (with_reducible refine is_str_tuple ?_)
  | (with_reducible refine is_str_dict ?_)
  | (with_reducible refine is_str_int ?_)
  | (with_reducible refine is_str_bool ?_)
  | (with_reducible refine is_str_str ?_)
  | ((with_reducible refine' is2_str ?gh ?_); (case gh => walk_at "h"))
  | (with_reducible refine is_bool_list ?_)
  | (with_reducible refine is_bool_tuple ?_)
  | (with_reducible refine is_bool_dict ?_)
  | (with_reducible refine is_bool_int ?_)
  | (with_reducible refine is_bool_bool ?_)
  | (with_reducible refine is_bool_str ?_)
  | ((with_reducible refine' is2_bool ?gh ?_); (case gh => walk_at "h"))
  | ((with_reducible refine' is_list_list ?gh ?_); (case gh => walk_at "h"))
  | ((with_reducible refine' is_list_tuple ?gh ?_); (case gh => walk_at "h"))
  | ((with_reducible refine' is_list_dict ?gh ?_); (case gh => walk_at "h"))
  | ((with_reducible refine' is_list_int ?gh ?_); (case gh => walk_at "h"))
  | ((with_reducible refine' is_list_bool ?gh ?_); (case gh => walk_at "h"))
  | ((with_reducible refine' is_list_str ?gh ?_); (case gh => walk_at "h"))
  | ((with_reducible refine' is2_list ?ga ?gb ?_); (case ga => walk_at "h"); (case gb => walk_at "h"))
  | ((with_reducible refine' is_tuple_list ?gh ?_); (case gh => walk_at "h"))
  | ((with_reducible refine' is_tuple_tuple ?gh ?_); (case gh => walk_at "h"))
  | ((with_reducible refine' is_tuple_dict ?gh ?_); (case gh => walk_at "h"))
  | ((with_reducible refine' is_tuple_int ?gh ?_); (case gh => walk_at "h"))
  | ((with_reducible refine' is_tuple_bool ?gh ?_); (case gh => walk_at "h"))
  | ((with_reducible refine' is_tuple_str ?gh ?_); (case gh => walk_at "h"))
  | ((with_reducible refine' is2_tuple ?ga ?gb ?_); (case ga => walk_at "h"); (case gb => walk_at "h"))
  | ((with_reducible refine' is_dict_list ?gh ?_); (case gh => walk_at "h"))
  | ((with_reducible refine' is_dict_tuple ?gh ?_); (case gh => walk_at "h"))
  | ((with_reducible refine' is_dict_dict ?gh ?_); (case gh => walk_at "h"))
  | ((with_reducible refine' is_dict_int ?gh ?_); (case gh => walk_at "h"))
  | ((with_reducible refine' is_dict_bool ?gh ?_); (case gh => walk_at "h"))
  | ((with_reducible refine' is_dict_str ?gh ?_); (case gh => walk_at "h"))
  | ((with_reducible refine' is2_dict ?ga ?gb ?_); (case ga => walk_at "h"); (case gb => walk_at "h")))
local macro_rules | `(tactic| walk_at "g") => `(tactic| first
  | (with_reducible refine g_seq ?_)
  | (with_reducible refine g_asg ?_)
  | ((with_reducible refine g_name ?_); dsimp only [List.set, wipe, List.map])
  | ((with_reducible refine' g_var ?gv ?_); (case gv => exact rfl))
  | (with_reducible refine g_c ?_)
  | (with_reducible refine g_op ?_)
  | (with_reducible refine g_cons ?_)
  | (with_reducible refine g_nil ?_)
  | (with_reducible refine g_cb ?_)
  | (with_reducible refine g_call ?_)
  | (with_reducible refine g_tup ?_)
  | (with_reducible refine g_lst ?_)
  | (with_reducible refine g_bm ?_)
  | (with_reducible refine g_bm0 ?_)
  | ((with_reducible refine' g_kbm ?gh ?_); (case gh => walk_at "h"))
  | (with_reducible refine g_drop ?_)
  | (with_reducible refine g_ret ?_)
  | (with_reducible refine g_retN ?_)
  | (with_reducible refine g_next ?_)
  | (with_reducible refine g_brk ?_)
  | (with_reducible refine g_cont ?_)
  | (with_reducible refine g_if ?_)
  | ((with_reducible refine' g_aug ?gv ?_); (case gv => exact rfl))
  | (with_reducible refine g_ipI ?_)
  | (with_reducible refine g_test ?_)
  | (with_reducible refine g_tB ?_)
  | (with_reducible refine g_kB ?_)
  | (with_reducible refine g_not ?_)
  | (with_reducible refine g_and ?_)
  | (with_reducible refine g_or ?_)
  | (with_reducible refine g_andV ?_)
  | (with_reducible refine g_orV ?_)
  | (with_reducible refine g_notV ?_)
  | (with_reducible refine g_ifE ?_)
  | (with_reducible refine g_addI ?_)
  | (with_reducible refine g_rI0 ?_)
  | (with_reducible refine g_eqI ?_)
  | (with_reducible refine g_eqS ?_)
  | (with_reducible refine g_neI ?_)
  | (with_reducible refine g_neS ?_)
  | (with_reducible refine g_isN ?_)
  | (with_reducible refine g_notN ?_)
  | (with_reducible refine g_int ?_)
  | (with_reducible refine g_max2 ?_)
  | (with_reducible refine g_min2 ?_)
  | ((with_reducible refine' g_lenL ?gh ?_); (case gh => walk_at "h"))
  | (with_reducible refine g_sub ?_)
  | (with_reducible refine g_gcons ?_)
  | (with_reducible refine g_gnil ?_)
  | (with_reducible refine g_un ?_)
  | (with_reducible refine g_rU ?_)
  | (with_reducible refine g_forL ?_)
  | (with_reducible refine g_forS ?_)
  | (with_reducible refine g_forR1 ?_)
  | (with_reducible refine g_forR2 ?_)
  | (with_reducible refine g_forR3 ?_)
  | (with_reducible refine g_lcL ?_)
  | (with_reducible refine g_lcR1 ?_)
  | (with_reducible refine g_lcR2 ?_)
  | (with_reducible refine g_slice ?_)
  | (with_reducible refine g_part ?_)
  | (with_reducible refine g_kOI ?_)
  | (with_reducible refine g_nopart ?_)
  | (with_reducible refine g_yes ?_)
  | ((with_reducible refine' g_wipe ?gv ?_); (case gv => exact rfl))
  | (with_reducible refine iteT ?_)
  | (with_reducible refine iteF ?_)
  | (with_reducible refine i_nf ?_)
  | (with_reducible refine i_nt ?_)
  | ((with_reducible refine' g_gtup ?gh ?gl ?_); (case gh => walk_at "h"); (case gl => exact rfl))
  | ((with_reducible refine' g_notinI ?gh ?_); (case gh => walk_at "h"))
  | ((with_reducible refine' g_inI ?gh ?_); (case gh => walk_at "h"))
  | ((with_reducible refine' g_kget2 ?gh ?_); (case gh => walk_at "h"))
  | ((with_reducible refine' g_kgotI ?gh ?_); (case gh => walk_at "h"))
  | (with_reducible refine g_tRev ?_)
  | (with_reducible refine g_neB ?_)
  | (with_reducible refine g_eqB ?_)
  | ((with_reducible refine' g_lenT ?gh ?_); (case gh => walk_at "h"))
  | (with_reducible refine g_star ?_)
  | ((with_reducible refine' g_kstarL ?gh ?_); (case gh => walk_at "h"))
  | ((with_reducible refine' g_kstarT ?gh ?_); (case gh => walk_at "h"))
  | (with_reducible refine g_tru ?_)
  | ((with_reducible refine' g_truL ?gh ?_); (case gh => walk_at "h"))
  | (with_reducible refine g_get2 ?_)
  | (with_reducible refine g_try ?_)
  | (with_reducible refine g_fld ?_)
  | (with_reducible refine g_sfld ?_)
  | (with_reducible refine g_meth ?_)
  | (with_reducible refine g_make ?_)
  | (with_reducible refine g_del ?_)
  | (with_reducible refine g_callS ?_)
  | (with_reducible refine g_raise ?_)
  | (with_reducible refine g_xf ?_)
  | (with_reducible refine g_m0 ?_)
  | (with_reducible refine g_km0 ?_)
  | walk_at "is")
local macro_rules | `(tactic| walk_at "gg") => `(tactic| repeat walk_at "g")
local macro_rules | `(tactic| walk_at "sz") => `(tactic| (refine sz ?_; simp only [List.length_cons, List.length_nil, List.length_map, List.length_append, List.length_replicate]; omega))
local macro_rules | `(tactic| walk_at "sub") => `(tactic| ((repeat (first | exact List.Sublist.slnil | with_reducible apply List.Sublist.cons_cons | with_reducible apply List.Sublist.cons)); done))

local macro_rules | `(tactic| walk_at "g") => `(tactic| first
  | (with_reducible refine g_dcL ?_)
  | (with_reducible refine g_dcT ?_)
  | (with_reducible refine g_m1s ?_)
  | (with_reducible refine g_km1s ?_)
  | (with_reducible refine g_starts ?_)
  | (with_reducible refine g_tryX ?_)
  | (with_reducible refine g_lcS ?_))

/-! ### the law's own looks -/
theorem strOk_at {z : Str} (h : PyData.strOk z = true) {i c : Nat} (e : z.cps[i]? = some c) : PyData.strOk ⟨#[c]⟩ = true := by
  unfold PyData.strOk at h ⊢
  rw [Array.all_eq_true] at h
  obtain ⟨lt, e⟩ := Array.getElem?_eq_some_iff.mp e
  have := h i lt
  rw [e] at this
  simpa using this
section
variable {P : Program} {w : World} {K : PySem.W.Frag} {mg : Str → Option Value} {base : Heap}
def sp_l_signs (K : PySem.W.Frag) : Sp := fun vs H Q _ => ∃ z s : Str, vs = [.str z, .str s] ∧ z.length ≤ 10000 ∧ PyData.strOk z = true ∧ ∀ H', Same H H' → Q (.bl (allIn s.cps.toList z)) H'
theorem sp_l_signs_len {vs H Q E} (h : sp_l_signs K vs H Q E) : vs.length = 2 := by
  obtain ⟨_, _, rfl, _⟩ := h
  rfl
theorem ok_l_signs (T : Txt K mg) : FnOk P w K mg base CX0 1 T.f_l_signs T.fd_l_signs ["word", "signs"] (sp_l_signs K) := by
  refine T.F_l_signs.ok sc_l_signs (fun vs H Q E h => sp_l_signs_len h) (fun cdv A outer s H vs Q E hr h => ?_)
  refine ⟨_, (pss_one (ps_ret (pe_cmpR (op_eqK K hr.units) (pe_lc (own := [("sign", 2)]) (g := gName 2) rfl sc_l_signs.nd (pi_str (pv 0)) (blkOk_by (N := n_l_signs) (sc := defScope s_l_signs) (by decide +kernel)) (fun _ _ _ _ _ => (pg_name (i := 2) sc_l_signs.nd rfl (.inl rfl))) (fun _ _ _ _ _ => (pts_one (pt_cmpR (op_notinK K hr.units (u65 hr)) (pv 2) (pv 1) (by rfl)))) (fun _ _ _ _ _ => (pv 2))) (pe_lst pa_nil) (nomark _)))), ?_⟩
  obtain ⟨z, s, rfl, lz, okz, q⟩ := h
  have hH := Has.start H
  refine g_start (σ' := [some (.str z), some (.str s), none]) rfl ?_
  walk_at "gg"
  refine k_lcS hH (fun i acc F' O' => (∃ xs : List Str, acc = xs.map V.str ∧ (∀ x ∈ xs, PyData.strOk x = true) ∧ xs.length ≤ i ∧ (xs = [] ↔ ∀ (j c : Nat), j < i → z.cps[j]? = some c → c ∈ s.cps.toList)) ∧ H = F' ∧ O' = []) ⟨⟨[], rfl, (fun x h => by cases h), Nat.le_refl _, by simp⟩, rfl, rfl⟩ ?_ ?_
  · rintro i c acc F' O' D H1 hc ⟨⟨xs, rfl, okx, lx, ex⟩, rfl, rfl⟩ hh
    have li : i < z.length := (Array.getElem?_eq_some_iff.mp hc).1
    walk_at "gg"
    refine g_notinC ?_
    walk_at "gg"
    refine i_n (fun no => ?_) (fun yes => ?_)
    · walk_at "gg"
      refine k_turn hh (by rw [List.length_map]; omega) ⟨⟨xs ++ [⟨#[c]⟩], by rw [List.map_append]; rfl, ?_, by rw [List.length_append]; show _ + 1 ≤ _; omega, ?_⟩, rfl, rfl⟩
      · intro x hx
        rcases List.mem_append.mp hx with h | h
        · exact okx x h
        · rw [List.mem_singleton.mp h]
          exact strOk_at okz hc
      · constructor
        · intro e
          cases xs <;> cases e
        · intro h
          exact (no (h i c (Nat.lt_succ_self _) hc)).elim
    · refine k_skip hh ⟨⟨xs, rfl, okx, by omega, ex.trans ⟨fun h j d lt hd => ?_, fun h j d lt hd => h j d (by omega) hd⟩⟩, rfl, rfl⟩
      by_cases e : j = i
      · subst e
        rw [hc] at hd
        injection hd with hd
        rw [← hd]
        exact yes
      · exact h j d (by omega) hd
  rintro acc F' O' p1 H1 ⟨⟨xs, rfl, okx, lx, ex⟩, rfl, rfl⟩ h1
  walk_at "gg"
  refine g_klst (by walk_at "sz") h1 (fun p2 H2 n2 h2 => ?_)
  refine g_eqD (Dq.strs (xs := xs) (h2.get (by walk_at "m"))) (Dq.strs (xs := []) (h2.get (List.Mem.head _))) ((Sh.strs (n := 0) okx).ok (by decide)) rfl ?_
  rw [eqv_strs]
  have e : decide (xs = []) = allIn s.cps.toList z := by
    rw [Bool.eq_iff_iff, decide_eq_true_eq, ex, allIn_at]
    exact ⟨fun h i c e => h i c (Array.getElem?_eq_some_iff.mp e).1 e, fun h j c _ e => h j c e⟩
  rw [e]
  exact q H2 h2.same
end

end K07

namespace K07
open PySem PySem.Spec PyProof.Rows L2 Qk
local macro_rules | `(tactic| walk_at "m") => `(tactic| ((repeat (first | exact List.Mem.head _ | apply List.Mem.tail)); done))
local macro_rules | `(tactic| walk_at "h") => `(tactic| first | assumption | exact Has.gF (by assumption) (by assumption) | exact Has.get (by assumption) (by walk_at "m"))
local macro_rules | `(tactic| walk_at "c") => `(tactic| ((repeat (first | exact Chg.hd | apply Chg.tl)); done))
local macro_rules | `(tactic| walk_at "is") => `(tactic| first
  | ((with_reducible refine' is2_non ?gh ?_); (case gh => walk_at "h"))
  | (with_reducible refine is_int_list ?_)
  | (with_reducible refine is_int_tuple ?_)
  | (with_reducible refine is_int_dict ?_)
  | (with_reducible refine is_int_int ?_)
  | (with_reducible refine is_int_bool ?_)
  | (with_reducible refine is_int_str ?_)
  | ((with_reducible refine' is2_int ?gh ?_); (case gh => walk_at "h"))
  | (with_reducible refine is_str_list ?_)
  | (with_reducible refine is_str_tuple ?_)
  | (with_reducible refine is_str_dict ?_)
  | (with_reducible refine is_str_int ?_)
  | (with_reducible refine is_str_bool ?_)
  | (with_reducible refine is_str_str ?_)
  | ((with_reducible refine' is2_str ?gh ?_); (case gh => walk_at "h"))
  | (with_reducible refine is_bool_list ?_)
  | (with_reducible refine is_bool_tuple ?_)
  | (with_reducible refine is_bool_dict ?_)
  | (with_reducible refine is_bool_int ?_)
  | (with_reducible refine is_bool_bool ?_)
  | (with_reducible refine is_bool_str ?_)
  | ((with_reducible refine' is2_bool ?gh ?_); (case gh => walk_at "h"))
  | ((with_reducible refine' is_list_list ?gh ?_); (case gh => walk_at "h"))
  | ((with_reducible refine' is_list_tuple ?gh ?_); (case gh => walk_at "h"))
  | ((with_reducible refine' is_list_dict ?gh ?_); (case gh => walk_at "h"))
  | ((with_reducible refine' is_list_int ?gh ?_); (case gh => walk_at "h"))
  | ((with_reducible refine' is_list_bool ?gh ?_); (case gh => walk_at "h"))
  | ((with_reducible refine' is_list_str ?gh ?_); (case gh => walk_at "h"))
  | ((with_reducible refine' is2_list ?ga ?gb ?_); (case ga => walk_at "h"); (case gb => walk_at "h"))
  | ((with_reducible refine' is_tuple_list ?gh ?_); (case gh => walk_at "h"))
  | ((with_reducible refine' is_tuple_tuple ?gh ?_); (case gh => walk_at "h"))
  | ((with_reducible refine' is_tuple_dict ?gh ?_); (case gh => walk_at "h"))
  | ((with_reducible refine' is_tuple_int ?gh ?_); (case gh => walk_at "h"))
  | ((with_reducible refine' is_tuple_bool ?gh ?_); (case gh => walk_at "h"))
  | ((with_reducible refine' is_tuple_str ?gh ?_); (case gh => walk_at "h"))
  | ((with_reducible refine' is2_tuple ?ga ?gb ?_); (case ga => walk_at "h"); (case gb => walk_at "h"))
  | ((with_reducible refine' is_dict_list ?gh ?_); (case gh => walk_at "h"))
  | ((with_reducible refine' is_dict_tuple ?gh ?_); (case gh => walk_at "h"))
  | ((with_reducible refine' is_dict_dict ?gh ?_); (case gh => walk_at "h"))
  | ((with_reducible refine' is_dict_int ?gh ?_); (case gh => walk_at "h"))
  | ((with_reducible refine' is_dict_bool ?gh ?_); (case gh => walk_at "h"))
  | ((with_reducible refine' is_dict_str ?gh ?_); (case gh => walk_at "h"))
  | ((with_reducible refine' is2_dict ?ga ?gb ?_); (case ga => walk_at "h"); (case gb => walk_at "h")))
local macro_rules | `(tactic| walk_at "g") => `(tactic| first
  | (with_reducible refine g_seq ?_)
  | (with_reducible refine g_asg ?_)
  | ((with_reducible refine g_name ?_); dsimp only [List.set, wipe, List.map])
  | ((with_reducible refine' g_var ?gv ?_); (case gv => exact rfl))
  | (with_reducible refine g_c ?_)
  | (with_reducible refine g_op ?_)
  | (with_reducible refine g_cons ?_)
  | (with_reducible refine g_nil ?_)
  | (with_reducible refine g_cb ?_)
  | (with_reducible refine g_call ?_)
  | (with_reducible refine g_tup ?_)
  | (with_reducible refine g_lst ?_)
  | (with_reducible refine g_bm ?_)
  | (with_reducible refine g_bm0 ?_)
  | ((with_reducible refine' g_kbm ?gh ?_); (case gh => walk_at "h"))
  | (with_reducible refine g_drop ?_)
  | (with_reducible refine g_ret ?_)
  | (with_reducible refine g_retN ?_)
  | (with_reducible refine g_next ?_)
  | (with_reducible refine g_brk ?_)
  | (with_reducible refine g_cont ?_)
  | (with_reducible refine g_if ?_)
  | ((with_reducible refine' g_aug ?gv ?_); (case gv => exact rfl))
  | (with_reducible refine g_ipI ?_)
  | (with_reducible refine g_test ?_)
  | (with_reducible refine g_tB ?_)
  | (with_reducible refine g_kB ?_)
  | (with_reducible refine g_not ?_)
  | (with_reducible refine g_and ?_)
  | (with_reducible refine g_or ?_)
  | (with_reducible refine g_andV ?_)
  | (with_reducible refine g_orV ?_)
  | (with_reducible refine g_notV ?_)
  | (with_reducible refine g_ifE ?_)
  | (with_reducible refine g_addI ?_)
  | (with_reducible refine g_rI0 ?_)
  | (with_reducible refine g_eqI ?_)
  | (with_reducible refine g_eqS ?_)
  | (with_reducible refine g_neI ?_)
  | (with_reducible refine g_neS ?_)
  | (with_reducible refine g_isN ?_)
  | (with_reducible refine g_notN ?_)
  | (with_reducible refine g_int ?_)
  | (with_reducible refine g_max2 ?_)
  | (with_reducible refine g_min2 ?_)
  | ((with_reducible refine' g_lenL ?gh ?_); (case gh => walk_at "h"))
  | (with_reducible refine g_sub ?_)
  | (with_reducible refine g_gcons ?_)
  | (with_reducible refine g_gnil ?_)
  | (with_reducible refine g_un ?_)
  | (with_reducible refine g_rU ?_)
  | (with_reducible refine g_forL ?_)
  | (with_reducible refine g_forS ?_)
  | (with_reducible refine g_forR1 ?_)
  | (with_reducible refine g_forR2 ?_)
  | (with_reducible refine g_forR3 ?_)
  | (with_reducible refine g_lcL ?_)
  | (with_reducible refine g_lcR1 ?_)
  | (with_reducible refine g_lcR2 ?_)
  | (with_reducible refine g_slice ?_)
  | (with_reducible refine g_part ?_)
  | (with_reducible refine g_kOI ?_)
  | (with_reducible refine g_nopart ?_)
  | (with_reducible refine g_yes ?_)
  | ((with_reducible refine' g_wipe ?gv ?_); (case gv => exact rfl))
  | (with_reducible refine iteT ?_)
  | (with_reducible refine iteF ?_)
  | (with_reducible refine i_nf ?_)
  | (with_reducible refine i_nt ?_)
  | ((with_reducible refine' g_gtup ?gh ?gl ?_); (case gh => walk_at "h"); (case gl => exact rfl))
  | ((with_reducible refine' g_notinI ?gh ?_); (case gh => walk_at "h"))
  | ((with_reducible refine' g_inI ?gh ?_); (case gh => walk_at "h"))
  | ((with_reducible refine' g_kget2 ?gh ?_); (case gh => walk_at "h"))
  | ((with_reducible refine' g_kgotI ?gh ?_); (case gh => walk_at "h"))
  | (with_reducible refine g_tRev ?_)
  | (with_reducible refine g_neB ?_)
  | (with_reducible refine g_eqB ?_)
  | ((with_reducible refine' g_lenT ?gh ?_); (case gh => walk_at "h"))
  | (with_reducible refine g_star ?_)
  | ((with_reducible refine' g_kstarL ?gh ?_); (case gh => walk_at "h"))
  | ((with_reducible refine' g_kstarT ?gh ?_); (case gh => walk_at "h"))
  | (with_reducible refine g_tru ?_)
  | ((with_reducible refine' g_truL ?gh ?_); (case gh => walk_at "h"))
  | (with_reducible refine g_get2 ?_)
  | (with_reducible refine g_try ?_)
  | (with_reducible refine g_fld ?_)
  | (with_reducible refine g_sfld ?_)
  | (with_reducible refine g_meth ?_)
  | (with_reducible refine g_make ?_)
  | (with_reducible refine g_del ?_)
  | (with_reducible refine g_callS ?_)
  | (with_reducible refine g_raise ?_)
  | (with_reducible refine g_xf ?_)
  | (with_reducible refine g_m0 ?_)
  | (with_reducible refine g_km0 ?_)
  | walk_at "is")
local macro_rules | `(tactic| walk_at "gg") => `(tactic| repeat walk_at "g")
local macro_rules | `(tactic| walk_at "sz") => `(tactic| (refine sz ?_; simp only [List.length_cons, List.length_nil, List.length_map, List.length_append, List.length_replicate]; omega))
local macro_rules | `(tactic| walk_at "sub") => `(tactic| ((repeat (first | exact List.Sublist.slnil | with_reducible apply List.Sublist.cons_cons | with_reducible apply List.Sublist.cons)); done))

local macro_rules | `(tactic| walk_at "g") => `(tactic| first
  | (with_reducible refine g_dcL ?_)
  | (with_reducible refine g_dcT ?_)
  | (with_reducible refine g_m1s ?_)
  | (with_reducible refine g_km1s ?_)
  | (with_reducible refine g_starts ?_)
  | (with_reducible refine g_tryX ?_)
  | (with_reducible refine g_lcS ?_))

/-! ### parts of a text -/
theorem sub_ok {x : Str} (h : PyData.strOk x = true) (i j : Nat) : PyData.strOk (Builtin.Str.strSub x i j) = true := by
  unfold PyData.strOk Builtin.Str.strSub at *
  rw [Array.all_eq_true] at h ⊢
  intro k hk
  rw [Array.getElem_extract]
  exact h _ _
theorem partsFrom_ok {x : Str} (h : PyData.strOk x = true) (n : Nat) : ∀ (cuts : List Nat) (a : Nat), ∀ p ∈ StrLaws.partsFrom x n a cuts, PyData.strOk p = true
  | [], a, p, hp => by rw [List.mem_singleton.mp hp]; exact sub_ok h _ _
  | c :: r, a, p, hp => by
    rcases List.mem_cons.mp hp with rfl | hp'
    · exact sub_ok h _ _
    · exact partsFrom_ok h n r _ p hp'
theorem split_ok {x y : Str} (hx : PyData.strOk x = true) : ∀ a ∈ Txt.split x y, PyData.strOk a = true := by
  intro a h
  unfold Txt.split at h
  split at h
  · rw [List.mem_singleton.mp h]; exact hx
  · split at h
    · rw [List.mem_singleton.mp h]; exact hx
    · rw [StrLaws.partsBetween_eq] at h
      exact partsFrom_ok hx _ _ _ a h
section
variable {P : Program} {w : World} {K : PySem.W.Frag} {mg : Str → Option Value} {base : Heap}
def sp_l_is_way (K : PySem.W.Frag) : Sp := fun vs H Q _ => ∃ z : Str, vs = [.str z] ∧ z.length ≤ 5000 ∧ PyData.strOk z = true ∧ ∀ H', Same H H' → Q (.bl (isPath z)) H'
theorem sp_l_is_way_len {vs H Q E} (h : sp_l_is_way K vs H Q E) : vs.length = 1 := by
  obtain ⟨_, rfl, _⟩ := h
  rfl
theorem ok_l_is_way (T : Txt K mg) : FnOk P w K mg base CX0 2 T.f_l_is_way T.fd_l_is_way ["path"] (sp_l_is_way K) := by
  refine T.F_l_is_way.ok sc_l_is_way (fun vs H Q E h => sp_l_is_way_len h) (fun cdv A outer s H vs Q E hr h => ?_)
  refine ⟨_, (pss_cons (ps_set (i := 1) sc_l_is_way.nd rfl (.inl rfl) (k_split (pv 0) pe_str))
      (pss_cons (ps_for PassesOwn.never rfl (k_il K (pi_list (pv 1))) (pg_name (i := 2) sc_l_is_way.nd rfl (.inl rfl)) (pss_cons (ps_if (pt_not (pt_val (pe_call (ok_l_signs T) (hr.mono (by decide)) (by rfl) T.g_l_signs T.F_l_signs.kp T.b_l_signs .nil pass0 (pa_cons (pv 2) (pa_cons pe_str pa_nil))))) (pss_one (ps_ret pe_bl)) pss_nil)
      (pss_one (ps_if (PW.pt (pw_or (pt_cmpR op_lt (pe_callB (cr_lenK K) (by rfl) T.m_len (by decide +kernel) (pa_cons (pv 2) pa_nil)) pe_int (nomark _)) (pw_or1 (pt_cmpR op_gt (pe_callB (cr_lenK K) (by rfl) T.m_len (by decide +kernel) (pa_cons (pv 2) pa_nil)) pe_int (nomark _))))) (pss_one (ps_ret pe_bl)) pss_nil))))
      (pss_one (ps_ret (pe_cmpR op_le (pe_callB (cr_lenK K) (by rfl) T.m_len (by decide +kernel) (pa_cons (pv 1) pa_nil)) pe_int (nomark _)))))), ?_⟩
  obtain ⟨z, rfl, lz, okz, q⟩ := h
  refine g_start (σ' := [some (.str z), none, none]) rfl ?_
  walk_at "gg"
  refine g_split rfl (by omega) (Has.start H) (fun p H1 n1 h1 => ?_)
  have lsp := PyProof.Rows.split_le z "/"
  have lpa : ∀ a ∈ Txt.split z "/", a.length ≤ z.length := fun a ha => PyProof.Rows.part_short ha
  have okp : ∀ a ∈ Txt.split z "/", PyData.strOk a = true := split_ok okz
  have hp := h1.get (List.Mem.head _)
  unfold isPath at q
  generalize Txt.split z "/" = ws at h1 lsp lpa okp q hp
  walk_at "gg"
  refine k_forL hp (fun i σ H' => (∃ y2, σ = [some (.str z), some (.ref p), y2] ∧ Same H1 H') ∧ ∀ a ∈ ws.take i, isWord a = true) ⟨⟨_, rfl, Same.refl _⟩, fun a h => by cases h⟩ ?_ ?_ ?_
  · rintro i σ H' _ ⟨⟨y2, rfl, s⟩, _⟩
    exact s _ _ hp
  · rintro i v σ H' hv ⟨⟨y2, rfl, s⟩, ok⟩
    obtain ⟨a, ha, rfl⟩ := str_at hv
    have am := List.mem_of_getElem? ha
    have la := lpa a am
    have no : isWord a = false → ws.all isWord = false := fun hb => by
      cases e : ws.all isWord with
      | false => rfl
      | true =>
        have := List.all_eq_true.mp e a am
        rw [hb] at this
        cases this
    walk_at "gg"
    refine ⟨a, _, rfl, by omega, okp a am, fun H2 s2 => ?_⟩
    have sA := h1.same.trans (s.trans s2)
    walk_at "gg"
    cases hb : allIn (("abcdefghijklmnopqrstuvwxyz0123456789" : Str).cps.toList) a with
    | false =>
      walk_at "gg"
      have := no (by unfold isWord wsignsL; rw [hb, Bool.and_false, Bool.and_false])
      rw [this, Bool.and_false] at q
      exact q _ sA
    | true =>
      walk_at "gg"
      refine g_lenS (sz (by omega)) ?_
      walk_at "gg"
      refine i_d (fun e => ?_) (fun e => ?_)
      · walk_at "gg"
        have := no (by unfold isWord; rw [decide_eq_false (by omega), Bool.false_and])
        rw [this, Bool.and_false] at q
        exact q _ sA
      walk_at "gg"
      refine g_lenS (sz (by omega)) ?_
      walk_at "gg"
      refine i_d (fun e2 => ?_) (fun e2 => ?_)
      · walk_at "gg"
        have := no (by unfold isWord; rw [decide_eq_false (p := a.length ≤ 6) (by omega), Bool.false_and, Bool.and_false])
        rw [this, Bool.and_false] at q
        exact q _ sA
      walk_at "gg"
      refine ⟨⟨_, rfl, s.trans s2⟩, fun b hb' => ?_⟩
      rw [List.take_add_one, ha] at hb'
      rcases List.mem_append.mp hb' with h | h
      · exact ok b h
      · have e : b = a := by simpa using h
        rw [e]
        unfold isWord wsignsL
        rw [hb, decide_eq_true (by omega), decide_eq_true (by omega)]
        rfl
  · rintro σ H' ⟨⟨y2, rfl, s⟩, ok⟩
    rw [List.length_map, List.take_length] at ok
    have : ws.all isWord = true := List.all_eq_true.mpr ok
    rw [this, Bool.and_true] at q
    have hp' := s _ _ hp
    walk_at "gg"
    rw [List.length_map]
    have e : decide (((ws.length : Nat) : Int) ≤ 3) = decide (ws.length ≤ 3) := decide_eq_decide.mpr (by omega)
    rw [e]
    exact q _ (h1.same.trans s)
end

end K07

namespace K07
open PySem PySem.Spec PyProof.Rows L2 Qk
local macro_rules | `(tactic| walk_at "m") => `(tactic| ((repeat (first | exact List.Mem.head _ | apply List.Mem.tail)); done))
local macro_rules | `(tactic| walk_at "h") => `(tactic| first | assumption | exact Has.gF (by assumption) (by assumption) | exact Has.get (by assumption) (by walk_at "m"))
local macro_rules | `(tactic| walk_at "c") => `(tactic| ((repeat (first | exact Chg.hd | apply Chg.tl)); done))
local macro_rules | `(tactic| walk_at "is") => `(tactic| first
  | ((with_reducible refine' is2_non ?gh ?_); (case gh => walk_at "h"))
  | (with_reducible refine is_int_list ?_)
  | (with_reducible refine is_int_tuple ?_)
  | (with_reducible refine is_int_dict ?_)
  | (with_reducible refine is_int_int ?_)
  | (with_reducible refine is_int_bool ?_)
  | (with_reducible refine is_int_str ?_)
  | ((with_reducible refine' is2_int ?gh ?_); (case gh => walk_at "h"))
  | (with_reducible refine is_str_list ?_)
  | (with_reducible refine is_str_tuple ?_)
  | (with_reducible refine is_str_dict ?_)
  | (with_reducible refine is_str_int ?_)
  | (with_reducible refine is_str_bool ?_)
  | (with_reducible refine is_str_str ?_)
  | ((with_reducible refine' is2_str ?gh ?_); (case gh => walk_at "h"))
  | (with_reducible refine is_bool_list ?_)
  | (with_reducible refine is_bool_tuple ?_)
  | (with_reducible refine is_bool_dict ?_)
  | (with_reducible refine is_bool_int ?_)
  | (with_reducible refine is_bool_bool ?_)
  | (with_reducible refine is_bool_str ?_)
  | ((with_reducible refine' is2_bool ?gh ?_); (case gh => walk_at "h"))
  | ((with_reducible refine' is_list_list ?gh ?_); (case gh => walk_at "h"))
  | ((with_reducible refine' is_list_tuple ?gh ?_); (case gh => walk_at "h"))
  | ((with_reducible refine' is_list_dict ?gh ?_); (case gh => walk_at "h"))
  | ((with_reducible refine' is_list_int ?gh ?_); (case gh => walk_at "h"))
  | ((with_reducible refine' is_list_bool ?gh ?_); (case gh => walk_at "h"))
  | ((with_reducible refine' is_list_str ?gh ?_); (case gh => walk_at "h"))
  | ((with_reducible refine' is2_list ?ga ?gb ?_); (case ga => walk_at "h"); (case gb => walk_at "h"))
  | ((with_reducible refine' is_tuple_list ?gh ?_); (case gh => walk_at "h"))
  | ((with_reducible refine' is_tuple_tuple ?gh ?_); (case gh => walk_at "h"))
  | ((with_reducible refine' is_tuple_dict ?gh ?_); (case gh => walk_at "h"))
  | ((with_reducible refine' is_tuple_int ?gh ?_); (case gh => walk_at "h"))
  | ((with_reducible refine' is_tuple_bool ?gh ?_); (case gh => walk_at "h"))
  | ((with_reducible refine' is_tuple_str ?gh ?_); (case gh => walk_at "h"))
  | ((with_reducible refine' is2_tuple ?ga ?gb ?_); (case ga => walk_at "h"); (case gb => walk_at "h"))
  | ((with_reducible refine' is_dict_list ?gh ?_); (case gh => walk_at "h"))
  | ((with_reducible refine' is_dict_tuple ?gh ?_); (case gh => walk_at "h"))
  | ((with_reducible refine' is_dict_dict ?gh ?_); (case gh => walk_at "h"))
  | ((with_reducible refine' is_dict_int ?gh ?_); (case gh => walk_at "h"))
  | ((with_reducible refine' is_dict_bool ?gh ?_); (case gh => walk_at "h"))
  | ((with_reducible refine' is_dict_str ?gh ?_); (case gh => walk_at "h"))
  | ((with_reducible refine' is2_dict ?ga ?gb ?_); (case ga => walk_at "h"); (case gb => walk_at "h")))
local macro_rules | `(tactic| walk_at "g") => `(tactic| first
  | (with_reducible refine g_seq ?_)
  | (with_reducible refine g_asg ?_)
  | ((with_reducible refine g_name ?_); dsimp only [List.set, wipe, List.map])
  | ((with_reducible refine' g_var ?gv ?_); (case gv => exact rfl))
  | (with_reducible refine g_c ?_)
  | (with_reducible refine g_op ?_)
  | (with_reducible refine g_cons ?_)
  | (with_reducible refine g_nil ?_)
  | (with_reducible refine g_cb ?_)
  | (with_reducible refine g_call ?_)
  | (with_reducible refine g_tup ?_)
  | (with_reducible refine g_lst ?_)
  | (with_reducible refine g_bm ?_)
  | (with_reducible refine g_bm0 ?_)
  | ((with_reducible refine' g_kbm ?gh ?_); (case gh => walk_at "h"))
  | (with_reducible refine g_drop ?_)
  | (with_reducible refine g_ret ?_)
  | (with_reducible refine g_retN ?_)
  | (with_reducible refine g_next ?_)
  | (with_reducible refine g_brk ?_)
  | (with_reducible refine g_cont ?_)
  | (with_reducible refine g_if ?_)
  | ((with_reducible refine' g_aug ?gv ?_); (case gv => exact rfl))
  | (with_reducible refine g_ipI ?_)
  | (with_reducible refine g_test ?_)
  | (with_reducible refine g_tB ?_)
  | (with_reducible refine g_kB ?_)
  | (with_reducible refine g_not ?_)
  | (with_reducible refine g_and ?_)
  | (with_reducible refine g_or ?_)
  | (with_reducible refine g_andV ?_)
  | (with_reducible refine g_orV ?_)
  | (with_reducible refine g_notV ?_)
  | (with_reducible refine g_ifE ?_)
  | (with_reducible refine g_addI ?_)
  | (with_reducible refine g_rI0 ?_)
  | (with_reducible refine g_eqI ?_)
  | (with_reducible refine g_eqS ?_)
  | (with_reducible refine g_neI ?_)
  | (with_reducible refine g_neS ?_)
  | (with_reducible refine g_isN ?_)
  | (with_reducible refine g_notN ?_)
  | (with_reducible refine g_int ?_)
  | (with_reducible refine g_max2 ?_)
  | (with_reducible refine g_min2 ?_)
  | ((with_reducible refine' g_lenL ?gh ?_); (case gh => walk_at "h"))
  | (with_reducible refine g_sub ?_)
  | (with_reducible refine g_gcons ?_)
  | (with_reducible refine g_gnil ?_)
  | (with_reducible refine g_un ?_)
  | (with_reducible refine g_rU ?_)
  | (with_reducible refine g_forL ?_)
  | (with_reducible refine g_forS ?_)
  | (with_reducible refine g_forR1 ?_)
  | (with_reducible refine g_forR2 ?_)
  | (with_reducible refine g_forR3 ?_)
  | (with_reducible refine g_lcL ?_)
  | (with_reducible refine g_lcR1 ?_)
  | (with_reducible refine g_lcR2 ?_)
  | (with_reducible refine g_slice ?_)
  | (with_reducible refine g_part ?_)
  | (with_reducible refine g_kOI ?_)
  | (with_reducible refine g_nopart ?_)
  | (with_reducible refine g_yes ?_)
  | ((with_reducible refine' g_wipe ?gv ?_); (case gv => exact rfl))
  | (with_reducible refine iteT ?_)
  | (with_reducible refine iteF ?_)
  | (with_reducible refine i_nf ?_)
  | (with_reducible refine i_nt ?_)
  | ((with_reducible refine' g_gtup ?gh ?gl ?_); (case gh => walk_at "h"); (case gl => exact rfl))
  | ((with_reducible refine' g_notinI ?gh ?_); (case gh => walk_at "h"))
  | ((with_reducible refine' g_inI ?gh ?_); (case gh => walk_at "h"))
  | ((with_reducible refine' g_kget2 ?gh ?_); (case gh => walk_at "h"))
  | ((with_reducible refine' g_kgotI ?gh ?_); (case gh => walk_at "h"))
  | (with_reducible refine g_tRev ?_)
  | (with_reducible refine g_neB ?_)
  | (with_reducible refine g_eqB ?_)
  | ((with_reducible refine' g_lenT ?gh ?_); (case gh => walk_at "h"))
  | (with_reducible refine g_star ?_)
  | ((with_reducible refine' g_kstarL ?gh ?_); (case gh => walk_at "h"))
  | ((with_reducible refine' g_kstarT ?gh ?_); (case gh => walk_at "h"))
  | (with_reducible refine g_tru ?_)
  | ((with_reducible refine' g_truL ?gh ?_); (case gh => walk_at "h"))
  | (with_reducible refine g_get2 ?_)
  | (with_reducible refine g_try ?_)
  | (with_reducible refine g_fld ?_)
  | (with_reducible refine g_sfld ?_)
  | (with_reducible refine g_meth ?_)
  | (with_reducible refine g_make ?_)
  | (with_reducible refine g_del ?_)
  | (with_reducible refine g_callS ?_)
  | (with_reducible refine g_raise ?_)
  | (with_reducible refine g_xf ?_)
  | (with_reducible refine g_m0 ?_)
  | (with_reducible refine g_km0 ?_)
  | walk_at "is")
local macro_rules | `(tactic| walk_at "gg") => `(tactic| repeat walk_at "g")
local macro_rules | `(tactic| walk_at "sz") => `(tactic| (refine sz ?_; simp only [List.length_cons, List.length_nil, List.length_map, List.length_append, List.length_replicate]; omega))
local macro_rules | `(tactic| walk_at "sub") => `(tactic| ((repeat (first | exact List.Sublist.slnil | with_reducible apply List.Sublist.cons_cons | with_reducible apply List.Sublist.cons)); done))

local macro_rules | `(tactic| walk_at "g") => `(tactic| first
  | (with_reducible refine g_dcL ?_)
  | (with_reducible refine g_dcT ?_)
  | (with_reducible refine g_m1s ?_)
  | (with_reducible refine g_km1s ?_)
  | (with_reducible refine g_starts ?_)
  | (with_reducible refine g_tryX ?_)
  | (with_reducible refine g_lcS ?_))

local macro_rules | `(tactic| walk_at "g") => `(tactic| first
  | (with_reducible refine g_forEA ?_)
  | (with_reducible refine g_forSA ?_)
  | (with_reducible refine g_sadd ?_))

/-! ### the first put that is none -/
theorem badF_iff : ∀ (t : Tx) (k : Nat), k ≤ 40 → (badF k t = none ↔ k + t.length ≤ 40 ∧ ∀ z ∈ t, isLine z = true)
  | [], k, hk => by
    unfold badF
    exact ⟨fun _ => ⟨hk, fun z hz => by cases hz⟩, fun _ => rfl⟩
  | z :: r, k, hk => by
    unfold badF
    rw [List.length_cons]
    by_cases h : 40 ≤ k
    · rw [if_pos h]
      exact ⟨(fun e => by cases e), (fun e => by omega)⟩
    · rw [if_neg h]
      by_cases hz : isLine z = true
      · rw [if_pos hz, badF_iff r (k + 1) (by omega)]
        constructor
        · rintro ⟨h1, h2⟩
          exact ⟨by omega, fun y hy => (List.mem_cons.mp hy).elim (fun e => by rw [e]; exact hz) (h2 y)⟩
        · rintro ⟨h1, h2⟩
          exact ⟨by omega, fun y hy => h2 y (List.mem_cons_of_mem _ hy)⟩
      · rw [if_neg hz]
        exact ⟨(fun e => by cases e), fun e => (hz (e.2 z List.mem_cons_self)).elim⟩
theorem okText_iff (t : Tx) : okText (some t) = true ↔ t.length ≤ 40 ∧ ∀ z ∈ t, isLine z = true := by
  show (badT t).isNone = true ↔ _
  unfold badT
  rw [Option.isNone_iff_eq_none, badF_iff t 0 (by omega), Nat.zero_add]
theorem inV_strs (x : Str) (ys : List Str) : inV (.str x) (ys.map V.str) = decide (x ∈ ys) := by
  unfold inV
  rw [List.any_map, Bool.eq_iff_iff]
  simp only [List.any_eq_true, Function.comp, decide_eq_true_eq]
  constructor
  · rintro ⟨y, hy, e⟩
    have e : (y == x) = true := e
    exact (beq_iff_eq.mp e) ▸ hy
  · exact fun h => ⟨x, h, (beq_iff_eq (a := x) (b := x)).mpr rfl⟩
theorem flat_strs (ys : List Str) : (ys.map V.str).all flatV = true := by
  rw [List.all_map]
  exact List.all_eq_true.mpr fun _ _ => rfl
/-- bounds that the law's looks need -/
def TxB (o : Option Tx) : Prop := ∀ t, o = some t → t.length ≤ 1000 ∧ ∀ z ∈ t, z.length ≤ 10000 ∧ PyData.strOk z = true
section
variable {P : Program} {w : World} {K : PySem.W.Frag} {mg : Str → Option Value} {base : Heap}
def sp_l_is_text (K : PySem.W.Frag) : Sp := fun vs H Q _ => ∃ (v : V) (o : Option Tx), vs = [v] ∧ Dq H v (otD o) ∧ TxB o ∧ ∀ H', Same H H' → Q (.bl (okText o)) H'
theorem sp_l_is_text_len {vs H Q E} (h : sp_l_is_text K vs H Q E) : vs.length = 1 := by
  obtain ⟨_, _, rfl, _⟩ := h
  rfl
theorem ok_l_is_text (T : Txt K mg) : FnOk P w K mg base CX0 2 T.f_l_is_text T.fd_l_is_text ["lines"] (sp_l_is_text K) := by
  refine T.F_l_is_text.ok sc_l_is_text (fun vs H Q E h => sp_l_is_text_len h) (fun cdv A outer s H vs Q E hr h => ?_)
  refine ⟨_, (pss_cons (ps_if (pt_cmpR op_isNA (pv 0) pe_non (nomark _)) (pss_one (ps_ret pe_bl)) pss_nil)
      (pss_cons (ps_for PassesOwn.never rfl (k_sa K (pi_seqA (pv 0))) (pg_name (i := 1) sc_l_is_text.nd rfl (.inl rfl)) (pss_one (ps_if (PW.pt (pw_or (pt_not (pt_val (pe_call (ok_l_signs T) (hr.mono (by decide)) (by rfl) T.g_l_signs T.F_l_signs.kp T.b_l_signs .nil pass0 (pa_cons (pv 1) (pa_cons pe_str pa_nil))))) (pw_or1 (pt_cmpR op_gt (pe_callB (cr_lenK K) (by rfl) T.m_len (by decide +kernel) (pa_cons (pv 1) pa_nil)) pe_int (nomark _))))) (pss_one (ps_ret pe_bl)) pss_nil)))
      (pss_one (ps_ret (pe_cmpR op_le (pe_callB (cr_lenK K) (by rfl) T.m_len (by decide +kernel) (pa_cons (pv 0) pa_nil)) pe_int (nomark _)))))), ?_⟩
  obtain ⟨v, o, rfl, dv, tb, q⟩ := h
  refine g_start (σ' := [some (v), none]) rfl ?_
  walk_at "gg"
  cases o with
  | none =>
    have e := dv.non_inv
    subst e
    refine i_d (fun _ => ?_) (fun c => (c rfl).elim)
    walk_at "gg"
    exact q H (Same.refl _)
  | some t =>
    obtain ⟨l, rfl, hl⟩ := ot_some dv
    have tb := tb t rfl
    refine i_d (fun c => by cases c) (fun _ => ?_)
    walk_at "gg"
    refine k_forSA (xs := t.map V.str) (.inr rfl) (fun i σ H' => (∃ y1, σ = [some (.ref l), y1] ∧ Same H H') ∧ ∀ z ∈ t.take i, isLine z = true) ⟨⟨_, rfl, Same.refl _⟩, fun z h => by cases h⟩ ?_ ?_ ?_
    · rintro i σ H' ⟨⟨y1, rfl, s⟩, _⟩
      exact s _ _ hl
    · rintro i x σ H' hx ⟨⟨y1, rfl, s⟩, ok⟩
      obtain ⟨z, hz, rfl⟩ := str_at hx
      have bz := tb.2 z (List.mem_of_getElem? hz)
      have no : isLine z = false → okText (some t) = false := fun hb => by
        cases e : okText (some t) with
        | false => rfl
        | true =>
          have := ((okText_iff t).mp e).2 z (List.mem_of_getElem? hz)
          rw [hb] at this
          cases this
      walk_at "gg"
      refine ⟨z, _, rfl, bz.1, bz.2, fun H2 s2 => ?_⟩
      have sA := s.trans s2
      walk_at "gg"
      cases hb : allIn (("abcdefghijklmnopqrstuvwxyz0123456789 <=>|-" : Str).cps.toList) z with
      | false =>
        walk_at "gg"
        have := no (by unfold isLine signsL; rw [hb, Bool.and_false])
        rw [this] at q
        exact q _ sA
      | true =>
        walk_at "gg"
        refine g_lenS (sz (by omega)) ?_
        walk_at "gg"
        refine i_d (fun e => ?_) (fun e => ?_)
        · walk_at "gg"
          have := no (by unfold isLine; rw [decide_eq_false (by omega), Bool.false_and])
          rw [this] at q
          exact q _ sA
        walk_at "gg"
        refine ⟨⟨_, rfl, sA⟩, fun y hy => ?_⟩
        rw [List.take_add_one, hz] at hy
        rcases List.mem_append.mp hy with h | h
        · exact ok y h
        · have e : y = z := by simpa using h
          rw [e]
          unfold isLine signsL
          rw [hb, decide_eq_true (by omega)]
          rfl
    · rintro σ H' ⟨⟨y1, rfl, s⟩, ok⟩
      rw [List.length_map, List.take_length] at ok
      have hl' := s _ _ hl
      walk_at "gg"
      have e : decide ((((t.map V.str).length : Nat) : Int) ≤ 40) = okText (some t) := by
        rw [Bool.eq_iff_iff, decide_eq_true_eq, okText_iff, List.length_map]
        exact ⟨fun h => ⟨by omega, ok⟩, fun h => by have := h.1; omega⟩
      rw [e]
      exact q _ s
def badPV (ps : List Pt) : Int := match badPs 0 [] ps with
  | some k => (k : Nat)
  | none => -1
def PtO (ps : List Pt) : Prop := ∀ p ∈ ps, (p.1.length ≤ 5000 ∧ PyData.strOk p.1 = true) ∧ TxB p.2
def sp_l_first_bad (K : PySem.W.Frag) : Sp := fun vs H Q _ => ∃ (l : Addr) (ws : List V) (ps : List Pt), vs = [.ref l] ∧ H l = some (.lst ws) ∧ DqAll H ws (ps.map pD) ∧ ps.length ≤ 60 ∧ PtO ps ∧ ∀ H', Same H H' → Q (.int (badPV ps)) H'
theorem sp_l_first_bad_len {vs H Q E} (h : sp_l_first_bad K vs H Q E) : vs.length = 1 := by
  obtain ⟨_, _, _, rfl, _⟩ := h
  rfl
theorem ok_l_first_bad (T : Txt K mg) : FnOk P w K mg base CX0 3 T.f_l_first_bad T.fd_l_first_bad ["puts"] (sp_l_first_bad K) := by
  refine T.F_l_first_bad.ok sc_l_first_bad (fun vs H Q E h => sp_l_first_bad_len h) (fun cdv A outer s H vs Q E hr h => ?_)
  refine ⟨_, (pss_cons (ps_set (i := 1) sc_l_first_bad.nd rfl (.inl rfl) (pe_lst pa_nil))
      (pss_cons (ps_for PassesOwn.never rfl (pi_range1 rfl T.m_range (pa_cons (pe_callB (cr_lenK K) (by rfl) T.m_len (by decide +kernel) (pa_cons (pv 0) pa_nil)) pa_nil)) (pg_name (i := 2) sc_l_first_bad.nd rfl (.inl rfl)) (pss_cons (ps_set (i := 3) sc_l_first_bad.nd rfl (.inl rfl) (pe_ix (ix_K K (hu_of hr)) (pe_ix (ix_K K (hu_of hr)) (pv 0) (pv 2) (fun _ _ => rfl)) pe_int (fun _ _ => rfl)))
      (pss_cons (ps_if (PW.pt (pw_or (pt_not (pt_val (pe_call (ok_l_is_way T) (hr.mono (by decide)) (by rfl) T.g_l_is_way T.F_l_is_way.kp T.b_l_is_way .nil pass0 (pa_cons (pv 3) pa_nil)))) (pw_or (pt_cmpR (op_inM K P w hr.units (u65 hr)) (pv 3) (pv 1) (by rfl)) (pw_or1 (pt_not (pt_val (pe_call (ok_l_is_text T) (hr.mono (by decide)) (by rfl) T.g_l_is_text T.F_l_is_text.kp T.b_l_is_text .nil pass0 (pa_cons (pe_ix (ix_K K (hu_of hr)) (pe_ix (ix_K K (hu_of hr)) (pv 0) (pv 2) (fun _ _ => rfl)) pe_int (fun _ _ => rfl)) pa_nil)))))))) (pss_one (ps_ret (pv 2))) pss_nil)
      (pss_one (ps_expr (k_bm K (pe_bm PySem.F.plainAttrs_list PySem.F.slot_list_append PySem.F.type_list_append mt_append (pv 1) (pa_cons (pv 3) pa_nil))))))))
      (pss_one (ps_ret (pe_un un_neg pe_int))))), ?_⟩
  obtain ⟨l, ws, ps, rfl, hl, dw, lp, pb, q⟩ := h
  have lw := dw.len
  rw [List.length_map] at lw
  refine g_start (σ' := [some (.ref l), none, none, none]) rfl ?_
  walk_at "gg"
  refine g_klst (by walk_at "sz") (Has.start H) (fun sn H1 n1 h1 => ?_)
  walk_at "gg"
  refine k_forR1 (fun t σ H' => ∃ (y2 y3 : Option V), σ = [some (.ref l), some (.ref sn), y2, y3] ∧ Has H [(sn, .lst (((ps.take t).map (·.1)).map V.str))] H' ∧ badPs 0 [] ps = badPs t ((ps.take t).map (·.1)) (ps.drop t)) (by omega) (by omega) ⟨_, _, rfl, h1, rfl⟩ ?_ ?_
  · rintro t σ H2 ht ⟨y2, y3, rfl, h2, eb⟩
    have lt : t < ps.length := by omega
    have ep : ps[t]? = some ps[t] := List.getElem?_eq_getElem lt
    have pB := pb ps[t] (List.getElem_mem lt)
    generalize ps[t] = p at ep pB
    have eu : ws[t]? = some (ws[t]'(by omega)) := List.getElem?_eq_getElem (by omega)
    generalize ws[t]'(by omega) = x at eu
    obtain ⟨dd, ed, dx⟩ := dw.get eu
    rw [List.getElem?_map, ep] at ed
    injection ed with ed
    subst ed
    obtain ⟨Tp, u, rfl, hT, du⟩ := pD_inv dx
    have tk : (ps.take (t + 1)).map (·.1) = (ps.take t).map (·.1) ++ [p.1] := by rw [List.take_add_one, ep, List.map_append]; rfl
    rw [badPs_drop ep] at eb
    have bad : badPs 0 [] ps = some t → ∀ H', Same H H' → Q (.int (t : Nat)) H' := fun e H' s => by
      have := q H' s
      unfold badPV at this
      rw [e] at this
      exact this
    walk_at "gg"
    refine g_ixL (v := .ref Tp) (h2.same _ _ hl) (atI_nat eu) ?_
    walk_at "gg"
    refine g_ixT (v := .str p.1) (h2.same _ _ hT) (atI_nat (j := 0) rfl) ?_
    walk_at "gg"
    refine ⟨p.1, rfl, pB.1.1, pB.1.2, fun H3 s3 => ?_⟩
    have h3 := h2.on s3
    walk_at "gg"
    cases hb : isPath p.1 with
    | false =>
      rw [hb, if_neg (by decide)] at eb
      walk_at "gg"
      exact bad eb _ h3.same
    | true =>
    rw [hb, if_pos rfl] at eb
    walk_at "gg"
    refine g_inM (g_inFL (h3.get (List.Mem.head _)) rfl (flat_strs _) ?_)
    rw [inV_strs]
    walk_at "gg"
    refine i_d (fun yes => ?_) (fun ns => ?_)
    · rw [if_pos yes] at eb
      walk_at "gg"
      exact bad eb _ h3.same
    rw [if_neg ns] at eb
    walk_at "gg"
    refine g_ixL (v := .ref Tp) (h3.same _ _ hl) (atI_nat eu) ?_
    walk_at "gg"
    refine g_ixT (v := u) (h3.same _ _ hT) (atI_nat (j := 1) rfl) ?_
    walk_at "gg"
    refine ⟨u, p.2, rfl, du.up h3.same _ _, pB.2, fun H4 s4 => ?_⟩
    have h4 := h3.on s4
    walk_at "gg"
    cases ht2 : okText p.2 with
    | false =>
      rw [ht2, if_neg (by decide)] at eb
      walk_at "gg"
      exact bad eb _ h4.same
    | true =>
      rw [ht2, if_pos rfl, ← tk] at eb
      walk_at "gg"
      refine g_append h4 .hd (szl (by rw [List.length_map, List.length_map, List.length_take]; omega)) (fun H5 h5 => ?_)
      walk_at "gg"
      refine ⟨_, _, rfl, ?_, eb⟩
      rw [tk, List.map_append]
      exact h5
  · rintro σ H2 ⟨y2, y3, rfl, h2, eb⟩
    have e5 : (ws.length : Int).toNat = ws.length := by omega
    rw [e5, badPs_end _ _ _ (by omega)] at eb
    have := q H2 h2.same
    unfold badPV at this
    rw [eb] at this
    walk_at "gg"
    exact this
end

end K07

namespace K07
open PySem PySem.Spec PyProof.Rows L2 Qk
local macro_rules | `(tactic| walk_at "m") => `(tactic| ((repeat (first | exact List.Mem.head _ | apply List.Mem.tail)); done))
local macro_rules | `(tactic| walk_at "h") => `(tactic| first | assumption | exact Has.gF (by assumption) (by assumption) | exact Has.get (by assumption) (by walk_at "m"))
local macro_rules | `(tactic| walk_at "c") => `(tactic| ((repeat (first | exact Chg.hd | apply Chg.tl)); done))
local macro_rules | `(tactic| walk_at "is") => `(tactic| first
  | ((with_reducible refine' is2_non ?gh ?_); (case gh => walk_at "h"))
  | (with_reducible refine is_int_list ?_)
  | (with_reducible refine is_int_tuple ?_)
  | (with_reducible refine is_int_dict ?_)
  | (with_reducible refine is_int_int ?_)
  | (with_reducible refine is_int_bool ?_)
  | (with_reducible refine is_int_str ?_)
  | ((with_reducible refine' is2_int ?gh ?_); (case gh => walk_at "h"))
  | (with_reducible refine is_str_list ?_)
  | (with_reducible refine is_str_tuple ?_)
  | (with_reducible refine is_str_dict ?_)
  | (with_reducible refine is_str_int ?_)
  | (with_reducible refine is_str_bool ?_)
  | (with_reducible refine is_str_str ?_)
  | ((with_reducible refine' is2_str ?gh ?_); (case gh => walk_at "h"))
  | (with_reducible refine is_bool_list ?_)
  | (with_reducible refine is_bool_tuple ?_)
  | (with_reducible refine is_bool_dict ?_)
  | (with_reducible refine is_bool_int ?_)
  | (with_reducible refine is_bool_bool ?_)
  | (with_reducible refine is_bool_str ?_)
  | ((with_reducible refine' is2_bool ?gh ?_); (case gh => walk_at "h"))
  | ((with_reducible refine' is_list_list ?gh ?_); (case gh => walk_at "h"))
  | ((with_reducible refine' is_list_tuple ?gh ?_); (case gh => walk_at "h"))
  | ((with_reducible refine' is_list_dict ?gh ?_); (case gh => walk_at "h"))
  | ((with_reducible refine' is_list_int ?gh ?_); (case gh => walk_at "h"))
  | ((with_reducible refine' is_list_bool ?gh ?_); (case gh => walk_at "h"))
  | ((with_reducible refine' is_list_str ?gh ?_); (case gh => walk_at "h"))
  | ((with_reducible refine' is2_list ?ga ?gb ?_); (case ga => walk_at "h"); (case gb => walk_at "h"))
  | ((with_reducible refine' is_tuple_list ?gh ?_); (case gh => walk_at "h"))
  | ((with_reducible refine' is_tuple_tuple ?gh ?_); (case gh => walk_at "h"))
  | ((with_reducible refine' is_tuple_dict ?gh ?_); (case gh => walk_at "h"))
  | ((with_reducible refine' is_tuple_int ?gh ?_); (case gh => walk_at "h"))
  | ((with_reducible refine' is_tuple_bool ?gh ?_); (case gh => walk_at "h"))
  | ((with_reducible refine' is_tuple_str ?gh ?_); (case gh => walk_at "h"))
  | ((with_reducible refine' is2_tuple ?ga ?gb ?_); (case ga => walk_at "h"); (case gb => walk_at "h"))
  | ((with_reducible refine' is_dict_list ?gh ?_); (case gh => walk_at "h"))
  | ((with_reducible refine' is_dict_tuple ?gh ?_); (case gh => walk_at "h"))
  | ((with_reducible refine' is_dict_dict ?gh ?_); (case gh => walk_at "h"))
  | ((with_reducible refine' is_dict_int ?gh ?_); (case gh => walk_at "h"))
  | ((with_reducible refine' is_dict_bool ?gh ?_); (case gh => walk_at "h"))
  | ((with_reducible refine' is_dict_str ?gh ?_); (case gh => walk_at "h"))
  | ((with_reducible refine' is2_dict ?ga ?gb ?_); (case ga => walk_at "h"); (case gb => walk_at "h")))
local macro_rules | `(tactic| walk_at "g") => `(tactic| first
  | (with_reducible refine g_seq ?_)
  | (with_reducible refine g_asg ?_)
  | ((with_reducible refine g_name ?_); dsimp only [List.set, wipe, List.map])
  | ((with_reducible refine' g_var ?gv ?_); (case gv => exact rfl))
  | (with_reducible refine g_c ?_)
  | (with_reducible refine g_op ?_)
  | (with_reducible refine g_cons ?_)
  | (with_reducible refine g_nil ?_)
  | (with_reducible refine g_cb ?_)
  | (with_reducible refine g_call ?_)
  | (with_reducible refine g_tup ?_)
  | (with_reducible refine g_lst ?_)
  | (with_reducible refine g_bm ?_)
  | (with_reducible refine g_bm0 ?_)
  | ((with_reducible refine' g_kbm ?gh ?_); (case gh => walk_at "h"))
  | (with_reducible refine g_drop ?_)
  | (with_reducible refine g_ret ?_)
  | (with_reducible refine g_retN ?_)
  | (with_reducible refine g_next ?_)
  | (with_reducible refine g_brk ?_)
  | (with_reducible refine g_cont ?_)
  | (with_reducible refine g_if ?_)
  | ((with_reducible refine' g_aug ?gv ?_); (case gv => exact rfl))
  | (with_reducible refine g_ipI ?_)
  | (with_reducible refine g_test ?_)
  | (with_reducible refine g_tB ?_)
  | (with_reducible refine g_kB ?_)
  | (with_reducible refine g_not ?_)
  | (with_reducible refine g_and ?_)
  | (with_reducible refine g_or ?_)
  | (with_reducible refine g_andV ?_)
  | (with_reducible refine g_orV ?_)
  | (with_reducible refine g_notV ?_)
  | (with_reducible refine g_ifE ?_)
  | (with_reducible refine g_addI ?_)
  | (with_reducible refine g_rI0 ?_)
  | (with_reducible refine g_eqI ?_)
  | (with_reducible refine g_eqS ?_)
  | (with_reducible refine g_neI ?_)
  | (with_reducible refine g_neS ?_)
  | (with_reducible refine g_isN ?_)
  | (with_reducible refine g_notN ?_)
  | (with_reducible refine g_int ?_)
  | (with_reducible refine g_max2 ?_)
  | (with_reducible refine g_min2 ?_)
  | ((with_reducible refine' g_lenL ?gh ?_); (case gh => walk_at "h"))
  | (with_reducible refine g_sub ?_)
  | (with_reducible refine g_gcons ?_)
  | (with_reducible refine g_gnil ?_)
  | (with_reducible refine g_un ?_)
  | (with_reducible refine g_rU ?_)
  | (with_reducible refine g_forL ?_)
  | (with_reducible refine g_forS ?_)
  | (with_reducible refine g_forR1 ?_)
  | (with_reducible refine g_forR2 ?_)
  | (with_reducible refine g_forR3 ?_)
  | (with_reducible refine g_lcL ?_)
  | (with_reducible refine g_lcR1 ?_)
  | (with_reducible refine g_lcR2 ?_)
  | (with_reducible refine g_slice ?_)
  | (with_reducible refine g_part ?_)
  | (with_reducible refine g_kOI ?_)
  | (with_reducible refine g_nopart ?_)
  | (with_reducible refine g_yes ?_)
  | ((with_reducible refine' g_wipe ?gv ?_); (case gv => exact rfl))
  | (with_reducible refine iteT ?_)
  | (with_reducible refine iteF ?_)
  | (with_reducible refine i_nf ?_)
  | (with_reducible refine i_nt ?_)
  | ((with_reducible refine' g_gtup ?gh ?gl ?_); (case gh => walk_at "h"); (case gl => exact rfl))
  | ((with_reducible refine' g_notinI ?gh ?_); (case gh => walk_at "h"))
  | ((with_reducible refine' g_inI ?gh ?_); (case gh => walk_at "h"))
  | ((with_reducible refine' g_kget2 ?gh ?_); (case gh => walk_at "h"))
  | ((with_reducible refine' g_kgotI ?gh ?_); (case gh => walk_at "h"))
  | (with_reducible refine g_tRev ?_)
  | (with_reducible refine g_neB ?_)
  | (with_reducible refine g_eqB ?_)
  | ((with_reducible refine' g_lenT ?gh ?_); (case gh => walk_at "h"))
  | (with_reducible refine g_star ?_)
  | ((with_reducible refine' g_kstarL ?gh ?_); (case gh => walk_at "h"))
  | ((with_reducible refine' g_kstarT ?gh ?_); (case gh => walk_at "h"))
  | (with_reducible refine g_tru ?_)
  | ((with_reducible refine' g_truL ?gh ?_); (case gh => walk_at "h"))
  | (with_reducible refine g_get2 ?_)
  | (with_reducible refine g_try ?_)
  | (with_reducible refine g_fld ?_)
  | (with_reducible refine g_sfld ?_)
  | (with_reducible refine g_meth ?_)
  | (with_reducible refine g_make ?_)
  | (with_reducible refine g_del ?_)
  | (with_reducible refine g_callS ?_)
  | (with_reducible refine g_raise ?_)
  | (with_reducible refine g_xf ?_)
  | (with_reducible refine g_m0 ?_)
  | (with_reducible refine g_km0 ?_)
  | walk_at "is")
local macro_rules | `(tactic| walk_at "gg") => `(tactic| repeat walk_at "g")
local macro_rules | `(tactic| walk_at "sz") => `(tactic| (refine sz ?_; simp only [List.length_cons, List.length_nil, List.length_map, List.length_append, List.length_replicate]; omega))
local macro_rules | `(tactic| walk_at "sub") => `(tactic| ((repeat (first | exact List.Sublist.slnil | with_reducible apply List.Sublist.cons_cons | with_reducible apply List.Sublist.cons)); done))

local macro_rules | `(tactic| walk_at "g") => `(tactic| first
  | (with_reducible refine g_dcL ?_)
  | (with_reducible refine g_dcT ?_)
  | (with_reducible refine g_m1s ?_)
  | (with_reducible refine g_km1s ?_)
  | (with_reducible refine g_starts ?_)
  | (with_reducible refine g_tryX ?_)
  | (with_reducible refine g_lcS ?_))

local macro_rules | `(tactic| walk_at "g") => `(tactic| first
  | (with_reducible refine g_lcRv ?_)
  | (with_reducible refine g_dpop1 ?_))

/-! ### the tree that the changes lead to -/
/-- a tree under way without the path -/
def rmB (B : Bt) (z : Str) : Bt := B.filter fun b => decide (b.1 ≠ z)
theorem rmB_key (B : Bt) (z : Str) : dropK (bK B) (.inr z) = bK (rmB B z) := by
  unfold dropK bK rmB
  rw [List.filter_map]
  congr 1
  refine List.filter_congr fun b _ => ?_
  exact decide_eq_decide.mpr ⟨fun h e => h (by show kS b.1 = _; rw [e]; rfl), fun h e => h (Sum.inr.inj e)⟩
theorem rmB_own (B : Bt) (z : Str) : (bO (rmB B z)).Sublist (bO B) := List.filter_sublist.map _
theorem rmB_nd {B : Bt} {z : Str} (n : (B.map (·.1)).Nodup) : ((rmB B z).map (·.1)).Nodup := (List.filter_sublist.map _).nodup n
theorem rmB_no {B : Bt} {z : Str} : z ∉ (rmB B z).map (·.1) := fun m => by
  obtain ⟨b, hb, e⟩ := List.mem_map.mp m
  have := of_decide_eq_true (List.mem_filter.mp hb).2
  exact this e
theorem rmB_id {B : Bt} {z : Str} (n : z ∉ B.map (·.1)) : rmB B z = B := List.filter_eq_self.mpr fun b hb => decide_eq_true fun e => n (List.mem_map.mpr ⟨b, hb, e⟩)
theorem rmB_len (B : Bt) (z : Str) : (rmB B z).length ≤ B.length := List.length_filter_le ..
theorem getT_rm (B : Bt) (z y : Str) : getT (bA (rmB B z)) y = if y = z then none else getT (bA B) y := by
  by_cases h : y = z
  · rw [if_pos h, h]
    exact getT_none.mpr (by rw [bA_keys]; exact rmB_no)
  · rw [if_neg h]
    induction B with
    | nil => rfl
    | cons b B ih =>
      unfold rmB
      rw [List.filter_cons]
      by_cases k : b.1 = z
      · rw [if_neg (by rw [decide_eq_true_eq]; exact fun e => e k)]
        show getT (bA (rmB B z)) y = (if b.1 = y then some b.2.2 else getT (bA B) y)
        rw [if_neg (fun e => h (e.symm.trans k)), ih]
      · rw [if_pos (decide_eq_true k)]
        show (if b.1 = y then some b.2.2 else getT (bA (rmB B z)) y) = (if b.1 = y then some b.2.2 else getT (bA B) y)
        rw [ih]
theorem led_none {B : Bt} {z : Str} : getT (bA (rmB B z)) = upF (getT (bA B)) z none := by
  funext y
  exact getT_rm B z y
theorem led_some {B : Bt} {z : Str} {p : Addr} {x : Tx} : getT (bA (rmB B z ++ [(z, p, x)])) = upF (getT (bA B)) z (some x) := by
  funext y
  rw [bA_snoc, getT_snoc (p := (z, x)) (by rw [bA_keys]; exact rmB_no), getT_rm]
  unfold upF
  by_cases h : y = z
  · rw [if_pos h, if_pos h]
  · rw [if_neg h, if_neg h, if_neg h]

/-! ### the tree that the puts lead to -/
section
variable {P : Program} {w : World} {K : PySem.W.Frag} {mg : Str → Option Value} {base : Heap}
def sp_l_put (K : PySem.W.Frag) : Sp := fun vs H Q _ => ∃ (a l : Addr) (A : Tr) (ws : List V) (ps : List Pt), vs = [.ref a, .ref l] ∧ TrAt H a A ∧ H l = some (.lst ws) ∧ DqAll H ws (ps.map pD) ∧ A.length ≤ 10 ∧ ps.length ≤ 20 ∧
  ∀ d (R : Tr) H', Same H H' → TrAt H' d R → AscT R → (∀ z t, (z, t) ∈ R ↔ runP (getT A) ps z = some t) → R.length ≤ 50 → Q (.ref d) H'
theorem sp_l_put_len {vs H Q E} (h : sp_l_put K vs H Q E) : vs.length = 2 := by
  obtain ⟨_, _, _, _, _, rfl, _⟩ := h
  rfl
set_option maxHeartbeats 1000000 in
theorem ok_l_put (T : Txt K mg) : FnOk P w K mg base CX0 2 T.f_l_put T.fd_l_put ["tree", "puts"] (sp_l_put K) := by
  refine T.F_l_put.ok sc_l_put (fun vs H Q E h => sp_l_put_len h) (fun cdv A outer s H vs Q E hr h => ?_)
  refine ⟨_, (pss_cons (ps_set (i := 2) sc_l_put.nd rfl (.inl rfl) (pe_call (ok_l_copy T) (hr.mono (by decide)) (by rfl) T.g_l_copy T.F_l_copy.kp T.b_l_copy .nil pass0 (pa_cons (pv 0) pa_nil)))
      (pss_cons (ps_for PassesOwn.never rfl (k_il K (pi_list (pv 1))) (pg_name (i := 3) sc_l_put.nd rfl (.inl rfl)) (pss_cons (ps_if (pt_cmpR (op_inN K P w hr.units (u65 hr)) (pe_ix (ix_K K (hu_of hr)) (pv 3) pe_int (fun _ _ => rfl)) (pv 2) (by rfl)) (pss_one (ps_expr (pe_dpop1 (pv 2) (pe_ix (ix_K K (hu_of hr)) (pv 3) pe_int (fun _ _ => rfl)) ⟨rfl, rfl, rfl, rfl⟩))) pss_nil)
      (pss_one (ps_if (pt_cmpR op_notNA (pe_ix (ix_K K (hu_of hr)) (pv 3) pe_int (fun _ _ => rfl)) pe_non (nomark _)) (pss_one (ps_asg (pe_callTy (cr_listK K) (by rfl) T.m_list (by decide +kernel) (pa_cons (pe_ix (ix_K K (hu_of hr)) (pv 3) pe_int (fun _ _ => rfl)) pa_nil)) (pg_sub (pv 2) (pe_ix (ix_K K (hu_of hr)) (pv 3) pe_int (fun _ _ => rfl)) (set_any (hu_of hr))))) pss_nil))))
      (pss_one (ps_ret (pe_call (ok_l_rising T) (hr.mono (by decide)) (by rfl) T.g_l_rising T.F_l_rising.kp T.b_l_rising .nil pass0 (pa_cons (pv 2) pa_nil)))))), ?_⟩
  obtain ⟨a, l, A, ws, ps, rfl, ta, hl, dw, lA, lp, q⟩ := h
  have nd : (A.map (·.1)).Nodup := by
    obtain ⟨_, _, _, n, _⟩ := ta
    exact n
  have lw := dw.len
  rw [List.length_map] at lw
  refine g_start (σ' := [some (.ref a), some (.ref l), none, none]) rfl ?_
  walk_at "gg"
  refine ⟨a, A, rfl, ta, by omega, fun d B0 H1 h1 e0 => ?_⟩
  have n0 : (B0.map (·.1)).Nodup := by rw [← bA_keys, e0]; exact nd
  have l0 : B0.length = A.length := by
    have := congrArg List.length e0
    unfold bA at this
    rw [List.length_map] at this
    exact this
  rw [← e0] at q
  walk_at "gg"
  refine k_forL (h1.same _ _ hl) (fun t σ H' => ∃ (y3 : Option V) (B : Bt), σ = [some (.ref a), some (.ref l), some (.ref d), y3] ∧ Has H ((d, .dK (bK B)) :: (bO B ++ [])) H' ∧ (B.map (·.1)).Nodup ∧ B.length ≤ A.length + t ∧ getT (bA B) = runP (getT (bA B0)) (ps.take t)) ⟨_, B0, rfl, by rw [List.append_nil]; exact h1, n0, by omega, rfl⟩ ?_ ?_ ?_
  · rintro t σ H' _ ⟨y3, B, rfl, h, _⟩
    exact h.same _ _ hl
  · rintro t x σ H3 hx ⟨y3, B, rfl, h3, nB, lB, er⟩
    obtain ⟨dd, ed, dx⟩ := dw.get hx
    rw [List.getElem?_map] at ed
    obtain ⟨p, ep, rfl⟩ := Option.map_eq_some_iff.mp ed
    obtain ⟨Tp, u, rfl, hT, du⟩ := pD_inv dx
    have lt := (List.getElem?_eq_some_iff.mp ep).1
    have es : runP (getT (bA B0)) (ps.take (t + 1)) = upF (getT (bA B)) p.1 p.2 := by
      rw [List.take_add_one, ep, er]
      exact runP_snoc _ _ _
    walk_at "g"
    walk_at "g"
    refine g_joinD (fun σ' H' => σ' = [some (.ref a), some (.ref l), some (.ref d), some (.ref Tp)] ∧ Has H ((d, .dK (bK (rmB B p.1))) :: (bO (rmB B p.1) ++ [])) H') ?_ (fun nx key => ?_)
    rotate_left
    · walk_at "gg"
      have tB3 : TrAt H3 d (bA B) := tr_in h3 (fun p hp => by rw [List.append_nil]; exact hp) nB
      obtain ⟨kv3, hd3, ek3, _, dq3⟩ := id tB3
      have hd3' := h3.get (List.Mem.head _)
      have e3 : kv3 = bK B := by
        rw [hd3] at hd3'
        injection hd3' with e
        injection e
      subst e3
      refine g_ixT (v := .str p.1) (h3.same _ _ hT) (atI_nat (j := 0) rfl) ?_
      walk_at "gg"
      refine g_inNM (g_inM (g_inS hd3 ?_))
      rw [(tr_get p.1 ek3 dq3).2]
      walk_at "gg"
      cases eg : getT (bA B) p.1 with
      | none =>
        have no : p.1 ∉ B.map (·.1) := by
          rw [← bA_keys]
          exact getT_none.mp eg
        rw [if_neg (show ¬ (none : Option Tx).isSome = true by simp)]
        walk_at "gg"
        refine key _ _ ⟨rfl, ?_⟩
        rw [rmB_id no]
        exact h3
      | some x =>
        obtain ⟨lx, vx, hx⟩ := tr_at ek3 dq3 eg
        rw [if_pos (show (some x : Option Tx).isSome = true from rfl)]
        walk_at "gg"
        refine g_kdpop (h3.get (List.Mem.head _)) ?_
        walk_at "gg"
        refine g_ixT (v := .str p.1) (h3.same _ _ hT) (atI_nat (j := 0) rfl) ?_
        refine g_kdpopped (k := .inr p.1) rfl h3 .hd vx (fun H4 h4 => ?_)
        walk_at "gg"
        refine key _ _ ⟨rfl, ?_⟩
        rw [rmB_key] at h4
        exact h4.sub (List.Sublist.cons_cons _ ((rmB_own B p.1).append (List.Sublist.refl _)))
    rintro σ' H4 ⟨rfl, h4⟩
    have lr := rmB_len B p.1
    walk_at "gg"
    refine g_ixT (v := u) (h4.same _ _ hT) (atI_nat (j := 1) rfl) ?_
    walk_at "gg"
    cases e2 : p.2 with
    | none =>
      rw [e2] at du
      have e := du.non_inv
      subst e
      refine i_n (fun c => (c rfl).elim) (fun _ => ?_)
      walk_at "gg"
      exact ⟨_, rmB B p.1, rfl, h4, rmB_nd nB, by omega, by rw [led_none, es, e2]⟩
    | some x =>
      rw [e2] at du
      obtain ⟨lx, rfl, hx⟩ := ot_some du
      refine i_n (fun _ => ?_) (fun c => by cases c)
      walk_at "gg"
      refine g_ixT (v := .ref lx) (h4.same _ _ hT) (atI_nat (j := 1) rfl) ?_
      walk_at "gg"
      refine g_listT (h4.same _ _ hx) h4 (fun p5 H5 n5 h5 => ?_)
      walk_at "gg"
      refine g_ixT (v := .str p.1) (h5.same _ _ hT) (atI_nat (j := 0) rfl) ?_
      refine g_stD (k := .inr p.1) rfl h5 (.tl .hd) (szl (by unfold bK; rw [List.length_map]; omega)) (fun H6 h6 => ?_)
      rw [putK_new _ (bK_none rmB_no)] at h6
      walk_at "gg"
      refine ⟨_, rmB B p.1 ++ [(p.1, p5, x)], rfl, Has.bput h6, ?_, by rw [List.length_append]; show _ + 1 ≤ _; omega, by rw [led_some, es, e2]⟩
      rw [List.map_append, List.nodup_append]
      refine ⟨rmB_nd nB, by simp, fun a ha b hb e => rmB_no (B := B) (z := p.1) ?_⟩
      have eb : b = p.1 := by simpa using hb
      rw [e.trans eb] at ha
      exact ha
  · rintro σ H2 ⟨y3, B, rfl, h2, nB, lB, er⟩
    rw [lw, List.take_length] at er
    rw [← er] at q
    rw [List.append_nil] at h2
    have tB : TrAt H2 d (bA B) := tr_in h2 (fun p hp => hp) nB
    have lB2 : (bA B).length ≤ 50 := by
      unfold bA
      rw [List.length_map]
      omega
    walk_at "gg"
    refine ⟨d, bA B, rfl, tB, by omega, fun d3 B3 H3 h3 asc3 mem3 => ?_⟩
    have t3 : TrAt H3 d3 (bA B3) := tr_in h3 (fun p hp => hp) (by rw [← bA_keys]; exact asc3.nd)
    have nA : ((bA B).map (·.1)).Nodup := by rw [bA_keys]; exact nB
    refine q d3 (bA B3) H3 (h2.same.trans h3.same) t3 asc3 (fun z t => ?_) ?_
    · rw [mem3]
      exact ⟨fun h => getT_of nA h, fun h => getT_mem h⟩
    · have := keys_le (xs := (bA B3).map (·.1)) (ys := (bA B).map (·.1)) asc3.nd fun z hz => by
        obtain ⟨p, hp, rfl⟩ := List.mem_map.mp hz
        exact List.mem_map.mpr ⟨p, (mem3 p).mp hp, rfl⟩
      rw [List.length_map, List.length_map] at this
      omega
end

end K07

namespace K07
open PySem PySem.Spec PyProof.Rows L2 Qk
local macro_rules | `(tactic| walk_at "m") => `(tactic| ((repeat (first | exact List.Mem.head _ | apply List.Mem.tail)); done))
local macro_rules | `(tactic| walk_at "h") => `(tactic| first | assumption | exact Has.gF (by assumption) (by assumption) | exact Has.get (by assumption) (by walk_at "m"))
local macro_rules | `(tactic| walk_at "c") => `(tactic| ((repeat (first | exact Chg.hd | apply Chg.tl)); done))
local macro_rules | `(tactic| walk_at "is") => `(tactic| first
  | ((with_reducible refine' is2_non ?gh ?_); (case gh => walk_at "h"))
  | (with_reducible refine is_int_list ?_)
  | (with_reducible refine is_int_tuple ?_)
  | (with_reducible refine is_int_dict ?_)
  | (with_reducible refine is_int_int ?_)
  | (with_reducible refine is_int_bool ?_)
  | (with_reducible refine is_int_str ?_)
  | ((with_reducible refine' is2_int ?gh ?_); (case gh => walk_at "h"))
  | (with_reducible refine is_str_list ?_)
  | (with_reducible refine is_str_tuple ?_)
  | (with_reducible refine is_str_dict ?_)
  | (with_reducible refine is_str_int ?_)
  | (with_reducible refine is_str_bool ?_)
  | (with_reducible refine is_str_str ?_)
  | ((with_reducible refine' is2_str ?gh ?_); (case gh => walk_at "h"))
  | (with_reducible refine is_bool_list ?_)
  | (with_reducible refine is_bool_tuple ?_)
  | (with_reducible refine is_bool_dict ?_)
  | (with_reducible refine is_bool_int ?_)
  | (with_reducible refine is_bool_bool ?_)
  | (with_reducible refine is_bool_str ?_)
  | ((with_reducible refine' is2_bool ?gh ?_); (case gh => walk_at "h"))
  | ((with_reducible refine' is_list_list ?gh ?_); (case gh => walk_at "h"))
  | ((with_reducible refine' is_list_tuple ?gh ?_); (case gh => walk_at "h"))
  | ((with_reducible refine' is_list_dict ?gh ?_); (case gh => walk_at "h"))
  | ((with_reducible refine' is_list_int ?gh ?_); (case gh => walk_at "h"))
  | ((with_reducible refine' is_list_bool ?gh ?_); (case gh => walk_at "h"))
  | ((with_reducible refine' is_list_str ?gh ?_); (case gh => walk_at "h"))
  | ((with_reducible refine' is2_list ?ga ?gb ?_); (case ga => walk_at "h"); (case gb => walk_at "h"))
  | ((with_reducible refine' is_tuple_list ?gh ?_); (case gh => walk_at "h"))
  | ((with_reducible refine' is_tuple_tuple ?gh ?_); (case gh => walk_at "h"))
  | ((with_reducible refine' is_tuple_dict ?gh ?_); (case gh => walk_at "h"))
  | ((with_reducible refine' is_tuple_int ?gh ?_); (case gh => walk_at "h"))
  | ((with_reducible refine' is_tuple_bool ?gh ?_); (case gh => walk_at "h"))
  | ((with_reducible refine' is_tuple_str ?gh ?_); (case gh => walk_at "h"))
  | ((with_reducible refine' is2_tuple ?ga ?gb ?_); (case ga => walk_at "h"); (case gb => walk_at "h"))
  | ((with_reducible refine' is_dict_list ?gh ?_); (case gh => walk_at "h"))
  | ((with_reducible refine' is_dict_tuple ?gh ?_); (case gh => walk_at "h"))
  | ((with_reducible refine' is_dict_dict ?gh ?_); (case gh => walk_at "h"))
  | ((with_reducible refine' is_dict_int ?gh ?_); (case gh => walk_at "h"))
  | ((with_reducible refine' is_dict_bool ?gh ?_); (case gh => walk_at "h"))
  | ((with_reducible refine' is_dict_str ?gh ?_); (case gh => walk_at "h"))
  | ((with_reducible refine' is2_dict ?ga ?gb ?_); (case ga => walk_at "h"); (case gb => walk_at "h")))
local macro_rules | `(tactic| walk_at "g") => `(tactic| first
  | (with_reducible refine g_seq ?_)
  | (with_reducible refine g_asg ?_)
  | ((with_reducible refine g_name ?_); dsimp only [List.set, wipe, List.map])
  | ((with_reducible refine' g_var ?gv ?_); (case gv => exact rfl))
  | (with_reducible refine g_c ?_)
  | (with_reducible refine g_op ?_)
  | (with_reducible refine g_cons ?_)
  | (with_reducible refine g_nil ?_)
  | (with_reducible refine g_cb ?_)
  | (with_reducible refine g_call ?_)
  | (with_reducible refine g_tup ?_)
  | (with_reducible refine g_lst ?_)
  | (with_reducible refine g_bm ?_)
  | (with_reducible refine g_bm0 ?_)
  | ((with_reducible refine' g_kbm ?gh ?_); (case gh => walk_at "h"))
  | (with_reducible refine g_drop ?_)
  | (with_reducible refine g_ret ?_)
  | (with_reducible refine g_retN ?_)
  | (with_reducible refine g_next ?_)
  | (with_reducible refine g_brk ?_)
  | (with_reducible refine g_cont ?_)
  | (with_reducible refine g_if ?_)
  | ((with_reducible refine' g_aug ?gv ?_); (case gv => exact rfl))
  | (with_reducible refine g_ipI ?_)
  | (with_reducible refine g_test ?_)
  | (with_reducible refine g_tB ?_)
  | (with_reducible refine g_kB ?_)
  | (with_reducible refine g_not ?_)
  | (with_reducible refine g_and ?_)
  | (with_reducible refine g_or ?_)
  | (with_reducible refine g_andV ?_)
  | (with_reducible refine g_orV ?_)
  | (with_reducible refine g_notV ?_)
  | (with_reducible refine g_ifE ?_)
  | (with_reducible refine g_addI ?_)
  | (with_reducible refine g_rI0 ?_)
  | (with_reducible refine g_eqI ?_)
  | (with_reducible refine g_eqS ?_)
  | (with_reducible refine g_neI ?_)
  | (with_reducible refine g_neS ?_)
  | (with_reducible refine g_isN ?_)
  | (with_reducible refine g_notN ?_)
  | (with_reducible refine g_int ?_)
  | (with_reducible refine g_max2 ?_)
  | (with_reducible refine g_min2 ?_)
  | ((with_reducible refine' g_lenL ?gh ?_); (case gh => walk_at "h"))
  | (with_reducible refine g_sub ?_)
  | (with_reducible refine g_gcons ?_)
  | (with_reducible refine g_gnil ?_)
  | (with_reducible refine g_un ?_)
  | (with_reducible refine g_rU ?_)
  | (with_reducible refine g_forL ?_)
  | (with_reducible refine g_forS ?_)
  | (with_reducible refine g_forR1 ?_)
  | (with_reducible refine g_forR2 ?_)
  | (with_reducible refine g_forR3 ?_)
  | (with_reducible refine g_lcL ?_)
  | (with_reducible refine g_lcR1 ?_)
  | (with_reducible refine g_lcR2 ?_)
  | (with_reducible refine g_slice ?_)
  | (with_reducible refine g_part ?_)
  | (with_reducible refine g_kOI ?_)
  | (with_reducible refine g_nopart ?_)
  | (with_reducible refine g_yes ?_)
  | ((with_reducible refine' g_wipe ?gv ?_); (case gv => exact rfl))
  | (with_reducible refine iteT ?_)
  | (with_reducible refine iteF ?_)
  | (with_reducible refine i_nf ?_)
  | (with_reducible refine i_nt ?_)
  | ((with_reducible refine' g_gtup ?gh ?gl ?_); (case gh => walk_at "h"); (case gl => exact rfl))
  | ((with_reducible refine' g_notinI ?gh ?_); (case gh => walk_at "h"))
  | ((with_reducible refine' g_inI ?gh ?_); (case gh => walk_at "h"))
  | ((with_reducible refine' g_kget2 ?gh ?_); (case gh => walk_at "h"))
  | ((with_reducible refine' g_kgotI ?gh ?_); (case gh => walk_at "h"))
  | (with_reducible refine g_tRev ?_)
  | (with_reducible refine g_neB ?_)
  | (with_reducible refine g_eqB ?_)
  | ((with_reducible refine' g_lenT ?gh ?_); (case gh => walk_at "h"))
  | (with_reducible refine g_star ?_)
  | ((with_reducible refine' g_kstarL ?gh ?_); (case gh => walk_at "h"))
  | ((with_reducible refine' g_kstarT ?gh ?_); (case gh => walk_at "h"))
  | (with_reducible refine g_tru ?_)
  | ((with_reducible refine' g_truL ?gh ?_); (case gh => walk_at "h"))
  | (with_reducible refine g_get2 ?_)
  | (with_reducible refine g_try ?_)
  | (with_reducible refine g_fld ?_)
  | (with_reducible refine g_sfld ?_)
  | (with_reducible refine g_meth ?_)
  | (with_reducible refine g_make ?_)
  | (with_reducible refine g_del ?_)
  | (with_reducible refine g_callS ?_)
  | (with_reducible refine g_raise ?_)
  | (with_reducible refine g_xf ?_)
  | (with_reducible refine g_m0 ?_)
  | (with_reducible refine g_km0 ?_)
  | walk_at "is")
local macro_rules | `(tactic| walk_at "gg") => `(tactic| repeat walk_at "g")
local macro_rules | `(tactic| walk_at "sz") => `(tactic| (refine sz ?_; simp only [List.length_cons, List.length_nil, List.length_map, List.length_append, List.length_replicate]; omega))
local macro_rules | `(tactic| walk_at "sub") => `(tactic| ((repeat (first | exact List.Sublist.slnil | with_reducible apply List.Sublist.cons_cons | with_reducible apply List.Sublist.cons)); done))

local macro_rules | `(tactic| walk_at "g") => `(tactic| first
  | (with_reducible refine g_dcL ?_)
  | (with_reducible refine g_dcT ?_)
  | (with_reducible refine g_m1s ?_)
  | (with_reducible refine g_km1s ?_)
  | (with_reducible refine g_starts ?_)
  | (with_reducible refine g_tryX ?_)
  | (with_reducible refine g_lcS ?_))

local macro_rules | `(tactic| walk_at "g") => `(tactic| first
  | (with_reducible refine g_lcRv ?_)
  | (with_reducible refine g_dpop1 ?_))

/-! ### the puts that are due -/
theorem sh_oxD {A : Tr} (h : okTr A) (z : Str) : SeqAt.shaped (oxD (getT A z)) = true := by
  have ok := okO_get h z
  cases e : getT A z with
  | none => rfl
  | some t =>
    rw [e] at ok
    exact (Sh.strs (n := 0) (ok t rfl)).ok (by decide)
section
variable {P : Program} {w : World} {K : PySem.W.Frag} {mg : Str → Option Value} {base : Heap}
def sp_l_between (K : PySem.W.Frag) : Sp := fun vs H Q _ => ∃ (a b : Addr) (A B : Tr), vs = [.ref a, .ref b] ∧ TrAt H a A ∧ TrAt H b B ∧ A.length ≤ 4 ∧ B.length ≤ 4 ∧ okTr A ∧ okTr B ∧
  ∀ p F H' ws us, Same H F → Has F [(p, .lst ws)] H' → Both A B us → us.length ≤ 8 → DqAll F ws ((putL (chgL A B us)).map pD) → Q (.ref p) H'
theorem sp_l_between_len {vs H Q E} (h : sp_l_between K vs H Q E) : vs.length = 2 := by
  obtain ⟨_, _, _, _, rfl, _⟩ := h
  rfl
set_option maxHeartbeats 1000000 in
theorem ok_l_between (T : Txt K mg) : FnOk P w K mg base CX0 2 T.f_l_between T.fd_l_between ["old", "new"] (sp_l_between K) := by
  refine T.F_l_between.ok sc_l_between (fun vs H Q E h => sp_l_between_len h) (fun cdv A outer s H vs Q E hr h => ?_)
  refine ⟨_, (pss_cons (ps_set (i := 2) sc_l_between.nd rfl (.inl rfl) (pe_lst pa_nil))
      (pss_cons (ps_for PassesOwn.never rfl (k_il K (pi_list (pe_callB (cr_sortN K P w rfl (cr_sortA K rfl)) (by rfl) T.m_sorted (by decide +kernel) (pa_cons (pe_op (op_addK K) (pe_callTy (cr_listD rfl) (by rfl) T.m_list (by decide +kernel) (pa_cons (pv 0) pa_nil)) (pe_lock (pe_lc (own := [("one", 4)]) (g := gName 4) rfl sc_l_between.nd (pi_keys (pv 1)) (blkOk_by (N := n_l_between) (sc := defScope s_l_between) (by decide +kernel)) (fun _ _ _ _ _ => (pg_name (i := 4) sc_l_between.nd rfl (.inl rfl))) (fun _ _ _ _ _ => (pts_one (pt_cmpR (op_notinN K P w hr.units (u65 hr)) (pv 4) (pv 0) (by rfl)))) (fun _ _ _ _ _ => (pv 4))))) pa_nil)))) (pg_name (i := 3) sc_l_between.nd rfl (.inl rfl)) (pss_one (ps_if (pt_cmpR (op_neK K hr.units) (pe_dget1 (hu_of hr) (pv 0) (pv 3) ⟨rfl, rfl, rfl, rfl⟩) (pe_dget1 (hu_of hr) (pv 1) (pv 3) ⟨rfl, rfl, rfl, rfl⟩) (nomark _)) (pss_one (ps_expr (k_bm K (pe_bm PySem.F.plainAttrs_list PySem.F.slot_list_append PySem.F.type_list_append mt_append (pv 2) (pa_cons (pe_tup (pa_cons (pv 3) (pa_cons (pe_call (ok_l_row T) (hr.mono (by decide)) (by rfl) T.g_l_row T.F_l_row.kp T.b_l_row .nil pass0 (pa_cons (pe_dget1 (hu_of hr) (pv 1) (pv 3) ⟨rfl, rfl, rfl, rfl⟩) pa_nil)) pa_nil))) pa_nil))))) pss_nil)))
      (pss_one (ps_ret (pv 2))))), ?_⟩
  obtain ⟨a, b, A, B, rfl, ta, tb, lA, lB, okA, okB, q⟩ := h
  have hH := Has.start H
  obtain ⟨ka, ha, eka, nda, dqa⟩ := id ta
  obtain ⟨kb, hb, ekb, ndb, dqb⟩ := id tb
  have lka := tr_len eka
  have lkb := tr_len ekb
  refine g_start (σ' := [some (.ref a), some (.ref b), none, none, none]) rfl ?_
  walk_at "gg"
  refine g_klst (by walk_at "sz") hH (fun c H0 n0 h0 => ?_)
  walk_at "gg"
  refine g_listD (h0.same _ _ ha) h0 (fun p1 H1 n1 h1 => ?_)
  rw [tr_keys eka] at h1
  walk_at "gg"
  refine k_lcDK rfl hb h1 (fun t acc F' O' => ∃ zs : List Str, acc = zs.map V.str ∧ zs.Sublist ((B.take t).map (·.1)) ∧ (∀ z, z ∈ zs ↔ z ∈ (B.take t).map (·.1) ∧ z ∉ A.map (·.1)) ∧ H = F' ∧ O' = [(p1, .lst ((A.map (·.1)).map V.str)), (c, .lst [])]) ⟨[], rfl, List.Sublist.refl _, by simp, rfl, rfl⟩ ?_ ?_
  · rintro t k v acc F' O' D H2 od ekv ⟨zs, rfl, sl, mz, rfl, rfl⟩ fd hh
    obtain ⟨p, ep, rfl⟩ := tr_key ekb ekv
    obtain ⟨kv2, rd, ek2, _, dq2⟩ := (RT.lock (od := od) fd ⟨ka, .inl ha, eka, nda, dqa⟩).up hh.same
    obtain ⟨g1, g2⟩ := tr_get p.1 ek2 dq2
    have eG : (upd H b (.frz od (.dK kb))) b = some (.frz od (.dK kb)) := upd_same
    have eU : upd (upd H b (.frz od (.dK kb))) b (.dK kb) = H := by rw [upd_upd, upd_eta fd]
    have lt := (List.getElem?_eq_some_iff.mp ep).1
    have lz : zs.length ≤ t := by
      have := sl.length_le
      rw [List.length_map, List.length_take] at this
      omega
    have tk : (B.take (t + 1)).map (·.1) = (B.take t).map (·.1) ++ [p.1] := by rw [List.take_add_one, ep, List.map_append]; rfl
    walk_at "gg"
    refine g_notinNM (g_notinM (g_notinSR rd ?_))
    rw [g2]
    walk_at "gg"
    cases eg : getT A p.1 with
    | none =>
      have no := getT_none.mp eg
      rw [if_pos (show (!(none : Option Tx).isSome) = true from rfl)]
      walk_at "gg"
      refine k_turn hh (by rw [List.length_map]; omega) (lk_turn eG ⟨zs ++ [p.1], by rw [List.map_append]; rfl, by rw [tk]; exact sl.append (List.Sublist.refl _), fun z => ?_, eU.symm, rfl⟩)
      rw [tk, List.mem_append, List.mem_append, List.mem_singleton, mz]
      constructor
      · rintro (⟨h, h2⟩ | rfl)
        · exact ⟨.inl h, h2⟩
        · exact ⟨.inr rfl, no⟩
      · rintro ⟨h | rfl, h2⟩
        · exact .inl ⟨h, h2⟩
        · exact .inr rfl
    | some x =>
      have yes : p.1 ∈ A.map (·.1) := List.mem_map.mpr ⟨_, getT_mem eg, rfl⟩
      rw [if_neg (show ¬ (!(some x : Option Tx).isSome) = true by simp)]
      refine k_skip hh (lk_turn eG ⟨zs, rfl, by rw [tk]; exact sl.trans (List.sublist_append_left _ _), fun z => ?_, eU.symm, rfl⟩)
      rw [tk, mz, List.mem_append, List.mem_singleton]
      constructor
      · rintro ⟨h, h2⟩
        exact ⟨.inl h, h2⟩
      · rintro ⟨h | rfl, h2⟩
        · exact ⟨h, h2⟩
        · exact (h2 yes).elim
  rintro acc F2 O2 D H2 ⟨zs, rfl, sl, mz, rfl, rfl⟩ h2
  rw [lkb, List.take_length] at sl mz
  have lz : zs.length ≤ 4 := by
    have := sl.length_le
    rw [List.length_map] at this
    omega
  walk_at "gg"
  refine g_addL (h2.get (by walk_at "m")) (h2.get (List.Mem.head _)) (sz (by rw [List.length_map, List.length_map, List.length_map]; omega)) h2 (fun p3 H3 n3 h3 => ?_)
  rw [← List.map_append] at h3
  walk_at "gg"
  refine g_sortNA (g_sortS (h3.get (List.Mem.head _)) (by rw [List.length_append, List.length_map]; omega) h3 (fun us sl5 H5 pm srt n5 h5 => ?_))
  have ndz : (A.map (·.1) ++ zs).Nodup := by
    rw [List.nodup_append]
    exact ⟨nda, sl.nodup ndb, fun x hx y hy e => ((mz y).mp hy).2 (by rw [← e]; exact hx)⟩
  have lus := pm.length_eq
  rw [List.length_append, List.length_map] at lus
  have bo : Both A B us := ⟨asc_of srt (pm.nodup_iff.mpr ndz), fun z => by
    rw [pm.mem_iff, List.mem_append, mz]
    constructor
    · rintro (h | ⟨h, _⟩)
      · exact .inl h
      · exact .inr h
    · rintro (h | h)
      · exact .inl h
      · by_cases c : z ∈ A.map (·.1)
        · exact .inl c
        · exact .inr ⟨h, c⟩⟩
  have h6 := h5.sub (O' := [(sl5, .lst (us.map V.str)), (c, .lst [])]) (by walk_at "sub")
  have nn : ∀ z, (getT A z = getT B z) ∨ putL (if getT A z = getT B z then [] else [(z, getT A z, getT B z)]) = [(z, getT B z)] := fun z => by
    by_cases h : getT A z = getT B z
    · exact .inl h
    · right
      rw [if_neg h]
      rfl
  refine k_forL (h6.get (List.Mem.head _)) (fun t σ H' => ∃ (y4 : Option V) (F : Hp) (ws : List V), σ = [some (.ref a), some (.ref b), some (.ref c), y4, none] ∧ Same H F ∧ Has F [(sl5, .lst (us.map V.str)), (c, .lst ws)] H' ∧ DqAll F ws ((putL (chgL A B (us.take t))).map pD)) ⟨_, H, [], rfl, Same.refl _, h6, .nil⟩ ?_ ?_ ?_
  · rintro t σ H' _ ⟨y3, F, ws, rfl, _, h, _⟩
    exact h.get (List.Mem.head _)
  · rintro t x σ H6 hx ⟨y3, F, ws, rfl, sF, h6, dw⟩
    obtain ⟨z, hz, rfl⟩ := str_at hx
    have tk : us.take (t + 1) = us.take t ++ [z] := by rw [List.take_add_one, hz]; rfl
    have lw : ws.length ≤ us.length := by
      have h1 := dw.len
      have h2 := chgL_len A B (us.take t)
      unfold putL at h1
      rw [List.length_map, List.length_map] at h1
      rw [List.length_take] at h2
      omega
    have sH := sF.trans h6.same
    walk_at "gg"
    refine g_get1 ?_
    walk_at "gg"
    refine g_kget1 (sH _ _ ha) ?_
    walk_at "gg"
    refine g_kgotS (sH _ _ ha) ?_
    walk_at "gg"
    refine g_get1 ?_
    walk_at "gg"
    refine g_kget1 (sH _ _ hb) ?_
    walk_at "gg"
    refine g_kgotS (sH _ _ hb) ?_
    refine g_neD ((tr_get z eka dqa).1.up sH _ _) ((tr_get z ekb dqb).1.up sH _ _) (sh_oxD okA z) (sh_oxD okB z) ?_
    rw [eqv_oxD]
    walk_at "gg"
    refine i_n (fun ne => ?_) (fun e => ?_)
    · walk_at "gg"
      refine g_get1 ?_
      walk_at "gg"
      refine g_kget1 (sH _ _ hb) ?_
      walk_at "gg"
      refine g_kgotS (sH _ _ hb) ?_
      walk_at "gg"
      refine ⟨_, getT B z, rfl, (tr_get z ekb dqb).1.up sH _ _, fun v H7 s7 fv => ?_⟩
      obtain ⟨F7, sF7, h7, dv⟩ := Has.frT h6 s7 fv
      walk_at "gg"
      refine g_ktupF (by walk_at "sz") h7 (fun p9 H9 F9 n9 s9 f9 h9 => ?_)
      walk_at "gg"
      refine g_append h9 (.tl .hd) (szl (by omega)) (fun H10 h10 => ?_)
      walk_at "gg"
      refine ⟨_, F9, _, rfl, sF.trans (sF7.trans s9), h10, ?_⟩
      rw [tk, chgL_snoc, if_neg (by simpa using ne)]
      unfold putL at dw ⊢
      rw [List.map_append, List.map_append]
      exact (dw.up (sF7.trans s9) _ _).snoc (.tup f9 (.cons (.str z) (.cons (dv.up s9 _ _) .nil)))
    · walk_at "gg"
      refine ⟨_, F, ws, rfl, sF, h6, ?_⟩
      rw [tk, chgL_snoc, if_pos (by simpa using e), List.append_nil]
      exact dw
  · rintro σ H6 ⟨y3, F, ws, rfl, sF, h6, dw⟩
    rw [List.length_map, List.take_length] at dw
    walk_at "gg"
    exact q c F H6 ws us sF h6.drop bo (by omega) dw
end

end K07

namespace K07
open PySem PySem.Spec PyProof.Rows L2 Qk
local macro_rules | `(tactic| walk_at "m") => `(tactic| ((repeat (first | exact List.Mem.head _ | apply List.Mem.tail)); done))
local macro_rules | `(tactic| walk_at "h") => `(tactic| first | assumption | exact Has.gF (by assumption) (by assumption) | exact Has.get (by assumption) (by walk_at "m"))
local macro_rules | `(tactic| walk_at "c") => `(tactic| ((repeat (first | exact Chg.hd | apply Chg.tl)); done))
local macro_rules | `(tactic| walk_at "is") => `(tactic| first
  | ((with_reducible refine' is2_non ?gh ?_); (case gh => walk_at "h"))
  | (with_reducible refine is_int_list ?_)
  | (with_reducible refine is_int_tuple ?_)
  | (with_reducible refine is_int_dict ?_)
  | (with_reducible refine is_int_int ?_)
  | (with_reducible refine is_int_bool ?_)
  | (with_reducible refine is_int_str ?_)
  | ((with_reducible refine' is2_int ?gh ?_); (case gh => walk_at "h"))
  | (with_reducible refine is_str_list ?_)
  | (with_reducible refine is_str_tuple ?_)
  | (with_reducible refine is_str_dict ?_)
  | (with_reducible refine is_str_int ?_)
  | (with_reducible refine is_str_bool ?_)
  | (with_reducible refine is_str_str ?_)
  | ((with_reducible refine' is2_str ?gh ?_); (case gh => walk_at "h"))
  | (with_reducible refine is_bool_list ?_)
  | (with_reducible refine is_bool_tuple ?_)
  | (with_reducible refine is_bool_dict ?_)
  | (with_reducible refine is_bool_int ?_)
  | (with_reducible refine is_bool_bool ?_)
  | (with_reducible refine is_bool_str ?_)
  | ((with_reducible refine' is2_bool ?gh ?_); (case gh => walk_at "h"))
  | ((with_reducible refine' is_list_list ?gh ?_); (case gh => walk_at "h"))
  | ((with_reducible refine' is_list_tuple ?gh ?_); (case gh => walk_at "h"))
  | ((with_reducible refine' is_list_dict ?gh ?_); (case gh => walk_at "h"))
  | ((with_reducible refine' is_list_int ?gh ?_); (case gh => walk_at "h"))
  | ((with_reducible refine' is_list_bool ?gh ?_); (case gh => walk_at "h"))
  | ((with_reducible refine' is_list_str ?gh ?_); (case gh => walk_at "h"))
  | ((with_reducible refine' is2_list ?ga ?gb ?_); (case ga => walk_at "h"); (case gb => walk_at "h"))
  | ((with_reducible refine' is_tuple_list ?gh ?_); (case gh => walk_at "h"))
  | ((with_reducible refine' is_tuple_tuple ?gh ?_); (case gh => walk_at "h"))
  | ((with_reducible refine' is_tuple_dict ?gh ?_); (case gh => walk_at "h"))
  | ((with_reducible refine' is_tuple_int ?gh ?_); (case gh => walk_at "h"))
  | ((with_reducible refine' is_tuple_bool ?gh ?_); (case gh => walk_at "h"))
  | ((with_reducible refine' is_tuple_str ?gh ?_); (case gh => walk_at "h"))
  | ((with_reducible refine' is2_tuple ?ga ?gb ?_); (case ga => walk_at "h"); (case gb => walk_at "h"))
  | ((with_reducible refine' is_dict_list ?gh ?_); (case gh => walk_at "h"))
  | ((with_reducible refine' is_dict_tuple ?gh ?_); (case gh => walk_at "h"))
  | ((with_reducible refine' is_dict_dict ?gh ?_); (case gh => walk_at "h"))
  | ((with_reducible refine' is_dict_int ?gh ?_); (case gh => walk_at "h"))
  | ((with_reducible refine' is_dict_bool ?gh ?_); (case gh => walk_at "h"))
  | ((with_reducible refine' is_dict_str ?gh ?_); (case gh => walk_at "h"))
  | ((with_reducible refine' is2_dict ?ga ?gb ?_); (case ga => walk_at "h"); (case gb => walk_at "h")))
local macro_rules | `(tactic| walk_at "g") => `(tactic| first
  | (with_reducible refine g_seq ?_)
  | (with_reducible refine g_asg ?_)
  | ((with_reducible refine g_name ?_); dsimp only [List.set, wipe, List.map])
  | ((with_reducible refine' g_var ?gv ?_); (case gv => exact rfl))
  | (with_reducible refine g_c ?_)
  | (with_reducible refine g_op ?_)
  | (with_reducible refine g_cons ?_)
  | (with_reducible refine g_nil ?_)
  | (with_reducible refine g_cb ?_)
  | (with_reducible refine g_call ?_)
  | (with_reducible refine g_tup ?_)
  | (with_reducible refine g_lst ?_)
  | (with_reducible refine g_bm ?_)
  | (with_reducible refine g_bm0 ?_)
  | ((with_reducible refine' g_kbm ?gh ?_); (case gh => walk_at "h"))
  | (with_reducible refine g_drop ?_)
  | (with_reducible refine g_ret ?_)
  | (with_reducible refine g_retN ?_)
  | (with_reducible refine g_next ?_)
  | (with_reducible refine g_brk ?_)
  | (with_reducible refine g_cont ?_)
  | (with_reducible refine g_if ?_)
  | ((with_reducible refine' g_aug ?gv ?_); (case gv => exact rfl))
  | (with_reducible refine g_ipI ?_)
  | (with_reducible refine g_test ?_)
  | (with_reducible refine g_tB ?_)
  | (with_reducible refine g_kB ?_)
  | (with_reducible refine g_not ?_)
  | (with_reducible refine g_and ?_)
  | (with_reducible refine g_or ?_)
  | (with_reducible refine g_andV ?_)
  | (with_reducible refine g_orV ?_)
  | (with_reducible refine g_notV ?_)
  | (with_reducible refine g_ifE ?_)
  | (with_reducible refine g_addI ?_)
  | (with_reducible refine g_rI0 ?_)
  | (with_reducible refine g_eqI ?_)
  | (with_reducible refine g_eqS ?_)
  | (with_reducible refine g_neI ?_)
  | (with_reducible refine g_neS ?_)
  | (with_reducible refine g_isN ?_)
  | (with_reducible refine g_notN ?_)
  | (with_reducible refine g_int ?_)
  | (with_reducible refine g_max2 ?_)
  | (with_reducible refine g_min2 ?_)
  | ((with_reducible refine' g_lenL ?gh ?_); (case gh => walk_at "h"))
  | (with_reducible refine g_sub ?_)
  | (with_reducible refine g_gcons ?_)
  | (with_reducible refine g_gnil ?_)
  | (with_reducible refine g_un ?_)
  | (with_reducible refine g_rU ?_)
  | (with_reducible refine g_forL ?_)
  | (with_reducible refine g_forS ?_)
  | (with_reducible refine g_forR1 ?_)
  | (with_reducible refine g_forR2 ?_)
  | (with_reducible refine g_forR3 ?_)
  | (with_reducible refine g_lcL ?_)
  | (with_reducible refine g_lcR1 ?_)
  | (with_reducible refine g_lcR2 ?_)
  | (with_reducible refine g_slice ?_)
  | (with_reducible refine g_part ?_)
  | (with_reducible refine g_kOI ?_)
  | (with_reducible refine g_nopart ?_)
  | (with_reducible refine g_yes ?_)
  | ((with_reducible refine' g_wipe ?gv ?_); (case gv => exact rfl))
  | (with_reducible refine iteT ?_)
  | (with_reducible refine iteF ?_)
  | (with_reducible refine i_nf ?_)
  | (with_reducible refine i_nt ?_)
  | ((with_reducible refine' g_gtup ?gh ?gl ?_); (case gh => walk_at "h"); (case gl => exact rfl))
  | ((with_reducible refine' g_notinI ?gh ?_); (case gh => walk_at "h"))
  | ((with_reducible refine' g_inI ?gh ?_); (case gh => walk_at "h"))
  | ((with_reducible refine' g_kget2 ?gh ?_); (case gh => walk_at "h"))
  | ((with_reducible refine' g_kgotI ?gh ?_); (case gh => walk_at "h"))
  | (with_reducible refine g_tRev ?_)
  | (with_reducible refine g_neB ?_)
  | (with_reducible refine g_eqB ?_)
  | ((with_reducible refine' g_lenT ?gh ?_); (case gh => walk_at "h"))
  | (with_reducible refine g_star ?_)
  | ((with_reducible refine' g_kstarL ?gh ?_); (case gh => walk_at "h"))
  | ((with_reducible refine' g_kstarT ?gh ?_); (case gh => walk_at "h"))
  | (with_reducible refine g_tru ?_)
  | ((with_reducible refine' g_truL ?gh ?_); (case gh => walk_at "h"))
  | (with_reducible refine g_get2 ?_)
  | (with_reducible refine g_try ?_)
  | (with_reducible refine g_fld ?_)
  | (with_reducible refine g_sfld ?_)
  | (with_reducible refine g_meth ?_)
  | (with_reducible refine g_make ?_)
  | (with_reducible refine g_del ?_)
  | (with_reducible refine g_callS ?_)
  | (with_reducible refine g_raise ?_)
  | (with_reducible refine g_xf ?_)
  | (with_reducible refine g_m0 ?_)
  | (with_reducible refine g_km0 ?_)
  | walk_at "is")
local macro_rules | `(tactic| walk_at "gg") => `(tactic| repeat walk_at "g")
local macro_rules | `(tactic| walk_at "sz") => `(tactic| (refine sz ?_; simp only [List.length_cons, List.length_nil, List.length_map, List.length_append, List.length_replicate]; omega))
local macro_rules | `(tactic| walk_at "sub") => `(tactic| ((repeat (first | exact List.Sublist.slnil | with_reducible apply List.Sublist.cons_cons | with_reducible apply List.Sublist.cons)); done))

local macro_rules | `(tactic| walk_at "g") => `(tactic| first
  | (with_reducible refine g_dcL ?_)
  | (with_reducible refine g_dcT ?_)
  | (with_reducible refine g_m1s ?_)
  | (with_reducible refine g_km1s ?_)
  | (with_reducible refine g_starts ?_)
  | (with_reducible refine g_tryX ?_)
  | (with_reducible refine g_lcS ?_))

local macro_rules | `(tactic| walk_at "g") => `(tactic| first
  | (with_reducible refine g_lcRv ?_)
  | (with_reducible refine g_dpop1 ?_))

local macro_rules | `(tactic| walk_at "g") => `(tactic| (with_reducible refine g_tryM ?_))

/-! ### what stands still, comparisons -/
theorem cutV_but (ws : List V) (x : V) : cutV (ws ++ [x]) none (some (-1)) = ws := by
  unfold cutV
  rw [HT.sIx_none, List.drop_zero]
  have e : HT.sIx (ws ++ [x]).length (ws ++ [x]).length (some (-1)) = ws.length := by
    show (if (-1 : Int) < 0 then ((-1 : Int) + (((ws ++ [x]).length : Nat) : Int)).toNat else min (-1 : Int).toNat (ws ++ [x]).length) = ws.length
    rw [if_pos (by decide), List.length_append, List.length_singleton]
    omega
  rw [e, Nat.sub_zero, List.take_left]
theorem Sm.ot {H : Hp} {n : Nat} {x y : V} {o : Option Tx} (dx : Dq H x (otD o)) (dy : Dq H y (otD o)) (l : ∀ t, o = some t → t.length ≤ 50) : Sm H (n + 2) x y := by
  cases o with
  | none =>
    have e1 := dx.non_inv
    have e2 := dy.non_inv
    subst e1
    subst e2
    exact Sm.non
  | some t =>
    cases dx with
    | tup h1 d1 =>
      cases dy with
      | tup h2 d2 =>
        rw [DqAll.of_strs d1] at h1
        rw [DqAll.of_strs d2] at h2
        refine .inr (.inr (.inr (.inl ⟨_, _, _, _, rfl, rfl, .inr ⟨h1, h2⟩, rfl, by rw [List.length_map]; have := l t rfl; omega, fun i u v hu hv => ?_⟩)))
        rw [hu] at hv
        injection hv with hv
        subst hv
        rw [List.getElem?_map] at hu
        obtain ⟨z, _, rfl⟩ := Option.map_eq_some_iff.mp hu
        exact .inr (.inr (.inl ⟨z, rfl, rfl⟩))
/-- no tuples among these -/
def NoTup (F : Hp) (O : Own) : Prop := ∀ p ∈ O, ∀ ws, F p.1 ≠ some (.tup ws)
theorem rmO_keep {F : Hp} {O : Own} {a : Addr} {o : HO} (h : F a = some o) (n : a ∉ O.map (·.1)) : rmO O F a = some o := by
  unfold rmO
  rw [if_neg n]
  exact h
theorem NoTup.at_ {F : Hp} {O : Own} (n : NoTup F O) {a : Addr} {ws : List V} (h : F a = some (.tup ws)) : rmO O F a = some (.tup ws) := rmO_keep h fun m => by
  obtain ⟨p, hp, rfl⟩ := List.mem_map.mp m
  exact n p hp ws h
theorem NoTup.ot {F : Hp} {O : Own} (n : NoTup F O) {v : V} {o : Option Tx} (h : Dq F v (otD o)) : Dq (rmO O F) v (otD o) := by
  cases o with
  | none =>
    have e := h.non_inv
    subst e
    exact .non
  | some t =>
    cases h with
    | tup h1 d1 =>
      have e := DqAll.of_strs d1
      subst e
      exact .tup (n.at_ h1) (DqAll.strs t)
def NoT (O : Own) : Prop := ∀ p ∈ O, ∀ ws, p.2 ≠ HO.tup ws
theorem noT_tree (d : Addr) (B : Bt) : NoT ((d, .dK (bK B)) :: bO B) := fun p hp ws => by
  rcases List.mem_cons.mp hp with rfl | hp
  · intro e
    cases e
  · obtain ⟨b, _, rfl⟩ := List.mem_map.mp hp
    intro e
    cases e
theorem NoT.app {O N : Own} (h : NoT O) (k : NoT N) : NoT (O ++ N) := fun p hp => (List.mem_append.mp hp).elim (h p) (k p)
theorem NoT.lst {O : Own} {p : Addr} {xs : List V} (h : NoT O) : NoT ((p, .lst xs) :: O) := fun q hq ws => by
  rcases List.mem_cons.mp hq with rfl | hq
  · intro e
    cases e
  · exact h q hq ws
theorem NoT.no {O : Own} (h : NoT O) {F F0 H : Hp} (hh : Has F0 O H) (s : Same H F) : NoTup F O := fun p hp ws e => by
  have := s _ _ (hh.own p hp).2
  rw [this] at e
  injection e with e
  exact h p hp ws e
theorem bA_len (B : Bt) : (bA B).length = B.length := by
  unfold bA
  rw [List.length_map]
def lnT (A : Tr) : Prop := ∀ p ∈ A, p.2.length ≤ 10
theorem eqk06 : PyData.eqv (.list [.bool true, .bool true, .bool false]) (.list [.bool true, .bool true, .bool false]) = true := by decide +kernel
theorem shk06 : SeqAt.shaped (.list [.bool true, .bool true, .bool false]) = true := by decide +kernel
theorem dk06 {H' : Hp} {a : Addr} (h : H' a = some (.lst [V.bl true, V.bl true, V.bl false])) : Dq H' (.ref a) (.list [.bool true, .bool true, .bool false]) := .lst h (.cons (.bl _) (.cons (.bl _) (.cons (.bl _) .nil)))
def lnP (ps : List Pt) : Prop := ∀ p ∈ ps, ∀ t, p.2 = some t → t.length ≤ 50
def ptsD (ps : List Pt) : PyData := .list (ps.map pD)
theorem eqv_pD (p : Pt) : PyData.eqv (pD p) (pD p) = true := by
  unfold pD
  rw [PyData.eqv, PyData.eqvAll, PyData.eqvAll, PyData.eqvAll, PyData.eqv, eqv_otD]
  simp
theorem eqv_pts (ps : List Pt) : PyData.eqv (ptsD ps) (ptsD ps) = true := by
  unfold ptsD
  rw [PyData.eqv]
  exact eqvAll_self fun d hd => by
    obtain ⟨c, _, rfl⟩ := List.mem_map.mp hd
    exact eqv_pD c
def okP (ps : List Pt) : Prop := ∀ p ∈ ps, PyData.strOk p.1 = true ∧ okO p.2
theorem sh_pts {ps : List Pt} (h : okP ps) : SeqAt.shaped (ptsD ps) = true := by
  refine Sh.ok (n := 3) (Sh.list (n := 2) fun d hd => ?_) (by decide)
  obtain ⟨c, hc, rfl⟩ := List.mem_map.mp hd
  refine Sh.tuple (n := 1) fun d hd => ?_
  simp only [List.mem_cons, List.not_mem_nil, or_false] at hd
  rcases hd with rfl | rfl
  · exact Sh.str (h c hc).1
  · exact sh_otD (n := 0) (h c hc).2
theorem neP {K : PySem.W.Frag} {H : Hp} {Q : VK} {a b : Addr} {ws ws' : List V} {ps : List Pt} (ha : H a = some (.lst ws)) (hb : H b = some (.lst ws')) (da : DqAll H ws (ps.map pD)) (db : DqAll H ws' (ps.map pD)) (ok : okP ps) (q : Q (.bl false) H) : rNeA K (.ref a) (.ref b) H Q := by
  refine g_neD (d := ptsD ps) (e := ptsD ps) (.lst ha da) (.lst hb db) (sh_pts ok) (sh_pts ok) ?_
  rw [eqv_pts]
  exact q
theorem Sm.pts {H : Hp} {n : Nat} {a b : Addr} {xs ys : List V} {ps : List Pt} (ha : H a = some (.lst xs)) (hb : H b = some (.lst ys)) (dx : DqAll H xs (ps.map pD)) (dy : DqAll H ys (ps.map pD)) (l : ps.length ≤ 1000) (ln : lnP ps) : Sm H (n + 4) (.ref a) (.ref b) := by
  have lx := dx.len
  have ly := dy.len
  rw [List.length_map] at lx ly
  refine .inr (.inr (.inr (.inl ⟨a, b, xs, ys, rfl, rfl, .inl ⟨ha, hb⟩, by omega, by omega, fun i p q hp hq => ?_⟩)))
  obtain ⟨d, ed, dp⟩ := dx.get hp
  obtain ⟨d', ed', dq⟩ := dy.get hq
  rw [ed] at ed'
  injection ed' with ed'
  subst ed'
  rw [List.getElem?_map] at ed
  obtain ⟨c, ec, rfl⟩ := Option.map_eq_some_iff.mp ed
  obtain ⟨T1, u1, rfl, h1, d1⟩ := pD_inv dp
  obtain ⟨T2, v1, rfl, h2, e1⟩ := pD_inv dq
  have lc := ln c (List.mem_of_getElem? ec)
  refine .inr (.inr (.inr (.inl ⟨T1, T2, _, _, rfl, rfl, .inr ⟨h1, h2⟩, rfl, by show 2 ≤ _; omega, fun i u v hu hv => ?_⟩)))
  match i, hu, hv with
  | 0, hu, hv =>
    cases hu
    cases hv
    exact .inr (.inr (.inl ⟨c.1, rfl, rfl⟩))
  | 1, hu, hv =>
    cases hu
    cases hv
    exact Sm.ot d1 e1 lc
theorem NoTup.pts {F : Hp} {O : Own} (n : NoTup F O) : ∀ {ws : List V} {ps : List Pt}, DqAll F ws (ps.map pD) → DqAll (rmO O F) ws (ps.map pD)
  | [], [], _ => .nil
  | [], _ :: _, h => by cases h
  | _ :: _, [], h => by cases h
  | w :: ws, c :: cs, h => by
    rw [List.map_cons] at h
    cases h with
    | cons h1 h2 =>
      obtain ⟨T, u1, rfl, hT, d1⟩ := pD_inv h1
      exact .cons (.tup (n.at_ hT) (.cons (.str c.1) (.cons (n.ot d1) .nil))) (n.pts h2)
theorem runP_val : ∀ {ps : List Pt} {f : Str → Option Tx} {z : Str} {t : Tx}, runP f ps z = some t → f z = some t ∨ ∃ p ∈ ps, p.2 = some t
  | [], f, z, t, h => .inl h
  | p :: r, f, z, t, h => by
    rcases runP_val (ps := r) (f := upF f p.1 p.2) h with h | ⟨d, hd, e2⟩
    · unfold upF at h
      split at h
      · exact .inr ⟨p, List.mem_cons_self, h⟩
      · exact .inl h
    · exact .inr ⟨d, List.mem_cons_of_mem _ hd, e2⟩

section
variable {P : Program} {w : World} {K : PySem.W.Frag} {mg : Str → Option Value} {base : Heap}
def sp_l_applies (T : Txt K mg) : Sp := fun vs H Q _ => ∃ (a l : Addr) (A : Tr) (ws : List V) (ps : List Pt), vs = [.ref a, .ref l] ∧ TrAt H a A ∧ H l = some (.lst ws) ∧ DqAll H ws (ps.map pD) ∧ A.length ≤ 10 ∧ ps.length ≤ 20 ∧ okTr A ∧ lnT A ∧ PtO ps ∧ lnP ps ∧ ∀ H', Same H H' → Q (.bl true) H'
theorem sp_l_applies_len {T : Txt K mg} {vs H Q E} (h : sp_l_applies T vs H Q E) : vs.length = 2 := by
  obtain ⟨_, _, _, _, _, rfl, _⟩ := h
  rfl
set_option maxHeartbeats 1000000 in
theorem ok_l_applies (T : Txt K mg) : FnOk P w K mg base (L2.CX P w) 7 T.f_l_applies T.fd_l_applies ["tree", "puts"] (sp_l_applies T) := by
  refine Fun.okC T.F_l_applies sc_l_applies (fun vs H Q E h => sp_l_applies_len h) (fun cdv A outer s H vs Q E hr h => ?_)
  refine ⟨_, (pss_cons (ps_set (i := 2) sc_l_applies.nd rfl (.inl rfl) (pe_call (ok_l_first_bad T) (hr.mono (by decide)) (by rfl) T.g_l_first_bad T.F_l_first_bad.kp T.b_l_first_bad .nil pass0 (pa_cons (pv 1) pa_nil)))
      (pss_cons (ps_for (L2.passes_of rfl) rfl (k_il K (pi_list (pe_lst (pa_cons (pe_callTy (cr_listK K) (by rfl) T.m_list (by decide +kernel) (pa_cons (pv 1) pa_nil)) (pa_cons (pe_callTy (cr_tupleK K) (by rfl) T.m_tuple (by decide +kernel) (pa_cons (pv 1) pa_nil)) pa_nil))))) (pg_name (i := 3) sc_l_applies.nd rfl (.inl rfl)) (pss_cons (ps_set (i := 4) sc_l_applies.nd rfl (.inl rfl) (pe_call (ok_l_copy T) (hr.mono (by decide)) (by rfl) T.g_l_copy T.F_l_copy.kp T.b_l_copy .nil pass0 (pa_cons (pv 0) pa_nil)))
      (pss_cons (ps_set (i := 5) sc_l_applies.nd rfl (.inl rfl) pe_non)
      (pss_cons (ps_set (i := 6) sc_l_applies.nd rfl (.inl rfl) (pe_un un_neg pe_int))
      (pss_cons (ps_set (i := 7) sc_l_applies.nd rfl (.inl rfl) (pe_lst (pa_cons pe_bl (pa_cons pe_bl (pa_cons pe_bl pa_nil)))))
      (pss_cons (k_tryC K (i := 8) (Wout := fun _ _ _ _ => False) rfl rfl sc_l_applies.nd rfl rfl takesC (fun W pn xe tk hown => (pss_one (ps_set (i := 5) sc_l_applies.nd rfl (.inl rfl) (pe_callS (ok_put_tree T) (hr.mono (by decide)) (by rfl) T.g_put_tree T.F_put_tree.kp T.b_put_tree (fun σ => L2.passAt tk σ) (pa_cons (pv 4) (pa_cons (pv 3) pa_nil)))))) (ClausesC.cons ⟨rfl, by decide, Or.inl T.g_BadPut⟩ (fun a oe cls d pn hz hf => (pss_cons (ps_set (i := 6) sc_l_applies.nd rfl (.inl rfl) (pe_xfA K hz hf (pv 8)))
      (pss_one (ps_set (i := 7) sc_l_applies.nd rfl (.inl rfl) (pe_lst (pa_cons (pe_callB (cr_isX K hz hf) (by rfl) T.m_isinstance (by decide +kernel) (pa_cons (pv 8) (pa_cons (pe_gc (v := .ref T.C_PartError) (by rfl) ⟨_, T.g_PartError, rfl⟩) pa_nil))) (pa_cons (pe_callB (cr_isX K hz hf) (by rfl) T.m_isinstance (by decide +kernel) (pa_cons (pv 8) (pa_cons (pe_bltn (v := .ty "ValueError") (by rfl) T.m_ValueError (by decide +kernel) rfl) pa_nil))) (pa_cons (pe_callB (cr_isX K hz hf) (by rfl) T.m_isinstance (by decide +kernel) (pa_cons (pv 8) (pa_cons (pe_gc (v := .ref T.C_BadTree) (by rfl) ⟨_, T.g_BadTree, rfl⟩) pa_nil))) pa_nil)))))))) .nil))
      (pss_cons (ps_if (PW.pt (pw_or (pt_not (pt_val (pe_call (ok_l_same T) (hr.mono (by decide)) (by rfl) T.g_l_same T.F_l_same.kp T.b_l_same .nil pass0 (pa_cons (pv 6) (pa_cons (pv 2) pa_nil))))) (pw_or1 (pt_cmpR (op_neK K hr.units) (pv 7) (pe_lst (pa_cons pe_bl (pa_cons pe_bl (pa_cons pe_bl pa_nil)))) (nomark _))))) (pss_one (ps_ret pe_bl)) pss_nil)
      (pss_cons (ps_if (PW.pt (pw_and (pt_cmpR op_lt (pv 2) pe_int (nomark _)) (pw_and1 (pt_not (pt_val (pe_call (ok_l_same T) (hr.mono (by decide)) (by rfl) T.g_l_same T.F_l_same.kp T.b_l_same .nil pass0 (pa_cons (pv 5) (pa_cons (pe_call (ok_l_put T) (hr.mono (by decide)) (by rfl) T.g_l_put T.F_l_put.kp T.b_l_put .nil pass0 (pa_cons (pv 0) (pa_cons (pv 1) pa_nil))) pa_nil)))))))) (pss_one (ps_ret pe_bl)) pss_nil)
      (pss_cons (ps_if (pt_cmpR op_lt (pv 2) pe_int (nomark _)) (pss_one (ps_expr (pe_call (ok_l_spoil T) (hr.mono (by decide)) (by rfl) T.g_l_spoil T.F_l_spoil.kp T.b_l_spoil .nil pass0 (pa_cons (pv 5) pa_nil)))) pss_nil)
      (pss_one (ps_if (PW.pt (pw_or (pt_not (pt_val (pe_call (ok_l_kept T) (hr.mono (by decide)) (by rfl) T.g_l_kept T.F_l_kept.kp T.b_l_kept .nil pass0 (pa_cons (pv 4) (pa_cons (pv 0) pa_nil))))) (pw_or1 (pt_cmpR (op_neK K hr.units) (pe_callTy (cr_listK K) (by rfl) T.m_list (by decide +kernel) (pa_cons (pv 3) pa_nil)) (pv 1) (nomark _))))) (pss_one (ps_ret pe_bl)) pss_nil)))))))))))
      (pss_one (ps_ret pe_bl)))), ?_⟩
  obtain ⟨a, l, A, ws, ps, rfl, ta, hl, dw, lA, lp, okA, lnA, pto, lnp, q⟩ := h
  have nd : (A.map (·.1)).Nodup := by
    obtain ⟨_, _, _, n, _⟩ := ta
    exact n
  have lw := dw.len
  rw [List.length_map] at lw
  have okp : okP ps := fun p hp => ⟨(pto p hp).1.2, fun t e z hz => (((pto p hp).2 t e).2 z hz).2⟩
  have pb : PtB ps := fun p hp => ⟨(pto p hp).1.1, fun t e => ⟨((pto p hp).2 t e).1, fun z hz => (((pto p hp).2 t e).2 z hz).1⟩⟩
  have trB : ∀ {F H' : Hp} {d : Addr} {B : Bt}, Has F ((d, .dK (bK B)) :: bO B) H' → bA B = A → TrAt H' d A := fun {F H' d B} h eB => by
    rw [← eB]
    exact tr_in h (fun p hp => hp) (by rw [← bA_keys, eB]; exact nd)
  refine g_start (σ' := [some (.ref a), some (.ref l), none, none, none, none, none, none, none]) rfl ?_
  walk_at "gg"
  refine ⟨l, ws, ps, rfl, hl, dw, by omega, pto, fun H1 s1 => ?_⟩
  walk_at "gg"
  refine g_listL (s1 _ _ hl) (Has.start H1) (fun g1 H2 n2 h2 => ?_)
  have f1 := h2.get (List.Mem.head _)
  have s2 := s1.trans h2.same
  walk_at "gg"
  refine g_tupleL (s2 _ _ hl) (Has.start H2) (fun g2 H3 F3 n3 s3 f3 h3 => ?_)
  have s03 := s2.trans (s3.trans h3.same)
  walk_at "gg"
  refine g_klst (by walk_at "sz") (Has.start H3) (fun gl H4 n4 h4 => ?_)
  have s04 := s03.trans h4.same
  have all : ∀ v ∈ [V.ref g1, V.ref g2], ∃ g o, v = .ref g ∧ SeqO o ws ∧ H4 g = some o := fun v hv => by
    simp only [List.mem_cons, List.not_mem_nil, or_false] at hv
    rcases hv with rfl | rfl
    · exact ⟨g1, _, rfl, .inl rfl, h4.same _ _ (h3.same _ _ (s3 _ _ f1))⟩
    · exact ⟨g2, _, rfl, .inr rfl, h4.same _ _ (h3.same _ _ f3)⟩
  have hgl := h4.get (List.Mem.head _)
  generalize [V.ref g1, V.ref g2] = gvs at all hgl
  refine k_forL hgl (fun i σ H' => ∃ (y3 y4 y5 y6 y7 : Option V), σ = [some (.ref a), some (.ref l), some (.int (badPV ps)), y3, y4, y5, y6, y7, none] ∧ Same H4 H') ⟨_, _, _, _, _, rfl, Same.refl _⟩ ?_ ?_ ?_
  · rintro i σ H' _ ⟨_, _, _, _, _, rfl, s⟩
    exact s _ _ hgl
  · rintro i v σ H5 hv ⟨y3, y4, y5, y6, y7, rfl, s5⟩
    obtain ⟨g, o, rfl, so, hg⟩ := all v (List.mem_of_getElem? hv)
    have s05 := s04.trans s5
    walk_at "gg"
    refine ⟨a, A, rfl, ta.up s05, by omega, fun d2 B2 H6 h6 e2 => ?_⟩
    have t2 := trB h6 e2
    have s06 := s05.trans h6.same
    have s46 := s5.trans h6.same
    walk_at "gg"
    refine g_klst (by walk_at "sz") (Has.start H6) (fun kl H7 n7 h7 => ?_)
    have hk := h7.get (List.Mem.head _)
    have s07 := s06.trans h7.same
    have s47 := s46.trans h7.same
    have t7 := t2.up h7.same
    -- behind the try
    have eqg : ∀ {H' : Hp} {Q' : VK}, Same H7 H' → (∀ p H'', Same H' H'' → H'' p = some (.lst ws) → Q' (.ref p) H'') → rListOf K [.ref g] H' Q' := fun {H' Q'} s q' => by
      have hg' := (s47.trans s) _ _ hg
      rcases so with rfl | rfl
      · exact g_listL hg' (Has.start H') (fun p H'' n h => q' p H'' h.same (h.get (List.Mem.head _)))
      · exact g_listT hg' (Has.start H') (fun p H'' n h => q' p H'' h.same (h.get (List.Mem.head _)))
    walk_at "gg"
    refine ⟨d2, g, A, o, ws, ps, rfl, t7, s47 _ _ hg, so, dw.up s07 _ _, by omega, by omega, pb, fun ebad d4 B4 H8 h8 asc4 mem4 => ?_, fun k ek => ?_⟩
    · have ev : badPV ps = -1 := by unfold badPV; rw [ebad]
      rw [ev]
      have s08 := s07.trans h8.same
      have n4' : (B4.map (·.1)).Nodup := by rw [← bA_keys]; exact asc4.nd
      walk_at "gg"
      refine ⟨.int _, .int _, rfl, Sm.int, fun H9 s9 => ?_⟩
      walk_at "gg"
      refine g_klst (by walk_at "sz") (Has.start H9) (fun k2 H10 n10 h10 => ?_)
      have s8A := s9.trans h10.same
      refine g_neD (dk06 ((h8.same.trans s8A) _ _ hk)) (dk06 (h10.get (List.Mem.head _))) shk06 shk06 ?_
      rw [eqk06]
      have s0A := s08.trans s8A
      walk_at "gg"
      refine i_d (fun _ => ?_) (fun c => (c (by decide)).elim)
      walk_at "gg"
      refine ⟨a, l, A, ws, ps, rfl, ta.up s0A, s0A _ _ hl, dw.up s0A _ _, lA, lp, fun d R H11 s11 tR ascR memR lR => ?_⟩
      have eR : bA B4 = R := AscT.ext asc4 ascR fun z t => (mem4 z t).trans (memR z t).symm
      have lnR : ∀ p ∈ R, p.2.length ≤ 1000 := fun p hp => by
        have e := (memR p.1 p.2).mp hp
        rcases runP_val e with h | ⟨c, hc, e⟩
        · have := lnA _ (getT_mem h)
          exact Nat.le_trans this (by decide)
        · exact Nat.le_trans (lnp c hc _ e) (by decide)
      have t4 : TrAt H11 d4 R := by
        rw [← eR]
        exact (tr_in h8 (fun p hp => hp) n4').up (s8A.trans s11)
      walk_at "gg"
      refine ⟨.ref d4, .ref d, rfl, Sm.tree t4 tR (by omega) lnR, fun H12 s12 => ?_⟩
      have h12 := h8.on (s8A.trans (s11.trans s12))
      walk_at "gg"
      refine i_d (fun _ => ?_) (fun c => (c (by decide)).elim)
      walk_at "gg"
      refine ⟨d4, B4, H7, rfl, h12, n4', by rw [← bA_len, eR]; omega, fun b hb => ?_, fun H13 s13 => ?_⟩
      · refine lnR (b.1, b.2.2) ?_
        rw [← eR]
        exact List.mem_map.mpr ⟨b, hb, rfl⟩
      walk_at "gg"
      refine ⟨d2, a, A, rfl, t7.up s13, ta.up (s07.trans s13), okA, fun H14 s14 => ?_⟩
      walk_at "gg"
      refine eqg (s13.trans s14) (fun lg H15 s15 hlg => ?_)
      have s0F := s07.trans (s13.trans (s14.trans s15))
      walk_at "gg"
      refine neP hlg (s0F _ _ hl) (dw.up s0F _ _) (dw.up s0F _ _) okp ?_
      walk_at "gg"
      exact ⟨_, _, _, _, _, rfl, s47.trans (s13.trans (s14.trans s15))⟩
    · have ev : badPV ps = (k : Nat) := by unfold badPV; rw [ek]
      rw [ev]
      intro ex H8 s8 n8 h8
      refine g_caughtM T.M_BadPut_BadPut (fun exn nxn => ?_)
      walk_at "gg"
      refine g_kxf T.XF_BadPut T.N_BadPut_place h8 rfl ?_
      walk_at "gg"
      refine g_isX T.IS_BadPut h8 T.K_BadPut_PartError ?_
      walk_at "gg"
      refine g_isXT T.IS_BadPut h8 T.K_BadPut_ValueError ?_
      walk_at "gg"
      refine g_isX T.IS_BadPut h8 T.K_BadPut_BadTree ?_
      walk_at "gg"
      refine g_klst (by walk_at "sz") (Has.start H8) (fun k1 H9 n9 h9 => ?_)
      walk_at "gg"
      refine ⟨.int _, .int _, rfl, Sm.int, fun H10 s10 => ?_⟩
      have h10 := h9.on s10
      walk_at "gg"
      refine g_klst (by walk_at "sz") h10 (fun k2 H11 n11 h11 => ?_)
      refine g_neD (dk06 (h11.get (by walk_at "m"))) (dk06 (h11.get (List.Mem.head _))) shk06 shk06 ?_
      rw [eqk06]
      have s7B := s8.trans h11.same
      walk_at "gg"
      refine i_d (fun c => by omega) (fun _ => ?_)
      walk_at "gg"
      refine i_d (fun c => by omega) (fun _ => ?_)
      walk_at "gg"
      refine ⟨d2, a, A, rfl, t7.up s7B, ta.up (s07.trans s7B), okA, fun H14 s14 => ?_⟩
      walk_at "gg"
      refine eqg (s7B.trans s14) (fun lg H15 s15 hlg => ?_)
      have s0F := s07.trans (s7B.trans (s14.trans s15))
      walk_at "gg"
      refine neP hlg (s0F _ _ hl) (dw.up s0F _ _) (dw.up s0F _ _) okp ?_
      walk_at "gg"
      exact ⟨_, _, _, _, _, rfl, s47.trans (s7B.trans (s14.trans s15))⟩
  · rintro σ H5 ⟨_, _, _, _, _, rfl, s5⟩
    walk_at "gg"
    exact q H5 (s04.trans s5)
end

end K07

namespace K07
open PySem PySem.Spec PyProof.Rows L2 Qk
local macro_rules | `(tactic| walk_at "m") => `(tactic| ((repeat (first | exact List.Mem.head _ | apply List.Mem.tail)); done))
local macro_rules | `(tactic| walk_at "h") => `(tactic| first | assumption | exact Has.gF (by assumption) (by assumption) | exact Has.get (by assumption) (by walk_at "m"))
local macro_rules | `(tactic| walk_at "c") => `(tactic| ((repeat (first | exact Chg.hd | apply Chg.tl)); done))
local macro_rules | `(tactic| walk_at "is") => `(tactic| first
  | ((with_reducible refine' is2_non ?gh ?_); (case gh => walk_at "h"))
  | (with_reducible refine is_int_list ?_)
  | (with_reducible refine is_int_tuple ?_)
  | (with_reducible refine is_int_dict ?_)
  | (with_reducible refine is_int_int ?_)
  | (with_reducible refine is_int_bool ?_)
  | (with_reducible refine is_int_str ?_)
  | ((with_reducible refine' is2_int ?gh ?_); (case gh => walk_at "h"))
  | (with_reducible refine is_str_list ?_)
  | (with_reducible refine is_str_tuple ?_)
  | (with_reducible refine is_str_dict ?_)
  | (with_reducible refine is_str_int ?_)
  | (with_reducible refine is_str_bool ?_)
  | (with_reducible refine is_str_str ?_)
  | ((with_reducible refine' is2_str ?gh ?_); (case gh => walk_at "h"))
  | (with_reducible refine is_bool_list ?_)
  | (with_reducible refine is_bool_tuple ?_)
  | (with_reducible refine is_bool_dict ?_)
  | (with_reducible refine is_bool_int ?_)
  | (with_reducible refine is_bool_bool ?_)
  | (with_reducible refine is_bool_str ?_)
  | ((with_reducible refine' is2_bool ?gh ?_); (case gh => walk_at "h"))
  | ((with_reducible refine' is_list_list ?gh ?_); (case gh => walk_at "h"))
  | ((with_reducible refine' is_list_tuple ?gh ?_); (case gh => walk_at "h"))
  | ((with_reducible refine' is_list_dict ?gh ?_); (case gh => walk_at "h"))
  | ((with_reducible refine' is_list_int ?gh ?_); (case gh => walk_at "h"))
  | ((with_reducible refine' is_list_bool ?gh ?_); (case gh => walk_at "h"))
  | ((with_reducible refine' is_list_str ?gh ?_); (case gh => walk_at "h"))
  | ((with_reducible refine' is2_list ?ga ?gb ?_); (case ga => walk_at "h"); (case gb => walk_at "h"))
  | ((with_reducible refine' is_tuple_list ?gh ?_); (case gh => walk_at "h"))
  | ((with_reducible refine' is_tuple_tuple ?gh ?_); (case gh => walk_at "h"))
  | ((with_reducible refine' is_tuple_dict ?gh ?_); (case gh => walk_at "h"))
  | ((with_reducible refine' is_tuple_int ?gh ?_); (case gh => walk_at "h"))
  | ((with_reducible refine' is_tuple_bool ?gh ?_); (case gh => walk_at "h"))
  | ((with_reducible refine' is_tuple_str ?gh ?_); (case gh => walk_at "h"))
  | ((with_reducible refine' is2_tuple ?ga ?gb ?_); (case ga => walk_at "h"); (case gb => walk_at "h"))
  | ((with_reducible refine' is_dict_list ?gh ?_); (case gh => walk_at "h"))
  | ((with_reducible refine' is_dict_tuple ?gh ?_); (case gh => walk_at "h"))
  | ((with_reducible refine' is_dict_dict ?gh ?_); (case gh => walk_at "h"))
  | ((with_reducible refine' is_dict_int ?gh ?_); (case gh => walk_at "h"))
  | ((with_reducible refine' is_dict_bool ?gh ?_); (case gh => walk_at "h"))
  | ((with_reducible refine' is_dict_str ?gh ?_); (case gh => walk_at "h"))
  | ((with_reducible refine' is2_dict ?ga ?gb ?_); (case ga => walk_at "h"); (case gb => walk_at "h")))
local macro_rules | `(tactic| walk_at "g") => `(tactic| first
  | (with_reducible refine g_seq ?_)
  | (with_reducible refine g_asg ?_)
  | ((with_reducible refine g_name ?_); dsimp only [List.set, wipe, List.map])
  | ((with_reducible refine' g_var ?gv ?_); (case gv => exact rfl))
  | (with_reducible refine g_c ?_)
  | (with_reducible refine g_op ?_)
  | (with_reducible refine g_cons ?_)
  | (with_reducible refine g_nil ?_)
  | (with_reducible refine g_cb ?_)
  | (with_reducible refine g_call ?_)
  | (with_reducible refine g_tup ?_)
  | (with_reducible refine g_lst ?_)
  | (with_reducible refine g_bm ?_)
  | (with_reducible refine g_bm0 ?_)
  | ((with_reducible refine' g_kbm ?gh ?_); (case gh => walk_at "h"))
  | (with_reducible refine g_drop ?_)
  | (with_reducible refine g_ret ?_)
  | (with_reducible refine g_retN ?_)
  | (with_reducible refine g_next ?_)
  | (with_reducible refine g_brk ?_)
  | (with_reducible refine g_cont ?_)
  | (with_reducible refine g_if ?_)
  | ((with_reducible refine' g_aug ?gv ?_); (case gv => exact rfl))
  | (with_reducible refine g_ipI ?_)
  | (with_reducible refine g_test ?_)
  | (with_reducible refine g_tB ?_)
  | (with_reducible refine g_kB ?_)
  | (with_reducible refine g_not ?_)
  | (with_reducible refine g_and ?_)
  | (with_reducible refine g_or ?_)
  | (with_reducible refine g_andV ?_)
  | (with_reducible refine g_orV ?_)
  | (with_reducible refine g_notV ?_)
  | (with_reducible refine g_ifE ?_)
  | (with_reducible refine g_addI ?_)
  | (with_reducible refine g_rI0 ?_)
  | (with_reducible refine g_eqI ?_)
  | (with_reducible refine g_eqS ?_)
  | (with_reducible refine g_neI ?_)
  | (with_reducible refine g_neS ?_)
  | (with_reducible refine g_isN ?_)
  | (with_reducible refine g_notN ?_)
  | (with_reducible refine g_int ?_)
  | (with_reducible refine g_max2 ?_)
  | (with_reducible refine g_min2 ?_)
  | ((with_reducible refine' g_lenL ?gh ?_); (case gh => walk_at "h"))
  | (with_reducible refine g_sub ?_)
  | (with_reducible refine g_gcons ?_)
  | (with_reducible refine g_gnil ?_)
  | (with_reducible refine g_un ?_)
  | (with_reducible refine g_rU ?_)
  | (with_reducible refine g_forL ?_)
  | (with_reducible refine g_forS ?_)
  | (with_reducible refine g_forR1 ?_)
  | (with_reducible refine g_forR2 ?_)
  | (with_reducible refine g_forR3 ?_)
  | (with_reducible refine g_lcL ?_)
  | (with_reducible refine g_lcR1 ?_)
  | (with_reducible refine g_lcR2 ?_)
  | (with_reducible refine g_slice ?_)
  | (with_reducible refine g_part ?_)
  | (with_reducible refine g_kOI ?_)
  | (with_reducible refine g_nopart ?_)
  | (with_reducible refine g_yes ?_)
  | ((with_reducible refine' g_wipe ?gv ?_); (case gv => exact rfl))
  | (with_reducible refine iteT ?_)
  | (with_reducible refine iteF ?_)
  | (with_reducible refine i_nf ?_)
  | (with_reducible refine i_nt ?_)
  | ((with_reducible refine' g_gtup ?gh ?gl ?_); (case gh => walk_at "h"); (case gl => exact rfl))
  | ((with_reducible refine' g_notinI ?gh ?_); (case gh => walk_at "h"))
  | ((with_reducible refine' g_inI ?gh ?_); (case gh => walk_at "h"))
  | ((with_reducible refine' g_kget2 ?gh ?_); (case gh => walk_at "h"))
  | ((with_reducible refine' g_kgotI ?gh ?_); (case gh => walk_at "h"))
  | (with_reducible refine g_tRev ?_)
  | (with_reducible refine g_neB ?_)
  | (with_reducible refine g_eqB ?_)
  | ((with_reducible refine' g_lenT ?gh ?_); (case gh => walk_at "h"))
  | (with_reducible refine g_star ?_)
  | ((with_reducible refine' g_kstarL ?gh ?_); (case gh => walk_at "h"))
  | ((with_reducible refine' g_kstarT ?gh ?_); (case gh => walk_at "h"))
  | (with_reducible refine g_tru ?_)
  | ((with_reducible refine' g_truL ?gh ?_); (case gh => walk_at "h"))
  | (with_reducible refine g_get2 ?_)
  | (with_reducible refine g_try ?_)
  | (with_reducible refine g_fld ?_)
  | (with_reducible refine g_sfld ?_)
  | (with_reducible refine g_meth ?_)
  | (with_reducible refine g_make ?_)
  | (with_reducible refine g_del ?_)
  | (with_reducible refine g_callS ?_)
  | (with_reducible refine g_raise ?_)
  | (with_reducible refine g_xf ?_)
  | (with_reducible refine g_m0 ?_)
  | (with_reducible refine g_km0 ?_)
  | walk_at "is")
local macro_rules | `(tactic| walk_at "gg") => `(tactic| repeat walk_at "g")
local macro_rules | `(tactic| walk_at "sz") => `(tactic| (refine sz ?_; simp only [List.length_cons, List.length_nil, List.length_map, List.length_append, List.length_replicate]; omega))
local macro_rules | `(tactic| walk_at "sub") => `(tactic| ((repeat (first | exact List.Sublist.slnil | with_reducible apply List.Sublist.cons_cons | with_reducible apply List.Sublist.cons)); done))

local macro_rules | `(tactic| walk_at "g") => `(tactic| first
  | (with_reducible refine g_dcL ?_)
  | (with_reducible refine g_dcT ?_)
  | (with_reducible refine g_m1s ?_)
  | (with_reducible refine g_km1s ?_)
  | (with_reducible refine g_starts ?_)
  | (with_reducible refine g_tryX ?_)
  | (with_reducible refine g_lcS ?_))

local macro_rules | `(tactic| walk_at "g") => `(tactic| first
  | (with_reducible refine g_lcRv ?_)
  | (with_reducible refine g_dpop1 ?_))

theorem putL_len (A B : Tr) (us : List Str) : (putL (chgL A B us)).length ≤ us.length := by
  unfold putL
  rw [List.length_map]
  exact chgL_len A B us
theorem putL_mem {A B : Tr} {us : List Str} {p : Pt} (h : p ∈ putL (chgL A B us)) : p.1 ∈ us ∧ p.2 = getT B p.1 := by
  unfold putL chgL at h
  obtain ⟨c, hc, rfl⟩ := List.mem_map.mp h
  obtain ⟨z, hz, e⟩ := List.mem_filterMap.mp hc
  split at e
  · cases e
  · injection e with e
    subst e
    exact ⟨hz, rfl⟩
theorem putL_ok {A B : Tr} {us : List Str} (bo : Both A B us) (okA : okTr A) (okB : okTr B) : okP (putL (chgL A B us)) := fun p hp => by
  obtain ⟨h1, h2⟩ := putL_mem hp
  refine ⟨?_, by rw [h2]; exact okO_get okB p.1⟩
  rcases (bo.2 p.1).mp h1 with h | h
  · obtain ⟨r, hr, e⟩ := List.mem_map.mp h
    rw [← e]
    exact (okA r hr).1
  · obtain ⟨r, hr, e⟩ := List.mem_map.mp h
    rw [← e]
    exact (okB r hr).1
theorem putL_ln {A B : Tr} {us : List Str} (_ : lnT A) (lnB : lnT B) : lnP (putL (chgL A B us)) := fun p hp t e => by
  obtain ⟨_, h2⟩ := putL_mem hp
  rw [h2] at e
  exact Nat.le_trans (lnB _ (getT_mem e)) (by decide)
section
variable {P : Program} {w : World} {K : PySem.W.Frag} {mg : Str → Option Value} {base : Heap}
def sp_l_finds (K : PySem.W.Frag) : Sp := fun vs H Q _ => ∃ (a b l : Addr) (A B : Tr) (us : List Str) (ws : List V), vs = [.ref a, .ref b, .ref l] ∧ TrAt H a A ∧ TrAt H b B ∧ A.length ≤ 4 ∧ B.length ≤ 4 ∧ okTr A ∧ okTr B ∧ lnT A ∧ lnT B ∧ Both A B us ∧ us.length ≤ 8 ∧ H l = some (.lst ws) ∧ DqAll H ws ((putL (chgL A B us)).map pD) ∧ ∀ H', Same H H' → Q (.bl true) H'
theorem sp_l_finds_len {vs H Q E} (h : sp_l_finds K vs H Q E) : vs.length = 3 := by
  obtain ⟨_, _, _, _, _, _, _, rfl, _⟩ := h
  rfl
set_option maxHeartbeats 2000000 in
theorem ok_l_finds (T : Txt K mg) : FnOk P w K mg base CX0 7 T.f_l_finds T.fd_l_finds ["old", "new", "due"] (sp_l_finds K) := by
  refine T.F_l_finds.ok sc_l_finds (fun vs H Q E h => sp_l_finds_len h) (fun cdv A outer s H vs Q E hr h => ?_)
  refine ⟨_, (pss_cons (ps_set (i := 3) sc_l_finds.nd rfl (.inl rfl) (pe_lst (pa_cons (pe_call (ok_l_copy T) (hr.mono (by decide)) (by rfl) T.g_l_copy T.F_l_copy.kp T.b_l_copy .nil pass0 (pa_cons (pv 0) pa_nil)) (pa_cons (pe_call (ok_l_copy T) (hr.mono (by decide)) (by rfl) T.g_l_copy T.F_l_copy.kp T.b_l_copy .nil pass0 (pa_cons (pv 1) pa_nil)) pa_nil))))
      (pss_cons (ps_set (i := 4) sc_l_finds.nd rfl (.inl rfl) (pe_call (ok_puts_between T) (hr.mono (by decide)) (by rfl) T.g_puts_between T.F_puts_between.kp T.b_puts_between .nil pass0 (pa_cons (pe_ix (ix_K K (hu_of hr)) (pv 3) pe_int (fun _ _ => rfl)) (pa_cons (pe_ix (ix_K K (hu_of hr)) (pv 3) pe_int (fun _ _ => rfl)) pa_nil))))
      (pss_cons (ps_if (pt_not (pt_val (pe_call (ok_l_same T) (hr.mono (by decide)) (by rfl) T.g_l_same T.F_l_same.kp T.b_l_same .nil pass0 (pa_cons (pv 4) (pa_cons (pv 2) pa_nil))))) (pss_one (ps_ret pe_bl)) pss_nil)
      (pss_cons (ps_if (PW.pt (pw_or (pt_not (pt_val (pe_call (ok_l_kept T) (hr.mono (by decide)) (by rfl) T.g_l_kept T.F_l_kept.kp T.b_l_kept .nil pass0 (pa_cons (pe_ix (ix_K K (hu_of hr)) (pv 3) pe_int (fun _ _ => rfl)) (pa_cons (pv 0) pa_nil))))) (pw_or1 (pt_not (pt_val (pe_call (ok_l_kept T) (hr.mono (by decide)) (by rfl) T.g_l_kept T.F_l_kept.kp T.b_l_kept .nil pass0 (pa_cons (pe_ix (ix_K K (hu_of hr)) (pv 3) pe_int (fun _ _ => rfl)) (pa_cons (pv 1) pa_nil)))))))) (pss_one (ps_ret pe_bl)) pss_nil)
      (pss_cons (ps_expr (k_bm K (pe_bm PySem.F.plainAttrs_list PySem.F.slot_list_append PySem.F.type_list_append mt_append (pv 4) (pa_cons (pe_tup (pa_cons pe_str (pa_cons (pe_tup pa_nil) pa_nil))) pa_nil))))
      (pss_cons (ps_expr (pe_call (ok_l_spoil T) (hr.mono (by decide)) (by rfl) T.g_l_spoil T.F_l_spoil.kp T.b_l_spoil .nil pass0 (pa_cons (pe_ix (ix_K K (hu_of hr)) (pv 3) pe_int (fun _ _ => rfl)) pa_nil)))
      (pss_cons (ps_expr (pe_call (ok_l_spoil T) (hr.mono (by decide)) (by rfl) T.g_l_spoil T.F_l_spoil.kp T.b_l_spoil .nil pass0 (pa_cons (pe_ix (ix_K K (hu_of hr)) (pv 3) pe_int (fun _ _ => rfl)) pa_nil)))
      (pss_cons (ps_if (pt_not (pt_val (pe_call (ok_l_same T) (hr.mono (by decide)) (by rfl) T.g_l_same T.F_l_same.kp T.b_l_same .nil pass0 (pa_cons (pe_slice (sl_M K) (pv 4) po_none (po_some (pe_un un_neg pe_int))) (pa_cons (pv 2) pa_nil))))) (pss_one (ps_ret pe_bl)) pss_nil)
      (pss_one (ps_ret (pe_call (ok_l_same T) (hr.mono (by decide)) (by rfl) T.g_l_same T.F_l_same.kp T.b_l_same .nil pass0 (pa_cons (pe_call (ok_puts_between T) (hr.mono (by decide)) (by rfl) T.g_puts_between T.F_puts_between.kp T.b_puts_between .nil pass0 (pa_cons (pe_call (ok_l_copy T) (hr.mono (by decide)) (by rfl) T.g_l_copy T.F_l_copy.kp T.b_l_copy .nil pass0 (pa_cons (pv 0) pa_nil)) (pa_cons (pe_call (ok_l_copy T) (hr.mono (by decide)) (by rfl) T.g_l_copy T.F_l_copy.kp T.b_l_copy .nil pass0 (pa_cons (pv 1) pa_nil)) pa_nil))) (pa_cons (pv 2) pa_nil))))))))))))), ?_⟩
  obtain ⟨a, b, l, A, B, us, ws, rfl, ta, tb, lA, lB, okA, okB, lnA, lnB, bo, lus, hl, dw, q⟩ := h
  have ndA : (A.map (·.1)).Nodup := by
    obtain ⟨_, _, _, n, _⟩ := ta
    exact n
  have ndB : (B.map (·.1)).Nodup := by
    obtain ⟨_, _, _, n, _⟩ := tb
    exact n
  have okc := putL_ok bo okA okB
  have lnc := putL_ln (us := us) lnA lnB
  have lcs := putL_len A B us
  refine g_start (σ' := [some (.ref a), some (.ref b), some (.ref l), none, none]) rfl ?_
  walk_at "gg"
  refine ⟨a, A, rfl, ta, by omega, fun d1 B1 H1 h1 e1 => ?_⟩
  walk_at "gg"
  refine ⟨b, B, rfl, tb.up h1.same, by omega, fun d2 B2 H2 h2 e2 => ?_⟩
  have hP := h1.plus h2
  have n1 : (B1.map (·.1)).Nodup := by rw [← bA_keys, e1]; exact ndA
  have n2 : (B2.map (·.1)).Nodup := by rw [← bA_keys, e2]; exact ndB
  walk_at "gg"
  refine g_klst (by walk_at "sz") hP (fun ps H3 n3 h3 => ?_)
  have nT : NoT ((ps, HO.lst [V.ref d1, V.ref d2]) :: (((d2, .dK (bK B2)) :: bO B2) ++ ((d1, .dK (bK B1)) :: bO B1))) := ((noT_tree d2 B2).app (noT_tree d1 B1)).lst
  have i1 : ∀ p ∈ treeO d1 B1, p ∈ ((ps, HO.lst [V.ref d1, V.ref d2]) :: (((d2, .dK (bK B2)) :: bO B2) ++ ((d1, .dK (bK B1)) :: bO B1))) := fun p hp => List.mem_cons_of_mem _ (List.mem_append_right _ hp)
  have i2 : ∀ p ∈ treeO d2 B2, p ∈ ((ps, HO.lst [V.ref d1, V.ref d2]) :: (((d2, .dK (bK B2)) :: bO B2) ++ ((d1, .dK (bK B1)) :: bO B1))) := fun p hp => List.mem_cons_of_mem _ (List.mem_append_left _ hp)
  have t1 : ∀ {F H' : Hp} {N : Own}, Has F (N ++ ((ps, HO.lst [V.ref d1, V.ref d2]) :: (((d2, .dK (bK B2)) :: bO B2) ++ ((d1, .dK (bK B1)) :: bO B1)))) H' → TrAt H' d1 A := fun {F H' N} h => by
    rw [← e1]
    exact tr_in h (fun p hp => List.mem_append_right _ (i1 p hp)) n1
  have t2 : ∀ {F H' : Hp} {N : Own}, Has F (N ++ ((ps, HO.lst [V.ref d1, V.ref d2]) :: (((d2, .dK (bK B2)) :: bO B2) ++ ((d1, .dK (bK B1)) :: bO B1)))) H' → TrAt H' d2 B := fun {F H' N} h => by
    rw [← e2]
    exact tr_in h (fun p hp => List.mem_append_right _ (i2 p hp)) n2
  have p1 : ([V.ref d1, V.ref d2])[0]? = some (V.ref d1) := rfl
  have p2 : ([V.ref d1, V.ref d2])[1]? = some (V.ref d2) := rfl
  walk_at "gg"
  refine g_ixL (h3.get (List.Mem.head _)) (atI_nat (j := 0) p1) ?_
  walk_at "gg"
  refine g_ixL (h3.get (List.Mem.head _)) (atI_nat (j := 1) p2) ?_
  walk_at "gg"
  refine ⟨d1, d2, A, B, rfl, t1 (N := []) h3, t2 (N := []) h3, lA, lB, okA, okB, fun to F4 H4 wt us' s4 h4 bo' lu' dt => ?_⟩
  have eu := bo'.uniq bo
  subst eu
  obtain ⟨h5, sG⟩ := h3.glue s4 h4
  have dt := (nT.no h3 s4).pts dt
  have hps : ∀ {F H' : Hp} {N : Own}, Has F (N ++ ((ps, HO.lst [V.ref d1, V.ref d2]) :: (((d2, .dK (bK B2)) :: bO B2) ++ ((d1, .dK (bK B1)) :: bO B1)))) H' → H' ps = some (.lst [V.ref d1, V.ref d2]) := fun h => h.get (List.mem_append_right _ (List.Mem.head _))
  generalize rmO _ F4 = G at h5 sG dt
  walk_at "gg"
  refine ⟨.ref to, .ref l, rfl, Sm.pts (h5.get (List.Mem.head _)) ((sG.trans h5.same) _ _ hl) (dt.up h5.same _ _) (dw.up (sG.trans h5.same) _ _) (by omega) lnc, fun H6 s6 => ?_⟩
  have h6 := h5.on s6
  have hps6 := hps h6
  walk_at "gg"
  refine g_ixL hps6 (atI_nat (j := 0) p1) ?_
  walk_at "gg"
  refine ⟨d1, a, A, rfl, t1 h6, ta.up (sG.trans h6.same), okA, fun H7 s7 => ?_⟩
  have h7 := h6.on s7
  have hps7 := hps h7
  walk_at "gg"
  refine g_ixL hps7 (atI_nat (j := 1) p2) ?_
  walk_at "gg"
  refine ⟨d2, b, B, rfl, t2 h7, tb.up (sG.trans h7.same), okB, fun H8 s8 => ?_⟩
  have h8 := h7.on s8
  walk_at "gg"
  refine g_ktupF (by walk_at "sz") h8 (fun x0 H9 F9 n9 s9 f9 h9 => ?_)
  walk_at "gg"
  refine g_ktupF (by walk_at "sz") h9 (fun x1 H10 F10 n10 s10 f10 h10 => ?_)
  have lt := dt.len
  rw [List.length_map] at lt
  have sG10 := sG.trans (s9.trans s10)
  have dt10 := dt.up (s9.trans s10) _ _
  have hto10 := h10.get (List.Mem.head _)
  walk_at "gg"
  refine g_append h10 .hd (szl (by omega)) (fun H11 h11 => ?_)
  have hps11 := hps (N := [_]) h11
  walk_at "gg"
  refine g_ixL hps11 (atI_nat (j := 0) p1) ?_
  walk_at "gg"
  -- the first tree is spoilt
  have h11a : Has F10 (((d1, .dK (bK B1)) :: bO B1) ++ ([(to, .lst (wt ++ [V.ref x1])), (ps, .lst [V.ref d1, V.ref d2])] ++ ((d2, .dK (bK B2)) :: bO B2))) H11 := h11.perm (by
    exact List.perm_append_comm (l₁ := (d1, HO.dK (bK B1)) :: bO B1) (l₂ := [(to, HO.lst (wt ++ [V.ref x1])), (ps, HO.lst [V.ref d1, V.ref d2])] ++ ((d2, HO.dK (bK B2)) :: bO B2)))
  have len1 : B1.length ≤ 1000 := by
    rw [← bA_len, e1]
    omega
  have len2 : B2.length ≤ 1000 := by
    rw [← bA_len, e2]
    omega
  refine ⟨d1, B1, _, rfl, (h11a.sub (List.sublist_append_left _ _)).re, n1, len1, fun b' hb' => ?_, fun H12 s12 => ?_⟩
  · have m : (b'.1, b'.2.2) ∈ bA B1 := List.mem_map.mpr ⟨b', hb', rfl⟩
    rw [e1] at m
    exact Nat.le_trans (lnA _ m) (by decide)
  have h12 : Has F10 ([] ++ ([(to, .lst (wt ++ [V.ref x1])), (ps, .lst [V.ref d1, V.ref d2])] ++ ((d2, .dK (bK B2)) :: bO B2))) H12 := h11a.swap ⟨s12, (fun p hp => by cases hp), List.nodup_nil⟩
  have hps12 := h12.get (List.Mem.tail _ (List.Mem.head _))
  walk_at "gg"
  refine g_ixL hps12 (atI_nat (j := 1) p2) ?_
  walk_at "gg"
  have h12a : Has F10 (((d2, .dK (bK B2)) :: bO B2) ++ [(to, .lst (wt ++ [V.ref x1])), (ps, .lst [V.ref d1, V.ref d2])]) H12 := h12.perm List.perm_append_comm
  refine ⟨d2, B2, _, rfl, (h12a.sub (List.sublist_append_left _ _)).re, n2, len2, fun b' hb' => ?_, fun H13 s13 => ?_⟩
  · have m : (b'.1, b'.2.2) ∈ bA B2 := List.mem_map.mpr ⟨b', hb', rfl⟩
    rw [e2] at m
    exact Nat.le_trans (lnB _ m) (by decide)
  have h13 : Has F10 ([] ++ [(to, .lst (wt ++ [V.ref x1])), (ps, .lst [V.ref d1, V.ref d2])]) H13 := h12a.swap ⟨s13, (fun p hp => by cases hp), List.nodup_nil⟩
  walk_at "gg"
  refine g_slM (g_slL (h13.get (List.Mem.head _)) h13 (fun sl H14 n14 h14 => ?_))
  rw [cutV_but] at h14
  have s14 := sG10.trans h14.same
  walk_at "gg"
  refine ⟨.ref sl, .ref l, rfl, Sm.pts (h14.get (List.Mem.head _)) (s14 _ _ hl) (dt10.up h14.same _ _) (dw.up s14 _ _) (by omega) lnc, fun H15 s15 => ?_⟩
  have s0 := s14.trans s15
  walk_at "gg"
  refine ⟨a, A, rfl, ta.up s0, by omega, fun d3 B3 H16 h16 e3 => ?_⟩
  walk_at "gg"
  refine ⟨b, B, rfl, tb.up (s0.trans h16.same), by omega, fun d4 B4 H17 h17 e4 => ?_⟩
  have t3 : TrAt H17 d3 A := by
    rw [← e3]
    exact (tr_in h16 (fun p hp => hp) (by rw [← bA_keys, e3]; exact ndA)).up h17.same
  have t4 : TrAt H17 d4 B := by
    rw [← e4]
    exact tr_in h17 (fun p hp => hp) (by rw [← bA_keys, e4]; exact ndB)
  walk_at "gg"
  refine ⟨d3, d4, A, B, rfl, t3, t4, lA, lB, okA, okB, fun to2 F18 H18 wt2 us2 s18 h18 bo2 lu2 dt2 => ?_⟩
  have eu := bo2.uniq bo
  subst eu
  have sE := s0.trans (h16.same.trans (h17.same.trans (s18.trans h18.same)))
  walk_at "gg"
  refine ⟨.ref to2, .ref l, rfl, Sm.pts (h18.get (List.Mem.head _)) (sE _ _ hl) (dt2.up h18.same _ _) (dw.up sE _ _) (by omega) lnc, fun H19 s19 => ?_⟩
  exact q H19 (sE.trans s19)
end

end K07

namespace K07
open PySem PySem.Spec PyProof.Rows L2 Qk
local macro_rules | `(tactic| walk_at "m") => `(tactic| ((repeat (first | exact List.Mem.head _ | apply List.Mem.tail)); done))
local macro_rules | `(tactic| walk_at "h") => `(tactic| first | assumption | exact Has.gF (by assumption) (by assumption) | exact Has.get (by assumption) (by walk_at "m"))
local macro_rules | `(tactic| walk_at "c") => `(tactic| ((repeat (first | exact Chg.hd | apply Chg.tl)); done))
local macro_rules | `(tactic| walk_at "is") => `(tactic| first
  | ((with_reducible refine' is2_non ?gh ?_); (case gh => walk_at "h"))
  | (with_reducible refine is_int_list ?_)
  | (with_reducible refine is_int_tuple ?_)
  | (with_reducible refine is_int_dict ?_)
  | (with_reducible refine is_int_int ?_)
  | (with_reducible refine is_int_bool ?_)
  | (with_reducible refine is_int_str ?_)
  | ((with_reducible refine' is2_int ?gh ?_); (case gh => walk_at "h"))
  | (with_reducible refine is_str_list ?_)
  | (with_reducible refine is_str_tuple ?_)
  | (with_reducible refine is_str_dict ?_)
  | (with_reducible refine is_str_int ?_)
  | (with_reducible refine is_str_bool ?_)
  | (with_reducible refine is_str_str ?_)
  | ((with_reducible refine' is2_str ?gh ?_); (case gh => walk_at "h"))
  | (with_reducible refine is_bool_list ?_)
  | (with_reducible refine is_bool_tuple ?_)
  | (with_reducible refine is_bool_dict ?_)
  | (with_reducible refine is_bool_int ?_)
  | (with_reducible refine is_bool_bool ?_)
  | (with_reducible refine is_bool_str ?_)
  | ((with_reducible refine' is2_bool ?gh ?_); (case gh => walk_at "h"))
  | ((with_reducible refine' is_list_list ?gh ?_); (case gh => walk_at "h"))
  | ((with_reducible refine' is_list_tuple ?gh ?_); (case gh => walk_at "h"))
  | ((with_reducible refine' is_list_dict ?gh ?_); (case gh => walk_at "h"))
  | ((with_reducible refine' is_list_int ?gh ?_); (case gh => walk_at "h"))
  | ((with_reducible refine' is_list_bool ?gh ?_); (case gh => walk_at "h"))
  | ((with_reducible refine' is_list_str ?gh ?_); (case gh => walk_at "h"))
  | ((with_reducible refine' is2_list ?ga ?gb ?_); (case ga => walk_at "h"); (case gb => walk_at "h"))
  | ((with_reducible refine' is_tuple_list ?gh ?_); (case gh => walk_at "h"))
  | ((with_reducible refine' is_tuple_tuple ?gh ?_); (case gh => walk_at "h"))
  | ((with_reducible refine' is_tuple_dict ?gh ?_); (case gh => walk_at "h"))
  | ((with_reducible refine' is_tuple_int ?gh ?_); (case gh => walk_at "h"))
  | ((with_reducible refine' is_tuple_bool ?gh ?_); (case gh => walk_at "h"))
  | ((with_reducible refine' is_tuple_str ?gh ?_); (case gh => walk_at "h"))
  | ((with_reducible refine' is2_tuple ?ga ?gb ?_); (case ga => walk_at "h"); (case gb => walk_at "h"))
  | ((with_reducible refine' is_dict_list ?gh ?_); (case gh => walk_at "h"))
  | ((with_reducible refine' is_dict_tuple ?gh ?_); (case gh => walk_at "h"))
  | ((with_reducible refine' is_dict_dict ?gh ?_); (case gh => walk_at "h"))
  | ((with_reducible refine' is_dict_int ?gh ?_); (case gh => walk_at "h"))
  | ((with_reducible refine' is_dict_bool ?gh ?_); (case gh => walk_at "h"))
  | ((with_reducible refine' is_dict_str ?gh ?_); (case gh => walk_at "h"))
  | ((with_reducible refine' is2_dict ?ga ?gb ?_); (case ga => walk_at "h"); (case gb => walk_at "h")))
local macro_rules | `(tactic| walk_at "g") => `(tactic| first
  | (with_reducible refine g_seq ?_)
  | (with_reducible refine g_asg ?_)
  | ((with_reducible refine g_name ?_); dsimp only [List.set, wipe, List.map])
  | ((with_reducible refine' g_var ?gv ?_); (case gv => exact rfl))
  | (with_reducible refine g_c ?_)
  | (with_reducible refine g_op ?_)
  | (with_reducible refine g_cons ?_)
  | (with_reducible refine g_nil ?_)
  | (with_reducible refine g_cb ?_)
  | (with_reducible refine g_call ?_)
  | (with_reducible refine g_tup ?_)
  | (with_reducible refine g_lst ?_)
  | (with_reducible refine g_bm ?_)
  | (with_reducible refine g_bm0 ?_)
  | ((with_reducible refine' g_kbm ?gh ?_); (case gh => walk_at "h"))
  | (with_reducible refine g_drop ?_)
  | (with_reducible refine g_ret ?_)
  | (with_reducible refine g_retN ?_)
  | (with_reducible refine g_next ?_)
  | (with_reducible refine g_brk ?_)
  | (with_reducible refine g_cont ?_)
  | (with_reducible refine g_if ?_)
  | ((with_reducible refine' g_aug ?gv ?_); (case gv => exact rfl))
  | (with_reducible refine g_ipI ?_)
  | (with_reducible refine g_test ?_)
  | (with_reducible refine g_tB ?_)
  | (with_reducible refine g_kB ?_)
  | (with_reducible refine g_not ?_)
  | (with_reducible refine g_and ?_)
  | (with_reducible refine g_or ?_)
  | (with_reducible refine g_andV ?_)
  | (with_reducible refine g_orV ?_)
  | (with_reducible refine g_notV ?_)
  | (with_reducible refine g_ifE ?_)
  | (with_reducible refine g_addI ?_)
  | (with_reducible refine g_rI0 ?_)
  | (with_reducible refine g_eqI ?_)
  | (with_reducible refine g_eqS ?_)
  | (with_reducible refine g_neI ?_)
  | (with_reducible refine g_neS ?_)
  | (with_reducible refine g_isN ?_)
  | (with_reducible refine g_notN ?_)
  | (with_reducible refine g_int ?_)
  | (with_reducible refine g_max2 ?_)
  | (with_reducible refine g_min2 ?_)
  | ((with_reducible refine' g_lenL ?gh ?_); (case gh => walk_at "h"))
  | (with_reducible refine g_sub ?_)
  | (with_reducible refine g_gcons ?_)
  | (with_reducible refine g_gnil ?_)
  | (with_reducible refine g_un ?_)
  | (with_reducible refine g_rU ?_)
  | (with_reducible refine g_forL ?_)
  | (with_reducible refine g_forS ?_)
  | (with_reducible refine g_forR1 ?_)
  | (with_reducible refine g_forR2 ?_)
  | (with_reducible refine g_forR3 ?_)
  | (with_reducible refine g_lcL ?_)
  | (with_reducible refine g_lcR1 ?_)
  | (with_reducible refine g_lcR2 ?_)
  | (with_reducible refine g_slice ?_)
  | (with_reducible refine g_part ?_)
  | (with_reducible refine g_kOI ?_)
  | (with_reducible refine g_nopart ?_)
  | (with_reducible refine g_yes ?_)
  | ((with_reducible refine' g_wipe ?gv ?_); (case gv => exact rfl))
  | (with_reducible refine iteT ?_)
  | (with_reducible refine iteF ?_)
  | (with_reducible refine i_nf ?_)
  | (with_reducible refine i_nt ?_)
  | ((with_reducible refine' g_gtup ?gh ?gl ?_); (case gh => walk_at "h"); (case gl => exact rfl))
  | ((with_reducible refine' g_notinI ?gh ?_); (case gh => walk_at "h"))
  | ((with_reducible refine' g_inI ?gh ?_); (case gh => walk_at "h"))
  | ((with_reducible refine' g_kget2 ?gh ?_); (case gh => walk_at "h"))
  | ((with_reducible refine' g_kgotI ?gh ?_); (case gh => walk_at "h"))
  | (with_reducible refine g_tRev ?_)
  | (with_reducible refine g_neB ?_)
  | (with_reducible refine g_eqB ?_)
  | ((with_reducible refine' g_lenT ?gh ?_); (case gh => walk_at "h"))
  | (with_reducible refine g_star ?_)
  | ((with_reducible refine' g_kstarL ?gh ?_); (case gh => walk_at "h"))
  | ((with_reducible refine' g_kstarT ?gh ?_); (case gh => walk_at "h"))
  | (with_reducible refine g_tru ?_)
  | ((with_reducible refine' g_truL ?gh ?_); (case gh => walk_at "h"))
  | (with_reducible refine g_get2 ?_)
  | (with_reducible refine g_try ?_)
  | (with_reducible refine g_fld ?_)
  | (with_reducible refine g_sfld ?_)
  | (with_reducible refine g_meth ?_)
  | (with_reducible refine g_make ?_)
  | (with_reducible refine g_del ?_)
  | (with_reducible refine g_callS ?_)
  | (with_reducible refine g_raise ?_)
  | (with_reducible refine g_xf ?_)
  | (with_reducible refine g_m0 ?_)
  | (with_reducible refine g_km0 ?_)
  | walk_at "is")
local macro_rules | `(tactic| walk_at "gg") => `(tactic| repeat walk_at "g")
local macro_rules | `(tactic| walk_at "sz") => `(tactic| (refine sz ?_; simp only [List.length_cons, List.length_nil, List.length_map, List.length_append, List.length_replicate]; omega))
local macro_rules | `(tactic| walk_at "sub") => `(tactic| ((repeat (first | exact List.Sublist.slnil | with_reducible apply List.Sublist.cons_cons | with_reducible apply List.Sublist.cons)); done))

local macro_rules | `(tactic| walk_at "g") => `(tactic| first
  | (with_reducible refine g_dcL ?_)
  | (with_reducible refine g_dcT ?_)
  | (with_reducible refine g_m1s ?_)
  | (with_reducible refine g_km1s ?_)
  | (with_reducible refine g_starts ?_)
  | (with_reducible refine g_tryX ?_)
  | (with_reducible refine g_lcS ?_))

/-! ### drawn puts -/
def PtG (p : Pt) : Prop := (p.1.length ≤ 100 ∧ PyData.strOk p.1 = true) ∧ okO p.2 ∧ ∀ t, p.2 = some t → t.length ≤ 50 ∧ ∀ z ∈ t, z.length ≤ 100
theorem way_len (i : Int) : (way i).length ≤ 100 := by
  have h : ∀ k, k < 8 → (wayM.getD k "").length ≤ 100 := by decide +kernel
  exact h _ (by omega)
section
variable {P : Program} {w : World} {K : PySem.W.Frag} {mg : Str → Option Value} {base : Heap}
def sp_l_drawn (K : PySem.W.Frag) : Sp := fun vs H Q _ => ∃ (c : Addr) (st stp : Int) (F : Hp) (wc : List V) (rows : List (Int × Int)), vs = [.ref c, .int st, .int stp] ∧ 0 ≤ stp ∧ stp ≤ 7 ∧ Has F [(c, .lst wc)] H ∧ DqAll F wc (rows.map cellD) ∧ rows.length ≤ 100 ∧
  ∀ p H' F' (wc' : List V) (rows' : List (Int × Int)) (ws : List V) (ps : List Pt), Same F F' → Has F' [(p, .lst ws), (c, .lst wc')] H' → DqAll F' wc' (rows'.map cellD) → rows'.length ≤ 100 → DqAll F' ws (ps.map pD) → ps.length = 4 → (∀ q ∈ ps, PtG q) → Q (.ref p) H'
theorem sp_l_drawn_len {vs H Q E} (h : sp_l_drawn K vs H Q E) : vs.length = 3 := by
  obtain ⟨_, _, _, _, _, _, rfl, _⟩ := h
  rfl
theorem ok_l_drawn (T : Txt K mg) : FnOk P w K mg base CX0 2 T.f_l_drawn T.fd_l_drawn ["cells", "start", "step"] (sp_l_drawn K) := by
  refine T.F_l_drawn.ok sc_l_drawn (fun vs H Q E h => sp_l_drawn_len h) (fun cdv A outer s H vs Q E hr h => ?_)
  refine ⟨_, (pss_cons (ps_set (i := 3) sc_l_drawn.nd rfl (.inl rfl) (pe_lst pa_nil))
      (pss_cons (ps_for PassesOwn.never rfl (pi_range1 rfl T.m_range (pa_cons pe_int pa_nil)) (pg_name (i := 4) sc_l_drawn.nd rfl (.inl rfl)) (pss_cons (ps_set (i := 5) sc_l_drawn.nd rfl (.inl rfl) (pe_call (ok_l_way T) (hr.mono (by decide)) (by rfl) T.g_l_way T.F_l_way.kp T.b_l_way .nil pass0 (pa_cons (pe_op (op_addK K) (pv 1) (pe_op op_mulA (pv 2) (pe_op (op_addK K) (pe_call (ok_l_next T) (hr.mono (by decide)) (by rfl) T.g_l_next T.F_l_next.kp T.b_l_next .nil pass0 (pa_cons (pv 0) (pa_cons pe_int pa_nil))) (pe_op op_mulA pe_int (pv 4))))) pa_nil)))
      (pss_one (ps_expr (k_bm K (pe_bm PySem.F.plainAttrs_list PySem.F.slot_list_append PySem.F.type_list_append mt_append (pv 3) (pa_cons (pe_tup (pa_cons (pv 5) (pa_cons (pe_call (ok_l_row T) (hr.mono (by decide)) (by rfl) T.g_l_row T.F_l_row.kp T.b_l_row .nil pass0 (pa_cons (pe_call (ok_l_text T) (hr.mono (by decide)) (by rfl) T.g_l_text T.F_l_text.kp T.b_l_text .nil pass0 (pa_cons (pe_op (op_addK K) (pe_call (ok_l_next T) (hr.mono (by decide)) (by rfl) T.g_l_next T.F_l_next.kp T.b_l_next .nil pass0 (pa_cons (pv 0) (pa_cons pe_int pa_nil))) (pe_op op_mulA pe_int (pv 4))) pa_nil)) pa_nil)) pa_nil))) pa_nil)))))))
      (pss_one (ps_ret (pv 3))))), ?_⟩
  obtain ⟨c, st, stp, F, wc, rows, rfl, p0, p7, h, dqc, lr, q⟩ := h
  refine g_start (σ' := [some (.ref c), some (.int st), some (.int stp), none, none, none]) rfl ?_
  walk_at "gg"
  refine g_klst (by walk_at "sz") h (fun p1 H1 n1 h1 => ?_)
  walk_at "gg"
  refine k_forR1 (fun t σ H' => ∃ (y4 y5 : Option V) (F' : Hp) (wc : List V) (rows : List (Int × Int)) (ws : List V) (ps : List Pt), σ = [some (.ref c), some (.int st), some (.int stp), some (.ref p1), y4, y5] ∧ Same F F' ∧ Has F' [(p1, .lst ws), (c, .lst wc)] H' ∧ DqAll F' wc (rows.map cellD) ∧ rows.length ≤ 100 ∧ DqAll F' ws (ps.map pD) ∧ ps.length = t ∧ ∀ q ∈ ps, PtG q) (by decide) (by decide) ⟨_, _, F, wc, rows, [], [], rfl, Same.refl _, h1, dqc, lr, .nil, rfl, by simp⟩ ?_ ?_
  · rintro t σ H2 ht ⟨y4, y5, F2, wc, rows, ws, ps, rfl, s2, h2, dqc, lr, dw, rfl, gp⟩
    have ht : ps.length < 4 := ht
    have lw := dw.len
    rw [List.length_map] at lw
    walk_at "gg"
    refine ⟨c, 8, F2, wc, rows, rfl, h2.drop, dqc, lr, by decide, by decide, fun H3 F3 wc rows r hb g hs dqc lr r0 r1 => ?_⟩
    have h3 := h2.grown (by walk_at "c") hb g hs.same (hs.get (List.Mem.head _))
    have s3 := g.1
    clear hb g hs
    walk_at "gg"
    refine g_mulI (.inl ⟨by decide, by decide⟩) ?_
    walk_at "gg"
    refine g_mulI (.inl ⟨by omega, by omega⟩) ?_
    walk_at "gg"
    refine ⟨_, rfl, fun H4 s4 => ?_⟩
    have h4 := h3.on s4
    walk_at "gg"
    refine ⟨c, 8, F3, wc, rows, rfl, h4.drop, dqc, lr, by decide, by decide, fun H5 F5 wc rows r5 hb g hs dqc lr _ _ => ?_⟩
    have h5 := h4.grown (by walk_at "c") hb g hs.same (hs.get (List.Mem.head _))
    have s5 := s3.trans g.1
    clear hb g hs
    walk_at "gg"
    refine g_mulI (.inl ⟨by decide, by decide⟩) ?_
    walk_at "gg"
    refine ⟨_, rfl, fun v H6 o s6 fv go => ?_⟩
    obtain ⟨F6, sF6, h6, dv⟩ := h5.fr s6 fv
    walk_at "gg"
    refine ⟨v, o, rfl, dv.up h6.same _ _, fun u H7 s7 fu => ?_⟩
    obtain ⟨F7, sF7, h7, du⟩ := Has.frT h6 s7 fu
    walk_at "gg"
    refine g_ktupF (by walk_at "sz") h7 (fun p9 H9 F9 n9 s9 f9 h9 => ?_)
    walk_at "gg"
    refine g_append h9 .hd (szl (by omega)) (fun H10 h10 => ?_)
    have sA := s5.trans (sF6.trans (sF7.trans s9))
    walk_at "gg"
    refine ⟨_, _, F9, wc, rows, _, ps ++ [(way (st + stp * (r + 2 * (ps.length : Nat))), o)], rfl, s2.trans sA, h10, dqc.up (sF6.trans (sF7.trans s9)) _ _, lr, ?_, by rw [List.length_append]; rfl, fun x hx => ?_⟩
    · rw [List.map_append]
      exact (dw.up sA _ _).snoc (.tup f9 (.cons (.str _) (.cons (du.up s9 _ _) .nil)))
    · rcases List.mem_append.mp hx with hx | hx
      · exact gp x hx
      · rw [List.mem_singleton.mp hx]
        exact ⟨⟨way_len _, way_ok _⟩, go.1, fun t e => ⟨by have := (go.2 t e).1; omega, fun z hz => ((go.2 t e).2 z hz).1⟩⟩
  · rintro σ H2 ⟨y4, y5, F2, wc, rows, ws, ps, rfl, s2, h2, dqc, lr, dw, lp, gp⟩
    walk_at "gg"
    exact q p1 H2 F2 wc rows ws ps s2 h2 dqc lr dw lp gp
end

end K07

namespace K07
open PySem PySem.Spec PyProof.Rows L2 Qk
local macro_rules | `(tactic| walk_at "m") => `(tactic| ((repeat (first | exact List.Mem.head _ | apply List.Mem.tail)); done))
local macro_rules | `(tactic| walk_at "h") => `(tactic| first | assumption | exact Has.gF (by assumption) (by assumption) | exact Has.get (by assumption) (by walk_at "m"))
local macro_rules | `(tactic| walk_at "c") => `(tactic| ((repeat (first | exact Chg.hd | apply Chg.tl)); done))
local macro_rules | `(tactic| walk_at "is") => `(tactic| first
  | ((with_reducible refine' is2_non ?gh ?_); (case gh => walk_at "h"))
  | (with_reducible refine is_int_list ?_)
  | (with_reducible refine is_int_tuple ?_)
  | (with_reducible refine is_int_dict ?_)
  | (with_reducible refine is_int_int ?_)
  | (with_reducible refine is_int_bool ?_)
  | (with_reducible refine is_int_str ?_)
  | ((with_reducible refine' is2_int ?gh ?_); (case gh => walk_at "h"))
  | (with_reducible refine is_str_list ?_)
  | (with_reducible refine is_str_tuple ?_)
  | (with_reducible refine is_str_dict ?_)
  | (with_reducible refine is_str_int ?_)
  | (with_reducible refine is_str_bool ?_)
  | (with_reducible refine is_str_str ?_)
  | ((with_reducible refine' is2_str ?gh ?_); (case gh => walk_at "h"))
  | (with_reducible refine is_bool_list ?_)
  | (with_reducible refine is_bool_tuple ?_)
  | (with_reducible refine is_bool_dict ?_)
  | (with_reducible refine is_bool_int ?_)
  | (with_reducible refine is_bool_bool ?_)
  | (with_reducible refine is_bool_str ?_)
  | ((with_reducible refine' is2_bool ?gh ?_); (case gh => walk_at "h"))
  | ((with_reducible refine' is_list_list ?gh ?_); (case gh => walk_at "h"))
  | ((with_reducible refine' is_list_tuple ?gh ?_); (case gh => walk_at "h"))
  | ((with_reducible refine' is_list_dict ?gh ?_); (case gh => walk_at "h"))
  | ((with_reducible refine' is_list_int ?gh ?_); (case gh => walk_at "h"))
  | ((with_reducible refine' is_list_bool ?gh ?_); (case gh => walk_at "h"))
  | ((with_reducible refine' is_list_str ?gh ?_); (case gh => walk_at "h"))
  | ((with_reducible refine' is2_list ?ga ?gb ?_); (case ga => walk_at "h"); (case gb => walk_at "h"))
  | ((with_reducible refine' is_tuple_list ?gh ?_); (case gh => walk_at "h"))
  | ((with_reducible refine' is_tuple_tuple ?gh ?_); (case gh => walk_at "h"))
  | ((with_reducible refine' is_tuple_dict ?gh ?_); (case gh => walk_at "h"))
  | ((with_reducible refine' is_tuple_int ?gh ?_); (case gh => walk_at "h"))
  | ((with_reducible refine' is_tuple_bool ?gh ?_); (case gh => walk_at "h"))
  | ((with_reducible refine' is_tuple_str ?gh ?_); (case gh => walk_at "h"))
  | ((with_reducible refine' is2_tuple ?ga ?gb ?_); (case ga => walk_at "h"); (case gb => walk_at "h"))
  | ((with_reducible refine' is_dict_list ?gh ?_); (case gh => walk_at "h"))
  | ((with_reducible refine' is_dict_tuple ?gh ?_); (case gh => walk_at "h"))
  | ((with_reducible refine' is_dict_dict ?gh ?_); (case gh => walk_at "h"))
  | ((with_reducible refine' is_dict_int ?gh ?_); (case gh => walk_at "h"))
  | ((with_reducible refine' is_dict_bool ?gh ?_); (case gh => walk_at "h"))
  | ((with_reducible refine' is_dict_str ?gh ?_); (case gh => walk_at "h"))
  | ((with_reducible refine' is2_dict ?ga ?gb ?_); (case ga => walk_at "h"); (case gb => walk_at "h")))
local macro_rules | `(tactic| walk_at "g") => `(tactic| first
  | (with_reducible refine g_seq ?_)
  | (with_reducible refine g_asg ?_)
  | ((with_reducible refine g_name ?_); dsimp only [List.set, wipe, List.map])
  | ((with_reducible refine' g_var ?gv ?_); (case gv => exact rfl))
  | (with_reducible refine g_c ?_)
  | (with_reducible refine g_op ?_)
  | (with_reducible refine g_cons ?_)
  | (with_reducible refine g_nil ?_)
  | (with_reducible refine g_cb ?_)
  | (with_reducible refine g_call ?_)
  | (with_reducible refine g_tup ?_)
  | (with_reducible refine g_lst ?_)
  | (with_reducible refine g_bm ?_)
  | (with_reducible refine g_bm0 ?_)
  | ((with_reducible refine' g_kbm ?gh ?_); (case gh => walk_at "h"))
  | (with_reducible refine g_drop ?_)
  | (with_reducible refine g_ret ?_)
  | (with_reducible refine g_retN ?_)
  | (with_reducible refine g_next ?_)
  | (with_reducible refine g_brk ?_)
  | (with_reducible refine g_cont ?_)
  | (with_reducible refine g_if ?_)
  | ((with_reducible refine' g_aug ?gv ?_); (case gv => exact rfl))
  | (with_reducible refine g_ipI ?_)
  | (with_reducible refine g_test ?_)
  | (with_reducible refine g_tB ?_)
  | (with_reducible refine g_kB ?_)
  | (with_reducible refine g_not ?_)
  | (with_reducible refine g_and ?_)
  | (with_reducible refine g_or ?_)
  | (with_reducible refine g_andV ?_)
  | (with_reducible refine g_orV ?_)
  | (with_reducible refine g_notV ?_)
  | (with_reducible refine g_ifE ?_)
  | (with_reducible refine g_addI ?_)
  | (with_reducible refine g_rI0 ?_)
  | (with_reducible refine g_eqI ?_)
  | (with_reducible refine g_eqS ?_)
  | (with_reducible refine g_neI ?_)
  | (with_reducible refine g_neS ?_)
  | (with_reducible refine g_isN ?_)
  | (with_reducible refine g_notN ?_)
  | (with_reducible refine g_int ?_)
  | (with_reducible refine g_max2 ?_)
  | (with_reducible refine g_min2 ?_)
  | ((with_reducible refine' g_lenL ?gh ?_); (case gh => walk_at "h"))
  | (with_reducible refine g_sub ?_)
  | (with_reducible refine g_gcons ?_)
  | (with_reducible refine g_gnil ?_)
  | (with_reducible refine g_un ?_)
  | (with_reducible refine g_rU ?_)
  | (with_reducible refine g_forL ?_)
  | (with_reducible refine g_forS ?_)
  | (with_reducible refine g_forR1 ?_)
  | (with_reducible refine g_forR2 ?_)
  | (with_reducible refine g_forR3 ?_)
  | (with_reducible refine g_lcL ?_)
  | (with_reducible refine g_lcR1 ?_)
  | (with_reducible refine g_lcR2 ?_)
  | (with_reducible refine g_slice ?_)
  | (with_reducible refine g_part ?_)
  | (with_reducible refine g_kOI ?_)
  | (with_reducible refine g_nopart ?_)
  | (with_reducible refine g_yes ?_)
  | ((with_reducible refine' g_wipe ?gv ?_); (case gv => exact rfl))
  | (with_reducible refine iteT ?_)
  | (with_reducible refine iteF ?_)
  | (with_reducible refine i_nf ?_)
  | (with_reducible refine i_nt ?_)
  | ((with_reducible refine' g_gtup ?gh ?gl ?_); (case gh => walk_at "h"); (case gl => exact rfl))
  | ((with_reducible refine' g_notinI ?gh ?_); (case gh => walk_at "h"))
  | ((with_reducible refine' g_inI ?gh ?_); (case gh => walk_at "h"))
  | ((with_reducible refine' g_kget2 ?gh ?_); (case gh => walk_at "h"))
  | ((with_reducible refine' g_kgotI ?gh ?_); (case gh => walk_at "h"))
  | (with_reducible refine g_tRev ?_)
  | (with_reducible refine g_neB ?_)
  | (with_reducible refine g_eqB ?_)
  | ((with_reducible refine' g_lenT ?gh ?_); (case gh => walk_at "h"))
  | (with_reducible refine g_star ?_)
  | ((with_reducible refine' g_kstarL ?gh ?_); (case gh => walk_at "h"))
  | ((with_reducible refine' g_kstarT ?gh ?_); (case gh => walk_at "h"))
  | (with_reducible refine g_tru ?_)
  | ((with_reducible refine' g_truL ?gh ?_); (case gh => walk_at "h"))
  | (with_reducible refine g_get2 ?_)
  | (with_reducible refine g_try ?_)
  | (with_reducible refine g_fld ?_)
  | (with_reducible refine g_sfld ?_)
  | (with_reducible refine g_meth ?_)
  | (with_reducible refine g_make ?_)
  | (with_reducible refine g_del ?_)
  | (with_reducible refine g_callS ?_)
  | (with_reducible refine g_raise ?_)
  | (with_reducible refine g_xf ?_)
  | (with_reducible refine g_m0 ?_)
  | (with_reducible refine g_km0 ?_)
  | walk_at "is")
local macro_rules | `(tactic| walk_at "gg") => `(tactic| repeat walk_at "g")
local macro_rules | `(tactic| walk_at "sz") => `(tactic| (refine sz ?_; simp only [List.length_cons, List.length_nil, List.length_map, List.length_append, List.length_replicate]; omega))
local macro_rules | `(tactic| walk_at "sub") => `(tactic| ((repeat (first | exact List.Sublist.slnil | with_reducible apply List.Sublist.cons_cons | with_reducible apply List.Sublist.cons)); done))

local macro_rules | `(tactic| walk_at "g") => `(tactic| first
  | (with_reducible refine g_dcL ?_)
  | (with_reducible refine g_dcT ?_)
  | (with_reducible refine g_m1s ?_)
  | (with_reducible refine g_km1s ?_)
  | (with_reducible refine g_starts ?_)
  | (with_reducible refine g_tryX ?_)
  | (with_reducible refine g_lcS ?_))

/-! ### bent puts -/
def OtG (o : Option Tx) : Prop := okO o ∧ ∀ t, o = some t → t.length ≤ 50 ∧ ∀ z ∈ t, z.length ≤ 100
def WyG (v : V) : Prop := ∃ z : Str, v = .str z ∧ z.length ≤ 100 ∧ PyData.strOk z = true
def RwG (F : Hp) (v : V) : Prop := ∃ o, Dq F v (otD o) ∧ OtG o
theorem RwG.up {F F' : Hp} {v : V} (h : RwG F v) (s : Same F F') : RwG F' v := by
  obtain ⟨o, d, g⟩ := h
  exact ⟨o, d.up s _ _, g⟩
theorem OtG.of {t : Tx} (h : (t.all PyData.strOk && (decide (t.length ≤ 50) && t.all fun z => decide (z.length ≤ 100))) = true) : OtG (some t) := by
  rw [Bool.and_eq_true, Bool.and_eq_true, decide_eq_true_eq, List.all_eq_true, List.all_eq_true] at h
  exact ⟨fun x e => by injection e with e; subst e; exact h.1, fun x e => by injection e with e; subst e; exact ⟨h.2.1, fun z hz => of_decide_eq_true (h.2.2 z hz)⟩⟩
theorem RwG.tup {F : Hp} {p : Addr} {t : Tx} (h : F p = some (.tup (t.map V.str))) (g : OtG (some t)) : RwG F (.ref p) := ⟨some t, .tup h (DqAll.strs t), g⟩
theorem rep_str (c : Str) (n : Nat) : (List.replicate n [V.str c]).flatten = (List.replicate n c).map V.str := by
  induction n with
  | zero => rfl
  | succ n ih =>
    rw [List.replicate_succ, List.flatten_cons, ih, List.replicate_succ, List.map_cons]
    rfl
def badM : List Str := ["", "a/", "/a", "a//b", "a/b/c/0", "abcdefg", "A", "a b"]
theorem badM_ok : ∀ z ∈ badM, z.length ≤ 100 ∧ PyData.strOk z = true := by decide +kernel
section
variable {P : Program} {w : World} {K : PySem.W.Frag} {mg : Str → Option Value} {base : Heap}
def sp_l_bent (K : PySem.W.Frag) : Sp := fun vs H Q _ => ∃ (c l : Addr) (F : Hp) (wc : List V) (rows : List (Int × Int)) (wp : List V) (ps : List Pt), vs = [.ref c, .ref l] ∧ Has F [(c, .lst wc)] H ∧ DqAll F wc (rows.map cellD) ∧ rows.length ≤ 100 ∧ F l = some (.lst wp) ∧ DqAll F wp (ps.map pD) ∧ ps.length = 4 ∧ (∀ q ∈ ps, PtG q) ∧
  ∀ p H' F' (wc' : List V) (rows' : List (Int × Int)) (ws : List V) (ps : List Pt), Same F F' → Has F' [(p, .lst ws), (c, .lst wc')] H' → DqAll F' wc' (rows'.map cellD) → rows'.length ≤ 100 → DqAll F' ws (ps.map pD) → ps.length = 4 → (∀ q ∈ ps, PtG q) → Q (.ref p) H'
theorem sp_l_bent_len {vs H Q E} (h : sp_l_bent K vs H Q E) : vs.length = 2 := by
  obtain ⟨_, _, _, _, _, _, _, rfl, _⟩ := h
  rfl
set_option maxHeartbeats 2000000 in
theorem ok_l_bent (T : Txt K mg) : FnOk P w K mg base CX0 2 T.f_l_bent T.fd_l_bent ["cells", "puts"] (sp_l_bent K) := by
  refine T.F_l_bent.ok sc_l_bent (fun vs H Q E h => sp_l_bent_len h) (fun cdv A outer s H vs Q E hr h => ?_)
  refine ⟨_, (pss_cons (ps_set (i := 2) sc_l_bent.nd rfl (.inl rfl) (pe_lst (pa_cons pe_str (pa_cons pe_str (pa_cons pe_str (pa_cons pe_str (pa_cons pe_str (pa_cons pe_str (pa_cons pe_str (pa_cons pe_str pa_nil))))))))))
      (pss_cons (ps_set (i := 3) sc_l_bent.nd rfl (.inl rfl) (pe_lst pa_nil))
      (pss_cons (ps_for PassesOwn.never rfl (pi_range1 rfl T.m_range (pa_cons pe_int pa_nil)) (pg_name (i := 4) sc_l_bent.nd rfl (.inl rfl)) (pss_cons (ps_set (i := 5) sc_l_bent.nd rfl (.inl rfl) (pe_ix (ix_K K (hu_of hr)) (pe_ix (ix_K K (hu_of hr)) (pv 1) (pv 4) (fun _ _ => rfl)) pe_int (fun _ _ => rfl)))
      (pss_cons (ps_set (i := 6) sc_l_bent.nd rfl (.inl rfl) (pe_ix (ix_K K (hu_of hr)) (pe_ix (ix_K K (hu_of hr)) (pv 1) (pv 4) (fun _ _ => rfl)) pe_int (fun _ _ => rfl)))
      (pss_cons (ps_set (i := 7) sc_l_bent.nd rfl (.inl rfl) (pe_op op_mod (pe_callTy cr_int1 (by rfl) T.m_int (by decide +kernel) (pa_cons (pe_op (op_addK K) (pe_call (ok_l_next T) (hr.mono (by decide)) (by rfl) T.g_l_next T.F_l_next.kp T.b_l_next .nil pass0 (pa_cons (pv 0) (pa_cons pe_int pa_nil))) (pe_op op_mulA pe_int (pe_op op_fdiv (pv 4) pe_int))) pa_nil)) pe_int))
      (pss_cons (ps_set (i := 8) sc_l_bent.nd rfl (.inl rfl) (pe_lst (pa_cons (pv 6) (pa_cons (pv 6) (pa_cons (pv 6) (pa_cons (pe_op (op_repTK K) (pe_tup (pa_cons pe_str pa_nil)) pe_int) (pa_cons (pe_op (op_repTK K) (pe_tup (pa_cons pe_str pa_nil)) pe_int) (pa_cons (pe_tup (pa_cons pe_str (pa_cons pe_str pa_nil))) pa_nil))))))))
      (pss_cons (ps_set (i := 8) sc_l_bent.nd rfl (.inl rfl) (pe_op (op_addK K) (pv 8) (pe_lst (pa_cons (pe_tup (pa_cons pe_str (pa_cons (pe_op op_repS pe_str pe_int) (pa_cons pe_str pa_nil)))) (pa_cons (pe_tup (pa_cons (pe_op op_repS pe_str pe_int) pa_nil)) (pa_cons (pv 6) (pa_cons (pv 6) pa_nil)))))))
      (pss_cons (ps_set (i := 9) sc_l_bent.nd rfl (.inl rfl) (pe_op (op_addK K) (pe_op op_mulA (pe_lst (pa_cons (pv 5) pa_nil)) pe_int) (pe_lst (pa_cons (pe_ix (ix_K K (hu_of hr)) (pe_ix (ix_K K (hu_of hr)) (pv 1) (pe_callB (cr_max2 rfl) (by rfl) T.m_max (by decide +kernel) (pa_cons pe_int (pa_cons (pe_op op_sub (pv 4) pe_int) pa_nil))) (fun _ _ => rfl)) pe_int (fun _ _ => rfl)) (pa_cons (pe_ix (ix_K K (hu_of hr)) (pv 2) (pe_call (ok_l_next T) (hr.mono (by decide)) (by rfl) T.g_l_next T.F_l_next.kp T.b_l_next .nil pass0 (pa_cons (pv 0) (pa_cons pe_int pa_nil))) (fun _ _ => rfl)) pa_nil)))))
      (pss_one (ps_expr (k_bm K (pe_bm PySem.F.plainAttrs_list PySem.F.slot_list_append PySem.F.type_list_append mt_append (pv 3) (pa_cons (pe_tup (pa_cons (pe_ix (ix_K K (hu_of hr)) (pv 9) (pv 7) (fun _ _ => rfl)) (pa_cons (pe_ix (ix_K K (hu_of hr)) (pv 8) (pv 7) (fun _ _ => rfl)) pa_nil))) pa_nil))))))))))))
      (pss_one (ps_ret (pv 3)))))), ?_⟩
  obtain ⟨c, l, F, wc, rows, wp, pp, rfl, h, dqc, lr, fl, dp, lpp, gpp, q⟩ := h
  have lwp := dp.len
  rw [List.length_map] at lwp
  refine g_start (σ' := [some (.ref c), some (.ref l), none, none, none, none, none, none, none, none]) rfl ?_
  walk_at "gg"
  refine g_klstF (by walk_at "sz") h (fun bd H0 F0 n0 s0 fb h => ?_)
  walk_at "gg"
  refine g_klst (by walk_at "sz") h (fun p1 H1 n1 h1 => ?_)
  have dqc := dqc.up s0 _ _
  walk_at "gg"
  refine k_forR1 (fun t σ H' => ∃ (y4 y5 y6 y7 y8 y9 : Option V) (F' : Hp) (wc : List V) (rows : List (Int × Int)) (ws : List V) (ps : List Pt), σ = [some (.ref c), some (.ref l), some (.ref bd), some (.ref p1), y4, y5, y6, y7, y8, y9] ∧ Same F0 F' ∧ Has F' [(p1, .lst ws), (c, .lst wc)] H' ∧ DqAll F' wc (rows.map cellD) ∧ rows.length ≤ 100 ∧ DqAll F' ws (ps.map pD) ∧ ps.length = t ∧ ∀ q ∈ ps, PtG q) (by decide) (by decide) ⟨_, _, _, _, _, _, F0, wc, rows, [], [], rfl, Same.refl _, h1, dqc, lr, .nil, rfl, by simp⟩ ?_ ?_
  · rintro t σ H2 ht ⟨y4, y5, y6, y7, y8, y9, F2, wc, rows, ws, ps, rfl, s2, h2, dqc, lr, dw, rfl, gp⟩
    have ht : ps.length < 4 := ht
    have lw := dw.len
    rw [List.length_map] at lw
    have s02 := s0.trans s2
    have pathAt : ∀ i : Nat, i < 4 → ∃ Tp p u, wp[i]? = some (.ref Tp) ∧ PtG p ∧ F Tp = some (.tup [.str p.1, u]) ∧ Dq F u (otD p.2) := fun i hi => by
      have eu : wp[i]? = some (wp[i]'(by omega)) := List.getElem?_eq_getElem (by omega)
      obtain ⟨dd, ed, dx⟩ := dp.get eu
      rw [List.getElem?_map] at ed
      obtain ⟨p, ep, rfl⟩ := Option.map_eq_some_iff.mp ed
      obtain ⟨Tp, u, e, hT, du⟩ := pD_inv dx
      rw [e] at eu
      exact ⟨Tp, p, u, eu, gpp p (List.mem_of_getElem? ep), hT, du⟩
    obtain ⟨Tp, p, u, eu, gP, hT, du⟩ := pathAt ps.length ht
    walk_at "gg"
    refine g_ixL (v := .ref Tp) (h2.same _ _ (s02 _ _ fl)) (atI_nat eu) ?_
    walk_at "gg"
    refine g_ixT (v := .str p.1) (h2.same _ _ (s02 _ _ hT)) (atI_nat (j := 0) rfl) ?_
    walk_at "gg"
    refine g_ixL (v := .ref Tp) (h2.same _ _ (s02 _ _ fl)) (atI_nat eu) ?_
    walk_at "gg"
    refine g_ixT (v := u) (h2.same _ _ (s02 _ _ hT)) (atI_nat (j := 1) rfl) ?_
    walk_at "gg"
    refine ⟨c, 10, F2, wc, rows, rfl, h2.drop, dqc, lr, by decide, by decide, fun H3 F3 wc rows r hb g hs dqc lr r0 r1 => ?_⟩
    have h3 := h2.grown (by walk_at "c") hb g hs.same (hs.get (List.Mem.head _))
    have s3 := g.1
    clear hb g hs
    walk_at "gg"
    refine g_rI ⟨by omega, by omega⟩ ?_
    walk_at "gg"
    refine g_mulI (.inl ⟨by decide, by decide⟩) ?_
    walk_at "gg"
    refine g_rI (by show (0 : Int) < 10; decide) ?_
    have k0 : 0 ≤ (r + 4 * ((ps.length : Nat) / 2 : Int)) % 10 := Int.emod_nonneg _ (by decide)
    have k1 : (r + 4 * ((ps.length : Nat) / 2 : Int)) % 10 < 10 := Int.emod_lt_of_pos _ (by decide)
    generalize (r + 4 * ((ps.length : Nat) / 2 : Int)) % 10 = kind at k0 k1
    walk_at "gg"
    -- the rows
    refine g_ktupF (by walk_at "sz") h3 (fun t1 H4 F4 n4 s4 f4 h4 => ?_)
    walk_at "gg"
    refine g_repT (h4.same _ _ f4) (by simp) (by decide) (by decide) (by decide) h4 (fun t2 H5 F5 n5 s5 f5 h5 => ?_)
    rw [rep_str] at f5
    walk_at "gg"
    refine g_ktupF (by walk_at "sz") h5 (fun t3 H6 F6 n6 s6 f6 h6 => ?_)
    walk_at "gg"
    refine g_repT (h6.same _ _ f6) (by simp) (by decide) (by decide) (by decide) h6 (fun t4 H7 F7 n7 s7 f7 h7 => ?_)
    rw [rep_str] at f7
    walk_at "gg"
    refine g_ktupF (by walk_at "sz") h7 (fun t5 H8 F8 n8 s8 f8 h8 => ?_)
    walk_at "gg"
    refine g_klstF (by walk_at "sz") h8 (fun ra H9 F9 n9 s9 f9 h9 => ?_)
    walk_at "gg"
    refine g_repS (by decide) (by decide) (by decide) ?_
    walk_at "gg"
    refine g_ktupF (by walk_at "sz") h9 (fun t6 H10 F10 n10 s10 f10 h10 => ?_)
    walk_at "gg"
    refine g_repS (by decide) (by decide) (by decide) ?_
    walk_at "gg"
    refine g_ktupF (by walk_at "sz") h10 (fun t7 H11 F11 n11 s11 f11 h11 => ?_)
    walk_at "gg"
    refine g_klst (by walk_at "sz") h11 (fun rb H12 n12 h12 => ?_)
    have s9B : Same F9 F11 := s10.trans s11
    refine g_addL ((s9B.trans h12.same) _ _ f9) (h12.get (List.Mem.head _)) (by walk_at "sz") h12 (fun rr H13 n13 h13 => ?_)
    have h13 := h13.sub (O' := [(rr, .lst ([u, u, u, V.ref t2, V.ref t4, V.ref t5] ++ [V.ref t6, V.ref t7, u, u])), (p1, .lst ws), (c, .lst wc)]) (by walk_at "sub")
    have s3B : Same F3 F11 := s4.trans (s5.trans (s6.trans (s7.trans (s8.trans (s9.trans s9B)))))
    have ru : RwG F11 u := ⟨p.2, du.up (s02.trans (s3.trans s3B)) _ _, gP.2⟩
    have allR : ∀ v ∈ [u, u, u, V.ref t2, V.ref t4, V.ref t5] ++ [V.ref t6, V.ref t7, u, u], RwG F11 v := fun v hv => by
      simp only [List.cons_append, List.nil_append, List.mem_cons, List.not_mem_nil, or_false] at hv
      have e2 : RwG F11 (.ref t2) := RwG.tup (t := List.replicate 40 "b") ((s6.trans (s7.trans (s8.trans (s9.trans s9B)))) _ _ f5) (OtG.of (by decide +kernel))
      have e4 : RwG F11 (.ref t4) := RwG.tup (t := List.replicate 41 "a") ((s8.trans (s9.trans s9B)) _ _ f7) (OtG.of (by decide +kernel))
      have e5 : RwG F11 (.ref t5) := RwG.tup (t := ["", "A"]) ((s9.trans s9B) _ _ f8) (OtG.of (by decide +kernel))
      have e6 : RwG F11 (.ref t6) := RwG.tup (t := ["b", repS "a" 21, "b"]) (s11 _ _ f10) (OtG.of (by decide +kernel))
      have e7 : RwG F11 (.ref t7) := RwG.tup (t := [repS "a" 20]) f11 (OtG.of (by decide +kernel))
      rcases hv with rfl | rfl | rfl | rfl | rfl | rfl | rfl | rfl | rfl | rfl
      · exact ru
      · exact ru
      · exact ru
      · exact e2
      · exact e4
      · exact e5
      · exact e6
      · exact e7
      · exact ru
      · exact ru
    have lR : ([u, u, u, V.ref t2, V.ref t4, V.ref t5] ++ [V.ref t6, V.ref t7, u, u]).length = 10 := rfl
    generalize [u, u, u, V.ref t2, V.ref t4, V.ref t5] ++ [V.ref t6, V.ref t7, u, u] = rv at h13 allR lR
    have frr : upd F11 rr (.lst rv) rr = some (.lst rv) := upd_same
    have sG := h13.grow
    have h := h13.frz
    have allR : ∀ v ∈ rv, RwG (upd F11 rr (.lst rv)) v := fun v hv => (allR v hv).up sG
    have s3C := s3B.trans sG
    have dqc := dqc.up s3C _ _
    generalize upd F11 rr (.lst rv) = F13 at h frr allR s3C dqc
    have s0D : Same F F13 := s02.trans (s3.trans s3C)
    have fbD := (s2.trans (s3.trans s3C)) _ _ fb
    clear h3 h4 h5 h6 h7 h8 h9 h10 h11 h12 h13 f4 f5 f6 f7 f8 f9 f10 f11 sG s4 s5 s6 s7 s8 s9 s9B s10 s11 ru
    walk_at "gg"
    refine g_klst (by walk_at "sz") h (fun w1 H14 n14 h14 => ?_)
    walk_at "gg"
    refine g_mulL (h14.get (List.Mem.head _)) (by decide) (by decide) (sz (by show 1 * _ ≤ _; decide)) h14 (fun w8 H15 n15 h15 => ?_)
    rw [rep_str] at h15
    walk_at "gg"
    obtain ⟨Tq, pq, uq, eq, gq, hTq, _⟩ := pathAt (ps.length - 1) (by omega)
    have em : max (0 : Int) ((ps.length : Nat) - 1) = ((ps.length - 1 : Nat) : Int) := by omega
    rw [em]
    refine g_ixL (v := .ref Tq) ((s0D.trans h15.same) _ _ fl) (atI_nat eq) ?_
    walk_at "gg"
    refine g_ixT (v := .str pq.1) ((s0D.trans h15.same) _ _ hTq) (atI_nat (j := 0) rfl) ?_
    walk_at "gg"
    refine ⟨c, 8, F13, wc, rows, rfl, h15.sub (by walk_at "sub"), dqc, lr, by decide, by decide, fun H16 F16 wc rows rb hb g hs dqc lr b0 b1 => ?_⟩
    have h16 := h15.grown (by walk_at "c") hb g hs.same (hs.get (List.Mem.head _))
    have s16 := g.1
    clear hb g hs
    refine g_ixZ (xs := badM) (h16.same _ _ (s16 _ _ fbD)) b0 (by exact b1) (fun z hz => ?_)
    have bz := badM_ok z (List.mem_of_getElem? hz)
    walk_at "gg"
    refine g_klst (by walk_at "sz") h16 (fun w2 H17 n17 h17 => ?_)
    refine g_addL (h17.get (by walk_at "m")) (h17.get (List.Mem.head _)) (sz (by rw [List.length_map, List.length_replicate]; show 8 + 2 ≤ _; decide)) h17 (fun wy H18 n18 h18 => ?_)
    have allW : ∀ v ∈ (List.replicate (8 : Int).toNat p.1).map V.str ++ [V.str pq.1, V.str z], WyG v := fun v hv => by
      rcases List.mem_append.mp hv with hv | hv
      · obtain ⟨y, hy, rfl⟩ := List.mem_map.mp hv
        rw [(List.mem_replicate.mp hy).2]
        exact ⟨p.1, rfl, gP.1⟩
      · simp only [List.mem_cons, List.not_mem_nil, or_false] at hv
        rcases hv with rfl | rfl
        · exact ⟨_, rfl, gq.1⟩
        · exact ⟨_, rfl, bz⟩
    have lW : ((List.replicate (8 : Int).toNat p.1).map V.str ++ [V.str pq.1, V.str z]).length = 10 := rfl
    generalize (List.replicate (8 : Int).toNat p.1).map V.str ++ [V.str pq.1, V.str z] = wv at h18 allW lW
    have h18 := h18.sub (O' := [(wy, .lst wv), (p1, .lst ws), (c, .lst wc)]) (by walk_at "sub")
    walk_at "gg"
    refine g_ixV (h18.get (List.Mem.head _)) k0 (by rw [lW]; exact k1) (fun v hv => ?_)
    obtain ⟨zz, rfl, gz⟩ := allW v (List.mem_of_getElem? hv)
    walk_at "gg"
    refine g_ixV (h18.same _ _ (s16 _ _ frr)) k0 (by rw [lR]; exact k1) (fun v2 hv2 => ?_)
    obtain ⟨oo, dv2, go⟩ := allR v2 (List.mem_of_getElem? hv2)
    walk_at "gg"
    refine g_ktupF (by walk_at "sz") h18 (fun p9 H19 F19 n19 s19 f19 h19 => ?_)
    walk_at "gg"
    refine g_append h19 (.tl .hd) (szl (by omega)) (fun H20 h20 => ?_)
    have sA := s3.trans (s3C.trans (s16.trans s19))
    walk_at "gg"
    refine ⟨_, _, _, _, _, _, F19, wc, rows, _, ps ++ [(zz, oo)], rfl, s2.trans sA, h20.drop, dqc.up s19 _ _, lr, ?_, by rw [List.length_append]; rfl, fun x hx => ?_⟩
    · rw [List.map_append]
      exact (dw.up sA _ _).snoc (.tup f19 (.cons (.str _) (.cons (dv2.up (s16.trans s19) _ _) .nil)))
    · rcases List.mem_append.mp hx with hx | hx
      · exact gp x hx
      · rw [List.mem_singleton.mp hx]
        exact ⟨gz, go⟩
  · rintro σ H2 ⟨y4, y5, y6, y7, y8, y9, F2, wc, rows, ws, ps, rfl, s2, h2, dqc, lr, dw, lp, gp⟩
    walk_at "gg"
    exact q p1 H2 F2 wc rows ws ps (s0.trans s2) h2 dqc lr dw lp gp
end

end K07

namespace K07
open PySem PySem.Spec PyProof.Rows L2 Qk
local macro_rules | `(tactic| walk_at "m") => `(tactic| ((repeat (first | exact List.Mem.head _ | apply List.Mem.tail)); done))
local macro_rules | `(tactic| walk_at "h") => `(tactic| first | assumption | exact Has.gF (by assumption) (by assumption) | exact Has.get (by assumption) (by walk_at "m"))
local macro_rules | `(tactic| walk_at "c") => `(tactic| ((repeat (first | exact Chg.hd | apply Chg.tl)); done))
local macro_rules | `(tactic| walk_at "is") => `(tactic| first
  | ((with_reducible refine' is2_non ?gh ?_); (case gh => walk_at "h"))
  | (with_reducible refine is_int_list ?_)
  | (with_reducible refine is_int_tuple ?_)
  | (with_reducible refine is_int_dict ?_)
  | (with_reducible refine is_int_int ?_)
  | (with_reducible refine is_int_bool ?_)
  | (with_reducible refine is_int_str ?_)
  | ((with_reducible refine' is2_int ?gh ?_); (case gh => walk_at "h"))
  | (with_reducible refine is_str_list ?_)
  | (with_reducible refine is_str_tuple ?_)
  | (with_reducible refine is_str_dict ?_)
  | (with_reducible refine is_str_int ?_)
  | (with_reducible refine is_str_bool ?_)
  | (with_reducible refine is_str_str ?_)
  | ((with_reducible refine' is2_str ?gh ?_); (case gh => walk_at "h"))
  | (with_reducible refine is_bool_list ?_)
  | (with_reducible refine is_bool_tuple ?_)
  | (with_reducible refine is_bool_dict ?_)
  | (with_reducible refine is_bool_int ?_)
  | (with_reducible refine is_bool_bool ?_)
  | (with_reducible refine is_bool_str ?_)
  | ((with_reducible refine' is2_bool ?gh ?_); (case gh => walk_at "h"))
  | ((with_reducible refine' is_list_list ?gh ?_); (case gh => walk_at "h"))
  | ((with_reducible refine' is_list_tuple ?gh ?_); (case gh => walk_at "h"))
  | ((with_reducible refine' is_list_dict ?gh ?_); (case gh => walk_at "h"))
  | ((with_reducible refine' is_list_int ?gh ?_); (case gh => walk_at "h"))
  | ((with_reducible refine' is_list_bool ?gh ?_); (case gh => walk_at "h"))
  | ((with_reducible refine' is_list_str ?gh ?_); (case gh => walk_at "h"))
  | ((with_reducible refine' is2_list ?ga ?gb ?_); (case ga => walk_at "h"); (case gb => walk_at "h"))
  | ((with_reducible refine' is_tuple_list ?gh ?_); (case gh => walk_at "h"))
  | ((with_reducible refine' is_tuple_tuple ?gh ?_); (case gh => walk_at "h"))
  | ((with_reducible refine' is_tuple_dict ?gh ?_); (case gh => walk_at "h"))
  | ((with_reducible refine' is_tuple_int ?gh ?_); (case gh => walk_at "h"))
  | ((with_reducible refine' is_tuple_bool ?gh ?_); (case gh => walk_at "h"))
  | ((with_reducible refine' is_tuple_str ?gh ?_); (case gh => walk_at "h"))
  | ((with_reducible refine' is2_tuple ?ga ?gb ?_); (case ga => walk_at "h"); (case gb => walk_at "h"))
  | ((with_reducible refine' is_dict_list ?gh ?_); (case gh => walk_at "h"))
  | ((with_reducible refine' is_dict_tuple ?gh ?_); (case gh => walk_at "h"))
  | ((with_reducible refine' is_dict_dict ?gh ?_); (case gh => walk_at "h"))
  | ((with_reducible refine' is_dict_int ?gh ?_); (case gh => walk_at "h"))
  | ((with_reducible refine' is_dict_bool ?gh ?_); (case gh => walk_at "h"))
  | ((with_reducible refine' is_dict_str ?gh ?_); (case gh => walk_at "h"))
  | ((with_reducible refine' is2_dict ?ga ?gb ?_); (case ga => walk_at "h"); (case gb => walk_at "h")))
local macro_rules | `(tactic| walk_at "g") => `(tactic| first
  | (with_reducible refine g_seq ?_)
  | (with_reducible refine g_asg ?_)
  | ((with_reducible refine g_name ?_); dsimp only [List.set, wipe, List.map])
  | ((with_reducible refine' g_var ?gv ?_); (case gv => exact rfl))
  | (with_reducible refine g_c ?_)
  | (with_reducible refine g_op ?_)
  | (with_reducible refine g_cons ?_)
  | (with_reducible refine g_nil ?_)
  | (with_reducible refine g_cb ?_)
  | (with_reducible refine g_call ?_)
  | (with_reducible refine g_tup ?_)
  | (with_reducible refine g_lst ?_)
  | (with_reducible refine g_bm ?_)
  | (with_reducible refine g_bm0 ?_)
  | ((with_reducible refine' g_kbm ?gh ?_); (case gh => walk_at "h"))
  | (with_reducible refine g_drop ?_)
  | (with_reducible refine g_ret ?_)
  | (with_reducible refine g_retN ?_)
  | (with_reducible refine g_next ?_)
  | (with_reducible refine g_brk ?_)
  | (with_reducible refine g_cont ?_)
  | (with_reducible refine g_if ?_)
  | ((with_reducible refine' g_aug ?gv ?_); (case gv => exact rfl))
  | (with_reducible refine g_ipI ?_)
  | (with_reducible refine g_test ?_)
  | (with_reducible refine g_tB ?_)
  | (with_reducible refine g_kB ?_)
  | (with_reducible refine g_not ?_)
  | (with_reducible refine g_and ?_)
  | (with_reducible refine g_or ?_)
  | (with_reducible refine g_andV ?_)
  | (with_reducible refine g_orV ?_)
  | (with_reducible refine g_notV ?_)
  | (with_reducible refine g_ifE ?_)
  | (with_reducible refine g_addI ?_)
  | (with_reducible refine g_rI0 ?_)
  | (with_reducible refine g_eqI ?_)
  | (with_reducible refine g_eqS ?_)
  | (with_reducible refine g_neI ?_)
  | (with_reducible refine g_neS ?_)
  | (with_reducible refine g_isN ?_)
  | (with_reducible refine g_notN ?_)
  | (with_reducible refine g_int ?_)
  | (with_reducible refine g_max2 ?_)
  | (with_reducible refine g_min2 ?_)
  | ((with_reducible refine' g_lenL ?gh ?_); (case gh => walk_at "h"))
  | (with_reducible refine g_sub ?_)
  | (with_reducible refine g_gcons ?_)
  | (with_reducible refine g_gnil ?_)
  | (with_reducible refine g_un ?_)
  | (with_reducible refine g_rU ?_)
  | (with_reducible refine g_forL ?_)
  | (with_reducible refine g_forS ?_)
  | (with_reducible refine g_forR1 ?_)
  | (with_reducible refine g_forR2 ?_)
  | (with_reducible refine g_forR3 ?_)
  | (with_reducible refine g_lcL ?_)
  | (with_reducible refine g_lcR1 ?_)
  | (with_reducible refine g_lcR2 ?_)
  | (with_reducible refine g_slice ?_)
  | (with_reducible refine g_part ?_)
  | (with_reducible refine g_kOI ?_)
  | (with_reducible refine g_nopart ?_)
  | (with_reducible refine g_yes ?_)
  | ((with_reducible refine' g_wipe ?gv ?_); (case gv => exact rfl))
  | (with_reducible refine iteT ?_)
  | (with_reducible refine iteF ?_)
  | (with_reducible refine i_nf ?_)
  | (with_reducible refine i_nt ?_)
  | ((with_reducible refine' g_gtup ?gh ?gl ?_); (case gh => walk_at "h"); (case gl => exact rfl))
  | ((with_reducible refine' g_notinI ?gh ?_); (case gh => walk_at "h"))
  | ((with_reducible refine' g_inI ?gh ?_); (case gh => walk_at "h"))
  | ((with_reducible refine' g_kget2 ?gh ?_); (case gh => walk_at "h"))
  | ((with_reducible refine' g_kgotI ?gh ?_); (case gh => walk_at "h"))
  | (with_reducible refine g_tRev ?_)
  | (with_reducible refine g_neB ?_)
  | (with_reducible refine g_eqB ?_)
  | ((with_reducible refine' g_lenT ?gh ?_); (case gh => walk_at "h"))
  | (with_reducible refine g_star ?_)
  | ((with_reducible refine' g_kstarL ?gh ?_); (case gh => walk_at "h"))
  | ((with_reducible refine' g_kstarT ?gh ?_); (case gh => walk_at "h"))
  | (with_reducible refine g_tru ?_)
  | ((with_reducible refine' g_truL ?gh ?_); (case gh => walk_at "h"))
  | (with_reducible refine g_get2 ?_)
  | (with_reducible refine g_try ?_)
  | (with_reducible refine g_fld ?_)
  | (with_reducible refine g_sfld ?_)
  | (with_reducible refine g_meth ?_)
  | (with_reducible refine g_make ?_)
  | (with_reducible refine g_del ?_)
  | (with_reducible refine g_callS ?_)
  | (with_reducible refine g_raise ?_)
  | (with_reducible refine g_xf ?_)
  | (with_reducible refine g_m0 ?_)
  | (with_reducible refine g_km0 ?_)
  | walk_at "is")
local macro_rules | `(tactic| walk_at "gg") => `(tactic| repeat walk_at "g")
local macro_rules | `(tactic| walk_at "sz") => `(tactic| (refine sz ?_; simp only [List.length_cons, List.length_nil, List.length_map, List.length_append, List.length_replicate]; omega))
local macro_rules | `(tactic| walk_at "sub") => `(tactic| ((repeat (first | exact List.Sublist.slnil | with_reducible apply List.Sublist.cons_cons | with_reducible apply List.Sublist.cons)); done))

local macro_rules | `(tactic| walk_at "g") => `(tactic| first
  | (with_reducible refine g_dcL ?_)
  | (with_reducible refine g_dcT ?_)
  | (with_reducible refine g_m1s ?_)
  | (with_reducible refine g_km1s ?_)
  | (with_reducible refine g_starts ?_)
  | (with_reducible refine g_tryX ?_)
  | (with_reducible refine g_lcS ?_))

/-! ### the puts between two trees -/
theorem way_path (i : Int) : isPath (way i) = true := by
  have h : ∀ k, k < 8 → isPath (wayM.getD k "") = true := by decide +kernel
  exact h _ (by omega)
theorem gd_ok {o : Option Tx} (h : gdO o) : okText o = true := by
  cases o with
  | none => rfl
  | some t =>
    rw [okText_iff]
    have := h.2 t rfl
    exact ⟨by omega, fun z hz => (this.2 z hz).2⟩
theorem badPs_none : ∀ (ps : List Pt) (k : Nat) (seen : List Str), (∀ p ∈ ps, isPath p.1 = true ∧ okText p.2 = true) → (ps.map (·.1)).Nodup → (∀ p ∈ ps, p.1 ∉ seen) → badPs k seen ps = none
  | [], _, _, _, _, _ => rfl
  | p :: r, k, seen, h, n, ns => by
    rw [List.map_cons] at n
    have n' := List.nodup_cons.mp n
    have hp := h p List.mem_cons_self
    unfold badPs
    rw [if_pos hp.1, if_neg (ns p List.mem_cons_self), if_pos hp.2]
    refine badPs_none r (k + 1) _ (fun q hq => h q (List.mem_cons_of_mem _ hq)) n'.2 fun q hq m => ?_
    rcases List.mem_append.mp m with m | m
    · exact ns q (List.mem_cons_of_mem _ hq) m
    · rw [List.mem_singleton] at m
      exact n'.1 (List.mem_map.mpr ⟨q, hq, m⟩)
theorem putL_keys (A B : Tr) : ∀ us : List Str, ((putL (chgL A B us)).map (·.1)).Sublist us
  | [] => List.Sublist.refl _
  | z :: r => by
    have ih := putL_keys A B r
    unfold putL chgL at ih ⊢
    by_cases h : getT A z = getT B z
    · rw [List.filterMap_cons_none (by rw [if_pos h])]
      exact ih.cons _
    · rw [List.filterMap_cons_some (b := (z, getT A z, getT B z)) (by rw [if_neg h]), List.map_cons, List.map_cons]
      exact ih.cons_cons _
theorem runP_putL (A B : Tr) : ∀ (us : List Str) (f : Str → Option Tx), (∀ z ∈ us, f z = getT A z) → us.Nodup → ∀ z, runP f (putL (chgL A B us)) z = if z ∈ us then getT B z else f z
  | [], f, _, _, z => by
    rw [if_neg (by simp)]
    rfl
  | y :: r, f, hf, n, z => by
    have n' := List.nodup_cons.mp n
    by_cases h : getT A y = getT B y
    · have e : putL (chgL A B (y :: r)) = putL (chgL A B r) := by
        unfold putL chgL
        rw [List.filterMap_cons_none (by rw [if_pos h])]
      rw [e, runP_putL A B r f (fun z hz => hf z (List.mem_cons_of_mem _ hz)) n'.2 z]
      by_cases c : z = y
      · subst c
        rw [if_neg n'.1, if_pos List.mem_cons_self, hf z List.mem_cons_self, h]
      · by_cases m : z ∈ r
        · rw [if_pos m, if_pos (List.mem_cons_of_mem _ m)]
        · rw [if_neg m, if_neg (by rw [List.mem_cons]; exact fun k => k.elim c m)]
    · have e : putL (chgL A B (y :: r)) = (y, getT B y) :: putL (chgL A B r) := by
        unfold putL chgL
        rw [List.filterMap_cons_some (b := (y, getT A y, getT B y)) (by rw [if_neg h]), List.map_cons]
      have e2 : runP f ((y, getT B y) :: putL (chgL A B r)) = runP (upF f y (getT B y)) (putL (chgL A B r)) := rfl
      rw [e, e2, runP_putL A B r _ (fun z hz => by
        unfold upF
        rw [if_neg (fun e => n'.1 (by rw [← e]; exact hz))]
        exact hf z (List.mem_cons_of_mem _ hz)) n'.2 z]
      unfold upF
      by_cases c : z = y
      · subst c
        rw [if_neg n'.1, if_pos rfl, if_pos List.mem_cons_self]
      · by_cases m : z ∈ r
        · rw [if_pos m, if_pos (List.mem_cons_of_mem _ m)]
        · rw [if_neg m, if_neg c, if_neg (by rw [List.mem_cons]; exact fun k => k.elim c m)]
theorem runP_due {A B : Tr} {us : List Str} (bo : Both A B us) : runP (getT A) (putL (chgL A B us)) = getT B := by
  funext z
  rw [runP_putL A B us (getT A) (fun _ _ => rfl) bo.1.nodup z]
  by_cases m : z ∈ us
  · rw [if_pos m]
  · rw [if_neg m, getT_none.mpr (fun h => m ((bo.2 z).mpr (.inl h))), getT_none.mpr (fun h => m ((bo.2 z).mpr (.inr h)))]

end K07

namespace K07
open PySem PySem.Spec PyProof.Rows L2 Qk
local macro_rules | `(tactic| walk_at "m") => `(tactic| ((repeat (first | exact List.Mem.head _ | apply List.Mem.tail)); done))
local macro_rules | `(tactic| walk_at "h") => `(tactic| first | assumption | exact Has.gF (by assumption) (by assumption) | exact Has.get (by assumption) (by walk_at "m"))
local macro_rules | `(tactic| walk_at "c") => `(tactic| ((repeat (first | exact Chg.hd | apply Chg.tl)); done))
local macro_rules | `(tactic| walk_at "is") => `(tactic| first
  | ((with_reducible refine' is2_non ?gh ?_); (case gh => walk_at "h"))
  | (with_reducible refine is_int_list ?_)
  | (with_reducible refine is_int_tuple ?_)
  | (with_reducible refine is_int_dict ?_)
  | (with_reducible refine is_int_int ?_)
  | (with_reducible refine is_int_bool ?_)
  | (with_reducible refine is_int_str ?_)
  | ((with_reducible refine' is2_int ?gh ?_); (case gh => walk_at "h"))
  | (with_reducible refine is_str_list ?_)
  | (with_reducible refine is_str_tuple ?_)
  | (with_reducible refine is_str_dict ?_)
  | (with_reducible refine is_str_int ?_)
  | (with_reducible refine is_str_bool ?_)
  | (with_reducible refine is_str_str ?_)
  | ((with_reducible refine' is2_str ?gh ?_); (case gh => walk_at "h"))
  | (with_reducible refine is_bool_list ?_)
  | (with_reducible refine is_bool_tuple ?_)
  | (with_reducible refine is_bool_dict ?_)
  | (with_reducible refine is_bool_int ?_)
  | (with_reducible refine is_bool_bool ?_)
  | (with_reducible refine is_bool_str ?_)
  | ((with_reducible refine' is2_bool ?gh ?_); (case gh => walk_at "h"))
  | ((with_reducible refine' is_list_list ?gh ?_); (case gh => walk_at "h"))
  | ((with_reducible refine' is_list_tuple ?gh ?_); (case gh => walk_at "h"))
  | ((with_reducible refine' is_list_dict ?gh ?_); (case gh => walk_at "h"))
  | ((with_reducible refine' is_list_int ?gh ?_); (case gh => walk_at "h"))
  | ((with_reducible refine' is_list_bool ?gh ?_); (case gh => walk_at "h"))
  | ((with_reducible refine' is_list_str ?gh ?_); (case gh => walk_at "h"))
  | ((with_reducible refine' is2_list ?ga ?gb ?_); (case ga => walk_at "h"); (case gb => walk_at "h"))
  | ((with_reducible refine' is_tuple_list ?gh ?_); (case gh => walk_at "h"))
  | ((with_reducible refine' is_tuple_tuple ?gh ?_); (case gh => walk_at "h"))
  | ((with_reducible refine' is_tuple_dict ?gh ?_); (case gh => walk_at "h"))
  | ((with_reducible refine' is_tuple_int ?gh ?_); (case gh => walk_at "h"))
  | ((with_reducible refine' is_tuple_bool ?gh ?_); (case gh => walk_at "h"))
  | ((with_reducible refine' is_tuple_str ?gh ?_); (case gh => walk_at "h"))
  | ((with_reducible refine' is2_tuple ?ga ?gb ?_); (case ga => walk_at "h"); (case gb => walk_at "h"))
  | ((with_reducible refine' is_dict_list ?gh ?_); (case gh => walk_at "h"))
  | ((with_reducible refine' is_dict_tuple ?gh ?_); (case gh => walk_at "h"))
  | ((with_reducible refine' is_dict_dict ?gh ?_); (case gh => walk_at "h"))
  | ((with_reducible refine' is_dict_int ?gh ?_); (case gh => walk_at "h"))
  | ((with_reducible refine' is_dict_bool ?gh ?_); (case gh => walk_at "h"))
  | ((with_reducible refine' is_dict_str ?gh ?_); (case gh => walk_at "h"))
  | ((with_reducible refine' is2_dict ?ga ?gb ?_); (case ga => walk_at "h"); (case gb => walk_at "h")))
local macro_rules | `(tactic| walk_at "g") => `(tactic| first
  | (with_reducible refine g_seq ?_)
  | (with_reducible refine g_asg ?_)
  | ((with_reducible refine g_name ?_); dsimp only [List.set, wipe, List.map])
  | ((with_reducible refine' g_var ?gv ?_); (case gv => exact rfl))
  | (with_reducible refine g_c ?_)
  | (with_reducible refine g_op ?_)
  | (with_reducible refine g_cons ?_)
  | (with_reducible refine g_nil ?_)
  | (with_reducible refine g_cb ?_)
  | (with_reducible refine g_call ?_)
  | (with_reducible refine g_tup ?_)
  | (with_reducible refine g_lst ?_)
  | (with_reducible refine g_bm ?_)
  | (with_reducible refine g_bm0 ?_)
  | ((with_reducible refine' g_kbm ?gh ?_); (case gh => walk_at "h"))
  | (with_reducible refine g_drop ?_)
  | (with_reducible refine g_ret ?_)
  | (with_reducible refine g_retN ?_)
  | (with_reducible refine g_next ?_)
  | (with_reducible refine g_brk ?_)
  | (with_reducible refine g_cont ?_)
  | (with_reducible refine g_if ?_)
  | ((with_reducible refine' g_aug ?gv ?_); (case gv => exact rfl))
  | (with_reducible refine g_ipI ?_)
  | (with_reducible refine g_test ?_)
  | (with_reducible refine g_tB ?_)
  | (with_reducible refine g_kB ?_)
  | (with_reducible refine g_not ?_)
  | (with_reducible refine g_and ?_)
  | (with_reducible refine g_or ?_)
  | (with_reducible refine g_andV ?_)
  | (with_reducible refine g_orV ?_)
  | (with_reducible refine g_notV ?_)
  | (with_reducible refine g_ifE ?_)
  | (with_reducible refine g_addI ?_)
  | (with_reducible refine g_rI0 ?_)
  | (with_reducible refine g_eqI ?_)
  | (with_reducible refine g_eqS ?_)
  | (with_reducible refine g_neI ?_)
  | (with_reducible refine g_neS ?_)
  | (with_reducible refine g_isN ?_)
  | (with_reducible refine g_notN ?_)
  | (with_reducible refine g_int ?_)
  | (with_reducible refine g_max2 ?_)
  | (with_reducible refine g_min2 ?_)
  | ((with_reducible refine' g_lenL ?gh ?_); (case gh => walk_at "h"))
  | (with_reducible refine g_sub ?_)
  | (with_reducible refine g_gcons ?_)
  | (with_reducible refine g_gnil ?_)
  | (with_reducible refine g_un ?_)
  | (with_reducible refine g_rU ?_)
  | (with_reducible refine g_forL ?_)
  | (with_reducible refine g_forS ?_)
  | (with_reducible refine g_forR1 ?_)
  | (with_reducible refine g_forR2 ?_)
  | (with_reducible refine g_forR3 ?_)
  | (with_reducible refine g_lcL ?_)
  | (with_reducible refine g_lcR1 ?_)
  | (with_reducible refine g_lcR2 ?_)
  | (with_reducible refine g_slice ?_)
  | (with_reducible refine g_part ?_)
  | (with_reducible refine g_kOI ?_)
  | (with_reducible refine g_nopart ?_)
  | (with_reducible refine g_yes ?_)
  | ((with_reducible refine' g_wipe ?gv ?_); (case gv => exact rfl))
  | (with_reducible refine iteT ?_)
  | (with_reducible refine iteF ?_)
  | (with_reducible refine i_nf ?_)
  | (with_reducible refine i_nt ?_)
  | ((with_reducible refine' g_gtup ?gh ?gl ?_); (case gh => walk_at "h"); (case gl => exact rfl))
  | ((with_reducible refine' g_notinI ?gh ?_); (case gh => walk_at "h"))
  | ((with_reducible refine' g_inI ?gh ?_); (case gh => walk_at "h"))
  | ((with_reducible refine' g_kget2 ?gh ?_); (case gh => walk_at "h"))
  | ((with_reducible refine' g_kgotI ?gh ?_); (case gh => walk_at "h"))
  | (with_reducible refine g_tRev ?_)
  | (with_reducible refine g_neB ?_)
  | (with_reducible refine g_eqB ?_)
  | ((with_reducible refine' g_lenT ?gh ?_); (case gh => walk_at "h"))
  | (with_reducible refine g_star ?_)
  | ((with_reducible refine' g_kstarL ?gh ?_); (case gh => walk_at "h"))
  | ((with_reducible refine' g_kstarT ?gh ?_); (case gh => walk_at "h"))
  | (with_reducible refine g_tru ?_)
  | ((with_reducible refine' g_truL ?gh ?_); (case gh => walk_at "h"))
  | (with_reducible refine g_get2 ?_)
  | (with_reducible refine g_try ?_)
  | (with_reducible refine g_fld ?_)
  | (with_reducible refine g_sfld ?_)
  | (with_reducible refine g_meth ?_)
  | (with_reducible refine g_make ?_)
  | (with_reducible refine g_del ?_)
  | (with_reducible refine g_callS ?_)
  | (with_reducible refine g_raise ?_)
  | (with_reducible refine g_xf ?_)
  | (with_reducible refine g_m0 ?_)
  | (with_reducible refine g_km0 ?_)
  | walk_at "is")
local macro_rules | `(tactic| walk_at "gg") => `(tactic| repeat walk_at "g")
local macro_rules | `(tactic| walk_at "sz") => `(tactic| (refine sz ?_; simp only [List.length_cons, List.length_nil, List.length_map, List.length_append, List.length_replicate]; omega))
local macro_rules | `(tactic| walk_at "sub") => `(tactic| ((repeat (first | exact List.Sublist.slnil | with_reducible apply List.Sublist.cons_cons | with_reducible apply List.Sublist.cons)); done))

local macro_rules | `(tactic| walk_at "g") => `(tactic| first
  | (with_reducible refine g_dcL ?_)
  | (with_reducible refine g_dcT ?_)
  | (with_reducible refine g_m1s ?_)
  | (with_reducible refine g_km1s ?_)
  | (with_reducible refine g_starts ?_)
  | (with_reducible refine g_tryX ?_)
  | (with_reducible refine g_lcS ?_))

local macro_rules | `(tactic| walk_at "g") => `(tactic| first
  | (with_reducible refine g_lcRv ?_)
  | (with_reducible refine g_dpop1 ?_))

/-! ### the law -/
theorem way_nodup (s e : Int) (h : e % 2 = 1) : ((List.range 4).map fun k => way (s + e * (k : Nat))).Nodup := by
  have key : ∀ a < 8, ∀ b < 8, b % 2 = 1 → ((List.range 4).map fun k => wayM.getD ((a + b * k) % 8) "").Nodup := by decide +kernel
  have := key (s % 8).toNat (by omega) (e % 8).toNat (by omega) (by omega)
  have e2 : ((List.range 4).map fun k => way (s + e * (k : Nat))) = ((List.range 4).map fun k => wayM.getD (((s % 8).toNat + (e % 8).toNat * k) % 8) "") := by
    apply List.map_congr_left
    intro k hk
    have hk := List.mem_range.mp hk
    have h3 : k = 0 ∨ k = 1 ∨ k = 2 ∨ k = 3 := by omega
    unfold way
    congr 1
    rcases h3 with rfl | rfl | rfl | rfl
    · push_cast
      omega
    · push_cast
      omega
    · push_cast
      omega
    · push_cast
      omega
  rw [e2]
  exact this
/-- what stands at a path -/
def PtW (p : Str × Tx) : Prop := (isPath p.1 = true ∧ p.1.length ≤ 100 ∧ PyData.strOk p.1 = true) ∧ gdO (some p.2)
def Gt (A : Tr) : Prop := A.length ≤ 4 ∧ ∀ p ∈ A, PtW p
theorem mkT_gt {ps : List Str} {os : List (Option Tx)} (l : ps.length ≤ 4) (hp : ∀ z ∈ ps, isPath z = true ∧ z.length ≤ 100 ∧ PyData.strOk z = true) (ho : ∀ o ∈ os, gdO o) : Gt (mkT ps os) := by
  have mem : ∀ p ∈ mkT ps os, p.1 ∈ ps ∧ (some p.2) ∈ os := fun p hp => by
    unfold mkT at hp
    obtain ⟨q, hq, e⟩ := List.mem_filterMap.mp hp
    obtain ⟨t, et, e2⟩ := Option.map_eq_some_iff.mp e
    have := List.of_mem_zip hq
    subst e2
    exact ⟨this.1, et ▸ this.2⟩
  refine ⟨?_, fun p h => ⟨hp _ (mem p h).1, ho _ (mem p h).2⟩⟩
  have := (mkT_keys (ps := ps) (os := os)).length_le
  rw [List.length_map] at this
  omega
theorem Gt.okT {A : Tr} (h : Gt A) : okTr A := fun p hp => ⟨(h.2 p hp).1.2.2, (h.2 p hp).2.1 _ rfl⟩
theorem Gt.ln {A : Tr} (h : Gt A) : lnT A := fun p hp => ((h.2 p hp).2.2 _ rfl).1
theorem Gt.get {A : Tr} (h : Gt A) (z : Str) : gdO (getT A z) := by
  cases e : getT A z with
  | none => exact ⟨okO_none, fun _ e => by cases e⟩
  | some t => exact (h.2 _ (getT_mem e)).2
/-- the due puts are good -/
theorem due_g {A B : Tr} {us : List Str} (bo : Both A B us) (hA : Gt A) (hB : Gt B) : ∀ q ∈ putL (chgL A B us), PtG q ∧ isPath q.1 = true ∧ okText q.2 = true := fun q hq => by
  obtain ⟨h1, h2⟩ := putL_mem hq
  have hp : isPath q.1 = true ∧ q.1.length ≤ 100 ∧ PyData.strOk q.1 = true := by
    rcases (bo.2 q.1).mp h1 with h | h
    · obtain ⟨r, hr, e⟩ := List.mem_map.mp h
      rw [← e]
      exact (hA.2 r hr).1
    · obtain ⟨r, hr, e⟩ := List.mem_map.mp h
      rw [← e]
      exact (hB.2 r hr).1
  have g := hB.get q.1
  rw [← h2] at g
  exact ⟨⟨hp.2, g.1, fun t e => ⟨by have := (g.2 t e).1; omega, fun z hz => ((g.2 t e).2 z hz).1⟩⟩, hp.1, gd_ok g⟩
theorem PtG.o {ps : List Pt} (h : ∀ q ∈ ps, PtG q) : PtO ps := fun q hq => ⟨⟨by have := (h q hq).1.1; omega, (h q hq).1.2⟩, fun t e => ⟨by have := ((h q hq).2.2 t e).1; omega, fun z hz => ⟨by have := ((h q hq).2.2 t e).2 z hz; omega, (h q hq).2.1 t e z hz⟩⟩⟩
theorem PtG.ln {ps : List Pt} (h : ∀ q ∈ ps, PtG q) : lnP ps := fun q hq t e => ((h q hq).2.2 t e).1
theorem PtG.b {ps : List Pt} (h : ∀ q ∈ ps, PtG q) : PtB ps := fun q hq => ⟨by have := (h q hq).1.1; omega, fun t e => ⟨by have := ((h q hq).2.2 t e).1; omega, fun z hz => by have := ((h q hq).2.2 t e).2 z hz; omega⟩⟩
theorem chgL_self (B : Tr) : ∀ us : List Str, chgL B B us = []
  | [] => rfl
  | z :: r => by
    unfold chgL
    rw [List.filterMap_cons_none (by rw [if_pos rfl])]
    exact chgL_self B r
/-- a list of puts that may be asked -/
def PtA (F : Hp) (l : Addr) : Prop := ∃ (ws : List V) (ps : List Pt), F l = some (.lst ws) ∧ DqAll F ws (ps.map pD) ∧ ps.length ≤ 20 ∧ ∀ q ∈ ps, PtG q
theorem PtA.up {F F' : Hp} {l : Addr} (h : PtA F l) (s : Same F F') : PtA F' l := by
  obtain ⟨ws, ps, h1, h2, r⟩ := h
  exact ⟨ws, ps, s _ _ h1, h2.up s _ _, r⟩
section
variable {P : Program} {w : World} {K : PySem.W.Frag} {mg : Str → Option Value} {base : Heap}
def sp_law (K : PySem.W.Frag) : Sp := fun vs H Q _ => ∃ (a : Addr) (ns : List Int), vs = [.ref a] ∧ SqL K H a (ns.map V.int) ∧ ns.length ≤ 63 ∧ ∀ H', Q (.bl true) H'
theorem sp_law_len {vs H Q E} (h : sp_law K vs H Q E) : vs.length = 1 := by
  obtain ⟨_, _, rfl, _⟩ := h
  rfl
theorem sp_law_start {H : Hp} {a : Addr} {ns : List Int} (hl : ns.length ≤ 63) (hS : SqL K H a (ns.map V.int)) : sp_law K [.ref a] H (fun v _ => v = .bl true) (fun _ _ _ => False) := ⟨a, ns, rfl, hS, hl, fun _ => rfl⟩
set_option maxHeartbeats 8000000 in
theorem ok_law (T : Txt K mg) : FnOk P w K mg base CX0 8 T.f_law T.fd_law ["script"] (sp_law K) := by
  refine T.F_law.ok sc_law (fun vs H Q E h => sp_law_len h) (fun cdv A outer s H vs Q E hr h => ?_)
  refine ⟨_, (pss_cons (ps_set (i := 1) sc_law.nd rfl (.inr rfl) (pe_call (ok_l_feed T) (hr.mono (by decide)) (by rfl) T.g_l_feed T.F_l_feed.kp T.b_l_feed .nil pass0 (pa_cons (pv 0) pa_nil)))
      (pss_cons (ps_set (i := 2) sc_law.nd rfl (.inr rfl) (pe_call (ok_l_next T) (hr.mono (by decide)) (by rfl) T.g_l_next T.F_l_next.kp T.b_l_next .nil pass0 (pa_cons (pv 1) (pa_cons pe_int pa_nil))))
      (pss_cons (ps_set (i := 3) sc_law.nd rfl (.inr rfl) (pe_ix (ix_K K (hu_of hr)) (pe_lst (pa_cons pe_int (pa_cons pe_int (pa_cons pe_int (pa_cons pe_int pa_nil))))) (pe_call (ok_l_next T) (hr.mono (by decide)) (by rfl) T.g_l_next T.F_l_next.kp T.b_l_next .nil pass0 (pa_cons (pv 1) (pa_cons pe_int pa_nil))) (fun _ _ => rfl)))
      (pss_cons (ps_setLc (i := 4) (own := [("k", 12)]) (g := gName 12) (tt := tYes) rfl sc_law.nd rfl rfl (sw_true rfl rfl rfl (by decide +kernel)) (pi_range1 rfl T.m_range (pa_cons pe_int pa_nil)) (blkOk_by (N := n_law) (sc := defScope s_law) (by decide +kernel)) (fun _ _ _ _ _ => (pg_name (i := 12) sc_law.nd rfl (.inl rfl))) (fun _ _ _ _ _ => pts_nil) (fun _ _ _ _ _ => (pe_call (ok_l_way T) (hr.mono (by decide)) (by rfl) T.g_l_way T.F_l_way.kp T.b_l_way .nil pass0 (pa_cons (pe_op (op_addK K) (pv 2) (pe_op op_mulA (pv 3) (pv 12))) pa_nil))))
      (pss_cons (ps_set (i := 5) sc_law.nd rfl (.inl rfl) (pe_call (ok_l_made T) (hr.mono (by decide)) (by rfl) T.g_l_made T.F_l_made.kp T.b_l_made .nil pass0 (pa_cons (pv 4) (pa_cons (pe_lc (own := [("k", 12)]) (g := gName 12) (tt := tYes) rfl sc_law.nd (pi_range1 rfl T.m_range (pa_cons pe_int pa_nil)) (blkOk_by (N := n_law) (sc := defScope s_law) (by decide +kernel)) (fun _ _ _ _ _ => (pg_name (i := 12) sc_law.nd rfl (.inl rfl))) (fun _ _ _ _ _ => pts_nil) (fun _ _ _ _ _ => (pe_call (ok_l_text T) (hr.mono (by decide)) (by rfl) T.g_l_text T.F_l_text.kp T.b_l_text .nil pass0 (pa_cons (pe_op (op_addK K) (pe_op (op_addK K) (pe_call (ok_l_next T) (hr.mono (by decide)) (by rfl) T.g_l_next T.F_l_next.kp T.b_l_next .nil pass0 (pa_cons (pv 1) (pa_cons pe_int pa_nil))) (pe_op op_mulA pe_int (pv 12))) pe_int) pa_nil)))) pa_nil))))
      (pss_cons (ps_set (i := 6) sc_law.nd rfl (.inl rfl) (pe_call (ok_l_made T) (hr.mono (by decide)) (by rfl) T.g_l_made T.F_l_made.kp T.b_l_made .nil pass0 (pa_cons (pv 4) (pa_cons (pe_lc (own := [("k", 12)]) (g := gName 12) (tt := tYes) rfl sc_law.nd (pi_range1 rfl T.m_range (pa_cons pe_int pa_nil)) (blkOk_by (N := n_law) (sc := defScope s_law) (by decide +kernel)) (fun _ _ _ _ _ => (pg_name (i := 12) sc_law.nd rfl (.inl rfl))) (fun _ _ _ _ _ => pts_nil) (fun _ _ _ _ _ => (pe_call (ok_l_text T) (hr.mono (by decide)) (by rfl) T.g_l_text T.F_l_text.kp T.b_l_text .nil pass0 (pa_cons (pe_op (op_addK K) (pe_op (op_addK K) (pe_call (ok_l_next T) (hr.mono (by decide)) (by rfl) T.g_l_next T.F_l_next.kp T.b_l_next .nil pass0 (pa_cons (pv 1) (pa_cons pe_int pa_nil))) (pe_op op_mulA pe_int (pv 12))) pe_int) pa_nil)))) pa_nil))))
      (pss_cons (ps_set (i := 7) sc_law.nd rfl (.inl rfl) (pe_call (ok_l_between T) (hr.mono (by decide)) (by rfl) T.g_l_between T.F_l_between.kp T.b_l_between .nil pass0 (pa_cons (pv 5) (pa_cons (pv 6) pa_nil))))
      (pss_cons (ps_if (PW.pt (pw_or (pt_not (pt_val (pe_call (ok_l_finds T) (hr.mono (by decide)) (by rfl) T.g_l_finds T.F_l_finds.kp T.b_l_finds .nil pass0 (pa_cons (pv 5) (pa_cons (pv 6) (pa_cons (pv 7) pa_nil)))))) (pw_or1 (pt_not (pt_val (pe_call (ok_l_finds T) (hr.mono (by decide)) (by rfl) T.g_l_finds T.F_l_finds.kp T.b_l_finds .nil pass0 (pa_cons (pv 6) (pa_cons (pv 6) (pa_cons (pe_lst pa_nil) pa_nil))))))))) (pss_one (ps_ret pe_bl)) pss_nil)
      (pss_cons (ps_if (pt_not (pt_val (pe_call (ok_l_same T) (hr.mono (by decide)) (by rfl) T.g_l_same T.F_l_same.kp T.b_l_same .nil pass0 (pa_cons (pe_call (ok_put_tree T) (hr.mono (by decide)) (by rfl) T.g_put_tree T.F_put_tree.kp T.b_put_tree .nil passC0 (pa_cons (pe_call (ok_l_copy T) (hr.mono (by decide)) (by rfl) T.g_l_copy T.F_l_copy.kp T.b_l_copy .nil pass0 (pa_cons (pv 5) pa_nil)) (pa_cons (pe_callTy (cr_listK K) (by rfl) T.m_list (by decide +kernel) (pa_cons (pv 7) pa_nil)) pa_nil))) (pa_cons (pe_call (ok_l_rising T) (hr.mono (by decide)) (by rfl) T.g_l_rising T.F_l_rising.kp T.b_l_rising .nil pass0 (pa_cons (pv 6) pa_nil)) pa_nil))))) (pss_one (ps_ret pe_bl)) pss_nil)
      (pss_cons (ps_set (i := 8) sc_law.nd rfl (.inl rfl) (pe_call (ok_l_drawn T) (hr.mono (by decide)) (by rfl) T.g_l_drawn T.F_l_drawn.kp T.b_l_drawn .nil pass0 (pa_cons (pv 1) (pa_cons (pv 2) (pa_cons (pv 3) pa_nil)))))
      (pss_cons (ps_set (i := 9) sc_law.nd rfl (.inl rfl) (pe_lst pa_nil))
      (pss_cons (ps_for PassesOwn.never rfl (k_il K (pi_list (pv 8))) (pg_name (i := 10) sc_law.nd rfl (.inl rfl)) (pss_one (ps_if (pt_cmpR (op_notinN K P w hr.units (u65 hr)) (pe_ix (ix_K K (hu_of hr)) (pv 10) pe_int (fun _ _ => rfl)) (pe_lc (own := [("other", 13)]) (g := gName 13) (tt := tYes) rfl sc_law.nd (k_il K (pi_list (pv 9))) (blkOk_by (N := n_law) (sc := defScope s_law) (by decide +kernel)) (fun _ _ _ _ _ => (pg_name (i := 13) sc_law.nd rfl (.inl rfl))) (fun _ _ _ _ _ => pts_nil) (fun _ _ _ _ _ => (pe_ix (ix_K K (hu_of hr)) (pv 13) pe_int (fun _ _ => rfl)))) (by rfl)) (pss_one (ps_expr (k_bm K (pe_bm PySem.F.plainAttrs_list PySem.F.slot_list_append PySem.F.type_list_append mt_append (pv 9) (pa_cons (pv 10) pa_nil))))) pss_nil)))
      (pss_cons (ps_for PassesOwn.never rfl (k_il K (pi_list (pe_lst (pa_cons (pv 7) (pa_cons (pv 8) (pa_cons (pe_call (ok_l_bent T) (hr.mono (by decide)) (by rfl) T.g_l_bent T.F_l_bent.kp T.b_l_bent .nil pass0 (pa_cons (pv 1) (pa_cons (pv 8) pa_nil))) (pa_cons (pv 9) (pa_cons (pe_lst pa_nil) pa_nil)))))))) (pg_name (i := 11) sc_law.nd rfl (.inl rfl)) (pss_one (ps_if (pt_not (pt_val (pe_call (ok_l_applies T) (hr.mono (by decide)) (by rfl) T.g_l_applies T.F_l_applies.kp T.b_l_applies .nil passC0 (pa_cons (pv 5) (pa_cons (pv 11) pa_nil))))) (pss_one (ps_ret pe_bl)) pss_nil)))
      (pss_one (ps_ret pe_bl))))))))))))))), ?_⟩
  obtain ⟨sc, ns, rfl, hS, hl, q⟩ := h
  refine g_start (σ' := [some (.ref sc), none, none, none, none, none, none, none, none, none, none, none, none, none]) rfl ?_
  walk_at "gg"
  refine ⟨sc, ns, rfl, hS, hl, fun c H1 F wc rows n1 s1 h dqc lr => ?_⟩
  clear n1 s1 hS
  -- the paths
  walk_at "gg"
  refine ⟨c, 8, F, wc, rows, rfl, h, dqc, lr, by decide, by decide, fun H5 F wc rows st hb g hs dqc lr st0 st1 => ?_⟩
  have h := h.grown .hd hb g hs.same (hs.get (List.Mem.head _))
  clear hb g hs
  walk_at "gg"
  refine g_klst (by walk_at "sz") h (fun p6 H6 n6 h6 => ?_)
  walk_at "gg"
  refine ⟨c, 4, F, wc, rows, rfl, h6.drop, dqc, lr, by decide, by decide, fun H7 F wc rows ix hb g hs dqc lr i0 i1 => ?_⟩
  have h7 := h6.grown (by walk_at "c") hb g hs.same (hs.get (List.Mem.head _))
  refine g_ixI (xs := [3, 1, 5, 7]) (h7.get (List.Mem.head _)) i0 (by exact i1) (fun stp hst => ?_)
  have hodd : stp % 2 = 1 := by
    have := List.mem_of_getElem? hst
    simp only [List.mem_cons, List.not_mem_nil, or_false] at this
    omega
  have lst : 0 ≤ stp ∧ stp ≤ 7 := by
    have := List.mem_of_getElem? hst
    simp only [List.mem_cons, List.not_mem_nil, or_false] at this
    omega
  have h := h7.drop
  clear hb g hs h6 h7 n6 hst i0 i1
  walk_at "gg"
  refine k_lcR1 (by decide) (by decide) h (fun i acc F' O' => acc = (((List.range i).map fun k => way (st + stp * (k : Nat)))).map V.str ∧ F = F' ∧ O' = [(c, HO.lst wc)]) ⟨rfl, rfl, rfl⟩ ?_ ?_
  · rintro i acc F' O' D H2 hi ⟨rfl, rfl, rfl⟩ hh
    have hi' : i < 4 := hi
    walk_at "gg"
    refine g_mulI (.inl ⟨by omega, by omega⟩) ?_
    walk_at "gg"
    refine ⟨_, rfl, fun H3 s3 => ?_⟩
    refine k_turn (hh.on s3) (by rw [List.length_map, List.length_map, List.length_range]; omega) ⟨?_, rfl, rfl⟩
    rw [List.range_succ, List.map_append, List.map_append]
    rfl
  rintro acc F2 O2 pl H2 ⟨rfl, rfl, rfl⟩ h2
  have e3 : ((4 : Int)).toNat = 4 := rfl
  rw [e3] at h2
  have ndp := way_nodup st stp hodd
  have okp : ∀ z ∈ (List.range 4).map fun k => way (st + stp * (k : Nat)), isPath z = true ∧ z.length ≤ 100 ∧ PyData.strOk z = true := fun z hz => by
    obtain ⟨k, _, rfl⟩ := List.mem_map.mp hz
    exact ⟨way_path _, way_len _, way_ok _⟩
  have lp : ((List.range 4).map fun k => way (st + stp * (k : Nat))).length = 4 := rfl
  generalize ((List.range 4).map fun k => way (st + stp * (k : Nat))) = ps at h2 ndp okp lp
  have sG := h2.grow
  have h := h2.frz
  have fpl : upd F pl (.lst (ps.map V.str)) pl = some (.lst (ps.map V.str)) := upd_same
  have dqc := dqc.up sG _ _
  clear h2 sG
  generalize upd F pl (.lst (ps.map V.str)) = F at h fpl dqc
  -- the first tree
  walk_at "gg"
  refine k_lcR1 (by decide) (by decide) h (fun i acc F' O' => ∃ (os : List (Option Tx)) (wc : List V) (rows : List (Int × Int)), DqAll F' acc (os.map oxD) ∧ os.length = i ∧ (∀ o ∈ os, gdO o) ∧ Same F F' ∧ O' = [(c, HO.lst wc)] ∧ DqAll F' wc (rows.map cellD) ∧ rows.length ≤ 100) ⟨[], wc, rows, .nil, rfl, by simp, Same.refl _, rfl, dqc, lr⟩ ?_ ?_
  · rintro i acc F' O' D H9 hi ⟨os, wc, rows, da, rfl, gos, s2, rfl, dqc, lr⟩ hh
    have hi' : os.length < 4 := hi
    have la := ox_len da
    walk_at "gg"
    refine ⟨c, 8, F', wc, rows, rfl, hh.drop, dqc, lr, by decide, by decide, fun H10 F3 wc3 rows3 r hb g hs dq3 l3 r0 r1 => ?_⟩
    have h10 := hh.grown (by walk_at "c") hb g hs.same (hs.get (List.Mem.head _))
    walk_at "gg"
    refine g_mulI (.inl ⟨by decide, by decide⟩) ?_
    walk_at "gg"
    refine ⟨_, rfl, fun v H11 o s11 fv go => ?_⟩
    obtain ⟨F5, sF5, h11, dv⟩ := h10.fr s11 fv
    refine k_turn h11 (by omega) ⟨os ++ [o], wc3, rows3, ?_, by rw [List.length_append]; rfl, fun x hx => ?_, (s2.trans g.1).trans sF5, rfl, dq3.up sF5 _ _, l3⟩
    · rw [List.map_append]
      exact (da.up (g.1.trans sF5) _ _).snoc dv
    · rcases List.mem_append.mp hx with hx | hx
      · exact gos x hx
      · rw [List.mem_singleton.mp hx]
        exact go
  rintro acc F2 O2 tl1 H2 ⟨os1, wc, rows, da, los, gos, sF, rfl, dqc, lr⟩ h2
  have los : os1.length = 4 := los
  have fpl := sF _ _ fpl
  refine ⟨pl, tl1, ps, acc, os1, rfl, h2.same _ _ fpl, h2.get (List.Mem.head _), da.up h2.same _ _, by rw [lp, los], by omega, ndp, fun od B1 H3 h3 e1 => ?_⟩
  have gA := mkT_gt (ps := ps) (os := os1) (by omega) okp gos
  rw [← e1] at gA
  have nA : (B1.map (·.1)).Nodup := by
    rw [← bA_keys, e1]
    exact mkT_keys.nodup ndp
  obtain ⟨F, sF2, h, nw⟩ := h2.drop.join h3
  have tA : TrAt F od (bA B1) := tr_own nw nA
  have fpl := sF2 _ _ fpl
  have dqc := dqc.up sF2 _ _
  generalize bA B1 = A at gA tA
  clear h2 h3 da gos sF sF2 nw e1 nA los
  -- the second tree
  walk_at "gg"
  refine k_lcR1 (by decide) (by decide) h (fun i acc F' O' => ∃ (os : List (Option Tx)) (wc : List V) (rows : List (Int × Int)), DqAll F' acc (os.map oxD) ∧ os.length = i ∧ (∀ o ∈ os, gdO o) ∧ Same F F' ∧ O' = [(c, HO.lst wc)] ∧ DqAll F' wc (rows.map cellD) ∧ rows.length ≤ 100) ⟨[], wc, rows, .nil, rfl, by simp, Same.refl _, rfl, dqc, lr⟩ ?_ ?_
  · rintro i acc F' O' D H9 hi ⟨os, wc, rows, da, rfl, gos, s2, rfl, dqc, lr⟩ hh
    have hi' : os.length < 4 := hi
    have la := ox_len da
    walk_at "gg"
    refine ⟨c, 8, F', wc, rows, rfl, hh.drop, dqc, lr, by decide, by decide, fun H10 F3 wc3 rows3 r hb g hs dq3 l3 r0 r1 => ?_⟩
    have h10 := hh.grown (by walk_at "c") hb g hs.same (hs.get (List.Mem.head _))
    walk_at "gg"
    refine g_mulI (.inl ⟨by decide, by decide⟩) ?_
    walk_at "gg"
    refine ⟨_, rfl, fun v H11 o s11 fv go => ?_⟩
    obtain ⟨F5, sF5, h11, dv⟩ := h10.fr s11 fv
    refine k_turn h11 (by omega) ⟨os ++ [o], wc3, rows3, ?_, by rw [List.length_append]; rfl, fun x hx => ?_, (s2.trans g.1).trans sF5, rfl, dq3.up sF5 _ _, l3⟩
    · rw [List.map_append]
      exact (da.up (g.1.trans sF5) _ _).snoc dv
    · rcases List.mem_append.mp hx with hx | hx
      · exact gos x hx
      · rw [List.mem_singleton.mp hx]
        exact go
  rintro acc F2 O2 tl2 H2 ⟨os1, wc, rows, da, los, gos, sF, rfl, dqc, lr⟩ h2
  have los : os1.length = 4 := los
  have fpl := sF _ _ fpl
  have tA := tA.up sF
  refine ⟨pl, tl2, ps, acc, os1, rfl, h2.same _ _ fpl, h2.get (List.Mem.head _), da.up h2.same _ _, by rw [lp, los], by omega, ndp, fun nw_ B2 H3 h3 e1 => ?_⟩
  have gB := mkT_gt (ps := ps) (os := os1) (by omega) okp gos
  rw [← e1] at gB
  have nB : (B2.map (·.1)).Nodup := by
    rw [← bA_keys, e1]
    exact mkT_keys.nodup ndp
  obtain ⟨F, sF2, h, nw⟩ := h2.drop.join h3
  have tB : TrAt F nw_ (bA B2) := tr_own nw nB
  have tA := tA.up sF2
  have fpl := sF2 _ _ fpl
  have dqc := dqc.up sF2 _ _
  generalize bA B2 = B at gB tB
  clear h2 h3 da gos sF sF2 nw e1 nB los
  -- the puts that are due
  walk_at "gg"
  refine ⟨od, nw_, A, B, rfl, tA.up h.same, tB.up h.same, gA.1, gB.1, gA.okT, gB.okT, fun du F1 H4 ws us s4 h4 bo lus dw => ?_⟩
  obtain ⟨h5, sG⟩ := h.glue s4 h4
  have nT : NoT ([(c, HO.lst wc)] : Own) := NoT.lst (fun p hp => by cases hp)
  have dw := (nT.no h s4).pts dw
  generalize rmO _ F1 = G at h5 sG dw
  have tA := tA.up (sG.trans h5.grow)
  have tB := tB.up (sG.trans h5.grow)
  have dqc := dqc.up (sG.trans h5.grow) _ _
  have dw := dw.up h5.grow _ _
  have fdu : upd G du (.lst ws) du = some (.lst ws) := upd_same
  have h := h5.frz
  generalize upd G du (.lst ws) = F at h tA tB dqc dw fdu
  have dg := due_g bo gA gB
  have ldu : (putL (chgL A B us)).length ≤ 8 := by have := putL_len A B us; omega
  clear s4 h4 h5 sG nT
  walk_at "gg"
  refine ⟨od, nw_, du, A, B, us, ws, rfl, tA.up h.same, tB.up h.same, gA.1, gB.1, gA.okT, gB.okT, gA.ln, gB.ln, bo, lus, h.same _ _ fdu, dw.up h.same _ _, fun H5 s5 => ?_⟩
  have h := h.on s5
  walk_at "gg"
  refine g_klst (by walk_at "sz") h (fun pe H6 n6 h6 => ?_)
  walk_at "gg"
  have boB : Both B B (us.filter fun z => decide (z ∈ B.map (·.1))) := ⟨bo.1.filter _, fun z => by
    rw [List.mem_filter, decide_eq_true_eq, bo.2 z]
    constructor
    · exact fun h => .inl h.2
    · intro h
      have h : z ∈ B.map (·.1) := h.elim id id
      exact ⟨.inr h, h⟩⟩
  refine ⟨nw_, nw_, pe, B, B, _, [], rfl, tB.up h6.same, tB.up h6.same, gB.1, gB.1, gB.okT, gB.okT, gB.ln, gB.ln, boB, Nat.le_trans (List.length_filter_le ..) lus, h6.get (List.Mem.head _), by rw [chgL_self]; exact .nil, fun H7 s7 => ?_⟩
  have h := (h6.on s7).drop
  clear h6 s7 s5
  walk_at "gg"
  refine ⟨od, A, rfl, tA.up h.same, by have := gA.1; omega, fun d2 B2 H8 h8 e2 => ?_⟩
  have t2 : TrAt H8 d2 A := by
    rw [← e2]
    refine tr_in h8 (fun p hp => hp) ?_
    rw [← bA_keys, e2]
    obtain ⟨_, _, _, n, _⟩ := tA
    exact n
  have hc8 := h.on h8.same
  walk_at "gg"
  refine g_listL (hc8.same _ _ fdu) (Has.start H8) (fun ld H9 n9 h9 => ?_)
  have hc9 := hc8.on h9.same
  have ebad : badPs 0 [] (putL (chgL A B us)) = none := badPs_none _ _ _ (fun p hp => (dg p hp).2) ((putL_keys A B us).nodup bo.1.nodup) (fun _ _ m => by cases m)
  walk_at "gg"
  refine ⟨d2, ld, A, _, ws, putL (chgL A B us), rfl, t2.up h9.same, h9.get (List.Mem.head _), .inl rfl, dw.up hc9.same _ _, by have := gA.1; omega, by omega, PtG.b fun q hq => (dg q hq).1, fun _ d4 B4 H10 h10 asc4 mem4 => ?_, fun k e => by rw [ebad] at e; cases e⟩
  have hc10 := hc9.on h10.same
  rw [runP_due bo] at mem4
  walk_at "gg"
  refine ⟨nw_, B, rfl, tB.up hc10.same, by have := gB.1; omega, fun d5 B5 H11 h11 asc5 mem5 => ?_⟩
  have hc11 := hc10.on h11.same
  have ndB : (B.map (·.1)).Nodup := by
    obtain ⟨_, _, _, n, _⟩ := tB
    exact n
  have e45 : bA B4 = bA B5 := AscT.ext asc4 asc5 fun z t => by
    rw [mem4, mem5]
    exact ⟨fun h => getT_mem h, fun h => getT_of ndB h⟩
  have t5 : TrAt H11 d5 (bA B5) := tr_in h11 (fun p hp => hp) (by rw [← bA_keys]; exact asc5.nd)
  have t4 : TrAt H11 d4 (bA B5) := by
    rw [← e45]
    exact (tr_in h10 (fun p hp => hp) (by rw [← bA_keys]; exact asc4.nd)).up h11.same
  have l5 : (bA B5).length ≤ 1000 := by
    have := keys_le (xs := (bA B5).map (·.1)) (ys := B.map (·.1)) asc5.nd fun z hz => by
      obtain ⟨p, hp, rfl⟩ := List.mem_map.mp hz
      exact List.mem_map.mpr ⟨p, (mem5 p).mp hp, rfl⟩
    rw [List.length_map, List.length_map] at this
    have := gB.1
    omega
  walk_at "gg"
  refine ⟨.ref d4, .ref d5, rfl, Sm.tree t4 t5 l5 (fun p hp => Nat.le_trans (gB.ln p ((mem5 p).mp hp)) (by decide)), fun H12 s12 => ?_⟩
  have h := hc11.on s12
  clear hc8 hc9 hc10 hc11 h8 h9 h10 h11 t2 t4 t5
  walk_at "gg"
  have h : Has F [(c, .lst wc)] H12 := h
  refine ⟨c, st, stp, F, wc, rows, rfl, lst.1, lst.2, h, dqc, lr, fun pu H13 F13 wc rows wp pp s13 h13 dqc lr dp lpp gpp => ?_⟩
  have sG := s13.trans h13.grow
  have tA := tA.up sG
  have fdu := sG _ _ fdu
  have dw := dw.up sG _ _
  have dp := dp.up h13.grow _ _
  have dqc := dqc.up h13.grow _ _
  have fpu : upd F13 pu (.lst wp) pu = some (.lst wp) := upd_same
  have h := h13.frz
  generalize upd F13 pu (.lst wp) = F at h tA fdu dw dp dqc fpu
  clear sG h13 s13
  walk_at "gg"
  refine g_klst (by walk_at "sz") h (fun gd H14 n14 h14 => ?_)
  walk_at "gg"
  refine k_forL (h14.same _ _ fpu) (fun t σ H' => ∃ (y10 : Option V) (gs : List Pt) (wg : List V), σ = [some (.ref sc), some (.ref c), some (.int st), some (.int stp), some (.ref pl), some (.ref od), some (.ref nw_), some (.ref du), some (.ref pu), some (.ref gd), y10, none, none, none] ∧ Has F [(gd, .lst wg), (c, .lst wc)] H' ∧ DqAll F wg (gs.map pD) ∧ gs.length ≤ t ∧ ∀ q ∈ gs, PtG q) ⟨_, [], [], rfl, h14, .nil, Nat.le_refl _, by simp⟩ ?_ ?_ ?_
  · rintro t σ H' _ ⟨y10, gs, wg, rfl, h, _⟩
    exact h.same _ _ fpu
  · rintro t x σ H15 hx ⟨y10, gs, wg, rfl, h15, dg', lg, gg⟩
    obtain ⟨dd, ed, dx⟩ := dp.get hx
    rw [List.getElem?_map] at ed
    obtain ⟨p, ep, rfl⟩ := Option.map_eq_some_iff.mp ed
    obtain ⟨Tp, u, rfl, hT, du_⟩ := pD_inv dx
    have lt := (List.getElem?_eq_some_iff.mp ep).1
    have lwg := dg'.len
    rw [List.length_map] at lwg
    walk_at "gg"
    refine g_ixT (v := .str p.1) (h15.same _ _ hT) (atI_nat (j := 0) rfl) ?_
    walk_at "gg"
    refine k_lcL (h15.get (List.Mem.head _)) h15 (fun i acc F' O' => acc = ((gs.take i).map (·.1)).map V.str ∧ F = F' ∧ O' = [(gd, HO.lst wg), (c, .lst wc)]) ⟨rfl, rfl, rfl⟩ ?_ ?_ ?_
    · rintro i acc F' O' H' ⟨_, rfl, rfl⟩ hh
      exact hh.get (List.Mem.head _)
    · rintro i y acc F' O' D H16 hy ⟨rfl, rfl, rfl⟩ hh
      obtain ⟨dd, ed, dy⟩ := dg'.get hy
      rw [List.getElem?_map] at ed
      obtain ⟨r, er, rfl⟩ := Option.map_eq_some_iff.mp ed
      obtain ⟨Tr_, u2, rfl, hT2, _⟩ := pD_inv dy
      have li := (List.getElem?_eq_some_iff.mp er).1
      walk_at "gg"
      refine g_ixT (v := .str r.1) (hh.same _ _ hT2) (atI_nat (j := 0) rfl) ?_
      refine k_turn hh (by rw [List.length_map, List.length_map, List.length_take]; omega) ⟨?_, rfl, rfl⟩
      rw [List.take_add_one, er, List.map_append, List.map_append]
      rfl
    rintro acc F' O' D H16 ⟨rfl, rfl, rfl⟩ hh
    refine g_notinNM (g_notinM (g_notinFL (hh.get (List.Mem.head _)) rfl (flat_strs _) ?_))
    rw [inV_strs]
    walk_at "gg"
    have h16 := hh.drop
    refine i_n (fun _ => ?_) (fun _ => ?_)
    · walk_at "gg"
      refine g_append h16 .hd (szl (by omega)) (fun H17 h17 => ?_)
      walk_at "gg"
      refine ⟨_, gs ++ [p], _, rfl, h17, ?_, by rw [List.length_append]; show _ + 1 ≤ _; omega, fun q hq => ?_⟩
      · rw [List.map_append]
        exact dg'.snoc dx
      · rcases List.mem_append.mp hq with hq | hq
        · exact gg q hq
        · rw [List.mem_singleton.mp hq]
          exact gpp p (List.mem_of_getElem? ep)
    · walk_at "gg"
      exact ⟨_, gs, wg, rfl, h16, dg', by omega, gg⟩
  rintro σ H15 ⟨y10, gs, wg, rfl, h15, dg', lg, gg⟩
  have lwp := dp.len
  rw [List.length_map] at lwp
  have sG := h15.grow
  have tA := tA.up sG
  have K1 : PtA (upd F gd (.lst wg)) du := ⟨ws, _, sG _ _ fdu, dw.up sG _ _, by omega, fun q hq => (dg q hq).1⟩
  have K2 : PtA (upd F gd (.lst wg)) pu := ⟨wp, pp, sG _ _ fpu, dp.up sG _ _, by omega, gpp⟩
  have K4 : PtA (upd F gd (.lst wg)) gd := ⟨wg, gs, upd_same, dg'.up sG _ _, by omega, gg⟩
  have fpu := sG _ _ fpu
  have dp := dp.up sG _ _
  have dqc := dqc.up sG _ _
  have h := h15.frz
  generalize upd F gd (.lst wg) = F at h tA K1 K2 K4 fpu dp dqc
  walk_at "gg"
  refine ⟨c, pu, F, wc, rows, wp, pp, rfl, h, dqc, lr, fpu, dp, lpp, gpp, fun be H16 F16 wc rows wb pb s16 h16 _ _ db lpb gpb => ?_⟩
  have s16' := s16.trans h16.same
  have K3 : PtA H16 be := ⟨wb, pb, h16.get (List.Mem.head _), db.up h16.same _ _, by omega, gpb⟩
  walk_at "gg"
  refine g_klst (by walk_at "sz") (Has.start H16) (fun em H17 n17 h17 => ?_)
  have K5 : PtA H17 em := ⟨[], [], h17.get (List.Mem.head _), .nil, by simp, by simp⟩
  walk_at "gg"
  refine g_klst (by walk_at "sz") (Has.start H17) (fun al H18 n18 h18 => ?_)
  have sE := s16'.trans (h17.same.trans h18.same)
  have all : ∀ v ∈ [V.ref du, V.ref pu, V.ref be, V.ref gd, V.ref em], ∃ l, v = .ref l ∧ PtA H18 l := fun v hv => by
    simp only [List.mem_cons, List.not_mem_nil, or_false] at hv
    rcases hv with rfl | rfl | rfl | rfl | rfl
    · exact ⟨_, rfl, K1.up sE⟩
    · exact ⟨_, rfl, K2.up sE⟩
    · exact ⟨_, rfl, K3.up (h17.same.trans h18.same)⟩
    · exact ⟨_, rfl, K4.up sE⟩
    · exact ⟨_, rfl, K5.up h18.same⟩
  have hal := h18.get (List.Mem.head _)
  generalize [V.ref du, V.ref pu, V.ref be, V.ref gd, V.ref em] = avs at all hal
  have tAE := tA.up sE
  refine k_forL hal (fun i σ H' => ∃ y11 : Option V, σ = [some (.ref sc), some (.ref c), some (.int st), some (.int stp), some (.ref pl), some (.ref od), some (.ref nw_), some (.ref du), some (.ref pu), some (.ref gd), y10, y11, none, none] ∧ Same H18 H') ⟨_, rfl, Same.refl _⟩ ?_ ?_ ?_
  · rintro i σ H' _ ⟨y11, rfl, s⟩
    exact s _ _ hal
  · rintro i v σ H' hv ⟨y11, rfl, s⟩
    obtain ⟨l, rfl, wl, pl_, h1, h2, h3, h4⟩ := all v (List.mem_of_getElem? hv)
    walk_at "gg"
    refine ⟨od, l, A, wl, pl_, rfl, tAE.up s, s _ _ h1, h2.up s _ _, by have := gA.1; omega, h3, gA.okT, gA.ln, PtG.o h4, PtG.ln h4, fun H19 s19 => ?_⟩
    walk_at "gg"
    exact ⟨_, rfl, s.trans s19⟩
  · rintro σ H' ⟨y11, rfl, s⟩
    walk_at "gg"
    exact q H'
end

end K07

namespace K07
open PySem PySem.Spec PyProof.Rows L2 Qk
local macro_rules | `(tactic| walk_at "m") => `(tactic| ((repeat (first | exact List.Mem.head _ | apply List.Mem.tail)); done))
local macro_rules | `(tactic| walk_at "h") => `(tactic| first | assumption | exact Has.gF (by assumption) (by assumption) | exact Has.get (by assumption) (by walk_at "m"))
local macro_rules | `(tactic| walk_at "c") => `(tactic| ((repeat (first | exact Chg.hd | apply Chg.tl)); done))
local macro_rules | `(tactic| walk_at "is") => `(tactic| first
  | ((with_reducible refine' is2_non ?gh ?_); (case gh => walk_at "h"))
  | (with_reducible refine is_int_list ?_)
  | (with_reducible refine is_int_tuple ?_)
  | (with_reducible refine is_int_dict ?_)
  | (with_reducible refine is_int_int ?_)
  | (with_reducible refine is_int_bool ?_)
  | (with_reducible refine is_int_str ?_)
  | ((with_reducible refine' is2_int ?gh ?_); (case gh => walk_at "h"))
  | (with_reducible refine is_str_list ?_)
  | (with_reducible refine is_str_tuple ?_)
  | (with_reducible refine is_str_dict ?_)
  | (with_reducible refine is_str_int ?_)
  | (with_reducible refine is_str_bool ?_)
  | (with_reducible refine is_str_str ?_)
  | ((with_reducible refine' is2_str ?gh ?_); (case gh => walk_at "h"))
  | (with_reducible refine is_bool_list ?_)
  | (with_reducible refine is_bool_tuple ?_)
  | (with_reducible refine is_bool_dict ?_)
  | (with_reducible refine is_bool_int ?_)
  | (with_reducible refine is_bool_bool ?_)
  | (with_reducible refine is_bool_str ?_)
  | ((with_reducible refine' is2_bool ?gh ?_); (case gh => walk_at "h"))
  | ((with_reducible refine' is_list_list ?gh ?_); (case gh => walk_at "h"))
  | ((with_reducible refine' is_list_tuple ?gh ?_); (case gh => walk_at "h"))
  | ((with_reducible refine' is_list_dict ?gh ?_); (case gh => walk_at "h"))
  | ((with_reducible refine' is_list_int ?gh ?_); (case gh => walk_at "h"))
  | ((with_reducible refine' is_list_bool ?gh ?_); (case gh => walk_at "h"))
  | ((with_reducible refine' is_list_str ?gh ?_); (case gh => walk_at "h"))
  | ((with_reducible refine' is2_list ?ga ?gb ?_); (case ga => walk_at "h"); (case gb => walk_at "h"))
  | ((with_reducible refine' is_tuple_list ?gh ?_); (case gh => walk_at "h"))
  | ((with_reducible refine' is_tuple_tuple ?gh ?_); (case gh => walk_at "h"))
  | ((with_reducible refine' is_tuple_dict ?gh ?_); (case gh => walk_at "h"))
  | ((with_reducible refine' is_tuple_int ?gh ?_); (case gh => walk_at "h"))
  | ((with_reducible refine' is_tuple_bool ?gh ?_); (case gh => walk_at "h"))
  | ((with_reducible refine' is_tuple_str ?gh ?_); (case gh => walk_at "h"))
  | ((with_reducible refine' is2_tuple ?ga ?gb ?_); (case ga => walk_at "h"); (case gb => walk_at "h"))
  | ((with_reducible refine' is_dict_list ?gh ?_); (case gh => walk_at "h"))
  | ((with_reducible refine' is_dict_tuple ?gh ?_); (case gh => walk_at "h"))
  | ((with_reducible refine' is_dict_dict ?gh ?_); (case gh => walk_at "h"))
  | ((with_reducible refine' is_dict_int ?gh ?_); (case gh => walk_at "h"))
  | ((with_reducible refine' is_dict_bool ?gh ?_); (case gh => walk_at "h"))
  | ((with_reducible refine' is_dict_str ?gh ?_); (case gh => walk_at "h"))
  | ((with_reducible refine' is2_dict ?ga ?gb ?_); (case ga => walk_at "h"); (case gb => walk_at "h")))
local macro_rules | `(tactic| walk_at "g") => `(tactic| first
  | (with_reducible refine g_seq ?_)
  | (with_reducible refine g_asg ?_)
  | ((with_reducible refine g_name ?_); dsimp only [List.set, wipe, List.map])
  | ((with_reducible refine' g_var ?gv ?_); (case gv => exact rfl))
  | (with_reducible refine g_c ?_)
  | (with_reducible refine g_op ?_)
  | (with_reducible refine g_cons ?_)
  | (with_reducible refine g_nil ?_)
  | (with_reducible refine g_cb ?_)
  | (with_reducible refine g_call ?_)
  | (with_reducible refine g_tup ?_)
  | (with_reducible refine g_lst ?_)
  | (with_reducible refine g_bm ?_)
  | (with_reducible refine g_bm0 ?_)
  | ((with_reducible refine' g_kbm ?gh ?_); (case gh => walk_at "h"))
  | (with_reducible refine g_drop ?_)
  | (with_reducible refine g_ret ?_)
  | (with_reducible refine g_retN ?_)
  | (with_reducible refine g_next ?_)
  | (with_reducible refine g_brk ?_)
  | (with_reducible refine g_cont ?_)
  | (with_reducible refine g_if ?_)
  | ((with_reducible refine' g_aug ?gv ?_); (case gv => exact rfl))
  | (with_reducible refine g_ipI ?_)
  | (with_reducible refine g_test ?_)
  | (with_reducible refine g_tB ?_)
  | (with_reducible refine g_kB ?_)
  | (with_reducible refine g_not ?_)
  | (with_reducible refine g_and ?_)
  | (with_reducible refine g_or ?_)
  | (with_reducible refine g_andV ?_)
  | (with_reducible refine g_orV ?_)
  | (with_reducible refine g_notV ?_)
  | (with_reducible refine g_ifE ?_)
  | (with_reducible refine g_addI ?_)
  | (with_reducible refine g_rI0 ?_)
  | (with_reducible refine g_eqI ?_)
  | (with_reducible refine g_eqS ?_)
  | (with_reducible refine g_neI ?_)
  | (with_reducible refine g_neS ?_)
  | (with_reducible refine g_isN ?_)
  | (with_reducible refine g_notN ?_)
  | (with_reducible refine g_int ?_)
  | (with_reducible refine g_max2 ?_)
  | (with_reducible refine g_min2 ?_)
  | ((with_reducible refine' g_lenL ?gh ?_); (case gh => walk_at "h"))
  | (with_reducible refine g_sub ?_)
  | (with_reducible refine g_gcons ?_)
  | (with_reducible refine g_gnil ?_)
  | (with_reducible refine g_un ?_)
  | (with_reducible refine g_rU ?_)
  | (with_reducible refine g_forL ?_)
  | (with_reducible refine g_forS ?_)
  | (with_reducible refine g_forR1 ?_)
  | (with_reducible refine g_forR2 ?_)
  | (with_reducible refine g_forR3 ?_)
  | (with_reducible refine g_lcL ?_)
  | (with_reducible refine g_lcR1 ?_)
  | (with_reducible refine g_lcR2 ?_)
  | (with_reducible refine g_slice ?_)
  | (with_reducible refine g_part ?_)
  | (with_reducible refine g_kOI ?_)
  | (with_reducible refine g_nopart ?_)
  | (with_reducible refine g_yes ?_)
  | ((with_reducible refine' g_wipe ?gv ?_); (case gv => exact rfl))
  | (with_reducible refine iteT ?_)
  | (with_reducible refine iteF ?_)
  | (with_reducible refine i_nf ?_)
  | (with_reducible refine i_nt ?_)
  | ((with_reducible refine' g_gtup ?gh ?gl ?_); (case gh => walk_at "h"); (case gl => exact rfl))
  | ((with_reducible refine' g_notinI ?gh ?_); (case gh => walk_at "h"))
  | ((with_reducible refine' g_inI ?gh ?_); (case gh => walk_at "h"))
  | ((with_reducible refine' g_kget2 ?gh ?_); (case gh => walk_at "h"))
  | ((with_reducible refine' g_kgotI ?gh ?_); (case gh => walk_at "h"))
  | (with_reducible refine g_tRev ?_)
  | (with_reducible refine g_neB ?_)
  | (with_reducible refine g_eqB ?_)
  | ((with_reducible refine' g_lenT ?gh ?_); (case gh => walk_at "h"))
  | (with_reducible refine g_star ?_)
  | ((with_reducible refine' g_kstarL ?gh ?_); (case gh => walk_at "h"))
  | ((with_reducible refine' g_kstarT ?gh ?_); (case gh => walk_at "h"))
  | (with_reducible refine g_tru ?_)
  | ((with_reducible refine' g_truL ?gh ?_); (case gh => walk_at "h"))
  | (with_reducible refine g_get2 ?_)
  | (with_reducible refine g_try ?_)
  | (with_reducible refine g_fld ?_)
  | (with_reducible refine g_sfld ?_)
  | (with_reducible refine g_meth ?_)
  | (with_reducible refine g_make ?_)
  | (with_reducible refine g_del ?_)
  | (with_reducible refine g_callS ?_)
  | (with_reducible refine g_raise ?_)
  | (with_reducible refine g_xf ?_)
  | (with_reducible refine g_m0 ?_)
  | (with_reducible refine g_km0 ?_)
  | walk_at "is")
local macro_rules | `(tactic| walk_at "gg") => `(tactic| repeat walk_at "g")
local macro_rules | `(tactic| walk_at "sz") => `(tactic| (refine sz ?_; simp only [List.length_cons, List.length_nil, List.length_map, List.length_append, List.length_replicate]; omega))
local macro_rules | `(tactic| walk_at "sub") => `(tactic| ((repeat (first | exact List.Sublist.slnil | with_reducible apply List.Sublist.cons_cons | with_reducible apply List.Sublist.cons)); done))

set_option maxHeartbeats 4000000
theorem all_mk {l : PySem.W.OpenLaw} {w : World} {K : PySem.W.Frag} {h : Heap} {mg : Str → Option Value} {fa f1 f2 f3 f4 f5 f6 f7 f8 f9 f10 f11 f12 f13 f14 f15 f16 f17 f18 f19 f20 f21 f22 f23 f24 f25 f26 f27 f28 f29 f30 f31 c_PartError c_BadText c_BadTree c_BadPut fi_BadText fi_BadPut : Addr} (X : K.In h) (G : h.Ns mainGlobals mg) (hfa : mg "law" = some (.ref fa))
    {od1 an1 od2 an2 od3 an3 od4 an4 od5 an5 od6 an6 od7 an7 od8 an8 od9 an9 od10 an10 od11 an11 od12 an12 od13 an13 od14 an14 od15 an15 od16 an16 od17 an17 od18 an18 od19 an19 od20 an20 od21 an21 od22 an22 od23 an23 od24 an24 od25 an25 od26 an26 od27 an27 od28 an28 od29 an29 od30 an30 od31 an31 : Option Addr} {sl1 sl2 sl3 sl4 sl5 sl6 sl7 sl8 sl9 sl10 sl11 sl12 sl13 sl14 sl15 sl16 sl17 sl18 sl19 sl20 sl21 sl22 sl23 sl24 sl25 sl26 sl27 sl28 sl29 sl30 sl31 : Array (Option Value)} {oc1 kV1 dc1 pm1 cd1 ct1 oc2 kV2 dc2 pm2 cd2 ct2 oc3 kV3 dc3 pm3 cd3 ct3 oc4 kV4 dc4 pm4 cd4 ct4 oc5 kV5 dc5 pm5 cd5 ct5 oc6 kV6 dc6 pm6 cd6 ct6 oc7 kV7 dc7 pm7 cd7 ct7 oc8 kV8 dc8 pm8 cd8 ct8 oc9 kV9 dc9 pm9 cd9 ct9 oc10 kV10 dc10 pm10 cd10 ct10 oc11 kV11 dc11 pm11 cd11 ct11 oc12 kV12 dc12 pm12 cd12 ct12 oc13 kV13 dc13 pm13 cd13 ct13 oc14 kV14 dc14 pm14 cd14 ct14 oc15 kV15 dc15 pm15 cd15 ct15 oc16 kV16 dc16 pm16 cd16 ct16 oc17 kV17 dc17 pm17 cd17 ct17 oc18 kV18 dc18 pm18 cd18 ct18 oc19 kV19 dc19 pm19 cd19 ct19 oc20 kV20 dc20 pm20 cd20 ct20 oc21 kV21 dc21 pm21 cd21 ct21 oc22 kV22 dc22 pm22 cd22 ct22 oc23 kV23 dc23 pm23 cd23 ct23 oc24 kV24 dc24 pm24 cd24 ct24 oc25 kV25 dc25 pm25 cd25 ct25 oc26 kV26 dc26 pm26 cd26 ct26 oc27 kV27 dc27 pm27 cd27 ct27 oc28 kV28 dc28 pm28 cd28 ct28 oc29 kV29 dc29 pm29 cd29 ct29 oc30 kV30 dc30 pm30 cd30 ct30 oc31 kV31 dc31 pm31 cd31 ct31 : Value}
    (a1 : PySem.W.nsIn K mainGlobals "is_line" = some (some (.ref f1))) (l1 : K.lookup f1 = some ⟨oc1, od1, .func (PySem.W.fnOf "is_line" "is_line" (defArgs s_is_line) (defBody s_is_line) (defScope s_is_line) .none kV1 dc1 pm1 an1 cd1 ct1), sl1⟩) (c1 : PySem.W.codeIn K cd1 "is_line" = true) (k1 : PySem.W.keepIn K (.ref f1) = true)
    (a2 : PySem.W.nsIn K mainGlobals "checked_text" = some (some (.ref f2))) (l2 : K.lookup f2 = some ⟨oc2, od2, .func (PySem.W.fnOf "checked_text" "checked_text" (defArgs s_checked_text) (defBody s_checked_text) (defScope s_checked_text) .none kV2 dc2 pm2 an2 cd2 ct2), sl2⟩) (c2 : PySem.W.codeIn K cd2 "checked_text" = true) (k2 : PySem.W.keepIn K (.ref f2) = true)
    (a3 : PySem.W.nsIn K mainGlobals "_text_at" = some (some (.ref f3))) (l3 : K.lookup f3 = some ⟨oc3, od3, .func (PySem.W.fnOf "_text_at" "_text_at" (defArgs s_text_at) (defBody s_text_at) (defScope s_text_at) .none kV3 dc3 pm3 an3 cd3 ct3), sl3⟩) (c3 : PySem.W.codeIn K cd3 "_text_at" = true) (k3 : PySem.W.keepIn K (.ref f3) = true)
    (a4 : PySem.W.nsIn K mainGlobals "tree_changes" = some (some (.ref f4))) (l4 : K.lookup f4 = some ⟨oc4, od4, .func (PySem.W.fnOf "tree_changes" "tree_changes" (defArgs s_tree_changes) (defBody s_tree_changes) (defScope s_tree_changes) .none kV4 dc4 pm4 an4 cd4 ct4), sl4⟩) (c4 : PySem.W.codeIn K cd4 "tree_changes" = true) (k4 : PySem.W.keepIn K (.ref f4) = true)
    (a5 : PySem.W.nsIn K mainGlobals "_is_word" = some (some (.ref f5))) (l5 : K.lookup f5 = some ⟨oc5, od5, .func (PySem.W.fnOf "_is_word" "_is_word" (defArgs s_is_word) (defBody s_is_word) (defScope s_is_word) .none kV5 dc5 pm5 an5 cd5 ct5), sl5⟩) (c5 : PySem.W.codeIn K cd5 "_is_word" = true) (k5 : PySem.W.keepIn K (.ref f5) = true)
    (a6 : PySem.W.nsIn K mainGlobals "is_path" = some (some (.ref f6))) (l6 : K.lookup f6 = some ⟨oc6, od6, .func (PySem.W.fnOf "is_path" "is_path" (defArgs s_is_path) (defBody s_is_path) (defScope s_is_path) .none kV6 dc6 pm6 an6 cd6 ct6), sl6⟩) (c6 : PySem.W.codeIn K cd6 "is_path" = true) (k6 : PySem.W.keepIn K (.ref f6) = true)
    (a7 : PySem.W.nsIn K mainGlobals "puts_between" = some (some (.ref f7))) (l7 : K.lookup f7 = some ⟨oc7, od7, .func (PySem.W.fnOf "puts_between" "puts_between" (defArgs s_puts_between) (defBody s_puts_between) (defScope s_puts_between) .none kV7 dc7 pm7 an7 cd7 ct7), sl7⟩) (c7 : PySem.W.codeIn K cd7 "puts_between" = true) (k7 : PySem.W.keepIn K (.ref f7) = true)
    (a8 : PySem.W.nsIn K mainGlobals "_check_puts" = some (some (.ref f8))) (l8 : K.lookup f8 = some ⟨oc8, od8, .func (PySem.W.fnOf "_check_puts" "_check_puts" (defArgs s_check_puts) (defBody s_check_puts) (defScope s_check_puts) .none kV8 dc8 pm8 an8 cd8 ct8), sl8⟩) (c8 : PySem.W.codeIn K cd8 "_check_puts" = true) (k8 : PySem.W.keepIn K (.ref f8) = true)
    (a9 : PySem.W.nsIn K mainGlobals "put_tree" = some (some (.ref f9))) (l9 : K.lookup f9 = some ⟨oc9, od9, .func (PySem.W.fnOf "put_tree" "put_tree" (defArgs s_put_tree) (defBody s_put_tree) (defScope s_put_tree) .none kV9 dc9 pm9 an9 cd9 ct9), sl9⟩) (c9 : PySem.W.codeIn K cd9 "put_tree" = true) (k9 : PySem.W.keepIn K (.ref f9) = true)
    (a10 : PySem.W.nsIn K mainGlobals "_law_feed" = some (some (.ref f10))) (l10 : K.lookup f10 = some ⟨oc10, od10, .func (PySem.W.fnOf "_law_feed" "_law_feed" (defArgs s_l_feed) (defBody s_l_feed) (defScope s_l_feed) .none kV10 dc10 pm10 an10 cd10 ct10), sl10⟩) (c10 : PySem.W.codeIn K cd10 "_law_feed" = true) (k10 : PySem.W.keepIn K (.ref f10) = true)
    (a11 : PySem.W.nsIn K mainGlobals "_law_next" = some (some (.ref f11))) (l11 : K.lookup f11 = some ⟨oc11, od11, .func (PySem.W.fnOf "_law_next" "_law_next" (defArgs s_l_next) (defBody s_l_next) (defScope s_l_next) .none kV11 dc11 pm11 an11 cd11 ct11), sl11⟩) (c11 : PySem.W.codeIn K cd11 "_law_next" = true) (k11 : PySem.W.keepIn K (.ref f11) = true)
    (a12 : PySem.W.nsIn K mainGlobals "_law_same" = some (some (.ref f12))) (l12 : K.lookup f12 = some ⟨oc12, od12, .func (PySem.W.fnOf "_law_same" "_law_same" (defArgs s_l_same) (defBody s_l_same) (defScope s_l_same) .none kV12 dc12 pm12 an12 cd12 ct12), sl12⟩) (c12 : PySem.W.codeIn K cd12 "_law_same" = true) (k12 : PySem.W.keepIn K (.ref f12) = true)
    (a13 : PySem.W.nsIn K mainGlobals "_law_way" = some (some (.ref f13))) (l13 : K.lookup f13 = some ⟨oc13, od13, .func (PySem.W.fnOf "_law_way" "_law_way" (defArgs s_l_way) (defBody s_l_way) (defScope s_l_way) .none kV13 dc13 pm13 an13 cd13 ct13), sl13⟩) (c13 : PySem.W.codeIn K cd13 "_law_way" = true) (k13 : PySem.W.keepIn K (.ref f13) = true)
    (a14 : PySem.W.nsIn K mainGlobals "_law_text" = some (some (.ref f14))) (l14 : K.lookup f14 = some ⟨oc14, od14, .func (PySem.W.fnOf "_law_text" "_law_text" (defArgs s_l_text) (defBody s_l_text) (defScope s_l_text) .none kV14 dc14 pm14 an14 cd14 ct14), sl14⟩) (c14 : PySem.W.codeIn K cd14 "_law_text" = true) (k14 : PySem.W.keepIn K (.ref f14) = true)
    (a15 : PySem.W.nsIn K mainGlobals "_law_row" = some (some (.ref f15))) (l15 : K.lookup f15 = some ⟨oc15, od15, .func (PySem.W.fnOf "_law_row" "_law_row" (defArgs s_l_row) (defBody s_l_row) (defScope s_l_row) .none kV15 dc15 pm15 an15 cd15 ct15), sl15⟩) (c15 : PySem.W.codeIn K cd15 "_law_row" = true) (k15 : PySem.W.keepIn K (.ref f15) = true)
    (a16 : PySem.W.nsIn K mainGlobals "_law_made" = some (some (.ref f16))) (l16 : K.lookup f16 = some ⟨oc16, od16, .func (PySem.W.fnOf "_law_made" "_law_made" (defArgs s_l_made) (defBody s_l_made) (defScope s_l_made) .none kV16 dc16 pm16 an16 cd16 ct16), sl16⟩) (c16 : PySem.W.codeIn K cd16 "_law_made" = true) (k16 : PySem.W.keepIn K (.ref f16) = true)
    (a17 : PySem.W.nsIn K mainGlobals "_law_copy" = some (some (.ref f17))) (l17 : K.lookup f17 = some ⟨oc17, od17, .func (PySem.W.fnOf "_law_copy" "_law_copy" (defArgs s_l_copy) (defBody s_l_copy) (defScope s_l_copy) .none kV17 dc17 pm17 an17 cd17 ct17), sl17⟩) (c17 : PySem.W.codeIn K cd17 "_law_copy" = true) (k17 : PySem.W.keepIn K (.ref f17) = true)
    (a18 : PySem.W.nsIn K mainGlobals "_law_rising" = some (some (.ref f18))) (l18 : K.lookup f18 = some ⟨oc18, od18, .func (PySem.W.fnOf "_law_rising" "_law_rising" (defArgs s_l_rising) (defBody s_l_rising) (defScope s_l_rising) .none kV18 dc18 pm18 an18 cd18 ct18), sl18⟩) (c18 : PySem.W.codeIn K cd18 "_law_rising" = true) (k18 : PySem.W.keepIn K (.ref f18) = true)
    (a19 : PySem.W.nsIn K mainGlobals "_law_kept" = some (some (.ref f19))) (l19 : K.lookup f19 = some ⟨oc19, od19, .func (PySem.W.fnOf "_law_kept" "_law_kept" (defArgs s_l_kept) (defBody s_l_kept) (defScope s_l_kept) .none kV19 dc19 pm19 an19 cd19 ct19), sl19⟩) (c19 : PySem.W.codeIn K cd19 "_law_kept" = true) (k19 : PySem.W.keepIn K (.ref f19) = true)
    (a20 : PySem.W.nsIn K mainGlobals "_law_spoil" = some (some (.ref f20))) (l20 : K.lookup f20 = some ⟨oc20, od20, .func (PySem.W.fnOf "_law_spoil" "_law_spoil" (defArgs s_l_spoil) (defBody s_l_spoil) (defScope s_l_spoil) .none kV20 dc20 pm20 an20 cd20 ct20), sl20⟩) (c20 : PySem.W.codeIn K cd20 "_law_spoil" = true) (k20 : PySem.W.keepIn K (.ref f20) = true)
    (a21 : PySem.W.nsIn K mainGlobals "_law_signs" = some (some (.ref f21))) (l21 : K.lookup f21 = some ⟨oc21, od21, .func (PySem.W.fnOf "_law_signs" "_law_signs" (defArgs s_l_signs) (defBody s_l_signs) (defScope s_l_signs) .none kV21 dc21 pm21 an21 cd21 ct21), sl21⟩) (c21 : PySem.W.codeIn K cd21 "_law_signs" = true) (k21 : PySem.W.keepIn K (.ref f21) = true)
    (a22 : PySem.W.nsIn K mainGlobals "_law_is_way" = some (some (.ref f22))) (l22 : K.lookup f22 = some ⟨oc22, od22, .func (PySem.W.fnOf "_law_is_way" "_law_is_way" (defArgs s_l_is_way) (defBody s_l_is_way) (defScope s_l_is_way) .none kV22 dc22 pm22 an22 cd22 ct22), sl22⟩) (c22 : PySem.W.codeIn K cd22 "_law_is_way" = true) (k22 : PySem.W.keepIn K (.ref f22) = true)
    (a23 : PySem.W.nsIn K mainGlobals "_law_is_text" = some (some (.ref f23))) (l23 : K.lookup f23 = some ⟨oc23, od23, .func (PySem.W.fnOf "_law_is_text" "_law_is_text" (defArgs s_l_is_text) (defBody s_l_is_text) (defScope s_l_is_text) .none kV23 dc23 pm23 an23 cd23 ct23), sl23⟩) (c23 : PySem.W.codeIn K cd23 "_law_is_text" = true) (k23 : PySem.W.keepIn K (.ref f23) = true)
    (a24 : PySem.W.nsIn K mainGlobals "_law_first_bad" = some (some (.ref f24))) (l24 : K.lookup f24 = some ⟨oc24, od24, .func (PySem.W.fnOf "_law_first_bad" "_law_first_bad" (defArgs s_l_first_bad) (defBody s_l_first_bad) (defScope s_l_first_bad) .none kV24 dc24 pm24 an24 cd24 ct24), sl24⟩) (c24 : PySem.W.codeIn K cd24 "_law_first_bad" = true) (k24 : PySem.W.keepIn K (.ref f24) = true)
    (a25 : PySem.W.nsIn K mainGlobals "_law_put" = some (some (.ref f25))) (l25 : K.lookup f25 = some ⟨oc25, od25, .func (PySem.W.fnOf "_law_put" "_law_put" (defArgs s_l_put) (defBody s_l_put) (defScope s_l_put) .none kV25 dc25 pm25 an25 cd25 ct25), sl25⟩) (c25 : PySem.W.codeIn K cd25 "_law_put" = true) (k25 : PySem.W.keepIn K (.ref f25) = true)
    (a26 : PySem.W.nsIn K mainGlobals "_law_between" = some (some (.ref f26))) (l26 : K.lookup f26 = some ⟨oc26, od26, .func (PySem.W.fnOf "_law_between" "_law_between" (defArgs s_l_between) (defBody s_l_between) (defScope s_l_between) .none kV26 dc26 pm26 an26 cd26 ct26), sl26⟩) (c26 : PySem.W.codeIn K cd26 "_law_between" = true) (k26 : PySem.W.keepIn K (.ref f26) = true)
    (a27 : PySem.W.nsIn K mainGlobals "_law_drawn" = some (some (.ref f27))) (l27 : K.lookup f27 = some ⟨oc27, od27, .func (PySem.W.fnOf "_law_drawn" "_law_drawn" (defArgs s_l_drawn) (defBody s_l_drawn) (defScope s_l_drawn) .none kV27 dc27 pm27 an27 cd27 ct27), sl27⟩) (c27 : PySem.W.codeIn K cd27 "_law_drawn" = true) (k27 : PySem.W.keepIn K (.ref f27) = true)
    (a28 : PySem.W.nsIn K mainGlobals "_law_bent" = some (some (.ref f28))) (l28 : K.lookup f28 = some ⟨oc28, od28, .func (PySem.W.fnOf "_law_bent" "_law_bent" (defArgs s_l_bent) (defBody s_l_bent) (defScope s_l_bent) .none kV28 dc28 pm28 an28 cd28 ct28), sl28⟩) (c28 : PySem.W.codeIn K cd28 "_law_bent" = true) (k28 : PySem.W.keepIn K (.ref f28) = true)
    (a29 : PySem.W.nsIn K mainGlobals "_law_applies" = some (some (.ref f29))) (l29 : K.lookup f29 = some ⟨oc29, od29, .func (PySem.W.fnOf "_law_applies" "_law_applies" (defArgs s_l_applies) (defBody s_l_applies) (defScope s_l_applies) .none kV29 dc29 pm29 an29 cd29 ct29), sl29⟩) (c29 : PySem.W.codeIn K cd29 "_law_applies" = true) (k29 : PySem.W.keepIn K (.ref f29) = true)
    (a30 : PySem.W.nsIn K mainGlobals "_law_finds" = some (some (.ref f30))) (l30 : K.lookup f30 = some ⟨oc30, od30, .func (PySem.W.fnOf "_law_finds" "_law_finds" (defArgs s_l_finds) (defBody s_l_finds) (defScope s_l_finds) .none kV30 dc30 pm30 an30 cd30 ct30), sl30⟩) (c30 : PySem.W.codeIn K cd30 "_law_finds" = true) (k30 : PySem.W.keepIn K (.ref f30) = true)
    (a31 : PySem.W.nsIn K mainGlobals "law" = some (some (.ref f31))) (l31 : K.lookup f31 = some ⟨oc31, od31, .func (PySem.W.fnOf "law" "law" (defArgs s_law) (defBody s_law) (defScope s_law) .none kV31 dc31 pm31 an31 cd31 ct31), sl31⟩) (c31 : PySem.W.codeIn K cd31 "law" = true) (k31 : PySem.W.keepIn K (.ref f31) = true)
    (ac_PartError : PySem.W.nsIn K mainGlobals "PartError" = some (some (.ref c_PartError)))
    (ec_PartError : PySem.W.subIn K (.ref c_PartError) (.type "BaseException") = some true)
    (tc_PartError : PySem.W.typeIn K (.ref c_PartError) = some (.type "type"))
    (ic_PartError : PySem.W.isClsIn K c_PartError = true)
    (ac_BadText : PySem.W.nsIn K mainGlobals "BadText" = some (some (.ref c_BadText)))
    (ec_BadText : PySem.W.subIn K (.ref c_BadText) (.type "BaseException") = some true)
    (tc_BadText : PySem.W.typeIn K (.ref c_BadText) = some (.type "type"))
    (ic_BadText : PySem.W.isClsIn K c_BadText = true)
    {nm_BadText q_BadText : Str} {ns_BadText : Addr} {bs_BadText : List Value} {sn_BadText : List Str} {sub_BadText : List Value} {ab_BadText : Bool} {col_BadText : Option Bool} {dd_BadText : Option Addr} {m0_BadText m1_BadText m2_BadText m3_BadText m5_BadText : Option Value}
    (xL_BadText : K.lookup c_BadText = some (excClassObj nm_BadText q_BadText c_BadText ns_BadText bs_BadText [.ref c_PartError, .type "ValueError", .type "Exception", .type "BaseException", .type "object"] true sn_BadText sub_BadText ab_BadText col_BadText dd_BadText m0_BadText m1_BadText m2_BadText m3_BadText m5_BadText "ValueError.__new__"))
    (sa_BadText : PySem.W.findIn K (.ref c_BadText) "__setattr__" = some (some (.builtin "object.__setattr__")))
    (ga_BadText : PySem.W.findIn K (.ref c_BadText) "__getattribute__" = some (some (.builtin "BaseException.__getattribute__")))
    (gg_BadText : PySem.W.findIn K (.ref c_BadText) "__getattr__" = some none)
    (gk_BadText : PySem.W.findIn K (.ref c_BadText) "__class__" = some (some (.builtin "object.__class__")))
    (gm_BadText : PySem.W.mroIn K c_BadText (.type "object") = some true)
    (n_place_BadText : PySem.W.findIn K (.ref c_BadText) "place" = some none)
    (ai_BadText : PySem.W.findIn K (.ref c_BadText) "__init__" = some (some (.ref fi_BadText)))
    (ti_BadText : PySem.W.typeIn K (.ref fi_BadText) = some (.type "function"))
    {odi_BadText ani_BadText : Option Addr} {sli_BadText : Array (Option Value)} {oci_BadText kVi_BadText dci_BadText pmi_BadText cdi_BadText cti_BadText : Value}
    (li_BadText : K.lookup fi_BadText = some ⟨oci_BadText, odi_BadText, .func (PySem.W.fnOf "__init__" "BadText.__init__" (defArgs (inClass (topS 2) 0)) (defBody (inClass (topS 2) 0)) (defScope (inClass (topS 2) 0)) .none kVi_BadText dci_BadText pmi_BadText ani_BadText cdi_BadText cti_BadText), sli_BadText⟩)
    (ci_BadText : PySem.W.codeIn K cdi_BadText "BadText.__init__" = true)
    (ki_BadText : PySem.W.keepIn K (.ref fi_BadText) = true)
    (kc_BadText : PySem.W.keepIn K (.ref c_BadText) = true)
    (hc_BadText : PySem.W.hasDictIn K c_BadText = true)
    (ac_BadTree : PySem.W.nsIn K mainGlobals "BadTree" = some (some (.ref c_BadTree)))
    (ec_BadTree : PySem.W.subIn K (.ref c_BadTree) (.type "BaseException") = some true)
    (tc_BadTree : PySem.W.typeIn K (.ref c_BadTree) = some (.type "type"))
    (ic_BadTree : PySem.W.isClsIn K c_BadTree = true)
    (ac_BadPut : PySem.W.nsIn K mainGlobals "BadPut" = some (some (.ref c_BadPut)))
    (ec_BadPut : PySem.W.subIn K (.ref c_BadPut) (.type "BaseException") = some true)
    (tc_BadPut : PySem.W.typeIn K (.ref c_BadPut) = some (.type "type"))
    (ic_BadPut : PySem.W.isClsIn K c_BadPut = true)
    {nm_BadPut q_BadPut : Str} {ns_BadPut : Addr} {bs_BadPut : List Value} {sn_BadPut : List Str} {sub_BadPut : List Value} {ab_BadPut : Bool} {col_BadPut : Option Bool} {dd_BadPut : Option Addr} {m0_BadPut m1_BadPut m2_BadPut m3_BadPut m5_BadPut : Option Value}
    (xL_BadPut : K.lookup c_BadPut = some (excClassObj nm_BadPut q_BadPut c_BadPut ns_BadPut bs_BadPut [.ref c_PartError, .type "ValueError", .type "Exception", .type "BaseException", .type "object"] true sn_BadPut sub_BadPut ab_BadPut col_BadPut dd_BadPut m0_BadPut m1_BadPut m2_BadPut m3_BadPut m5_BadPut "ValueError.__new__"))
    (sa_BadPut : PySem.W.findIn K (.ref c_BadPut) "__setattr__" = some (some (.builtin "object.__setattr__")))
    (ga_BadPut : PySem.W.findIn K (.ref c_BadPut) "__getattribute__" = some (some (.builtin "BaseException.__getattribute__")))
    (gg_BadPut : PySem.W.findIn K (.ref c_BadPut) "__getattr__" = some none)
    (gk_BadPut : PySem.W.findIn K (.ref c_BadPut) "__class__" = some (some (.builtin "object.__class__")))
    (gm_BadPut : PySem.W.mroIn K c_BadPut (.type "object") = some true)
    (n_place_BadPut : PySem.W.findIn K (.ref c_BadPut) "place" = some none)
    (ai_BadPut : PySem.W.findIn K (.ref c_BadPut) "__init__" = some (some (.ref fi_BadPut)))
    (ti_BadPut : PySem.W.typeIn K (.ref fi_BadPut) = some (.type "function"))
    {odi_BadPut ani_BadPut : Option Addr} {sli_BadPut : Array (Option Value)} {oci_BadPut kVi_BadPut dci_BadPut pmi_BadPut cdi_BadPut cti_BadPut : Value}
    (li_BadPut : K.lookup fi_BadPut = some ⟨oci_BadPut, odi_BadPut, .func (PySem.W.fnOf "__init__" "BadPut.__init__" (defArgs (inClass (topS 4) 0)) (defBody (inClass (topS 4) 0)) (defScope (inClass (topS 4) 0)) .none kVi_BadPut dci_BadPut pmi_BadPut ani_BadPut cdi_BadPut cti_BadPut), sli_BadPut⟩)
    (ci_BadPut : PySem.W.codeIn K cdi_BadPut "BadPut.__init__" = true)
    (ki_BadPut : PySem.W.keepIn K (.ref fi_BadPut) = true)
    (kc_BadPut : PySem.W.keepIn K (.ref c_BadPut) = true)
    (hc_BadPut : PySem.W.hasDictIn K c_BadPut = true)
    (ss_BadText_BadPut : PySem.W.subIn K (.ref c_BadText) (.ref c_BadPut) = some false)
    (ss_BadText_BadText : PySem.W.subIn K (.ref c_BadText) (.ref c_BadText) = some true)
    (ss_BadText_BadTree : PySem.W.subIn K (.ref c_BadText) (.ref c_BadTree) = some false)
    (ss_BadText_PartError : PySem.W.subIn K (.ref c_BadText) (.ref c_PartError) = some true)
    (sv_BadText : PySem.W.subIn K (.ref c_BadText) (.type "ValueError") = some true)
    (ss_BadPut_BadPut : PySem.W.subIn K (.ref c_BadPut) (.ref c_BadPut) = some true)
    (ss_BadPut_BadText : PySem.W.subIn K (.ref c_BadPut) (.ref c_BadText) = some false)
    (ss_BadPut_BadTree : PySem.W.subIn K (.ref c_BadPut) (.ref c_BadTree) = some false)
    (ss_BadPut_PartError : PySem.W.subIn K (.ref c_BadPut) (.ref c_PartError) = some true)
    (sv_BadPut : PySem.W.subIn K (.ref c_BadPut) (.type "ValueError") = some true)
    (xn : PySem.W.specialIn K (.builtin "object.__class__") "__get__" = some (some (.builtin "getset_descriptor.__get__"))) (xt : PySem.W.takesIn K (.builtin "object.__class__") = some true)
    (z_ValueError : PySem.W.nsIn K mainGlobals "ValueError" = some none)
    (z_abs : PySem.W.nsIn K mainGlobals "abs" = some none)
    (z_bool : PySem.W.nsIn K mainGlobals "bool" = some none)
    (z_dict : PySem.W.nsIn K mainGlobals "dict" = some none)
    (z_enumerate : PySem.W.nsIn K mainGlobals "enumerate" = some none)
    (z_int : PySem.W.nsIn K mainGlobals "int" = some none)
    (z_isinstance : PySem.W.nsIn K mainGlobals "isinstance" = some none)
    (z_len : PySem.W.nsIn K mainGlobals "len" = some none)
    (z_list : PySem.W.nsIn K mainGlobals "list" = some none)
    (z_max : PySem.W.nsIn K mainGlobals "max" = some none)
    (z_range : PySem.W.nsIn K mainGlobals "range" = some none)
    (z_set : PySem.W.nsIn K mainGlobals "set" = some none)
    (z_sorted : PySem.W.nsIn K mainGlobals "sorted" = some none)
    (z_str : PySem.W.nsIn K mainGlobals "str" = some none)
    (z_tuple : PySem.W.nsIn K mainGlobals "tuple" = some none)
    {ut_SIGNS : Tok} (y_SIGNS : PySem.W.nsIn K mainGlobals "SIGNS" = some (some (.str "abcdefghijklmnopqrstuvwxyz0123456789 <=>|-" ut_SIGNS)))
    {ut_LINE_LENGTH : Tok} (y_LINE_LENGTH : PySem.W.nsIn K mainGlobals "LINE_LENGTH" = some (some (.int 20 ut_LINE_LENGTH)))
    {ut_TEXT_LENGTH : Tok} (y_TEXT_LENGTH : PySem.W.nsIn K mainGlobals "TEXT_LENGTH" = some (some (.int 40 ut_TEXT_LENGTH)))
    {ut_WORD_SIGNS : Tok} (y_WORD_SIGNS : PySem.W.nsIn K mainGlobals "WORD_SIGNS" = some (some (.str "abcdefghijklmnopqrstuvwxyz0123456789" ut_WORD_SIGNS)))
    {ut_WORD_LENGTH : Tok} (y_WORD_LENGTH : PySem.W.nsIn K mainGlobals "WORD_LENGTH" = some (some (.int 6 ut_WORD_LENGTH)))
    {ut_PATH_WORDS : Tok} (y_PATH_WORDS : PySem.W.nsIn K mainGlobals "PATH_WORDS" = some (some (.int 3 ut_PATH_WORDS))) :
    ∃ fd : FuncData, (∀ (s : Shared) (v : Value), BindsTo s fd ⟨[v], []⟩ [("script", v)]) ∧ ∀ base : Heap, K.In base → base.Ns mainGlobals mg → FnOk l.prog w K mg base CX0 8 fa fd ["script"] (sp_law K) := by
  have e := hfa.symm.trans (PySem.W.mg_of X G a31)
  cases e
  have F1 := fun_mk (st := s_is_line) l1 c1 k1
  have b1 := F1.binds (ps := ["value"]) fun _ _ _ _ _ _ us hl => match us, hl with | [_], _ => rfl
  have F2 := fun_mk (st := s_checked_text) l2 c2 k2
  have b2 := F2.binds (ps := ["text"]) fun _ _ _ _ _ _ us hl => match us, hl with | [_], _ => rfl
  have F3 := fun_mk (st := s_text_at) l3 c3 k3
  have b3 := F3.binds (ps := ["tree", "path"]) fun _ _ _ _ _ _ us hl => match us, hl with | [_, _], _ => rfl
  have F4 := fun_mk (st := s_tree_changes) l4 c4 k4
  have b4 := F4.binds (ps := ["old", "new"]) fun _ _ _ _ _ _ us hl => match us, hl with | [_, _], _ => rfl
  have F5 := fun_mk (st := s_is_word) l5 c5 k5
  have b5 := F5.binds (ps := ["value"]) fun _ _ _ _ _ _ us hl => match us, hl with | [_], _ => rfl
  have F6 := fun_mk (st := s_is_path) l6 c6 k6
  have b6 := F6.binds (ps := ["value"]) fun _ _ _ _ _ _ us hl => match us, hl with | [_], _ => rfl
  have F7 := fun_mk (st := s_puts_between) l7 c7 k7
  have b7 := F7.binds (ps := ["old", "new"]) fun _ _ _ _ _ _ us hl => match us, hl with | [_, _], _ => rfl
  have F8 := fun_mk (st := s_check_puts) l8 c8 k8
  have b8 := F8.binds (ps := ["puts"]) fun _ _ _ _ _ _ us hl => match us, hl with | [_], _ => rfl
  have F9 := fun_mk (st := s_put_tree) l9 c9 k9
  have b9 := F9.binds (ps := ["tree", "puts"]) fun _ _ _ _ _ _ us hl => match us, hl with | [_, _], _ => rfl
  have F10 := fun_mk (st := s_l_feed) l10 c10 k10
  have b10 := F10.binds (ps := ["script"]) fun _ _ _ _ _ _ us hl => match us, hl with | [_], _ => rfl
  have F11 := fun_mk (st := s_l_next) l11 c11 k11
  have b11 := F11.binds (ps := ["cells", "many"]) fun _ _ _ _ _ _ us hl => match us, hl with | [_, _], _ => rfl
  have F12 := fun_mk (st := s_l_same) l12 c12 k12
  have b12 := F12.binds (ps := ["told", "due"]) fun _ _ _ _ _ _ us hl => match us, hl with | [_, _], _ => rfl
  have F13 := fun_mk (st := s_l_way) l13 c13 k13
  have b13 := F13.binds (ps := ["place"]) fun _ _ _ _ _ _ us hl => match us, hl with | [_], _ => rfl
  have F14 := fun_mk (st := s_l_text) l14 c14 k14
  have b14 := F14.binds (ps := ["place"]) fun _ _ _ _ _ _ us hl => match us, hl with | [_], _ => rfl
  have F15 := fun_mk (st := s_l_row) l15 c15 k15
  have b15 := F15.binds (ps := ["text"]) fun _ _ _ _ _ _ us hl => match us, hl with | [_], _ => rfl
  have F16 := fun_mk (st := s_l_made) l16 c16 k16
  have b16 := F16.binds (ps := ["paths", "texts"]) fun _ _ _ _ _ _ us hl => match us, hl with | [_, _], _ => rfl
  have F17 := fun_mk (st := s_l_copy) l17 c17 k17
  have b17 := F17.binds (ps := ["tree"]) fun _ _ _ _ _ _ us hl => match us, hl with | [_], _ => rfl
  have F18 := fun_mk (st := s_l_rising) l18 c18 k18
  have b18 := F18.binds (ps := ["tree"]) fun _ _ _ _ _ _ us hl => match us, hl with | [_], _ => rfl
  have F19 := fun_mk (st := s_l_kept) l19 c19 k19
  have b19 := F19.binds (ps := ["passed", "tree"]) fun _ _ _ _ _ _ us hl => match us, hl with | [_, _], _ => rfl
  have F20 := fun_mk (st := s_l_spoil) l20 c20 k20
  have b20 := F20.binds (ps := ["tree"]) fun _ _ _ _ _ _ us hl => match us, hl with | [_], _ => rfl
  have F21 := fun_mk (st := s_l_signs) l21 c21 k21
  have b21 := F21.binds (ps := ["word", "signs"]) fun _ _ _ _ _ _ us hl => match us, hl with | [_, _], _ => rfl
  have F22 := fun_mk (st := s_l_is_way) l22 c22 k22
  have b22 := F22.binds (ps := ["path"]) fun _ _ _ _ _ _ us hl => match us, hl with | [_], _ => rfl
  have F23 := fun_mk (st := s_l_is_text) l23 c23 k23
  have b23 := F23.binds (ps := ["lines"]) fun _ _ _ _ _ _ us hl => match us, hl with | [_], _ => rfl
  have F24 := fun_mk (st := s_l_first_bad) l24 c24 k24
  have b24 := F24.binds (ps := ["puts"]) fun _ _ _ _ _ _ us hl => match us, hl with | [_], _ => rfl
  have F25 := fun_mk (st := s_l_put) l25 c25 k25
  have b25 := F25.binds (ps := ["tree", "puts"]) fun _ _ _ _ _ _ us hl => match us, hl with | [_, _], _ => rfl
  have F26 := fun_mk (st := s_l_between) l26 c26 k26
  have b26 := F26.binds (ps := ["old", "new"]) fun _ _ _ _ _ _ us hl => match us, hl with | [_, _], _ => rfl
  have F27 := fun_mk (st := s_l_drawn) l27 c27 k27
  have b27 := F27.binds (ps := ["cells", "start", "step"]) fun _ _ _ _ _ _ us hl => match us, hl with | [_, _, _], _ => rfl
  have F28 := fun_mk (st := s_l_bent) l28 c28 k28
  have b28 := F28.binds (ps := ["cells", "puts"]) fun _ _ _ _ _ _ us hl => match us, hl with | [_, _], _ => rfl
  have F29 := fun_mk (st := s_l_applies) l29 c29 k29
  have b29 := F29.binds (ps := ["tree", "puts"]) fun _ _ _ _ _ _ us hl => match us, hl with | [_, _], _ => rfl
  have F30 := fun_mk (st := s_l_finds) l30 c30 k30
  have b30 := F30.binds (ps := ["old", "new", "due"]) fun _ _ _ _ _ _ us hl => match us, hl with | [_, _, _], _ => rfl
  have F31 := fun_mk (st := s_law) l31 c31 k31
  have b31 := F31.binds (ps := ["script"]) fun _ _ _ _ _ _ us hl => match us, hl with | [_], _ => rfl
  have Fi_BadText := fun_mk (st := inClass (topS 2) 0) li_BadText ci_BadText ki_BadText
  have bi_BadText := Fi_BadText.binds (ps := ["self", "place"]) fun _ _ _ _ _ _ us hl => match us, hl with | [_, _], _ => rfl
  have Fi_BadPut := fun_mk (st := inClass (topS 4) 0) li_BadPut ci_BadPut ki_BadPut
  have bi_BadPut := Fi_BadPut.binds (ps := ["self", "place"]) fun _ _ _ _ _ _ us hl => match us, hl with | [_, _], _ => rfl
  exact ⟨_, fun s v => .of_eq rfl, fun base _ _ => ok_law ⟨_, _, F1, PySem.W.mg_of X G a1, b1, _, _, F2, PySem.W.mg_of X G a2, b2, _, _, F3, PySem.W.mg_of X G a3, b3, _, _, F4, PySem.W.mg_of X G a4, b4, _, _, F5, PySem.W.mg_of X G a5, b5, _, _, F6, PySem.W.mg_of X G a6, b6, _, _, F7, PySem.W.mg_of X G a7, b7, _, _, F8, PySem.W.mg_of X G a8, b8, _, _, F9, PySem.W.mg_of X G a9, b9, _, _, F10, PySem.W.mg_of X G a10, b10, _, _, F11, PySem.W.mg_of X G a11, b11, _, _, F12, PySem.W.mg_of X G a12, b12, _, _, F13, PySem.W.mg_of X G a13, b13, _, _, F14, PySem.W.mg_of X G a14, b14, _, _, F15, PySem.W.mg_of X G a15, b15, _, _, F16, PySem.W.mg_of X G a16, b16, _, _, F17, PySem.W.mg_of X G a17, b17, _, _, F18, PySem.W.mg_of X G a18, b18, _, _, F19, PySem.W.mg_of X G a19, b19, _, _, F20, PySem.W.mg_of X G a20, b20, _, _, F21, PySem.W.mg_of X G a21, b21, _, _, F22, PySem.W.mg_of X G a22, b22, _, _, F23, PySem.W.mg_of X G a23, b23, _, _, F24, PySem.W.mg_of X G a24, b24, _, _, F25, PySem.W.mg_of X G a25, b25, _, _, F26, PySem.W.mg_of X G a26, b26, _, _, F27, PySem.W.mg_of X G a27, b27, _, _, F28, PySem.W.mg_of X G a28, b28, _, _, F29, PySem.W.mg_of X G a29, b29, _, _, F30, PySem.W.mg_of X G a30, b30, _, _, F31, PySem.W.mg_of X G a31, b31, c_PartError, PySem.W.mg_of X G ac_PartError, c_BadText, PySem.W.mg_of X G ac_BadText, fi_BadText, _, Fi_BadText, bi_BadText, ⟨⟨_, _, _, _, _, _, _, _, _, _, _, _, _, _, _, xL_BadText, by rfl⟩, sa_BadText, ec_BadText, tc_BadText, kc_BadText⟩, ai_BadText, ti_BadText, n_place_BadText, ⟨ga_BadText, gg_BadText, ec_BadText, hc_BadText⟩, ⟨by unfold PySem.W.clsIn; rw [xL_BadText] <;> rfl, ga_BadText, gg_BadText, ec_BadText, hc_BadText, gk_BadText, xn, xt, gm_BadText⟩, c_BadTree, PySem.W.mg_of X G ac_BadTree, c_BadPut, PySem.W.mg_of X G ac_BadPut, fi_BadPut, _, Fi_BadPut, bi_BadPut, ⟨⟨_, _, _, _, _, _, _, _, _, _, _, _, _, _, _, xL_BadPut, by rfl⟩, sa_BadPut, ec_BadPut, tc_BadPut, kc_BadPut⟩, ai_BadPut, ti_BadPut, n_place_BadPut, ⟨ga_BadPut, gg_BadPut, ec_BadPut, hc_BadPut⟩, ⟨by unfold PySem.W.clsIn; rw [xL_BadPut] <;> rfl, ga_BadPut, gg_BadPut, ec_BadPut, hc_BadPut, gk_BadPut, xn, xt, gm_BadPut⟩, exm_own ec_BadPut ic_BadPut tc_BadPut ss_BadText_BadPut, exm_own ec_BadText ic_BadText tc_BadText ss_BadText_BadText, kit_own ss_BadText_BadText ss_BadText_BadTree ic_BadTree tc_BadTree, kit_own ss_BadText_BadText ss_BadText_PartError ic_PartError tc_PartError, kit_ve sv_BadText, exm_own ec_BadPut ic_BadPut tc_BadPut ss_BadPut_BadPut, exm_own ec_BadText ic_BadText tc_BadText ss_BadPut_BadText, kit_own ss_BadPut_BadPut ss_BadPut_BadTree ic_BadTree tc_BadTree, kit_own ss_BadPut_BadPut ss_BadPut_PartError ic_PartError tc_PartError, kit_ve sv_BadPut, PySem.W.mg_none_of X G z_ValueError, PySem.W.mg_none_of X G z_abs, PySem.W.mg_none_of X G z_bool, PySem.W.mg_none_of X G z_dict, PySem.W.mg_none_of X G z_enumerate, PySem.W.mg_none_of X G z_int, PySem.W.mg_none_of X G z_isinstance, PySem.W.mg_none_of X G z_len, PySem.W.mg_none_of X G z_list, PySem.W.mg_none_of X G z_max, PySem.W.mg_none_of X G z_range, PySem.W.mg_none_of X G z_set, PySem.W.mg_none_of X G z_sorted, PySem.W.mg_none_of X G z_str, PySem.W.mg_none_of X G z_tuple, ⟨_, PySem.W.mg_of X G y_SIGNS, _, rfl⟩, ⟨_, PySem.W.mg_of X G y_LINE_LENGTH, _, rfl⟩, ⟨_, PySem.W.mg_of X G y_TEXT_LENGTH, _, rfl⟩, ⟨_, PySem.W.mg_of X G y_WORD_SIGNS, _, rfl⟩, ⟨_, PySem.W.mg_of X G y_WORD_LENGTH, _, rfl⟩, ⟨_, PySem.W.mg_of X G y_PATH_WORDS, _, rfl⟩⟩⟩
end K07
open PySem PySem.W PyProof.Rows
set_option maxHeartbeats 0 in
theorem PySem.Challenge.cw_partclones_k07_puts_holds : PySem.Challenge.rw_partclones_k07_puts.Holds := by
  w_on; o_law; k_head; (case hw => w_witness2)
  k_fill
  refine L2.walk_of (l := PySem.Challenge.rw_partclones_k07_puts) (n := 63) (k := 8) (x := "script") (CX := fun _ => L2.CX0) (sp := fun w => K07.sp_law _) rfl (by decide) rfl ⟨rfl, by decide, by decide⟩ (fun w h Y => PySem.W.kIn_of Y) ?F (fun _ H a ns hl _ hS => K07.sp_law_start hl hS) (fun _ _ _ _ _ h => h)
  case F =>
    intro w mg fa h KX G hmg
    refine' K07.all_mk KX G hmg ?a1 ?l1 ?c1 ?k1 ?a2 ?l2 ?c2 ?k2 ?a3 ?l3 ?c3 ?k3 ?a4 ?l4 ?c4 ?k4 ?a5 ?l5 ?c5 ?k5 ?a6 ?l6 ?c6 ?k6 ?a7 ?l7 ?c7 ?k7 ?a8 ?l8 ?c8 ?k8 ?a9 ?l9 ?c9 ?k9 ?a10 ?l10 ?c10 ?k10 ?a11 ?l11 ?c11 ?k11 ?a12 ?l12 ?c12 ?k12 ?a13 ?l13 ?c13 ?k13 ?a14 ?l14 ?c14 ?k14 ?a15 ?l15 ?c15 ?k15 ?a16 ?l16 ?c16 ?k16 ?a17 ?l17 ?c17 ?k17 ?a18 ?l18 ?c18 ?k18 ?a19 ?l19 ?c19 ?k19 ?a20 ?l20 ?c20 ?k20 ?a21 ?l21 ?c21 ?k21 ?a22 ?l22 ?c22 ?k22 ?a23 ?l23 ?c23 ?k23 ?a24 ?l24 ?c24 ?k24 ?a25 ?l25 ?c25 ?k25 ?a26 ?l26 ?c26 ?k26 ?a27 ?l27 ?c27 ?k27 ?a28 ?l28 ?c28 ?k28 ?a29 ?l29 ?c29 ?k29 ?a30 ?l30 ?c30 ?k30 ?a31 ?l31 ?c31 ?k31 ?ac_PartError ?ec_PartError ?tc_PartError ?ic_PartError ?ac_BadText ?ec_BadText ?tc_BadText ?ic_BadText ?xL_BadText ?sa_BadText ?ga_BadText ?gg_BadText ?gk_BadText ?gm_BadText ?n_place_BadText ?ai_BadText ?ti_BadText ?li_BadText ?ci_BadText ?ki_BadText ?kc_BadText ?hc_BadText ?ac_BadTree ?ec_BadTree ?tc_BadTree ?ic_BadTree ?ac_BadPut ?ec_BadPut ?tc_BadPut ?ic_BadPut ?xL_BadPut ?sa_BadPut ?ga_BadPut ?gg_BadPut ?gk_BadPut ?gm_BadPut ?n_place_BadPut ?ai_BadPut ?ti_BadPut ?li_BadPut ?ci_BadPut ?ki_BadPut ?kc_BadPut ?hc_BadPut ?ss_BadText_BadPut ?ss_BadText_BadText ?ss_BadText_BadTree ?ss_BadText_PartError ?sv_BadText ?ss_BadPut_BadPut ?ss_BadPut_BadText ?ss_BadPut_BadTree ?ss_BadPut_PartError ?sv_BadPut ?xn ?xt ?z_ValueError ?z_abs ?z_bool ?z_dict ?z_enumerate ?z_int ?z_isinstance ?z_len ?z_list ?z_max ?z_range ?z_set ?z_sorted ?z_str ?z_tuple ?y_SIGNS ?y_LINE_LENGTH ?y_TEXT_LENGTH ?y_WORD_SIGNS ?y_WORD_LENGTH ?y_PATH_WORDS
    (case a1 => k_is)
    (case l1 => k_is)
    (case c1 => k_is)
    (case k1 => k_is)
    (case a2 => k_is)
    (case l2 => k_is)
    (case c2 => k_is)
    (case k2 => k_is)
    (case a3 => k_is)
    (case l3 => k_is)
    (case c3 => k_is)
    (case k3 => k_is)
    (case a4 => k_is)
    (case l4 => k_is)
    (case c4 => k_is)
    (case k4 => k_is)
    (case a5 => k_is)
    (case l5 => k_is)
    (case c5 => k_is)
    (case k5 => k_is)
    (case a6 => k_is)
    (case l6 => k_is)
    (case c6 => k_is)
    (case k6 => k_is)
    (case a7 => k_is)
    (case l7 => k_is)
    (case c7 => k_is)
    (case k7 => k_is)
    (case a8 => k_is)
    (case l8 => k_is)
    (case c8 => k_is)
    (case k8 => k_is)
    (case a9 => k_is)
    (case l9 => k_is)
    (case c9 => k_is)
    (case k9 => k_is)
    (case a10 => k_is)
    (case l10 => k_is)
    (case c10 => k_is)
    (case k10 => k_is)
    (case a11 => k_is)
    (case l11 => k_is)
    (case c11 => k_is)
    (case k11 => k_is)
    (case a12 => k_is)
    (case l12 => k_is)
    (case c12 => k_is)
    (case k12 => k_is)
    (case a13 => k_is)
    (case l13 => k_is)
    (case c13 => k_is)
    (case k13 => k_is)
    (case a14 => k_is)
    (case l14 => k_is)
    (case c14 => k_is)
    (case k14 => k_is)
    (case a15 => k_is)
    (case l15 => k_is)
    (case c15 => k_is)
    (case k15 => k_is)
    (case a16 => k_is)
    (case l16 => k_is)
    (case c16 => k_is)
    (case k16 => k_is)
    (case a17 => k_is)
    (case l17 => k_is)
    (case c17 => k_is)
    (case k17 => k_is)
    (case a18 => k_is)
    (case l18 => k_is)
    (case c18 => k_is)
    (case k18 => k_is)
    (case a19 => k_is)
    (case l19 => k_is)
    (case c19 => k_is)
    (case k19 => k_is)
    (case a20 => k_is)
    (case l20 => k_is)
    (case c20 => k_is)
    (case k20 => k_is)
    (case a21 => k_is)
    (case l21 => k_is)
    (case c21 => k_is)
    (case k21 => k_is)
    (case a22 => k_is)
    (case l22 => k_is)
    (case c22 => k_is)
    (case k22 => k_is)
    (case a23 => k_is)
    (case l23 => k_is)
    (case c23 => k_is)
    (case k23 => k_is)
    (case a24 => k_is)
    (case l24 => k_is)
    (case c24 => k_is)
    (case k24 => k_is)
    (case a25 => k_is)
    (case l25 => k_is)
    (case c25 => k_is)
    (case k25 => k_is)
    (case a26 => k_is)
    (case l26 => k_is)
    (case c26 => k_is)
    (case k26 => k_is)
    (case a27 => k_is)
    (case l27 => k_is)
    (case c27 => k_is)
    (case k27 => k_is)
    (case a28 => k_is)
    (case l28 => k_is)
    (case c28 => k_is)
    (case k28 => k_is)
    (case a29 => k_is)
    (case l29 => k_is)
    (case c29 => k_is)
    (case k29 => k_is)
    (case a30 => k_is)
    (case l30 => k_is)
    (case c30 => k_is)
    (case k30 => k_is)
    (case a31 => k_is)
    (case l31 => k_is)
    (case c31 => k_is)
    (case k31 => k_is)
    (case ac_PartError => k_is)
    (case ec_PartError => k_is)
    (case tc_PartError => k_is)
    (case ic_PartError => k_is)
    (case ac_BadText => k_is)
    (case ec_BadText => k_is)
    (case tc_BadText => k_is)
    (case ic_BadText => k_is)
    (case xL_BadText => k_is)
    (case sa_BadText => k_is)
    (case ga_BadText => k_is)
    (case gg_BadText => k_is)
    (case gk_BadText => k_is)
    (case gm_BadText => k_is)
    (case n_place_BadText => k_is)
    (case ai_BadText => k_is)
    (case ti_BadText => k_is)
    (case li_BadText => k_is)
    (case ci_BadText => k_is)
    (case ki_BadText => k_is)
    (case kc_BadText => k_is)
    (case hc_BadText => k_is)
    (case ac_BadTree => k_is)
    (case ec_BadTree => k_is)
    (case tc_BadTree => k_is)
    (case ic_BadTree => k_is)
    (case ac_BadPut => k_is)
    (case ec_BadPut => k_is)
    (case tc_BadPut => k_is)
    (case ic_BadPut => k_is)
    (case xL_BadPut => k_is)
    (case sa_BadPut => k_is)
    (case ga_BadPut => k_is)
    (case gg_BadPut => k_is)
    (case gk_BadPut => k_is)
    (case gm_BadPut => k_is)
    (case n_place_BadPut => k_is)
    (case ai_BadPut => k_is)
    (case ti_BadPut => k_is)
    (case li_BadPut => k_is)
    (case ci_BadPut => k_is)
    (case ki_BadPut => k_is)
    (case kc_BadPut => k_is)
    (case hc_BadPut => k_is)
    (case ss_BadText_BadPut => k_is)
    (case ss_BadText_BadText => k_is)
    (case ss_BadText_BadTree => k_is)
    (case ss_BadText_PartError => k_is)
    (case sv_BadText => k_is)
    (case ss_BadPut_BadPut => k_is)
    (case ss_BadPut_BadText => k_is)
    (case ss_BadPut_BadTree => k_is)
    (case ss_BadPut_PartError => k_is)
    (case sv_BadPut => k_is)
    (case xn => k_is)
    (case xt => k_is)
    (case z_ValueError => k_is)
    (case z_abs => k_is)
    (case z_bool => k_is)
    (case z_dict => k_is)
    (case z_enumerate => k_is)
    (case z_int => k_is)
    (case z_isinstance => k_is)
    (case z_len => k_is)
    (case z_list => k_is)
    (case z_max => k_is)
    (case z_range => k_is)
    (case z_set => k_is)
    (case z_sorted => k_is)
    (case z_str => k_is)
    (case z_tuple => k_is)
    (case y_SIGNS => k_is)
    (case y_LINE_LENGTH => k_is)
    (case y_TEXT_LENGTH => k_is)
    (case y_WORD_SIGNS => k_is)
    (case y_WORD_LENGTH => k_is)
    (case y_PATH_WORDS => k_is)

