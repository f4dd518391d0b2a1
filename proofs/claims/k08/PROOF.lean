import PyProof.Rows.All
import Wide.All
import OpenK.AllK
import Wide.FinOn
import HandS.ForMost
import HandS.Small
import HandS.Style
import HandS.Flow
import HandS.Deep
import HandS.IsInst
import HandS.More
import HandS.Star
import HandS.TupAny
import KE.KExcIs
import HandS.ExcCtx
import HandS.ExcInit
import HandS.ExcField
import HandS.HotCalls
import HandS.Wide
import HandS.Strs
import HandS.SetKeys
import HandS.Text
import HandS.Iter
import HandS.WideBits
import HandS.Dict
import HandS.WordsDict
import HandS.Conv
import HandS.List
import HandS.SetBool
import HandS.DictComp
import HandS.ListItems
import HandS.Ends
import PySem.Challenge.RW_partclones_k08_chosen
set_option Elab.async false
set_option linter.all false
set_option maxRecDepth 100000
namespace Qk
open PySem PySem.Spec PyProof.Rows L2

/-! ### heaps -/
abbrev Own := List (Addr × HO)
structure Has (F : Hp) (O : Own) (H : Hp) : Prop where
  same : Same F H
  own : ∀ p ∈ O, F p.1 = none ∧ H p.1 = some p.2
  nd : (O.map (·.1)).Nodup

/-- O with the object at a changed from o to o' -/
inductive Chg : Own → Addr → HO → HO → Own → Prop
  | hd {a : Addr} {o o' : HO} {O : Own} : Chg ((a, o) :: O) a o o' ((a, o') :: O)
  | tl {a : Addr} {o o' : HO} {O O' : Own} {x : Addr × HO} : Chg O a o o' O' → Chg (x :: O) a o o' (x :: O')
theorem Chg.mem {O O' : Own} {a : Addr} {o o' : HO} (c : Chg O a o o' O') : (a, o) ∈ O := by
  induction c with
  | hd => exact List.Mem.head _
  | tl _ ih => exact List.Mem.tail _ ih
theorem Chg.fst {O O' : Own} {a : Addr} {o o' : HO} (c : Chg O a o o' O') : O'.map (·.1) = O.map (·.1) := by
  induction c with
  | hd => rfl
  | tl _ ih => rw [List.map_cons, List.map_cons, ih]
theorem Chg.own {O O' : Own} {a : Addr} {o o' : HO} (c : Chg O a o o' O') (nd : (O.map (·.1)).Nodup) : ∀ p ∈ O', p = (a, o') ∨ (p ∈ O ∧ p.1 ≠ a) := by
  induction c with
  | @hd a o o' O =>
    intro p hp
    rw [List.map_cons] at nd
    have nm := (List.nodup_cons.mp nd).1
    rcases List.mem_cons.mp hp with e | hp
    · exact .inl e
    · refine .inr ⟨List.mem_cons_of_mem _ hp, fun e => nm ?_⟩
      exact List.mem_map.mpr ⟨p, hp, e⟩
  | @tl a o o' O O' x c ih =>
    intro p hp
    rw [List.map_cons] at nd
    have nm := List.nodup_cons.mp nd
    rcases List.mem_cons.mp hp with e | hp
    · subst e
      refine .inr ⟨List.mem_cons_self, fun e => nm.1 ?_⟩
      rw [e]
      exact List.mem_map.mpr ⟨_, c.mem, rfl⟩
    · rcases ih nm.2 p hp with e | ⟨e, ne⟩
      · exact .inl e
      · exact .inr ⟨List.mem_cons_of_mem _ e, ne⟩

section
variable {F F' : Hp} {O O' : Own} {H H' : Hp} {a p : Addr} {o o' : HO} {K : PySem.W.Frag} {xs : List V}
theorem Has.start (H : Hp) : Has H [] H := ⟨Same.refl H, fun _ h => (List.not_mem_nil h).elim, List.nodup_nil⟩
theorem Has.get (h : Has F O H) (m : (a, o) ∈ O) : H a = some o := (h.own _ m).2
theorem Has.but (h : Has F O H) (c : Chg O a o o' O') (s : ∀ b u, b ≠ a → H b = some u → H' b = some u) (e : H' a = some o') : Has F O' H' := by
  have fa : F a = none := (h.own _ c.mem).1
  refine ⟨fun b u q => s b u (fun z => by rw [z, fa] at q; cases q) (h.same b u q), fun q hq => ?_, by rw [c.fst]; exact h.nd⟩
  rcases c.own h.nd q hq with rfl | ⟨m, ne⟩
  · exact ⟨fa, e⟩
  · exact ⟨(h.own _ m).1, s _ _ ne (h.own _ m).2⟩
theorem Has.put (h : Has F O H) (c : Chg O a o o' O') : Has F O' (upd H a o') := h.but c (fun b u ne q => by rw [upd_ne ne]; exact q) upd_same
theorem Has.on (h : Has F O H) (s : Same H H') : Has F O H' := ⟨h.same.trans s, fun q hq => ⟨(h.own q hq).1, s _ _ (h.own q hq).2⟩, h.nd⟩
theorem Has.made (h : Has F O H) (n : H p = none) (s : Same H H') (e : H' p = some o) : Has F ((p, o) :: O) H' := by
  refine ⟨h.same.trans s, fun q hq => ?_, ?_⟩
  · rcases List.mem_cons.mp hq with rfl | hq
    · exact ⟨h.same.free n, e⟩
    · exact ⟨(h.own q hq).1, s _ _ (h.own q hq).2⟩
  · rw [List.map_cons]
    refine List.nodup_cons.mpr ⟨fun m => ?_, h.nd⟩
    obtain ⟨q, hq, e'⟩ := List.mem_map.mp m
    have z := (h.own q hq).2
    rw [e', n] at z
    cases z
theorem same_upd (n : H p = none) : Same H (upd H p o) := fun b u q => by
  rw [upd_ne (ne_of_none q n)]
  exact q
theorem Has.new (h : Has F O H) (n : H p = none) : Has F ((p, o) :: O) (upd H p o) := h.made n (same_upd n) upd_same
theorem Has.drop {x : Addr × HO} (h : Has F (x :: O) H) : Has F O H := ⟨h.same, fun q hq => h.own q (List.mem_cons_of_mem _ hq), (List.nodup_cons.mp (by have := h.nd; rw [List.map_cons] at this; exact this)).2⟩
theorem Has.sub (h : Has F O H) (s : O'.Sublist O) : Has F O' H := ⟨h.same, fun q hq => h.own q (s.subset hq), (s.map _).nodup h.nd⟩
theorem Has.perm (h : Has F O H) (s : O'.Perm O) : Has F O' H := ⟨h.same, fun q hq => h.own q (s.subset hq), (s.map _).nodup_iff.mpr h.nd⟩
/-- the first owned object stands still from now on -/
theorem Has.frz (h : Has F ((p, o) :: O) H) : Has (upd F p o) O H := by
  have hp := h.own (p, o) List.mem_cons_self
  have nd : p ∉ O.map (·.1) ∧ (O.map (·.1)).Nodup := List.nodup_cons.mp (by have := h.nd; rw [List.map_cons] at this; exact this)
  refine ⟨fun b u q => ?_, fun q hq => ⟨?_, (h.own q (List.mem_cons_of_mem _ hq)).2⟩, nd.2⟩
  · by_cases e : b = p
    · subst e
      rw [upd_same] at q
      cases q
      exact hp.2
    · rw [upd_ne e] at q
      exact h.same b u q
  · rw [upd_ne (fun z => nd.1 (List.mem_map.mpr ⟨q, hq, z⟩))]
    exact (h.own q (List.mem_cons_of_mem _ hq)).1
theorem Has.free (h : Has F ((p, o) :: O) H) : F p = none := (h.own _ List.mem_cons_self).1
theorem Has.grow (h : Has F ((p, o) :: O) H) : Same F (upd F p o) := same_upd h.free
/-- all stands still from now on -/
theorem Has.all (h : Has F O H) : Has H [] H := Has.start H
/-- F grown by what O knows nothing of -/
theorem Has.up (h : Has F O H) (s2 : Same F' H') (s : Same H H') (d : ∀ p ∈ O, F' p.1 = none) : Has F' O H' :=
  ⟨s2, fun q hq => ⟨d q hq, s _ _ (h.own q hq).2⟩, h.nd⟩
theorem Has.sqO (h : Has F O H) (m : (a, .lst xs) ∈ O) : SqL K H a xs := SqL.of (h.get m)
theorem Has.sqF (h : Has F O H) (m : SqL K F a xs) : SqL K H a xs := h.same.seq m
theorem Same.tup {K : PySem.W.Frag} (e : Same H H') (h : SqT K H a xs) : SqT K H' a xs := by
  rcases h with (h | ⟨o, h⟩) | h
  · exact .inl (.inl (e _ _ h))
  · exact .inl (.inr ⟨o, e _ _ h⟩)
  · exact .inr h
theorem Has.stF (h : Has F O H) (m : SqT K F a xs) : SqT K H a xs := Same.tup h.same m
theorem Has.stO (h : Has F O H) (m : (a, .tup xs) ∈ O) : SqT K H a xs := SqT.of (h.get m)
end

/-! ### data -/
mutual
inductive Dq (H : Hp) : V → PyData → Prop
  | non : Dq H .non .none
  | bl (b : Bool) : Dq H (.bl b) (.bool b)
  | int (i : Int) : Dq H (.int i) (.int i)
  | str (x : Str) : Dq H (.str x) (.str x)
  | lst {a : Addr} {xs : List V} {ds : List PyData} : H a = some (.lst xs) → DqAll H xs ds → Dq H (.ref a) (.list ds)
  | tup {a : Addr} {xs : List V} {ds : List PyData} : H a = some (.tup xs) → DqAll H xs ds → Dq H (.ref a) (.tuple ds)
inductive DqAll (H : Hp) : List V → List PyData → Prop
  | nil : DqAll H [] []
  | cons {v : V} {vs : List V} {d : PyData} {ds : List PyData} : Dq H v d → DqAll H vs ds → DqAll H (v :: vs) (d :: ds)
end
mutual
theorem Dq.up {H H' : Hp} (e : Same H H') : ∀ (d : PyData) (v : V), Dq H v d → Dq H' v d
  | _, _, .non => .non
  | _, _, .bl b => .bl b
  | _, _, .int i => .int i
  | _, _, .str x => .str x
  | .list ds, _, .lst s a => .lst (e _ _ s) (DqAll.up e ds _ a)
  | .tuple ds, _, .tup s a => .tup (e _ _ s) (DqAll.up e ds _ a)
theorem DqAll.up {H H' : Hp} (e : Same H H') : ∀ (ds : List PyData) (vs : List V), DqAll H vs ds → DqAll H' vs ds
  | _, _, .nil => .nil
  | d :: ds, _, .cons h t => .cons (Dq.up e d _ h) (DqAll.up e ds _ t)
end
mutual
theorem Dq.dp (K : PySem.W.Frag) {H : Hp} : ∀ (d : PyData) (v : V), Dq H v d → Dp K H v d
  | _, _, .non => .non
  | _, _, .bl b => .bl b
  | _, _, .int i => .int i
  | _, _, .str x => .str x
  | .list ds, _, .lst s a => .lst (SqL.of s) (DqAll.dp K ds _ a)
  | .tuple ds, _, .tup s a => .tup (SqT.of s) (DqAll.dp K ds _ a)
theorem DqAll.dp (K : PySem.W.Frag) {H : Hp} : ∀ (ds : List PyData) (vs : List V), DqAll H vs ds → DpAll K H vs ds
  | _, _, .nil => .nil
  | d :: ds, _, .cons h t => .cons (Dq.dp K d _ h) (DqAll.dp K ds _ t)
end
theorem DqAll.len {H : Hp} : ∀ {vs : List V} {ds : List PyData}, DqAll H vs ds → vs.length = ds.length
  | _, _, .nil => rfl
  | _, _, .cons _ t => by rw [List.length_cons, List.length_cons, t.len]
theorem DqAll.get {H : Hp} : ∀ {vs : List V} {ds : List PyData} {i : Nat} {v : V}, DqAll H vs ds → vs[i]? = some v → ∃ d, ds[i]? = some d ∧ Dq H v d
  | _, _, _, _, .nil, e => by simp at e
  | _, _, 0, _, .cons h _, e => ⟨_, rfl, by have e' := Option.some.inj e; rw [← e']; exact h⟩
  | _, _, i + 1, _, .cons _ t, e => t.get (i := i) e
theorem DqAll.snoc {H : Hp} : ∀ {vs : List V} {ds : List PyData} {v : V} {d : PyData}, DqAll H vs ds → Dq H v d → DqAll H (vs ++ [v]) (ds ++ [d])
  | _, _, _, _, .nil, h => .cons h .nil
  | _, _, _, _, .cons h t, h' => .cons h (t.snoc h')
theorem DqAll.app {H : Hp} : ∀ {vs ws : List V} {ds es : List PyData}, DqAll H vs ds → DqAll H ws es → DqAll H (vs ++ ws) (ds ++ es)
  | _, _, _, _, .nil, h => h
  | _, _, _, _, .cons h t, h' => .cons h (t.app h')
theorem DqAll.rev {H : Hp} : ∀ {vs : List V} {ds : List PyData}, DqAll H vs ds → DqAll H vs.reverse ds.reverse
  | _, _, .nil => .nil
  | _, _, .cons h t => by
    rw [List.reverse_cons, List.reverse_cons]
    exact t.rev.snoc h
theorem DqAll.strs {H : Hp} : ∀ (xs : List Str), DqAll H (xs.map V.str) (xs.map PyData.str)
  | [] => .nil
  | x :: xs => .cons (.str x) (DqAll.strs xs)
theorem DqAll.ints {H : Hp} : ∀ (xs : List Int), DqAll H (xs.map V.int) (xs.map PyData.int)
  | [] => .nil
  | x :: xs => .cons (.int x) (DqAll.ints xs)
theorem DqAll.of_strs {H : Hp} : ∀ {vs : List V} {xs : List Str}, DqAll H vs (xs.map PyData.str) → vs = xs.map V.str
  | _, [], .nil => rfl
  | _, x :: xs, .cons h t => by
    cases h
    rw [List.map_cons, t.of_strs]
theorem Dq.of_strs {H : Hp} {v : V} {xs : List Str} (h : Dq H v (.list (xs.map PyData.str))) : ∃ a, v = .ref a ∧ H a = some (.lst (xs.map V.str)) := by
  cases h with
  | lst s a =>
    rw [a.of_strs] at s
    exact ⟨_, rfl, s⟩
theorem Dq.strs {H : Hp} {a : Addr} {xs : List Str} (h : H a = some (.lst (xs.map V.str))) : Dq H (.ref a) (.list (xs.map PyData.str)) := .lst h (DqAll.strs xs)
theorem Dq.ints {H : Hp} {a : Addr} {xs : List Int} (h : H a = some (.lst (xs.map V.int))) : Dq H (.ref a) (.list (xs.map PyData.int)) := .lst h (DqAll.ints xs)
theorem Has.gF {F : Hp} {O : Own} {H : Hp} {a : Addr} {o : HO} (h : Has F O H) (e : F a = some o) : H a = some o := h.same _ _ e
theorem Has.dq {F : Hp} {O : Own} {H : Hp} (h : Has F O H) {v : V} {d : PyData} (p : Dq F v d) : Dq H v d := p.up h.same d v

/-! ### == of data -/
theorem eqvAll_strs : ∀ xs ys : List Str, PyData.eqvAll (xs.map PyData.str) (ys.map PyData.str) = decide (xs = ys)
  | [], [] => by simp [PyData.eqvAll]
  | [], y :: ys => by simp [PyData.eqvAll]
  | x :: xs, [] => by simp [PyData.eqvAll]
  | x :: xs, y :: ys => by
    rw [List.map_cons, List.map_cons, PyData.eqvAll, eqvAll_strs xs ys, PyData.eqv]
    by_cases h : x = y
    · subst h; simp
    · simp [h]
theorem eqv_strs (xs ys : List Str) : PyData.eqv (.list (xs.map PyData.str)) (.list (ys.map PyData.str)) = decide (xs = ys) := by
  rw [PyData.eqv, eqvAll_strs]
theorem eqvAll_ints : ∀ xs ys : List Int, PyData.eqvAll (xs.map PyData.int) (ys.map PyData.int) = decide (xs = ys)
  | [], [] => by simp [PyData.eqvAll]
  | [], y :: ys => by simp [PyData.eqvAll]
  | x :: xs, [] => by simp [PyData.eqvAll]
  | x :: xs, y :: ys => by
    rw [List.map_cons, List.map_cons, PyData.eqvAll, eqvAll_ints xs ys, PyData.eqv]
    by_cases h : x = y
    · subst h; simp
    · simp [h]
theorem eqv_ints (xs ys : List Int) : PyData.eqv (.list (xs.map PyData.int)) (.list (ys.map PyData.int)) = decide (xs = ys) := by
  rw [PyData.eqv, eqvAll_ints]
theorem canLayAll_mem : ∀ {ds : List PyData}, (∀ d ∈ ds, d.canLay0 = true) → PyData.canLayAll0 ds = true
  | [], _ => rfl
  | d :: ds, h => by
    rw [PyData.canLayAll0, h d List.mem_cons_self, canLayAll_mem fun x hx => h x (List.mem_cons_of_mem _ hx)]
    rfl
theorem depthAll_le {n : Nat} : ∀ {ds : List PyData}, (∀ d ∈ ds, d.depth ≤ n) → PyData.depthAll ds ≤ n
  | [], _ => Nat.zero_le _
  | d :: ds, h => by
    rw [PyData.depthAll]
    exact Nat.max_le.mpr ⟨h d List.mem_cons_self, depthAll_le fun x hx => h x (List.mem_cons_of_mem _ hx)⟩
/-- data of depth n that can be compared -/
def Sh (n : Nat) (d : PyData) : Prop := d.canLay0 = true ∧ d.depth ≤ n
theorem Sh.list {n : Nat} {ds : List PyData} (h : ∀ d ∈ ds, Sh n d) : Sh (n + 1) (.list ds) := by
  refine ⟨?_, ?_⟩
  · rw [PyData.canLay0]
    exact canLayAll_mem fun d hd => (h d hd).1
  · rw [PyData.depth]
    have := depthAll_le (n := n) fun d hd => (h d hd).2
    omega
theorem Sh.tuple {n : Nat} {ds : List PyData} (h : ∀ d ∈ ds, Sh n d) : Sh (n + 1) (.tuple ds) := by
  refine ⟨?_, ?_⟩
  · rw [PyData.canLay0]
    exact canLayAll_mem fun d hd => (h d hd).1
  · rw [PyData.depth]
    have := depthAll_le (n := n) fun d hd => (h d hd).2
    omega
theorem Sh.ok {n : Nat} {d : PyData} (h : Sh n d) (hn : n ≤ 64) : SeqAt.shaped d = true := by
  unfold SeqAt.shaped
  rw [h.1, Bool.true_and]
  exact decide_eq_true (Nat.le_trans h.2 hn)
theorem Sh.int {n : Nat} (i : Int) : Sh n (.int i) := ⟨rfl, Nat.zero_le _⟩
theorem Sh.non {n : Nat} : Sh n .none := ⟨rfl, Nat.zero_le _⟩
theorem Sh.bl {n : Nat} (b : Bool) : Sh n (.bool b) := ⟨rfl, Nat.zero_le _⟩
theorem Sh.str {n : Nat} {x : Str} (h : PyData.strOk x = true) : Sh n (.str x) := ⟨h, Nat.zero_le _⟩
theorem Sh.strs {n : Nat} {xs : List Str} (h : ∀ x ∈ xs, PyData.strOk x = true) : Sh (n + 1) (.list (xs.map PyData.str)) := Sh.list fun d hd => by
  obtain ⟨x, hx, rfl⟩ := List.mem_map.mp hd
  exact Sh.str (h x hx)
theorem Sh.ints {n : Nat} {xs : List Int} : Sh (n + 1) (.list (xs.map PyData.int)) := Sh.list fun d hd => by
  obtain ⟨x, hx, rfl⟩ := List.mem_map.mp hd
  exact Sh.int x

/-! ### readings, in order -/
def kB (x : V) (H : Hp) (R : Bool → Hp → Prop) : Prop := ∃ k, x = .bl k ∧ R k H
def kTup (xs : List V) (H : Hp) (Q : VK) : Prop := xs.length ≤ sizeLine ∧ ∀ p, H p = none → Q (.ref p) (upd H p (.tup xs))
def kLst (xs : List V) (H : Hp) (Q : VK) : Prop := xs.length ≤ sizeLine ∧ ∀ p, H p = none → Q (.ref p) (upd H p (.lst xs))
def kBM (K : PySem.W.Frag) (T : String) (r : V → List V → Hp → VK → Prop) (t : TA) (σ : L2.St) (x : V) (H : Hp) (Q : VK) : Prop := tyV K T x H ∧ t σ H fun xs H2 => r x xs H2 Q
section
variable {K : PySem.W.Frag} {σ : L2.St} {F : Hp} {O O' : Own} {H : Hp} {Q : VK} {ta tb tc te : TE} {x y v : V} {D : Ends} {t1 t2 : TS}
theorem g_var {i : Nat} (h : σ[i]? = some (some v)) (q : Q v H) : tVar i σ H Q := ⟨v, h, q⟩
theorem g_c (q : Q v H) : tC v σ H Q := q
theorem g_op {r : R2} (q : ta σ H fun x H1 => tb σ H1 fun y H2 => r x y H2 Q) : tOp r ta tb σ H Q := q
theorem g_un {r : V → Hp → VK → Prop} (q : ta σ H fun x H1 => r x H1 Q) : tUn r ta σ H Q := q
theorem g_cons {tr : TA} {QA : List V → Hp → Prop} (q : ta σ H fun x H1 => tr σ H1 fun xs H2 => QA (x :: xs) H2) : tCons ta tr σ H QA := q
theorem g_nil {QA : List V → Hp → Prop} (q : QA [] H) : tNil σ H QA := q
theorem g_cb {r : List V → Hp → VK → Prop} {t : TA} (q : t σ H fun vs H1 => r vs H1 Q) : tCB r t σ H Q := q
theorem g_call {sp : Sp} {E : XK} {t : TA} (q : t σ H fun vs H1 => sp vs H1 Q E) : tCall sp [] E t σ H Q := by
  unfold tCall
  simp only [List.append_nil]
  exact q
theorem g_tup {t : TA} (q : t σ H fun xs H1 => kTup xs H1 Q) : tTup t σ H Q := q
theorem g_lst {t : TA} (q : t σ H fun xs H1 => kLst xs H1 Q) : tLst t σ H Q := q
theorem g_bm {T : String} {r : V → List V → Hp → VK → Prop} {t : TA} (q : ta σ H fun x H1 => kBM K T r t σ x H1 Q) : tBM K T r ta t σ H Q := q
theorem g_bm0 {T : String} {r : V → List V → Hp → VK → Prop} (q : ta σ H fun x H1 => kBM K T r tNil σ x H1 Q) : tBM0 K T r ta σ H Q := q
theorem g_kbm {r : V → List V → Hp → VK → Prop} {t : TA} {a : Addr} {xs : List V} (h : H a = some (.lst xs)) (q : t σ H fun vs H2 => r (.ref a) vs H2 Q) : kBM K "list" r t σ (.ref a) H Q := ⟨.inl ⟨rfl, _, SqL.of h⟩, q⟩
theorem g_ktup {xs : List V} (hl : xs.length ≤ sizeLine) (hH : Has F O H) (q : ∀ p H', H p = none → Has F ((p, .tup xs) :: O) H' → Q (.ref p) H') : kTup xs H Q := ⟨hl, fun p n => q p _ n (hH.new n)⟩
theorem g_klst {xs : List V} (hl : xs.length ≤ sizeLine) (hH : Has F O H) (q : ∀ p H', H p = none → Has F ((p, .lst xs) :: O) H' → Q (.ref p) H') : kLst xs H Q := ⟨hl, fun p n => q p _ n (hH.new n)⟩
/-- a tuple that stands still at once -/
theorem g_ktupF {xs : List V} (hl : xs.length ≤ sizeLine) (hH : Has F O H) (q : ∀ p H' F', H p = none → Same F F' → F' p = some (.tup xs) → Has F' O H' → Q (.ref p) H') : kTup xs H Q :=
  ⟨hl, fun p n => q p _ (upd F p (.tup xs)) n (same_upd (hH.same.free n)) upd_same (hH.new n).frz⟩
theorem g_klstF {xs : List V} (hl : xs.length ≤ sizeLine) (hH : Has F O H) (q : ∀ p H' F', H p = none → Same F F' → F' p = some (.lst xs) → Has F' O H' → Q (.ref p) H') : kLst xs H Q :=
  ⟨hl, fun p n => q p _ (upd F p (.lst xs)) n (same_upd (hH.same.free n)) upd_same (hH.new n).frz⟩
theorem g_seq (h : t1 { D with nx := t2 D } σ H) : tSeq t1 t2 D σ H := h
theorem g_asg {g : TG} (q : te σ H fun x H1 => g x σ H1 D.nx) : tAsg te g D σ H := q
theorem g_name {i : Nat} {R : L2.St → Hp → Prop} (q : R (σ.set i (some v)) H) : gName i v σ H R := q
theorem g_drop (q : te σ H fun _ H1 => D.nx σ H1) : tDrop te D σ H := q
theorem g_ret (q : te σ H fun x H1 => D.rt x H1) : tRet te D σ H := q
theorem g_retN (q : D.rt .non H) : tRetN D σ H := q
theorem g_next (q : D.nx σ H) : tNext D σ H := q
theorem g_brk (q : D.bk σ H) : tBreak D σ H := q
theorem g_cont (q : D.ct σ H) : tCont D σ H := q
theorem g_if {c : TT} (q : c σ H fun b H1 => if b = true then t1 D σ H1 else t2 D σ H1) : tIfS c t1 t2 D σ H := q
theorem g_aug {i : Nat} {ti : TIp} (h : σ[i]? = some (some x)) (q : te σ H fun y H1 => ti x y H1 fun z H2 => D.nx (σ.set i (some z)) H2) : tAug i te ti D σ H := ⟨x, h, q⟩
theorem g_ipI {f : Int → Int → Int} {i j : Int} (q : Q (.int (f i j)) H) : ipI f (.int i) (.int j) H Q := ⟨i, j, rfl, rfl, q⟩
theorem g_test {R : Bool → Hp → Prop} (q : te σ H fun x H1 => kB x H1 R) : tTest te σ H R := q
theorem g_tB {R : Bool → Hp → Prop} (q : te σ H fun x H1 => kB x H1 R) : tB te σ H R := q
theorem g_kB {b : Bool} {R : Bool → Hp → Prop} (q : R b H) : kB (.bl b) H R := ⟨b, rfl, q⟩
theorem g_not {t : TT} {R : Bool → Hp → Prop} (q : t σ H fun c H1 => R (!c) H1) : tNot t σ H R := q
theorem g_and {t u : TT} {R : Bool → Hp → Prop} (q : t σ H fun c H1 => if c = true then u σ H1 R else R false H1) : tAnd t u σ H R := q
theorem g_or {t u : TT} {R : Bool → Hp → Prop} (q : t σ H fun c H1 => if c = true then R true H1 else u σ H1 R) : tOr t u σ H R := q
theorem g_andV (q : ta σ H fun x H1 => kB x H1 fun c H2 => if c = true then tb σ H2 Q else Q (.bl false) H2) : tAndV ta tb σ H Q := q
theorem g_orV (q : ta σ H fun x H1 => kB x H1 fun c H2 => if c = true then Q (.bl true) H2 else tb σ H2 Q) : tOrV ta tb σ H Q := q
theorem g_notV (q : ta σ H fun x H1 => kB x H1 fun c H2 => Q (.bl (!c)) H2) : tNotV ta σ H Q := q
theorem g_ifE {t : TT} (q : t σ H fun c H1 => if c = true then ta σ H1 Q else tb σ H1 Q) : tIf t ta tb σ H Q := q
theorem i_d {c A B : Prop} [Decidable c] (h1 : c → A) (h2 : ¬ c → B) : if decide c = true then A else B := by
  by_cases h : c
  · rw [if_pos (decide_eq_true h)]
    exact h1 h
  · rw [if_neg (by rw [decide_eq_false h]; exact Bool.false_ne_true)]
    exact h2 h
theorem i_n {c A B : Prop} [Decidable c] (h1 : ¬ c → A) (h2 : c → B) : if (!decide c) = true then A else B := by
  by_cases h : c
  · rw [decide_eq_true h, if_neg (by decide)]
    exact h2 h
  · rw [decide_eq_false h, if_pos (by decide)]
    exact h1 h
theorem i_b {b : Bool} {A B : Prop} (h1 : b = true → A) (h2 : b = false → B) : if b = true then A else B := by
  cases b with
  | true => rw [if_pos rfl]; exact h1 rfl
  | false => rw [if_neg Bool.false_ne_true]; exact h2 rfl
theorem i_nb {b : Bool} {A B : Prop} (h1 : b = false → A) (h2 : b = true → B) : if (!b) = true then A else B := by
  cases b with
  | false =>
    show (if true = true then A else B)
    rw [if_pos rfl]
    exact h1 rfl
  | true =>
    show (if false = true then A else B)
    rw [if_neg Bool.false_ne_true]
    exact h2 rfl
/-- a test by its answer -/
theorem g_bool {t : TT} {R : Bool → Hp → Prop} (b : Bool) (h : ∀ R : Bool → Hp → Prop, R b H → t σ H R) (q : R b H) : t σ H R := h R q

/-! ### operators -/
def rAdd (K : PySem.W.Frag) : R2 := fun x y H Q => (rI0 (fun i j => .int (i + j)) x y H Q ∨ ∃ i j, x = .str i ∧ y = .str j ∧ i.length + j.length ≤ sizeLine ∧ Q (.str (i ++ j)) H) ∨ rCat x y H Q ∨ rCatA K x y H Q
theorem g_addI {i j : Int} (q : Q (.int (i + j)) H) : rAdd K (.int i) (.int j) H Q := .inl (.inl ⟨i, j, rfl, rfl, q⟩)
theorem g_addS {i j : Str} (hl : i.length + j.length ≤ sizeLine) (q : Q (.str (i ++ j)) H) : rAdd K (.str i) (.str j) H Q := .inl (.inr ⟨i, j, rfl, rfl, hl, q⟩)
theorem g_addL {a b : Addr} {xs ys : List V} (h1 : H a = some (.lst xs)) (h2 : H b = some (.lst ys)) (hl : xs.length + ys.length ≤ sizeLine) (hH : Has F O H) (q : ∀ p H', H p = none → Has F ((p, .lst (xs ++ ys)) :: O) H' → Q (.ref p) H') : rAdd K (.ref a) (.ref b) H Q :=
  .inr (.inl ⟨a, b, xs, ys, rfl, rfl, h1, h2, hl, fun p n => q p _ n (hH.new n)⟩)
theorem g_rI0 {g : Int → Int → V} {i j : Int} (q : Q (g i j) H) : rI0 g (.int i) (.int j) H Q := ⟨i, j, rfl, rfl, q⟩
theorem g_rI {C : Int → Int → Prop} {g : Int → Int → V} {i j : Int} (hc : C i j) (q : Q (g i j) H) : rI C g (.int i) (.int j) H Q := ⟨i, j, rfl, rfl, hc, q⟩
theorem g_rU {g : Int → V} {i : Int} (q : Q (g i) H) : rU g (.int i) H Q := ⟨i, rfl, q⟩
def rMul : R2 := fun x y H Q => rI CMul (fun i j => .int (i * j)) x y H Q ∨ rRep x y H Q
theorem g_mulI {i j : Int} (hc : CMul i j) (q : Q (.int (i * j)) H) : rMul (.int i) (.int j) H Q := .inl ⟨i, j, rfl, rfl, hc, q⟩
theorem g_mulL {a : Addr} {k : Int} {xs : List V} (h : H a = some (.lst xs)) (h1 : -(2 ^ 63) ≤ k) (h2 : k < 2 ^ 63) (hl : xs.length * k.toNat ≤ sizeLine) (hH : Has F O H)
    (q : ∀ p H', H p = none → Has F ((p, .lst (List.replicate k.toNat xs).flatten) :: O) H' → Q (.ref p) H') : rMul (.ref a) (.int k) H Q := .inr ⟨a, k, xs, rfl, rfl, h, h1, h2, hl, fun p n => q p _ n (hH.new n)⟩
def rEqA (K : PySem.W.Frag) : R2 := fun x y H Q => rEq x y H Q ∨ rEqD K x y H Q
def rNeA (K : PySem.W.Frag) : R2 := fun x y H Q => rNe x y H Q ∨ rNeD K x y H Q
theorem g_eqI {i j : Int} (q : Q (.bl (decide (i = j))) H) : rEqA K (.int i) (.int j) H Q := .inl ⟨rfl, by rw [dec_int, Bool.beq_eq_decide_eq]; exact q⟩
theorem g_eqS {i j : Str} (q : Q (.bl (decide (i = j))) H) : rEqA K (.str i) (.str j) H Q := .inl ⟨rfl, by rw [dec_str, Bool.beq_eq_decide_eq]; exact q⟩
theorem g_neI {i j : Int} (q : Q (.bl (!decide (i = j))) H) : rNeA K (.int i) (.int j) H Q := .inl ⟨rfl, by rw [dec_int, Bool.beq_eq_decide_eq]; exact q⟩
theorem g_neS {i j : Str} (q : Q (.bl (!decide (i = j))) H) : rNeA K (.str i) (.str j) H Q := .inl ⟨rfl, by rw [dec_str, Bool.beq_eq_decide_eq]; exact q⟩
theorem g_eqD {d e : PyData} (hx : Dq H x d) (hy : Dq H y e) (sd : SeqAt.shaped d = true) (se : SeqAt.shaped e = true) (q : Q (.bl (PyData.eqv d e)) H) : rEqA K x y H Q := .inr ⟨d, e, hx.dp K d x, hy.dp K e y, sd, se, q⟩
theorem g_neD {d e : PyData} (hx : Dq H x d) (hy : Dq H y e) (sd : SeqAt.shaped d = true) (se : SeqAt.shaped e = true) (q : Q (.bl (!PyData.eqv d e)) H) : rNeA K x y H Q := .inr ⟨d, e, hx.dp K d x, hy.dp K e y, sd, se, q⟩
def rIsN : R2 := fun x y H Q => y = .non ∧ Q (.bl (decide (x = .non))) H
def rNotN : R2 := fun x y H Q => y = .non ∧ Q (.bl (!decide (x = .non))) H
theorem g_isN (q : Q (.bl (decide (x = .non))) H) : rIsN x .non H Q := ⟨rfl, q⟩
theorem g_notN (q : Q (.bl (!decide (x = .non))) H) : rNotN x .non H Q := ⟨rfl, q⟩
def rIxD : R2 := fun x y H Q => ∃ a v, x = .ref a ∧ DGet H a y (some v) ∧ Q v H
def rIxA (K : PySem.W.Frag) : R2 := fun x y H Q => rIx K x y H Q ∨ rIxD x y H Q
theorem g_ixL {a : Addr} {xs : List V} {i : Int} (h : H a = some (.lst xs)) (ha : atI xs i = some v) (q : Q v H) : rIxA K (.ref a) (.int i) H Q := .inl <| .inl ⟨a, xs, i, v, rfl, rfl, SqL.of h, ha, q⟩
theorem g_ixT {a : Addr} {xs : List V} {i : Int} (h : H a = some (.tup xs)) (ha : atI xs i = some v) (q : Q v H) : rIxA K (.ref a) (.int i) H Q := .inl (.inr (.inl ⟨a, xs, i, v, rfl, rfl, SqT.of h, ha, q⟩))
theorem g_ixS {z : Str} {i : Int} {c : Nat} (hl : z.length ≤ sizeLine) (ha : atI z.cps.toList i = some c) (q : Q (.str ⟨#[c]⟩) H) : rIxA K (.str z) (.int i) H Q := .inl (.inr (.inr ⟨z, i, c, rfl, rfl, hl, ha, q⟩))
theorem at_n {xs : List V} {i : Int} (h0 : 0 ≤ i) (h : xs[i.toNat]? = some v) : atI xs i = some v := by
  have e : i = (i.toNat : Int) := by omega
  rw [e]
  exact atI_nat h

/-! ### calls of what is built in -/
def rLen (K : PySem.W.Frag) : List V → Hp → VK → Prop := fun xs H Q => (∃ p ys, xs = [.ref p] ∧ (SqL K H p ys ∨ SqT K H p ys) ∧ Q (.int ys.length) H) ∨ ∃ z, xs = [.str z] ∧ z.length ≤ sizeLine ∧ Q (.int z.length) H
theorem g_lenL {a : Addr} {xs : List V} (h : H a = some (.lst xs)) (q : Q (.int (xs.length : Int)) H) : rLen K [.ref a] H Q := .inl ⟨a, xs, rfl, .inl (SqL.of h), q⟩
theorem g_lenT {a : Addr} {xs : List V} (h : H a = some (.tup xs)) (q : Q (.int (xs.length : Int)) H) : rLen K [.ref a] H Q := .inl ⟨a, xs, rfl, .inr (SqT.of h), q⟩
theorem g_lenS {z : Str} (h : z.length ≤ sizeLine) (q : Q (.int (z.length : Int)) H) : rLen K [.str z] H Q := .inr ⟨z, rfl, h, q⟩
def rInt1 : List V → Hp → VK → Prop := fun xs H Q => (∃ i, xs = [.int i] ∧ Q (.int i) H) ∨ ∃ k, xs = [.bl k] ∧ Q (.int (if k then 1 else 0)) H
theorem g_int {i : Int} (q : Q (.int i) H) : rInt1 [.int i] H Q := .inl ⟨i, rfl, q⟩
theorem g_intB {k : Bool} (q : Q (.int (if k then 1 else 0)) H) : rInt1 [.bl k] H Q := .inr ⟨k, rfl, q⟩
def rAbs1 : List V → Hp → VK → Prop := fun xs H Q => ∃ i, xs = [.int i] ∧ Q (.int (if i < 0 then -i else i)) H
theorem g_abs {i : Int} (q : ∀ j : Int, 0 ≤ j → Q (.int j) H) : rAbs1 [.int i] H Q := ⟨i, rfl, q _ (by split <;> omega)⟩
def rMax2 : List V → Hp → VK → Prop := fun xs H Q => ∃ i j, xs = [.int i, .int j] ∧ Q (.int (if j > i then j else i)) H
theorem g_max2 {i j : Int} (q : Q (.int (max i j)) H) : rMax2 [.int i, .int j] H Q := ⟨i, j, rfl, by
  have e : (if j > i then j else i) = max i j := by split <;> omega
  rw [e]
  exact q⟩
def rListOf (K : PySem.W.Frag) : List V → Hp → VK → Prop := fun xs H Q => ∃ p ys, xs = [.ref p] ∧ (SqL K H p ys ∨ SqT K H p ys) ∧ ∀ l, H l = none → Q (.ref l) (upd H l (.lst ys))
theorem g_listL {a : Addr} {xs : List V} (h : H a = some (.lst xs)) (hH : Has F O H) (q : ∀ p H', H p = none → Has F ((p, .lst xs) :: O) H' → Q (.ref p) H') : rListOf K [.ref a] H Q := ⟨a, xs, rfl, .inl (SqL.of h), fun p n => q p _ n (hH.new n)⟩
theorem g_listT {a : Addr} {xs : List V} (h : H a = some (.tup xs)) (hH : Has F O H) (q : ∀ p H', H p = none → Has F ((p, .lst xs) :: O) H' → Q (.ref p) H') : rListOf K [.ref a] H Q := ⟨a, xs, rfl, .inr (SqT.of h), fun p n => q p _ n (hH.new n)⟩
def rTupleOf (K : PySem.W.Frag) : List V → Hp → VK → Prop := fun xs H Q => ∃ p ys, xs = [.ref p] ∧ ((SqL K H p ys ∧ ∀ l, H l = none → Q (.ref l) (upd H l (.tup ys))) ∨ (SqT K H p ys ∧ Q (.ref p) H))
theorem g_tupleL {a : Addr} {xs : List V} (h : H a = some (.lst xs)) (hH : Has F O H) (q : ∀ p H' F', H p = none → Same F F' → F' p = some (.tup xs) → Has F' O H' → Q (.ref p) H') : rTupleOf K [.ref a] H Q :=
  ⟨a, xs, rfl, .inl ⟨SqL.of h, fun p n => q p _ (upd F p (.tup xs)) n (same_upd (hH.same.free n)) upd_same (hH.new n).frz⟩⟩
theorem g_tupleT {a : Addr} {xs : List V} (h : H a = some (.tup xs)) (q : Q (.ref a) H) : rTupleOf K [.ref a] H Q := ⟨a, xs, rfl, .inr ⟨SqT.of h, q⟩⟩

/-! ### methods of lists, stores -/
theorem g_append {a : Addr} {xs : List V} (hH : Has F O H) (c : Chg O a (.lst xs) (.lst (xs ++ [y])) O') (hl : xs.length < sizeLine) (q : ∀ H', Has F O' H' → Q .non H') : rAppend (.ref a) [y] H Q :=
  ⟨a, xs, y, rfl, rfl, hH.get c.mem, hl, q _ (hH.put c)⟩
theorem g_popAt {a : Addr} {xs : List V} {i : Int} {k : Nat} (hH : Has F O H) (c : Chg O a (.lst xs) (.lst (xs.eraseIdx k)) O') (h1 : -(2 ^ 63) ≤ i) (h2 : i < 2 ^ 63) (hk : seqIndex? i xs.length = some k) (hy : xs[k]? = some y)
    (q : ∀ H', Has F O' H' → Q y H') : rPopAt (.ref a) [.int i] H Q := ⟨a, xs, i, k, y, rfl, rfl, hH.get c.mem, h1, h2, hk, hy, q _ (hH.put c)⟩
theorem g_clear {a : Addr} {xs : List V} (hH : Has F O H) (c : Chg O a (.lst xs) (.lst []) O') (q : ∀ H', Has F O' H' → Q .non H') : rClear (.ref a) [] H Q := ⟨a, xs, rfl, rfl, hH.get c.mem, q _ (hH.put c)⟩
/-- o[i] = v -/
def kSet (t : TSet) (R : L2.St → Hp → Prop) (σ : L2.St) (o i v : V) (H : Hp) : Prop := t o i v H fun H3 => R σ H3
theorem g_sub {to ti : TE} {t : TSet} {R : L2.St → Hp → Prop} (q : to σ H fun o H1 => ti σ H1 fun i H2 => kSet t R σ o i v H2) : gSub to ti t v σ H R := q
theorem g_setL {R : L2.St → Hp → Prop} {a : Addr} {xs : List V} {k : Int} {j : Nat} (hH : Has F O H) (c : Chg O a (.lst xs) (.lst (xs.set j v)) O') (hj : ixN xs.length k = some j) (q : ∀ H', Has F O' H' → R σ H') : kSet rSetL R σ (.ref a) (.int k) v H :=
  ⟨a, xs, k, j, rfl, rfl, hH.get c.mem, hj, q _ (hH.put c)⟩
theorem ixN_nat {n : Nat} {k : Int} (h0 : 0 ≤ k) (h : k < n) : ixN n k = some k.toNat := by
  unfold ixN
  rw [if_pos h0, if_pos h]
/-- a, b = a tuple -/
theorem g_gtup {n : Nat} {t : TGs} {a : Addr} {xs : List V} {R : L2.St → Hp → Prop} (h : H a = some (.tup xs)) (hl : xs.length = n) (q : t xs σ H R) : gTup K n t (.ref a) σ H R := ⟨a, xs, rfl, SqT.of h, hl, q⟩
theorem g_gcons {t : TG} {u : TGs} {r : List V} {R : L2.St → Hp → Prop} (q : t v σ H fun σ' H' => u r σ' H' R) : gCons t u (v :: r) σ H R := ⟨v, r, rfl, q⟩
theorem g_gnil {R : L2.St → Hp → Prop} (q : R σ H) : gNil [] σ H R := ⟨rfl, q⟩
/-- slices -/
def kSl (r : V → Option Int → Option Int → Hp → VK → Prop) (tl th : TO) (σ : L2.St) (x : V) (H : Hp) (Q : VK) : Prop := tl σ H fun l H2 => th σ H2 fun u H3 => r x l u H3 Q
theorem g_sl {r : V → Option Int → Option Int → Hp → VK → Prop} {tl th : TO} (q : te σ H fun x H1 => kSl r tl th σ x H1 Q) : tSl r te tl th σ H Q := q
theorem g_kslN {r : V → Option Int → Option Int → Hp → VK → Prop} (q : r x none none H Q) : kSl r tNoPart tNoPart σ x H Q := q
theorem g_kslL {r : V → Option Int → Option Int → Hp → VK → Prop} {tl : TE} {i : Int} (q : tl σ H fun z H1 => ∃ i, z = .int i ∧ r x (some i) none H1 Q) : kSl r (tPart tl) tNoPart σ x H Q := q
theorem g_kslH {r : V → Option Int → Option Int → Hp → VK → Prop} {tl : TE} {i : Int} (q : tl σ H fun z H1 => ∃ i, z = .int i ∧ r x none (some i) H1 Q) : kSl r tNoPart (tPart tl) σ x H Q := q
def rRevL (K : PySem.W.Frag) (x : V) (H : Hp) (Q : VK) : Prop := ∃ a xs, x = .ref a ∧ SqL K H a xs ∧ ∀ p, H p = none → Q (.ref p) (upd H p (.lst xs.reverse))
end

/-! ### loops -/
def kW (J : It) (g : TG) (tb : TS) (D : Ends) (σ : L2.St) (H : Hp) : Prop := ∃ W : Nat → Nat → L2.St → Hp → Prop, (∃ m, W 0 m σ H) ∧ ∀ i m σ H, W i m σ H →
  (J.stop i H ∧ D.nx σ H) ∨ (J.go i H ∧ ∃ N : L2.St → Hp → Prop, (∀ σ' H', N σ' H' → ∃ m', m' < m ∧ W (i + 1) m' σ' H') ∧ ∀ x H', J.yld i H x H' → g x σ H' fun σ2 H2 => tb { D with nx := N, ct := N, bk := D.nx } σ2 H2)
def kForL (K : PySem.W.Frag) (g : TG) (tb : TS) (D : Ends) (σ : L2.St) (x : V) (H : Hp) : Prop := ∃ a, x = .ref a ∧ (∃ xs, SqL K H a xs) ∧ kW (Itl K a) g tb D σ H
def kForR1 (g : TG) (tb : TS) (D : Ends) (σ : L2.St) (vs : List V) (H : Hp) : Prop := ∃ j : Int, vs = [.int j] ∧ -(2 ^ 62) ≤ j ∧ j < 2 ^ 62 ∧ kW (Itr 0 j.toNat) g tb D σ H
def kForR2 (g : TG) (tb : TS) (D : Ends) (σ : L2.St) (vs : List V) (H : Hp) : Prop := ∃ i j : Int, vs = [.int i, .int j] ∧ (-(2 ^ 62) ≤ i ∧ i < 2 ^ 62 ∧ -(2 ^ 62) ≤ j ∧ j < 2 ^ 62) ∧ kW (Itr i (j - i).toNat) g tb D σ H
def kForR3 (g : TG) (tb : TS) (D : Ends) (σ : L2.St) (vs : List V) (H : Hp) : Prop := ∃ (i j c : Int) (n : Nat), vs = [.int i, .int j, .int c] ∧ RgC i j c n ∧ kW (Itc i c n) g tb D σ H
section
variable {K : PySem.W.Frag} {σ : L2.St} {F : Hp} {O O' : Own} {H : Hp} {Q : VK} {ta tb tc te : TE} {x y v : V} {D : Ends} {t1 t2 ts : TS} {g : TG}
theorem g_forL (q : te σ H fun x H1 => kForL K g ts D σ x H1) : tFor (iList K te) g ts D σ H := q
theorem g_forR1 {ta : TA} (q : ta σ H fun vs H1 => kForR1 g ts D σ vs H1) : tFor (iRng1 ta) g ts D σ H := q
theorem g_forR2 {ta : TA} (q : ta σ H fun vs H1 => kForR2 g ts D σ vs H1) : tFor (iRng2 ta) g ts D σ H := q
theorem g_forR3 {ta : TA} (q : ta σ H fun vs H1 => kForR3 g ts D σ vs H1) : tFor (iRng3 ta) g ts D σ H := q
theorem k_forL {a : Addr} {xs : List V} (h : H a = some (.lst xs)) (Pv : Nat → L2.St → Hp → Prop) (h0 : Pv 0 σ H) (hl : ∀ i σ H, i ≤ xs.length → Pv i σ H → H a = some (.lst xs))
    (hs : ∀ i x σ H, xs[i]? = some x → Pv i σ H → g x σ H fun σ2 H2 => ts { D with nx := Pv (i + 1), ct := Pv (i + 1), bk := D.nx } σ2 H2) (hd : ∀ σ H, Pv xs.length σ H → D.nx σ H) : kForL K g ts D σ (.ref a) H :=
  ⟨a, rfl, ⟨xs, SqL.of h⟩, for_list Pv h0 (fun i σ H hi p => SqL.of (hl i σ H hi p)) hs hd⟩
theorem k_forR1 {j : Int} (Pv : Nat → L2.St → Hp → Prop) (h1 : -(2 ^ 62) ≤ j) (h2 : j < 2 ^ 62) (h0 : Pv 0 σ H)
    (hs : ∀ i σ H, i < j.toNat → Pv i σ H → g (.int (i : Int)) σ H fun σ2 H2 => ts { D with nx := Pv (i + 1), ct := Pv (i + 1), bk := D.nx } σ2 H2) (hd : ∀ σ H, Pv j.toNat σ H → D.nx σ H) : kForR1 g ts D σ [.int j] H :=
  ⟨j, rfl, h1, h2, for_range Pv h0 (fun i σ H hi p => by rw [Int.zero_add]; exact hs i σ H hi p) hd⟩
/-- n - 1 down to 0 -/
theorem k_forDown {n : Nat} {j : Int} (hj : j = (n : Int) - 1) (hn : n < 2 ^ 60) (Pv : Nat → L2.St → Hp → Prop) (h0 : Pv n σ H)
    (hs : ∀ i σ H, i < n → Pv (i + 1) σ H → g (.int (i : Int)) σ H fun σ2 H2 => ts { D with nx := Pv i, ct := Pv i, bk := D.nx } σ2 H2) (hd : ∀ σ H, Pv 0 σ H → D.nx σ H) : kForR3 g ts D σ [.int j, .int (-1), .int (-1)] H := by
  subst hj
  have e : (((n : Int) - 1) - (-1)).toNat = n := by omega
  have rg := RgC.neg (i := (n : Int) - 1) (j := -1) (by omega) (by omega) (by decide) (by decide)
  rw [e] at rg
  refine ⟨_, _, _, n, rfl, rg, for_rangeC (fun i => Pv (n - i)) h0 (fun i σ H hi p => ?_) (fun σ H p => ?_)⟩
  · have e1 : (n : Int) - 1 + (i : Nat) * (-1) = ((n - (i + 1) : Nat) : Int) := by omega
    have e2 : n - i = (n - (i + 1)) + 1 := by omega
    rw [e1]
    have p' : Pv ((n - (i + 1)) + 1) σ H := by rw [← e2]; exact p
    exact hs _ σ H (by omega) p'
  · have p' : Pv (n - n) σ H := p
    rw [Nat.sub_self] at p'
    exact hd σ H p'
/-- while -/
def kWh (Pv : Nat → L2.St → Hp → Prop) (m : Nat) (tb : TS) (D : Ends) (σ : L2.St) (b : Bool) (H : Hp) : Prop := if b = true then ∃ N : L2.St → Hp → Prop, (∀ σ' H', N σ' H' → ∃ m', m' < m ∧ Pv m' σ' H') ∧ tb { D with nx := N, ct := N, bk := D.nx } σ H else D.nx σ H
theorem g_while {c : TT} (Pv : Nat → L2.St → Hp → Prop) (m : Nat) (h0 : Pv m σ H) (hs : ∀ m σ H, Pv m σ H → c σ H fun b H1 => kWh Pv m ts D σ b H1) : tWhile c ts D σ H := ⟨Pv, ⟨m, h0⟩, hs⟩
theorem kwh_t {Pv : Nat → L2.St → Hp → Prop} {m : Nat} (q : ts { D with nx := fun σ' H' => ∃ m', m' < m ∧ Pv m' σ' H', ct := fun σ' H' => ∃ m', m' < m ∧ Pv m' σ' H', bk := D.nx } σ H) : kWh Pv m ts D σ true H := by
  unfold kWh
  rw [if_pos rfl]
  exact ⟨_, fun _ _ h => h, q⟩
theorem kwh_f {Pv : Nat → L2.St → Hp → Prop} {m : Nat} (q : D.nx σ H) : kWh Pv m ts D σ false H := by
  unfold kWh
  rw [if_neg Bool.false_ne_true]
  exact q

/-! ### list comprehensions -/
def kLc (J : It) (g : TG) (tt : TT) (te : TE) (vs : List Nat) (σ : L2.St) (H1 : Hp) (Q : VK) : Prop := ∀ D, H1 D = none → ∃ W : Nat → Nat → Hp → Prop, (∃ m, W 0 m (upd H1 D (.lst []))) ∧ ∀ i m H, W i m H →
  (J.stop i H ∧ Q (.ref D) H) ∨ (J.go i H ∧ ∃ Nx : Hp → Prop, (∀ H', Nx H' → ∃ m', m' < m ∧ W (i + 1) m' H') ∧ ∀ x H', J.yld i H x H' → g x (wipe σ vs) H' fun σ2 H2 => wipe σ2 vs = wipe σ vs ∧ tt σ2 H2 fun b H3 =>
    if b = true then te σ2 H3 fun y H4 => ∃ acc, H4 D = some (.lst acc) ∧ acc.length < sizeLine ∧ Nx (upd H4 D (.lst (acc ++ [y]))) else Nx H3)
def kLcL (K : PySem.W.Frag) (g : TG) (tt : TT) (te : TE) (vs : List Nat) (σ : L2.St) (x : V) (H : Hp) (Q : VK) : Prop := ∃ a, x = .ref a ∧ (∃ xs, SqL K H a xs) ∧ kLc (Itl K a) g tt te vs σ H Q
def kLcR1 (g : TG) (tt : TT) (te : TE) (ws : List Nat) (σ : L2.St) (vs : List V) (H : Hp) (Q : VK) : Prop := ∃ j : Int, vs = [.int j] ∧ -(2 ^ 62) ≤ j ∧ j < 2 ^ 62 ∧ kLc (Itr 0 j.toNat) g tt te ws σ H Q
theorem g_lcL {tt : TT} {vs : List Nat} (q : ta σ H fun x H1 => kLcL K g tt te vs σ x H1 Q) : tLc (iList K ta) g tt te vs σ H Q := q
theorem g_lcR1 {ta : TA} {tt : TT} {vs : List Nat} (q : ta σ H fun xs H1 => kLcR1 g tt te vs σ xs H1 Q) : tLc (iRng1 ta) g tt te vs σ H Q := q
/-- what a turn is to leave -/
def kNx (S : Nat → List V → Hp → Own → Prop) (i : Nat) (D : Addr) (H : Hp) : Prop := ∃ acc F' O', S (i + 1) acc F' O' ∧ Has F' ((D, .lst acc) :: O') H
def kTurn (D : Addr) (Nx : Hp → Prop) (y : V) (H : Hp) : Prop := ∃ acc, H D = some (.lst acc) ∧ acc.length < sizeLine ∧ Nx (upd H D (.lst (acc ++ [y])))
theorem k_turn {S : Nat → List V → Hp → Own → Prop} {i : Nat} {D : Addr} {acc : List V} {y : V} {H : Hp} {F : Hp} {O : Own} (h : Has F ((D, .lst acc) :: O) H) (hl : acc.length ≤ 100000) (s : S (i + 1) (acc ++ [y]) F O) : kTurn D (kNx S i D) y H :=
  ⟨acc, h.get (List.Mem.head _), by rw [sizeLine_eq]; omega, _, F, O, s, h.put .hd⟩
theorem k_skip {S : Nat → List V → Hp → Own → Prop} {i : Nat} {D : Addr} {acc : List V} {H : Hp} {F : Hp} {O : Own} (h : Has F ((D, .lst acc) :: O) H) (s : S (i + 1) acc F O) : kNx S i D H := ⟨acc, F, O, s, h⟩
theorem k_lc {J : It} {tt : TT} {vs : List Nat} (hH : Has F O H) (n : Nat) (S : Nat → List V → Hp → Own → Prop) (h0 : S 0 [] F O)
    (go : ∀ i acc F O D H, i < n → S i acc F O → Has F ((D, .lst acc) :: O) H → J.go i H) (stop : ∀ acc F O D H, S n acc F O → Has F ((D, .lst acc) :: O) H → J.stop n H)
    (hs : ∀ i x acc F O D H H', i < n → J.yld i H x H' → S i acc F O → Has F ((D, .lst acc) :: O) H → g x (wipe σ vs) H' fun σ2 H2 => wipe σ2 vs = wipe σ vs ∧ tt σ2 H2 fun b H3 => if b = true then te σ2 H3 fun y H4 => kTurn D (kNx S i D) y H4 else kNx S i D H3)
    (hd : ∀ acc F O D H, S n acc F O → Has F ((D, .lst acc) :: O) H → Q (.ref D) H) : kLc J g tt te vs σ H Q := by
  intro D hD
  refine ⟨fun i m H => m = n - i ∧ i ≤ n ∧ ∃ acc F O, S i acc F O ∧ Has F ((D, .lst acc) :: O) H, ⟨n, by simp, Nat.zero_le _, [], F, O, h0, hH.new hD⟩, ?_⟩
  rintro i m H1 ⟨rfl, hi, acc, F1, O1, s1, hH1⟩
  by_cases hlt : i < n
  · exact .inr ⟨go i acc F1 O1 D H1 hlt s1 hH1, kNx S i D, fun H' p => ⟨n - (i + 1), by omega, rfl, hlt, p⟩, fun x H' y => hs i x acc F1 O1 D H1 H' hlt y s1 hH1⟩
  · have e : i = n := by omega
    subst e
    exact .inl ⟨stop acc F1 O1 D H1 s1 hH1, hd acc F1 O1 D H1 s1 hH1⟩
/-- over a list that stands still -/
theorem k_lcL {a : Addr} {xs : List V} {tt : TT} {vs : List Nat} (h : H a = some (.lst xs)) (hH : Has F O H) (S : Nat → List V → Hp → Own → Prop) (h0 : S 0 [] F O) (hl : ∀ i acc F O H, S i acc F O → Has F O H → H a = some (.lst xs))
    (hs : ∀ i x acc F O D H, xs[i]? = some x → S i acc F O → Has F ((D, .lst acc) :: O) H → g x (wipe σ vs) H fun σ2 H2 => wipe σ2 vs = wipe σ vs ∧ tt σ2 H2 fun b H3 => if b = true then te σ2 H3 fun y H4 => kTurn D (kNx S i D) y H4 else kNx S i D H3)
    (hd : ∀ acc F O D H, S xs.length acc F O → Has F ((D, .lst acc) :: O) H → Q (.ref D) H) : kLcL K g tt te vs σ (.ref a) H Q := by
  refine ⟨a, rfl, ⟨xs, SqL.of h⟩, k_lc hH xs.length S h0 (fun i acc F O D H hi s hh => ?_) (fun acc F O D H s hh => ?_) (fun i x acc F O D H H' hi y s hh => ?_) hd⟩
  · exact ⟨xs, xs[i], SqL.of (hl i acc F O H s hh.drop), List.getElem?_eq_getElem hi⟩
  · exact ⟨xs, SqL.of (hl _ acc F O H s hh.drop), Nat.le_refl _⟩
  · obtain ⟨e, y⟩ := y
    subst e
    exact hs i x acc F O D _ (y xs (SqL.of (hl i acc F O _ s hh.drop))) s hh
theorem k_lcR1 {j : Int} {tt : TT} {vs : List Nat} (h1 : -(2 ^ 62) ≤ j) (h2 : j < 2 ^ 62) (hH : Has F O H) (S : Nat → List V → Hp → Own → Prop) (h0 : S 0 [] F O)
    (hs : ∀ i acc F O D H, i < j.toNat → S i acc F O → Has F ((D, .lst acc) :: O) H → g (.int (i : Int)) (wipe σ vs) H fun σ2 H2 => wipe σ2 vs = wipe σ vs ∧ tt σ2 H2 fun b H3 => if b = true then te σ2 H3 fun y H4 => kTurn D (kNx S i D) y H4 else kNx S i D H3)
    (hd : ∀ acc F O D H, S j.toNat acc F O → Has F ((D, .lst acc) :: O) H → Q (.ref D) H) : kLcR1 g tt te vs σ [.int j] H Q := by
  refine ⟨j, rfl, h1, h2, k_lc hH j.toNat S h0 (fun i acc F O D H hi s hh => hi) (fun acc F O D H s hh => Nat.le_refl _) (fun i x acc F O D H H' hi y s hh => ?_) hd⟩
  obtain ⟨e, y⟩ := y
  subst e y
  rw [Int.zero_add]
  exact hs i acc F O D _ hi s hh
end

/-! ### the rules' own soundness: one operator for several kinds -/
section
variable {X : Cx}
theorem op_addA : OpR X (binaryOp .Add) (rAdd X.K) := by
  intro pins s σ H x y v u Q I rx ry h
  rcases h with (h | h) | h | h
  · exact op_add pins s σ H x y v u Q I rx ry h
  · exact op_add_str pins s σ H x y v u Q I rx ry h
  · exact op_cat pins s σ H x y v u Q I rx ry h
  · exact op_catA pins s σ H x y v u Q I rx ry h
theorem op_mulA : OpR X (binaryOp .Mult) rMul := by
  intro pins s σ H x y v u Q I rx ry h
  rcases h with h | h
  · exact op_mul pins s σ H x y v u Q I rx ry h
  · exact op_rep pins s σ H x y v u Q I rx ry h
theorem op_eqA (hu : X.A.units + 64 < cLine) : OpR X (compareOp .Eq) (rEqA X.K) := by
  intro pins s σ H x y v u Q I rx ry h
  rcases h with h | h
  · exact op_eq pins s σ H x y v u Q I rx ry h
  · exact op_eqD hu pins s σ H x y v u Q I rx ry h
theorem op_neA (hu : X.A.units + 64 < cLine) : OpR X (compareOp .NotEq) (rNeA X.K) := by
  intro pins s σ H x y v u Q I rx ry h
  rcases h with h | h
  · exact op_ne pins s σ H x y v u Q I rx ry h
  · exact op_neD hu pins s σ H x y v u Q I rx ry h
theorem op_isNA : OpR X (compareOp .Is) rIsN := op_isN
theorem op_notNA : OpR X (compareOp .IsNot) rNotN := op_notN
theorem cr_len : CallR X (.builtin "len") (rLen X.K) := by
  intro pins s σ H xs us Q I r h
  rcases h with h | h
  · exact call_len_seq pins s σ H xs us Q I r h
  · exact call_len_str pins s σ H xs us Q I r h
theorem cr_int1 : CallR X (.type "int") rInt1 := call_int1
theorem cr_abs1 : CallR X (.builtin "abs") rAbs1 := call_abs
theorem cr_max2 (hc : X.calm = true) : CallR X (.builtin "max") rMax2 := call_max2 hc
theorem cr_listOf : CallR X (.type "list") (rListOf X.K) := call_list_of
theorem cr_tupleOf : CallR X (.type "tuple") (rTupleOf X.K) := call_tuple_of
end

/-! ### dicts -/
def rInDc : R2 := fun x y H Q => ∃ a o, y = .ref a ∧ DGet H a x o ∧ Q (.bl o.isSome) H
def rNotInDc : R2 := fun x y H Q => ∃ a o, y = .ref a ∧ DGet H a x o ∧ Q (.bl (!o.isSome)) H
section
variable {X : Cx}
theorem op_inDc (hu : X.A.units + 1 < cLine) : OpR X (compareOp .In) rInDc := by
  intro pins s σ H x y v u Q I rx ry h
  obtain ⟨a, o, rfl, g, q⟩ := h
  cases ry
  exact d_in hu I g rx fun s' I' => ⟨.bl _, H, I', rfl, q⟩
theorem op_notinDc (hu : X.A.units + 1 < cLine) : OpR X (compareOp .NotIn) rNotInDc := by
  intro pins s σ H x y v u Q I rx ry h
  obtain ⟨a, o, rfl, g, q⟩ := h
  cases ry
  exact d_notIn hu I g rx fun s' I' => ⟨.bl _, H, I', rfl, q⟩
end
def kGet2 (ty tx : TE) (σ : L2.St) (x : V) (H : Hp) (Q : VK) : Prop := ∃ a, x = .ref a ∧ IsD H a ∧ ty σ H fun y H2 => tx σ H2 fun z H3 => ∃ o, DGet H3 a y o ∧ Q (o.getD z) H3
def kGot (a : Addr) (y z : V) (H : Hp) (Q : VK) : Prop := ∃ o, DGet H a y o ∧ Q (o.getD z) H
section
variable {K : PySem.W.Frag} {σ : L2.St} {F : Hp} {O O' : Own} {H : Hp} {Q : VK} {ta tb tc te : TE} {x y v : V} {D : Ends} {t1 t2 ts : TS} {g : TG}
theorem g_dnew (hH : Has F O H) (q : ∀ p H', H p = none → Has F ((p, .dK []) :: O) H' → Q (.ref p) H') : tDNewK σ H Q := fun p n => q p _ n (hH.new n)
theorem g_inDI {a : Addr} {kvs : List (Key × V)} {i : Int} (h : H a = some (.dK kvs)) (q : Q (.bl (valV kvs (.inl i)).isSome) H) : rInDc (.int i) (.ref a) H Q := ⟨a, _, rfl, DGet.k (k := .inl i) h, q⟩
theorem g_notinDI {a : Addr} {kvs : List (Key × V)} {i : Int} (h : H a = some (.dK kvs)) (q : Q (.bl (!(valV kvs (.inl i)).isSome)) H) : rNotInDc (.int i) (.ref a) H Q := ⟨a, _, rfl, DGet.k (k := .inl i) h, q⟩
theorem g_setDI {R : L2.St → Hp → Prop} {a : Addr} {kvs : List (Key × V)} {i : Int} (hH : Has F O H) (c : Chg O a (.dK kvs) (.dK (putK kvs (.inl i) v)) O') (hl : kvs.length < sizeLine) (q : ∀ H', Has F O' H' → R σ H') : kSet rSetD R σ (.ref a) (.int i) v H :=
  ⟨a, _, rfl, DPut.k (k := .inl i) (hH.get c.mem) hl, q _ (hH.put c)⟩
theorem g_get2 (q : ta σ H fun x H1 => kGet2 tb tc σ x H1 Q) : tDGet2 ta tb tc σ H Q := q
theorem g_kget2 {a : Addr} {kvs : List (Key × V)} (h : H a = some (.dK kvs)) (q : tb σ H fun y H2 => tc σ H2 fun z H3 => kGot a y z H3 Q) : kGet2 tb tc σ (.ref a) H Q := ⟨a, rfl, .inl ⟨kvs, .inl h⟩, q⟩
theorem g_kgotI {a : Addr} {kvs : List (Key × V)} {i : Int} {z : V} (h : H a = some (.dK kvs)) (q : Q ((valV kvs (.inl i)).getD z) H) : kGot a (.int i) z H Q := ⟨_, DGet.k (k := .inl i) h, q⟩
theorem g_kgotS {a : Addr} {kvs : List (Key × V)} {i : Str} {z : V} (h : H a = some (.dK kvs)) (q : Q ((valV kvs (.inr i)).getD z) H) : kGot a (.str i) z H Q := ⟨_, DGet.k (k := .inr i) h, q⟩
end

/-! ### in, not in; o[i] = v: any of the kinds -/
def rInA (K : PySem.W.Frag) : R2 := fun x y H Q => (rIn K false x y H Q ∨ rInDc x y H Q) ∨ (∃ i j, x = .str i ∧ y = .str j ∧ Q (.bl (!(Builtin.Str.occurrences j i 0 j.length 1).isEmpty)) H) ∨ rInD K x y H Q
def rNotInA (K : PySem.W.Frag) : R2 := fun x y H Q => (rIn K true x y H Q ∨ rNotInDc x y H Q) ∨ (∃ i j, x = .str i ∧ y = .str j ∧ Q (.bl (!(!(Builtin.Str.occurrences j i 0 j.length 1).isEmpty))) H) ∨ rNotInD K x y H Q
def rSetA : TSet := fun o i v H Q => rSetL o i v H Q ∨ rSetD o i v H Q
section
variable {X : Cx}
theorem op_inA (hu : X.A.units + 64 < cLine) (hu' : X.A.units + 65 < cLine) : OpR X (compareOp .In) (rInA X.K) := by
  intro pins s σ H x y v u Q I rx ry h
  rcases h with (h | h) | h | h
  · exact op_in_seq pins s σ H x y v u Q I rx ry h
  · exact op_inDc (by omega) pins s σ H x y v u Q I rx ry h
  · exact op_in_str pins s σ H x y v u Q I rx ry h
  · exact op_inD hu' pins s σ H x y v u Q I rx ry h
theorem op_notinA (hu : X.A.units + 64 < cLine) (hu' : X.A.units + 65 < cLine) : OpR X (compareOp .NotIn) (rNotInA X.K) := by
  intro pins s σ H x y v u Q I rx ry h
  rcases h with (h | h) | h | h
  · exact op_notIn_seq pins s σ H x y v u Q I rx ry h
  · exact op_notinDc (by omega) pins s σ H x y v u Q I rx ry h
  · exact L2.op_notIn_str pins s σ H x y v u Q I rx ry h
  · exact op_notInD hu' pins s σ H x y v u Q I rx ry h
theorem set_any (hu : X.A.units + 1 < cLine) : PSet X rSetA := by
  intro pins s σ H o i v ov iv u Q I ro ri rv h
  rcases h with h | h
  · exact set_list pins s σ H o i v ov iv u Q I ro ri rv h
  · exact set_dict hu pins s σ H o i v ov iv u Q I ro ri rv h
theorem u65 {k : Nat} {A : Around} (r : Room k A) : A.units + 65 < cLine := by have := r.un; omega
end
section
variable {K : PySem.W.Frag} {σ : L2.St} {F : Hp} {O O' : Own} {H : Hp} {Q : VK} {x y v : V}
theorem g_inFL {a : Addr} {xs : List V} (h : H a = some (.lst xs)) (hx : flatV x = true) (hf : xs.all flatV = true) (q : Q (.bl (inV x xs)) H) : rInA K x (.ref a) H Q := .inl (.inl ⟨a, xs, rfl, .inl (SqL.of h), hx, hf, q⟩)
theorem g_notinFL {a : Addr} {xs : List V} (h : H a = some (.lst xs)) (hx : flatV x = true) (hf : xs.all flatV = true) (q : Q (.bl (!inV x xs)) H) : rNotInA K x (.ref a) H Q := .inl (.inl ⟨a, xs, rfl, .inl (SqL.of h), hx, hf, q⟩)
theorem g_inI {a : Addr} {kvs : List (Key × V)} {i : Int} (h : H a = some (.dK kvs)) (q : Q (.bl (valV kvs (.inl i)).isSome) H) : rInA K (.int i) (.ref a) H Q := .inl (.inr ⟨a, _, rfl, DGet.k (k := .inl i) h, q⟩)
theorem g_notinI {a : Addr} {kvs : List (Key × V)} {i : Int} (h : H a = some (.dK kvs)) (q : Q (.bl (!(valV kvs (.inl i)).isSome)) H) : rNotInA K (.int i) (.ref a) H Q := .inl (.inr ⟨a, _, rfl, DGet.k (k := .inl i) h, q⟩)
theorem g_inS {a : Addr} {kvs : List (Key × V)} {i : Str} (h : H a = some (.dK kvs)) (q : Q (.bl (valV kvs (.inr i)).isSome) H) : rInA K (.str i) (.ref a) H Q := .inl (.inr ⟨a, _, rfl, DGet.k (k := .inr i) h, q⟩)
theorem g_notinS {a : Addr} {kvs : List (Key × V)} {i : Str} (h : H a = some (.dK kvs)) (q : Q (.bl (!(valV kvs (.inr i)).isSome)) H) : rNotInA K (.str i) (.ref a) H Q := .inl (.inr ⟨a, _, rfl, DGet.k (k := .inr i) h, q⟩)
theorem g_stL {R : L2.St → Hp → Prop} {a : Addr} {xs : List V} {k : Int} {j : Nat} (hH : Has F O H) (c : Chg O a (.lst xs) (.lst (xs.set j v)) O') (hj : ixN xs.length k = some j) (q : ∀ H', Has F O' H' → R σ H') : kSet rSetA R σ (.ref a) (.int k) v H :=
  .inl ⟨a, xs, k, j, rfl, rfl, hH.get c.mem, hj, q _ (hH.put c)⟩
theorem g_stD {R : L2.St → Hp → Prop} {a : Addr} {kvs : List (Key × V)} {k : Key} {z : V} (ez : z = kV k) (hH : Has F O H) (c : Chg O a (.dK kvs) (.dK (putK kvs k v)) O') (hl : kvs.length < sizeLine) (q : ∀ H', Has F O' H' → R σ H') : kSet rSetA R σ (.ref a) z v H := by
  subst ez
  exact .inr ⟨a, _, rfl, DPut.k (hH.get c.mem) hl, q _ (hH.put c)⟩
end

/-! ### an argument that is changed -/
def rm (H : Hp) (a : Addr) : Hp := fun b => if b = a then none else H b
/-- all but a stands as it stood -/
def But (a : Addr) (H H' : Hp) : Prop := ∀ b u, b ≠ a → H b = some u → H' b = some u
theorem rm_at {H : Hp} {a : Addr} : rm H a a = none := if_pos rfl
theorem rm_ne {H : Hp} {a b : Addr} (h : b ≠ a) : rm H a b = H b := if_neg h
theorem Has.arg {H : Hp} {a : Addr} {o : HO} (h : H a = some o) : Has (rm H a) [(a, o)] H := by
  refine ⟨fun b u q => ?_, fun p hp => ?_, by simp⟩
  · by_cases e : b = a
    · subst e; rw [rm_at] at q; cases q
    · rw [rm_ne e] at q; exact q
  · have e : p = (a, o) := by simpa using hp
    subst e
    exact ⟨rm_at, h⟩
theorem But.of {H H' : Hp} {a : Addr} (h : Same (rm H a) H') : But a H H' := fun b u ne q => h b u (by rw [rm_ne ne]; exact q)
theorem But.trans {a : Addr} {H H1 H2 : Hp} (x : But a H H1) (y : But a H1 H2) : But a H H2 := fun b u ne q => y b u ne (x b u ne q)
theorem But.same {a : Addr} {H H1 H2 : Hp} (x : But a H H1) (y : Same H1 H2) : But a H H2 := fun b u ne q => y b u (x b u ne q)
section
variable {K : PySem.W.Frag} {σ : L2.St} {F : Hp} {O O' : Own} {H : Hp} {Q : VK} {x y v : V}
/-- a test by a fact about its answer -/
theorem g_fact {t : TT} {R : Bool → Hp → Prop} (C : Bool → Prop) (h : ∀ R : Bool → Hp → Prop, (∀ b, C b → R b H) → t σ H R) (q : ∀ b, C b → R b H) : t σ H R := h R q
theorem g_ixV {a : Addr} {xs : List V} {i : Int} (h : H a = some (.lst xs)) (h0 : 0 ≤ i) (hl : i < xs.length) (q : ∀ v, xs[i.toNat]? = some v → Q v H) : rIxA K (.ref a) (.int i) H Q := by
  have e : i.toNat < xs.length := by omega
  exact g_ixL h (at_n h0 (List.getElem?_eq_getElem e)) (q _ (List.getElem?_eq_getElem e))
theorem g_ixI {a : Addr} {xs : List Int} {i : Int} (h : H a = some (.lst (xs.map V.int))) (h0 : 0 ≤ i) (hl : i < xs.length) (q : ∀ z, xs[i.toNat]? = some z → Q (.int z) H) : rIxA K (.ref a) (.int i) H Q := by
  have e : i.toNat < xs.length := by omega
  refine g_ixL h (at_n h0 (v := .int xs[i.toNat]) ?_) (q _ (List.getElem?_eq_getElem e))
  rw [List.getElem?_map, List.getElem?_eq_getElem e]
  rfl
theorem g_ixZ {a : Addr} {xs : List Str} {i : Int} (h : H a = some (.lst (xs.map V.str))) (h0 : 0 ≤ i) (hl : i < xs.length) (q : ∀ z, xs[i.toNat]? = some z → Q (.str z) H) : rIxA K (.ref a) (.int i) H Q := by
  have e : i.toNat < xs.length := by omega
  refine g_ixL h (at_n h0 (v := .str xs[i.toNat]) ?_) (q _ (List.getElem?_eq_getElem e))
  rw [List.getElem?_map, List.getElem?_eq_getElem e]
  rfl
theorem g_stI {R : L2.St → Hp → Prop} {a : Addr} {xs : List Int} {k z : Int} (hH : Has F O H) (c : Chg O a (.lst (xs.map V.int)) (.lst ((xs.set k.toNat z).map V.int)) O') (h0 : 0 ≤ k) (hl : k < xs.length) (q : ∀ H', Has F O' H' → R σ H') : kSet rSetA R σ (.ref a) (.int k) (.int z) H := by
  refine g_stL (xs := xs.map V.int) (j := k.toNat) hH ?_ (ixN_nat h0 (by rw [List.length_map]; exact hl)) q
  rw [← List.map_set]
  exact c
theorem g_popAtI {a : Addr} {xs : List Int} {i : Int} (hH : Has F O H) (c : Chg O a (.lst (xs.map V.int)) (.lst ((xs.eraseIdx i.toNat).map V.int)) O') (h0 : 0 ≤ i) (hl : i < xs.length) (h2 : xs.length ≤ 1000) (q : ∀ H' z, Has F O' H' → Q (.int z) H') : rPopAt (.ref a) [.int i] H Q := by
  have e : i.toNat < xs.length := by omega
  refine g_popAt (xs := xs.map V.int) (k := i.toNat) (y := .int xs[i.toNat]) hH ?_ (by omega) (by omega) ?_ ?_ (fun H' h => q H' _ h)
  · have : (xs.map V.int).eraseIdx i.toNat = (xs.eraseIdx i.toNat).map V.int := by
      rw [List.eraseIdx_eq_take_drop_succ, List.eraseIdx_eq_take_drop_succ, List.map_append, List.map_take, List.map_drop]
    rw [this]
    exact c
  · have := (ixN_seq (n := (xs.map V.int).length) (i := i) (j := i.toNat) (ixN_nat h0 (by rw [List.length_map]; exact hl))).1
    exact this
  · rw [List.getElem?_map, List.getElem?_eq_getElem e]
    rfl
end
theorem sz {n : Nat} (h : n ≤ 100000) : n ≤ sizeLine := by rw [sizeLine_eq]; omega
theorem szl {n : Nat} (h : n < 100000) : n < sizeLine := by rw [sizeLine_eq]; omega

section
variable {K : PySem.W.Frag} {σ : L2.St} {F : Hp} {O O' : Own} {H : Hp} {Q : VK} {x y v : V} {te ta : TE}
theorem g_yes {R : Bool → Hp → Prop} (q : R true H) : tYes σ H R := q
theorem g_wipe {σ1 σ2 : L2.St} {B : Prop} (e : σ1 = σ2) (q : B) : σ1 = σ2 ∧ B := ⟨e, q⟩
def kOI (x : V) (H : Hp) (R : Option Int → Hp → Prop) : Prop := ∃ i, x = .int i ∧ R (some i) H
theorem g_part {R : Option Int → Hp → Prop} (q : te σ H fun x H1 => kOI x H1 R) : tPart te σ H R := q
theorem g_kOI {R : Option Int → Hp → Prop} {i : Int} (q : R (some i) H) : kOI (.int i) H R := ⟨i, rfl, q⟩
theorem g_nopart {R : Option Int → Hp → Prop} (q : R none H) : tNoPart σ H R := q
theorem g_slice {r : V → Option Int → Option Int → Hp → VK → Prop} {tl th : TO} (q : te σ H fun x H1 => tl σ H1 fun l H2 => th σ H2 fun u H3 => r x l u H3 Q) : tSl r te tl th σ H Q := q
def rSlB (K : PySem.W.Frag) : V → Option Int → Option Int → Hp → VK → Prop := fun x lo hi H Q => rSlL K x lo hi H Q ∨ rSlA K x lo hi H Q
theorem g_slS {a : Addr} {xs : List V} {lo hi : Option Int} (h : SqL K H a xs) (hH : Has F O H) (q : ∀ p H', H p = none → Has F ((p, .lst (cutV xs lo hi)) :: O) H' → Q (.ref p) H') : rSlB K (.ref a) lo hi H Q := .inl ⟨a, xs, rfl, h, fun p n => q p _ n (hH.new n)⟩
theorem g_slTF {a : Addr} {xs : List V} {lo hi : Option Int} (h : F a = some (.tup xs)) (hH : Has F O H) (q : ∀ p H' F', Same F F' → F' p = some (.tup (cutV xs lo hi)) → Has F' O H' → Q (.ref p) H') : rSlB K (.ref a) lo hi H Q :=
  .inr ⟨a, xs, rfl, SqT.of (hH.same _ _ h), fun w => q a H F (Same.refl _) (by
    have e : cutV xs lo hi = xs := by
      unfold cutV
      rw [w.1, w.2, List.drop_zero, Nat.sub_zero, List.take_length]
    rw [e]; exact h) hH, fun _ p n => q p _ (upd F p (.tup (cutV xs lo hi))) (same_upd (hH.same.free n)) upd_same (hH.new n).frz⟩
theorem g_addTF {a b : Addr} {xs ys : List V} (h1 : F a = some (.tup xs)) (h2 : F b = some (.tup ys)) (hl : xs.length + ys.length ≤ sizeLine) (hH : Has F O H) (q : ∀ p H' F', Same F F' → F' p = some (.tup (xs ++ ys)) → Has F' O H' → Q (.ref p) H') : rAdd K (.ref a) (.ref b) H Q :=
  .inr (.inr ⟨a, b, xs, ys, rfl, rfl, SqT.of (hH.same _ _ h1), SqT.of (hH.same _ _ h2), hl, fun e => q b H F (Same.refl _) (by rw [e]; exact h2) hH, fun _ e => q a H F (Same.refl _) (by rw [e, List.append_nil]; exact h1) hH,
    fun _ _ p n => q p _ (upd F p (.tup (xs ++ ys))) (same_upd (hH.same.free n)) upd_same (hH.new n).frz⟩)
theorem g_slL {a : Addr} {xs : List V} {lo hi : Option Int} (h : H a = some (.lst xs)) (hH : Has F O H) (q : ∀ p H', H p = none → Has F ((p, .lst (cutV xs lo hi)) :: O) H' → Q (.ref p) H') : rSlB K (.ref a) lo hi H Q := g_slS (SqL.of h) hH q
theorem cutV_ints (ns : List Int) (lo hi : Option Int) : ∃ ms : List Int, cutV (ns.map V.int) lo hi = ms.map V.int ∧ ms.length ≤ ns.length := by
  refine ⟨(ns.drop (HT.sIx ns.length 0 lo)).take (HT.sIx ns.length ns.length hi - HT.sIx ns.length 0 lo), ?_, ?_⟩
  · unfold cutV
    rw [List.length_map, List.map_take, List.map_drop]
  · rw [List.length_take, List.length_drop]
    omega
theorem g_revL {a : Addr} {xs : List V} (h : H a = some (.lst xs)) (hH : Has F O H) (q : ∀ p H', H p = none → Has F ((p, .lst xs.reverse) :: O) H' → Q (.ref p) H') : (∃ b ys, V.ref a = .ref b ∧ SqL K H b ys ∧ ∀ p, H p = none → Q (.ref p) (upd H p (.lst ys.reverse))) :=
  ⟨a, xs, rfl, SqL.of h, fun p n => q p _ n (hH.new n)⟩
theorem g_tRev (q : te σ H fun x H1 => rRevL K x H1 Q) : tRevL K te σ H Q := q
theorem g_rRev {a : Addr} {xs : List V} (h : H a = some (.lst xs)) (hH : Has F O H) (q : ∀ p H', H p = none → Has F ((p, .lst xs.reverse) :: O) H' → Q (.ref p) H') : rRevL K (.ref a) H Q := ⟨a, xs, rfl, SqL.of h, fun p n => q p _ n (hH.new n)⟩
/-- an item of a list of texts that are in order, of ints from 0 to n -/
def okS : V → Bool
  | .str z => PyData.strOk z
  | _ => false
def okI (n : Int) : V → Bool
  | .int z => decide (0 ≤ z ∧ z ≤ n)
  | _ => false
theorem g_ixM {a : Addr} {xs : List V} {i : Int} (h : H a = some (.lst xs)) (ok : xs.all okS = true) (h0 : 0 ≤ i) (hl : i < xs.length) (q : ∀ z, PyData.strOk z = true → Q (.str z) H) : rIxA K (.ref a) (.int i) H Q := by
  refine g_ixV h h0 hl fun v hv => ?_
  have m := List.all_eq_true.mp ok v (List.mem_of_getElem? hv)
  cases v with
  | str z => exact q z m
  | _ => cases m
theorem g_ixN {n : Int} {a : Addr} {xs : List V} {i : Int} (h : H a = some (.lst xs)) (ok : xs.all (okI n) = true) (h0 : 0 ≤ i) (hl : i < xs.length) (q : ∀ z, 0 ≤ z → z ≤ n → Q (.int z) H) : rIxA K (.ref a) (.int i) H Q := by
  refine g_ixV h h0 hl fun v hv => ?_
  have m := List.all_eq_true.mp ok v (List.mem_of_getElem? hv)
  cases v with
  | int z =>
    have := of_decide_eq_true (show decide (0 ≤ z ∧ z ≤ n) = true from m)
    exact q z this.1 this.2
  | _ => cases m
end

/-! ### tables of ints: a list of rows -/
def rowO (r : Addr × List Int) : Addr × HO := (r.1, .lst (r.2.map V.int))
def tabO (t : Addr) (rows : List (Addr × List Int)) : Own := (t, .lst (rows.map fun r => V.ref r.1)) :: rows.map rowO
theorem Chg.row {r : Addr × List Int} {zs : List Int} {O : Own} : ∀ {rows : List (Addr × List Int)} {k : Nat}, rows[k]? = some r → Chg (rows.map rowO ++ O) r.1 (.lst (r.2.map V.int)) (.lst (zs.map V.int)) ((rows.set k (r.1, zs)).map rowO ++ O)
  | [], k, h => by simp at h
  | x :: rows, 0, h => by
    have e : x = r := Option.some.inj h
    subst e
    exact .hd
  | x :: rows, k + 1, h => .tl (Chg.row (rows := rows) (k := k) h)
theorem rows_ref {r : Addr × List Int} {zs : List Int} : ∀ {rows : List (Addr × List Int)} {k : Nat}, rows[k]? = some r → (rows.set k (r.1, zs)).map (fun r => V.ref r.1) = rows.map fun r => V.ref r.1
  | [], k, h => by simp at h
  | x :: rows, 0, h => by
    have e : x = r := Option.some.inj h
    subst e
    rfl
  | x :: rows, k + 1, h => by
    have := rows_ref (rows := rows) (k := k) (zs := zs) h
    show V.ref x.1 :: (rows.set k (r.1, zs)).map (fun r => V.ref r.1) = _
    rw [this]
    rfl
section
variable {K : PySem.W.Frag} {σ : L2.St} {F : Hp} {O O' : Own} {H : Hp} {Q : VK} {t : Addr} {rows : List (Addr × List Int)}
theorem Has.row {r : Addr × List Int} {k : Nat} (hH : Has F (tabO t rows ++ O) H) (hr : rows[k]? = some r) : H r.1 = some (.lst (r.2.map V.int)) :=
  hH.get (List.mem_append_left _ (List.mem_cons_of_mem _ (List.mem_map.mpr ⟨r, List.mem_of_getElem? hr, rfl⟩)))
theorem Has.tab (hH : Has F (tabO t rows ++ O) H) : H t = some (.lst (rows.map fun r => V.ref r.1)) := hH.get (List.mem_append_left _ List.mem_cons_self)
theorem g_ixRow {i : Int} (hH : Has F (tabO t rows ++ O) H) (h0 : 0 ≤ i) (hl : i < rows.length) (q : ∀ r, rows[i.toNat]? = some r → H r.1 = some (.lst (r.2.map V.int)) → Q (.ref r.1) H) : rIxA K (.ref t) (.int i) H Q := by
  have e : i.toNat < rows.length := by omega
  have hr := List.getElem?_eq_getElem e
  refine g_ixL hH.tab (at_n h0 (v := .ref rows[i.toNat].1) ?_) (q _ hr (hH.row hr))
  rw [List.getElem?_map, hr]
  rfl
theorem g_setRow {R : L2.St → Hp → Prop} {r : Addr × List Int} {k : Nat} {j z : Int} (hH : Has F (tabO t rows ++ O) H) (hr : rows[k]? = some r) (h0 : 0 ≤ j) (hl : j < r.2.length) (q : ∀ H', Has F (tabO t (rows.set k (r.1, r.2.set j.toNat z)) ++ O) H' → R σ H') :
    kSet rSetA R σ (.ref r.1) (.int j) (.int z) H := by
  refine g_stI hH (xs := r.2) ?_ h0 hl q
  have c := Chg.row (O := O) (zs := r.2.set j.toNat z) hr
  unfold tabO
  rw [List.cons_append, List.cons_append, rows_ref hr]
  exact .tl c
end

/-! ### the rules with the written part by its name -/
section
variable {X : Cx}
theorem op_addK (K : PySem.W.Frag) (e : X.K = K := by rfl) : OpR X (binaryOp .Add) (rAdd K) := by subst e; exact op_addA
theorem op_eqK (K : PySem.W.Frag) (hu : X.A.units + 64 < cLine) (e : X.K = K := by rfl) : OpR X (compareOp .Eq) (rEqA K) := by subst e; exact op_eqA hu
theorem op_neK (K : PySem.W.Frag) (hu : X.A.units + 64 < cLine) (e : X.K = K := by rfl) : OpR X (compareOp .NotEq) (rNeA K) := by subst e; exact op_neA hu
theorem op_inK (K : PySem.W.Frag) (hu : X.A.units + 64 < cLine) (hu' : X.A.units + 65 < cLine) (e : X.K = K := by rfl) : OpR X (compareOp .In) (rInA K) := by subst e; exact op_inA hu hu'
theorem op_notinK (K : PySem.W.Frag) (hu : X.A.units + 64 < cLine) (hu' : X.A.units + 65 < cLine) (e : X.K = K := by rfl) : OpR X (compareOp .NotIn) (rNotInA K) := by subst e; exact op_notinA hu hu'
theorem ix_dict (hu : X.A.units + 1 < cLine) : IxR X rIxD := by
  intro value slice pins s σ H x y v u Q I rx ry h hs
  obtain ⟨a, z, rfl, g, q⟩ := h
  cases rx
  have hT := dict_typeIs I g
  have fin : wpAny (model X.prog X.w) X.A (subscripted slice false (.ref a) u) (fun r s₃ => wpAny (model X.prog X.w) X.A (letTemporaryGo value (.ref a) r >>= fun _ => pure r) (EP X pins σ Q) X.xe s₃) X.xe s := by
    rw [hs]
    exact wpAny_operating (wpAny_mono (d_getItem hu I g ry (Q := fun r s' => EP X pins σ Q r s') fun w' s3 I3 rw' => ⟨z, H, I3, rw', q⟩) (fun r s₃ h₃ => wpAny_bind (wpAny_letTemporaryGo (wpAny_pure h₃))) fun _ _ x => x)
  unfold subscriptTail
  refine wpAny_bind ?_
  rw [getitemInPython_of_ne hT.not_modules]
  refine wpAny_bind (wpAny_specialOf hT PySem.F.slot_dict_getitem.lookup ?_)
  first
    | exact wpAny_pure (wpAny_bind fin)
    | exact wpAny_bind (wpAny_pure (wpAny_bind fin))
    | exact wpAny_bind fin
theorem ix_K (K : PySem.W.Frag) (hu : X.A.units + 1 < cLine) (e : X.K = K := by rfl) : IxR X (rIxA K) := by subst e; exact ix_seq.or (ix_dict hu)
theorem cr_lenK (K : PySem.W.Frag) (e : X.K = K := by rfl) : CallR X (.builtin "len") (rLen K) := by subst e; exact cr_len
theorem cr_listK (K : PySem.W.Frag) (e : X.K = K := by rfl) : CallR X (.type "list") (rListOf K) := by subst e; exact cr_listOf
theorem cr_tupleK (K : PySem.W.Frag) (e : X.K = K := by rfl) : CallR X (.type "tuple") (rTupleOf K) := by subst e; exact cr_tupleOf
theorem sl_all : SlR X (rSlB X.K) := by
  intro pins s σ H x v vl vu lo hi sl Q I rx hs pl pu h
  rcases h with h | h
  · exact sl_list pins s σ H x v vl vu lo hi sl Q I rx hs pl pu h
  · exact sl_tupA pins s σ H x v vl vu lo hi sl Q I rx hs pl pu h
theorem sl_K (K : PySem.W.Frag) (e : X.K = K := by rfl) : SlR X (rSlB K) := by subst e; exact sl_all
theorem k_bm {ex : Expr} {T : String} {r : V → List V → Hp → VK → Prop} {to : TE} {t : TA} (K : PySem.W.Frag) (h : PE X ex (tBM X.K T r to t)) (e : X.K = K := by rfl) : PE X ex (tBM K T r to t) := by subst e; exact h
theorem k_bm0 {ex : Expr} {T : String} {r : V → List V → Hp → VK → Prop} {to : TE} (K : PySem.W.Frag) (h : PE X ex (tBM0 X.K T r to)) (e : X.K = K := by rfl) : PE X ex (tBM0 K T r to) := by subst e; exact h
theorem k_rev {ex : Expr} {to : TE} (K : PySem.W.Frag) (h : PE X ex (tRevL X.K to)) (e : X.K = K := by rfl) : PE X ex (tRevL K to) := by subst e; exact h
theorem k_il {tg l : Expr} {tl : TE} (K : PySem.W.Frag) (h : PI X tg l (iList X.K tl)) (e : X.K = K := by rfl) : PI X tg l (iList K tl) := by subst e; exact h
theorem k_gt {tg : Expr} {n : Nat} {t : TGs} (K : PySem.W.Frag) (h : PG X tg (gTup X.K n t)) (e : X.K = K := by rfl) : PG X tg (gTup K n t) := by subst e; exact h
end
theorem g_start {t : TS} {D : Ends} {σ σ' : L2.St} {H : Hp} (e : σ = σ') (h : t D σ' H) : t D σ H := by subst e; exact h

theorem Has.argFree {H H' : Hp} {a D : Addr} {o : HO} {O : Own} (h : Has (rm H a) ((D, o) :: O) H') (m : a ∈ O.map (·.1)) : H D = none := by
  have nd : D ∉ O.map (·.1) ∧ (O.map (·.1)).Nodup := List.nodup_cons.mp (by have := h.nd; rw [List.map_cons] at this; exact this)
  have e := h.free
  rw [rm_ne (fun z => nd.1 (by rw [z]; exact m))] at e
  exact e

theorem Has.but2 {F H H' : Hp} {O O' : Own} {a p : Addr} {o o' op : HO} (h : Has F O H) (c : Chg O a o o' O') (hb : But a H H') (e : H' a = some o') (n : H p = none) (ep : H' p = some op) : Has F ((p, op) :: O') H' := by
  have h' := h.but c hb e
  refine ⟨h'.same, fun q hq => ?_, ?_⟩
  · rcases List.mem_cons.mp hq with rfl | hq
    · exact ⟨h.same.free n, ep⟩
    · exact h'.own q hq
  · rw [List.map_cons]
    refine List.nodup_cons.mpr ⟨fun m => ?_, h'.nd⟩
    rw [c.fst] at m
    obtain ⟨q, hq, e'⟩ := List.mem_map.mp m
    have z := (h.own q hq).2
    rw [e', n] at z
    cases z

theorem Has.mono {F F' H : Hp} {O : Own} (h : Has F O H) (s : Same F' F) : Has F' O H := ⟨s.trans h.same, fun q hq => ⟨s.free (h.own q hq).1, (h.own q hq).2⟩, h.nd⟩
theorem same_rm {F H : Hp} {a : Addr} (s : Same F H) (n : F a = none) : Same F (rm H a) := fun b u q => by
  rw [rm_ne (ne_of_none q n)]
  exact s b u q
theorem take_foldl {α β : Type} {f : β → α → β} {z : β} {l : List α} {i : Nat} {x : α} (h : l[i]? = some x) : (l.take (i + 1)).foldl f z = f ((l.take i).foldl f z) x := by
  rw [List.take_add_one, h, List.foldl_append]
  rfl

/-! ### isinstance -/
def rIsA (K : PySem.W.Frag) : List V → Hp → VK → Prop := fun xs H Q => rIsi K xs H Q ∨ rIsiT K xs H Q
theorem cr_isK {X : Cx} (K : PySem.W.Frag) (e : X.K = K := by rfl) : CallR X (.builtin "isinstance") (rIsA K) := by
  subst e
  intro pins s σ H xs us Q I r h
  rcases h with h | h
  · exact call_isi pins s σ H xs us Q I r h
  · exact call_isiT pins s σ H xs us Q I r h
theorem g_is {K : PySem.W.Frag} {H : Hp} {Q : VK} {x : V} {t n : String} {b : Bool} (ty : TyX K H x (.type t)) (e : kitB t n = some b) (q : Q (.bl b) H) : rIsA K [x, .ty n] H Q := .inl ⟨x, .ty n, _, _, b, rfl, .ty n, ty, kit_ty e, q⟩
theorem g_is2 {K : PySem.W.Frag} {H : Hp} {Q : VK} {x : V} {t n m : String} {a b : Bool} {tp : Addr} (h : H tp = some (.tup [.ty n, .ty m])) (ty : TyX K H x (.type t)) (ea : kitB t n = some a) (eb : kitB t m = some b) (q : Q (.bl (a || b)) H) : rIsA K [x, .ref tp] H Q := by
  refine .inr ⟨x, tp, _, _, _, a || b, rfl, h, .cons (.ty n) (.cons (.ty m) .nil), ty, ?_, q⟩
  refine kitAny_cons (kit_ty ea) (fun z => ?_) (fun z => by rw [z]; rfl)
  refine kitAny_cons (kit_ty eb) (fun y => ?_) (fun y => by rw [z, y]; rfl)
  rw [z, y]
  exact kitAny_nil
theorem kit_list_list : kitB "list" "list" = some true := by decide +kernel
theorem kit_list_tuple : kitB "list" "tuple" = some false := by decide +kernel
theorem kit_list_dict : kitB "list" "dict" = some false := by decide +kernel
theorem kit_list_int : kitB "list" "int" = some false := by decide +kernel
theorem kit_list_bool : kitB "list" "bool" = some false := by decide +kernel
theorem kit_list_str : kitB "list" "str" = some false := by decide +kernel
theorem kit_tuple_list : kitB "tuple" "list" = some false := by decide +kernel
theorem kit_tuple_tuple : kitB "tuple" "tuple" = some true := by decide +kernel
theorem kit_tuple_dict : kitB "tuple" "dict" = some false := by decide +kernel
theorem kit_tuple_int : kitB "tuple" "int" = some false := by decide +kernel
theorem kit_tuple_bool : kitB "tuple" "bool" = some false := by decide +kernel
theorem kit_tuple_str : kitB "tuple" "str" = some false := by decide +kernel
theorem kit_dict_list : kitB "dict" "list" = some false := by decide +kernel
theorem kit_dict_tuple : kitB "dict" "tuple" = some false := by decide +kernel
theorem kit_dict_dict : kitB "dict" "dict" = some true := by decide +kernel
theorem kit_dict_int : kitB "dict" "int" = some false := by decide +kernel
theorem kit_dict_bool : kitB "dict" "bool" = some false := by decide +kernel
theorem kit_dict_str : kitB "dict" "str" = some false := by decide +kernel
theorem kit_int_list : kitB "int" "list" = some false := by decide +kernel
theorem kit_int_tuple : kitB "int" "tuple" = some false := by decide +kernel
theorem kit_int_dict : kitB "int" "dict" = some false := by decide +kernel
theorem kit_int_int : kitB "int" "int" = some true := by decide +kernel
theorem kit_int_bool : kitB "int" "bool" = some false := by decide +kernel
theorem kit_int_str : kitB "int" "str" = some false := by decide +kernel
theorem kit_bool_list : kitB "bool" "list" = some false := by decide +kernel
theorem kit_bool_tuple : kitB "bool" "tuple" = some false := by decide +kernel
theorem kit_bool_dict : kitB "bool" "dict" = some false := by decide +kernel
theorem kit_bool_int : kitB "bool" "int" = some true := by decide +kernel
theorem kit_bool_bool : kitB "bool" "bool" = some true := by decide +kernel
theorem kit_bool_str : kitB "bool" "str" = some false := by decide +kernel
theorem kit_str_list : kitB "str" "list" = some false := by decide +kernel
theorem kit_str_tuple : kitB "str" "tuple" = some false := by decide +kernel
theorem kit_str_dict : kitB "str" "dict" = some false := by decide +kernel
theorem kit_str_int : kitB "str" "int" = some false := by decide +kernel
theorem kit_str_bool : kitB "str" "bool" = some false := by decide +kernel
theorem kit_str_str : kitB "str" "str" = some true := by decide +kernel
section
variable {K : PySem.W.Frag} {H : Hp} {Q : VK}
theorem is_list_list {a : Addr} {xs : List V} (h : H a = some (.lst xs)) (q : Q (.bl true) H) : rIsA K [.ref a, .ty "list"] H Q := g_is (.base (.lst h)) kit_list_list q
theorem is_list_tuple {a : Addr} {xs : List V} (h : H a = some (.lst xs)) (q : Q (.bl false) H) : rIsA K [.ref a, .ty "tuple"] H Q := g_is (.base (.lst h)) kit_list_tuple q
theorem is_list_dict {a : Addr} {xs : List V} (h : H a = some (.lst xs)) (q : Q (.bl false) H) : rIsA K [.ref a, .ty "dict"] H Q := g_is (.base (.lst h)) kit_list_dict q
theorem is_list_int {a : Addr} {xs : List V} (h : H a = some (.lst xs)) (q : Q (.bl false) H) : rIsA K [.ref a, .ty "int"] H Q := g_is (.base (.lst h)) kit_list_int q
theorem is_list_bool {a : Addr} {xs : List V} (h : H a = some (.lst xs)) (q : Q (.bl false) H) : rIsA K [.ref a, .ty "bool"] H Q := g_is (.base (.lst h)) kit_list_bool q
theorem is_list_str {a : Addr} {xs : List V} (h : H a = some (.lst xs)) (q : Q (.bl false) H) : rIsA K [.ref a, .ty "str"] H Q := g_is (.base (.lst h)) kit_list_str q
theorem is2_list {a : Addr} {xs : List V} (h : H a = some (.lst xs)) {tp : Addr} (hp : H tp = some (.tup [.ty "list", .ty "tuple"])) (q : Q (.bl true) H) : rIsA K [.ref a, .ref tp] H Q := g_is2 hp (.base (.lst h)) kit_list_list kit_list_tuple q
theorem is_tuple_list {a : Addr} {xs : List V} (h : H a = some (.tup xs)) (q : Q (.bl false) H) : rIsA K [.ref a, .ty "list"] H Q := g_is (.base (.tup h)) kit_tuple_list q
theorem is_tuple_tuple {a : Addr} {xs : List V} (h : H a = some (.tup xs)) (q : Q (.bl true) H) : rIsA K [.ref a, .ty "tuple"] H Q := g_is (.base (.tup h)) kit_tuple_tuple q
theorem is_tuple_dict {a : Addr} {xs : List V} (h : H a = some (.tup xs)) (q : Q (.bl false) H) : rIsA K [.ref a, .ty "dict"] H Q := g_is (.base (.tup h)) kit_tuple_dict q
theorem is_tuple_int {a : Addr} {xs : List V} (h : H a = some (.tup xs)) (q : Q (.bl false) H) : rIsA K [.ref a, .ty "int"] H Q := g_is (.base (.tup h)) kit_tuple_int q
theorem is_tuple_bool {a : Addr} {xs : List V} (h : H a = some (.tup xs)) (q : Q (.bl false) H) : rIsA K [.ref a, .ty "bool"] H Q := g_is (.base (.tup h)) kit_tuple_bool q
theorem is_tuple_str {a : Addr} {xs : List V} (h : H a = some (.tup xs)) (q : Q (.bl false) H) : rIsA K [.ref a, .ty "str"] H Q := g_is (.base (.tup h)) kit_tuple_str q
theorem is2_tuple {a : Addr} {xs : List V} (h : H a = some (.tup xs)) {tp : Addr} (hp : H tp = some (.tup [.ty "list", .ty "tuple"])) (q : Q (.bl true) H) : rIsA K [.ref a, .ref tp] H Q := g_is2 hp (.base (.tup h)) kit_tuple_list kit_tuple_tuple q
theorem is_dict_list {a : Addr} {kvs : List (Key × V)} (h : H a = some (.dK kvs)) (q : Q (.bl false) H) : rIsA K [.ref a, .ty "list"] H Q := g_is (.base (.dK h)) kit_dict_list q
theorem is_dict_tuple {a : Addr} {kvs : List (Key × V)} (h : H a = some (.dK kvs)) (q : Q (.bl false) H) : rIsA K [.ref a, .ty "tuple"] H Q := g_is (.base (.dK h)) kit_dict_tuple q
theorem is_dict_dict {a : Addr} {kvs : List (Key × V)} (h : H a = some (.dK kvs)) (q : Q (.bl true) H) : rIsA K [.ref a, .ty "dict"] H Q := g_is (.base (.dK h)) kit_dict_dict q
theorem is_dict_int {a : Addr} {kvs : List (Key × V)} (h : H a = some (.dK kvs)) (q : Q (.bl false) H) : rIsA K [.ref a, .ty "int"] H Q := g_is (.base (.dK h)) kit_dict_int q
theorem is_dict_bool {a : Addr} {kvs : List (Key × V)} (h : H a = some (.dK kvs)) (q : Q (.bl false) H) : rIsA K [.ref a, .ty "bool"] H Q := g_is (.base (.dK h)) kit_dict_bool q
theorem is_dict_str {a : Addr} {kvs : List (Key × V)} (h : H a = some (.dK kvs)) (q : Q (.bl false) H) : rIsA K [.ref a, .ty "str"] H Q := g_is (.base (.dK h)) kit_dict_str q
theorem is2_dict {a : Addr} {kvs : List (Key × V)} (h : H a = some (.dK kvs)) {tp : Addr} (hp : H tp = some (.tup [.ty "list", .ty "tuple"])) (q : Q (.bl false) H) : rIsA K [.ref a, .ref tp] H Q := g_is2 hp (.base (.dK h)) kit_dict_list kit_dict_tuple q
theorem is_int_list {i : Int} (q : Q (.bl false) H) : rIsA K [.int i, .ty "list"] H Q := g_is (.base (.int i)) kit_int_list q
theorem is_int_tuple {i : Int} (q : Q (.bl false) H) : rIsA K [.int i, .ty "tuple"] H Q := g_is (.base (.int i)) kit_int_tuple q
theorem is_int_dict {i : Int} (q : Q (.bl false) H) : rIsA K [.int i, .ty "dict"] H Q := g_is (.base (.int i)) kit_int_dict q
theorem is_int_int {i : Int} (q : Q (.bl true) H) : rIsA K [.int i, .ty "int"] H Q := g_is (.base (.int i)) kit_int_int q
theorem is_int_bool {i : Int} (q : Q (.bl false) H) : rIsA K [.int i, .ty "bool"] H Q := g_is (.base (.int i)) kit_int_bool q
theorem is_int_str {i : Int} (q : Q (.bl false) H) : rIsA K [.int i, .ty "str"] H Q := g_is (.base (.int i)) kit_int_str q
theorem is2_int {i : Int} {tp : Addr} (hp : H tp = some (.tup [.ty "list", .ty "tuple"])) (q : Q (.bl false) H) : rIsA K [.int i, .ref tp] H Q := g_is2 hp (.base (.int i)) kit_int_list kit_int_tuple q
theorem is_bool_list {b : Bool} (q : Q (.bl false) H) : rIsA K [.bl b, .ty "list"] H Q := g_is (.base (.bl b)) kit_bool_list q
theorem is_bool_tuple {b : Bool} (q : Q (.bl false) H) : rIsA K [.bl b, .ty "tuple"] H Q := g_is (.base (.bl b)) kit_bool_tuple q
theorem is_bool_dict {b : Bool} (q : Q (.bl false) H) : rIsA K [.bl b, .ty "dict"] H Q := g_is (.base (.bl b)) kit_bool_dict q
theorem is_bool_int {b : Bool} (q : Q (.bl true) H) : rIsA K [.bl b, .ty "int"] H Q := g_is (.base (.bl b)) kit_bool_int q
theorem is_bool_bool {b : Bool} (q : Q (.bl true) H) : rIsA K [.bl b, .ty "bool"] H Q := g_is (.base (.bl b)) kit_bool_bool q
theorem is_bool_str {b : Bool} (q : Q (.bl false) H) : rIsA K [.bl b, .ty "str"] H Q := g_is (.base (.bl b)) kit_bool_str q
theorem is2_bool {b : Bool} {tp : Addr} (hp : H tp = some (.tup [.ty "list", .ty "tuple"])) (q : Q (.bl false) H) : rIsA K [.bl b, .ref tp] H Q := g_is2 hp (.base (.bl b)) kit_bool_list kit_bool_tuple q
theorem is_str_list {z : Str} (q : Q (.bl false) H) : rIsA K [.str z, .ty "list"] H Q := g_is (.base (.str z)) kit_str_list q
theorem is_str_tuple {z : Str} (q : Q (.bl false) H) : rIsA K [.str z, .ty "tuple"] H Q := g_is (.base (.str z)) kit_str_tuple q
theorem is_str_dict {z : Str} (q : Q (.bl false) H) : rIsA K [.str z, .ty "dict"] H Q := g_is (.base (.str z)) kit_str_dict q
theorem is_str_int {z : Str} (q : Q (.bl false) H) : rIsA K [.str z, .ty "int"] H Q := g_is (.base (.str z)) kit_str_int q
theorem is_str_bool {z : Str} (q : Q (.bl false) H) : rIsA K [.str z, .ty "bool"] H Q := g_is (.base (.str z)) kit_str_bool q
theorem is_str_str {z : Str} (q : Q (.bl true) H) : rIsA K [.str z, .ty "str"] H Q := g_is (.base (.str z)) kit_str_str q
theorem is2_str {z : Str} {tp : Addr} (hp : H tp = some (.tup [.ty "list", .ty "tuple"])) (q : Q (.bl false) H) : rIsA K [.str z, .ref tp] H Q := g_is2 hp (.base (.str z)) kit_str_list kit_str_tuple q
end
section
variable {K : PySem.W.Frag} {σ : L2.St} {F : Hp} {O O' : Own} {H : Hp} {Q : VK} {x y v : V}
theorem g_neB {i j : Bool} (q : Q (.bl (!decide (i = j))) H) : rNeA K (.bl i) (.bl j) H Q := .inl ⟨rfl, by rw [dec_bl, Bool.beq_eq_decide_eq]; exact q⟩
theorem g_eqB {i j : Bool} (q : Q (.bl (decide (i = j))) H) : rEqA K (.bl i) (.bl j) H Q := .inl ⟨rfl, by rw [dec_bl, Bool.beq_eq_decide_eq]; exact q⟩
/-! ### insert, max, the last item -/
def rInsert : V → List V → Hp → VK → Prop := fun x vs H Q => ∃ (l : Addr) (xs : List V) (i : Int) (y : V), x = .ref l ∧ vs = [.int i, y] ∧ H l = some (.lst xs) ∧ xs.length < sizeLine ∧ 0 ≤ i ∧ i < 2 ^ 63 ∧ Q .non (upd H l (.lst (xs.take i.toNat ++ [y] ++ xs.drop i.toNat)))
theorem mt_insertA {X : Cx} : MtR X "list.insert" rInsert := mt_insert
theorem g_insert {a : Addr} {xs : List V} {i : Int} (hH : Has F O H) (c : Chg O a (.lst xs) (.lst (xs.take i.toNat ++ [y] ++ xs.drop i.toNat)) O') (hl : xs.length < sizeLine) (h0 : 0 ≤ i) (h1 : i < 2 ^ 63) (q : ∀ H', Has F O' H' → Q .non H') : rInsert (.ref a) [.int i, y] H Q :=
  ⟨a, xs, i, y, rfl, rfl, hH.get c.mem, hl, h0, h1, q _ (hH.put c)⟩
theorem cr_maxK {X : Cx} (K : PySem.W.Frag) (hc : X.calm = true) (e : X.K = K := by rfl) : CallR X (.builtin "max") (rMax K) := by subst e; exact cr_max hc
theorem g_max {a : Addr} {ns : List Int} (h : H a = some (.lst (ns.map V.int))) (hl : 0 < ns.length) (q : ∀ m, m ∈ ns → (∀ y, y ∈ ns → y ≤ m) → Q (.int m) H) : rMax K [.ref a] H Q := ⟨a, ns, rfl, SqL.of h, hl, q⟩
theorem g_ixLast {a : Addr} {xs : List V} {v : V} (h : H a = some (.lst xs)) (hl : xs.getLast? = some v) (q : Q v H) : rIxA K (.ref a) (.int (-1)) H Q := by
  obtain ⟨ys, rfl⟩ := List.getLast?_eq_some_iff.mp hl
  exact g_ixL h (atI_last ys v) q
end
theorem cutV_nat (xs : List V) (a b : Nat) : cutV xs (some (a : Int)) (some (b : Int)) = (xs.drop a).take (b - a) := by
  unfold cutV
  rw [HT.sIx_nat, HT.sIx_nat]
  by_cases h : a ≤ xs.length
  · rw [Nat.min_eq_left h]
    rcases Nat.le_total b xs.length with hb | hb
    · rw [Nat.min_eq_left hb]
    · rw [Nat.min_eq_right hb, List.take_of_length_le (by rw [List.length_drop]; omega), List.take_of_length_le (by rw [List.length_drop]; omega)]
  · rw [Nat.min_eq_right (show xs.length ≤ a by omega), List.drop_of_length_le (Nat.le_refl _), List.drop_of_length_le (show xs.length ≤ a by omega), List.take_nil, List.take_nil]
theorem cutV_from (xs : List V) (a : Nat) : cutV xs (some (a : Int)) none = xs.drop a := by
  unfold cutV
  rw [HT.sIx_nat, HT.sIx_none]
  by_cases h : a ≤ xs.length
  · rw [Nat.min_eq_left h, List.take_of_length_le (by rw [List.length_drop]; omega)]
  · rw [Nat.min_eq_right (show xs.length ≤ a by omega), List.drop_of_length_le (Nat.le_refl _), List.drop_of_length_le (show xs.length ≤ a by omega), List.take_nil]
theorem cutV_to (xs : List V) (b : Nat) : cutV xs none (some (b : Int)) = xs.take b := by
  unfold cutV
  rw [HT.sIx_none, HT.sIx_nat, List.drop_zero, Nat.sub_zero]
  rcases Nat.le_total b xs.length with hb | hb
  · rw [Nat.min_eq_left hb]
  · rw [Nat.min_eq_right hb, List.take_length, List.take_of_length_le hb]
/-! ### a def that adds to what stands still -/
def Grow (F H F' : Hp) : Prop := Same F F' ∧ ∀ b, H b ≠ none → F' b = F b
theorem Has.grown {F F' H H' : Hp} {O O' : Own} {a : Addr} {o o' : HO} (h : Has F O H) (c : Chg O a o o' O') (hb : But a H H') (g : Grow F H F') (s : Same F' H') (e : H' a = some o') : Has F' O' H' := by
  have h' := h.but c hb e
  refine ⟨s, fun q hq => ⟨?_, (h'.own q hq).2⟩, h'.nd⟩
  rcases c.own h.nd q hq with rfl | ⟨m, _⟩
  · rw [g.2 a (by rw [h.get c.mem]; exact fun z => by cases z)]
    exact (h.own _ c.mem).1
  · rw [g.2 q.1 (by rw [(h.own q m).2]; exact fun z => by cases z)]
    exact (h.own q m).1

section
variable {K : PySem.W.Frag} {H : Hp} {Q : VK}
theorem g_ixVT {a : Addr} {xs : List V} {i : Int} (h : H a = some (.tup xs)) (h0 : 0 ≤ i) (hl : i < xs.length) (q : ∀ v, xs[i.toNat]? = some v → Q v H) : rIxA K (.ref a) (.int i) H Q := by
  have e : i.toNat < xs.length := by omega
  exact g_ixT h (at_n h0 (List.getElem?_eq_getElem e)) (q _ (List.getElem?_eq_getElem e))
theorem is2_non {tp : Addr} (hp : H tp = some (.tup [.ty "list", .ty "tuple"])) (q : Q (.bl false) H) : rIsA K [.non, .ref tp] H Q := g_is2 hp (.base .non) (by decide +kernel : kitB "NoneType" "list" = some false) (by decide +kernel : kitB "NoneType" "tuple" = some false) q
end

theorem i_nf {A B : Prop} (h : A) : if (!false) = true then A else B := by
  show (if true = true then A else B)
  rw [if_pos rfl]
  exact h
theorem i_nt {A B : Prop} (h : B) : if (!true) = true then A else B := by
  show (if false = true then A else B)
  rw [if_neg Bool.false_ne_true]
  exact h

/-- ways that meet: what holds where they meet -/
theorem g_join {t : TS} {D : Ends} {σ : L2.St} {H : Hp} (M : L2.St → Hp → Prop) (h : ∀ σ' H', M σ' H' → D.nx σ' H') (q : (∀ σ' H', M σ' H' → D.nx σ' H') → t D σ H) : t D σ H := q h

/-! ### all that is not owned stands still from now on -/
def rmO (O : Own) (H : Hp) : Hp := fun b => if b ∈ O.map (·.1) then none else H b
section
variable {F H : Hp} {O : Own}
theorem Has.re (h : Has F O H) : Has (rmO O H) O H := by
  refine ⟨fun b u e => ?_, fun p hp => ⟨if_pos (List.mem_map.mpr ⟨p, hp, rfl⟩), (h.own p hp).2⟩, h.nd⟩
  unfold rmO at e
  split at e
  · cases e
  · exact e
theorem Has.reF (h : Has F O H) : Same F (rmO O H) := fun b u e => by
  unfold rmO
  rw [if_neg]
  · exact h.same b u e
  · intro m
    obtain ⟨p, hp, rfl⟩ := List.mem_map.mp m
    rw [(h.own p hp).1] at e
    cases e
theorem Has.re_of (h : Has F O H) {b : Addr} {u : HO} (e : H b = some u) (ne : ∀ p ∈ O, p.2 ≠ u) : rmO O H b = some u := by
  unfold rmO
  rw [if_neg]
  · exact e
  · intro m
    obtain ⟨p, hp, rfl⟩ := List.mem_map.mp m
    rw [(h.own p hp).2] at e
    exact ne p hp (Option.some.inj e)
end

section
variable {K : PySem.W.Frag} {σ : L2.St} {F : Hp} {O O' : Own} {H : Hp} {Q : VK} {x y v : V} {ta te : TE}
theorem g_ixDI {a : Addr} {kvs : List (Key × V)} {i : Int} (h : H a = some (.dK kvs)) (hv : valV kvs (.inl i) = some v) (q : Q v H) : rIxA K (.ref a) (.int i) H Q := .inr ⟨a, v, rfl, hv ▸ DGet.k (k := .inl i) h, q⟩
theorem g_ixDS {a : Addr} {kvs : List (Key × V)} {i : Str} (h : H a = some (.dK kvs)) (hv : valV kvs (.inr i) = some v) (q : Q v H) : rIxA K (.ref a) (.str i) H Q := .inr ⟨a, v, rfl, hv ▸ DGet.k (k := .inr i) h, q⟩
/-! ### [*xs, y]; if xs:; dict(pairs) -/
def kStar (K : PySem.W.Frag) (t : TA) (σ : L2.St) (x : V) (H : Hp) (Q : List V → Hp → Prop) : Prop := ∃ p xs, x = V.ref p ∧ (SqT K H p xs ∨ SqL K H p xs) ∧ t σ H fun ys H2 => Q (xs ++ ys) H2
theorem g_star {t : TA} {QA : List V → Hp → Prop} (q : te σ H fun x H1 => kStar K t σ x H1 QA) : StX.tStar K te t σ H QA := q
theorem g_kstarL {t : TA} {QA : List V → Hp → Prop} {a : Addr} {xs : List V} (h : H a = some (.lst xs)) (q : t σ H fun ys H2 => QA (xs ++ ys) H2) : kStar K t σ (.ref a) H QA := ⟨a, xs, rfl, .inr (SqL.of h), q⟩
theorem g_kstarT {t : TA} {QA : List V → Hp → Prop} {a : Addr} {xs : List V} (h : H a = some (.tup xs)) (q : t σ H fun ys H2 => QA (xs ++ ys) H2) : kStar K t σ (.ref a) H QA := ⟨a, xs, rfl, .inl (SqT.of h), q⟩
theorem k_star {X : Cx} {es : List Expr} {t : TA} {ex : Expr} {p : Pos} (K : PySem.W.Frag) (h : PA X (.Starred ex p :: es) (StX.tStar X.K te t)) (e : X.K = K := by rfl) : PA X (.Starred ex p :: es) (StX.tStar K te t) := by subst e; exact h
def kTru (K : PySem.W.Frag) (x : V) (H : Hp) (R : Bool → Hp → Prop) : Prop := ∃ k, TruV K x H k ∧ R k H
def tTru (K : PySem.W.Frag) (te : TE) : TT := fun σ H R => te σ H fun x H1 => kTru K x H1 R
theorem pt_tru {X : Cx} {a : Expr} (K : PySem.W.Frag) (ha : PE X a ta) (he : ∀ whole, isTrue a X.env whole = (do let v ← whole; standAt a.pos; holding [v] (truthy v)) := by intro _; rfl) (e : X.K = K := by rfl) : PT X a (tTru K ta) := by subst e; exact pt_truth ha he
theorem g_tru {R : Bool → Hp → Prop} (q : te σ H fun x H1 => kTru K x H1 R) : tTru K te σ H R := q
theorem g_truL {R : Bool → Hp → Prop} {a : Addr} {xs : List V} (h : H a = some (.lst xs)) (q : R (!xs.isEmpty) H) : kTru K (.ref a) H R := ⟨_, .inl ⟨xs, SqL.of h, rfl⟩, q⟩
def rDictP (K : PySem.W.Frag) : List V → Hp → VK → Prop := fun xs H Q => ∃ (a : Addr) (ps : List Addr) (kvs : List (Key × V)), xs = [.ref a] ∧ SqL K H a (ps.map V.ref) ∧ Paired (fun p kv => SqT K H p [kV kv.1, kv.2]) ps kvs ∧ ∀ p, H p = none → Q (.ref p) (upd H p (.dK (mergeK [] kvs)))
theorem cr_dictP {X : Cx} (K : PySem.W.Frag) (hc : X.calm = true) (e : X.K = K := by rfl) : CallR X (.type "dict") (rDictP K) := by subst e; exact call_dictP hc
theorem g_dictP {a : Addr} {ps : List Addr} {kvs : List (Key × V)} (h : H a = some (.lst (ps.map V.ref))) (hp : Paired (fun p kv => SqT K H p [kV kv.1, kv.2]) ps kvs) (hH : Has F O H) (q : ∀ p H', H p = none → Has F ((p, .dK (mergeK [] kvs)) :: O) H' → Q (.ref p) H') : rDictP K [.ref a] H Q :=
  ⟨a, ps, kvs, rfl, SqL.of h, hp, fun p n => q p _ n (hH.new n)⟩
end
/-! ### data without lists; tuples of ints; pairs to a dict -/
mutual
def noL : PyData → Bool
  | .list _ => false
  | .dict _ => false
  | .tuple ds => noLs ds
  | _ => true
def noLs : List PyData → Bool
  | [] => true
  | d :: ds => noL d && noLs ds
end
theorem noLs_mem : ∀ {ds : List PyData}, (∀ d ∈ ds, noL d = true) → noLs ds = true
  | [], _ => by rw [noLs]
  | d :: ds, h => by
    rw [noLs, h d List.mem_cons_self, noLs_mem fun x hx => h x (List.mem_cons_of_mem _ hx)]
    rfl
mutual
theorem Dq.keep {H H' : Hp} (e : ∀ b xs, H b = some (.tup xs) → H' b = some (.tup xs)) : ∀ (d : PyData) (v : V), noL d = true → Dq H v d → Dq H' v d
  | _, _, _, .non => .non
  | _, _, _, .bl b => .bl b
  | _, _, _, .int i => .int i
  | _, _, _, .str x => .str x
  | .list ds, _, n, .lst s a => by rw [noL] at n; cases n
  | .tuple ds, _, n, .tup s a => .tup (e _ _ s) (DqAll.keep e ds _ (by rw [noL] at n; exact n) a)
theorem DqAll.keep {H H' : Hp} (e : ∀ b xs, H b = some (.tup xs) → H' b = some (.tup xs)) : ∀ (ds : List PyData) (vs : List V), noLs ds = true → DqAll H vs ds → DqAll H' vs ds
  | _, _, _, .nil => .nil
  | d :: ds, _, n, .cons h t => by
    rw [noLs, Bool.and_eq_true] at n
    exact .cons (Dq.keep e d _ n.1 h) (DqAll.keep e ds _ n.2 t)
end
theorem Has.keep {F H : Hp} {O : Own} (h : Has F O H) (ho : ∀ p ∈ O, ∀ xs, p.2 ≠ .tup xs) {ds : List PyData} {vs : List V} (n : ∀ d ∈ ds, noL d = true) (d : DqAll H vs ds) : DqAll (rmO O H) vs ds :=
  d.keep (fun _ _ e => h.re_of e fun p hp => ho p hp _) _ _ (noLs_mem n)
theorem eqv_tints (xs ys : List Int) : PyData.eqv (.tuple (xs.map PyData.int)) (.tuple (ys.map PyData.int)) = decide (xs = ys) := by
  rw [PyData.eqv, eqvAll_ints]
theorem eqv_tstrs (xs ys : List Str) : PyData.eqv (.tuple (xs.map PyData.str)) (.tuple (ys.map PyData.str)) = decide (xs = ys) := by
  rw [PyData.eqv, eqvAll_strs]
theorem ixN_last (n : Nat) : ixN (n + 1) (-1) = some n := by
  unfold ixN
  rw [if_neg (by decide), if_pos (by omega)]
  congr 1
  omega
theorem valV_merge (i : Key) : ∀ (kvs acc : List (Key × V)), valV (mergeK acc kvs) i = (valV kvs.reverse i).or (valV acc i)
  | [], acc => by simp [mergeK, valV]
  | p :: r, acc => by
    show valV (mergeK (putK acc p.1 p.2) r) i = _
    rw [valV_merge i r, valV_put, List.reverse_cons]
    unfold valV
    rw [List.find?_append]
    cases h : r.reverse.find? fun kv => decide (kv.1 = i) with
    | some x => simp
    | none =>
      by_cases e : p.1 = i
      · simp [List.find?_cons, e]
      · rw [if_neg (fun z => e z.symm)]; simp [List.find?_cons, e]
def kLcR2 (g : TG) (tt : TT) (te : TE) (ws : List Nat) (σ : L2.St) (vs : List V) (H : Hp) (Q : VK) : Prop := ∃ i j : Int, vs = [.int i, .int j] ∧ (-(2 ^ 62) ≤ i ∧ i < 2 ^ 62 ∧ -(2 ^ 62) ≤ j ∧ j < 2 ^ 62) ∧ kLc (Itr i (j - i).toNat) g tt te ws σ H Q
section
variable {K : PySem.W.Frag} {σ : L2.St} {F : Hp} {O O' : Own} {H : Hp} {Q : VK} {x y v : V} {ta te : TE} {g : TG}
theorem g_lcR2 {ta : TA} {tt : TT} {vs : List Nat} (q : ta σ H fun xs H1 => kLcR2 g tt te vs σ xs H1 Q) : tLc (iRng2 ta) g tt te vs σ H Q := q
theorem k_lcR2 {lo j : Int} {tt : TT} {vs : List Nat} (h0 : -(2 ^ 62) ≤ lo ∧ lo < 2 ^ 62 ∧ -(2 ^ 62) ≤ j ∧ j < 2 ^ 62) (hH : Has F O H) (S : Nat → List V → Hp → Own → Prop) (h0 : S 0 [] F O)
    (hs : ∀ i acc F O D H, i < (j - lo).toNat → S i acc F O → Has F ((D, .lst acc) :: O) H → g (.int (lo + (i : Nat))) (wipe σ vs) H fun σ2 H2 => wipe σ2 vs = wipe σ vs ∧ tt σ2 H2 fun b H3 => if b = true then te σ2 H3 fun y H4 => kTurn D (kNx S i D) y H4 else kNx S i D H3)
    (hd : ∀ acc F O D H, S (j - lo).toNat acc F O → Has F ((D, .lst acc) :: O) H → Q (.ref D) H) : kLcR2 g tt te vs σ [.int lo, .int j] H Q := by
  refine ⟨lo, j, rfl, by assumption, k_lc hH (j - lo).toNat S h0 (fun i acc F O D H hi s hh => hi) (fun acc F O D H s hh => Nat.le_refl _) (fun i x acc F O D H H' hi y s hh => ?_) hd⟩
  obtain ⟨e, y⟩ := y
  subst e y
  exact hs i acc F O D _ hi s hh
theorem g_truT {R : Bool → Hp → Prop} {a : Addr} {xs : List V} (h : H a = some (.tup xs)) (q : R (!xs.isEmpty) H) : kTru K (.ref a) H R := ⟨_, .inr (.inl ⟨xs, SqT.of h, rfl⟩), q⟩
end
/-! ### list.extend by a list, by a tuple -/
theorem ext_tup (l : Addr) (items : Array Value) (n : Nat) (b : Addr) (items2 : Array Value) (n2 : Nat) (d0 : Option Addr) (sl : Array (Option Value)) (hs0 : ¬(!items.isEmpty && Builtin.List.listTooLong (items.size + items2.size)) = true) (hs1 : items.size ≤ sizeLine) (hs2 : items.size + items2.size ≤ sizeLine + 1) :
    Meets (Builtin.«list.extend» ⟨[.ref l, .ref b], []⟩) (fun _ R s => s.heap.get? l = some { cls := .type "list", dict := none, data := .seq items n, slots := #[] } ∧ s.heap.get? b = some { cls := .type "tuple", dict := d0, data := .seq items2 n2, slots := sl } ∧ R (.ok (.ret Value.none)) { s with heap := s.heap.update l (Obj.mapSeq fun x => x ++ items2), toks := s.toks }) :=
  .of_wp fun prog w A R s h => by
    obtain ⟨hp, g, d, tk, os⟩ := s
    obtain ⟨hl, hb, h⟩ := h
    have f1 := PySem.AutoSeq1.sub_tuple_tuple
    have f2 := PySem.AutoSeq1.sub_list_list
    have f3 := PySem.AutoSeq1.sub_tuple_list
    have f4 := PySem.AutoSeq1.sub_list_tuple
    have hz' : (items ++ items2).size ≤ sizeLine + 1 := by rw [Array.size_append]; exact hs2
    wp_walk using (wpAny_updateSeq hl rfl (hz := hs1) (_hz' := hz')), PySem.AutoSeq1.wpAny_loadPart' hl, PySem.AutoSeq1.wpAny_loadPart' hb
    exact ⟨_, rfl, h⟩
section
variable {X : Cx}
def rExtendT (K : PySem.W.Frag) : V → List V → Hp → VK → Prop := fun x vs H Q => ∃ l b xs zs, x = .ref l ∧ vs = [.ref b] ∧ H l = some (.lst xs) ∧ SqT K H b zs ∧ xs.length + zs.length ≤ sizeLine ∧ Q .non (upd H l (.lst (xs ++ zs)))
theorem mt_extendT : MtM X "list.extend" (rExtendT X.K) := by
  intro pins s σ H x vs v us Q I rx rv h
  obtain ⟨l, b, xs, zs, rfl, rfl, hH, hB, hz, q⟩ := h
  cases rx
  obtain ⟨u, rfl, ru⟩ := rv.one
  cases ru
  obtain ⟨z, its, n, r, hl, e⟩ := I.lstM hH
  obtain ⟨its2, r2, ⟨⟨cl, dc, da, so⟩, e2, hc, n2, hd⟩, z2⟩ := I.tuple hB
  have hc : cl = .type "tuple" := hc
  have hd : da = .seq its2.toArray n2 := hd
  subst hc hd
  have hl2 := r2.length
  have hsz : its.toArray.size + its2.toArray.size ≤ sizeLine := by rw [List.size_toArray, List.size_toArray]; omega
  have hlong : ¬ (!its.toArray.isEmpty && Builtin.List.listTooLong (its.toArray.size + its2.toArray.size)) = true := by
    rw [notLongL hsz, Bool.and_false]
    exact Bool.false_ne_true
  refine call_meets F.slot_list_extend ⟨_, e, rfl⟩ F.entry_list_extend (F.args_list_extend_2 _ _) (ext_tup l its.toArray n b its2.toArray n2 dc so hlong (by rw [List.size_toArray]; omega) (by omega)) ⟨e, e2, ?_⟩
  refine ⟨.non, _, I.lset (its' := its ++ its2) hH e (by simp) (r.append r2) ?_, rfl, q⟩
  rw [List.length_append]
  omega
def rExtendA (K : PySem.W.Frag) : V → List V → Hp → VK → Prop := fun x vs H Q => rExtend x vs H Q ∨ rExtendT K x vs H Q
theorem mt_extendA (K : PySem.W.Frag) (e : X.K = K := by rfl) : MtR X "list.extend" (rExtendA K) := by
  subst e
  intro pins s σ H x vs v us Q I rx rv h
  rcases h with h | h
  · exact mt_extend pins s σ H x vs v us Q I rx rv h
  · exact mt_extendT pins s σ H x vs v us Q I rx rv h
end
section
variable {K : PySem.W.Frag} {F : Hp} {O O' : Own} {H : Hp} {Q : VK}
theorem g_extL {a b : Addr} {xs zs : List V} (hH : Has F O H) (hb : H b = some (.lst zs)) (c : Chg O a (.lst xs) (.lst (xs ++ zs)) O') (hl : xs.length + zs.length ≤ sizeLine) (q : ∀ H', Has F O' H' → Q .non H') : rExtendA K (.ref a) [.ref b] H Q :=
  .inl ⟨a, b, xs, zs, rfl, rfl, hH.get c.mem, hb, hl, q _ (hH.put c)⟩
theorem g_extT {a b : Addr} {xs zs : List V} (hH : Has F O H) (hb : H b = some (.tup zs)) (c : Chg O a (.lst xs) (.lst (xs ++ zs)) O') (hl : xs.length + zs.length ≤ sizeLine) (q : ∀ H', Has F O' H' → Q .non H') : rExtendA K (.ref a) [.ref b] H Q :=
  .inr ⟨a, b, xs, zs, rfl, rfl, hH.get c.mem, SqT.of hb, hl, q _ (hH.put c)⟩
end
theorem Has.made2 {F H H' : Hp} {O : Own} {p l : Addr} {o u : HO} (h : Has F O H) (np : H p = none) (nl : H l = none) (s : Same H H') (ep : H' p = some o) (el : H' l = some u) (ne : p ≠ l) : Has F ((p, o) :: (l, u) :: O) H' := by
  have h1 := h.made nl s el
  refine ⟨h1.same, fun q hq => ?_, ?_⟩
  · rcases List.mem_cons.mp hq with rfl | hq
    · exact ⟨h.same.free np, ep⟩
    · exact h1.own q hq
  · rw [List.map_cons]
    refine List.nodup_cons.mpr ⟨fun m => ?_, h1.nd⟩
    obtain ⟨q, hq, e⟩ := List.mem_map.mp m
    rcases List.mem_cons.mp hq with rfl | hq
    · exact ne e.symm
    · have := (h.own q hq).2
      rw [e, np] at this
      cases this
end Qk

namespace Qk
open PySem PySem.Spec PyProof.Rows L2

/-! ### defs that raise -/
section
variable {P : Program} {w : World} {K : PySem.W.Frag} {mg : Str → Option Value} {base : Heap}
theorem Fun.okN {x qual : Str} {st : Stmt} {f : Addr} {fd : FuncData} {N ps : List Str} {k : Nat} {sp : Sp} (F : Fun K x qual st f fd) (S : FnScope N ps (defScope st)) (len : ∀ vs H Q E, sp vs H Q E → vs.length = ps.length)
    (hbody : ∀ (cdv : Value) (A : Around) (outer : List Env) (s : Shared) (H : Hp) (vs : List V) (Q : VK) (E : XK), Room k (A.deeper (envOfC qual (defScope st) s.heap.objs.size f cdv)) → sp vs H Q E →
      ∃ t, PSs (cxOf (L2N.CX P w) P w K mg base N qual (defScope st) f cdv A outer s H E) (defBody st) t ∧ t { nx := fun _ H' => Q .non H', rt := Q } (start N vs) H) : FnOk P w K mg base (L2N.CX P w) (k + 1) f fd ps sp := by
  obtain ⟨oc, od, kV, doc, pm, an, cdv, ct, osl, rfl, lk, hcd⟩ := F.ex
  exact fn_of lk hcd S len fun A outer s H vs Q E hr hsp => hbody cdv A outer s H vs Q E hr hsp
/-- a def that is called in a suite -/
theorem Fun.okH {x qual : Str} {st : Stmt} {f : Addr} {fd : FuncData} {N ps : List Str} {k : Nat} {sp : Sp} (F : Fun K x qual st f fd) (S : FnScope N ps (defScope st)) (len : ∀ vs H Q E, sp vs H Q E → vs.length = ps.length)
    (hbody : ∀ (cdv : Value) (A : Around) (outer : List Env) (s : Shared) (H : Hp) (vs : List V) (Q : VK) (E : XK) (p : Addr × Obj), L2H.Hot1 A p → L2H.RoomH k (A.deeper (envOfC qual (defScope st) s.heap.objs.size f cdv)) → sp vs H Q E →
      ∃ t, PSs (L2H.cxH CX0 P w K mg base N qual (defScope st) f cdv A outer s H E p) (defBody st) t ∧ t { nx := fun _ H' => Q .non H', rt := Q } (start N vs) H) : L2H.FnH P w K mg base CX0 (k + 1) f fd ps sp := by
  obtain ⟨oc, od, kV, doc, pm, an, cdv, ct, osl, rfl, lk, hcd⟩ := F.ex
  exact L2H.fn_ofH lk hcd S len fun A outer s H vs Q E p hot hr hsp => hbody cdv A outer s H vs Q E p hot hr hsp
end
theorem passN {X : Cx} : Passes (L2N.CX X.prog X.w) X E0 := fun _ _ _ _ _ _ _ h => by
  obtain ⟨_, _, _, _, _, _, _, _, _, _, _, _, z⟩ := h
  exact z.elim
theorem takesN {X : Cx} : L2N.Takes X (fun _ _ _ _ => False) := fun _ _ x => by
  obtain ⟨_, _, _, _, _, _, _, _, _, _, _, _, _, _, _, _, z⟩ := x
  exact z.elim

theorem _root_.L2H.RoomH.units {k : Nat} {A : Around} (r : L2H.RoomH k A) : A.units + 64 < cLine := by
  have := r.un
  omega
theorem roomS {k j : Nat} {A : Around} {h : Option Value} (r : Room k A) (e : j ≤ k) : L2H.RoomH j (A.mark h) := by
  have h1 := r.dp
  have h2 := r.un
  exact ⟨by show A.depth + 3 * j + 5 < _; omega, by show A.units + 16 * j + 200 < _; omega⟩
theorem huH {k : Nat} {A : Around} (r : L2H.RoomH k A) : A.units + 1 < cLine := by
  have := r.un
  omega
theorem u65H {k : Nat} {A : Around} (r : L2H.RoomH k A) : A.units + 65 < cLine := by
  have := r.un
  omega
/-- ways that meet in one heap fact: refine' g_merge (F := F) (O := O) (R := _) ?a ?b -/
theorem g_merge {F : Hp} {O : Own} {G : Prop} {R : Hp → Prop} (h1 : (∀ H', Has F O H' → R H') → G) (h2 : ∀ H', Has F O H' → R H') : G := h1 h2
theorem g_merge2 {α : Type} {G : Prop} {R : α → Hp → Prop} (P : α → Hp → Prop) (h1 : (∀ x H', P x H' → R x H') → G) (h2 : ∀ x H', P x H' → R x H') : G := h1 h2
theorem g_mergeP {F : Hp} {O : Own} {P G : Prop} {R : Hp → Prop} (h1 : (∀ H', Has F O H' → P → R H') → G) (h2 : ∀ H', Has F O H' → P → R H') : G := h1 h2
/-- a constant of the program's text -/
theorem pe_gc {X : Cx} {x : Str} {pos : Pos} {v : V} (hg : Gl X x) (h : ∃ u, X.mg x = some u ∧ RelV v u) (hd : (x == ("__debug__" : Str)) = false := by decide) : PE X (.Name x pos) (tC v) := by
  obtain ⟨u, hm, r⟩ := h
  exact pe_glob hg hm r hd
/-! ### raise C(e, ..) -/
section
variable {X : Cx} {pins : List (Addr × Obj)} {σ : L2.St} {H : Hp} {hp : Heap} {g : Array GenState} {dr : Drawn} {tk : Nat} {os : OsState} {C : Addr}
/-- the tuple of the arguments and the bare exception laid behind the heap -/
abbrev barePut (hp : Heap) (C : Addr) (us : List Value) : Heap := (hp.push (PySem.W.kdv_tup us)).push (PySem.HandSPX.excO C hp.objs.size)
theorem barePut_keeps {us : List Value} (b : Addr) (o : Obj) (e : hp.get? b = some o) : (barePut hp C us).get? b = some o := Heap.get?_push_of_some _ (Heap.get?_push_of_some _ e)
theorem barePut_inv (I : Inv X pins σ H ⟨hp, g, dr, tk, os⟩) (us : List Value) : Inv X pins σ (upd H (hp.objs.size + 1) (exo (hp.objs.size + 1) C none)) ⟨barePut hp C us, g, dr, tk, os⟩ := by
  refine I.laid (t' := tk) barePut_keeps (Nat.le_succ _) (exo_ok (t1 := hp.objs.size) ?_)
  unfold barePut
  heap_get
/-- what an __init__ leaves, as an exception in hand -/
theorem in_hand {H2 : Hp} {Q : XK} {us : List Value} {s' : Shared} {d : Addr} {fs : List (Str × V)} (T : OexC X.K C) (I : Inv X pins σ H ⟨hp, g, dr, tk, os⟩) (un : Un (frs X.stack) [] (upd H (hp.objs.size + 1) (exo (hp.objs.size + 1) C none)) H2 (barePut hp C us) s'.heap)
    (ok : HOk X.prog X.w H2 s'.heap) (eo : s'.os = os) (bare : AllBare s'.gens) (ea : H2 (hp.objs.size + 1) = some (exo (hp.objs.size + 1) C (some d))) (ed : H2 d = some (exd d fs)) (nd : H d = none)
    (q : Q (.ref C) (some d) (upd (del H2 (hp.objs.size + 1)) d (.xd fs))) : L2N.MkP X pins σ Q (.ref (hp.objs.size + 1)) s' := by
  obtain ⟨h2, g2, d2, t2, o2⟩ := s'
  obtain ⟨tt, G, J, kG, gone, there, free⟩ := mk_end0 (t2 := t2) (d2 := d2) I (Nat.le_succ _) barePut_keeps un ok eo bare ea ed nd
  have zn : L2N.Zn (.ref C) (some d) ({ cls := .ref C, dict := some d, data := .fields #[.ref tt, .none, .none, .none, .bool false, .none] } : Obj) := ⟨rfl, rfl, fun vs hv => by cases hv; rfl⟩
  exact ⟨_, _, _, ⟨G, g2, d2, t2, o2⟩, _, _, some d, rfl, J, kG, gone, there, zn, rfl, rfl, free, rfl, bare, raises_own T.exC T.tyC, q⟩
end
theorem pmk_oexN {X : Cx} {e : Expr} {es : List Expr} {ta : TA} {p pos : Pos} {CX : CXT} {x : Str} {C fI : Addr} {k : Nat} {fd : FuncData} {ps : List Str} {sp : Sp} (T : OexC X.K C) (iC : PySem.W.findIn X.K (.ref C) "__init__" = some (some (.ref fI))) (tI : PySem.W.typeIn X.K (.ref fI) = some (.type "function"))
    (Fi : FnOk X.prog X.w X.K X.mg X.base CX k fI fd ps sp) (room : Room (k + 1) X.A) (binds : Binds X.K fd ps []) (pass : Passes CX X (fun _ _ _ => False)) (gl : Gl X x) (gm : X.mg x = some (.ref C)) (args : PA X (e :: es) ta)
    (dbg : (x == ("__debug__" : Str)) = false := by decide) (star : starEach (e :: es) X.env = (false, eval e X.env) :: starEach es X.env := by rfl) (plain : (backTo pos (starEach es X.env)).any (·.1) = false := by rfl) :
    L2N.PMk X (.Call (.Name x p) (e :: es) [] pos) (tMkO C sp [] ta) := fun pins s σ H Q I h => by
  obtain ⟨_, _, _, _, bm, _, _, _, _, _, _, _, _, _, _, cl, rf⟩ := T.cls
  refine wpAny_Call_Name_kw (ld_glob I gl gm (PySem.W.callWith_K (h₀ := X.base) I.ok.mod.kin T.kC (thn (args.run pos pins s σ H _ I h) fun us s1 hs => ?_) star plain) dbg)
  obtain ⟨vs, H1, J, rel, few, spq⟩ := hs
  refine ⟨J.kIn, ?_⟩
  obtain ⟨hp, g, dr, tk, os⟩ := s1
  have J2 := barePut_inv (C := C) J us
  have start := spq (hp.objs.size + 1) (J.hok.fresh (Nat.le_succ _))
  rw [List.append_nil] at start
  have vals : Vals (V.ref (hp.objs.size + 1) :: vs) (Value.ref (hp.objs.size + 1) :: us) := .cons rfl rel
  have many : (Value.ref (hp.objs.size + 1) :: us).length = ps.length := vals.length.symm.trans (Fi.len _ _ _ _ start)
  have bd := binds _ (Value.ref (hp.objs.size + 1) :: us) J2.kIn (by rw [List.append_nil]; exact many)
  rw [List.append_nil] at bd
  have room2 : us.length ≤ sizeLine := sz (by have := Paired.length rel; omega)
  have run := Fi.run _ X.stack _ _ ⟨Value.ref (hp.objs.size + 1) :: us, []⟩ (Value.ref (hp.objs.size + 1) :: us) _ _ (fun _ _ _ => False) (room.make C us []) (J2.env0.make C us []) bd vals start
  show wpAny (model X.prog X.w) X.A (call (.ref C) us) _ _ _
  refine wpAny_call (PySem.HandSPX.call_own F.excBase_ValueError (fun Y => PySem.HandSPX.refsVE_contains Y bm rf) (J.kIn _ _ cl) (PySem.W.looks_findIn J.kIn iC) (fun self => PySem.W.bind_fn J.kIn self tI) room2 (codeAny_mono run fun r s' end_ => ?_))
  match r, end_ with
  | .error er, end_ => exact pass pins σ _ _ er s' J2 end_
  | .ok (.ret u), ⟨v, H2, eo, bare, un, ok, ru, ev, d, fs, ea, ed, nd, q⟩ =>
    subst ev
    exact ⟨ru, in_hand T J un ok eo bare ea ed nd q⟩
  | .ok .next, end_ => exact end_.elim
  | .ok .brk, end_ => exact end_.elim
  | .ok .cont, end_ => exact end_.elim

/-! ### readings in order -/
/-- raise C(vs) -/
def kMk (C : Addr) (sp : Sp) (vs : List V) (H : Hp) (Q : XK) : Prop := vs.length ≤ 1000 ∧ ∀ a, H a = none → sp (.ref a :: (vs ++ [])) (upd H a (exo a C none))
  (fun v H2 => v = .non ∧ ∃ (d : Addr) (fs : List (Str × V)), H2 a = some (exo a C (some d)) ∧ H2 d = some (exd d fs) ∧ H d = none ∧ Q (.ref C) (some d) (upd (del H2 a) d (.xd fs))) (fun _ _ _ => False)
def tRaise (W : WX) (C : Addr) (sp : Sp) (ta : TA) : TS := fun _ σ H => tMkO C sp [] ta σ H fun cls d H' => W cls d σ H'
theorem k_raise {X : Cx} {W : WX} {e : Expr} {C : Addr} {sp : Sp} {ta : TA} {pos : Pos} (hc : X.calm = true) (tk : L2N.Takes X W) (he : L2N.PMk X e (tMkO C sp [] ta)) : PS X (.Raise (some e) none pos) (tRaise W C sp ta) := L2N.ps_raise hc tk he
theorem g_raise {W : WX} {C : Addr} {sp : Sp} {ta : TA} {D : Ends} {σ : L2.St} {H : Hp} (q : ta σ H fun vs H1 => kMk C sp vs H1 fun cls d H' => W cls d σ H') : tRaise W C sp ta D σ H := q
/-- try: body, except c as i: suite -/
def tTry (K : PySem.W.Frag) (c : Value) (i : Nat) (tb : WX → TS) (ts : Addr → Value → Option Addr → TS) (Wout : WX) : TS := fun D σ H => tb (wAs K c i ts Wout D) D σ H
theorem k_try {X : Cx} {x n : Str} {c : Value} {i : Nat} {body suite : List Stmt} {b₀ : Stmt} {np pos pos' : Pos} {tb : WX → TS} {ts : Addr → Value → Option Addr → TS} {Wout : WX} (K : PySem.W.Frag)
    (hs : X.stack = X.env :: X.outer) (hf : X.env.frame = some X.env.locals) (hN : X.N.Nodup) (hi : X.N[i]? = some n) (hln : X.env.kindOf n = some .local) (hc : Names X x c) (tk : L2N.Takes X Wout)
    (hb : ∀ (W : WX) (pn : List (Addr × Obj)) (xe : Value → Shared → Prop), L2N.Takes (X.tr pn xe) W → PassesOwn (model X.prog X.w) X.A X.env xe → PSs (X.tr pn xe) body (tb W))
    (hsu : ∀ (a : Addr) (oe : Obj) (cls : Value) (d : Option Addr) (pn : List (Addr × Obj)), L2N.Zn cls d oe → (∃ vs, oe.data = .fields vs) → PSs (X.suite a ((a, oe) :: pn)) (b₀ :: suite) (ts a cls d)) (e : X.K = K := by rfl) :
    PS X (.Try body [.ExceptHandler (some (.Name x np)) (some n) (b₀ :: suite) pos'] [] [] pos) (tTry K c i tb ts Wout) := by subst e; exact L2N.ps_try_as hs hf hN hi hln hc tk hb hsu
/-- the way into the suite -/
theorem g_caught {K : PySem.W.Frag} {c cls : Value} {i : Nat} {ts : Addr → Value → Option Addr → TS} {Wout : WX} {D : Ends} {d : Option Addr} {σ : L2.St} {H : Hp} (m : PySem.W.exmOne K cls c = some true)
    (q : ∀ a, H a = none → ts a cls d { nx := fun σ' H' => D.nx (σ'.set i none) H', rt := D.rt, bk := fun σ' H' => D.bk (σ'.set i none) H', ct := fun σ' H' => D.ct (σ'.set i none) H' } (σ.set i (some (.ref a))) H) : wAs K c i ts Wout D cls d σ H :=
  ⟨true, m, fun _ => q, fun z => by cases z⟩
theorem g_try {K : PySem.W.Frag} {c : Value} {i : Nat} {tb : WX → TS} {ts : Addr → Value → Option Addr → TS} {Wout : WX} {D : Ends} {σ : L2.St} {H : Hp} (q : tb (wAs K c i ts Wout D) D σ H) : tTry K c i tb ts Wout D σ H := q
theorem g_callS {sp : Sp} {E : L2.St → XK} {t : TA} {σ : L2.St} {H : Hp} {Q : VK} (q : t σ H fun vs H1 => sp vs H1 Q (E σ)) : tCallS sp E t σ H Q := q

theorem g_ost {K : PySem.W.Frag} {f : Str} {to te : TE} {D : Ends} {σ : L2.St} {H : Hp} (q : tOst K f to te D σ H) : tOst K f to te D σ H := q
theorem upd_over {H : Hp} {dx a : Addr} {e1 e2 x : HO} (ne : dx ≠ a) : upd (upd (upd H dx e1) a x) dx e2 = upd (upd H dx e2) a x := by
  funext b
  by_cases h1 : b = dx
  · subst h1
    rw [upd_same, upd_ne ne, upd_same]
  · rw [upd_ne h1]
    by_cases h2 : b = a
    · subst h2
      rw [upd_same, upd_same]
    · rw [upd_ne h2, upd_ne h2, upd_ne h1, upd_ne h1]
/-- __init__ that keeps each argument in a field of its name -/
def sp_oinit (C : Addr) (names : List Str) : Sp := fun vs H Q _ => ∃ (a : Addr) (ws : List V), vs = .ref a :: ws ∧ ws.length = names.length ∧ H a = some (exo a C none) ∧
  ∀ dx, H dx = none → dx ≠ a → Q .non (upd (upd H dx (exd dx (names.zip ws).reverse)) a (exo a C (some dx)))
theorem sp_oinit_len {C : Addr} {names : List Str} {vs H Q E} (h : sp_oinit C names vs H Q E) : vs.length = names.length + 1 := by
  obtain ⟨a, ws, rfl, hl, _⟩ := h
  rw [List.length_cons, hl]
theorem g_mk {C : Addr} {names : List Str} {vs : List V} {F H : Hp} {O : Own} {Q : XK} (hl : vs.length = names.length) (hs : names.length ≤ 1000) (hH : Has F O H) (q : ∀ d H', H d = none → Has F ((d, .xd (names.zip vs).reverse) :: O) H' → Q (.ref C) (some d) H') : kMk C (sp_oinit C names) vs H Q := by
  refine ⟨by omega, fun a n => ⟨a, vs ++ [], rfl, by rw [List.append_nil]; exact hl, upd_same, fun dx n1 ne => ⟨rfl, dx, (names.zip vs).reverse, upd_same, ?_, ?_, ?_⟩⟩⟩
  · rw [upd_ne ne, upd_same, List.append_nil]
  · rw [upd_ne ne] at n1
    exact n1
  · rw [upd_ne ne] at n1
    have e : upd (del (upd (upd (upd H a (exo a C none)) dx (exd dx (names.zip (vs ++ [])).reverse)) a (exo a C (some dx))) a) dx (.xd (names.zip vs).reverse) = upd H dx (.xd (names.zip vs).reverse) := by
      funext b
      by_cases h1 : b = dx
      · subst h1
        rw [upd_same, upd_same]
      · rw [upd_ne h1, upd_ne h1]
        by_cases h2 : b = a
        · subst h2
          rw [del_same, n]
        · rw [del_ne h2, upd_ne h2, upd_ne h1, upd_ne h2]
    rw [e]
    exact q dx _ n1 (hH.new n1)
/-! ### in a suite: isinstance, a field, a call -/
structure IsC (K : PySem.W.Frag) (D : Addr) : Prop where
  cl : (PySem.W.clsIn K D).isSome = true
  hg : PySem.W.findIn K (.ref D) "__getattribute__" = some (some (.builtin "BaseException.__getattribute__"))
  hk : PySem.W.findIn K (.ref D) "__getattr__" = some none
  hs : PySem.W.subIn K (.ref D) (.type "BaseException") = some true
  hd : PySem.W.hasDictIn K D = true
  ha : PySem.W.findIn K (.ref D) "__class__" = some (some (.builtin "object.__class__"))
  hn : PySem.W.specialIn K (.builtin "object.__class__") "__get__" = some (some (.builtin "getset_descriptor.__get__"))
  ht : PySem.W.takesIn K (.builtin "object.__class__") = some true
  hm : PySem.W.mroIn K D (.type "object") = some true
/-- isinstance(e, c) for the caught e: a is where it stands -/
def rIsX (K : PySem.W.Frag) (a : Addr) (cls : Value) (d : Option Addr) : List V → Hp → VK → Prop := fun xs H Q => ∃ (D : Addr) (c : V) (cv : Value) (b : Bool), cls = .ref D ∧ IsC K D ∧ (d = none ∨ ∃ dd fs, d = some dd ∧ H dd = some (.xd fs)) ∧ xs = [.ref a, c] ∧ (∀ u, RelV c u → u = cv) ∧ PySem.W.kitOne K (.ref D) cv = some b ∧ Q (.bl b) H
def rIsY (K : PySem.W.Frag) (a : Addr) (cls : Value) (d : Option Addr) : List V → Hp → VK → Prop := fun xs H Q => rIsX K a cls d xs H Q ∨ rIsA K xs H Q
theorem cr_isX {X : Cx} {a : Addr} {oe : Obj} {cls : Value} {d : Option Addr} {pn : List (Addr × Obj)} (K : PySem.W.Frag) (hz : L2.Zc cls d oe) (hf : ∃ vs, oe.data = .fields vs) (e : X.K = K := by rfl) : CallR (X.suite a ((a, oe) :: pn)) (.builtin "isinstance") (rIsY K a cls d) := by
  subst e
  intro pins s σ H xs us Q I r h
  rcases h with h | h
  · obtain ⟨D, c, cv, b, ecl, C, hd, rfl, hcv, e, q⟩ := h
    cases r with
    | cons rx rr =>
      cases rr with
      | cons rt rr =>
        cases rr
        cases rx
        have ec := hcv _ rt
        subst ec
        obtain ⟨hget, _⟩ := I.pin (a, oe) (List.mem_append.mpr (.inl List.mem_cons_self))
        obtain ⟨vs, hv⟩ := hf
        have hcl : oe.cls = .ref D := hz.1.trans ecl
        have hdx := hz.2
        have key : ∀ od, PySem.W.InstAt s.heap a oe D od → wpAny (model X.prog X.w) (X.suite a ((a, oe) :: pn)).A (call (.builtin "isinstance") [.ref a, _]) (EP (X.suite a ((a, oe) :: pn)) pins σ Q) (X.suite a ((a, oe) :: pn)).xe s := fun od J =>
          PySem.W.kia_one (PySem.W.kitx_exc C.cl C.hg C.hk C.hs C.ha C.hn C.ht C.hm) I.kIn J e (fun z => nomatch z) fun tk => ⟨.bl b, H, I.kept (t' := tk) fun _ _ z => z, rfl, q⟩
        rcases hd with hd | ⟨dd, fs, hd, ea⟩
        · refine key none ?_
          rw [hd] at hdx
          exact ⟨hget, hcl, by unfold PySem.W.notCls; rw [hv] <;> rfl, by rw [hdx]; trivial⟩
        · have hx : ObjOk X.prog X.w H s.heap dd (.xd fs) := I.hok dd _ ea
          obtain ⟨mA, hns, hr⟩ := hx
          obtain ⟨od, ho, hl⟩ := lookIn_ns hns
          refine key (some od) ?_
          rw [hd] at hdx
          exact ⟨hget, hcl, by unfold PySem.W.notCls; rw [hv] <;> rfl, by rw [hdx]; exact ho⟩
  · exact cr_isK X.K (X := X.suite a ((a, oe) :: pn)) rfl pins s σ H xs us Q I r h
/-- e.f for the caught e -/
def tXfA (K : PySem.W.Frag) (a : Addr) (cls : Value) (d : Option Addr) (f : Str) (te : TE) : TE := fun σ H Q => te σ H fun x H1 => x = .ref a ∧ ∃ (C dd : Addr) (fs : List (Str × V)) (v : V), cls = .ref C ∧ XfC K C ∧ PySem.W.findIn K (.ref C) f = some none ∧ d = some dd ∧ H1 dd = some (.xd fs) ∧ fs.lookup f = some v ∧ Q v H1
theorem pe_xfA {X : Cx} {a : Addr} {oe : Obj} {cls : Value} {d : Option Addr} {pn : List (Addr × Obj)} {e : Expr} {te : TE} {pos : Pos} {n : Str} (K : PySem.W.Frag) (hz : L2.Zc cls d oe) (hf : ∃ vs, oe.data = .fields vs) (he : PE (X.suite a ((a, oe) :: pn)) e te) (ek : X.K = K := by rfl) (hb : attributeBase e n X.env (eval e X.env) = eval e X.env := by rfl) :
    PE (X.suite a ((a, oe) :: pn)) (.Attribute e n pos) (tXfA K a cls d n te) := by
  subst ek
  refine ⟨fun pins s σ H Q I h => ?_⟩
  refine attr_of hb (thn (he.run pins s σ H _ I h) fun u s1 hh => ?_)
  obtain ⟨x, H1, I1, rx, ex, C, dd, fs, v, ec, T, hno, ed, ea, l, q⟩ := hh
  subst ex
  obtain rfl : u = Value.ref a := rx
  subst ec
  subst ed
  obtain ⟨ha, _⟩ := I1.pin (a, oe) (List.mem_append_left _ List.mem_cons_self)
  obtain ⟨vs, hd⟩ := hf
  have hx : ObjOk X.prog X.w H1 s1.heap dd (.xd fs) := I1.hok dd _ ea
  obtain ⟨mA, hns, hr⟩ := hx
  obtain ⟨od, ho, hl⟩ := lookIn_ns hns
  obtain ⟨u, hu, ru⟩ := RelO.some_of (v := v) (o := mA n) (by rw [← l]; exact hr n)
  have J : PySem.W.InstAt s1.heap a oe C (some od) := ⟨ha, hz.1, by unfold PySem.W.notCls; rw [hd] <;> rfl, by rw [hz.2]; exact ho⟩
  exact HandSPX.exc_get I1.kIn J T.ga T.gg T.exC (PySem.W.findObj_own T.hdC hno rfl (by rw [hl, hu])) (handed_of ru) ⟨v, H1, I1.tok _, ru, q⟩
def kXf (K : PySem.W.Frag) (a : Addr) (cls : Value) (d : Option Addr) (f : Str) (x : V) (H1 : Hp) (Q : VK) : Prop := x = .ref a ∧ ∃ (C dd : Addr) (fs : List (Str × V)) (v : V), cls = .ref C ∧ XfC K C ∧ PySem.W.findIn K (.ref C) f = some none ∧ d = some dd ∧ H1 dd = some (.xd fs) ∧ fs.lookup f = some v ∧ Q v H1
theorem g_xf {K : PySem.W.Frag} {a : Addr} {cls : Value} {d : Option Addr} {f : Str} {te : TE} {σ : L2.St} {H : Hp} {Q : VK} (q : te σ H fun x H1 => kXf K a cls d f x H1 Q) : tXfA K a cls d f te σ H Q := q
theorem g_kxf {K : PySem.W.Frag} {a C dd : Addr} {f : Str} {fs : List (Str × V)} {v : V} {H : Hp} {Q : VK} (X : XfC K C) (n : PySem.W.findIn K (.ref C) f = some none) (hd : H dd = some (.xd fs)) (l : fs.lookup f = some v) (q : Q v H) : kXf K a (.ref C) (some dd) f (.ref a) H Q :=
  ⟨rfl, C, dd, fs, v, rfl, X, n, rfl, hd, l, q⟩
theorem g_isX {K : PySem.W.Frag} {a D C dd : Addr} {fs : List (Str × V)} {b : Bool} {H : Hp} {Q : VK} (I : IsC K D) (hd : H dd = some (.xd fs)) (k : PySem.W.kitOne K (.ref D) (.ref C) = some b) (q : Q (.bl b) H) : rIsY K a (.ref D) (some dd) [.ref a, .ref C] H Q :=
  .inl ⟨D, .ref C, .ref C, b, rfl, I, .inr ⟨dd, fs, rfl, hd⟩, rfl, fun u r => r, k, q⟩
theorem g_isXT {K : PySem.W.Frag} {a D dd : Addr} {n : String} {fs : List (Str × V)} {b : Bool} {H : Hp} {Q : VK} (I : IsC K D) (hd : H dd = some (.xd fs)) (k : PySem.W.kitOne K (.ref D) (.type n) = some b) (q : Q (.bl b) H) : rIsY K a (.ref D) (some dd) [.ref a, .ty n] H Q :=
  .inl ⟨D, .ty n, .type n, b, rfl, I, .inr ⟨dd, fs, rfl, hd⟩, rfl, fun u r => r, k, q⟩
theorem exm_own {K : PySem.W.Frag} {C : Addr} {cls : Value} {b : Bool} (h1 : PySem.W.subIn K (.ref C) (.type "BaseException") = some true) (hc : PySem.W.isClsIn K C = true) (ht : PySem.W.typeIn K (.ref C) = some (.type "type")) (h4 : PySem.W.subIn K cls (.ref C) = some b) : PySem.W.exmOne K cls (.ref C) = some b := by
  have hc' : (PySem.W.clsIn K C).isSome = true := hc
  have e1 : (PySem.W.subIn K (.ref C) (.type "BaseException") == some true) = true := by rw [h1] <;> rfl
  have e2 : ((PySem.W.clsIn K C).isSome && PySem.W.typeIn K (.ref C) == some (.type "type")) = true := by rw [hc', ht] <;> rfl
  show (if (PySem.W.subIn K (.ref C) (.type "BaseException") == some true) = true then (if ((PySem.W.clsIn K C).isSome && PySem.W.typeIn K (.ref C) == some (.type "type")) = true then PySem.W.subIn K cls (.ref C) else none) else none) = some b
  rw [if_pos e1, if_pos e2]
  exact h4
theorem kit_own {K : PySem.W.Frag} {D C : Addr} {b : Bool} (hs : PySem.W.subIn K (.ref D) (.ref D) = some true) (h4 : PySem.W.subIn K (.ref D) (.ref C) = some b) (hc : PySem.W.isClsIn K C = true) (ht : PySem.W.typeIn K (.ref C) = some (.type "type")) : PySem.W.kitOne K (.ref D) (.ref C) = some b := by
  have hc' : (PySem.W.clsIn K C).isSome = true := hc
  unfold PySem.W.kitOne
  by_cases e : (Value.ref D == Value.ref C) = true
  · rw [if_pos e]
    have e2 : D = C := Value.ref.inj (beq_iff_eq.mp e)
    subst e2
    rw [hs] at h4
    exact h4
  · rw [if_neg e]
    have e2 : ((PySem.W.clsIn K C).isSome && PySem.W.typeIn K (.ref C) == some (.type "type")) = true := by rw [hc', ht] <;> rfl
    show (if ((PySem.W.clsIn K C).isSome && PySem.W.typeIn K (.ref C) == some (.type "type")) = true then PySem.W.subIn K (.ref D) (.ref C) else none) = some b
    rw [if_pos e2]
    exact h4
theorem kit_ve {K : PySem.W.Frag} {D : Addr} (h : PySem.W.subIn K (.ref D) (.type "ValueError") = some true) : PySem.W.kitOne K (.ref D) (.type "ValueError") = some true := by
  have e : ¬ (Value.ref D == Value.type "ValueError") = true := by
    intro z
    cases (beq_iff_eq.mp z)
  unfold PySem.W.kitOne
  rw [if_neg e]
  show (if PySem.W.kitMeta "ValueError" = true then PySem.W.subIn K (.ref D) (.type "ValueError") else none) = some true
  rw [if_pos (by decide +kernel)]
  exact h
theorem hot_suite {X : Cx} {a : Addr} {oe : Obj} {cls : Value} {d : Option Addr} {pn : List (Addr × Obj)} (hz : L2N.Zn cls d oe) (hf : ∃ vs, oe.data = .fields vs) : L2H.HotC (X.suite a ((a, oe) :: pn)) := by
  obtain ⟨vs, hv⟩ := hf
  exact ⟨(a, oe), ⟨rfl, vs, hv, hz.2.2 vs hv⟩, List.mem_cons_self⟩

/-! ### objects -/
section
variable {X : Cx} {K : PySem.W.Frag} {σ : L2.St} {F : Hp} {O O' : Own} {H : Hp} {Q : VK} {ta te tv : TE} {x y v : V} {D : Ends}
theorem k_fld {ex : Expr} {f : Str} (K : PySem.W.Frag) (h : PE X ex (tFld X.K te f)) (e : X.K = K := by rfl) : PE X ex (tFld K te f) := by subst e; exact h
def kFld (K : PySem.W.Frag) (f : Str) (x : V) (H1 : Hp) (Q : VK) : Prop := ∃ a C dx fs v, x = .ref a ∧ H1 a = some (.ins C dx fs) ∧ Cls K C ∧ NoAttr K C f ∧ fs.lookup f = some v ∧ Q v H1
theorem g_fld {f : Str} (q : te σ H fun x H1 => kFld K f x H1 Q) : tFld K te f σ H Q := q
theorem g_kfld {a C dx : Addr} {fs : List (Str × V)} {f : Str} (h : H a = some (.ins C dx fs)) (c : Cls K C) (n : NoAttr K C f) (l : fs.lookup f = some v) (q : Q v H) : kFld K f (.ref a) H Q := ⟨a, C, dx, fs, v, rfl, h, c, n, l, q⟩
theorem k_sfld {st : Stmt} {f : Str} (K : PySem.W.Frag) (h : PS X st (sFld X.K ta tv f)) (e : X.K = K := by rfl) : PS X st (sFld K ta tv f) := by subst e; exact h
def kSFld (K : PySem.W.Frag) (f : Str) (x y : V) (D : Ends) (σ : L2.St) (H2 : Hp) : Prop := ∃ a C dx fs, x = .ref a ∧ H2 a = some (.ins C dx fs) ∧ Cls K C ∧ NoAttr K C f ∧ fs.length < 1000 ∧ D.nx σ (upd H2 a (.ins C dx (putF f y fs)))
theorem g_sfld {f : Str} (q : tv σ H fun y H1 => ta σ H1 fun x H2 => kSFld K f x y D σ H2) : sFld K ta tv f D σ H := q
theorem g_ksfld {a C dx : Addr} {fs fs' : List (Str × V)} {f : Str} (hH : Has F O H) (c : Chg O a (.ins C dx fs) (.ins C dx fs') O') (e : putF f y fs = fs') (cl : Cls K C) (n : NoAttr K C f) (hl : fs.length < 1000) (q : ∀ H', Has F O' H' → D.nx σ H') : kSFld K f (.ref a) y D σ H := by
  subst e
  exact ⟨a, C, dx, fs, rfl, hH.get c.mem, cl, n, hl, q _ (hH.put c)⟩
/-- o.m(..), what is let out told at the slots -/
def tMethS (C : Addr) (m : Str) (sp : Sp) (E : L2.St → XK) (ta : TE) (t : TA) : TE := fun σ H Q => ta σ H fun x H1 => ∃ a dx fs, x = .ref a ∧ H1 a = some (.ins C dx fs) ∧ fs.lookup m = none ∧ t σ H1 fun vs H2 => sp (x :: vs) H2 Q (E σ)
def kMeth (C : Addr) (m : Str) (sp : Sp) (E : L2.St → XK) (t : TA) (σ : L2.St) (x : V) (H1 : Hp) (Q : VK) : Prop := ∃ a dx fs, x = .ref a ∧ H1 a = some (.ins C dx fs) ∧ fs.lookup m = none ∧ t σ H1 fun vs H2 => sp (x :: vs) H2 Q (E σ)
theorem g_meth {C : Addr} {m : Str} {sp : Sp} {E : L2.St → XK} {t : TA} (q : ta σ H fun x H1 => kMeth C m sp E t σ x H1 Q) : tMethS C m sp E ta t σ H Q := q
theorem g_kmeth {C : Addr} {m : Str} {sp : Sp} {E : L2.St → XK} {t : TA} {a dx : Addr} {fs : List (Str × V)} (h : H a = some (.ins C dx fs)) (l : fs.lookup m = none) (q : t σ H fun vs H2 => sp (.ref a :: vs) H2 Q (E σ)) : kMeth C m sp E t σ (.ref a) H Q := ⟨a, dx, fs, rfl, h, l, q⟩
variable {CX : CXT} {k : Nat} {f C : Addr} {fd : FuncData} {ps : List Str} {sp : Sp} {E : L2.St → XK} {m : Str} {pos apos : Pos} {e o : Expr} {es : List Expr} {t : TA}
theorem pe_methW {pl : Sem Bool} (ho : PE X o ta) (cl : Cls X.K C) (me : Meth X.K C m f) (G : FnOk X.prog X.w X.K X.mg X.base CX k f fd ps sp) (room : Room k X.A) (bd : Binds X.K fd ps []) (pass : ∀ σ, PassesAt CX X σ (E σ)) (args : PA X (e :: es) t)
    (star : starEach (e :: es) X.env = (false, eval e X.env) :: starEach es X.env := by rfl) (plain : (backTo pos (starEach es X.env)).any (·.1) = false := by rfl)
    (tree : eval (.Call (.Attribute o m apos) (e :: es) [] pos) X.env = (do
      let ov ← eval o X.env
      standAt apos.atName
      let (f, first) ← holding [ov] (getMethod ov m pl)
      callWith pos f first (backTo pos (starEach (e :: es) X.env)) (backToKw pos (keywordEach [] X.env))) := by rfl) :
    PE X (.Call (.Attribute o m apos) (e :: es) [] pos) (tMethS C m sp E ta t) := ⟨fun pins s σ H Q I h => by
  refine PySem.W.methodCall_KW (pl := pl) (thn (ho.run pins s σ H _ I h) fun u s1 hu => ?_) tree
  obtain ⟨x, H1, J, rx, a, dx, fs, rfl, there, none_, go⟩ := hu
  cases (show u = Value.ref a from rx)
  refine getmeth_ok J there cl me none_ (PySem.W.callWith_K (first := [.ref a]) (h₀ := X.base) I.ok.mod.kin me.kp (thn (args.run pos pins s1 σ H1 _ J go) fun us s2 hs => ?_) star plain)
  obtain ⟨vs, H2, J2, rel, pr⟩ := hs
  exact ⟨J2.kIn, run_fnS (us := .ref a :: us) (vs := .ref a :: vs) G room bd (pass σ) J2 (.cons rfl rel) pr⟩⟩
theorem pe_methW0 {pl : Sem Bool} (ho : PE X o ta) (cl : Cls X.K C) (me : Meth X.K C m f) (G : FnOk X.prog X.w X.K X.mg X.base CX k f fd ps sp) (room : Room k X.A) (bd : Binds X.K fd ps []) (pass : ∀ σ, PassesAt CX X σ (E σ))
    (tree : eval (.Call (.Attribute o m apos) [] [] pos) X.env = (do
      let ov ← eval o X.env
      standAt apos.atName
      let (f, first) ← holding [ov] (getMethod ov m pl)
      callWith pos f first (backTo pos (starEach [] X.env)) (backToKw pos (keywordEach [] X.env))) := by rfl) :
    PE X (.Call (.Attribute o m apos) [] [] pos) (tMethS C m sp E ta tNil) := ⟨fun pins s σ H Q I h => by
  refine PySem.W.methodCall_KW (pl := pl) (thn (ho.run pins s σ H _ I h) fun u s1 hu => ?_) tree
  obtain ⟨x, H1, J, rx, a, dx, fs, rfl, there, none_, go⟩ := hu
  cases (show u = Value.ref a from rx)
  exact getmeth_ok J there cl me none_ (PySem.W.callWith_K0 (first := [.ref a]) J.kIn me.kp (run_fnS (us := [.ref a]) (vs := [.ref a]) G room bd (pass σ) J (.cons rfl .nil) go))⟩
theorem pass0S {X : Cx} {E : L2.St → XK} : ∀ σ, PassesAt CX0 X σ (E σ) := fun _ _ _ _ _ _ _ h => h.elim
theorem passNS {X : Cx} : ∀ σ, PassesAt (L2N.CX X.prog X.w) X σ ((fun _ => E0) σ) := fun _ _ _ _ _ _ _ h => by
  obtain ⟨_, _, _, _, _, _, _, _, _, _, _, _, z⟩ := h
  exact z.elim
/-- C(..) -/
def kMake (C : Addr) (sp : Sp) (E : XK) (vs : List V) (H1 : Hp) (Q : VK) : Prop := ∀ x dx, H1 x = none → H1 dx = none → dx ≠ x → sp (.ref x :: (vs ++ [])) (upd (upd H1 dx (.own x)) x (.ins C dx [])) (fun v H2 => v = .non ∧ Q (.ref x) H2) E
theorem g_make {E : XK} (q : t σ H fun vs H1 => kMake C sp E vs H1 Q) : tMake C sp [] E t σ H Q := q
theorem g_kmake {E : XK} {vs : List V} (hH : Has F O H) (q : ∀ x dx H', H x = none → Has F ((x, .ins C dx []) :: (dx, .own x) :: O) H' → sp (.ref x :: vs) H' (fun v H2 => v = .non ∧ Q (.ref x) H2) E) : kMake C sp E vs H Q := by
  intro x dx nx nd ne
  rw [List.append_nil]
  refine q x dx _ nx ((hH.new nd).new (by rw [upd_ne (Ne.symm ne)]; exact nx))
/-- del d[k] -/
def kDel (x y : V) (D : Ends) (σ : L2.St) (H2 : Hp) : Prop := ∃ a kvs k, x = .ref a ∧ H2 a = some (.dK kvs) ∧ y = kV k ∧ (valV kvs k).isSome = true ∧ D.nx σ (upd H2 a (.dK (dropK kvs k)))
end
section
variable {X : Cx} {K : PySem.W.Frag} {σ : L2.St} {F : Hp} {O O' : Own} {H : Hp} {Q : VK} {td ty : TE} {D : Ends}
theorem g_del (q : td σ H fun x H1 => ty σ H1 fun y H2 => kDel x y D σ H2) : sDDel td ty D σ H := q
theorem g_kdel {a : Addr} {kvs : List (Key × V)} {z : V} {k : Key} (ez : z = kV k) (hH : Has F O H) (c : Chg O a (.dK kvs) (.dK (dropK kvs k)) O') (i : (valV kvs k).isSome = true) (q : ∀ H', Has F O' H' → D.nx σ H') : kDel (.ref a) z D σ H :=
  ⟨a, kvs, k, rfl, hH.get c.mem, ez, i, q _ (hH.put c)⟩
theorem g_dnewK (hH : Has F O H) (q : ∀ p H', H p = none → Has F ((p, .dK []) :: O) H' → Q (.ref p) H') : tDNewK σ H Q := fun p n => q p _ n (hH.new n)
/-! ### sorted -/
def rSortA (K : PySem.W.Frag) : List V → Hp → VK → Prop := fun vs H Q => (rSorted K vs H Q ∨ rSortedS K vs H Q) ∨
  (∃ (a : Addr) (kvs : List (Key × V)) (ks : List Str), vs = [.ref a] ∧ Rd H a (.dK kvs) ∧ kvs.map (·.1) = ks.map Sum.inr ∧ ks.length < 64 ∧ ∀ ys p, ys.Perm ks → sortedS ys = true → H p = none → Q (.ref p) (upd H p (.lst (ys.map V.str)))) ∨
  (∃ (a : Addr) (kvs : List (Key × V)) (ks : List Int), vs = [.ref a] ∧ Rd H a (.dK kvs) ∧ kvs.map (·.1) = ks.map Sum.inl ∧ ks.length < 64 ∧ ∀ (ys : List Int) (p : Addr), ys.Perm ks → ys.Pairwise (· ≤ ·) → H p = none → Q (.ref p) (upd H p (.lst (ys.map V.int))))
theorem cr_sortA (K : PySem.W.Frag) (hc : X.calm = true) (e : X.K = K := by rfl) : CallR X (.builtin "sorted") (rSortA K) := by
  subst e
  intro pins s σ H xs us Q I r h
  rcases h with (h | h) | h | h
  · exact cr_sorted pins s σ H xs us Q I r h
  · exact cr_sortedS pins s σ H xs us Q I r h
  · exact call_sortedD hc pins s σ H xs us Q I r h
  · exact call_sortedDI hc pins s σ H xs us Q I r h
theorem g_sortI {a : Addr} {ns : List Int} (h : H a = some (.lst (ns.map V.int))) (l : ns.length < 64) (hH : Has F O H) (q : ∀ (ys : List Int) p H', ys.Perm ns → ys.Pairwise (· ≤ ·) → H p = none → Has F ((p, .lst (ys.map V.int)) :: O) H' → Q (.ref p) H') : rSortA K [.ref a] H Q :=
  .inl (.inl ⟨a, ns, rfl, SqL.of h, l, fun ys p e s n => q ys p _ e s n (hH.new n)⟩)
theorem g_sortS {a : Addr} {ns : List Str} (h : H a = some (.lst (ns.map V.str))) (l : ns.length < 64) (hH : Has F O H) (q : ∀ (ys : List Str) p H', ys.Perm ns → sortedS ys = true → H p = none → Has F ((p, .lst (ys.map V.str)) :: O) H' → Q (.ref p) H') : rSortA K [.ref a] H Q :=
  .inl (.inr ⟨a, ns, rfl, SqL.of h, l, fun ys p e s n => q ys p _ e s n (hH.new n)⟩)
theorem g_sortDS {a : Addr} {kvs : List (Key × V)} {ks : List Str} (h : H a = some (.dK kvs)) (e : kvs.map (·.1) = ks.map Sum.inr) (l : ks.length < 64) (hH : Has F O H) (q : ∀ (ys : List Str) p H', ys.Perm ks → sortedS ys = true → H p = none → Has F ((p, .lst (ys.map V.str)) :: O) H' → Q (.ref p) H') : rSortA K [.ref a] H Q :=
  .inr (.inl ⟨a, kvs, ks, rfl, .inl h, e, l, fun ys p e s n => q ys p _ e s n (hH.new n)⟩)
theorem g_sortDI {a : Addr} {kvs : List (Key × V)} {ks : List Int} (h : H a = some (.dK kvs)) (e : kvs.map (·.1) = ks.map Sum.inl) (l : ks.length < 64) (hH : Has F O H) (q : ∀ (ys : List Int) p H', ys.Perm ks → ys.Pairwise (· ≤ ·) → H p = none → Has F ((p, .lst (ys.map V.int)) :: O) H' → Q (.ref p) H') : rSortA K [.ref a] H Q :=
  .inr (.inr ⟨a, kvs, ks, rfl, .inl h, e, l, fun ys p e s n => q ys p _ e s n (hH.new n)⟩)
end
/-! ### what a method changes -/
section
variable {F F1 F' H H' H1 : Hp} {A A' R : Own}
def ButA (A : Own) (H H' : Hp) : Prop := ∀ b u, b ∉ A.map (·.1) → H b = some u → H' b = some u
theorem Has.grownA (h : Has F (A ++ R) H) (hb : ButA A H H') (g : Grow F H F') (hA : Has F' A' H') (ea : ∀ q ∈ A', q.1 ∈ A.map (·.1) ∨ H q.1 = none) : Has F' (A' ++ R) H' := by
  have nd := h.nd
  rw [List.map_append, List.nodup_append] at nd
  refine ⟨hA.same, fun q hq => ?_, ?_⟩
  · rcases List.mem_append.mp hq with hq | hq
    · exact hA.own q hq
    · obtain ⟨f0, h0⟩ := h.own q (List.mem_append_right _ hq)
      refine ⟨by rw [g.2 _ (by rw [h0]; exact fun z => by cases z)]; exact f0, hb _ _ (fun m => ?_) h0⟩
      exact nd.2.2 _ m _ (List.mem_map.mpr ⟨q, hq, rfl⟩) rfl
  · rw [List.map_append, List.nodup_append]
    refine ⟨hA.nd, nd.2.1, fun x hx y hy e => ?_⟩
    obtain ⟨q, hq, rfl⟩ := List.mem_map.mp hx
    obtain ⟨r, hr, rfl⟩ := List.mem_map.mp hy
    rcases ea q hq with m | n
    · exact nd.2.2 _ m _ (List.mem_map.mpr ⟨r, hr, rfl⟩) e
    · rw [e, (h.own r (List.mem_append_right _ hr)).2] at n
      cases n
theorem Grow.refl : Grow F H F := ⟨Same.refl F, fun _ _ => rfl⟩
/-- what stands still: of old what stood still, of new what stands still now -/
def mixF (F H F1 : Hp) : Hp := fun b => match H b with
  | none => F1 b
  | some _ => F b
theorem mix_at {b : Addr} (n : H b = none) : mixF F H F1 b = F1 b := by
  unfold mixF
  rw [n]
theorem mix_old {b : Addr} (n : H b ≠ none) : mixF F H F1 b = F b := by
  unfold mixF
  cases e : H b with
  | none => exact (n e).elim
  | some u => rfl
theorem mix_grow (h : Has F A H) (s : Same (rmO A H) F1) : Grow F H (mixF F H F1) := by
  refine ⟨fun b u e => ?_, fun b n => mix_old n⟩
  rw [mix_old (by rw [h.same _ _ e]; exact fun z => by cases z)]
  exact e
theorem mix_but (h : Has F A H) (s : Same (rmO A H) F1) (h1 : Has F1 A' H1) : ButA A H H1 := fun b u n e => h1.same _ _ (s _ _ (by
  unfold rmO
  rw [if_neg n]
  exact e))
theorem mix_has (h : Has F A H) (s : Same (rmO A H) F1) (h1 : Has F1 A' H1) (ea : ∀ q ∈ A', q.1 ∈ A.map (·.1) ∨ H q.1 = none) : Has (mixF F H F1) A' H1 := by
  refine ⟨fun b u e => ?_, fun q hq => ⟨?_, (h1.own q hq).2⟩, h1.nd⟩
  · cases eh : H b with
    | none =>
      rw [mix_at eh] at e
      exact h1.same _ _ e
    | some o =>
      rw [mix_old (by rw [eh]; exact fun z => by cases z)] at e
      have := h.same _ _ e
      refine mix_but h s h1 b u (fun m => ?_) this
      obtain ⟨q, hq, rfl⟩ := List.mem_map.mp m
      rw [(h.own q hq).1] at e
      cases e
  · rcases ea q hq with m | n
    · obtain ⟨p, hp, e⟩ := List.mem_map.mp m
      have o := h.own p hp
      rw [← e, mix_old (by rw [o.2]; exact fun z => by cases z)]
      exact o.1
    · rw [mix_at n]
      exact (h1.own q hq).1
end
theorem ButA.step {F H H1 H2 : Hp} {A O1 O2 : Own} (hb : ButA A H H1) (h1 : Has F O1 H1) (nw : ∀ x ∈ O1, x.1 ∈ A.map (·.1) ∨ H x.1 = none) (h2 : Has (rmO O1 H1) O2 H2) : ButA A H H2 := fun b u n e => h2.same _ _ (by
  unfold rmO
  rw [if_neg (fun m => ?_)]
  · exact hb b u n e
  · obtain ⟨x, hx, rfl⟩ := List.mem_map.mp m
    rcases nw x hx with m' | z
    · exact n m'
    · rw [e] at z; cases z)
/-- what is new now was new then -/
theorem newp {F F1 H H1 : Hp} {A O1 : Own} {p : Addr} (h : Has F A H) (hb : ButA A H H1) (h1 : Has F1 O1 H1) (ea : ∀ q ∈ A, q.1 ∈ O1.map (·.1)) (n : H1 p = none) : H p = none := by
  cases e : H p with
  | none => rfl
  | some u =>
    by_cases m : p ∈ A.map (·.1)
    · obtain ⟨q, hq, rfl⟩ := List.mem_map.mp m
      obtain ⟨x, hx, ex⟩ := List.mem_map.mp (ea q hq)
      have := (h1.own x hx).2
      rw [ex, n] at this
      cases this
    · rw [hb p u m e] at n
      cases n
end Qk

/-! Qs: sets of keys made of lists; membership of more kinds -/
namespace Qk
open PySem PySem.Spec PyProof.Rows L2
/-! ### set(a list of keys) -/
section
variable {prog : Program} {w : World} {A : Around} {R : Result → Shared → Prop} {I : Addr} {fp wr : List Addr} {G : Array GenState → Array GenState → Prop} {n : Nat} {P : Nat → Value → Prop} {St : Nat → Shared → Prop}
/-- the loop puts in all keys from the i-th on -/
theorem loop_keys (W : WalksS prog w A.in1 I fp wr G n P St) (D : Addr) (hD : D ∉ fp) (ks : List Key) (hn : ks.length = n) (hb : n + 1 < scanBound)
    (hv : ∀ i v, P i v → ∃ k, ks[i]? = some k ∧ (mixKind prog w).is k v = true ∧ v.scannable = true) :
    ∀ (d i m : Nat) (T : Key → Bool) (s : Shared), i + d = n → m ≤ i → St i s → s.heap.SetOf (mixKind prog w) D T m →
      (∀ s' T' m', Moved (D :: wr) G s s' → s'.heap.SetOf (mixKind prog w) D T' m' → m' ≤ n → (∀ k, T' k = (T k || (ks.drop i).any fun j => decide (k = j))) → R (.ok (.ret .none)) s') →
      codeAny (model prog w) A (.builtin "set.update.loop" ⟨[.ref D, .ref I], []⟩) R s
  | 0, i, m, T, s, e, hm, st, hT, q => by
    refine codeAny_builtin F.entry_set_update_loop ?_
    rw [Around.under_plainId F.plain_set_update_loop _]
    show wpAny _ A.in1 (pyNext (.ref I) >>= _) _ _ s
    rw [Nat.add_zero] at e
    subst e
    refine wpAny_bind (W.done s _ _ st fun s1 mv => ?_)
    show wpAny _ A.in1 (ret Value.none) _ _ s1
    obtain ⟨o, es, ep, t, ho, rest⟩ := hT
    refine wpAny_pure (q s1 T m (mv.mono fun b hb => List.mem_cons_of_mem _ hb) ⟨o, es, ep, t, mv.heap D _ (fun z => hD (W.sub _ z)) ho, rest⟩ hm fun k => ?_)
    rw [← hn, List.drop_length]
    simp
  | d + 1, i, m, T, s, e, hm, st, hT, q => by
    refine codeAny_builtin F.entry_set_update_loop ?_
    rw [Around.under_plainId F.plain_set_update_loop _]
    show wpAny _ A.in1 (pyNext (.ref I) >>= _) _ _ s
    have hi : i < n := by omega
    refine wpAny_bind (W.item i s _ _ hi st fun v s1 pv st1 mv => ?_)
    obtain ⟨k, ek, his, hsc⟩ := hv i v pv
    obtain ⟨o, es, ep, t, ho, rest⟩ := hT
    have hT1 : s1.heap.SetOf (mixKind prog w) D T m := ⟨o, es, ep, t, mv.heap D _ (fun z => hD (W.sub _ z)) ho, rest⟩
    show wpAny _ A.in1 (holding [v] (setAdd D v) >>= _) _ _ s1
    refine wpAny_bind (wpAny_holding ?_)
    unfold setAdd
    refine wpAny_holding ?_
    refine wpAny_bind ((mixKind prog w).pyHash his ?_)
    refine wpAny_setAddHashed_of (knd := mixKind prog w) (s := { s1 with toks := s1.toks + 1 }) his hsc hT1 (by omega) fun h2 sb hT2 => ?_
    refine wpAny_pure ⟨plainId_quiet F.plain_set_update_loop _, loop_keys W D hD ks hn hb hv d (i + 1) _ _ _ (by omega) ?_ (W.frame _ s1 _ _ st1 (Nat.le_succ _) fun b hb o e => ?_) hT2 fun s3 T3 m3 mv3 hT3 le eq => ?_⟩
    · split <;> omega
    · rw [sb.2 b (fun z => hD (by rw [← z]; exact hb))]
      exact e
    · refine q s3 T3 m3 (Moved.trans W.gtrans ((mv.mono fun b hb => List.mem_cons_of_mem _ hb).then_heap (Nat.le_succ _) fun b o hb e => ?_) mv3) hT3 le fun k' => ?_
      · rw [sb.2 b (fun z => hb (by rw [z]; exact List.mem_cons_self))]
        exact e
      · rw [eq k']
        have hlt : i < ks.length := by omega
        have ek' : ks[i] = k := by rw [List.getElem?_eq_getElem hlt] at ek; exact Option.some.inj ek
        rw [List.drop_eq_getElem_cons hlt, ek', Bool.or_assoc]
        congr 1
end
section
variable {prog : Program} {w : World} {A : Around} {E : Value → Shared → Prop} {s : Shared}
def newSetObj (led : Bool) : Obj := { cls := .type "set", dict := none, data := .set #[] 0 (.fresh 0 0 led) }
/-- what the filling of the new set leaves -/
def Filled (prog : Program) (w : World) (ks : List Key) (s s2 : Shared) : Prop := ∃ h' tk T m, s2 = { s with heap := h', toks := tk } ∧ h'.SetOf (mixKind prog w) s.heap.objs.size T m ∧ m ≤ ks.length ∧
  (∀ k, T k = ks.any fun j => decide (k = j)) ∧ ∀ b o, b < s.heap.objs.size → s.heap.get? b = some o → h'.get? b = some o
set_option maxHeartbeats 4000000 in
theorem call_set_keys {l : Addr} {items : Array Value} {ks : List Key} {Q : Value → Shared → Prop} (hh : A.handled = none) (hl : s.heap.IsList l items) (hsz : items.size = ks.length)
    (hv : ∀ (i : Nat) (v : Value), items[i]? = some v → ∃ k, ks[i]? = some k ∧ (mixKind prog w).is k v = true ∧ v.scannable = true) (hb : ks.length + 1 < scanBound) (q : ∀ s2, Filled prog w ks s s2 → Q (.ref s.heap.objs.size) s2) :
    wpAny (model prog w) A (call (.type "set") [.ref l]) Q E s := by
  obtain ⟨c, tl, hmro⟩ := PySem.F.called_set.mro
  have hmade := PySem.F.called_set.made
  have hsub := PySem.F.called_set.sub
  have h1 := PySem.F.called_set.notType
  have h2 := PySem.F.called_set.canCreate
  have hct := PySem.F.typeCall_set_1 (.ref l)
  refine wpAny_call (codeAny_of_tree ?_)
  show wpAny _ _ (callAny (.type "set") _) _ _ _
  refine wpAny_pure ⟨Code.quiet_builtin _ (by decide +kernel), codeAny_builtin PySem.F.entry_type_call ?_⟩
  rw [Around.under_plain (weight_type_call_type "set" [.ref l] []) rfl]
  repeat (any_goals (first | assumption | wp_step))
  refine codeAny_mono (code_set_new_1 (.ref l) (E := E) (Q₁ := fun obj s₁ => ∃ led : Bool, obj = .ref s.heap.objs.size ∧ s₁ = { s with heap := s.heap.push (newSetObj led) }) fun led => ⟨led, rfl, rfl⟩) fun r s₁ hr => ?_
  cases r with
  | error e => exact hr
  | ok fl =>
    cases fl with
    | ret obj =>
      obtain ⟨led, rfl, rfl⟩ := hr
      have hS : (s.heap.push (newSetObj led)).get? s.heap.objs.size = some (newSetObj led) := Heap.get?_push_size _ rfl
      have hT : Shared.TypeIs { s with heap := s.heap.push (newSetObj led) } (.ref s.heap.objs.size) "set" := ⟨_, hS, rfl⟩
      have hli := PySem.F.called_set.init.lookup
      have hbi := PySem.F.called_set.init.bind (.ref s.heap.objs.size)
      repeat (any_goals (first | assumption | wp_step))
      refine codeAny_mono (codeAny_call_builtin (R := wants (fun r s₂ => r = .none ∧ Filled prog w ks s s₂) E) PySem.F.called_set.init.plain PySem.F.entry_set_init (check_set_init_1 hT ?_)) fun r₂ s₂ hr₂ => ?_
      · obtain ⟨ol, hol, hcl, nl, hdl⟩ := hl
        obtain ⟨ocls, odict, odata, oslots⟩ := ol
        simp only at hcl hdl
        subst hcl
        subst hdl
        have hol' : (s.heap.push (newSetObj led)).get? l = some { cls := .type "list", dict := odict, data := .seq items nl, slots := oslots } := Heap.get?_push_of_some _ hol
        have hsls := PySem.F.sub_list_set
        have hslf := PySem.F.sub_list_frozenset
        have hne : (Value.type "list" == Value.type "dict") = false := by decide
        have hl1 : (s.heap.push (newSetObj led)).IsList l items := ⟨_, hol', rfl, nl, rfl⟩
        unfold Builtin.«set.__init__» noKeywords Builtin.Frozenset.updateFrom
        generalize hPI : pyIter = PI
        wp_walk
        subst hPI
        refine wpAny_pyIter_list hl1 ?_
        refine wpAny_bind (wpAny_runValue ?_)
        have hlS : l < s.heap.objs.size := Heap.lt_size hol
        have hh3 : A.in1.in1.in1.handled = none := by simp [hh]
        have nI : l ≠ (s.heap.push (newSetObj led)).objs.size := by
          rw [Heap.size_push]
          exact Nat.ne_of_lt (Nat.lt_succ_of_lt hlS)
        have nS : s.heap.objs.size ∉ [(s.heap.push (newSetObj led)).objs.size, l] := by
          rw [Heap.size_push]
          simp only [List.mem_cons, List.not_mem_nil, or_false, not_or]
          exact ⟨Nat.ne_of_lt (Nat.lt_succ_self _), Nat.ne_of_gt hlS⟩
        refine loop_keys ((Walks.list hh3 _ l nI items).toS) s.heap.objs.size nS ks hsz.symm (by rw [hsz]; exact hb) hv items.size 0 0 (fun _ => false) _ (Nat.zero_add _) (Nat.le_refl _)
          ⟨⟨_, Heap.get?_push_size _ rfl, rfl, rfl⟩, hl1.push _⟩ ?hA ?hB
        case hA =>
          have hg : ((s.heap.push (newSetObj led)).push { cls := .type "list_iterator", data := .fields #[.ref l, .int 0 0] }).get? s.heap.objs.size = some (newSetObj led) := Heap.get?_push_of_some _ hS
          exact ⟨_, #[], 0, _, hg, ⟨rfl, rfl, rfl⟩, rfl, (fun e he => by simp at he), (fun k => by simp), (by decide), (by rfl), rfl⟩
        case hB =>
          intro s' T' m' mv hT' le eq
          obtain ⟨h', g', d', tk', os'⟩ := s'
          have eg : g' = s.gens := mv.gens
          have ed : d' = s.drawn := mv.drawn
          have eo : os' = s.os := mv.os
          subst eg
          subst ed
          subst eo
          show wpAny _ _ _ _ _ _
          refine wpAny_pure ?_
          show wpAny _ _ (ret Value.none) _ _ _
          refine wpAny_pure ⟨rfl, h', tk', T', m', rfl, hT', by omega, fun k => by rw [eq k]; rfl, fun b o hb e => ?_⟩
          refine mv.heap b o ?_ (Heap.get?_push_of_some _ (Heap.get?_push_of_some _ e))
          simp only [List.mem_cons, List.not_mem_nil, or_false, not_or]
          exact ⟨Nat.ne_of_lt hb, by rw [Heap.size_push]; exact Nat.ne_of_lt (Nat.lt_succ_of_lt hb)⟩
      · cases r₂ with
        | error e => exact hr₂
        | ok fl₂ =>
          cases fl₂ with
          | ret r =>
            obtain ⟨rfl, hf⟩ := hr₂
            repeat (any_goals (first | assumption | wp_step))
            exact q _ hf
          | _ => exact hr₂.elim
    | _ => exact hr.elim
end
/-- the keys of a list as values -/
theorem keys_vals {P : Program} {w : World} : ∀ {ks : List Key} {us : List Value}, Vals (ks.map kV) us → ∀ (i : Nat) (v : Value), us[i]? = some v → ∃ k, ks[i]? = some k ∧ (mixKind P w).is k v = true ∧ v.scannable = true
  | [], _, .nil, i, v, e => by simp at e
  | k :: ks, _, .cons r t, 0, v, e => by
    simp at e
    subst e
    exact ⟨k, rfl, kV_is r, key_scan r⟩
  | k :: ks, _, .cons r t, i + 1, v, e => by
    simp only [List.getElem?_cons_succ] at e ⊢
    exact keys_vals t i v e
section
variable {X : Cx}
/-- set(a list of texts) -/
def rSetTx (K : PySem.W.Frag) (P : Program) (w : World) : List V → Hp → VK → Prop := fun xs H Q => ∃ (l : Addr) (zs : List Str), xs = [.ref l] ∧ SqL K H l (zs.map V.str) ∧ zs.length < 1000 ∧
  ∀ a n T, H a = none → n ≤ zs.length → (∀ z, T (Sum.inr z) = decide (z ∈ zs)) → Q (.ref a) (upd H a (SetK P w a T n))
theorem cr_setTx (K : PySem.W.Frag) (hc : X.calm = true) (e : X.K = K := by rfl) : CallR X (.type "set") (rSetTx K X.prog X.w) := by
  subst e
  intro pins s σ H xs us Q I r h
  obtain ⟨l, zs, rfl, hl, hf, q⟩ := h
  rw [Vals.ref1 r]
  obtain ⟨its, rv, pl, hz⟩ := I.list hl
  have rv : Vals ((zs.map Sum.inr).map kV) its := by
    rw [List.map_map]
    exact rv
  have hle : its.length = zs.length := by rw [← rv.length, List.length_map, List.length_map]
  have hn : H s.heap.objs.size = none := I.hok.fresh (Nat.le_refl _)
  refine call_set_keys (ks := zs.map Sum.inr) (I.ok.hd hc) pl.isList (by rw [List.size_toArray, hle, List.length_map]) (fun i v e => keys_vals rv i v (by simpa using e)) (by rw [List.length_map]; unfold scanBound; omega) fun s2 F => ?_
  obtain ⟨h', tk, T, m, rfl, hT, hm, eT, k⟩ := F
  rw [List.length_map] at hm
  refine ⟨.ref s.heap.objs.size, upd H s.heap.objs.size (SetK X.prog X.w s.heap.objs.size T m), I.laid (t' := tk) (fun b o e => k b o (Heap.lt_size e) e) (Nat.le_refl _) (setK_new hT), rfl, q _ m T hn hm fun z => ?_⟩
  rw [eT, Bool.eq_iff_iff]
  simp [List.any_eq_true]
end
end Qk

/-! Qt: membership in sets, slices of texts, loops over texts, dict displays, bits -/
namespace Qk
open PySem PySem.Spec PyProof.Rows L2
/-! ### in, not in: also sets -/
def rInM (K : PySem.W.Frag) (P : Program) (w : World) : R2 := fun x y H Q => rInA K x y H Q ∨ rSInK P w false x y H Q
def rNotInM (K : PySem.W.Frag) (P : Program) (w : World) : R2 := fun x y H Q => rNotInA K x y H Q ∨ rSInK P w true x y H Q
section
variable {X : Cx}
theorem op_inM (K : PySem.W.Frag) (P : Program) (w : World) (hu : X.A.units + 64 < cLine) (hu' : X.A.units + 65 < cLine) (e : X.K = K := by rfl) (eP : X.prog = P := by rfl) (ew : X.w = w := by rfl) : OpR X (compareOp .In) (rInM K P w) := by
  subst e
  subst eP
  subst ew
  intro pins s σ H x y v u Q I rx ry h
  rcases h with h | h
  · exact op_inA hu hu' pins s σ H x y v u Q I rx ry h
  · exact or_sinK pins s σ H x y v u Q I rx ry h
theorem op_notinM (K : PySem.W.Frag) (P : Program) (w : World) (hu : X.A.units + 64 < cLine) (hu' : X.A.units + 65 < cLine) (e : X.K = K := by rfl) (eP : X.prog = P := by rfl) (ew : X.w = w := by rfl) : OpR X (compareOp .NotIn) (rNotInM K P w) := by
  subst e
  subst eP
  subst ew
  intro pins s σ H x y v u Q I rx ry h
  rcases h with h | h
  · exact op_notinA hu hu' pins s σ H x y v u Q I rx ry h
  · exact or_snotinK pins s σ H x y v u Q I rx ry h
/-- slices of lists, tuples, texts -/
def rSlM (K : PySem.W.Frag) : V → Option Int → Option Int → Hp → VK → Prop := fun x lo hi H Q => rSlB K x lo hi H Q ∨ rSlS x lo hi H Q
theorem sl_M (K : PySem.W.Frag) (e : X.K = K := by rfl) : SlR X (rSlM K) := by
  subst e
  intro pins s σ H x v vl vu lo hi sl Q I rx hs pl pu h
  rcases h with h | h
  · exact sl_all pins s σ H x v vl vu lo hi sl Q I rx hs pl pu h
  · exact sl_str pins s σ H x v vl vu lo hi sl Q I rx hs pl pu h
end
section
variable {K : PySem.W.Frag} {P : Program} {w : World} {σ : L2.St} {F : Hp} {O O' : Own} {H : Hp} {Q : VK} {x y v : V} {te ta tk tv : TE} {D : Ends} {ts : TS} {g : TG}
theorem g_inM (q : rInA K x y H Q) : rInM K P w x y H Q := .inl q
theorem g_notinM (q : rNotInA K x y H Q) : rNotInM K P w x y H Q := .inl q
theorem g_inK {a : Addr} {T : Key → Bool} {n : Nat} {k : Key} (ek : x = kV k) (h : H a = some (SetK P w a T n)) (q : Q (.bl (T k)) H) : rInM K P w x (.ref a) H Q := .inr ⟨k, a, T, n, ek, rfl, h, q⟩
theorem g_notinK {a : Addr} {T : Key → Bool} {n : Nat} {k : Key} (ek : x = kV k) (h : H a = some (SetK P w a T n)) (q : Q (.bl (!T k)) H) : rNotInM K P w x (.ref a) H Q := .inr ⟨k, a, T, n, ek, rfl, h, q⟩
theorem g_inC {c : Nat} {z : Str} (q : Q (.bl (decide (c ∈ z.cps.toList))) H) : rInA K (.str ⟨#[c]⟩) (.str z) H Q := .inr (.inl ⟨_, _, rfl, rfl, by rw [PySem.StrLaws.found_one z c]; exact q⟩)
theorem g_notinC {c : Nat} {z : Str} (q : Q (.bl (!decide (c ∈ z.cps.toList))) H) : rNotInA K (.str ⟨#[c]⟩) (.str z) H Q := .inr (.inl ⟨_, _, rfl, rfl, by rw [PySem.StrLaws.found_one z c]; exact q⟩)
theorem g_slM {lo hi : Option Int} (q : rSlB K x lo hi H Q) : rSlM K x lo hi H Q := .inl q
theorem g_slZ {z : Str} {lo hi : Option Int} (hl : z.length ≤ sizeLine) (q : Q (.str (cutS z lo hi)) H) : rSlM K (.str z) lo hi H Q := .inr ⟨z, rfl, hl, q⟩
/-! ### loops over a text -/
def kForS (g : TG) (tb : TS) (D : Ends) (σ : L2.St) (x : V) (H : Hp) : Prop := ∃ z, x = .str z ∧ kW (Its z) g tb D σ H
theorem g_forS (q : te σ H fun x H1 => kForS g ts D σ x H1) : tFor (iStr te) g ts D σ H := q
theorem k_forS {z : Str} (Pv : Nat → L2.St → Hp → Prop) (h0 : Pv 0 σ H)
    (hs : ∀ i c σ H, z.cps[i]? = some c → Pv i σ H → g (.str ⟨#[c]⟩) σ H fun σ2 H2 => ts { D with nx := Pv (i + 1), ct := Pv (i + 1), bk := D.nx } σ2 H2) (hd : ∀ σ H, Pv z.length σ H → D.nx σ H) : kForS g ts D σ (.str z) H := by
  refine ⟨z, rfl, fun i m σ H => m = z.length - i ∧ i ≤ z.length ∧ Pv i σ H, ⟨z.length, rfl, Nat.zero_le _, h0⟩, ?_⟩
  rintro i m σ H ⟨rfl, hi, p⟩
  by_cases hlt : i < z.length
  · refine .inr ⟨hlt, Pv (i + 1), fun σ' H' p' => ⟨z.length - (i + 1), by omega, rfl, hlt, p'⟩, fun x H' y => ?_⟩
    obtain ⟨e, c, hc, rfl⟩ := y
    subst e
    exact hs i c σ _ hc p
  · have e : i = z.length := by omega
    subst e
    exact .inl ⟨Nat.le_refl _, hd σ H p⟩
/-! ### {k: v} -/
def kDisp1 (p : Addr) (x y : V) (H : Hp) (Q : VK) : Prop := H p = some (.dK []) ∧ ∃ kvs : List (Key × V), [(x, y)] = kvs.map (fun kv => (kV kv.1, kv.2)) ∧ kvs.length ≤ 15 ∧ Q (.ref p) (upd H p (.dK (mergeK [] kvs)))
theorem g_disp1 (hH : Has F O H) (q : ∀ p H1, H p = none → Has F ((p, .dK []) :: O) H1 → tk σ H1 fun x H2 => tv σ H2 fun y H3 => kDisp1 p x y H3 Q) : tDisp [(tk, tv)] σ H Q := fun p n => q p _ n (hH.new n)
theorem g_kdisp1 {p : Addr} {z : V} {k : Key} (h : Has F ((p, .dK []) :: O) H) (ez : z = kV k) (q : ∀ H', Has F ((p, .dK [(k, y)]) :: O) H' → Q (.ref p) H') : kDisp1 p z y H Q := by
  subst ez
  exact ⟨h.get (List.Mem.head _), [(k, y)], rfl, Nat.succ_le_succ (Nat.zero_le _), q _ (h.put .hd)⟩
/-! ### sum, str, set -/
theorem cr_setTxK {X : Cx} (K : PySem.W.Frag) (P : Program) (w : World) (hc : X.calm = true) (e : X.K = K := by rfl) (eP : X.prog = P := by rfl) (ew : X.w = w := by rfl) : CallR X (.type "set") (rSetTx K P w) := by
  subst e
  subst eP
  subst ew
  exact cr_setTx _ hc
theorem g_sum {a : Addr} {ns : List Int} (h : H a = some (.lst (ns.map V.int))) (q : Q (.int ns.sum) H) : rSum K [.ref a] H Q := ⟨a, ns, rfl, SqL.of h, q⟩
def rStrI : List V → Hp → VK → Prop := fun xs H Q => ∃ i : Int, xs = [.int i] ∧ i.natAbs.log2 < 1920 ∧ Q (.str (toString i)) H
theorem cr_strI {X : Cx} : CallR X (.type "str") rStrI := call_str_int
theorem g_strI {i : Int} (h : i.natAbs.log2 < 1920) (q : Q (.str (toString i)) H) : rStrI [.int i] H Q := ⟨i, rfl, h, q⟩
theorem cr_sumK {X : Cx} (K : PySem.W.Frag) (hc : X.calm = true) (e : X.K = K := by rfl) : CallR X (.builtin "sum") (rSum K) := by subst e; exact cr_sum hc
theorem g_setOf {a : Addr} {zs : List Str} (h : H a = some (.lst (zs.map V.str))) (hl : zs.length < 1000) (hH : Has F O H) (q : ∀ p n T H', H p = none → (∀ z, T (Sum.inr z) = decide (z ∈ zs)) → Has F ((p, SetK P w p T n) :: O) H' → Q (.ref p) H') : rSetTx K P w [.ref a] H Q :=
  ⟨a, zs, rfl, SqL.of h, hl, fun p n T np _ eT => q p n T _ np eT (hH.new np)⟩
/-! ### methods of texts -/
def kM0 (r : V → List V → Hp → VK → Prop) (x : V) (H : Hp) (Q : VK) : Prop := (∃ a, x = .str a) ∧ r x [] H Q
theorem g_m0 {r : V → List V → Hp → VK → Prop} (q : ta σ H fun x H1 => kM0 r x H1 Q) : tM0 r ta σ H Q := q
theorem g_km0 {r : V → List V → Hp → VK → Prop} {z : Str} (q : r (.str z) [] H Q) : kM0 r (.str z) H Q := ⟨⟨z, rfl⟩, q⟩
end
/-! ### ways that meet, the rest of the way out of sight -/
theorem g_joinD {t : TS} {D : Ends} {σ : L2.St} {H : Hp} (M : L2.St → Hp → Prop) (h : ∀ σ' H', M σ' H' → D.nx σ' H') (q : ∀ nx' : L2.St → Hp → Prop, (∀ σ' H', M σ' H' → nx' σ' H') → t { D with nx := nx' } σ H) : t D σ H := q D.nx h
end Qk

/-! Qu: sets of keys that can be gone through: set(list), sorted(set), in -/
namespace Qk
open PySem PySem.Spec PyProof.Rows L2
/-- the entries of a set and their keys -/
structure KE (P : Program) (w : World) (es : Array (Int × Value)) (ks : List Key) : Prop where
  ex : ∃ kes : List (Key × (Int × Value)), (kes.map (·.2)).Perm es.toList ∧ (∀ p ∈ kes, (mixKind P w).is p.1 p.2.2 = true) ∧ kes.map (·.1) = ks
  nd : ks.Nodup
def KR (P : Program) (w : World) (h : Heap) (a : Addr) (T : Key → Bool) (n : Nat) : Prop :=
  ∃ (o : Obj) (es : Array (Int × Value)) (ep : Nat) (t : SetTable) (ks : List Key), h.get? a = some o ∧ o.ExactSet ∧ o.data = .set es ep t ∧ ElemsOf (mixKind P w) es.toList ∧ KE P w es ks ∧ (∀ k, T k = true ↔ k ∈ ks) ∧
    es.size < scanBound ∧ t.fits es.size = true ∧ es.size = n ∧ Ris t.place.toList ∧ (w.params.followText "set-order" = true ∨ t.led = true)
section
variable {P : Program} {w : World} {h h' : Heap} {a : Addr} {T : Key → Bool} {n : Nat}
theorem KE.mem {es : Array (Int × Value)} {ks : List Key} (e : KE P w es ks) (k : Key) : k ∈ ks ↔ ∃ x, x ∈ es.toList ∧ (mixKind P w).is k x.2 = true := by
  obtain ⟨kes, pm, hi, rfl⟩ := e.ex
  rw [List.mem_map]
  constructor
  · rintro ⟨p, hp, rfl⟩
    exact ⟨p.2, pm.mem_iff.mp (List.mem_map.mpr ⟨p, hp, rfl⟩), hi p hp⟩
  · rintro ⟨x, hx, hk⟩
    obtain ⟨p, hp, rfl⟩ := List.mem_map.mp (pm.mem_iff.mpr hx)
    exact ⟨p, hp, (mixKind P w).inj _ _ _ (hi p hp) hk⟩
theorem KE.len {es : Array (Int × Value)} {ks : List Key} (e : KE P w es ks) : ks.length = es.size := by
  obtain ⟨kes, pm, _, rfl⟩ := e.ex
  rw [List.length_map, ← Array.length_toList, ← pm.length_eq, List.length_map]
theorem KR.setOf (r : KR P w h a T n) : h.SetOf (mixKind P w) a T n := by
  obtain ⟨o, es, ep, t, ks, h1, h2, h3, h4, h5, h6, h7, h8, h9, _⟩ := r
  exact ⟨o, es, ep, t, h1, h2, h3, h4, fun k => (h6 k).trans (h5.mem k), h7, h8, h9⟩
theorem KR.at_ (r : KR P w h a T n) (s : ∀ o, h.get? a = some o → h'.get? a = some o) : KR P w h' a T n := by
  obtain ⟨o, es, ep, t, ks, h1, rest⟩ := r
  exact ⟨o, es, ep, t, ks, s _ h1, rest⟩
theorem KR.congr {T' : Key → Bool} (r : KR P w h a T n) (e : ∀ k, T' k = T k) : KR P w h a T' n := by
  have : T' = T := funext e
  rw [this]
  exact r
end
def SetQ (P : Program) (w : World) (a : Addr) (T : Key → Bool) (n : Nat) : HO := HO.ext fun h => KR P w h a T n
theorem setQ_get {X : Cx} {pins : List (Addr × Obj)} {σ : L2.St} {H : Hp} {s : Shared} {a : Addr} {T : Key → Bool} {n : Nat} (I : L2.Inv X pins σ H s) (ha : H a = some (SetQ X.prog X.w a T n)) : KR X.prog X.w s.heap a T n := (I.hok a _ ha).1
theorem setQ_new {P : Program} {w : World} {H : Hp} {h : Heap} {a : Addr} {T : Key → Bool} {n : Nat} (r : KR P w h a T n) : ObjOk P w H h a (SetQ P w a T n) := by
  obtain ⟨o, _, _, _, _, ho, _⟩ := id r
  exact ⟨r, ⟨o, ho⟩, fun h1 h2 r1 s => KR.at_ r1 s⟩
/-! ### one more key -/
section
variable {P : Program} {w : World} {A : Around} {E : Value → Shared → Prop} {s : Shared} {a : Addr}
theorem KE.push {es es1 : Array (Int × Value)} {ks : List Key} (e : KE P w es ks) {k : Key} {x : Value} {hx : Int} (hk : (mixKind P w).is k x = true) (nk : k ∉ ks) (pm : es1.toList.Perm (es.push (hx, x)).toList) : KE P w es1 (ks ++ [k]) := by
  obtain ⟨kes, p0, hi, rfl⟩ := e.ex
  refine ⟨⟨kes ++ [(k, (hx, x))], ?_, ?_, by rw [List.map_append]; rfl⟩, ?_⟩
  · rw [List.map_append]
    refine List.Perm.trans (List.Perm.append_right _ p0) ?_
    rw [Array.toList_push] at pm
    exact pm.symm
  · intro p hp
    rcases List.mem_append.mp hp with hp | hp
    · exact hi p hp
    · rw [List.mem_singleton.mp hp]; exact hk
  · rw [List.nodup_append]
    refine ⟨e.nd, List.nodup_cons.mpr ⟨fun h => (by cases h), List.nodup_nil⟩, fun x hx y hy e => ?_⟩
    rw [List.mem_singleton.mp hy] at e
    exact nk (e ▸ hx)
theorem KE.perm {es es1 : Array (Int × Value)} {ks : List Key} (e : KE P w es ks) (pm : es1.toList.Perm es.toList) : KE P w es1 ks := by
  obtain ⟨kes, p0, hi, ek⟩ := e.ex
  exact ⟨⟨kes, p0.trans pm.symm, hi, ek⟩, e.nd⟩
theorem kr_tail {g : Bool → Sem Unit} (hg : ∀ (b : Bool) (s₁ : Shared) (Q' : Unit → Shared → Prop), Q' () s₁ → wpAny (model P w) A (g b) Q' E s₁) {o : Obj} {es : Array (Int × Value)} {ep : Nat} {t : SetTable}
    (ho : s.heap.get? a = some o) (hx : o.ExactSet) (hd : o.data = .set es ep t) {es1 : Array (Int × Value)} {t2 : SetTable} {T' : Key → Bool} {ks : List Key}
    (he : ElemsOf (mixKind P w) es1.toList) (hk : KE P w es1 ks) (hT : ∀ k, T' k = true ↔ k ∈ ks) (hsz : es1.size < scanBound) (hf : t2.fits es1.size = true) (hr : Ris t2.place.toList) (hl : w.params.followText "set-order" = true ∨ t2.led = true)
    {wasDummy : Bool} {R : Option Bool → Shared → Prop} (q : ∀ h', Heap.SameBut a s.heap h' → KR P w h' a T' es1.size → R (some true) { s with heap := h' }) :
    wpAny (model P w) A (do
      storeSet a es1 t2
      if (!wasDummy && t2.tooFull) = true then do
          g (relayAll t2 es1 (SetTable.grown es1.size)).snd.snd
          storeSet a (relayAll t2 es1 (SetTable.grown es1.size)).fst (relayAll t2 es1 (SetTable.grown es1.size)).snd.fst
          pure (some true)
        else pure (some true)) R E s := by
  refine wpAny_bind (wpAny_storeSet_of ho hd ?_ (fits_of_scanBound hsz))
  have h1 := store_at (es' := es1) (t' := t2) ho hd
  have b1 := Heap.SameBut.update s.heap a (Obj.putSet es1 t2)
  split
  · refine wpAny_bind (hg _ _ _ ?_)
    have pm := relayAll_perm t2 es1 (SetTable.grown es1.size)
    have fit := relayAll_fits t2 es1 (SetTable.grown es1.size)
    have ris := relayAll_ris t2 es1 (SetTable.grown es1.size)
    have led := relayAll_led t2 es1 (SetTable.grown es1.size)
    generalize relayAll t2 es1 (SetTable.grown es1.size) = rl at pm fit ris led
    obtain ⟨es2, t3, gv⟩ := rl
    have es_sz : es2.size = es1.size := by
      have := pm.length_eq
      rwa [Array.length_toList, Array.length_toList] at this
    refine wpAny_bind (wpAny_storeSet_of h1 rfl ?_ (fits_of_scanBound (by show es2.size < _; omega)))
    refine wpAny_pure (q _ (b1.trans (Heap.SameBut.update _ a _)) ?_)
    refine ⟨_, es2, ep + 1 + 1, t3, ks, store_at (es' := es2) (t' := t3) h1 rfl, ⟨hx.1, hx.2.1, hx.2.2⟩, rfl, he.perm pm, hk.perm pm, hT, by omega, fit, es_sz, ris, ?_⟩
    rcases hl with hl | hl
    · exact .inl hl
    · exact .inr (led.trans hl)
  · exact wpAny_pure (q _ b1 ⟨_, es1, ep + 1, t2, ks, h1, ⟨hx.1, hx.2.1, hx.2.2⟩, rfl, he, hk, hT, hsz, hf, rfl, hr, hl⟩)
theorem kr_add {T : Key → Bool} {n : Nat} {k : Key} {x : Value} {Q : Bool → Shared → Prop} (his : (mixKind P w).is k x = true) (hsc : x.scannable = true) (hT : KR P w s.heap a T n) (hn : n + 1 < scanBound)
    (q : ∀ h', Heap.SameBut a s.heap h' → KR P w h' a (fun k' => T k' || decide (k' = k)) (if T k = true then n else n + 1) → Q (!T k) { s with heap := h' }) : wpAny (model P w) A (setAddHashed a x ((mixKind P w).hash k)) Q E s := by
  obtain ⟨o, es, ep, t, ks, ho, hx, hd, he, hk, hT', hsz, hf, hn', hr, hl⟩ := hT
  unfold setAddHashed
  refine wpAny_holding ?_
  rw [setAddHashedIn.eq_def]
  dsimp only
  refine wpAny_bind (wpAny_setState_of ho hd hf ?_)
  dsimp only
  rw [if_pos (byScan_of (knd := mixKind P w) hsc hsz he)]
  refine wpAny_bind ?_
  unfold setAddByScan
  refine wpAny_bind (wpAny_rule ?_)
  refine wpAny_bind (wpAny_setScan_of (knd := mixKind P w) his ho hd hf he ?_)
  cases hfi : List.findIdx? (fun e => (mixKind P w).is k e.2) es.toList with
  | some j =>
    have hk1 : T k = true := by
      rw [hT' k, hk.mem k]
      have h1 := List.findIdx?_eq_some_iff_getElem.mp hfi
      obtain ⟨hj, hp, _⟩ := h1
      exact ⟨_, List.getElem_mem hj, hp⟩
    dsimp only
    refine wpAny_pure ?_
    dsimp only
    refine wpAny_pure ?_
    have q' := q s.heap (Heap.SameBut.refl _ _) ?_
    · rw [hk1] at q'
      exact q'
    · rw [if_pos hk1]
      refine KR.congr ⟨o, es, ep, t, ks, ho, hx, hd, he, hk, hT', hsz, hf, hn', hr, hl⟩ fun k' => ?_
      by_cases e : k' = k
      · rw [e, hk1]; rfl
      · rw [decide_eq_false e, Bool.or_false]
  | none =>
    have hk0 : T k = false := by
      cases e : T k with
      | false => rfl
      | true =>
        obtain ⟨x', hx', hi'⟩ := (hk.mem k).mp ((hT' k).mp e)
        have := List.findIdx?_eq_none_iff.mp hfi x' hx'
        rw [hi'] at this
        cases this
    have nk : k ∉ ks := fun m => by
      have := (hT' k).mpr m
      rw [hk0] at this
      cases this
    dsimp only
    have pm := layNew_perm t es ((mixKind P w).hash k) x
    have fit := layNew_fits t es ((mixKind P w).hash k) x
    have ris := layNew_ris t es ((mixKind P w).hash k) x hr
    have led := layNew_led t es ((mixKind P w).hash k) x
    generalize layNew t es ((mixKind P w).hash k) x = ln at pm fit ris led
    obtain ⟨es1, t1, wd, gv⟩ := ln
    dsimp only at pm fit ris led ⊢
    have sz1 : es1.size = es.size + 1 := by
      have := pm.length_eq
      rwa [Array.length_toList, Array.length_toList, Array.size_push] at this
    have he1 : ElemsOf (mixKind P w) es1.toList := by
      have := he.push his hsc
      rw [← Array.toList_push] at this
      exact this.perm pm
    have hk1 := hk.push his nk pm
    have hT1 : ∀ k', (T k' || decide (k' = k)) = true ↔ k' ∈ ks ++ [k] := fun k' => by
      rw [Bool.or_eq_true, decide_eq_true_eq, hT' k', List.mem_append, List.mem_singleton]
    have hsz1 : es1.size < scanBound := by omega
    have led1 : w.params.followText "set-order" = true ∨ t1.led = true := by
      rcases hl with hl | hl
      · exact .inl hl
      · exact .inr (led.trans hl)
    rw [hk0] at q
    have fin : ∀ h', Heap.SameBut a s.heap h' → KR P w h' a (fun k' => T k' || decide (k' = k)) es1.size → Q true { s with heap := h' } := fun h' b r => q h' b (by rw [sz1, hn'] at r; exact r)
    have tl : ∀ b : Bool, (if b = true then t1 else { t1 with plain := false }).fits es1.size = true ∧ Ris (if b = true then t1 else { t1 with plain := false }).place.toList ∧ (w.params.followText "set-order" = true ∨ (if b = true then t1 else { t1 with plain := false }).led = true) := fun b => by
      cases b
      · exact ⟨SetTable.fits_plain_off fit, ris, led1⟩
      · exact ⟨fit, ris, led1⟩
    refine wpAny_bind ?_
    cases gv <;> (first | refine wpAny_pure ?_ | refine wpAny_rule ?_)
    all_goals
      split
      · rw [hashByValue_scannable _ hsc]
        refine wpAny_bind (wpAny_pure ?_)
        refine kr_tail ?_ ho hx hd he1 hk1 hT1 hsz1 (tl _).1 (tl _).2.1 (tl _).2.2 (fun h' sb r => ?_)
        · intro b s₁ Q' h
          cases b <;> (first | exact wpAny_pure h | exact wpAny_rule h)
        · exact wpAny_pure (fin h' sb r)
      · refine wpAny_bind (wpAny_pure ?_)
        refine kr_tail ?_ ho hx hd he1 hk1 hT1 hsz1 (tl true).1 (tl true).2.1 (tl true).2.2 (fun h' sb r => ?_)
        · intro b s₁ Q' h
          cases b <;> (first | exact wpAny_pure h | exact wpAny_rule h)
        · exact wpAny_pure (fin h' sb r)
end
theorem code_set_led1 {P : Program} {w : World} {A : Around} {E : Value → Shared → Prop} {s : Shared} (a : Value) {Q₁ : Value → Shared → Prop}
    (q : Q₁ (.ref s.heap.objs.size) { s with heap := s.heap.push { cls := .type "set", data := .set #[] 0 (.fresh 0 0 !w.params.followText "set-order") } }) :
    codeAny (model P w) A (.call (.builtin "set.__new__") ⟨[.type "set", a], []⟩) (wants Q₁ E) s := by
  refine codeAny_of_tree ?_
  show wpAny _ _ (_ >>= _) _ _ _
  refine wpAny_bind ?_
  refine wpAny_of_eq (PySem.F.newCall_set_1 a) ?_
  refine wpAny_pure ?_
  refine ⟨plainId_quiet F.plain_set_new _, codeAny_builtin F.entry_set_new ?_⟩
  rw [Around.under_plainId F.plain_set_new _]
  show wpAny _ _ (Builtin.«set.__new__» _) _ _ _
  unfold Builtin.«set.__new__» Builtin.Frozenset.newClass newSet
  dsimp only
  have hs := @PySem.sub_set_self
  repeat (any_goals (first | assumption | wp_step))
  refine wpAny_askSetting ?_
  refine wpAny_pure ?_
  dsimp only
  unfold newObj
  repeat (any_goals (first | assumption | wp_step))

/-! ### set(a list of keys) -/
section
variable {prog : Program} {w : World} {A : Around} {R : Result → Shared → Prop} {I : Addr} {fp wr : List Addr} {G : Array GenState → Array GenState → Prop} {n : Nat} {P : Nat → Value → Prop} {St : Nat → Shared → Prop}
/-- the loop puts in all keys from the i-th on -/
theorem loop_keysQ (W : WalksS prog w A.in1 I fp wr G n P St) (D : Addr) (hD : D ∉ fp) (ks : List Key) (hn : ks.length = n) (hb : n + 1 < scanBound)
    (hv : ∀ i v, P i v → ∃ k, ks[i]? = some k ∧ (mixKind prog w).is k v = true ∧ v.scannable = true) :
    ∀ (d i m : Nat) (T : Key → Bool) (s : Shared), i + d = n → m ≤ i → St i s → KR prog w s.heap D T m →
      (∀ s' T' m', Moved (D :: wr) G s s' → KR prog w s'.heap D T' m' → m' ≤ n → (∀ k, T' k = (T k || (ks.drop i).any fun j => decide (k = j))) → R (.ok (.ret .none)) s') →
      codeAny (model prog w) A (.builtin "set.update.loop" ⟨[.ref D, .ref I], []⟩) R s
  | 0, i, m, T, s, e, hm, st, hT, q => by
    refine codeAny_builtin F.entry_set_update_loop ?_
    rw [Around.under_plainId F.plain_set_update_loop _]
    show wpAny _ A.in1 (pyNext (.ref I) >>= _) _ _ s
    rw [Nat.add_zero] at e
    subst e
    refine wpAny_bind (W.done s _ _ st fun s1 mv => ?_)
    show wpAny _ A.in1 (ret Value.none) _ _ s1
    refine wpAny_pure (q s1 T m (mv.mono fun b hb => List.mem_cons_of_mem _ hb) (hT.at_ fun o ho => mv.heap D _ (fun z => hD (W.sub _ z)) ho) hm fun k => ?_)
    rw [← hn, List.drop_length]
    simp
  | d + 1, i, m, T, s, e, hm, st, hT, q => by
    refine codeAny_builtin F.entry_set_update_loop ?_
    rw [Around.under_plainId F.plain_set_update_loop _]
    show wpAny _ A.in1 (pyNext (.ref I) >>= _) _ _ s
    have hi : i < n := by omega
    refine wpAny_bind (W.item i s _ _ hi st fun v s1 pv st1 mv => ?_)
    obtain ⟨k, ek, his, hsc⟩ := hv i v pv
    have hT1 : KR prog w s1.heap D T m := hT.at_ fun o ho => mv.heap D _ (fun z => hD (W.sub _ z)) ho
    show wpAny _ A.in1 (holding [v] (setAdd D v) >>= _) _ _ s1
    refine wpAny_bind (wpAny_holding ?_)
    unfold setAdd
    refine wpAny_holding ?_
    refine wpAny_bind ((mixKind prog w).pyHash his ?_)
    refine kr_add (s := { s1 with toks := s1.toks + 1 }) his hsc hT1 (by omega) fun h2 sb hT2 => ?_
    refine wpAny_pure ⟨plainId_quiet F.plain_set_update_loop _, loop_keysQ W D hD ks hn hb hv d (i + 1) _ _ _ (by omega) ?_ (W.frame _ s1 _ _ st1 (Nat.le_succ _) fun b hb o e => ?_) hT2 fun s3 T3 m3 mv3 hT3 le eq => ?_⟩
    · split <;> omega
    · rw [sb.2 b (fun z => hD (by rw [← z]; exact hb))]
      exact e
    · refine q s3 T3 m3 (Moved.trans W.gtrans ((mv.mono fun b hb => List.mem_cons_of_mem _ hb).then_heap (Nat.le_succ _) fun b o hb e => ?_) mv3) hT3 le fun k' => ?_
      · rw [sb.2 b (fun z => hb (by rw [z]; exact List.mem_cons_self))]
        exact e
      · rw [eq k']
        have hlt : i < ks.length := by omega
        have ek' : ks[i] = k := by rw [List.getElem?_eq_getElem hlt] at ek; exact Option.some.inj ek
        rw [List.drop_eq_getElem_cons hlt, ek', Bool.or_assoc]
        congr 1
end
section
variable {prog : Program} {w : World} {A : Around} {E : Value → Shared → Prop} {s : Shared}
def newSetQ (w : World) : Obj := { cls := .type "set", dict := none, data := .set #[] 0 (.fresh 0 0 !w.params.followText "set-order") }
/-- what the filling of the new set leaves -/
def FilledQ (prog : Program) (w : World) (ks : List Key) (s s2 : Shared) : Prop := ∃ h' tk T m, s2 = { s with heap := h', toks := tk } ∧ KR prog w h' s.heap.objs.size T m ∧ m ≤ ks.length ∧
  (∀ k, T k = ks.any fun j => decide (k = j)) ∧ ∀ b o, b < s.heap.objs.size → s.heap.get? b = some o → h'.get? b = some o
set_option maxHeartbeats 4000000 in
theorem call_set_keysQ {l : Addr} {items : Array Value} {ks : List Key} {Q : Value → Shared → Prop} (hh : A.handled = none) (hl : s.heap.IsList l items) (hsz : items.size = ks.length)
    (hv : ∀ (i : Nat) (v : Value), items[i]? = some v → ∃ k, ks[i]? = some k ∧ (mixKind prog w).is k v = true ∧ v.scannable = true) (hb : ks.length + 1 < scanBound) (q : ∀ s2, FilledQ prog w ks s s2 → Q (.ref s.heap.objs.size) s2) :
    wpAny (model prog w) A (call (.type "set") [.ref l]) Q E s := by
  obtain ⟨c, tl, hmro⟩ := PySem.F.called_set.mro
  have hmade := PySem.F.called_set.made
  have hsub := PySem.F.called_set.sub
  have h1 := PySem.F.called_set.notType
  have h2 := PySem.F.called_set.canCreate
  have hct := PySem.F.typeCall_set_1 (.ref l)
  refine wpAny_call (codeAny_of_tree ?_)
  show wpAny _ _ (callAny (.type "set") _) _ _ _
  refine wpAny_pure ⟨Code.quiet_builtin _ (by decide +kernel), codeAny_builtin PySem.F.entry_type_call ?_⟩
  rw [Around.under_plain (weight_type_call_type "set" [.ref l] []) rfl]
  repeat (any_goals (first | assumption | wp_step))
  refine codeAny_mono (code_set_led1 (.ref l) (E := E) (Q₁ := fun obj s₁ => obj = .ref s.heap.objs.size ∧ s₁ = { s with heap := s.heap.push (newSetQ w) }) ⟨rfl, rfl⟩) fun r s₁ hr => ?_
  cases r with
  | error e => exact hr
  | ok fl =>
    cases fl with
    | ret obj =>
      obtain ⟨rfl, rfl⟩ := hr
      have hS : (s.heap.push (newSetQ w)).get? s.heap.objs.size = some (newSetQ w) := Heap.get?_push_size _ rfl
      have hT : Shared.TypeIs { s with heap := s.heap.push (newSetQ w) } (.ref s.heap.objs.size) "set" := ⟨_, hS, rfl⟩
      have hli := PySem.F.called_set.init.lookup
      have hbi := PySem.F.called_set.init.bind (.ref s.heap.objs.size)
      repeat (any_goals (first | assumption | wp_step))
      refine codeAny_mono (codeAny_call_builtin (R := wants (fun r s₂ => r = .none ∧ FilledQ prog w ks s s₂) E) PySem.F.called_set.init.plain PySem.F.entry_set_init (check_set_init_1 hT ?_)) fun r₂ s₂ hr₂ => ?_
      · obtain ⟨ol, hol, hcl, nl, hdl⟩ := hl
        obtain ⟨ocls, odict, odata, oslots⟩ := ol
        simp only at hcl hdl
        subst hcl
        subst hdl
        have hol' : (s.heap.push (newSetQ w)).get? l = some { cls := .type "list", dict := odict, data := .seq items nl, slots := oslots } := Heap.get?_push_of_some _ hol
        have hsls := PySem.F.sub_list_set
        have hslf := PySem.F.sub_list_frozenset
        have hne : (Value.type "list" == Value.type "dict") = false := by decide
        have hl1 : (s.heap.push (newSetQ w)).IsList l items := ⟨_, hol', rfl, nl, rfl⟩
        unfold Builtin.«set.__init__» noKeywords Builtin.Frozenset.updateFrom
        generalize hPI : pyIter = PI
        wp_walk
        subst hPI
        refine wpAny_pyIter_list hl1 ?_
        refine wpAny_bind (wpAny_runValue ?_)
        have hlS : l < s.heap.objs.size := Heap.lt_size hol
        have hh3 : A.in1.in1.in1.handled = none := by simp [hh]
        have nI : l ≠ (s.heap.push (newSetQ w)).objs.size := by
          rw [Heap.size_push]
          exact Nat.ne_of_lt (Nat.lt_succ_of_lt hlS)
        have nS : s.heap.objs.size ∉ [(s.heap.push (newSetQ w)).objs.size, l] := by
          rw [Heap.size_push]
          simp only [List.mem_cons, List.not_mem_nil, or_false, not_or]
          exact ⟨Nat.ne_of_lt (Nat.lt_succ_self _), Nat.ne_of_gt hlS⟩
        refine loop_keysQ ((Walks.list hh3 _ l nI items).toS) s.heap.objs.size nS ks hsz.symm (by rw [hsz]; exact hb) hv items.size 0 0 (fun _ => false) _ (Nat.zero_add _) (Nat.le_refl _)
          ⟨⟨_, Heap.get?_push_size _ rfl, rfl, rfl⟩, hl1.push _⟩ ?hA ?hB
        case hA =>
          have hg : ((s.heap.push (newSetQ w)).push { cls := .type "list_iterator", data := .fields #[.ref l, .int 0 0] }).get? s.heap.objs.size = some (newSetQ w) := Heap.get?_push_of_some _ hS
          refine ⟨_, #[], 0, _, [], hg, ⟨rfl, rfl, rfl⟩, rfl, (fun e he => by simp at he), ⟨⟨[], List.Perm.refl _, (fun p h => by cases h), rfl⟩, List.nodup_nil⟩, (fun k => by simp), (by decide), (by rfl), rfl, List.Pairwise.nil, ?_⟩
          show _ ∨ (!w.params.followText "set-order") = true
          cases w.params.followText "set-order" <;> simp
        case hB =>
          intro s' T' m' mv hT' le eq
          obtain ⟨h', g', d', tk', os'⟩ := s'
          have eg : g' = s.gens := mv.gens
          have ed : d' = s.drawn := mv.drawn
          have eo : os' = s.os := mv.os
          subst eg
          subst ed
          subst eo
          show wpAny _ _ _ _ _ _
          refine wpAny_pure ?_
          show wpAny _ _ (ret Value.none) _ _ _
          refine wpAny_pure ⟨rfl, h', tk', T', m', rfl, hT', by omega, fun k => by rw [eq k]; rfl, fun b o hb e => ?_⟩
          refine mv.heap b o ?_ (Heap.get?_push_of_some _ (Heap.get?_push_of_some _ e))
          simp only [List.mem_cons, List.not_mem_nil, or_false, not_or]
          exact ⟨Nat.ne_of_lt hb, by rw [Heap.size_push]; exact Nat.ne_of_lt (Nat.lt_succ_of_lt hb)⟩
      · cases r₂ with
        | error e => exact hr₂
        | ok fl₂ =>
          cases fl₂ with
          | ret r =>
            obtain ⟨rfl, hf⟩ := hr₂
            repeat (any_goals (first | assumption | wp_step))
            exact q _ hf
          | _ => exact hr₂.elim
    | _ => exact hr.elim
end
section
variable {X : Cx}
/-- set(a list of texts), to be gone through -/
def rSetTQ (K : PySem.W.Frag) (P : Program) (w : World) : List V → Hp → VK → Prop := fun xs H Q => ∃ (l : Addr) (zs : List Str), xs = [.ref l] ∧ SqL K H l (zs.map V.str) ∧ zs.length < 1000 ∧
  ∀ a n T, H a = none → n ≤ zs.length → (∀ k, T k = true ↔ ∃ z, k = Sum.inr z ∧ z ∈ zs) → Q (.ref a) (upd H a (SetQ P w a T n))
theorem cr_setTQ (K : PySem.W.Frag) (P : Program) (w : World) (hc : X.calm = true) (e : X.K = K := by rfl) (eP : X.prog = P := by rfl) (ew : X.w = w := by rfl) : CallR X (.type "set") (rSetTQ K P w) := by
  subst e
  subst eP
  subst ew
  intro pins s σ H xs us Q I r h
  obtain ⟨l, zs, rfl, hl, hf, q⟩ := h
  rw [Vals.ref1 r]
  obtain ⟨its, rv, pl, hz⟩ := I.list hl
  have rv : Vals ((zs.map Sum.inr).map kV) its := by
    rw [List.map_map]
    exact rv
  have hle : its.length = zs.length := by rw [← rv.length, List.length_map, List.length_map]
  have hn : H s.heap.objs.size = none := I.hok.fresh (Nat.le_refl _)
  refine call_set_keysQ (ks := zs.map Sum.inr) (I.ok.hd hc) pl.isList (by rw [List.size_toArray, hle, List.length_map]) (fun i v e => keys_vals rv i v (by simpa using e)) (by rw [List.length_map]; unfold scanBound; omega) fun s2 F => ?_
  obtain ⟨h', tk, T, m, rfl, hT, hm, eT, k⟩ := F
  rw [List.length_map] at hm
  refine ⟨.ref s.heap.objs.size, upd H s.heap.objs.size (SetQ X.prog X.w s.heap.objs.size T m), I.laid (t' := tk) (fun b o e => k b o (Heap.lt_size e) e) (Nat.le_refl _) (setQ_new hT), rfl, q _ m T hn hm fun z => ?_⟩
  rw [eT, List.any_eq_true]
  constructor
  · rintro ⟨x, hx, e⟩
    obtain ⟨z', hz', rfl⟩ := List.mem_map.mp hx
    exact ⟨z', of_decide_eq_true e, hz'⟩
  · rintro ⟨z', rfl, hz'⟩
    exact ⟨_, List.mem_map.mpr ⟨z', hz', rfl⟩, decide_eq_true rfl⟩
end
end Qk

/-! Qv: sorted(a set of texts), in, not in -/
namespace Qk
open PySem PySem.Spec PyProof.Rows L2
section
variable {P : Program} {w : World} {A : Around} {E : Value → Shared → Prop} {s : Shared} {a : Addr} {T : Key → Bool} {n : Nat} {Q : Value → Shared → Prop}
theorem strs_of : ∀ (l : List Value) (zs : List Str), l.length = zs.length → (∀ i (h : i < l.length) (h' : i < zs.length), ∃ tk, l[i] = .str zs[i] tk) → StrsAre l zs
  | [], [], _, _ => .nil
  | [], _ :: _, e, _ => by cases e
  | _ :: _, [], e, _ => by cases e
  | v :: l, z :: zs, e, h => by
    obtain ⟨tk, hv⟩ := h 0 (Nat.zero_lt_succ _) (Nat.zero_lt_succ _)
    have hv : v = .str z tk := hv
    subst hv
    exact .cons z tk (strs_of l zs (by simpa using e) fun i h1 h2 => h (i + 1) (Nat.succ_lt_succ h1) (Nat.succ_lt_succ h2))
/-- values whose keys are all texts -/
theorem strs_ex : ∀ (l : List Value), (∀ v ∈ l, ∃ z tk, v = .str z tk) → ∃ zs, StrsAre l zs
  | [], _ => ⟨[], .nil⟩
  | v :: l, h => by
    obtain ⟨z, tk, rfl⟩ := h v List.mem_cons_self
    obtain ⟨zs, hz⟩ := strs_ex l fun u hu => h u (List.mem_cons_of_mem _ hu)
    exact ⟨z :: zs, .cons z tk hz⟩
theorem strs_len {l : List Value} {zs : List Str} (h : StrsAre l zs) : zs.length = l.length := by
  induction h with
  | nil => rfl
  | cons y t r ih => simp [ih]
theorem is_text {z : Str} {v : Value} (h : (mixKind P w).is (Sum.inr z) v = true) : ∃ tk, v = .str z tk := by
  have h : keyIs (Sum.inr z) v = true := h
  have h : v.isStrOf z = true := h
  cases v <;> simp [Value.isStrOf] at h ⊢
  exact h
/-- the texts of values, found by their keys -/
theorem strs_keys : ∀ (l : List (Key × (Int × Value))), (∀ p ∈ l, (mixKind P w).is p.1 p.2.2 = true) → (∀ p ∈ l, ∃ z, p.1 = Sum.inr z) → ∃ zs, StrsAre (l.map (·.2.2)) zs ∧ l.map (·.1) = zs.map Sum.inr
  | [], _, _ => ⟨[], .nil, rfl⟩
  | p :: l, h1, h2 => by
    obtain ⟨z, ez⟩ := h2 p List.mem_cons_self
    have hi := h1 p List.mem_cons_self
    rw [ez] at hi
    obtain ⟨tk, ev⟩ := is_text hi
    obtain ⟨zs, hz, e⟩ := strs_keys l (fun q hq => h1 q (List.mem_cons_of_mem _ hq)) fun q hq => h2 q (List.mem_cons_of_mem _ hq)
    refine ⟨z :: zs, ?_, ?_⟩
    · rw [List.map_cons, ev]
      exact .cons z tk hz
    · rw [List.map_cons, ez, e]
      rfl
theorem StrsAre.perm {l l' : List Value} (pm : l.Perm l') : ∀ {zs : List Str}, StrsAre l zs → ∃ zs', StrsAre l' zs' ∧ zs.Perm zs' := by
  induction pm with
  | nil => intro zs h; exact ⟨zs, h, List.Perm.refl _⟩
  | cons x _ ih =>
    intro zs h
    cases h with
    | cons y t r =>
      obtain ⟨zs', h', p⟩ := ih r
      exact ⟨y :: zs', .cons y t h', p.cons y⟩
  | swap x y l =>
    intro zs h
    cases h with
    | cons a t r =>
      cases r with
      | cons b t' r => exact ⟨_, .cons b t' (.cons a t r), List.Perm.swap _ _ _⟩
  | trans _ _ ih1 ih2 =>
    intro zs h
    obtain ⟨z1, h1, p1⟩ := ih1 h
    obtain ⟨z2, h2, p2⟩ := ih2 h1
    exact ⟨z2, h2, p1.trans p2⟩
theorem sorted_setQ (R : KR P w s.heap a T n) (hh : A.handled = none) (hn : n < 64) (ht : ∀ k, T k = true → ∃ z, k = Sum.inr z)
    (q : ∀ (s' : Shared) (p : Nat) (out : Array Value) (c : Nat) (zs : List Str), (∀ (b : Addr) (o : Obj), s.heap.get? b = some o → s'.heap.get? b = some o) → s'.gens = s.gens → s'.os = s.os → s.heap.objs.size ≤ p →
      s'.heap.get? p = some (seqObj "list" out c) → StrsAre out.toList zs → sortedS zs = true → zs.Nodup → (∀ z, z ∈ zs ↔ T (Sum.inr z) = true) → zs.length = n → Q (.ref p) s') :
    wpAny (model P w) A (call (.builtin "sorted") [.ref a]) Q E s := by
  obtain ⟨o, es, ep, t, ks, ho, hx, hd, he, hk, hT, hsz, hf, hn', hr, hl⟩ := R
  obtain ⟨kes, pm, hi, ek⟩ := hk.ex
  refine Calls.call_function_entry kind_sorted plain_sorted entry_sorted (args_sorted1 _) ?_
  unfold Builtin.sorted
  refine wpAny_bind (wpAny_pure ?_)
  refine wpAny_bind (collect_set (by simpa using hh) ⟨o, ho, hx.1, hd⟩ hf hsz hr hl fun s1 out k1 z1 g1 o1 p1 => ?_)
  have hall : ∀ p ∈ kes, ∃ z, p.1 = Sum.inr z := fun p hp => ht _ ((hT _).mpr (by rw [← ek]; exact List.mem_map.mpr ⟨p, hp, rfl⟩))
  obtain ⟨zs, hz, ez⟩ := strs_keys kes hi hall
  have pv : (kes.map (·.2.2)).Perm out := by
    have := pm.map (·.2)
    rw [List.map_map] at this
    exact this.trans p1.symm
  obtain ⟨zs', hz', pz⟩ := StrsAre.perm pv hz
  have lo : out.length = n := by rw [p1.length_eq, List.length_map, Array.length_toList, hn']
  refine wpAny_bind (wpAny_newList ?_ (by rw [lo, sizeLine_eq]; omega))
  refine wpAny_bind (wpAny_holding ?_)
  have hp : (s1.heap.push { cls := Value.type "list", data := Data.seq out.toArray }).get? s1.heap.objs.size = some (seqObj "list" out.toArray 0) := Heap.get?_push_size _ rfl
  refine wpAny_call_entry slot_list_sort ⟨_, hp, rfl⟩ entry_list_sort ?_ (args_list_sort _)
  refine list_sort_treeK strKind_oneLt hp hz'.keysOf (fun v1 v2 rest e => by subst e; exact keyKind_strs hz') (by omega) fun st' pa so => ?_
  obtain ⟨ss, h1, h2, h3⟩ := sorted_out_str hz' pa so
  refine ⟨.none, rfl, ?_⟩
  refine wpAny_pure ⟨_, rfl, ?_⟩
  obtain ⟨c, hc⟩ := sortedHeap_at (out := Array.map (fun x => x.snd) (arrOf st')) hp
  have nds : ss.Nodup := by
    have nz : zs.Nodup := by
      have := hk.nd
      rw [← ek, ez] at this
      exact (List.pairwise_map.mp this).imp fun h e => h (by rw [e])
    exact (h2.trans pz.symm).nodup_iff.mpr nz
  refine q _ s1.heap.objs.size _ c ss (fun b u e => ?_) g1 o1 z1 hc h1 h3 nds (fun z => ?_) ?_
  · have e1 := k1 b u e
    have l1 := Heap.lt_size e1
    have e2 := sortedHeap_old (h := s1.heap.push { cls := Value.type "list", data := Data.seq out.toArray }) (vs := out) (out := Array.map (fun x => x.snd) (arrOf st')) (Nat.ne_of_lt l1) (by rw [size_push']; exact Nat.lt_succ_of_lt l1)
    exact e2.trans (Heap.get?_push_of_some _ e1)
  · rw [h2.mem_iff, ← pz.mem_iff, hT, ← ek, ez, List.mem_map]
    constructor
    · intro h
      exact ⟨z, h, rfl⟩
    · rintro ⟨z', h, e⟩
      injection e with e
      rw [← e]
      exact h
  · rw [h2.length_eq, strs_len hz', lo]
end
/-! ### the rules -/
def rSortQ (P : Program) (w : World) : List V → Hp → VK → Prop := fun xs H Q => ∃ (a : Addr) (T : Key → Bool) (n : Nat), xs = [.ref a] ∧ H a = some (SetQ P w a T n) ∧ n < 64 ∧ (∀ k, T k = true → ∃ z, k = Sum.inr z) ∧
  ∀ (zs : List Str) (p : Addr), sortedS zs = true → zs.Nodup → (∀ z, z ∈ zs ↔ T (Sum.inr z) = true) → zs.length = n → H p = none → Q (.ref p) (upd H p (.lst (zs.map V.str)))
section
variable {X : Cx}
theorem cr_sortQ (P : Program) (w : World) (hc : X.calm = true) (eP : X.prog = P := by rfl) (ew : X.w = w := by rfl) : CallR X (.builtin "sorted") (rSortQ P w) := by
  subst eP
  subst ew
  intro pins s σ H xs us Q I r h
  obtain ⟨a, T, n, rfl, ha, hn, ht, q⟩ := h
  rw [Vals.ref1 r]
  refine sorted_setQ (setQ_get I ha) (I.ok.hd hc) hn ht fun s' p out c zs k g o hp hg hi hs nd hm hl => ?_
  have hl' : (zs.map V.str).length ≤ sizeLine := by rw [List.length_map, hl, sizeLine_eq]; omega
  have hn : H p = none := I.hok.fresh hp
  obtain ⟨heap, gens, drawn, toks, os⟩ := s'
  have g : gens = s.gens := g
  have o : os = s.os := o
  subst g
  subst o
  have hob : ObjOk X.prog X.w (upd H p (.lst (zs.map V.str))) heap p (.lst (zs.map V.str)) := ⟨hl', out.toList, c, vals_of_strs hi, hg⟩
  have J := I.call (ch := []) (d' := drawn) (t' := toks) (g' := s.gens) (Un.laid k hp hn) (HOk.laid I.hok k hp hob) I.bare (fun x z => (by cases z))
  exact ⟨.ref p, upd H p (.lst (zs.map V.str)), J, rfl, q zs p hs nd hm hl hn⟩
def rInQ (P : Program) (w : World) (neg : Bool) : R2 := fun x y H Q => ∃ (k : Key) (a : Addr) (T : Key → Bool) (n : Nat), x = kV k ∧ y = .ref a ∧ H a = some (SetQ P w a T n) ∧ Q (.bl (if neg = true then !T k else T k)) H
theorem or_inQ : OpR X (compareOp .In) (rInQ X.prog X.w false) := by
  intro pins s σ H x y v u Q I rx ry h
  obtain ⟨k, a, T, n, rfl, rfl, ha, q⟩ := h
  have eu : u = .ref a := ry
  subst eu
  refine wpAny_inSet_of (knd := mixKind X.prog X.w) (kV_is rx) (key_scan rx) (setQ_get I ha).setOf ?_
  exact ⟨.bl (T k), H, I.tok _, rfl, q⟩
theorem or_notinQ : OpR X (compareOp .NotIn) (rInQ X.prog X.w true) := by
  intro pins s σ H x y v u Q I rx ry h
  obtain ⟨k, a, T, n, rfl, rfl, ha, q⟩ := h
  have eu : u = .ref a := ry
  subst eu
  refine wpAny_notInSet_of (knd := mixKind X.prog X.w) (kV_is rx) (key_scan rx) (setQ_get I ha).setOf ?_
  exact ⟨.bl (!T k), H, I.tok _, rfl, q⟩
end
/-! ### in, not in: lists, texts, sets of both kinds -/
def rInN (K : PySem.W.Frag) (P : Program) (w : World) : R2 := fun x y H Q => rInM K P w x y H Q ∨ rInQ P w false x y H Q
def rNotInN (K : PySem.W.Frag) (P : Program) (w : World) : R2 := fun x y H Q => rNotInM K P w x y H Q ∨ rInQ P w true x y H Q
def rSortN (K : PySem.W.Frag) (P : Program) (w : World) : List V → Hp → VK → Prop := fun xs H Q => rSortA K xs H Q ∨ rSortQ P w xs H Q
section
variable {X : Cx}
theorem op_inN (K : PySem.W.Frag) (P : Program) (w : World) (hu : X.A.units + 64 < cLine) (hu' : X.A.units + 65 < cLine) (e : X.K = K := by rfl) (eP : X.prog = P := by rfl) (ew : X.w = w := by rfl) : OpR X (compareOp .In) (rInN K P w) := by
  subst e
  subst eP
  subst ew
  intro pins s σ H x y v u Q I rx ry h
  rcases h with h | h
  · exact op_inM _ _ _ hu hu' rfl rfl rfl pins s σ H x y v u Q I rx ry h
  · exact or_inQ pins s σ H x y v u Q I rx ry h
theorem op_notinN (K : PySem.W.Frag) (P : Program) (w : World) (hu : X.A.units + 64 < cLine) (hu' : X.A.units + 65 < cLine) (e : X.K = K := by rfl) (eP : X.prog = P := by rfl) (ew : X.w = w := by rfl) : OpR X (compareOp .NotIn) (rNotInN K P w) := by
  subst e
  subst eP
  subst ew
  intro pins s σ H x y v u Q I rx ry h
  rcases h with h | h
  · exact op_notinM _ _ _ hu hu' rfl rfl rfl pins s σ H x y v u Q I rx ry h
  · exact or_notinQ pins s σ H x y v u Q I rx ry h
theorem cr_sortN (K : PySem.W.Frag) (P : Program) (w : World) (hc : X.calm = true) (c : CallR X (.builtin "sorted") (rSortA K)) (eP : X.prog = P := by rfl) (ew : X.w = w := by rfl) : CallR X (.builtin "sorted") (rSortN K P w) := by
  intro pins s σ H xs us Q I r h
  rcases h with h | h
  · exact c pins s σ H xs us Q I r h
  · exact cr_sortQ P w hc eP ew pins s σ H xs us Q I r h
end
section
variable {K : PySem.W.Frag} {P : Program} {w : World} {F : Hp} {O O' : Own} {H : Hp} {Q : VK} {x y v : V}
theorem g_inNM (q : rInM K P w x y H Q) : rInN K P w x y H Q := .inl q
theorem g_notinNM (q : rNotInM K P w x y H Q) : rNotInN K P w x y H Q := .inl q
theorem g_inNQ {a : Addr} {T : Key → Bool} {n : Nat} {k : Key} (ek : x = kV k) (h : H a = some (SetQ P w a T n)) (q : Q (.bl (T k)) H) : rInN K P w x (.ref a) H Q := .inr ⟨k, a, T, n, ek, rfl, h, q⟩
theorem g_notinNQ {a : Addr} {T : Key → Bool} {n : Nat} {k : Key} (ek : x = kV k) (h : H a = some (SetQ P w a T n)) (q : Q (.bl (!T k)) H) : rNotInN K P w x (.ref a) H Q := .inr ⟨k, a, T, n, ek, rfl, h, q⟩
theorem g_sortNA {xs : List V} (q : rSortA K xs H Q) : rSortN K P w xs H Q := .inl q
theorem g_sortNQ {a : Addr} {T : Key → Bool} {n : Nat} (h : H a = some (SetQ P w a T n)) (hn : n < 64) (ht : ∀ k, T k = true → ∃ z, k = Sum.inr z) (hH : Has F O H)
    (q : ∀ (zs : List Str) p H', sortedS zs = true → zs.Nodup → (∀ z, z ∈ zs ↔ T (Sum.inr z) = true) → zs.length = n → H p = none → Has F ((p, .lst (zs.map V.str)) :: O) H' → Q (.ref p) H') : rSortN K P w [.ref a] H Q :=
  .inr ⟨a, T, n, rfl, h, hn, ht, fun zs p s nd m l np => q zs p _ s nd m l np (hH.new np)⟩
theorem g_setOfQ {a : Addr} {zs : List Str} (h : H a = some (.lst (zs.map V.str))) (hl : zs.length < 1000) (hH : Has F O H) (q : ∀ p n T H', H p = none → n ≤ zs.length → (∀ k, T k = true ↔ ∃ z, k = Sum.inr z ∧ z ∈ zs) → Has F ((p, SetQ P w p T n) :: O) H' → Q (.ref p) H') : rSetTQ K P w [.ref a] H Q :=
  ⟨a, zs, rfl, SqL.of h, hl, fun p n T np le eT => q p n T _ np le eT (hH.new np)⟩
end
/-! ### min of two numbers -/
def rMin2 : List V → Hp → VK → Prop := fun xs H Q => ∃ i j, xs = [.int i, .int j] ∧ Q (.int (if j < i then j else i)) H
theorem cr_min2 {X : Cx} (hc : X.calm = true) : CallR X (.builtin "min") rMin2 := call_min2 hc
theorem g_min2 {i j : Int} {H : Hp} {Q : VK} (q : Q (.int (min i j)) H) : rMin2 [.int i, .int j] H Q := ⟨i, j, rfl, by
  have e : (if j < i then j else i) = min i j := by split <;> omega
  rw [e]
  exact q⟩
/-! ### any, all of a list of truth values -/
theorem cr_anyK {X : Cx} (K : PySem.W.Frag) (hc : X.calm = true) (e : X.K = K := by rfl) : CallR X (.builtin "any") (rAny K) := by subst e; exact cr_any hc
theorem cr_allK {X : Cx} (K : PySem.W.Frag) (hc : X.calm = true) (e : X.K = K := by rfl) : CallR X (.builtin "all") (rAll K) := by subst e; exact cr_all hc
theorem g_any {K : PySem.W.Frag} {a : Addr} {bs : List Bool} {H : Hp} {Q : VK} (h : H a = some (.lst (bs.map V.bl))) (q : Q (.bl (bs.any id)) H) : rAny K [.ref a] H Q := ⟨a, bs, rfl, SqL.of h, q⟩
theorem g_all {K : PySem.W.Frag} {a : Addr} {bs : List Bool} {H : Hp} {Q : VK} (h : H a = some (.lst (bs.map V.bl))) (q : Q (.bl (bs.all id)) H) : rAll K [.ref a] H Q := ⟨a, bs, rfl, SqL.of h, q⟩
end Qk

/-! Qz: loops over the keys of a dict (locked meanwhile), len of a dict, texts in order, reverse -/
namespace Qk
open PySem PySem.Spec PyProof.Rows L2
def kForK (d : Addr) (od : Obj) (kvs : List (Key × V)) (g : TG) (tb : TS) (D : Ends) (σ : L2.St) (H : Hp) : Prop := kW (Itk d od kvs) g tb D σ H
/-- the ends of a statement under a lock -/
def lockD (d : Addr) (od : Obj) (u : HO) (D : Ends) : Ends := ⟨fun σ' H' => H' d = some (.frz od u) ∧ D.nx σ' (upd H' d u), fun v H' => H' d = some (.frz od u) ∧ D.rt v (upd H' d u), fun σ' H' => H' d = some (.frz od u) ∧ D.bk σ' (upd H' d u), fun σ' H' => H' d = some (.frz od u) ∧ D.ct σ' (upd H' d u)⟩
def kForKx (g : TG) (tb : TS) (D : Ends) (σ : L2.St) (x : V) (H1 : Hp) : Prop := ∃ d o, x = .ref d ∧ ((∃ kvs, H1 d = some (.frz o (.dK kvs)) ∧ kForK d o kvs g tb D σ H1) ∨ ∃ kvs, H1 d = some (.frz o (.dT kvs)) ∧ kW (Itkt d o kvs) g tb D σ H1)
section
variable {K : PySem.W.Frag} {σ : L2.St} {F : Hp} {O O' : Own} {H : Hp} {Q : VK} {te : TE} {x y v : V} {D : Ends} {ts : TS} {g : TG} {d : Addr} {od : Obj} {kvs : List (Key × V)}
theorem g_forK (q : te σ H fun x H1 => kForKx g ts D σ x H1) : tFor (iKeys te) g ts D σ H := q
theorem g_kforKx (h : H d = some (.frz od (.dK kvs))) (q : kForK d od kvs g ts D σ H) : kForKx g ts D σ (.ref d) H := ⟨d, od, rfl, .inl ⟨kvs, h, q⟩⟩
theorem g_lockK {i : Nat} (hv : σ[i]? = some (some (.ref d))) (h : H d = some (.dK kvs)) (q : ∀ od, kForK d od kvs g ts (lockD d od (.dK kvs) D) σ (upd H d (.frz od (.dK kvs)))) : tLock (tFor (iKeys (tVar i)) g ts) D σ H :=
  ⟨d, .dK kvs, h, trivial, fun od => ⟨.ref d, hv, d, od, rfl, .inl ⟨kvs, upd_same, q od⟩⟩⟩
theorem k_forK (Pv : Nat → L2.St → Hp → Prop) (h0 : Pv 0 σ H) (hl : ∀ i σ H, Pv i σ H → H d = some (.frz od (.dK kvs)))
    (hs : ∀ i k v σ H, kvs[i]? = some (k, v) → Pv i σ H → g (kV k) σ H fun σ2 H2 => ts { D with nx := Pv (i + 1), ct := Pv (i + 1), bk := D.nx } σ2 H2) (hd : ∀ σ H, Pv kvs.length σ H → D.nx σ H) : kForK d od kvs g ts D σ H := by
  refine ⟨fun i m σ H => m = kvs.length - i ∧ i ≤ kvs.length ∧ Pv i σ H, ⟨_, rfl, Nat.zero_le _, h0⟩, ?_⟩
  rintro i m σ H1 ⟨rfl, hi, p⟩
  have hq := hl i σ H1 p
  by_cases hlt : i < kvs.length
  · refine .inr ⟨⟨hq, hlt⟩, Pv (i + 1), fun σ' H' p' => ⟨kvs.length - (i + 1), by omega, rfl, hlt, p'⟩, ?_⟩
    rintro x H' ⟨rfl, k, v, e, rfl⟩
    exact hs i k v σ _ e p
  · have e : i = kvs.length := by omega
    subst e
    exact .inl ⟨⟨hq, Nat.le_refl _⟩, hd σ H1 p⟩
end
/-! ### a locked thing -/
section
variable {F H H' : Hp} {O : Own} {d a : Addr} {od : Obj} {u o : HO} {kvs : List (Key × V)}
theorem Has.lock (h : Has F O H) (e : F d = some u) : Has (upd F d (.frz od u)) O (upd H d (.frz od u)) := by
  refine ⟨fun b v q => ?_, fun p hp => ?_, h.nd⟩
  · by_cases c : b = d
    · subst c
      rw [upd_same] at q ⊢
      exact q
    · rw [upd_ne c] at q ⊢
      exact h.same b v q
  · have f := h.own p hp
    have ne : p.1 ≠ d := fun z => by
      rw [z, e] at f
      cases f.1
    rw [upd_ne ne, upd_ne ne]
    exact f
theorem lock_at (e : H d = some u) (h : H a = some o) (ne : o ≠ u) : upd H d (.frz od u) a = some o := by
  rw [upd_ne (fun z => ?_)]
  · exact h
  · subst z
    rw [e] at h
    exact ne (Option.some.inj h).symm
theorem unlock_at (e : H' d = some (.frz od u)) (h : H' a = some o) (ne : o ≠ .frz od u) : upd H' d u a = some o := by
  rw [upd_ne (fun z => ?_)]
  · exact h
  · subst z
    rw [e] at h
    exact ne (Option.some.inj h).symm
theorem unlock_same (e : H d = some u) (s : Same (upd H d (.frz od u)) H') : Same H (upd H' d u) := fun b v q => by
  by_cases c : b = d
  · subst c
    rw [upd_same]
    rw [e] at q
    exact q
  · rw [upd_ne c]
    exact s b v (by rw [upd_ne c]; exact q)
theorem Has.unlock (h : Has F O H) (e : F d = some (.frz od u)) : Has (upd F d u) O (upd H d u) := by
  refine ⟨fun b v q => ?_, fun p hp => ?_, h.nd⟩
  · by_cases c : b = d
    · subst c
      rw [upd_same] at q ⊢
      exact q
    · rw [upd_ne c] at q ⊢
      exact h.same b v q
  · have f := h.own p hp
    have ne : p.1 ≠ d := fun z => by
      rw [z, e] at f
      cases f.1
    rw [upd_ne ne, upd_ne ne]
    exact f
end
mutual
theorem Dq.upL {H H' : Hp} (e1 : ∀ a xs, H a = some (.lst xs) → H' a = some (.lst xs)) (e2 : ∀ a xs, H a = some (.tup xs) → H' a = some (.tup xs)) : ∀ (d : PyData) (v : V), Dq H v d → Dq H' v d
  | _, _, .non => .non
  | _, _, .bl b => .bl b
  | _, _, .int i => .int i
  | _, _, .str x => .str x
  | .list ds, _, .lst s a => .lst (e1 _ _ s) (DqAll.upL e1 e2 ds _ a)
  | .tuple ds, _, .tup s a => .tup (e2 _ _ s) (DqAll.upL e1 e2 ds _ a)
theorem DqAll.upL {H H' : Hp} (e1 : ∀ a xs, H a = some (.lst xs) → H' a = some (.lst xs)) (e2 : ∀ a xs, H a = some (.tup xs) → H' a = some (.tup xs)) : ∀ (ds : List PyData) (vs : List V), DqAll H vs ds → DqAll H' vs ds
  | _, _, .nil => .nil
  | d :: ds, _, .cons h t => .cons (Dq.upL e1 e2 d _ h) (DqAll.upL e1 e2 ds _ t)
end
theorem DqAll.lockK {H : Hp} {d : Addr} {od : Obj} {kvs : List (Key × V)} (e : H d = some (.dK kvs)) {ds : List PyData} {vs : List V} (h : DqAll H vs ds) : DqAll (upd H d (.frz od (.dK kvs))) vs ds :=
  h.upL (fun a xs q => lock_at e q (fun z => by cases z)) (fun a xs q => lock_at e q (fun z => by cases z)) ds vs
/-! ### len, also of a dict -/
def rLenN (K : PySem.W.Frag) : List V → Hp → VK → Prop := fun xs H Q => rLen K xs H Q ∨ ∃ a kvs, xs = [V.ref a] ∧ H a = some (.dK kvs) ∧ Q (.int kvs.length) H
theorem cr_lenN {X : Cx} (K : PySem.W.Frag) (e : X.K = K := by rfl) : CallR X (.builtin "len") (rLenN K) := by
  subst e
  intro pins s σ H xs us Q I r h
  rcases h with h | h
  · exact cr_len pins s σ H xs us Q I r h
  · exact call_lenD pins s σ H xs us Q I r h
section
variable {K : PySem.W.Frag} {H : Hp} {Q : VK}
theorem g_lenNL {a : Addr} {xs : List V} (h : H a = some (.lst xs)) (q : Q (.int (xs.length : Int)) H) : rLenN K [.ref a] H Q := .inl (g_lenL h q)
theorem g_lenNT {a : Addr} {xs : List V} (h : H a = some (.tup xs)) (q : Q (.int (xs.length : Int)) H) : rLenN K [.ref a] H Q := .inl (g_lenT h q)
theorem g_lenNS {z : Str} (h : z.length ≤ sizeLine) (q : Q (.int (z.length : Int)) H) : rLenN K [.str z] H Q := .inl (g_lenS h q)
theorem g_lenND {a : Addr} {kvs : List (Key × V)} (h : H a = some (.dK kvs)) (q : Q (.int (kvs.length : Int)) H) : rLenN K [.ref a] H Q := .inr ⟨a, kvs, rfl, h, q⟩
end
/-! ### texts in order -/
def rLtA : R2 := fun x y H Q => (rI0 (fun i j => .bl (decide (i < j))) x y H Q) ∨ ∃ i j, x = .str i ∧ y = .str j ∧ Q (.bl (decide (i.cps.toList < j.cps.toList))) H
theorem op_ltA {X : Cx} : OpR X (compareOp .Lt) rLtA := by
  intro pins s σ H x y v u Q I rx ry h
  rcases h with h | h
  · exact op_lt pins s σ H x y v u Q I rx ry h
  · exact op_lt_str pins s σ H x y v u Q I rx ry h
theorem g_ltI {i j : Int} {H : Hp} {Q : VK} (q : Q (.bl (decide (i < j))) H) : rLtA (.int i) (.int j) H Q := .inl ⟨i, j, rfl, rfl, q⟩
theorem g_ltS {i j : Str} {H : Hp} {Q : VK} (q : Q (.bl (decide (i.cps.toList < j.cps.toList))) H) : rLtA (.str i) (.str j) H Q := .inr ⟨i, j, rfl, rfl, q⟩
/-! ### reverse -/
def rRevA : V → List V → Hp → VK → Prop := fun x vs H Q => ∃ l xs, x = .ref l ∧ vs = [] ∧ H l = some (.lst xs) ∧ Q .non (upd H l (.lst xs.reverse))
theorem mt_revA {X : Cx} : MtR X "list.reverse" rRevA := mt_reverse
theorem g_revA {F H : Hp} {O O' : Own} {Q : VK} {a : Addr} {xs : List V} (hH : Has F O H) (c : Chg O a (.lst xs) (.lst xs.reverse) O') (q : ∀ H', Has F O' H' → Q .non H') : rRevA (.ref a) [] H Q :=
  ⟨a, xs, rfl, rfl, hH.get c.mem, q _ (hH.put c)⟩
/-! ### list(range(n)) -/
def kLstRg (x : V) (H1 : Hp) (Q : VK) : Prop := ∃ n, x = .int n ∧ (RgOk 0 n ∧ ∀ q, H1 q = none → Q (.ref q) (upd H1 q (.lst (rgV 0 n))))
section
variable {σ : L2.St} {F : Hp} {O : Own} {H : Hp} {Q : VK} {ta : TE}
theorem g_lstRg (q : ta σ H fun x H1 => kLstRg x H1 Q) : tLstRg (tRg1 ta) σ H Q := q
theorem g_kLstRg {n : Nat} (hn : n ≤ 1000) (hH : Has F O H) (q : ∀ p H', H p = none → Has F ((p, .lst ((List.range n).map fun (a : Nat) => V.int (a : Int))) :: O) H' → Q (.ref p) H') : kLstRg (.int (n : Int)) H Q := by
  refine ⟨n, rfl, RgOk.of_le (by omega) (by omega) (by omega) (by omega), fun p np => q p _ np ?_⟩
  have e : rgV 0 (n : Int) = (List.range n).map fun (a : Nat) => V.int (a : Int) := by
    unfold rgV
    have : ((n : Int) - 0).toNat = n := by omega
    rw [this]
    apply List.map_congr_left
    intro a _
    rw [Int.zero_add]
  rw [e]
  exact hH.new np
end
/-! ### dicts read whether locked or not -/
section
variable {K : PySem.W.Frag} {P : Program} {w : World} {H : Hp} {Q : VK} {a : Addr} {kvs : List (Key × V)} {i : Str} {v : V}
theorem g_ixDR (h : Rd H a (.dK kvs)) (hv : valV kvs (.inr i) = some v) (q : Q v H) : rIxA K (.ref a) (.str i) H Q := .inr ⟨a, v, rfl, .inl ⟨kvs, .inr i, h, rfl, hv.symm⟩, q⟩
theorem g_inSR (h : Rd H a (.dK kvs)) (q : Q (.bl (valV kvs (.inr i)).isSome) H) : rInA K (.str i) (.ref a) H Q := .inl (.inr ⟨a, _, rfl, .inl ⟨kvs, .inr i, h, rfl, rfl⟩, q⟩)
theorem g_notinSR (h : Rd H a (.dK kvs)) (q : Q (.bl (!(valV kvs (.inr i)).isSome)) H) : rNotInA K (.str i) (.ref a) H Q := .inl (.inr ⟨a, _, rfl, .inl ⟨kvs, .inr i, h, rfl, rfl⟩, q⟩)
end
end Qk

/-! Qd: a set comprehension of keys with two clauses; set.add; a dict comprehension stored under a name -/
namespace Qk
open PySem PySem.Spec PyProof.Rows L2
theorem kr_fresh (P : Program) (w : World) {h : Heap} : KR P w (h.push (newSetQ w)) h.objs.size (fun _ => false) 0 := by
  refine ⟨_, #[], 0, _, [], Heap.get?_push_size _ rfl, ⟨rfl, rfl, rfl⟩, rfl, (fun e he => by simp at he), ⟨⟨[], List.Perm.refl _, (fun p h => by cases h), rfl⟩, List.nodup_nil⟩, (fun k => by simp), (by decide), (by rfl), rfl, List.Pairwise.nil, ?_⟩
  show _ ∨ (!w.params.followText "set-order") = true
  cases w.params.followText "set-order" <;> simp
theorem newSetQ_ok {P : Program} {w : World} {A : Around} {E : Value → Shared → Prop} {s : Shared} {Q : Value → Shared → Prop} (h : Q (.ref s.heap.objs.size) { s with heap := s.heap.push (newSetQ w) }) : wpAny (model P w) A (newSet (.type "set")) Q E s := PpSet.newSet_ok h
/-- a.add(x) of a key -/
theorem kq_add {P : Program} {w : World} {A : Around} {E : Value → Shared → Prop} {s : Shared} {a : Addr} {T : Key → Bool} {n : Nat} {k : Key} {x : Value} {Q : Value → Shared → Prop} (his : (mixKind P w).is k x = true) (hsc : x.scannable = true) (R : KR P w s.heap a T n) (room : n + 1 < scanBound)
    (q : ∀ h', Heap.SameBut a s.heap h' → KR P w h' a (fun k' => T k' || decide (k' = k)) (if T k = true then n else n + 1) → Q .none { s with heap := h', toks := s.toks + 1 }) : wpAny (model P w) A (call (.builtin "set.add") [.ref a, x]) Q E s := by
  refine wpAny_call_entry F.slot_set_add R.setOf.typeIs F.entry_set_add ?_ (F.args_set_add_2 _ _)
  unfold Builtin.«set.add» Builtin.Frozenset.oneOther
  simp only [List.isEmpty_nil, bind_assoc]
  unfold Builtin.Frozenset.addrOf setAdd
  refine wpAny_bind (wpAny_pure ?_)
  try dsimp only
  refine wpAny_bind (wpAny_pure ?_)
  try dsimp only
  refine wpAny_bind ?_
  refine wpAny_holding ?_
  refine wpAny_bind ((mixKind P w).pyHash his ?_)
  refine kr_add (s := { s with toks := s.toks + 1 }) his hsc R room fun h' sb r => ?_
  show wpAny _ _ (ret Value.none) _ _ _
  exact wpAny_pure ⟨_, rfl, q h' sb r⟩
theorem addQ_ok {X : Cx} {pins : List (Addr × Obj)} {σ : L2.St} {H : Hp} {s : Shared} {E : Value → Shared → Prop} {D : Addr} {T : Key → Bool} {n : Nat} {k : Key} {u : Value} {Q : Value → Shared → Prop} (I : Inv X pins σ H s) (hD : H D = some (SetQ X.prog X.w D T n)) (ru : RelV (kV k) u) (room : n + 1 < scanBound)
    (q : ∀ s', Inv X pins σ (upd H D (SetQ X.prog X.w D (fun k' => T k' || decide (k' = k)) (if T k = true then n else n + 1))) s' → Q .none s') : wpAny (model X.prog X.w) X.A (call (.builtin "set.add") [.ref D, u]) Q E s := by
  refine kq_add (kV_is ru) (key_scan ru) (setQ_get I hD) room fun h' sb new => ?_
  have he : ∃ o, h'.get? D = some o := by
    obtain ⟨o, _, _, _, _, ho, _⟩ := id new
    exact ⟨o, ho⟩
  exact q _ (I.write (e := D) (t' := s.toks + 1) (by rw [hD]; trivial) (.inl rfl) (fun b o hb e => (sb.2 b hb).trans e) he (setQ_new new))
theorem compTurnS2_out (el ta ia tb ib : Expr) (fa fb : List Expr) (sco : Scope) (pos : Pos) (itr ac : Value) (env : Env) :
    compTurn (.SetComp el [⟨ta, ia, fa, 0⟩, ⟨tb, ib, fb, 0⟩] sco pos) 0 itr ac env = (do
      standAt ia.pos
      match ← pyNext itr with
      | none => pure (.done .next)
      | some v =>
        letOwnedTupleGo ta itr v
        assign ta env v
        let mut ok := true
        for c in fa do
          if ok then ok ← isTrue c env (eval c env)
        if ok then
          let x ← eval ib env
          standAt ib.pos
          let x ← foldedSetIterable ib env x
          let _ ← runOwn (.compStart (.SetComp el [⟨ta, ia, fa, 0⟩, ⟨tb, ib, fb, 0⟩] sco pos) 1 (← holding [x] (pyIter x)) ac env) env
        again (.compLoop (.SetComp el [⟨ta, ia, fa, 0⟩, ⟨tb, ib, fb, 0⟩] sco pos) 0 itr ac env)) := by rfl
theorem compTurnS2_in (el ta ia tb ib : Expr) (fa fb : List Expr) (sco : Scope) (pos : Pos) (itr ac : Value) (env : Env) :
    compTurn (.SetComp el [⟨ta, ia, fa, 0⟩, ⟨tb, ib, fb, 0⟩] sco pos) 1 itr ac env = (do
      standAt ib.pos
      match ← pyNext itr with
      | none => pure (.done .next)
      | some v =>
        letOwnedTupleGo tb itr v
        assign tb env v
        let mut ok := true
        for c in fb do
          if ok then ok ← isTrue c env (eval c env)
        if ok then
          (do let v ← eval el env; standAt el.pos; let _ ← call (.builtin "set.add") [ac, v])
        again (.compLoop (.SetComp el [⟨ta, ia, fa, 0⟩, ⟨tb, ib, fb, 0⟩] sco pos) 1 itr ac env)) := by rfl

section
variable {prog : Program} {w : World} {A : Around} {R : Result → Shared → Prop} {s : Shared} {el ta ia tb ib : Expr} {fa fb : List Expr} {sco : Scope} {pos : Pos} {itr ac : Value} {env : Env}
/-- the loop of the first clause -/
theorem compLoopS2_out (hs : ∀ x, foldedSetIterable ib env x = pure x) (I : Nat → Shared → Prop)
    (trn : ∀ n s, I n s → wpAny (model prog w) A (pyNext itr) (fun r s₁ => match r with
      | none => R (.ok .next) s₁
      | some v => wpAny (model prog w) A (letOwnedTupleGo ta itr v) (fun _ s₁' => wpAny (model prog w) A (assign ta env v) (fun _ s₂ =>
          wpAny (model prog w) A (forIn fa true fun c r => if r = true then do let ok ← isTrue c env (eval c env); pure (ForInStep.yield ok) else pure (ForInStep.yield r)) (fun ok s₃ =>
            if ok = true then wpAny (model prog w) A (eval ib env) (fun x s₄ => wpAny (model prog w) A (pyIter x) (fun it1 s₅ =>
              codeAny (model prog w) A (.compStart (.SetComp el [⟨ta, ia, fa, 0⟩, ⟨tb, ib, fb, 0⟩] sco pos) 1 it1 ac env) (fun r s' => match r with
                | .ok _ => ∃ m, m < n ∧ I m s'
                | .error _ => False) s₅) (notedBy (model prog w) A env fun e s' => R (.error e) s') s₄) (notedBy (model prog w) A env fun e s' => R (.error e) s') s₃
            else ∃ m, m < n ∧ I m s₃) (notedBy (model prog w) A env fun e s' => R (.error e) s') s₂) (notedBy (model prog w) A env fun e s' => R (.error e) s') s₁') (notedBy (model prog w) A env fun e s' => R (.error e) s') s₁) (notedBy (model prog w) A env fun e s' => R (.error e) s') s)
    (n : Nat) (h : I n s) :
    codeAny (model prog w) A (.compLoop (.SetComp el [⟨ta, ia, fa, 0⟩, ⟨tb, ib, fb, 0⟩] sco pos) 0 itr ac env) R s := by
  refine codeAny_loop rfl I (fun n s hI => ?_) n h
  show wpAny _ A ((compTurn (.SetComp el [⟨ta, ia, fa, 0⟩, ⟨tb, ib, fb, 0⟩] sco pos) 0 itr ac env).onRaise (fun x => do noteFrame x env; theTreesLotGoes x)) _ _ s
  refine wpAny_noted ?_
  rw [compTurnS2_out]
  refine wpAny_bind (wpAny_standAt (wpAny_bind (wpAny_mono (trn n s hI) (fun r s₁ h₁ => ?_) fun _ _ h' => h')))
  cases r with
  | none => exact wpAny_pure h₁
  | some v =>
    refine wpAny_bind (wpAny_mono h₁ (fun _ s₁' h₁' => ?_) fun _ _ h' => h')
    refine wpAny_bind (wpAny_mono h₁' (fun _ s₂ h₂ => wpAny_bind (wpAny_mono h₂ (fun ok s₃ h₃ => ?_) fun _ _ h' => h')) fun _ _ h' => h')
    cases ok with
    | false => exact wpAny_pure ⟨rfl, h₃⟩
    | true =>
      refine wpAny_bind (wpAny_mono h₃ (fun x s₄ h₄ => ?_) fun _ _ h' => h')
      refine wpAny_bind (wpAny_standAt (wpAny_bind (wpAny_of_eq (hs x) (wpAny_bind (wpAny_holding (wpAny_mono h₄ (fun it1 s₅ h₅ => ?_) fun _ _ h' => h'))))))
      refine wpAny_bind (wpAny_runOwn ?_)
      rw [Around.mark_none]
      refine codeAny_mono h₅ fun r s' hr => ?_
      cases r with
      | ok f =>
        first
          | exact wpAny_pure ⟨rfl, hr⟩
          | exact wpAny_bind (wpAny_pure (wpAny_pure ⟨rfl, hr⟩))
      | error e => exact hr.elim
/-- the loop of the second -/
theorem compLoopS2_in (I : Nat → Shared → Prop)
    (trn : ∀ n s, I n s → wpAny (model prog w) A (pyNext itr) (fun r s₁ => match r with
      | none => R (.ok .next) s₁
      | some v => wpAny (model prog w) A (letOwnedTupleGo tb itr v) (fun _ s₁' => wpAny (model prog w) A (assign tb env v) (fun _ s₂ =>
          wpAny (model prog w) A (forIn fb true fun c r => if r = true then do let ok ← isTrue c env (eval c env); pure (ForInStep.yield ok) else pure (ForInStep.yield r)) (fun ok s₃ =>
            if ok = true then wpAny (model prog w) A (eval el env) (fun x s₄ =>
              wpAny (model prog w) A (call (.builtin "set.add") [ac, x]) (fun _ s₅ => ∃ m, m < n ∧ I m s₅) (notedBy (model prog w) A env fun e s' => R (.error e) s') s₄) (notedBy (model prog w) A env fun e s' => R (.error e) s') s₃
            else ∃ m, m < n ∧ I m s₃) (notedBy (model prog w) A env fun e s' => R (.error e) s') s₂) (notedBy (model prog w) A env fun e s' => R (.error e) s') s₁') (notedBy (model prog w) A env fun e s' => R (.error e) s') s₁) (notedBy (model prog w) A env fun e s' => R (.error e) s') s)
    (n : Nat) (h : I n s) :
    codeAny (model prog w) A (.compLoop (.SetComp el [⟨ta, ia, fa, 0⟩, ⟨tb, ib, fb, 0⟩] sco pos) 1 itr ac env) R s := by
  refine codeAny_loop rfl I (fun n s hI => ?_) n h
  show wpAny _ A ((compTurn (.SetComp el [⟨ta, ia, fa, 0⟩, ⟨tb, ib, fb, 0⟩] sco pos) 1 itr ac env).onRaise (fun x => do noteFrame x env; theTreesLotGoes x)) _ _ s
  refine wpAny_noted ?_
  rw [compTurnS2_in]
  refine wpAny_bind (wpAny_standAt (wpAny_bind (wpAny_mono (trn n s hI) (fun r s₁ h₁ => ?_) fun _ _ h' => h')))
  cases r with
  | none => exact wpAny_pure h₁
  | some v =>
    refine wpAny_bind (wpAny_mono h₁ (fun _ s₁' h₁' => ?_) fun _ _ h' => h')
    refine wpAny_bind (wpAny_mono h₁' (fun _ s₂ h₂ => wpAny_bind (wpAny_mono h₂ (fun ok s₃ h₃ => ?_) fun _ _ h' => h')) fun _ _ h' => h')
    cases ok with
    | false => exact wpAny_pure ⟨rfl, h₃⟩
    | true =>
      exact wpAny_bind (wpAny_bind (wpAny_mono h₃ (fun x s₄ h₄ => wpAny_bind (wpAny_standAt (wpAny_bind (wpAny_mono h₄ (fun _ s₅ h₅ => wpAny_pure (wpAny_pure ⟨rfl, h₅⟩)) fun _ _ h' => h')))) fun _ _ h' => h'))
/-- the second clause's start -/
theorem compStartS1_ok (h0 : codeAny (model prog w) A (.compLoop (.SetComp el [⟨ta, ia, fa, 0⟩, ⟨tb, ib, fb, 0⟩] sco pos) 1 itr ac env) R s)
    (h : wpAny (model prog w) A (pyIter itr) (fun it' s' => codeAny (model prog w) A (.compLoop (.SetComp el [⟨ta, ia, fa, 0⟩, ⟨tb, ib, fb, 0⟩] sco pos) 1 it' ac env) R s')
      (notedBy (model prog w) A env fun x s' => R (.error x) s') s) :
    codeAny (model prog w) A (.compStart (.SetComp el [⟨ta, ia, fa, 0⟩, ⟨tb, ib, fb, 0⟩] sco pos) 1 itr ac env) R s := by
  refine codeAny_of_tree ?_
  show wpAny _ _ ((compStart (.SetComp el [⟨ta, ia, fa, 0⟩, ⟨tb, ib, fb, 0⟩] sco pos) 1 itr ac env).onRaise (fun x => do noteFrame x env; standAt theWindowsPlace)) _ _ s
  refine wpAny_notedAt ?_
  unfold compStart
  show wpAny _ _ (ask >>= _) _ _ s
  refine wpAny_bind (wpAny_askSetting (wpAny_ite ?_))
  split
  · first
      | exact wpAny_bind (wpAny_pure (wpAny_pure (And.intro rfl h0)))
      | exact wpAny_pure (And.intro rfl h0)
  · first
      | exact wpAny_bind (wpAny_rule (wpAny_bind (wpAny_standAt (wpAny_bind (wpAny_mono h (fun it' s' h' => wpAny_pure (And.intro rfl h')) fun _ _ x => x)))))
      | (refine wpAny_bind (wpAny_rule ?_); show wpAny _ _ (standAt ib.pos >>= _) _ _ s; exact wpAny_bind (wpAny_standAt (wpAny_bind (wpAny_mono h (fun it' s' h' => wpAny_pure (And.intro rfl h')) fun _ _ x => x))))
end

section
variable {X : Cx}
/-- [el for tg in ita if .. for tgb in itb if ..]: behind the first clause's store and tests the second source's own loop, from which Nx is reached. vs: the block's names; vs1: those of the second target -/
def tSc2 (P : Program) (w : World) (wi : TI) (g : TG) (tt : TT) (wib : TI) (gb : TG) (ttb : TT) (te : TE) (vs vs1 : List Nat) : TE := fun σ H Q => wi σ H fun J H1 => ∀ D, H1 D = none → ∃ W : Nat → Nat → Hp → Prop, (∃ m, W 0 m (upd H1 D (SetQ P w D (fun _ => false) 0))) ∧ ∀ i m H, W i m H →
  (J.stop i H ∧ Q (.ref D) H) ∨ (J.go i H ∧ ∃ Nx : Hp → Prop, (∀ H', Nx H' → ∃ m', m' < m ∧ W (i + 1) m' H') ∧ ∀ x H', J.yld i H x H' → g x (wipe σ vs) H' fun σ2 H2 => wipe σ2 vs = wipe σ vs ∧ tt σ2 H2 fun b H3 =>
    if b = true then ∃ (d : Addr) (u : HO), H3 d = some u ∧ Mut (some u) ∧ ∀ od, wib σ2 (upd H3 d (.frz od u)) fun J1 H4 => ∃ W1 : Nat → Nat → Hp → Prop, (∃ m, W1 0 m H4) ∧ ∀ j k H, W1 j k H →
      (J1.stop j H ∧ H d = some (.frz od u) ∧ Nx (upd H d u)) ∨ (J1.go j H ∧ ∃ Nx1 : Hp → Prop, (∀ H', Nx1 H' → ∃ k', k' < k ∧ W1 (j + 1) k' H') ∧ ∀ x H', J1.yld j H x H' → gb x (wipe σ2 vs1) H' fun σ3 H5 => wipe σ3 vs1 = wipe σ2 vs1 ∧ ttb σ3 H5 fun b H6 =>
        if b = true then te σ3 H6 fun y H7 => ∃ (k : Key) (T : Key → Bool) (n : Nat), y = kV k ∧ H7 D = some (SetQ P w D T n) ∧ n + 1 < scanBound ∧ Nx1 (upd H7 D (SetQ P w D (fun k' => T k' || decide (k' = k)) (if T k = true then n else n + 1))) else Nx1 H6)
    else Nx H3)
theorem sc2_core {pins : List (Addr × Obj)} {s : Shared} {σ : L2.St} {H : Hp} {Q : VK} {el tg ita tgb itb : Expr} {fs fb : List Expr} {sco : Scope} {own : List (Str × Nat)} {vs1 : List Nat} {pos pos' : Pos} {wi wib : TI} {g gb : TG} {tt ttb : TT} {te : TE} {use : Option (Value → Sem Unit)} {Qf : Value → Shared → Prop}
    (hc : X.calm = true) (hN : X.N.Nodup) (I : Inv X pins σ H s) (hi : PI X tg ita wi) (ok : BlkOk X.N X.env.scope sco own) (hv : ∀ i ∈ vs1, i ∈ own.map (·.2))
    (hg : ∀ (s : Shared) (H : Hp) (C : Addr) (cl : List (Str × Addr)) (fp : List Addr), PG (X.blk s H sco (compEnvC sco cl C X.env) fp) tg g) (ht : ∀ (s : Shared) (H : Hp) (C : Addr) (cl : List (Str × Addr)) (fp : List Addr), PTs (X.blk s H sco (compEnvC sco cl C X.env) fp) fs tt)
    (he : ∀ (s : Shared) (H : Hp) (C : Addr) (cl : List (Str × Addr)) (fp : List Addr), PE (X.blk s H sco (compEnvC sco cl C X.env) fp) el te) (hs : ∀ x, foldedSetIterable ita X.env x = pure x)
    (hi1 : ∀ (s : Shared) (H : Hp) (C : Addr) (cl : List (Str × Addr)) (fp : List Addr), PI (X.blk s H sco (compEnvC sco cl C X.env) fp) tgb itb wib)
    (hg1 : ∀ (s : Shared) (H : Hp) (C : Addr) (cl : List (Str × Addr)) (fp : List Addr), PG (X.blk s H sco (compEnvC sco cl C X.env) fp) tgb gb)
    (ht1 : ∀ (s : Shared) (H : Hp) (C : Addr) (cl : List (Str × Addr)) (fp : List Addr), PTs (X.blk s H sco (compEnvC sco cl C X.env) fp) fb ttb)
    (hs1 : ∀ env x, foldedSetIterable itb env x = pure x)
    (h : tSc2 X.prog X.w wi g tt wib gb ttb te (own.map (·.2)) vs1 σ H Q)
    (hRR : ∀ D C s' m H', Inv X pins σ H' s' → Q (.ref D) H' → s'.heap.Ns C m → FpOk X pins H' C → compPost (model X.prog X.w) X.A X.xe use Qf (.ref D) C (.ok .next) s') :
    wpAny (model X.prog X.w) X.A (comprehension (.SetComp el [⟨tg, ita, fs, 0⟩, ⟨tgb, itb, fb, 0⟩] sco pos) sco X.env pos' (newSet (.type "set")) false (eval ita X.env) use) Qf X.xe s := by
  have freeC : ∀ y ∈ sco.names, y.2 = .free → ∃ c, X.env.cells.lookup y.1 = some c := fun y hy e => by
    rcases ok.free y hy e with k | k
    · exact I.ok.has _ (.inl k)
    · exact I.ok.has _ (.inr k)
  refine wpAny_comprehension_free (use := use) rfl hs (closure_ok freeC) ok.kind (fun y hy e => by rw [ok.uniq y hy, e])
    (thn (hi.run pins s σ H _ I h) fun xv s1 hx => thn hx fun itv s2 h2 => ?_)
  obtain ⟨itr, fp, tn, J, H2, e, I2, T, st2, f2, q⟩ := h2
  subst e
  refine newSetQ_ok (newEnv_comp ?_)
  generalize hD : s2.heap.objs.size = D
  have hDn : H2 D = none := I2.hok.fresh (Nat.le_of_eq hD)
  obtain ⟨W, ⟨m0, w0⟩, trn⟩ := q D hDn
  -- the new list
  generalize hs3 : ({ s2 with heap := s2.heap.push (newSetQ X.w) } : Shared) = s3
  have I3 : Inv X pins σ (upd H2 D (SetQ X.prog X.w D (fun _ => false) 0)) s3 := by
    rw [← hs3]
    refine I2.laid (t' := s2.toks) (fun b o e => Heap.get?_push_of_some _ e) (Nat.le_of_eq hD) ?_
    rw [← hD]
    exact setQ_new (kr_fresh X.prog X.w)
  have h3 : s3.heap = s2.heap.push (newSetQ X.w) := by rw [← hs3]
  have sz : ∀ b ∈ fp, b < s2.heap.objs.size := fun b hb => by
    obtain ⟨o, e, _⟩ := T.obj _ _ st2 b hb
    exact Heap.lt_size e
  have f3 : ∀ b ∈ fp, FpOk X pins (upd H2 D (SetQ X.prog X.w D (fun _ => false) 0)) b ∧ b < s3.heap.objs.size := fun b hb => by
    have hlt := sz b hb
    refine ⟨⟨?_, (f2 b hb).2⟩, by rw [h3, Heap.size_push]; exact Nat.lt_succ_of_lt hlt⟩
    rw [upd_ne (by rw [← hD]; exact Nat.ne_of_lt hlt)]
    exact (f2 b hb).1
  have st3 : tn 0 s3.heap := T.keep _ _ _ st2 fun b _ o e => by rw [h3]; exact Heap.get?_push_of_some _ e
  have I4 := block_start I3 ok hN f3
  have qg := hg s3 (upd H2 D (SetQ X.prog X.w D (fun _ => false) 0)) s3.heap.objs.size (cellsFrom (s3.heap.objs.size + 1) sco.names (cloFrom X.env.cells sco.names [])) fp
  have qt := ht s3 (upd H2 D (SetQ X.prog X.w D (fun _ => false) 0)) s3.heap.objs.size (cellsFrom (s3.heap.objs.size + 1) sco.names (cloFrom X.env.cells sco.names [])) fp
  have qe := he s3 (upd H2 D (SetQ X.prog X.w D (fun _ => false) 0)) s3.heap.objs.size (cellsFrom (s3.heap.objs.size + 1) sco.names (cloFrom X.env.cells sco.names [])) fp
  have qib := hi1 s3 (upd H2 D (SetQ X.prog X.w D (fun _ => false) 0)) s3.heap.objs.size (cellsFrom (s3.heap.objs.size + 1) sco.names (cloFrom X.env.cells sco.names [])) fp
  have qgb := hg1 s3 (upd H2 D (SetQ X.prog X.w D (fun _ => false) 0)) s3.heap.objs.size (cellsFrom (s3.heap.objs.size + 1) sco.names (cloFrom X.env.cells sco.names [])) fp
  have qtb := ht1 s3 (upd H2 D (SetQ X.prog X.w D (fun _ => false) 0)) s3.heap.objs.size (cellsFrom (s3.heap.objs.size + 1) sco.names (cloFrom X.env.cells sco.names [])) fp
  show codeAny _ _ (.compStart (.SetComp el [⟨tg, ita, fs, 0⟩, ⟨tgb, itb, fb, 0⟩] sco pos) 0 (.ref itr) (.ref D) (compEnvC sco (cellsFrom (s3.heap.objs.size + 1) sco.names (cloFrom X.env.cells sco.names [])) s3.heap.objs.size X.env)) (compPost (model X.prog X.w) X.A X.xe use Qf (.ref D) s3.heap.objs.size) { s3 with heap := pushCells (s3.heap.push { cls := .type "dict", data := .dict #[] }) sco.names }
  have noFp : ∀ b ∈ fp, (upd H2 D (SetQ X.prog X.w D (fun _ => false) 0)) b = none := fun b hb => (f3 b hb).1.1
  generalize hce : compEnvC sco (cellsFrom (s3.heap.objs.size + 1) sco.names (cloFrom X.env.cells sco.names [])) s3.heap.objs.size X.env = ce at I4 qg qt qe qib qgb qtb ⊢
  have cL : ce.locals = s3.heap.objs.size := by subst hce; rfl
  generalize hH3 : upd H2 D (SetQ X.prog X.w D (fun _ => false) 0) = H3 at I3 I4 qg qt qe qib qgb qtb w0 noFp f3
  generalize hs4 : ({ s3 with heap := pushCells (s3.heap.push { cls := .type "dict", data := .dict #[] }) sco.names } : Shared) = s4 at I4 ⊢
  have st4 : tn 0 s4.heap := T.keep _ _ _ st3 fun b _ o e => by rw [← hs4]; exact pushCells_keeps _ _ _ _ (Heap.get?_push_of_some _ e)
  have still : ∀ {σ' : L2.St} {H' : Hp} {s' : Shared}, Inv (X.blk s3 H3 sco ce fp) [] σ' H' s' → (∀ b ∈ fp, H' b = none) → ∀ b ∈ fp, FpOk (X.blk s3 H3 sco ce fp) [] H' b := fun {σ' H' s'} I' hn b hb =>
    ⟨hn b hb, (I'.ok.exf b hb).1, I'.ok.exfs b hb, .inl hb, fun x c e => (I'.ok.exf b hb).2 x c e, fun p hp => absurd (show p ∈ ([] : List (Addr × Obj)) ++ [] from hp) (by simp)⟩
  have loop : codeAny (model X.prog X.w) X.A (.compLoop (.SetComp el [⟨tg, ita, fs, 0⟩, ⟨tgb, itb, fb, 0⟩] sco pos) 0 (.ref itr) (.ref D) ce) (compPost (model X.prog X.w) X.A X.xe use Qf (.ref D) s3.heap.objs.size) s4 := by
    refine compLoopS2_out (hs1 ce) (fun n s' => ∃ i H', Inv (X.blk s3 H3 sco ce fp) [] (wipe σ (own.map (·.2))) H' s' ∧ tn i s'.heap ∧ (∀ b ∈ fp, H' b = none) ∧ W i n H') ?_ m0 ⟨0, H3, I4, st4, noFp, w0⟩
    rintro n s5 ⟨i, H5, I5, st5, n5, w5⟩
    rcases trn i n H5 w5 with ⟨stop, qq⟩ | ⟨go, Nx, hNx, step⟩
    · have td := T.done (X.blk s3 H3 sco ce fp) rfl rfl rfl hc i [] s5 _ H5 (fun _ _ => False) I5 (still I5 n5) st5 stop
      refine thnF td fun r s6 ⟨hr, I6⟩ => ?_
      subst hr
      -- back in the def's context
      have I7 : Inv X pins σ H5 s6 := I3.call' (ch := fp) I6.os I6.base I6.hok I6.bare fun b hb => ⟨(f3 b hb).1.2.2.2.1, (f3 b hb).1.2.1, (f3 b hb).1.2.2.2.2.1, (f3 b hb).1.2.2.2.2.2⟩
      have nC : H5 s3.heap.objs.size = none := by
        have z : H5 ce.locals = none := I6.free
        rw [cL] at z
        exact z
      obtain ⟨m, hn, _⟩ := I6.loc
      have hn : s6.heap.Ns ce.locals m := hn
      rw [cL] at hn
      exact hRR D s3.heap.objs.size s6 m H5 I7 qq hn (I3.fpOk (Nat.le_refl _) nC)
    · have ti := T.item (X.blk s3 H3 sco ce fp) rfl rfl rfl hc i [] s5 _ H5 (fun _ _ => False) I5 (still I5 n5) st5 go
      refine thnF ti fun r s6 ⟨u, hr, h6⟩ => ?_
      subst hr
      refine thnF h6 fun _ s7 ⟨x, H7, I7, r7, y7, st7, n7⟩ => ?_
      have I7' := I7.pinned (still I7 n7) (T.obj _ _ st7)
      refine thnF (qg.run _ s7 _ H7 x u _ I7' r7 (step x H7 y7)) fun _ s8 ⟨σ8, H8, I8, hw8, q8⟩ => ?_
      refine thnF (qt.run _ s8 σ8 H8 _ I8 q8) fun b s9 ⟨H9, I9, q9⟩ => ?_
      -- the turn's end, from any slots that know what the block knew at its start
      have last : ∀ {σ9 : L2.St} {s' : Shared} {H' : Hp}, Inv (X.blk s3 H3 sco ce fp) ([] ++ pinsAt fp s7.heap) σ9 H' s' → (wipe σ (own.map (·.2))).length = σ9.length → (∀ (j : Nat) v, (wipe σ (own.map (·.2)))[j]? = some (some v) → σ9[j]? = some (some v)) → Nx H' →
          ∃ m, m < n ∧ ∃ i H', Inv (X.blk s3 H3 sco ce fp) [] (wipe σ (own.map (·.2))) H' s' ∧ tn i s'.heap ∧ (∀ b ∈ fp, H' b = none) ∧ W i m H' := fun {σ9 s' H'} I' hl hk nx => by
        obtain ⟨m', hm, w'⟩ := hNx H' nx
        have pin' : ∀ b ∈ fp, ∀ o, s7.heap.get? b = some o → s'.heap.get? b = some o ∧ H' b = none := fun b hb o e =>
          let z := I'.pin (b, o) (List.mem_append_right _ (List.mem_append_right _ (mem_pinsAt hb e)))
          ⟨z.1, z.2.1⟩
        refine ⟨m', hm, i + 1, H', (I'.unpinned (pins := [])).weak hl hk, T.keep _ _ _ st7 fun b hb o e => (pin' b hb o e).1, fun b hb => ?_, w'⟩
        obtain ⟨o, e, _⟩ := T.obj _ _ st7 b hb
        exact (pin' b hb o e).2
      have hl8 : (wipe σ (own.map (·.2))).length = σ8.length := by rw [← hw8, wipe_length]
      have hk8 : ∀ (j : Nat) v, (wipe σ (own.map (·.2)))[j]? = some (some v) → σ8[j]? = some (some v) := fun j v e => by
        rw [← hw8] at e
        exact (wipe_some e).1
      have hk9 : ∀ (j : Nat) v, (wipe σ (own.map (·.2)))[j]? = some (some v) → (wipe σ8 vs1)[j]? = some (some v) := fun j v e => by
        rw [← hw8] at e
        obtain ⟨e1, e2⟩ := wipe_some e
        rw [wipe_out fun z => e2 (hv j z)]
        exact e1
      cases b with
      | false =>
        simp only [Bool.false_eq_true, if_false] at q9 ⊢
        exact last I9 hl8 hk8 q9
      | true =>
        simp only [if_true] at q9 ⊢
        obtain ⟨dl, ul, hdl, mul, q9⟩ := q9
        have nfz := I9.nofrz hdl mul
        obtain ⟨odl, I9⟩ := I9.lock hdl mul
        refine thnF (qib.run _ s9 σ8 _ _ I9 (q9 odl)) fun xv s10 hx => thnF hx fun itv s11 h11 => ?_
        obtain ⟨it1, fp1, tn1, J1, H11, e1, I11, T1, st11, f11, W1, ⟨m1, w1⟩, trn1⟩ := h11
        subst e1
        -- the inner loop
        have still1 : ∀ {H' : Hp}, (∀ b ∈ fp1, H' b = none) → ∀ b ∈ fp1, FpOk (X.blk s3 H3 sco ce fp) ([] ++ pinsAt fp s7.heap) H' b := fun hn b hb => ⟨hn b hb, (f11 b hb).2⟩
        have loop1 : codeAny (model X.prog X.w) X.A (.compLoop (.SetComp el [⟨tg, ita, fs, 0⟩, ⟨tgb, itb, fb, 0⟩] sco pos) 1 (.ref it1) (.ref D) ce)
            (fun r s' => match r with
              | .ok _ => ∃ m, m < n ∧ ∃ i H', Inv (X.blk s3 H3 sco ce fp) [] (wipe σ (own.map (·.2))) H' s' ∧ tn i s'.heap ∧ (∀ b ∈ fp, H' b = none) ∧ W i m H'
              | .error _ => False) s11 := by
          refine compLoopS2_in (fun k s' => ∃ j H', Inv (X.blk s3 H3 sco ce fp) ([] ++ pinsAt fp s7.heap) (wipe σ8 vs1) H' s' ∧ tn1 j s'.heap ∧ (∀ b ∈ fp1, H' b = none) ∧ W1 j k H') ?_ m1 ⟨0, H11, I11.weak (wipe_length _ _) (fun j v e => (wipe_some e).1), st11, fun b hb => (f11 b hb).1, w1⟩
          rintro k s12 ⟨j, H12, I12, st12, n12, w12⟩
          rcases trn1 j k H12 w12 with ⟨stop1, lk1, nx1⟩ | ⟨go1, Nx1, hNx1, step1⟩
          · refine thnF (T1.done (X.blk s3 H3 sco ce fp) rfl rfl rfl hc j _ s12 (wipe σ8 vs1) H12 (fun _ _ => False) I12 (still1 n12) st12 stop1) fun r s13 ⟨hr, I13⟩ => ?_
            subst hr
            exact last (I13.unlock lk1 nfz) (hl8.trans (wipe_length σ8 vs1).symm) hk9 nx1
          · refine thnF (T1.item (X.blk s3 H3 sco ce fp) rfl rfl rfl hc j _ s12 (wipe σ8 vs1) H12 (fun _ _ => False) I12 (still1 n12) st12 go1) fun r s13 ⟨u1, hr, h13⟩ => ?_
            subst hr
            refine thnF h13 fun _ s14 ⟨x1, H14, I14, r14, y14, st14, n14⟩ => ?_
            have I14' := I14.pinned (still1 n14) (T1.obj _ _ st14)
            refine thnF (qgb.run _ s14 (wipe σ8 vs1) H14 x1 u1 _ I14' r14 (step1 x1 H14 y14)) fun _ s15 ⟨σ15, H15, I15, hw15, q15⟩ => ?_
            refine thnF (qtb.run _ s15 σ15 H15 _ I15 q15) fun b1 s16 ⟨H16, I16, q16⟩ => ?_
            have last1 : ∀ {s' : Shared} {H' : Hp}, Inv (X.blk s3 H3 sco ce fp) (([] ++ pinsAt fp s7.heap) ++ pinsAt fp1 s14.heap) σ15 H' s' → Nx1 H' → ∃ m, m < k ∧ ∃ j H', Inv (X.blk s3 H3 sco ce fp) ([] ++ pinsAt fp s7.heap) (wipe σ8 vs1) H' s' ∧ tn1 j s'.heap ∧ (∀ b ∈ fp1, H' b = none) ∧ W1 j m H' := fun {s' H'} I' nx => by
              obtain ⟨m', hm, w'⟩ := hNx1 H' nx
              have pin' : ∀ b ∈ fp1, ∀ o, s14.heap.get? b = some o → s'.heap.get? b = some o ∧ H' b = none := fun b hb o e =>
                let z := I'.pin (b, o) (List.mem_append_right _ (List.mem_append_right _ (mem_pinsAt hb e)))
                ⟨z.1, z.2.1⟩
              refine ⟨m', hm, j + 1, H', I'.unpinned.weak (by rw [← hw15, wipe_length]) (fun j v e => by rw [← hw15] at e; exact (wipe_some e).1), T1.keep _ _ _ st14 fun b hb o e => (pin' b hb o e).1, fun b hb => ?_, w'⟩
              obtain ⟨o, e, _⟩ := T1.obj _ _ st14 b hb
              exact (pin' b hb o e).2
            cases b1 with
            | false =>
              simp only [Bool.false_eq_true, if_false] at q16 ⊢
              exact last1 I16 q16
            | true =>
              simp only [if_true] at q16 ⊢
              refine thnF (qe.run _ s16 σ15 H16 _ I16 q16) fun z s17 ⟨yv, H17, I17, r17, k0, T0, n0, ek0, hD17, hz17, nx⟩ => ?_
              subst ek0
              exact addQ_ok (X := X.blk s3 H3 sco ce fp) I17 hD17 r17 hz17 fun s18 I18 => last1 I18 nx
        exact compStartS1_ok loop1 (T1.self X.A 0 _ _ _ st11 loop1)
  exact PpSet.codeAny_compStart_set loop (T.self X.A 0 _ _ _ st4 loop)
/-- as a value -/
theorem pe_sc2 {el tg ita tgb itb : Expr} {fs fb : List Expr} {sco : Scope} {own : List (Str × Nat)} {vs1 : List Nat} {pos : Pos} {wi wib : TI} {g gb : TG} {tt ttb : TT} {te : TE} (hc : X.calm = true) (hN : X.N.Nodup) (hi : PI X tg ita wi) (ok : BlkOk X.N X.env.scope sco own) (hv : ∀ i ∈ vs1, i ∈ own.map (·.2))
    (hg : ∀ (s : Shared) (H : Hp) (C : Addr) (cl : List (Str × Addr)) (fp : List Addr), PG (X.blk s H sco (compEnvC sco cl C X.env) fp) tg g) (ht : ∀ (s : Shared) (H : Hp) (C : Addr) (cl : List (Str × Addr)) (fp : List Addr), PTs (X.blk s H sco (compEnvC sco cl C X.env) fp) fs tt)
    (hi1 : ∀ (s : Shared) (H : Hp) (C : Addr) (cl : List (Str × Addr)) (fp : List Addr), PI (X.blk s H sco (compEnvC sco cl C X.env) fp) tgb itb wib)
    (hg1 : ∀ (s : Shared) (H : Hp) (C : Addr) (cl : List (Str × Addr)) (fp : List Addr), PG (X.blk s H sco (compEnvC sco cl C X.env) fp) tgb gb) (ht1 : ∀ (s : Shared) (H : Hp) (C : Addr) (cl : List (Str × Addr)) (fp : List Addr), PTs (X.blk s H sco (compEnvC sco cl C X.env) fp) fb ttb)
    (he : ∀ (s : Shared) (H : Hp) (C : Addr) (cl : List (Str × Addr)) (fp : List Addr), PE (X.blk s H sco (compEnvC sco cl C X.env) fp) el te) (hs : ∀ x, foldedSetIterable ita X.env x = pure x := by intro _; rfl) (hs1 : ∀ env x, foldedSetIterable itb env x = pure x := by intro _ _; rfl) :
    PE X (.SetComp el [⟨tg, ita, fs, 0⟩, ⟨tgb, itb, fb, 0⟩] sco pos) (tSc2 X.prog X.w wi g tt wib gb ttb te (own.map (·.2)) vs1) := by
  refine ⟨fun pins s σ H Q I h => ?_⟩
  rw [PpSet.eval_SetComp]
  refine sc2_core hc hN I hi ok hv hg ht he hs hi1 hg1 ht1 hs1 h fun D C s' m H' I' q hn f => ⟨m, hn, fun h'' sb => ?_⟩
  obtain ⟨f0, f1, f2, f3, f4, f5⟩ := f
  exact ⟨.ref D, H', I'.turned (t' := s'.toks) (fun b o hb e => (sb.2 b hb).trans e) f0 f1 f3 f4 f5, rfl, q⟩
theorem ps_setSc2 {i : Nat} {y : Str} {py : Pos} {el tg ita tgb itb : Expr} {fs fb : List Expr} {sco : Scope} {own : List (Str × Nat)} {vs1 : List Nat} {pos spos : Pos} {wi wib : TI} {g gb : TG} {tt ttb : TT} {te : TE} (hc : X.calm = true) (hN : X.N.Nodup) (hy : X.N[i]? = some y) (hyl : X.env.scope.names.lookup y = some .local)
    (hsw : swapsWith (.SetComp el [⟨tg, ita, fs, 0⟩, ⟨tgb, itb, fb, 0⟩] sco pos) (some (.Name y py)) spos.line X.env = pure true) (hi : PI X tg ita wi) (ok : BlkOk X.N X.env.scope sco own) (hv : ∀ i ∈ vs1, i ∈ own.map (·.2))
    (hg : ∀ (s : Shared) (H : Hp) (C : Addr) (cl : List (Str × Addr)) (fp : List Addr), PG (X.blk s H sco (compEnvC sco cl C X.env) fp) tg g) (ht : ∀ (s : Shared) (H : Hp) (C : Addr) (cl : List (Str × Addr)) (fp : List Addr), PTs (X.blk s H sco (compEnvC sco cl C X.env) fp) fs tt)
    (hi1 : ∀ (s : Shared) (H : Hp) (C : Addr) (cl : List (Str × Addr)) (fp : List Addr), PI (X.blk s H sco (compEnvC sco cl C X.env) fp) tgb itb wib)
    (hg1 : ∀ (s : Shared) (H : Hp) (C : Addr) (cl : List (Str × Addr)) (fp : List Addr), PG (X.blk s H sco (compEnvC sco cl C X.env) fp) tgb gb) (ht1 : ∀ (s : Shared) (H : Hp) (C : Addr) (cl : List (Str × Addr)) (fp : List Addr), PTs (X.blk s H sco (compEnvC sco cl C X.env) fp) fb ttb)
    (he : ∀ (s : Shared) (H : Hp) (C : Addr) (cl : List (Str × Addr)) (fp : List Addr), PE (X.blk s H sco (compEnvC sco cl C X.env) fp) el te) (hs : ∀ x, foldedSetIterable ita X.env x = pure x := by intro _; rfl) (hs1 : ∀ env x, foldedSetIterable itb env x = pure x := by intro _ _; rfl) :
    PS X (.Assign [.Name y py] (.SetComp el [⟨tg, ita, fs, 0⟩, ⟨tgb, itb, fb, 0⟩] sco pos) spos) (tAsg (tSc2 X.prog X.w wi g tt wib gb ttb te (own.map (·.2)) vs1) (gName i)) := by
  refine ⟨fun pins s σ H D I h => ?_⟩
  rw [exec_Assign_Name_used _ _ _ _ hsw]
  refine wpAny_bind (wpAny_standAt (wpAny_bind ?_))
  show wpAny _ X.A (do let _ ← comprehension (.SetComp el [⟨tg, ita, fs, 0⟩, ⟨tgb, itb, fb, 0⟩] sco pos) sco X.env (firstIterPos [⟨tg, ita, fs, 0⟩, ⟨tgb, itb, fb, 0⟩] pos) (newSet (.type "set")) false (eval ita X.env) (some (assign (.Name y py) X.env))) _ _ s
  have h : tSc2 X.prog X.w wi g tt wib gb ttb te (own.map (·.2)) vs1 σ H (fun x H1 => gName i x σ H1 D.nx) := h
  refine wpAny_bind (thn (sc2_core (Qf := fun _ s' => SP X pins D .next s') hc hN I hi ok hv hg ht he hs hi1 hg1 ht1 hs1 h fun L C s' m H' I' q hn f => ?_) fun _ s' hq => wpAny_pure (wpAny_pure hq))
  show wpAny _ _ (assign (.Name y py) X.env (.ref L)) _ _ _
  refine wpAny_assign_Name (store_ok2 (v := V.ref L) I' hN hy (.inl hyl) rfl (fun s2 I2 ⟨a, sb, ha⟩ => ?_) (.inr hyl))
  obtain ⟨f0, f1, f2, f3, f4, f5⟩ := f
  have haC : C ≠ a := by
    rcases ha with z | z
    · rw [z]; exact f1
    · exact fun e => f4 y a z e.symm
  refine ⟨m, hn.sameBut sb haC, fun h3 sb3 => ?_⟩
  exact ⟨_, H', I2.turned (t' := s2.toks) (fun b o hb e => (sb3.2 b hb).trans e) f0 f1 f3 f4 f5, q⟩

end
/-! ### {k for d in ds for k in d}: ds a list of dicts -/
def kSc2 (P : Program) (w : World) (J : It) (g : TG) (tt : TT) (wi1 : TI) (g1 : TG) (tt1 : TT) (te : TE) (vs vs1 : List Nat) (σ : L2.St) (H1 : Hp) (Q : VK) : Prop := ∀ D, H1 D = none → ∃ W : Nat → Nat → Hp → Prop, (∃ m, W 0 m (upd H1 D (SetQ P w D (fun _ => false) 0))) ∧ ∀ i m H, W i m H →
  (J.stop i H ∧ Q (.ref D) H) ∨ (J.go i H ∧ ∃ Nx : Hp → Prop, (∀ H', Nx H' → ∃ m', m' < m ∧ W (i + 1) m' H') ∧ ∀ x H', J.yld i H x H' → g x (wipe σ vs) H' fun σ2 H2 => wipe σ2 vs = wipe σ vs ∧ tt σ2 H2 fun b H3 =>
    if b = true then ∃ (d : Addr) (u : HO), H3 d = some u ∧ Mut (some u) ∧ ∀ od, wi1 σ2 (upd H3 d (.frz od u)) fun J1 H4 => ∃ W1 : Nat → Nat → Hp → Prop, (∃ m, W1 0 m H4) ∧ ∀ j k H, W1 j k H →
      (J1.stop j H ∧ H d = some (.frz od u) ∧ Nx (upd H d u)) ∨ (J1.go j H ∧ ∃ Nx1 : Hp → Prop, (∀ H', Nx1 H' → ∃ k', k' < k ∧ W1 (j + 1) k' H') ∧ ∀ x H', J1.yld j H x H' → g1 x (wipe σ2 vs1) H' fun σ3 H5 => wipe σ3 vs1 = wipe σ2 vs1 ∧ tt1 σ3 H5 fun b H6 =>
        if b = true then te σ3 H6 fun y H7 => ∃ (k : Key) (T : Key → Bool) (n : Nat), y = kV k ∧ H7 D = some (SetQ P w D T n) ∧ n + 1 < scanBound ∧ Nx1 (upd H7 D (SetQ P w D (fun k' => T k' || decide (k' = k)) (if T k = true then n else n + 1))) else Nx1 H6)
    else Nx H3)
def kSc2L (K : PySem.W.Frag) (P : Program) (w : World) (g : TG) (tt : TT) (wi1 : TI) (g1 : TG) (tt1 : TT) (te : TE) (vs vs1 : List Nat) (σ : L2.St) (x : V) (H1 : Hp) (Q : VK) : Prop := ∃ a, x = .ref a ∧ (∃ xs, SqL K H1 a xs) ∧ kSc2 P w (Itl K a) g tt wi1 g1 tt1 te vs vs1 σ H1 Q
theorem g_sc2 {K : PySem.W.Frag} {P : Program} {w : World} {g : TG} {tt : TT} {wi1 : TI} {g1 : TG} {tt1 : TT} {tl te : TE} {vs vs1 : List Nat} {σ : L2.St} {H : Hp} {Q : VK} (q : tl σ H fun x H1 => kSc2L K P w g tt wi1 g1 tt1 te vs vs1 σ x H1 Q) : tSc2 P w (iList K tl) g tt wi1 g1 tt1 te vs vs1 σ H Q := q
/-- the number of entries of the dicts -/
def sumL (kv : Addr → List (Key × V)) : List Addr → Nat
  | [] => 0
  | d :: ds => (kv d).length + sumL kv ds
theorem sumL_app (kv : Addr → List (Key × V)) : ∀ xs ys : List Addr, sumL kv (xs ++ ys) = sumL kv xs + sumL kv ys
  | [], ys => (Nat.zero_add _).symm
  | x :: xs, ys => by
    show (kv x).length + sumL kv (xs ++ ys) = (kv x).length + sumL kv xs + sumL kv ys
    rw [sumL_app kv xs ys]
    omega
theorem sumL_take (kv : Addr → List (Key × V)) (xs : List Addr) (i : Nat) : sumL kv (xs.take i) ≤ sumL kv xs := by
  have := sumL_app kv (xs.take i) (xs.drop i)
  rw [List.take_append_drop] at this
  omega
theorem setQ_frz {P : Program} {w : World} {D : Addr} {T : Key → Bool} {n : Nat} {u : HO} (h : ∀ h', u ≠ .ext h') : SetQ P w D T n ≠ u := fun e => h _ e.symm
theorem k_keysOf {K : PySem.W.Frag} {P : Program} {w : World} {i j : Nat} {σ : L2.St} {F H1 : Hp} {O : Own} {Q : VK} {a : Addr} {ds : List Addr} (hH : Has F O H1) (ha : F a = some (.lst (ds.map V.ref)) ∨ (a, .lst (ds.map V.ref)) ∈ O) (kv : Addr → List (Key × V)) (hd : ∀ d ∈ ds, F d = some (.dK (kv d)))
    (hl : sumL kv ds ≤ 1000) (hi : i < σ.length) (hj : j < σ.length) (ne : i ≠ j)
    (q : ∀ D H' T n, H1 D = none → (∀ k, T k = true ↔ ∃ d ∈ ds, ∃ v, (k, v) ∈ kv d) → n ≤ sumL kv ds → Has F ((D, SetQ P w D T n) :: O) H' → Q (.ref D) H') :
    kSc2L K P w (gName i) tYes (iKeys (tVar i)) (gName j) tYes (tVar j) [i, j] [j] σ (.ref a) H1 Q := by
  have la : ∀ {H' : Hp} {D : Addr} {o : HO}, Has F ((D, o) :: O) H' → H' a = some (.lst (ds.map V.ref)) := fun {H' D o} h => by
    rcases ha with h' | h'
    · exact h.same _ _ h'
    · exact h.get (List.mem_cons_of_mem _ h')
  have la1 : H1 a = some (.lst (ds.map V.ref)) := by
    rcases ha with h' | h'
    · exact hH.same _ _ h'
    · exact hH.get h'
  refine ⟨a, rfl, ⟨_, SqL.of la1⟩, fun D nD => ?_⟩
  refine ⟨fun t m H => m = ds.length - t ∧ t ≤ ds.length ∧ ∃ T n, Has F ((D, SetQ P w D T n) :: O) H ∧ (∀ k, T k = true ↔ ∃ d ∈ ds.take t, ∃ v, (k, v) ∈ kv d) ∧ n ≤ sumL kv (ds.take t),
    ⟨_, rfl, Nat.zero_le _, _, _, hH.new nD, fun k => by simp, Nat.le_refl _⟩, ?_⟩
  rintro t m H ⟨rfl, ht, T, n, hh, hT, hn⟩
  by_cases hlt : t < ds.length
  · have ed : ds[t]? = some ds[t] := List.getElem?_eq_getElem hlt
    generalize ds[t] = d at ed
    have dm := List.mem_of_getElem? ed
    have ex : (ds.map V.ref)[t]? = some (.ref d) := by rw [List.getElem?_map, ed]; rfl
    have tk : ds.take (t + 1) = ds.take t ++ [d] := by rw [List.take_add_one, ed]; rfl
    refine .inr ⟨⟨_, _, SqL.of (la hh), ex⟩, fun H' => ∃ T n, Has F ((D, SetQ P w D T n) :: O) H' ∧ (∀ k, T k = true ↔ ∃ d ∈ ds.take (t + 1), ∃ v, (k, v) ∈ kv d) ∧ n ≤ sumL kv (ds.take (t + 1)), fun H' z => ⟨ds.length - (t + 1), by omega, rfl, hlt, z⟩, ?_⟩
    rintro x H' ⟨rfl, y⟩
    have exx := (y _ (SqL.of (la hh))).symm.trans ex
    injection exx with exx
    subst exx
    have w2 : wipe ((wipe σ [i, j]).set i (some (V.ref d))) [i, j] = wipe σ [i, j] := by
      dsimp only [wipe]
      apply List.ext_getElem?
      intro z
      simp only [List.getElem?_set]
      split <;> split <;> simp_all
    refine ⟨w2, ?_⟩
    refine g_yes (iteT ?_)
    have fd := hd d dm
    have hld := hh.same _ _ fd
    refine ⟨d, _, hld, trivial, fun od => ?_⟩
    have hL := hh.lock (od := od) fd
    have gi : ((wipe σ [i, j]).set i (some (V.ref d)))[i]? = some (some (V.ref d)) := by
      dsimp only [wipe]
      simp [hi]
    refine ⟨.ref d, gi, d, od, rfl, .inl ⟨_, upd_same, ?_⟩⟩
    have lkv : sumL kv (ds.take t) + (kv d).length ≤ 1000 := by
      have h1 := sumL_take kv ds (t + 1)
      rw [tk, sumL_app] at h1
      have h2 : sumL kv [d] = (kv d).length := Nat.add_zero _
      omega
    refine ⟨fun u k H => k = (kv d).length - u ∧ u ≤ (kv d).length ∧ ∃ T n, Has (upd F d (.frz od (.dK (kv d)))) ((D, SetQ P w D T n) :: O) H ∧ (∀ k, T k = true ↔ (∃ d ∈ ds.take t, ∃ v, (k, v) ∈ kv d) ∨ ∃ v, (k, v) ∈ (kv d).take u) ∧ n ≤ sumL kv (ds.take t) + u,
      ⟨_, rfl, Nat.zero_le _, T, n, hL, fun k => by rw [hT k]; simp, by omega⟩, ?_⟩
    rintro u k H ⟨rfl, hu, T, n, hh, hT, hn⟩
    have hfz : H d = some (.frz od (.dK (kv d))) := hh.same _ _ upd_same
    by_cases hul : u < (kv d).length
    · have ep : (kv d)[u]? = some (kv d)[u] := List.getElem?_eq_getElem hul
      generalize (kv d)[u] = p at ep
      have tk2 : (kv d).take (u + 1) = (kv d).take u ++ [p] := by rw [List.take_add_one, ep]; rfl
      refine .inr ⟨⟨hfz, hul⟩, fun H' => ∃ T n, Has (upd F d (.frz od (.dK (kv d)))) ((D, SetQ P w D T n) :: O) H' ∧ (∀ k, T k = true ↔ (∃ d ∈ ds.take t, ∃ v, (k, v) ∈ kv d) ∨ ∃ v, (k, v) ∈ (kv d).take (u + 1)) ∧ n ≤ sumL kv (ds.take t) + (u + 1), fun H' z => ⟨(kv d).length - (u + 1), by omega, rfl, hul, z⟩, ?_⟩
      rintro x H' ⟨rfl, k0, v0, ek, rfl⟩
      rw [ep] at ek
      injection ek with ek
      subst ek
      have w3 : wipe ((wipe ((wipe σ [i, j]).set i (some (V.ref d))) [j]).set j (some (kV k0))) [j] = wipe ((wipe σ [i, j]).set i (some (V.ref d))) [j] := by
        dsimp only [wipe]
        rw [List.set_set]
        rw [List.set_set]
      refine ⟨w3, ?_⟩
      refine g_yes (iteT ?_)
      have gj : ((wipe ((wipe σ [i, j]).set i (some (V.ref d))) [j]).set j (some (kV k0)))[j]? = some (some (kV k0)) := by
        dsimp only [wipe]
        simp [hj]
      refine ⟨_, gj, k0, T, n, rfl, hh.get (List.Mem.head _), by unfold scanBound; omega, _, _, hh.put .hd, fun k' => ?_, ?_⟩
      · rw [Bool.or_eq_true, hT k', decide_eq_true_eq, tk2]
        constructor
        · rintro ((h | ⟨v, h⟩) | h)
          · exact .inl h
          · exact .inr ⟨v, List.mem_append_left _ h⟩
          · subst h
            exact .inr ⟨v0, List.mem_append_right _ (List.mem_singleton.mpr rfl)⟩
        · rintro (h | ⟨v, h⟩)
          · exact .inl (.inl h)
          · rcases List.mem_append.mp h with h | h
            · exact .inl (.inr ⟨v, h⟩)
            · have := List.mem_singleton.mp h
              injection this with e1 e2
              exact .inr e1
      · split <;> omega
    · have e : u = (kv d).length := by omega
      subst e
      refine .inl ⟨⟨hfz, Nat.le_refl _⟩, hfz, ?_⟩
      have hU := hh.unlock (od := od) (u := .dK (kv d)) upd_same
      have eF : upd (upd F d (.frz od (.dK (kv d)))) d (.dK (kv d)) = F := by
        funext b
        by_cases e : b = d
        · subst e
          rw [upd_same, fd]
        · rw [upd_ne e, upd_ne e]
      rw [eF] at hU
      refine ⟨T, n, hU, fun k => ?_, ?_⟩
      · rw [hT k, List.take_length, tk]
        constructor
        · rintro (⟨d', hd', v, h⟩ | ⟨v, h⟩)
          · exact ⟨d', List.mem_append_left _ hd', v, h⟩
          · exact ⟨d, List.mem_append_right _ (List.mem_singleton.mpr rfl), v, h⟩
        · rintro ⟨d', hd', v, h⟩
          rcases List.mem_append.mp hd' with hd' | hd'
          · exact .inl ⟨d', hd', v, h⟩
          · rw [List.mem_singleton.mp hd'] at h
            exact .inr ⟨v, h⟩
      · rw [tk, sumL_app]
        show n ≤ sumL kv (ds.take t) + ((kv d).length + 0)
        omega
  · have e : t = ds.length := by omega
    subst e
    rw [List.take_length] at hT hn
    refine .inl ⟨⟨_, SqL.of (la hh), by rw [List.length_map]; exact Nat.le_refl _⟩, q D H T n nD hT hn hh⟩
section
variable {X : Cx} {ex : Expr} {st : Stmt} {wi wi1 : TI} {g g1 : TG} {tt tt1 : TT} {te : TE} {vs vs1 : List Nat} {i : Nat}
theorem k_sc2 (P : Program) (w : World) (h : PE X ex (tSc2 X.prog X.w wi g tt wi1 g1 tt1 te vs vs1)) (eP : X.prog = P := by rfl) (ew : X.w = w := by rfl) : PE X ex (tSc2 P w wi g tt wi1 g1 tt1 te vs vs1) := by
  subst eP
  subst ew
  exact h
theorem k_sc2S (P : Program) (w : World) (h : PS X st (tAsg (tSc2 X.prog X.w wi g tt wi1 g1 tt1 te vs vs1) (gName i))) (eP : X.prog = P := by rfl) (ew : X.w = w := by rfl) : PS X st (tAsg (tSc2 P w wi g tt wi1 g1 tt1 te vs vs1) (gName i)) := by
  subst eP
  subst ew
  exact h
end
section
variable {elt kx vx : Expr} {gs : List Comprehension} {sco : Scope} {pos py : Pos} {y : Str} {l : Nat} {env : Env}
theorem sw_trueS (hk : env.scope.kind = .function) (hy : env.scope.names.lookup y = some .local) (hl : (py.line == pos.line) = true) (ha : (sco.names.any fun (n, k) => n == y && (k == .local || k == .cell)) = false) : swapsWith (.SetComp elt gs sco pos) (some (.Name y py)) l env = pure true := by
  have ky : env.kindOf y = some .local := hy
  have hb : env.blockKind = .function := by
    unfold Env.blockKind
    rw [hk]
    rfl
  unfold swapsWith
  simp only [hb, ky, ha, Expr.pos, hl]
  rfl
theorem sw_trueD (hk : env.scope.kind = .function) (hy : env.scope.names.lookup y = some .local) (hl : (py.line == pos.line) = true) (ha : (sco.names.any fun (n, k) => n == y && (k == .local || k == .cell)) = false) : swapsWith (.DictComp kx vx gs sco pos) (some (.Name y py)) l env = pure true := by
  have ky : env.kindOf y = some .local := hy
  have hb : env.blockKind = .function := by
    unfold Env.blockKind
    rw [hk]
    rfl
  unfold swapsWith
  simp only [hb, ky, ha, Expr.pos, hl]
  rfl
end
end Qk

/-! Qtr: dicts of lists: list(d), list(d.items()), d.get(k), dict comprehensions -/
namespace Qk
open PySem PySem.Spec PyProof.Rows L2
/-! ### list(d) -/
def rListD : List V → Hp → VK → Prop := fun xs H Q => ∃ (a : Addr) (kvs : List (Key × V)), xs = [.ref a] ∧ Rd H a (.dK kvs) ∧ ∀ p, H p = none → Q (.ref p) (upd H p (.lst (kvs.map fun kv => kV kv.1)))
theorem cr_listD {X : Cx} (hc : X.calm = true) : CallR X (.type "list") rListD := call_listD hc
section
variable {K : PySem.W.Frag} {σ : L2.St} {F : Hp} {O O' : Own} {H : Hp} {Q : VK} {te ta tb : TE} {x y v : V}
theorem g_listD {a : Addr} {kvs : List (Key × V)} (h : H a = some (.dK kvs)) (hH : Has F O H) (q : ∀ p H', H p = none → Has F ((p, .lst (kvs.map fun kv => kV kv.1)) :: O) H' → Q (.ref p) H') : rListD [.ref a] H Q :=
  ⟨a, kvs, rfl, .inl h, fun p n => q p _ n (hH.new n)⟩
/-! ### d.get(k) -/
def kGet1 (ty : TE) (σ : L2.St) (x : V) (H : Hp) (Q : VK) : Prop := ∃ a, x = .ref a ∧ IsD H a ∧ ty σ H fun y H2 => ∃ o, DGet H2 a y o ∧ Q (o.getD .non) H2
theorem g_get1 (q : ta σ H fun x H1 => kGet1 tb σ x H1 Q) : tDGet1 ta tb σ H Q := q
theorem g_kget1 {a : Addr} {kvs : List (Key × V)} (h : H a = some (.dK kvs)) (q : tb σ H fun y H2 => kGot a y .non H2 Q) : kGet1 tb σ (.ref a) H Q := ⟨a, rfl, .inl ⟨kvs, .inl h⟩, q⟩
/-! ### list(d.items()) -/
theorem g_listItems (q : te σ H fun x H1 => LiI.rItemsL x H1 Q) : LiI.tListItems te σ H Q := q
theorem g_items {d : Addr} {kvs : List (Key × V)} (h : H d = some (.dK kvs)) (q : ∀ p H' ts, Same H H' → H p = none → H' p = some (.lst (ts.map V.ref)) → Paired (fun (t : Addr) (q : Key × V) => H' t = some (.tup [kV q.1, q.2])) ts kvs → Q (.ref p) H') : LiI.rItemsL (.ref d) H Q :=
  ⟨d, kvs, rfl, h, fun H' p ts s n _ _ e pd => q p H' ts s n e pd⟩
end
end Qk

/-! Qtm: texts that may lack, trees as dicts of lists -/
namespace Qk
open PySem PySem.Spec PyProof.Rows L2
abbrev Tx := List Str
def txD (t : Tx) : PyData := .list (t.map PyData.str)
def oxD : Option Tx → PyData
  | none => .none
  | some t => txD t
def okX (t : Tx) : Prop := ∀ z ∈ t, PyData.strOk z = true
def okO (o : Option Tx) : Prop := ∀ t, o = some t → okX t
theorem eqv_oxD : ∀ a b : Option Tx, PyData.eqv (oxD a) (oxD b) = decide (a = b)
  | none, none => by rw [oxD, PyData.eqv]; rfl
  | none, some t => by rw [oxD, oxD, txD, PyData.eqv]; rfl
  | some t, none => by rw [oxD, oxD, txD, PyData.eqv]; rfl
  | some s, some t => by
    rw [oxD, oxD, txD, txD, eqv_strs]
    rw [Bool.eq_iff_iff, decide_eq_true_eq, decide_eq_true_eq]
    exact ⟨fun h => by rw [h], fun h => Option.some.inj h⟩
theorem eqvAll_oxD : ∀ xs ys : List (Option Tx), PyData.eqvAll (xs.map oxD) (ys.map oxD) = decide (xs = ys)
  | [], [] => by rw [List.map_nil, PyData.eqvAll]; rfl
  | [], y :: ys => by rw [List.map_nil, List.map_cons, PyData.eqvAll]; rfl
  | x :: xs, [] => by rw [List.map_nil, List.map_cons, PyData.eqvAll]; rfl
  | x :: xs, y :: ys => by
    rw [List.map_cons, List.map_cons, PyData.eqvAll, eqv_oxD, eqvAll_oxD xs ys]
    by_cases e : x = y
    · subst e
      simp
    · simp [e]
theorem eqv_oxL (xs ys : List (Option Tx)) : PyData.eqv (.list (xs.map oxD)) (.list (ys.map oxD)) = decide (xs = ys) := by rw [PyData.eqv, eqvAll_oxD]
theorem any_oxD (xs : List (Option Tx)) (x : Option Tx) : ((xs.map oxD).any fun z => PyData.eqv z (oxD x)) = decide (x ∈ xs) := by
  rw [List.any_map, Bool.eq_iff_iff, List.any_eq_true, decide_eq_true_eq]
  constructor
  · rintro ⟨y, hy, e⟩
    have e : PyData.eqv (oxD y) (oxD x) = true := e
    rw [eqv_oxD] at e
    rw [← of_decide_eq_true e]
    exact hy
  · intro h
    refine ⟨x, h, ?_⟩
    show PyData.eqv (oxD x) (oxD x) = true
    rw [eqv_oxD]
    exact decide_eq_true rfl
theorem sh_oxD {o : Option Tx} (h : okO o) : Sh 1 (oxD o) := by
  cases o with
  | none => exact Sh.non
  | some t => exact Sh.strs (h t rfl)
theorem shL_oxD {xs : List (Option Tx)} (h : ∀ o ∈ xs, okO o) : Sh 2 (.list (xs.map oxD)) := Sh.list fun d hd => by
  obtain ⟨o, ho, rfl⟩ := List.mem_map.mp hd
  exact sh_oxD (h o ho)
theorem okO_some {t : Tx} (h : okX t) : okO (some t) := fun _ e => by
  injection e with e
  rw [← e]
  exact h
theorem okO_none : okO none := fun _ e => by cases e
/-! ### the chosen one -/
def oth (base : Option Tx) (vs : List (Option Tx)) : List (Option Tx) := vs.foldl (fun acc v => if v = base then acc else if v ∈ acc then acc else acc ++ [v]) []
def cho (base : Option Tx) (vs : List (Option Tx)) : Option Tx := if (oth base vs).length = 1 then (oth base vs).headD base else base
theorem oth_step {base : Option Tx} {vs : List (Option Tx)} {i : Nat} {v : Option Tx} (h : vs[i]? = some v) : oth base (vs.take (i + 1)) = if v = base then oth base (vs.take i) else if v ∈ oth base (vs.take i) then oth base (vs.take i) else oth base (vs.take i) ++ [v] := take_foldl h
theorem oth_inv (base : Option Tx) : ∀ (vs acc : List (Option Tx)), acc.Nodup → (vs.foldl (fun acc v => if v = base then acc else if v ∈ acc then acc else acc ++ [v]) acc).Nodup ∧ ∀ v, v ∈ vs.foldl (fun acc v => if v = base then acc else if v ∈ acc then acc else acc ++ [v]) acc ↔ v ∈ acc ∨ (v ∈ vs ∧ v ≠ base)
  | [], acc, n => ⟨n, fun v => by simp⟩
  | x :: vs, acc, n => by
    rw [List.foldl_cons]
    by_cases e : x = base
    · rw [if_pos e]
      obtain ⟨h1, h2⟩ := oth_inv base vs acc n
      refine ⟨h1, fun v => ?_⟩
      rw [h2, List.mem_cons]
      refine or_congr Iff.rfl ⟨fun h => ⟨.inr h.1, h.2⟩, fun h => ?_⟩
      rcases h.1 with h' | h'
      · exact (h.2 (h'.trans e)).elim
      · exact ⟨h', h.2⟩
    · rw [if_neg e]
      by_cases m : x ∈ acc
      · rw [if_pos m]
        obtain ⟨h1, h2⟩ := oth_inv base vs acc n
        refine ⟨h1, fun v => ?_⟩
        rw [h2, List.mem_cons]
        constructor
        · rintro (h | h)
          · exact .inl h
          · exact .inr ⟨.inr h.1, h.2⟩
        · rintro (h | ⟨h | h, k⟩)
          · exact .inl h
          · exact .inl (h ▸ m)
          · exact .inr ⟨h, k⟩
      · rw [if_neg m]
        have n' : (acc ++ [x]).Nodup := by
          rw [List.nodup_append]
          refine ⟨n, by simp, fun a ha b hb e => m ?_⟩
          rw [List.mem_singleton.mp hb] at e
          exact e ▸ ha
        obtain ⟨h1, h2⟩ := oth_inv base vs (acc ++ [x]) n'
        refine ⟨h1, fun v => ?_⟩
        rw [h2, List.mem_append, List.mem_singleton, List.mem_cons]
        constructor
        · rintro ((h | h) | h)
          · exact .inl h
          · subst h
            exact .inr ⟨.inl rfl, e⟩
          · exact .inr ⟨.inr h.1, h.2⟩
        · rintro (h | ⟨h | h, k⟩)
          · exact .inl (.inl h)
          · exact .inl (.inr h)
          · exact .inr ⟨h, k⟩
theorem oth_nd (base : Option Tx) (vs : List (Option Tx)) : (oth base vs).Nodup := (oth_inv base vs [] .nil).1
theorem oth_mem {base : Option Tx} {vs : List (Option Tx)} {v : Option Tx} : v ∈ oth base vs ↔ v ∈ vs ∧ v ≠ base := by
  have := (oth_inv base vs [] .nil).2 v
  rw [show oth base vs = vs.foldl (fun acc v => if v = base then acc else if v ∈ acc then acc else acc ++ [v]) [] from rfl, this]
  simp
theorem oth_len (base : Option Tx) (vs : List (Option Tx)) : (oth base vs).length ≤ vs.length := by
  have : ∀ (ws acc : List (Option Tx)), (ws.foldl (fun acc v => if v = base then acc else if v ∈ acc then acc else acc ++ [v]) acc).length ≤ acc.length + ws.length := by
    intro ws
    induction ws with
    | nil => intro acc; exact Nat.le_refl _
    | cons x ws ih =>
      intro acc
      rw [List.foldl_cons, List.length_cons]
      split
      · have := ih acc; omega
      · split
        · have := ih acc; omega
        · have := ih (acc ++ [x])
          rw [List.length_append, List.length_singleton] at this
          omega
  have h := this vs []
  rw [List.length_nil, Nat.zero_add] at h
  exact h
theorem cho_congr {base : Option Tx} {vs ws : List (Option Tx)} (h : ∀ v, v ≠ base → (v ∈ vs ↔ v ∈ ws)) : cho base vs = cho base ws := by
  have m : ∀ v, v ∈ oth base vs ↔ v ∈ oth base ws := fun v => by
    rw [oth_mem, oth_mem]
    exact ⟨fun k => ⟨(h v k.2).mp k.1, k.2⟩, fun k => ⟨(h v k.2).mpr k.1, k.2⟩⟩
  have pm : (oth base vs).Perm (oth base ws) := (List.perm_ext_iff_of_nodup (oth_nd _ _) (oth_nd _ _)).mpr m
  have l := pm.length_eq
  unfold cho
  rw [l]
  by_cases e : (oth base ws).length = 1
  · rw [if_pos e, if_pos e]
    obtain ⟨a, ea⟩ := List.length_eq_one_iff.mp e
    obtain ⟨b, eb⟩ := List.length_eq_one_iff.mp (l.trans e)
    rw [ea, eb] at pm ⊢
    rw [List.perm_singleton.mp pm]
  · rw [if_neg e, if_neg e]
theorem cho_nil (base : Option Tx) : cho base [] = base := rfl
theorem cho_mem {base : Option Tx} {vs : List (Option Tx)} : cho base vs = base ∨ cho base vs ∈ vs := by
  unfold cho
  by_cases e : (oth base vs).length = 1
  · rw [if_pos e]
    obtain ⟨a, ea⟩ := List.length_eq_one_iff.mp e
    have : a ∈ oth base vs := by rw [ea]; exact List.mem_singleton.mpr rfl
    rw [ea]
    exact .inr (oth_mem.mp this).1
  · rw [if_neg e]
    exact .inl rfl
/-- none, or a new list -/
def Fr (H H' : Hp) (v : V) (o : Option Tx) : Prop := (v = .non ∧ o = none) ∨ ∃ p t, v = .ref p ∧ o = some t ∧ H p = none ∧ H' p = some (.lst (t.map V.str))
theorem Dq.non_inv {H : Hp} {v : V} (h : Dq H v .none) : v = .non := by
  cases h
  rfl
/-! ### trees -/
abbrev Tr := List (Str × Tx)
def kS (z : Str) : Key := Sum.inr z
def getT : Tr → Str → Option Tx
  | [], _ => none
  | p :: r, z => if p.1 = z then some p.2 else getT r z
theorem getT_mem : ∀ {A : Tr} {z : Str} {t : Tx}, getT A z = some t → (z, t) ∈ A
  | [], _, _, h => by cases h
  | p :: r, z, t, h => by
    unfold getT at h
    by_cases e : p.1 = z
    · rw [if_pos e] at h
      injection h with h
      subst e
      subst h
      exact List.mem_cons_self
    · rw [if_neg e] at h
      exact List.mem_cons_of_mem _ (getT_mem h)
theorem getT_of : ∀ {A : Tr} {z : Str} {t : Tx}, (A.map (·.1)).Nodup → (z, t) ∈ A → getT A z = some t
  | [], _, _, _, h => by cases h
  | p :: r, z, t, n, h => by
    rw [List.map_cons] at n
    have n' := List.nodup_cons.mp n
    unfold getT
    rcases List.mem_cons.mp h with e | m
    · subst e
      rw [if_pos rfl]
    · rw [if_neg (fun e => n'.1 ?_)]
      · exact getT_of n'.2 m
      · rw [e]
        exact List.mem_map.mpr ⟨_, m, rfl⟩
theorem getT_none : ∀ {A : Tr} {z : Str}, getT A z = none ↔ z ∉ A.map (·.1)
  | [], _ => by simp [getT]
  | p :: r, z => by
    unfold getT
    rw [List.map_cons, List.mem_cons]
    by_cases e : p.1 = z
    · rw [if_pos e]
      simp [e]
    · rw [if_neg e, getT_none]
      constructor
      · rintro h (k | k)
        · exact e k.symm
        · exact h k
      · exact fun h k => h (.inr k)
/-- a dict of lists, locked or not -/
def RT (H : Hp) (d : Addr) (A : Tr) : Prop := ∃ kvs : List (Key × V), Rd H d (.dK kvs) ∧ kvs.map (·.1) = A.map (fun p => kS p.1) ∧ (A.map (·.1)).Nodup ∧ DqAll H (kvs.map (·.2)) (A.map fun p => txD p.2)
def TrAt (H : Hp) (d : Addr) (A : Tr) : Prop := ∃ kvs : List (Key × V), H d = some (.dK kvs) ∧ kvs.map (·.1) = A.map (fun p => kS p.1) ∧ (A.map (·.1)).Nodup ∧ DqAll H (kvs.map (·.2)) (A.map fun p => txD p.2)
theorem TrAt.rt {H : Hp} {d : Addr} {A : Tr} (h : TrAt H d A) : RT H d A := by
  obtain ⟨kvs, e, r⟩ := h
  exact ⟨kvs, .inl e, r⟩
theorem TrAt.up {H H' : Hp} {d : Addr} {A : Tr} (h : TrAt H d A) (s : Same H H') : TrAt H' d A := by
  obtain ⟨kvs, e, k, n, q⟩ := h
  exact ⟨kvs, s _ _ e, k, n, q.up s _ _⟩
theorem RT.up {H H' : Hp} {d : Addr} {A : Tr} (h : RT H d A) (s : Same H H') : RT H' d A := by
  obtain ⟨kvs, e, k, n, q⟩ := h
  refine ⟨kvs, ?_, k, n, q.up s _ _⟩
  rcases e with e | ⟨o, e⟩
  · exact .inl (s _ _ e)
  · exact .inr ⟨o, s _ _ e⟩
theorem RT.lock {H : Hp} {d e : Addr} {od : Obj} {ks : List (Key × V)} {A : Tr} (he : H e = some (.dK ks)) (h : RT H d A) : RT (upd H e (.frz od (.dK ks))) d A := by
  obtain ⟨kvs, r, k, n, q⟩ := h
  refine ⟨kvs, ?_, k, n, q.lockK he⟩
  by_cases c : d = e
  · subst c
    rcases r with r | ⟨o, r⟩
    · rw [he] at r
      injection r with r
      injection r with r
      subst r
      exact .inr ⟨od, upd_same⟩
    · rw [he] at r
      cases r
  · rcases r with r | ⟨o, r⟩
    · exact .inl (by rw [upd_ne c]; exact r)
    · exact .inr ⟨o, by rw [upd_ne c]; exact r⟩
theorem tr_get {H : Hp} : ∀ {kvs : List (Key × V)} {A : Tr} (z : Str), kvs.map (·.1) = A.map (fun p => kS p.1) → DqAll H (kvs.map (·.2)) (A.map fun p => txD p.2) → Dq H ((valV kvs (.inr z)).getD .non) (oxD (getT A z)) ∧ (valV kvs (.inr z)).isSome = (getT A z).isSome
  | [], [], z, _, _ => ⟨.non, rfl⟩
  | [], _ :: _, _, e, _ => by cases e
  | _ :: _, [], _, e, _ => by cases e
  | kv :: kvs, p :: A, z, e, q => by
    rw [List.map_cons, List.map_cons] at e
    injection e with e1 e2
    rw [List.map_cons, List.map_cons] at q
    cases q with
    | cons q1 q2 =>
    unfold getT
    by_cases c : p.1 = z
    · rw [if_pos c, valV_pos (by rw [e1, c]; rfl)]
      exact ⟨q1, rfl⟩
    · rw [if_neg c, valV_neg (fun h => c (by rw [e1] at h; exact Sum.inr.inj h))]
      exact tr_get z e2 q2
theorem tr_at {H : Hp} {kvs : List (Key × V)} {A : Tr} {z : Str} {t : Tx} (k : kvs.map (·.1) = A.map (fun p => kS p.1)) (q : DqAll H (kvs.map (·.2)) (A.map fun p => txD p.2)) (e : getT A z = some t) : ∃ l, valV kvs (.inr z) = some (.ref l) ∧ H l = some (.lst (t.map V.str)) := by
  obtain ⟨h1, h2⟩ := tr_get z k q
  rw [e] at h1 h2
  cases c : valV kvs (.inr z) with
  | none => rw [c] at h2; cases h2
  | some v =>
    rw [c] at h1
    obtain ⟨l, rfl, hl⟩ := Dq.of_strs (xs := t) h1
    exact ⟨l, rfl, hl⟩
theorem tr_len {kvs : List (Key × V)} {A : Tr} (k : kvs.map (·.1) = A.map (fun p => kS p.1)) : kvs.length = A.length := by
  have := congrArg List.length k
  rw [List.length_map, List.length_map] at this
  exact this
theorem tr_key {kvs : List (Key × V)} {A : Tr} (k : kvs.map (·.1) = A.map (fun p => kS p.1)) {i : Nat} {x : Key} {v : V} (e : kvs[i]? = some (x, v)) : ∃ p, A[i]? = some p ∧ x = .inr p.1 := by
  have e2 : (kvs.map (·.1))[i]? = some x := by rw [List.getElem?_map, e]; rfl
  rw [k, List.getElem?_map] at e2
  obtain ⟨p, ep, e3⟩ := Option.map_eq_some_iff.mp e2
  exact ⟨p, ep, e3.symm⟩
theorem tr_keys {kvs : List (Key × V)} {A : Tr} (k : kvs.map (·.1) = A.map (fun p => kS p.1)) : (kvs.map fun kv => kV kv.1) = (A.map (·.1)).map V.str := by
  have := congrArg (List.map kV) k
  rw [List.map_map, List.map_map] at this
  rw [List.map_map]
  exact this
/-! ### a tree just made: its own lists -/
abbrev Bt := List (Str × Addr × Tx)
def bK (B : Bt) : List (Key × V) := B.map fun b => (kS b.1, V.ref b.2.1)
def bO (B : Bt) : Own := B.map fun b => (b.2.1, HO.lst (b.2.2.map V.str))
def bA (B : Bt) : Tr := B.map fun b => (b.1, b.2.2)
theorem bA_keys (B : Bt) : (bA B).map (·.1) = B.map (·.1) := by
  unfold bA
  rw [List.map_map]
  rfl
theorem bK_keys (B : Bt) : (bK B).map (·.1) = (bA B).map (fun p => kS p.1) := by
  unfold bK bA
  rw [List.map_map, List.map_map]
  rfl
theorem bK_none {B : Bt} {z : Str} (h : z ∉ B.map (·.1)) : valV (bK B) (.inr z) = none := by
  have : ∀ C : Bt, z ∉ C.map (·.1) → valV (bK C) (.inr z) = none := by
    intro C
    induction C with
    | nil => intro _; rfl
    | cons b C ih =>
      intro n
      rw [List.map_cons, List.mem_cons] at n
      show valV ((kS b.1, V.ref b.2.1) :: bK C) (.inr z) = none
      rw [valV_neg (fun e => n (.inl (Sum.inr.inj e).symm))]
      exact ih fun m => n (.inr m)
  exact this B h
theorem bK_snoc (B : Bt) (z : Str) (p : Addr) (t : Tx) : bK (B ++ [(z, p, t)]) = bK B ++ [(kS z, V.ref p)] := by
  unfold bK
  rw [List.map_append]
  rfl
theorem bO_snoc (B : Bt) (z : Str) (p : Addr) (t : Tx) : bO (B ++ [(z, p, t)]) = bO B ++ [(p, HO.lst (t.map V.str))] := by
  unfold bO
  rw [List.map_append]
  rfl
theorem bA_snoc (B : Bt) (z : Str) (p : Addr) (t : Tx) : bA (B ++ [(z, p, t)]) = bA B ++ [(z, t)] := by
  unfold bA
  rw [List.map_append]
  rfl
theorem bK_dq {H : Hp} : ∀ {B : Bt}, (∀ b ∈ B, H b.2.1 = some (.lst (b.2.2.map V.str))) → DqAll H ((bK B).map (·.2)) ((bA B).map fun p => txD p.2)
  | [], _ => .nil
  | b :: B, h => .cons (Dq.strs (xs := b.2.2) (h b List.mem_cons_self)) (bK_dq fun c hc => h c (List.mem_cons_of_mem _ hc))
theorem Has.built {F H : Hp} {d : Addr} {B : Bt} {O : Own} (h : Has F ((d, .dK (bK B)) :: (bO B ++ O)) H) (n : (B.map (·.1)).Nodup) : TrAt H d (bA B) :=
  ⟨bK B, h.get List.mem_cons_self, bK_keys B, by rw [bA_keys]; exact n, bK_dq fun b hb => h.get (List.mem_cons_of_mem _ (List.mem_append_left _ (List.mem_map.mpr ⟨b, hb, rfl⟩)))⟩
/-- one more path, not there yet -/
theorem Has.bput {F H : Hp} {d p : Addr} {B : Bt} {O : Own} {z : Str} {t : Tx} (h : Has F ((p, .lst (t.map V.str)) :: (d, .dK (bK B ++ [(kS z, V.ref p)])) :: (bO B ++ O)) H) : Has F ((d, .dK (bK (B ++ [(z, p, t)]))) :: (bO (B ++ [(z, p, t)]) ++ O)) H := by
  refine h.perm ?_
  rw [bK_snoc, bO_snoc, List.append_assoc, List.singleton_append]
  exact List.perm_middle (a := (p, HO.lst (t.map V.str))) (l₁ := (d, HO.dK (bK B ++ [(kS z, V.ref p)])) :: bO B) (l₂ := O)
/-! ### a loop over the keys of a dict that stands still -/
theorem k_forDK {i : Nat} {d : Addr} {kvs : List (Key × V)} {g : TG} {ts : TS} {D : Ends} {σ : L2.St} {F H : Hp} {O : Own} (hv : σ[i]? = some (some (.ref d))) (fd : F d = some (.dK kvs)) (hH : Has F O H) (S : Nat → L2.St → Own → Prop) (h0 : S 0 σ O)
    (hs : ∀ t k v σ O H od, kvs[t]? = some (k, v) → S t σ O → Has (upd F d (.frz od (.dK kvs))) O H → g (kV k) σ H fun σ2 H2 => ts { lockD d od (.dK kvs) D with nx := fun σ' H' => ∃ O', S (t + 1) σ' O' ∧ Has (upd F d (.frz od (.dK kvs))) O' H', ct := fun σ' H' => ∃ O', S (t + 1) σ' O' ∧ Has (upd F d (.frz od (.dK kvs))) O' H', bk := (lockD d od (.dK kvs) D).nx } σ2 H2)
    (hd : ∀ σ O H, S kvs.length σ O → Has F O H → D.nx σ H) : tLock (tFor (iKeys (tVar i)) g ts) D σ H := by
  refine g_lockK hv (hH.same _ _ fd) (fun od => ?_)
  refine k_forK (fun t σ H' => ∃ O', S t σ O' ∧ Has (upd F d (.frz od (.dK kvs))) O' H') ⟨O, h0, hH.lock fd⟩ ?_ ?_ ?_
  · rintro t σ H' ⟨O', _, h⟩
    exact h.same _ _ upd_same
  · rintro t k v σ H' e ⟨O', s, h⟩
    exact hs t k v σ O' H' od e s h
  · rintro σ H' ⟨O', s, h⟩
    have e : upd (upd F d (.frz od (.dK kvs))) d (.dK kvs) = F := by
      funext b
      by_cases c : b = d
      · subst c
        rw [upd_same, fd]
      · rw [upd_ne c, upd_ne c]
    have h2 := h.unlock (od := od) (u := .dK kvs) upd_same
    rw [e] at h2
    exact ⟨h.same _ _ upd_same, hd σ O' _ s h2⟩
theorem nd_inj {α : Type} {xs : List α} (nd : xs.Nodup) {i j : Nat} {z : α} (h1 : xs[i]? = some z) (h2 : xs[j]? = some z) : i = j := by
  obtain ⟨l1, e1⟩ := List.getElem?_eq_some_iff.mp h1
  obtain ⟨l2, e2⟩ := List.getElem?_eq_some_iff.mp h2
  have pw := List.pairwise_iff_getElem.mp nd
  rcases Nat.lt_trichotomy i j with c | c | c
  · exact (pw i j l1 l2 c (by rw [e1, e2])).elim
  · exact c
  · exact (pw j i l2 l1 c (by rw [e1, e2])).elim
theorem nd_new {α : Type} {xs : List α} (nd : xs.Nodup) {t : Nat} {z : α} (e : xs[t]? = some z) : z ∉ xs.take t := fun m => by
  obtain ⟨j, hj⟩ := List.mem_iff_getElem?.mp m
  have lj := (List.getElem?_eq_some_iff.mp hj).1
  rw [List.length_take] at lj
  rw [List.getElem?_take_of_lt (by omega)] at hj
  have := nd_inj nd hj e
  omega
theorem Has.b0 {F H : Hp} {d : Addr} {O : Own} (h : Has F ((d, .dK []) :: O) H) : Has F ((d, .dK (bK [])) :: (bO [] ++ O)) H := h
/-- what came out stands still from now on -/
theorem Has.fr {F H H' : Hp} {O : Own} {v : V} {o : Option Tx} (h : Has F O H) (s : Same H H') (f : Fr H H' v o) : ∃ F', Same F F' ∧ Has F' O H' ∧ Dq F' v (oxD o) := by
  rcases f with ⟨rfl, rfl⟩ | ⟨p, t, rfl, rfl, n, e⟩
  · exact ⟨F, Same.refl _, h.on s, .non⟩
  · have h2 := h.made n s e
    exact ⟨_, h2.grow, h2.frz, Dq.strs (xs := t) upd_same⟩
theorem oxL_take {H : Hp} {acc : List V} {xs : List (Option Tx)} {i : Nat} {o : Option Tx} {v : V} (h : DqAll H acc ((xs.take i).map oxD)) (e : xs[i]? = some o) (d : Dq H v (oxD o)) : DqAll H (acc ++ [v]) ((xs.take (i + 1)).map oxD) := by
  rw [List.take_add_one, e, List.map_append]
  exact h.snoc d
/-- texts of a bounded length -/
def lnO (o : Option Tx) : Prop := ∀ t, o = some t → t.length ≤ 1000
theorem cho_all {Pr : Option Tx → Prop} {b : Option Tx} {ts : List (Option Tx)} (hb : Pr b) (ht : ∀ o ∈ ts, Pr o) : Pr (cho b ts) := by
  rcases cho_mem (base := b) (vs := ts) with e | m
  · rw [e]; exact hb
  · exact ht _ m
/-! ### lists of trees -/
inductive Trs (H : Hp) : List Addr → List Tr → Prop
  | nil : Trs H [] []
  | cons {d : Addr} {A : Tr} {ds : List Addr} {As : List Tr} : TrAt H d A → Trs H ds As → Trs H (d :: ds) (A :: As)
theorem Trs.len {H : Hp} : ∀ {ds : List Addr} {As : List Tr}, Trs H ds As → ds.length = As.length
  | _, _, .nil => rfl
  | _, _, .cons _ t => by rw [List.length_cons, List.length_cons, t.len]
theorem Trs.up {H H' : Hp} (s : Same H H') : ∀ {ds : List Addr} {As : List Tr}, Trs H ds As → Trs H' ds As
  | _, _, .nil => .nil
  | _, _, .cons h t => .cons (h.up s) (t.up s)
theorem Trs.get {H : Hp} : ∀ {ds : List Addr} {As : List Tr} {i : Nat} {d : Addr}, Trs H ds As → ds[i]? = some d → ∃ A, As[i]? = some A ∧ TrAt H d A
  | _, _, _, _, .nil, e => by simp at e
  | _, _, 0, _, .cons h _, e => by
    have e := Option.some.inj e
    subst e
    exact ⟨_, rfl, h⟩
  | _, _, i + 1, _, .cons _ t, e => t.get (i := i) e
theorem Trs.app {H : Hp} : ∀ {ds es : List Addr} {As Bs : List Tr}, Trs H ds As → Trs H es Bs → Trs H (ds ++ es) (As ++ Bs)
  | _, _, _, _, .nil, h => h
  | _, _, _, _, .cons h t, h' => .cons h (t.app h')
theorem Trs.rev {H : Hp} : ∀ {ds : List Addr} {As : List Tr}, Trs H ds As → Trs H ds.reverse As.reverse
  | _, _, .nil => .nil
  | _, _, .cons h t => by
    rw [List.reverse_cons, List.reverse_cons]
    exact t.rev.app (.cons h .nil)
theorem Trs.snoc {H : Hp} {ds : List Addr} {As : List Tr} {d : Addr} {A : Tr} (h : Trs H ds As) (t : TrAt H d A) : Trs H (ds ++ [d]) (As ++ [A]) := h.app (.cons t .nil)
/-- the entries of the dict at d -/
def kvOf (H : Hp) (d : Addr) : List (Key × V) := match H d with
  | some (.dK kvs) => kvs
  | _ => []
theorem kvOf_at {H : Hp} {d : Addr} {kvs : List (Key × V)} (h : H d = some (.dK kvs)) : kvOf H d = kvs := by
  unfold kvOf
  rw [h]
theorem Trs.at_ {H : Hp} : ∀ {ds : List Addr} {As : List Tr}, Trs H ds As → ∀ d ∈ ds, H d = some (.dK (kvOf H d))
  | _, _, .nil, _, h => by cases h
  | _, _, .cons h t, d, m => by
    rcases List.mem_cons.mp m with rfl | m
    · obtain ⟨kvs, e, _⟩ := h
      rw [kvOf_at e]
      exact e
    · exact t.at_ d m
theorem TrAt.keys {H : Hp} {d : Addr} {A : Tr} (h : TrAt H d A) {k : Key} : (∃ v, (k, v) ∈ kvOf H d) ↔ ∃ z, k = Sum.inr z ∧ z ∈ A.map (·.1) := by
  obtain ⟨kvs, e, ek, _, _⟩ := h
  rw [kvOf_at e]
  constructor
  · rintro ⟨v, m⟩
    have m2 : k ∈ kvs.map (·.1) := List.mem_map.mpr ⟨_, m, rfl⟩
    rw [ek] at m2
    obtain ⟨p, hp, e2⟩ := List.mem_map.mp m2
    exact ⟨p.1, e2.symm, List.mem_map.mpr ⟨p, hp, rfl⟩⟩
  · rintro ⟨z, rfl, m⟩
    obtain ⟨p, hp, rfl⟩ := List.mem_map.mp m
    have m2 : (Sum.inr p.1 : Key) ∈ kvs.map (·.1) := by
      rw [ek]
      exact List.mem_map.mpr ⟨p, hp, rfl⟩
    obtain ⟨q, hq, e2⟩ := List.mem_map.mp m2
    exact ⟨q.2, by rw [← e2]; exact hq⟩
theorem TrAt.klen {H : Hp} {d : Addr} {A : Tr} (h : TrAt H d A) : (kvOf H d).length = A.length := by
  obtain ⟨kvs, e, ek, _, _⟩ := h
  rw [kvOf_at e]
  exact tr_len ek
theorem Trs.keys {H : Hp} : ∀ {ds : List Addr} {As : List Tr}, Trs H ds As → ∀ {k : Key}, (∃ d ∈ ds, ∃ v, (k, v) ∈ kvOf H d) ↔ ∃ z, k = Sum.inr z ∧ ∃ A ∈ As, z ∈ A.map (·.1)
  | _, _, .nil, k => by simp
  | _, _, .cons h t, k => by
    constructor
    · rintro ⟨d, hd, hv⟩
      rcases List.mem_cons.mp hd with rfl | hd
      · obtain ⟨z, e, m⟩ := h.keys.mp hv
        exact ⟨z, e, _, List.mem_cons_self, m⟩
      · obtain ⟨z, e, A, hA, m⟩ := t.keys.mp ⟨d, hd, hv⟩
        exact ⟨z, e, A, List.mem_cons_of_mem _ hA, m⟩
    · rintro ⟨z, e, A, hA, m⟩
      rcases List.mem_cons.mp hA with rfl | hA
      · exact ⟨_, List.mem_cons_self, h.keys.mpr ⟨z, e, m⟩⟩
      · obtain ⟨d, hd, hv⟩ := t.keys.mpr ⟨z, e, A, hA, m⟩
        exact ⟨d, List.mem_cons_of_mem _ hd, hv⟩
theorem Trs.sum {H : Hp} {m : Nat} : ∀ {ds : List Addr} {As : List Tr}, Trs H ds As → (∀ A ∈ As, A.length ≤ m) → sumL (kvOf H) ds ≤ m * As.length
  | _, _, .nil, _ => Nat.zero_le _
  | _, _, .cons (A := A) (As := As) h t, l => by
    have h1 := t.sum fun A hA => l A (List.mem_cons_of_mem _ hA)
    have h2 := h.klen
    have h3 := l A List.mem_cons_self
    show _ + sumL _ _ ≤ _
    rw [List.length_cons, Nat.mul_succ]
    omega
theorem getT_in {A : Tr} {z : Str} {Pr : Option Tx → Prop} (h0 : Pr none) (h : ∀ p ∈ A, Pr (some p.2)) : Pr (getT A z) := by
  cases e : getT A z with
  | none => exact h0
  | some t => exact h _ (getT_mem e)
/-! ### what a call has made -/
theorem Has.join {F H H' : Hp} {O N : Own} (h : Has F O H) (n : Has H N H') : ∃ F', Same F F' ∧ Has F' O H' ∧ ∀ p ∈ N, F' p.1 = some p.2 := by
  refine ⟨fun b => if b ∈ N.map (·.1) then H' b else F b, fun b u e => ?_, ⟨fun b u e => ?_, fun p hp => ⟨?_, ?_⟩, h.nd⟩, fun p hp => ?_⟩
  · have ne : b ∉ N.map (·.1) := fun m => by
      obtain ⟨p, hp, rfl⟩ := List.mem_map.mp m
      have := (n.own p hp).1
      rw [h.same _ _ e] at this
      cases this
    show (if b ∈ N.map (·.1) then H' b else F b) = some u
    rw [if_neg ne]
    exact e
  · have e : (if b ∈ N.map (·.1) then H' b else F b) = some u := e
    split at e
    · exact e
    · exact n.same _ _ (h.same _ _ e)
  · have ne : p.1 ∉ N.map (·.1) := fun m => by
      obtain ⟨q, hq, e⟩ := List.mem_map.mp m
      have := (n.own q hq).1
      rw [e, (h.own p hp).2] at this
      cases this
    show (if p.1 ∈ N.map (·.1) then H' p.1 else F p.1) = none
    rw [if_neg ne]
    exact (h.own p hp).1
  · exact n.same _ _ (h.own p hp).2
  · show (if p.1 ∈ N.map (·.1) then H' p.1 else F p.1) = some p.2
    rw [if_pos (List.mem_map.mpr ⟨p, hp, rfl⟩)]
    exact (n.own p hp).2
theorem Has.plus {F H H' : Hp} {O N : Own} (h : Has F O H) (n : Has H N H') : Has F (N ++ O) H' := by
  refine ⟨h.same.trans n.same, fun p hp => ?_, ?_⟩
  · rcases List.mem_append.mp hp with m | m
    · exact ⟨h.same.free (n.own p m).1, (n.own p m).2⟩
    · exact ⟨(h.own p m).1, n.same _ _ (h.own p m).2⟩
  · rw [List.map_append, List.nodup_append]
    refine ⟨n.nd, h.nd, fun a ha b hb e => ?_⟩
    subst e
    obtain ⟨p, hp, rfl⟩ := List.mem_map.mp ha
    obtain ⟨q, hq, e⟩ := List.mem_map.mp hb
    have := (n.own p hp).1
    rw [← e, (h.own q hq).2] at this
    cases this
theorem tr_own {F : Hp} {d : Addr} {B : Bt} (h : ∀ p ∈ (d, HO.dK (bK B)) :: bO B, F p.1 = some p.2) (n : (B.map (·.1)).Nodup) : TrAt F d (bA B) :=
  ⟨bK B, h _ List.mem_cons_self, bK_keys B, by rw [bA_keys]; exact n, bK_dq fun b hb => h _ (List.mem_cons_of_mem _ (List.mem_map.mpr ⟨b, hb, rfl⟩))⟩
/-- a path laid anew -/
theorem bK_put {b : Str × Addr × Tx} {p : Addr} {x : Tx} : ∀ {B : Bt} {j : Nat}, (B.map (·.1)).Nodup → B[j]? = some b → (bK B).map (fun kv => if kv.1 = kS b.1 then (kv.1, V.ref p) else kv) = bK (B.set j (b.1, p, x))
  | [], j, _, h => by simp at h
  | c :: B, 0, n, h => by
    have e : c = b := Option.some.inj h
    subst e
    rw [List.map_cons] at n
    have n' := List.nodup_cons.mp n
    show (if kS c.1 = kS c.1 then (kS c.1, V.ref p) else _) :: (bK B).map _ = (kS c.1, V.ref p) :: bK B
    rw [if_pos rfl]
    congr 1
    have : ∀ kv ∈ bK B, (if kv.1 = kS c.1 then (kv.1, V.ref p) else kv) = kv := fun kv hkv => by
      obtain ⟨r, hr, rfl⟩ := List.mem_map.mp hkv
      rw [if_neg]
      intro e
      refine n'.1 ?_
      rw [← show r.1 = c.1 from Sum.inr.inj e]
      exact List.mem_map.mpr ⟨r, hr, rfl⟩
    rw [List.map_congr_left this, List.map_id']
  | c :: B, j + 1, n, h => by
    rw [List.map_cons] at n
    have n' := List.nodup_cons.mp n
    have ih := bK_put (p := p) (x := x) n'.2 (j := j) h
    show (if kS c.1 = kS b.1 then (kS c.1, V.ref p) else (kS c.1, V.ref c.2.1)) :: (bK B).map _ = (kS c.1, V.ref c.2.1) :: bK (B.set j _)
    rw [ih, if_neg]
    intro e
    refine n'.1 ?_
    rw [show c.1 = b.1 from Sum.inr.inj e]
    exact List.mem_map.mpr ⟨b, List.mem_of_getElem? h, rfl⟩
theorem putK_rep {b : Str × Addr × Tx} {p : Addr} {x : Tx} {B : Bt} {j : Nat} (n : (B.map (·.1)).Nodup) (h : B[j]? = some b) : putK (bK B) (kS b.1) (V.ref p) = bK (B.set j (b.1, p, x)) := by
  have a : ((bK B).any fun kv => decide (kv.1 = kS b.1)) = true := List.any_eq_true.mpr ⟨(kS b.1, V.ref b.2.1), List.mem_map.mpr ⟨b, List.mem_of_getElem? h, rfl⟩, decide_eq_true rfl⟩
  unfold putK
  rw [if_pos a]
  exact bK_put n h
theorem Has.brep {F H : Hp} {d p : Addr} {B : Bt} {O : Own} {j : Nat} {b : Str × Addr × Tx} {x : Tx} {u : HO} (e : B[j]? = some b) (h : Has F ((p, .lst (x.map V.str)) :: (d, u) :: (bO B ++ O)) H) : Has F ((d, u) :: (bO (B.set j (b.1, p, x)) ++ O)) H := by
  obtain ⟨l, eb⟩ := List.getElem?_eq_some_iff.mp e
  have e1 : B = B.take j ++ b :: B.drop (j + 1) := by
    rw [← eb, ← List.drop_eq_getElem_cons l, List.take_append_drop]
  have e2 : B.set j (b.1, p, x) = B.take j ++ (b.1, p, x) :: B.drop (j + 1) := List.set_eq_take_append_cons_drop.trans (if_pos l)
  rw [e2]
  rw [e1] at h
  have o : ∀ (c : Str × Addr × Tx), bO (B.take j ++ c :: B.drop (j + 1)) ++ O = bO (B.take j) ++ (c.2.1, HO.lst (c.2.2.map V.str)) :: (bO (B.drop (j + 1)) ++ O) := fun c => by
    unfold bO
    rw [List.map_append, List.map_cons, List.append_assoc, List.cons_append]
  rw [o] at h ⊢
  have h2 : Has F ((p, .lst (x.map V.str)) :: (d, u) :: (bO (B.take j) ++ (bO (B.drop (j + 1)) ++ O))) H := h.sub (List.Sublist.cons_cons _ (List.Sublist.cons_cons _ (List.Sublist.append (List.Sublist.refl _) (List.Sublist.cons _ (List.Sublist.refl _)))))
  exact h2.perm (List.perm_middle (a := (p, HO.lst (x.map V.str))) (l₁ := (d, u) :: bO (B.take j)) (l₂ := bO (B.drop (j + 1)) ++ O))
theorem bA_set {B : Bt} {j : Nat} {b : Str × Addr × Tx} {p : Addr} (e : B[j]? = some b) : bA (B.set j (b.1, p, b.2.2)) = bA B := by
  unfold bA
  rw [List.map_set]
  refine List.ext_getElem? fun i => ?_
  rw [List.getElem?_set]
  split
  · rename_i c
    subst c
    split
    · rw [List.getElem?_map, e]
      rfl
    · rename_i c
      rw [List.length_map] at c
      exact (c (List.getElem?_eq_some_iff.mp e).1).elim
  · rfl
theorem DqAll.tak {H : Hp} : ∀ {vs : List V} {ds : List PyData} (n : Nat), DqAll H vs ds → DqAll H (vs.take n) (ds.take n)
  | _, _, 0, _ => .nil
  | _, _, n + 1, .nil => .nil
  | _, _, n + 1, .cons h t => .cons h (DqAll.tak n t)
theorem DqAll.dro {H : Hp} : ∀ {vs : List V} {ds : List PyData} (n : Nat), DqAll H vs ds → DqAll H (vs.drop n) (ds.drop n)
  | _, _, 0, h => h
  | _, _, n + 1, .nil => .nil
  | _, _, n + 1, .cons _ t => DqAll.dro n t
theorem ox_at {H : Hp} {ws : List V} {os : List (Option Tx)} {i : Nat} {v : V} (h : DqAll H ws (os.map oxD)) (e : ws[i]? = some v) : ∃ o, os[i]? = some o ∧ Dq H v (oxD o) := by
  obtain ⟨d, ed, q⟩ := h.get e
  rw [List.getElem?_map] at ed
  obtain ⟨o, eo, rfl⟩ := Option.map_eq_some_iff.mp ed
  exact ⟨o, eo, q⟩
theorem ox_len {H : Hp} {ws : List V} {os : List (Option Tx)} (h : DqAll H ws (os.map oxD)) : ws.length = os.length := by rw [h.len, List.length_map]
end Qk

namespace K08
open PySem PySem.Spec PyProof.Rows L2 Qk
/-! ### the text -/
def topS (i : Nat) : Stmt := PySem.Challenge.pw_partclones_k08_chosen.main.body.getD i (.Pass ⟨0, 0, 0, 0⟩)
abbrev s_other_values : Stmt := topS 1
abbrev n_other_values : List Str := ["base", "texts", "values", "text"]
theorem sc_other_values : FnScope n_other_values ["base", "texts"] (defScope s_other_values) := ⟨rfl, rfl, rfl, by decide +kernel, rfl, by decide +kernel, by decide +kernel⟩
abbrev s_chosen_text : Stmt := topS 2
abbrev n_chosen_text : List Str := ["base", "texts", "chosen", "values"]
theorem sc_chosen_text : FnScope n_chosen_text ["base", "texts"] (defScope s_chosen_text) := ⟨rfl, rfl, rfl, by decide +kernel, rfl, by decide +kernel, by decide +kernel⟩
abbrev s_chosen_tree : Stmt := topS 3
abbrev n_chosen_tree : List Str := ["base", "trees", "paths", "result", "path", "text", "tree"]
theorem sc_chosen_tree : FnScope n_chosen_tree ["base", "trees"] (defScope s_chosen_tree) := ⟨rfl, rfl, rfl, by decide +kernel, rfl, by decide +kernel, by decide +kernel⟩
abbrev s_l_feed : Stmt := topS 5
abbrev n_l_feed : List Str := ["script", "cell"]
theorem sc_l_feed : FnScope n_l_feed ["script"] (defScope s_l_feed) := ⟨rfl, rfl, rfl, by decide +kernel, rfl, by decide +kernel, by decide +kernel⟩
abbrev s_l_next : Stmt := topS 6
abbrev n_l_next : List Str := ["cells", "many", "number"]
theorem sc_l_next : FnScope n_l_next ["cells", "many"] (defScope s_l_next) := ⟨rfl, rfl, rfl, by decide +kernel, rfl, by decide +kernel, by decide +kernel⟩
abbrev s_l_same : Stmt := topS 7
abbrev n_l_same : List Str := ["told", "due", "k", "key"]
theorem sc_l_same : FnScope n_l_same ["told", "due"] (defScope s_l_same) := ⟨rfl, rfl, rfl, by decide +kernel, rfl, by decide +kernel, by decide +kernel⟩
abbrev s_l_way : Stmt := topS 8
abbrev n_l_way : List Str := ["place", "paths"]
theorem sc_l_way : FnScope n_l_way ["place"] (defScope s_l_way) := ⟨rfl, rfl, rfl, by decide +kernel, rfl, by decide +kernel, by decide +kernel⟩
abbrev s_l_text : Stmt := topS 9
abbrev n_l_text : List Str := ["place", "texts"]
theorem sc_l_text : FnScope n_l_text ["place"] (defScope s_l_text) := ⟨rfl, rfl, rfl, by decide +kernel, rfl, by decide +kernel, by decide +kernel⟩
abbrev s_l_made : Stmt := topS 10
abbrev n_l_made : List Str := ["paths", "texts", "tree", "k"]
theorem sc_l_made : FnScope n_l_made ["paths", "texts"] (defScope s_l_made) := ⟨rfl, rfl, rfl, by decide +kernel, rfl, by decide +kernel, by decide +kernel⟩
abbrev s_l_copy : Stmt := topS 11
abbrev n_l_copy : List Str := ["tree", "copy", "path"]
theorem sc_l_copy : FnScope n_l_copy ["tree"] (defScope s_l_copy) := ⟨rfl, rfl, rfl, by decide +kernel, rfl, by decide +kernel, by decide +kernel⟩
abbrev s_l_rising : Stmt := topS 12
abbrev n_l_rising : List Str := ["tree", "rising", "path"]
theorem sc_l_rising : FnScope n_l_rising ["tree"] (defScope s_l_rising) := ⟨rfl, rfl, rfl, by decide +kernel, rfl, by decide +kernel, by decide +kernel⟩
abbrev s_l_kept : Stmt := topS 13
abbrev n_l_kept : List Str := ["passed", "tree"]
theorem sc_l_kept : FnScope n_l_kept ["passed", "tree"] (defScope s_l_kept) := ⟨rfl, rfl, rfl, by decide +kernel, rfl, by decide +kernel, by decide +kernel⟩
abbrev s_l_spoil : Stmt := topS 14
abbrev n_l_spoil : List Str := ["tree", "path"]
theorem sc_l_spoil : FnScope n_l_spoil ["tree"] (defScope s_l_spoil) := ⟨rfl, rfl, rfl, by decide +kernel, rfl, by decide +kernel, by decide +kernel⟩
abbrev s_l_value : Stmt := topS 15
abbrev n_l_value : List Str := ["text"]
theorem sc_l_value : FnScope n_l_value ["text"] (defScope s_l_value) := ⟨rfl, rfl, rfl, by decide +kernel, rfl, by decide +kernel, by decide +kernel⟩
abbrev s_l_chosen : Stmt := topS 16
abbrev n_l_chosen : List Str := ["base", "values", "others", "value"]
theorem sc_l_chosen : FnScope n_l_chosen ["base", "values"] (defScope s_l_chosen) := ⟨rfl, rfl, rfl, by decide +kernel, rfl, by decide +kernel, by decide +kernel⟩
abbrev s_l_chooses : Stmt := topS 17
abbrev n_l_chooses : List Str := ["base", "values", "due", "passed", "given", "told", "value"]
theorem sc_l_chooses : FnScope n_l_chooses ["base", "values", "due"] (defScope s_l_chooses) := ⟨rfl, rfl, rfl, by decide +kernel, rfl, by decide +kernel, by decide +kernel⟩
abbrev s_l_chosen_tree : Stmt := topS 18
abbrev n_l_chosen_tree : List Str := ["base", "trees", "paths", "tree", "chosen", "path", "values", "text"]
theorem sc_l_chosen_tree : FnScope n_l_chosen_tree ["base", "trees"] (defScope s_l_chosen_tree) := ⟨rfl, rfl, rfl, by decide +kernel, rfl, by decide +kernel, by decide +kernel⟩
abbrev s_l_chooses_tree : Stmt := topS 19
abbrev n_l_chooses_tree : List Str := ["base", "trees", "due", "passed", "given", "told", "k", "tree"]
theorem sc_l_chooses_tree : FnScope n_l_chooses_tree ["base", "trees", "due"] (defScope s_l_chooses_tree) := ⟨rfl, rfl, rfl, by decide +kernel, rfl, by decide +kernel, by decide +kernel⟩
abbrev s_law : Stmt := topS 20
abbrev n_law : List Str := ["script", "cells", "texts", "base", "many", "values", "due", "k", "start", "step", "paths", "trees", "j", "picks", "first", "rest", "asked", "pick"]
theorem sc_law : FnScope n_law ["script"] (defScope s_law) := ⟨rfl, rfl, rfl, by decide +kernel, rfl, by decide +kernel, by decide +kernel⟩
set_option maxHeartbeats 4000000 in
structure Txt (K : PySem.W.Frag) (mg : Str → Option Value) where
  f_other_values : Addr
  fd_other_values : FuncData
  F_other_values : Fun K "_other_values" "_other_values" s_other_values f_other_values fd_other_values
  g_other_values : mg "_other_values" = some (.ref f_other_values)
  b_other_values : Binds K fd_other_values ["base", "texts"] []
  f_chosen_text : Addr
  fd_chosen_text : FuncData
  F_chosen_text : Fun K "chosen_text" "chosen_text" s_chosen_text f_chosen_text fd_chosen_text
  g_chosen_text : mg "chosen_text" = some (.ref f_chosen_text)
  b_chosen_text : Binds K fd_chosen_text ["base", "texts"] []
  f_chosen_tree : Addr
  fd_chosen_tree : FuncData
  F_chosen_tree : Fun K "chosen_tree" "chosen_tree" s_chosen_tree f_chosen_tree fd_chosen_tree
  g_chosen_tree : mg "chosen_tree" = some (.ref f_chosen_tree)
  b_chosen_tree : Binds K fd_chosen_tree ["base", "trees"] []
  f_l_feed : Addr
  fd_l_feed : FuncData
  F_l_feed : Fun K "_law_feed" "_law_feed" s_l_feed f_l_feed fd_l_feed
  g_l_feed : mg "_law_feed" = some (.ref f_l_feed)
  b_l_feed : Binds K fd_l_feed ["script"] []
  f_l_next : Addr
  fd_l_next : FuncData
  F_l_next : Fun K "_law_next" "_law_next" s_l_next f_l_next fd_l_next
  g_l_next : mg "_law_next" = some (.ref f_l_next)
  b_l_next : Binds K fd_l_next ["cells", "many"] []
  f_l_same : Addr
  fd_l_same : FuncData
  F_l_same : Fun K "_law_same" "_law_same" s_l_same f_l_same fd_l_same
  g_l_same : mg "_law_same" = some (.ref f_l_same)
  b_l_same : Binds K fd_l_same ["told", "due"] []
  f_l_way : Addr
  fd_l_way : FuncData
  F_l_way : Fun K "_law_way" "_law_way" s_l_way f_l_way fd_l_way
  g_l_way : mg "_law_way" = some (.ref f_l_way)
  b_l_way : Binds K fd_l_way ["place"] []
  f_l_text : Addr
  fd_l_text : FuncData
  F_l_text : Fun K "_law_text" "_law_text" s_l_text f_l_text fd_l_text
  g_l_text : mg "_law_text" = some (.ref f_l_text)
  b_l_text : Binds K fd_l_text ["place"] []
  f_l_made : Addr
  fd_l_made : FuncData
  F_l_made : Fun K "_law_made" "_law_made" s_l_made f_l_made fd_l_made
  g_l_made : mg "_law_made" = some (.ref f_l_made)
  b_l_made : Binds K fd_l_made ["paths", "texts"] []
  f_l_copy : Addr
  fd_l_copy : FuncData
  F_l_copy : Fun K "_law_copy" "_law_copy" s_l_copy f_l_copy fd_l_copy
  g_l_copy : mg "_law_copy" = some (.ref f_l_copy)
  b_l_copy : Binds K fd_l_copy ["tree"] []
  f_l_rising : Addr
  fd_l_rising : FuncData
  F_l_rising : Fun K "_law_rising" "_law_rising" s_l_rising f_l_rising fd_l_rising
  g_l_rising : mg "_law_rising" = some (.ref f_l_rising)
  b_l_rising : Binds K fd_l_rising ["tree"] []
  f_l_kept : Addr
  fd_l_kept : FuncData
  F_l_kept : Fun K "_law_kept" "_law_kept" s_l_kept f_l_kept fd_l_kept
  g_l_kept : mg "_law_kept" = some (.ref f_l_kept)
  b_l_kept : Binds K fd_l_kept ["passed", "tree"] []
  f_l_spoil : Addr
  fd_l_spoil : FuncData
  F_l_spoil : Fun K "_law_spoil" "_law_spoil" s_l_spoil f_l_spoil fd_l_spoil
  g_l_spoil : mg "_law_spoil" = some (.ref f_l_spoil)
  b_l_spoil : Binds K fd_l_spoil ["tree"] []
  f_l_value : Addr
  fd_l_value : FuncData
  F_l_value : Fun K "_law_value" "_law_value" s_l_value f_l_value fd_l_value
  g_l_value : mg "_law_value" = some (.ref f_l_value)
  b_l_value : Binds K fd_l_value ["text"] []
  f_l_chosen : Addr
  fd_l_chosen : FuncData
  F_l_chosen : Fun K "_law_chosen" "_law_chosen" s_l_chosen f_l_chosen fd_l_chosen
  g_l_chosen : mg "_law_chosen" = some (.ref f_l_chosen)
  b_l_chosen : Binds K fd_l_chosen ["base", "values"] []
  f_l_chooses : Addr
  fd_l_chooses : FuncData
  F_l_chooses : Fun K "_law_chooses" "_law_chooses" s_l_chooses f_l_chooses fd_l_chooses
  g_l_chooses : mg "_law_chooses" = some (.ref f_l_chooses)
  b_l_chooses : Binds K fd_l_chooses ["base", "values", "due"] []
  f_l_chosen_tree : Addr
  fd_l_chosen_tree : FuncData
  F_l_chosen_tree : Fun K "_law_chosen_tree" "_law_chosen_tree" s_l_chosen_tree f_l_chosen_tree fd_l_chosen_tree
  g_l_chosen_tree : mg "_law_chosen_tree" = some (.ref f_l_chosen_tree)
  b_l_chosen_tree : Binds K fd_l_chosen_tree ["base", "trees"] []
  f_l_chooses_tree : Addr
  fd_l_chooses_tree : FuncData
  F_l_chooses_tree : Fun K "_law_chooses_tree" "_law_chooses_tree" s_l_chooses_tree f_l_chooses_tree fd_l_chooses_tree
  g_l_chooses_tree : mg "_law_chooses_tree" = some (.ref f_l_chooses_tree)
  b_l_chooses_tree : Binds K fd_l_chooses_tree ["base", "trees", "due"] []
  f_law : Addr
  fd_law : FuncData
  F_law : Fun K "law" "law" s_law f_law fd_law
  g_law : mg "law" = some (.ref f_law)
  b_law : Binds K fd_law ["script"] []
  m_abs : mg "abs" = none
  m_bool : mg "bool" = none
  m_dict : mg "dict" = none
  m_int : mg "int" = none
  m_isinstance : mg "isinstance" = none
  m_len : mg "len" = none
  m_list : mg "list" = none
  m_range : mg "range" = none
  m_sorted : mg "sorted" = none
  m_str : mg "str" = none
  m_tuple : mg "tuple" = none
local macro_rules | `(tactic| walk_at "m") => `(tactic| ((repeat (first | exact List.Mem.head _ | apply List.Mem.tail)); done))
local macro_rules | `(tactic| walk_at "h") => `(tactic| first | assumption | exact Has.gF (by assumption) (by assumption) | exact Has.get (by assumption) (by walk_at "m"))
local macro_rules | `(tactic| walk_at "c") => `(tactic| ((repeat (first | exact Chg.hd | apply Chg.tl)); done))
local macro_rules | `(tactic| walk_at "is") => `(tactic| first
  | ((with_reducible refine' is2_non ?gh ?_); (case gh => walk_at "h"))
  | (with_reducible refine is_int_list ?_)
  | (with_reducible refine is_int_tuple ?_)
  | (with_reducible refine is_int_dict ?_)
  | (with_reducible refine is_int_int ?_)
  | (with_reducible refine is_int_bool ?_)
  | (with_reducible refine is_int_str ?_)
  | ((with_reducible refine' is2_int ?gh ?_); (case gh => walk_at "h"))
  | (with_reducible refine is_str_list ?_)
  | (with_reducible refine is_str_tuple ?_)
  | (with_reducible refine is_str_dict ?_)
  | (with_reducible refine is_str_int ?_)
  | (with_reducible refine is_str_bool ?_)
  | (with_reducible refine is_str_str ?_)
  | ((with_reducible refine' is2_str ?gh ?_); (case gh => walk_at "h"))
  | (with_reducible refine is_bool_list ?_)
  | (with_reducible refine is_bool_tuple ?_)
  | (with_reducible refine is_bool_dict ?_)
  | (with_reducible refine is_bool_int ?_)
  | (with_reducible refine is_bool_bool ?_)
  | (with_reducible refine is_bool_str ?_)
  | ((with_reducible refine' is2_bool ?gh ?_); (case gh => walk_at "h"))
  | ((with_reducible refine' is_list_list ?gh ?_); (case gh => walk_at "h"))
  | ((with_reducible refine' is_list_tuple ?gh ?_); (case gh => walk_at "h"))
  | ((with_reducible refine' is_list_dict ?gh ?_); (case gh => walk_at "h"))
  | ((with_reducible refine' is_list_int ?gh ?_); (case gh => walk_at "h"))
  | ((with_reducible refine' is_list_bool ?gh ?_); (case gh => walk_at "h"))
  | ((with_reducible refine' is_list_str ?gh ?_); (case gh => walk_at "h"))
  | ((with_reducible refine' is2_list ?ga ?gb ?_); (case ga => walk_at "h"); (case gb => walk_at "h"))
  | ((with_reducible refine' is_tuple_list ?gh ?_); (case gh => walk_at "h"))
  | ((with_reducible refine' is_tuple_tuple ?gh ?_); (case gh => walk_at "h"))
  | ((with_reducible refine' is_tuple_dict ?gh ?_); (case gh => walk_at "h"))
  | ((with_reducible refine' is_tuple_int ?gh ?_); (case gh => walk_at "h"))
  | ((with_reducible refine' is_tuple_bool ?gh ?_); (case gh => walk_at "h"))
  | ((with_reducible refine' is_tuple_str ?gh ?_); (case gh => walk_at "h"))
  | ((with_reducible refine' is2_tuple ?ga ?gb ?_); (case ga => walk_at "h"); (case gb => walk_at "h"))
  | ((with_reducible refine' is_dict_list ?gh ?_); (case gh => walk_at "h"))
  | ((with_reducible refine' is_dict_tuple ?gh ?_); (case gh => walk_at "h"))
  | ((with_reducible refine' is_dict_dict ?gh ?_); (case gh => walk_at "h"))
  | ((with_reducible refine' is_dict_int ?gh ?_); (case gh => walk_at "h"))
  | ((with_reducible refine' is_dict_bool ?gh ?_); (case gh => walk_at "h"))
  | ((with_reducible refine' is_dict_str ?gh ?_); (case gh => walk_at "h"))
  | ((with_reducible refine' is2_dict ?ga ?gb ?_); (case ga => walk_at "h"); (case gb => walk_at "h")))
local macro_rules | `(tactic| walk_at "g") => `(tactic| first
  | (with_reducible refine g_seq ?_)
  | (with_reducible refine g_asg ?_)
  | ((with_reducible refine g_name ?_); dsimp only [List.set, wipe, List.map])
  | ((with_reducible refine' g_var ?gv ?_); (case gv => exact rfl))
  | (with_reducible refine g_c ?_)
  | (with_reducible refine g_op ?_)
  | (with_reducible refine g_cons ?_)
  | (with_reducible refine g_nil ?_)
  | (with_reducible refine g_cb ?_)
  | (with_reducible refine g_call ?_)
  | (with_reducible refine g_tup ?_)
  | (with_reducible refine g_lst ?_)
  | (with_reducible refine g_bm ?_)
  | (with_reducible refine g_bm0 ?_)
  | ((with_reducible refine' g_kbm ?gh ?_); (case gh => walk_at "h"))
  | (with_reducible refine g_drop ?_)
  | (with_reducible refine g_ret ?_)
  | (with_reducible refine g_retN ?_)
  | (with_reducible refine g_next ?_)
  | (with_reducible refine g_brk ?_)
  | (with_reducible refine g_cont ?_)
  | (with_reducible refine g_if ?_)
  | ((with_reducible refine' g_aug ?gv ?_); (case gv => exact rfl))
  | (with_reducible refine g_ipI ?_)
  | (with_reducible refine g_test ?_)
  | (with_reducible refine g_tB ?_)
  | (with_reducible refine g_kB ?_)
  | (with_reducible refine g_not ?_)
  | (with_reducible refine g_and ?_)
  | (with_reducible refine g_or ?_)
  | (with_reducible refine g_andV ?_)
  | (with_reducible refine g_orV ?_)
  | (with_reducible refine g_notV ?_)
  | (with_reducible refine g_ifE ?_)
  | (with_reducible refine g_addI ?_)
  | (with_reducible refine g_rI0 ?_)
  | (with_reducible refine g_eqI ?_)
  | (with_reducible refine g_eqS ?_)
  | (with_reducible refine g_neI ?_)
  | (with_reducible refine g_neS ?_)
  | (with_reducible refine g_isN ?_)
  | (with_reducible refine g_notN ?_)
  | (with_reducible refine g_int ?_)
  | (with_reducible refine g_max2 ?_)
  | (with_reducible refine g_min2 ?_)
  | ((with_reducible refine' g_lenL ?gh ?_); (case gh => walk_at "h"))
  | (with_reducible refine g_sub ?_)
  | (with_reducible refine g_gcons ?_)
  | (with_reducible refine g_gnil ?_)
  | (with_reducible refine g_un ?_)
  | (with_reducible refine g_rU ?_)
  | (with_reducible refine g_forL ?_)
  | (with_reducible refine g_forS ?_)
  | (with_reducible refine g_forR1 ?_)
  | (with_reducible refine g_forR2 ?_)
  | (with_reducible refine g_forR3 ?_)
  | (with_reducible refine g_lcL ?_)
  | (with_reducible refine g_lcR1 ?_)
  | (with_reducible refine g_lcR2 ?_)
  | (with_reducible refine g_slice ?_)
  | (with_reducible refine g_part ?_)
  | (with_reducible refine g_kOI ?_)
  | (with_reducible refine g_nopart ?_)
  | (with_reducible refine g_yes ?_)
  | ((with_reducible refine' g_wipe ?gv ?_); (case gv => exact rfl))
  | (with_reducible refine iteT ?_)
  | (with_reducible refine iteF ?_)
  | (with_reducible refine i_nf ?_)
  | (with_reducible refine i_nt ?_)
  | ((with_reducible refine' g_gtup ?gh ?gl ?_); (case gh => walk_at "h"); (case gl => exact rfl))
  | ((with_reducible refine' g_notinI ?gh ?_); (case gh => walk_at "h"))
  | ((with_reducible refine' g_inI ?gh ?_); (case gh => walk_at "h"))
  | ((with_reducible refine' g_kget2 ?gh ?_); (case gh => walk_at "h"))
  | ((with_reducible refine' g_kgotI ?gh ?_); (case gh => walk_at "h"))
  | (with_reducible refine g_tRev ?_)
  | (with_reducible refine g_neB ?_)
  | (with_reducible refine g_eqB ?_)
  | ((with_reducible refine' g_lenT ?gh ?_); (case gh => walk_at "h"))
  | (with_reducible refine g_star ?_)
  | ((with_reducible refine' g_kstarL ?gh ?_); (case gh => walk_at "h"))
  | ((with_reducible refine' g_kstarT ?gh ?_); (case gh => walk_at "h"))
  | (with_reducible refine g_tru ?_)
  | ((with_reducible refine' g_truL ?gh ?_); (case gh => walk_at "h"))
  | (with_reducible refine g_get2 ?_)
  | (with_reducible refine g_try ?_)
  | (with_reducible refine g_fld ?_)
  | (with_reducible refine g_sfld ?_)
  | (with_reducible refine g_meth ?_)
  | (with_reducible refine g_make ?_)
  | (with_reducible refine g_del ?_)
  | (with_reducible refine g_callS ?_)
  | (with_reducible refine g_raise ?_)
  | (with_reducible refine g_xf ?_)
  | (with_reducible refine g_m0 ?_)
  | (with_reducible refine g_km0 ?_)
  | walk_at "is")
local macro_rules | `(tactic| walk_at "gg") => `(tactic| repeat walk_at "g")
local macro_rules | `(tactic| walk_at "sz") => `(tactic| (refine sz ?_; simp only [List.length_cons, List.length_nil, List.length_map, List.length_append, List.length_replicate]; omega))
local macro_rules | `(tactic| walk_at "sub") => `(tactic| ((repeat (first | exact List.Sublist.slnil | with_reducible apply List.Sublist.cons_cons | with_reducible apply List.Sublist.cons)); done))

/-! ### the draws: a list of pairs -/
def cellD (p : Int × Int) : PyData := .list [.int p.1, .int p.2]
theorem cell_inv {F : Hp} {v : V} {p : Int × Int} (h : Dq F v (cellD p)) : ∃ r, v = .ref r ∧ F r = some (.lst [.int p.1, .int p.2]) := by
  cases h with
  | lst hT hs =>
    cases hs with
    | cons h1 hs =>
      cases hs with
      | cons h2 hs =>
        cases hs
        cases h1
        cases h2
        exact ⟨_, rfl, hT⟩
theorem cells_sh (rows : List (Int × Int)) : Sh 2 (.list (rows.map cellD)) := Sh.list fun d hd => by
  obtain ⟨p, _, rfl⟩ := List.mem_map.mp hd
  exact Sh.list fun d hd => by
    rcases List.mem_cons.mp hd with rfl | hd
    · exact Sh.int _
    · rw [List.mem_singleton.mp hd]
      exact Sh.int _
/-- the draws stand at c: what is left, each number with its count -/
structure Cells (F : Hp) (c : Addr) (H : Hp) (vs : List V) : Prop where
  at_ : H c = some (.lst vs)
  dq : ∃ rows : List (Int × Int), DqAll F vs (rows.map cellD) ∧ rows.length ≤ 100
section
variable {P : Program} {w : World} {K : PySem.W.Frag} {mg : Str → Option Value} {base : Heap}
def sp_l_feed (K : PySem.W.Frag) : Sp := fun vs H Q _ => ∃ (a : Addr) (ns : List Int), vs = [.ref a] ∧ SqL K H a (ns.map V.int) ∧ ns.length ≤ 63 ∧
  ∀ p H' F' (vs : List V) (rows : List (Int × Int)), H p = none → Same H F' → Has F' [(p, .lst vs)] H' → DqAll F' vs (rows.map cellD) → rows.length ≤ 100 → Q (.ref p) H'
theorem sp_l_feed_len {vs H Q E} (h : sp_l_feed K vs H Q E) : vs.length = 1 := by
  obtain ⟨_, _, rfl, _⟩ := h
  rfl
theorem ok_l_feed (T : Txt K mg) : FnOk P w K mg base CX0 1 T.f_l_feed T.fd_l_feed ["script"] (sp_l_feed K) := by
  refine T.F_l_feed.ok sc_l_feed (fun vs H Q E h => sp_l_feed_len h) (fun cdv A outer s H vs Q E hr h => ?_)
  refine ⟨_, (pss_one (ps_ret (pe_lc (own := [("cell", 1)]) (g := gName 1) (tt := tYes) rfl sc_l_feed.nd (k_il K (pi_list (pe_slice (sl_K K) (pv 0) po_none (po_some pe_int)))) (blkOk_by (N := n_l_feed) (sc := defScope s_l_feed) (by decide +kernel)) (fun _ _ _ _ _ => (pg_name (i := 1) sc_l_feed.nd rfl (.inl rfl))) (fun _ _ _ _ _ => pts_nil) (fun _ _ _ _ _ => (pe_lst (pa_cons (pe_callB cr_abs1 (by rfl) T.m_abs (by decide +kernel) (pa_cons (pe_callTy cr_int1 (by rfl) T.m_int (by decide +kernel) (pa_cons (pv 1) pa_nil)) pa_nil)) (pa_cons pe_int pa_nil))))))), ?_⟩
  obtain ⟨a, ns, rfl, ha, hn, q⟩ := h
  have hH := Has.start H
  refine g_start (σ' := [some (.ref a), none]) rfl ?_
  walk_at "gg"
  refine g_slS ha hH (fun p2 H2 n2 hH2 => ?_)
  obtain ⟨ms, em, lm⟩ := cutV_ints ns none (some 63)
  rw [em] at hH2
  refine k_lcL (by walk_at "h") hH2 (fun i acc F' O' => ∃ rows : List (Int × Int), DqAll F' acc (rows.map cellD) ∧ rows.length = i ∧ Same H F' ∧ O' = [(p2, .lst (ms.map V.int))]) ⟨[], .nil, rfl, Same.refl _, rfl⟩ ?_ ?_ ?_
  · rintro i acc F' O' H3 ⟨rows, dq, rfl, sF, rfl⟩ hh
    walk_at "h"
  · rintro i x acc F' O' D H3 hx ⟨rows, dq, rfl, sF, rfl⟩ hh
    rw [List.getElem?_map] at hx
    obtain ⟨z, hz, rfl⟩ := Option.map_eq_some_iff.mp hx
    have hl : rows.length < ms.length := (List.getElem?_eq_some_iff.mp hz).1
    have hal : acc.length = rows.length := by rw [dq.len, List.length_map]
    walk_at "gg"
    refine g_abs (fun j hj => ?_)
    walk_at "gg"
    refine g_klstF (by walk_at "sz") hh (fun r H4 F4 n4 s4 f4 h4 => ?_)
    refine k_turn h4 (by omega) ⟨rows ++ [(j, 0)], ?_, by rw [List.length_append]; rfl, sF.trans s4, rfl⟩
    rw [List.map_append]
    exact (dq.up s4 _ _).snoc (.lst f4 (.cons (.int _) (.cons (.int _) .nil)))
  · rintro acc F' O' D H3 ⟨rows, dq, hk, sF, rfl⟩ hh
    rw [List.length_map] at hk
    exact q D H3 F' acc rows (sF.free hh.free) sF (hh.sub (.cons_cons _ (.cons _ (List.Sublist.refl _)))) dq (by omega)
theorem Grow.refl (F H : Hp) : Grow F H F := ⟨Same.refl F, fun _ _ => rfl⟩
theorem Grow.new {F H : Hp} {p : Addr} {o : HO} (n : H p = none) (f : F p = none) : Grow F H (upd F p o) := ⟨same_upd f, fun b h => upd_ne (fun z => h (by rw [z]; exact n))⟩
theorem Grow.new2 {F H F1 : Hp} {p : Addr} {o : HO} (g : Grow F H F1) (n : H p = none) (f : F1 p = none) : Grow F H (upd F1 p o) := ⟨g.1.trans (same_upd f), fun b h => by rw [upd_ne (fun z => h (by rw [z]; exact n))]; exact g.2 b h⟩
def sp_l_next (K : PySem.W.Frag) : Sp := fun vs H Q _ => ∃ (c : Addr) (m : Int) (F : Hp) (ws : List V) (rows : List (Int × Int)), vs = [.ref c, .int m] ∧ Has F [(c, .lst ws)] H ∧ DqAll F ws (rows.map cellD) ∧ rows.length ≤ 100 ∧ 0 < m ∧ m < 1000000 ∧
  ∀ H' F' (ws' : List V) (rows' : List (Int × Int)) (r : Int), But c H H' → Grow F H F' → Has F' [(c, .lst ws')] H' → DqAll F' ws' (rows'.map cellD) → rows'.length ≤ 100 → 0 ≤ r → r < m → Q (.int r) H'
theorem sp_l_next_len {vs H Q E} (h : sp_l_next K vs H Q E) : vs.length = 2 := by
  obtain ⟨_, _, _, _, _, rfl, _⟩ := h
  rfl
theorem same_upd2 {F G : Hp} {p : Addr} {o : HO} (s : Same F G) : Same (upd F p o) (upd G p o) := fun b u q => by
  by_cases e : b = p
  · subst e
    rw [upd_same] at q ⊢
    exact q
  · rw [upd_ne e] at q ⊢
    exact s b u q
theorem ok_l_next (T : Txt K mg) : FnOk P w K mg base CX0 1 T.f_l_next T.fd_l_next ["cells", "many"] (sp_l_next K) := by
  refine T.F_l_next.ok sc_l_next (fun vs H Q E h => sp_l_next_len h) (fun cdv A outer s H vs Q E hr h => ?_)
  refine ⟨_, (pss_cons (ps_if (pt_cmpR (op_eqK K hr.units) (pv 0) (pe_lst pa_nil) (nomark _)) (pss_one (ps_ret pe_int)) pss_nil)
      (pss_cons (ps_set (i := 2) sc_l_next.nd rfl (.inl rfl) (pe_op op_mod (pe_callTy cr_int1 (by rfl) T.m_int (by decide +kernel) (pa_cons (pe_ix (ix_K K (hu_of hr)) (pe_ix (ix_K K (hu_of hr)) (pv 0) pe_int (fun _ _ => rfl)) pe_int (fun _ _ => rfl)) pa_nil)) (pv 1)))
      (pss_cons (ps_asg (pe_lst (pa_cons (pe_op op_fdiv (pe_ix (ix_K K (hu_of hr)) (pe_ix (ix_K K (hu_of hr)) (pv 0) pe_int (fun _ _ => rfl)) pe_int (fun _ _ => rfl)) (pv 1)) (pa_cons (pe_op (op_addK K) (pe_ix (ix_K K (hu_of hr)) (pe_ix (ix_K K (hu_of hr)) (pv 0) pe_int (fun _ _ => rfl)) pe_int (fun _ _ => rfl)) pe_int) pa_nil))) (pg_sub (pv 0) pe_int (set_any (hu_of hr))))
      (pss_cons (ps_if (PW.pt (pw_or (pt_cmpR (op_eqK K hr.units) (pe_ix (ix_K K (hu_of hr)) (pe_ix (ix_K K (hu_of hr)) (pv 0) pe_int (fun _ _ => rfl)) pe_int (fun _ _ => rfl)) pe_int (nomark _)) (pw_or1 (pt_cmpR (op_eqK K hr.units) (pe_ix (ix_K K (hu_of hr)) (pe_ix (ix_K K (hu_of hr)) (pv 0) pe_int (fun _ _ => rfl)) pe_int (fun _ _ => rfl)) pe_int (nomark _))))) (pss_one (ps_expr (k_bm K (pe_bm PySem.F.plainAttrs_list PySem.F.slot_list_pop PySem.F.type_list_pop mt_popAt (pv 0) (pa_cons pe_int pa_nil))))) pss_nil)
      (pss_one (ps_ret (pv 2))))))), ?_⟩
  obtain ⟨c, m, F, ws, rows, rfl, hH, dq0, hl, hm0, hm, q⟩ := h
  have sFG : Same F (rm H c) := same_rm hH.same hH.free
  have dq := dq0.up sFG _ _
  have hR := Has.arg (hH.get (List.Mem.head _))
  generalize hG : rm H c = G at *
  refine g_start (σ' := [some (.ref c), some (.int m), none]) rfl ?_
  walk_at "gg"
  refine g_klst (by walk_at "sz") hR (fun t H1 n1 hR1 => ?_)
  have hR1' := hR1.drop
  have hc1 := hR1'.get (List.Mem.head _)
  refine g_eqD (.lst hc1 (dq.up hR1'.same _ _)) (.lst (hR1.get (List.Mem.head _)) .nil) ((cells_sh rows).ok (by decide)) (by decide +kernel) ?_
  walk_at "gg"
  cases rows with
  | nil =>
    cases dq
    refine i_b (fun _ => ?_) (fun z => ?_)
    · walk_at "gg"
      exact q H1 F [] [] 0 (But.of (by rw [hG]; exact hR1.same)) (Grow.refl _ _) (hR1'.mono sFG) .nil (by simp) (by omega) hm0
    · rw [List.map_nil, PyData.eqv, PyData.eqvAll] at z
      cases z
  | cons row rows =>
    cases dq with
    | @cons v vs _ _ dv dvs =>
    cases dq0 with
    | cons dv0 dvs0 =>
    obtain ⟨r, rfl, hr⟩ := cell_inv dv
    refine i_b (fun z => ?_) (fun _ => ?_)
    · rw [List.map_cons, PyData.eqv, PyData.eqvAll] at z
      cases z
    have hr1 := hR1'.same _ _ hr
    walk_at "gg"
    refine g_ixL (v := .ref r) hc1 (atI_nat (j := 0) rfl) ?_
    walk_at "gg"
    refine g_ixL (v := .int row.1) hr1 (atI_nat (j := 0) rfl) ?_
    walk_at "gg"
    refine g_rI hm0 ?_
    walk_at "gg"
    refine g_ixL (v := .ref r) hc1 (atI_nat (j := 0) rfl) ?_
    walk_at "gg"
    refine g_ixL (v := .int row.1) hr1 (atI_nat (j := 0) rfl) ?_
    walk_at "gg"
    refine g_rI ⟨by omega, by omega⟩ ?_
    walk_at "gg"
    refine g_ixL (v := .ref r) hc1 (atI_nat (j := 0) rfl) ?_
    walk_at "gg"
    refine g_ixL (v := .int row.2) hr1 (atI_nat (j := 1) rfl) ?_
    walk_at "gg"
    refine g_klst (by walk_at "sz") hR1' (fun p H2 n2 hR2 => ?_)
    have fp : F p = none := sFG.free hR2.free
    have np : H p = none := by
      have nd : p ≠ c := by
        have := hR2.nd
        simp only [List.map_cons, List.map_nil, List.nodup_cons, List.mem_singleton] at this
        exact this.1
      have e := hR2.free
      rw [← hG, rm_ne nd] at e
      exact e
    have hR3 := hR2.frz
    have sG3 := hR2.grow
    have dv2 : Dq (upd F p (.lst [.int (row.1 / m), .int (row.2 + 1)])) (.ref p) (cellD (row.1 / m, row.2 + 1)) := .lst upd_same (.cons (.int _) (.cons (.int _) .nil))
    have dvs2 := dvs0.up (same_upd (o := .lst [.int (row.1 / m), .int (row.2 + 1)]) fp) _ _
    have gF : Grow F H (upd F p (.lst [.int (row.1 / m), .int (row.2 + 1)])) := Grow.new np fp
    have hp3 : upd G p (.lst [.int (row.1 / m), .int (row.2 + 1)]) p = some (.lst [.int (row.1 / m), .int (row.2 + 1)]) := upd_same
    walk_at "gg"
    refine g_stL (j := 0) hR3 (by walk_at "c") (ixN_nat (by decide) (by rw [List.length_cons]; omega)) (fun H4 hR4 => ?_)
    have fin : ∀ (H5 : Hp) (ws' : List V) (rows' : List (Int × Int)), Has (upd G p (.lst [.int (row.1 / m), .int (row.2 + 1)])) [(c, .lst ws')] H5 → DqAll (upd F p (.lst [.int (row.1 / m), .int (row.2 + 1)])) ws' (rows'.map cellD) → rows'.length ≤ 100 → Q (.int (row.1 % m)) H5 := fun H5 ws' rows' h5 d5 l5 =>
      q H5 _ ws' rows' _ (But.of (by rw [hG]; exact sG3.trans h5.same)) gF (h5.mono (same_upd2 sFG)) d5 l5 (Int.emod_nonneg _ (by omega)) (Int.emod_lt_of_pos _ hm0)
    have hc4 := hR4.get (List.Mem.head _)
    have hp4 := hR4.same _ _ hp3
    walk_at "g"
    walk_at "g"
    refine g_fact (fun _ => True) (fun R r => ?_) (fun b _ => ?_)
    · walk_at "gg"
      refine g_ixL (v := .ref p) hc4 (atI_nat (j := 0) rfl) ?_
      walk_at "gg"
      refine g_ixL (v := .int (row.1 / m)) hp4 (atI_nat (j := 0) rfl) ?_
      walk_at "gg"
      refine i_d (fun _ => r _ trivial) (fun _ => ?_)
      walk_at "gg"
      refine g_ixL (v := .ref p) hc4 (atI_nat (j := 0) rfl) ?_
      walk_at "gg"
      refine g_ixL (v := .int (row.2 + 1)) hp4 (atI_nat (j := 1) rfl) ?_
      walk_at "gg"
      exact r _ trivial
    refine i_b (fun _ => ?_) (fun _ => ?_)
    · walk_at "gg"
      refine g_popAt (k := 0) (y := .ref p) hR4 (by walk_at "c") (by omega) (by omega) (ixN_seq (ixN_nat (k := 0) (by decide) (by rw [List.length_set, List.length_cons]; omega))).1 rfl (fun H5 h5 => ?_)
      walk_at "gg"
      exact fin H5 vs rows h5 dvs2 (by rw [List.length_cons] at hl; omega)
    · walk_at "gg"
      exact fin H4 (.ref p :: vs) ((row.1 / m, row.2 + 1) :: rows) hR4 (.cons dv2 dvs2) hl
theorem Has.drawn {F F' H H' : Hp} {O : Own} {c : Addr} {ws ws' : List V} (h : Has F ((c, .lst ws) :: O) H) (hb : But c H H') (g : Grow F H F') (s : Has F' [(c, .lst ws')] H') : Has F' ((c, .lst ws') :: O) H' :=
  h.grown .hd hb g s.same (s.get (List.Mem.head _))
end

end K08

namespace K08
open PySem PySem.Spec PyProof.Rows L2 Qk
local macro_rules | `(tactic| walk_at "m") => `(tactic| ((repeat (first | exact List.Mem.head _ | apply List.Mem.tail)); done))
local macro_rules | `(tactic| walk_at "h") => `(tactic| first | assumption | exact Has.gF (by assumption) (by assumption) | exact Has.get (by assumption) (by walk_at "m"))
local macro_rules | `(tactic| walk_at "c") => `(tactic| ((repeat (first | exact Chg.hd | apply Chg.tl)); done))
local macro_rules | `(tactic| walk_at "is") => `(tactic| first
  | ((with_reducible refine' is2_non ?gh ?_); (case gh => walk_at "h"))
  | (with_reducible refine is_int_list ?_)
  | (with_reducible refine is_int_tuple ?_)
  | (with_reducible refine is_int_dict ?_)
  | (with_reducible refine is_int_int ?_)
  | (with_reducible refine is_int_bool ?_)
  | (with_reducible refine is_int_str ?_)
  | ((with_reducible refine' is2_int ?gh ?_); (case gh => walk_at "h"))
  | (with_reducible refine is_str_list ?_)
  | (with_reducible refine is_str_tuple ?_)
  | (with_reducible refine is_str_dict ?_)
  | (with_reducible refine is_str_int ?_)
  | (with_reducible refine is_str_bool ?_)
  | (with_reducible refine is_str_str ?_)
  | ((with_reducible refine' is2_str ?gh ?_); (case gh => walk_at "h"))
  | (with_reducible refine is_bool_list ?_)
  | (with_reducible refine is_bool_tuple ?_)
  | (with_reducible refine is_bool_dict ?_)
  | (with_reducible refine is_bool_int ?_)
  | (with_reducible refine is_bool_bool ?_)
  | (with_reducible refine is_bool_str ?_)
  | ((with_reducible refine' is2_bool ?gh ?_); (case gh => walk_at "h"))
  | ((with_reducible refine' is_list_list ?gh ?_); (case gh => walk_at "h"))
  | ((with_reducible refine' is_list_tuple ?gh ?_); (case gh => walk_at "h"))
  | ((with_reducible refine' is_list_dict ?gh ?_); (case gh => walk_at "h"))
  | ((with_reducible refine' is_list_int ?gh ?_); (case gh => walk_at "h"))
  | ((with_reducible refine' is_list_bool ?gh ?_); (case gh => walk_at "h"))
  | ((with_reducible refine' is_list_str ?gh ?_); (case gh => walk_at "h"))
  | ((with_reducible refine' is2_list ?ga ?gb ?_); (case ga => walk_at "h"); (case gb => walk_at "h"))
  | ((with_reducible refine' is_tuple_list ?gh ?_); (case gh => walk_at "h"))
  | ((with_reducible refine' is_tuple_tuple ?gh ?_); (case gh => walk_at "h"))
  | ((with_reducible refine' is_tuple_dict ?gh ?_); (case gh => walk_at "h"))
  | ((with_reducible refine' is_tuple_int ?gh ?_); (case gh => walk_at "h"))
  | ((with_reducible refine' is_tuple_bool ?gh ?_); (case gh => walk_at "h"))
  | ((with_reducible refine' is_tuple_str ?gh ?_); (case gh => walk_at "h"))
  | ((with_reducible refine' is2_tuple ?ga ?gb ?_); (case ga => walk_at "h"); (case gb => walk_at "h"))
  | ((with_reducible refine' is_dict_list ?gh ?_); (case gh => walk_at "h"))
  | ((with_reducible refine' is_dict_tuple ?gh ?_); (case gh => walk_at "h"))
  | ((with_reducible refine' is_dict_dict ?gh ?_); (case gh => walk_at "h"))
  | ((with_reducible refine' is_dict_int ?gh ?_); (case gh => walk_at "h"))
  | ((with_reducible refine' is_dict_bool ?gh ?_); (case gh => walk_at "h"))
  | ((with_reducible refine' is_dict_str ?gh ?_); (case gh => walk_at "h"))
  | ((with_reducible refine' is2_dict ?ga ?gb ?_); (case ga => walk_at "h"); (case gb => walk_at "h")))
local macro_rules | `(tactic| walk_at "g") => `(tactic| first
  | (with_reducible refine g_seq ?_)
  | (with_reducible refine g_asg ?_)
  | ((with_reducible refine g_name ?_); dsimp only [List.set, wipe, List.map])
  | ((with_reducible refine' g_var ?gv ?_); (case gv => exact rfl))
  | (with_reducible refine g_c ?_)
  | (with_reducible refine g_op ?_)
  | (with_reducible refine g_cons ?_)
  | (with_reducible refine g_nil ?_)
  | (with_reducible refine g_cb ?_)
  | (with_reducible refine g_call ?_)
  | (with_reducible refine g_tup ?_)
  | (with_reducible refine g_lst ?_)
  | (with_reducible refine g_bm ?_)
  | (with_reducible refine g_bm0 ?_)
  | ((with_reducible refine' g_kbm ?gh ?_); (case gh => walk_at "h"))
  | (with_reducible refine g_drop ?_)
  | (with_reducible refine g_ret ?_)
  | (with_reducible refine g_retN ?_)
  | (with_reducible refine g_next ?_)
  | (with_reducible refine g_brk ?_)
  | (with_reducible refine g_cont ?_)
  | (with_reducible refine g_if ?_)
  | ((with_reducible refine' g_aug ?gv ?_); (case gv => exact rfl))
  | (with_reducible refine g_ipI ?_)
  | (with_reducible refine g_test ?_)
  | (with_reducible refine g_tB ?_)
  | (with_reducible refine g_kB ?_)
  | (with_reducible refine g_not ?_)
  | (with_reducible refine g_and ?_)
  | (with_reducible refine g_or ?_)
  | (with_reducible refine g_andV ?_)
  | (with_reducible refine g_orV ?_)
  | (with_reducible refine g_notV ?_)
  | (with_reducible refine g_ifE ?_)
  | (with_reducible refine g_addI ?_)
  | (with_reducible refine g_rI0 ?_)
  | (with_reducible refine g_eqI ?_)
  | (with_reducible refine g_eqS ?_)
  | (with_reducible refine g_neI ?_)
  | (with_reducible refine g_neS ?_)
  | (with_reducible refine g_isN ?_)
  | (with_reducible refine g_notN ?_)
  | (with_reducible refine g_int ?_)
  | (with_reducible refine g_max2 ?_)
  | (with_reducible refine g_min2 ?_)
  | ((with_reducible refine' g_lenL ?gh ?_); (case gh => walk_at "h"))
  | (with_reducible refine g_sub ?_)
  | (with_reducible refine g_gcons ?_)
  | (with_reducible refine g_gnil ?_)
  | (with_reducible refine g_un ?_)
  | (with_reducible refine g_rU ?_)
  | (with_reducible refine g_forL ?_)
  | (with_reducible refine g_forS ?_)
  | (with_reducible refine g_forR1 ?_)
  | (with_reducible refine g_forR2 ?_)
  | (with_reducible refine g_forR3 ?_)
  | (with_reducible refine g_lcL ?_)
  | (with_reducible refine g_lcR1 ?_)
  | (with_reducible refine g_lcR2 ?_)
  | (with_reducible refine g_slice ?_)
  | (with_reducible refine g_part ?_)
  | (with_reducible refine g_kOI ?_)
  | (with_reducible refine g_nopart ?_)
  | (with_reducible refine g_yes ?_)
  | ((with_reducible refine' g_wipe ?gv ?_); (case gv => exact rfl))
  | (with_reducible refine iteT ?_)
  | (with_reducible refine iteF ?_)
  | (with_reducible refine i_nf ?_)
  | (with_reducible refine i_nt ?_)
  | ((with_reducible refine' g_gtup ?gh ?gl ?_); (case gh => walk_at "h"); (case gl => exact rfl))
  | ((with_reducible refine' g_notinI ?gh ?_); (case gh => walk_at "h"))
  | ((with_reducible refine' g_inI ?gh ?_); (case gh => walk_at "h"))
  | ((with_reducible refine' g_kget2 ?gh ?_); (case gh => walk_at "h"))
  | ((with_reducible refine' g_kgotI ?gh ?_); (case gh => walk_at "h"))
  | (with_reducible refine g_tRev ?_)
  | (with_reducible refine g_neB ?_)
  | (with_reducible refine g_eqB ?_)
  | ((with_reducible refine' g_lenT ?gh ?_); (case gh => walk_at "h"))
  | (with_reducible refine g_star ?_)
  | ((with_reducible refine' g_kstarL ?gh ?_); (case gh => walk_at "h"))
  | ((with_reducible refine' g_kstarT ?gh ?_); (case gh => walk_at "h"))
  | (with_reducible refine g_tru ?_)
  | ((with_reducible refine' g_truL ?gh ?_); (case gh => walk_at "h"))
  | (with_reducible refine g_get2 ?_)
  | (with_reducible refine g_try ?_)
  | (with_reducible refine g_fld ?_)
  | (with_reducible refine g_sfld ?_)
  | (with_reducible refine g_meth ?_)
  | (with_reducible refine g_make ?_)
  | (with_reducible refine g_del ?_)
  | (with_reducible refine g_callS ?_)
  | (with_reducible refine g_raise ?_)
  | (with_reducible refine g_xf ?_)
  | (with_reducible refine g_m0 ?_)
  | (with_reducible refine g_km0 ?_)
  | walk_at "is")
local macro_rules | `(tactic| walk_at "gg") => `(tactic| repeat walk_at "g")
local macro_rules | `(tactic| walk_at "sz") => `(tactic| (refine sz ?_; simp only [List.length_cons, List.length_nil, List.length_map, List.length_append, List.length_replicate]; omega))
local macro_rules | `(tactic| walk_at "sub") => `(tactic| ((repeat (first | exact List.Sublist.slnil | with_reducible apply List.Sublist.cons_cons | with_reducible apply List.Sublist.cons)); done))

/-! ### _law_same, trees among the data -/
/-- what _law_same finds the same, n deep -/
def Sm (H : Hp) : Nat → V → V → Prop
  | 0, _, _ => False
  | n + 1, x, y => (x = .non ∧ y = .non) ∨ (∃ i : Int, x = .int i ∧ y = .int i) ∨ (∃ z : Str, x = .str z ∧ y = .str z) ∨
    (∃ (a b : Addr) (xs ys : List V), x = .ref a ∧ y = .ref b ∧ ((H a = some (.lst xs) ∧ H b = some (.lst ys)) ∨ (H a = some (.tup xs) ∧ H b = some (.tup ys))) ∧ xs.length = ys.length ∧ xs.length ≤ 100000 ∧ ∀ (i : Nat) (u v : V), xs[i]? = some u → ys[i]? = some v → Sm H n u v) ∨
    (∃ (a b : Addr) (A : Tr), x = .ref a ∧ y = .ref b ∧ TrAt H a A ∧ TrAt H b A ∧ 2 ≤ n ∧ A.length ≤ 1000 ∧ ∀ p ∈ A, p.2.length ≤ 1000)
theorem Sm.up {H H' : Hp} (s : Same H H') : ∀ {n : Nat} {x y : V}, Sm H n x y → Sm H' n x y
  | 0, _, _, h => h.elim
  | n + 1, _, _, h => by
    rcases h with h | h | h | ⟨a, b, xs, ys, e1, e2, h1, l1, l2, h2⟩ | ⟨a, b, A, e1, e2, t1, t2, r⟩
    · exact .inl h
    · exact .inr (.inl h)
    · exact .inr (.inr (.inl h))
    · refine .inr (.inr (.inr (.inl ⟨a, b, xs, ys, e1, e2, ?_, l1, l2, fun i u v hu hv => (h2 i u v hu hv).up s⟩)))
      rcases h1 with h1 | h1
      · exact .inl ⟨s _ _ h1.1, s _ _ h1.2⟩
      · exact .inr ⟨s _ _ h1.1, s _ _ h1.2⟩
    · exact .inr (.inr (.inr (.inr ⟨a, b, A, e1, e2, t1.up s, t2.up s, r⟩)))
theorem Sm.strs {H : Hp} {n : Nat} {a b : Addr} {xs : List Str} (ha : H a = some (.lst (xs.map V.str))) (hb : H b = some (.lst (xs.map V.str))) (l : xs.length ≤ 100000) : Sm H (n + 2) (.ref a) (.ref b) := by
  refine .inr (.inr (.inr (.inl ⟨a, b, _, _, rfl, rfl, .inl ⟨ha, hb⟩, rfl, by rw [List.length_map]; exact l, fun i u v hu hv => ?_⟩)))
  rw [hu] at hv
  injection hv with hv
  subst hv
  rw [List.getElem?_map] at hu
  obtain ⟨z, _, rfl⟩ := Option.map_eq_some_iff.mp hu
  exact .inr (.inr (.inl ⟨z, rfl, rfl⟩))
theorem Sm.non {H : Hp} {n : Nat} : Sm H (n + 1) .non .non := .inl ⟨rfl, rfl⟩
theorem Sm.int {H : Hp} {n : Nat} {i : Int} : Sm H (n + 1) (.int i) (.int i) := .inr (.inl ⟨i, rfl, rfl⟩)
theorem Sm.tree {H : Hp} {n : Nat} {a b : Addr} {A : Tr} (h1 : TrAt H a A) (h2 : TrAt H b A) (l : A.length ≤ 1000) (lt : ∀ p ∈ A, p.2.length ≤ 1000) : Sm H (n + 3) (.ref a) (.ref b) := .inr (.inr (.inr (.inr ⟨a, b, A, rfl, rfl, h1, h2, by omega, l, lt⟩)))
section
variable {P : Program} {w : World} {K : PySem.W.Frag} {mg : Str → Option Value} {base : Heap}
def sp_l_same_n (K : PySem.W.Frag) (n : Nat) : Sp := fun vs H Q _ => ∃ (x y : V), vs = [x, y] ∧ Sm H n x y ∧ ∀ H', Same H H' → Q (.bl true) H'
theorem sp_l_same_n_len {n vs H Q E} (h : sp_l_same_n K n vs H Q E) : vs.length = 2 := by
  obtain ⟨_, _, rfl, _⟩ := h
  rfl
set_option maxHeartbeats 1000000 in
theorem ok_l_same_n (T : Txt K mg) (n : Nat) : FnOk P w K mg base CX0 n T.f_l_same T.fd_l_same ["told", "due"] (sp_l_same_n K n) := by
  induction n with
  | zero =>
    refine ⟨fun _ _ _ _ h => sp_l_same_n_len h, fun _ _ _ _ _ _ _ _ _ _ _ _ _ h => ?_⟩
    obtain ⟨_, _, _, h, _⟩ := h
    exact h.elim
  | succ n GR =>
  refine T.F_l_same.ok sc_l_same (fun vs H Q E h => sp_l_same_n_len h) (fun cdv A outer s H vs Q E hr h => ?_)
  refine ⟨_, (pss_cons (ps_if (pt_val (pe_callB (cr_isK K) (by rfl) T.m_isinstance (by decide +kernel) (pa_cons (pv 1) (pa_cons (pe_tup (pa_cons (pe_bltn (v := .ty "list") (by rfl) T.m_list (by decide +kernel) rfl) (pa_cons (pe_bltn (v := .ty "tuple") (by rfl) T.m_tuple (by decide +kernel) rfl) pa_nil))) pa_nil)))) (pss_cons (ps_if (pt_cmpR (op_neK K hr.units) (pe_callB (cr_isK K) (by rfl) T.m_isinstance (by decide +kernel) (pa_cons (pv 0) (pa_cons (pe_bltn (v := .ty "list") (by rfl) T.m_list (by decide +kernel) rfl) pa_nil))) (pe_callB (cr_isK K) (by rfl) T.m_isinstance (by decide +kernel) (pa_cons (pv 1) (pa_cons (pe_bltn (v := .ty "list") (by rfl) T.m_list (by decide +kernel) rfl) pa_nil))) (nomark _)) (pss_one (ps_ret pe_bl)) pss_nil)
      (pss_cons (ps_if (PW.pt (pw_or (pt_cmpR (op_neK K hr.units) (pe_callB (cr_isK K) (by rfl) T.m_isinstance (by decide +kernel) (pa_cons (pv 0) (pa_cons (pe_bltn (v := .ty "tuple") (by rfl) T.m_tuple (by decide +kernel) rfl) pa_nil))) (pe_callB (cr_isK K) (by rfl) T.m_isinstance (by decide +kernel) (pa_cons (pv 1) (pa_cons (pe_bltn (v := .ty "tuple") (by rfl) T.m_tuple (by decide +kernel) rfl) pa_nil))) (nomark _)) (pw_or1 (pt_cmpR (op_neK K hr.units) (pe_callB (cr_lenK K) (by rfl) T.m_len (by decide +kernel) (pa_cons (pv 0) pa_nil)) (pe_callB (cr_lenK K) (by rfl) T.m_len (by decide +kernel) (pa_cons (pv 1) pa_nil)) (nomark _))))) (pss_one (ps_ret pe_bl)) pss_nil)
      (pss_cons (ps_for PassesOwn.never rfl (pi_range1 rfl T.m_range (pa_cons (pe_callB (cr_lenK K) (by rfl) T.m_len (by decide +kernel) (pa_cons (pv 1) pa_nil)) pa_nil)) (pg_name (i := 2) sc_l_same.nd rfl (.inl rfl)) (pss_one (ps_if (pt_not (pt_val (pe_call GR hr (by rfl) T.g_l_same T.F_l_same.kp T.b_l_same .nil pass0 (pa_cons (pe_ix (ix_K K (hu_of hr)) (pv 0) (pv 2) (fun _ _ => rfl)) (pa_cons (pe_ix (ix_K K (hu_of hr)) (pv 1) (pv 2) (fun _ _ => rfl)) pa_nil))))) (pss_one (ps_ret pe_bl)) pss_nil)))
      (pss_one (ps_ret pe_bl))))) pss_nil)
      (pss_cons (ps_if (pt_val (pe_callB (cr_isK K) (by rfl) T.m_isinstance (by decide +kernel) (pa_cons (pv 1) (pa_cons (pe_bltn (v := .ty "dict") (by rfl) T.m_dict (by decide +kernel) rfl) pa_nil)))) (pss_cons (ps_if (PW.pt (pw_or (pt_not (pt_val (pe_callB (cr_isK K) (by rfl) T.m_isinstance (by decide +kernel) (pa_cons (pv 0) (pa_cons (pe_bltn (v := .ty "dict") (by rfl) T.m_dict (by decide +kernel) rfl) pa_nil))))) (pw_or1 (pt_not (pt_val (pe_call GR hr (by rfl) T.g_l_same T.F_l_same.kp T.b_l_same .nil pass0 (pa_cons (pe_callTy (cr_listD rfl) (by rfl) T.m_list (by decide +kernel) (pa_cons (pv 0) pa_nil)) (pa_cons (pe_callTy (cr_listD rfl) (by rfl) T.m_list (by decide +kernel) (pa_cons (pv 1) pa_nil)) pa_nil)))))))) (pss_one (ps_ret pe_bl)) pss_nil)
      (pss_cons (ps_lock (ps_for PassesOwn.never rfl (pi_keys (pv 1)) (pg_name (i := 3) sc_l_same.nd rfl (.inl rfl)) (pss_one (ps_if (pt_not (pt_val (pe_call GR hr (by rfl) T.g_l_same T.F_l_same.kp T.b_l_same .nil pass0 (pa_cons (pe_ix (ix_K K (hu_of hr)) (pv 0) (pv 3) (fun _ _ => rfl)) (pa_cons (pe_ix (ix_K K (hu_of hr)) (pv 1) (pv 3) (fun _ _ => rfl)) pa_nil))))) (pss_one (ps_ret pe_bl)) pss_nil))))
      (pss_one (ps_ret pe_bl)))) pss_nil)
      (pss_cons (ps_if (pt_cmpR op_isNA (pv 1) pe_non (nomark _)) (pss_one (ps_ret (pe_cmpR op_isNA (pv 0) pe_non (nomark _)))) pss_nil)
      (pss_cons (ps_if (pt_val (pe_callB (cr_isK K) (by rfl) T.m_isinstance (by decide +kernel) (pa_cons (pv 1) (pa_cons (pe_bltn (v := .ty "int") (by rfl) T.m_int (by decide +kernel) rfl) pa_nil)))) (pss_one (ps_ret (pe_and (pe_callB (cr_isK K) (by rfl) T.m_isinstance (by decide +kernel) (pa_cons (pv 0) (pa_cons (pe_bltn (v := .ty "int") (by rfl) T.m_int (by decide +kernel) rfl) pa_nil))) (pe_and (pe_not (pe_callB (cr_isK K) (by rfl) T.m_isinstance (by decide +kernel) (pa_cons (pv 0) (pa_cons (pe_bltn (v := .ty "bool") (by rfl) T.m_bool (by decide +kernel) rfl) pa_nil)))) (pe_one (pe_cmpR (op_eqK K hr.units) (pv 0) (pv 1) (nomark _))))))) pss_nil)
      (pss_one (ps_ret (pe_and (pe_callB (cr_isK K) (by rfl) T.m_isinstance (by decide +kernel) (pa_cons (pv 0) (pa_cons (pe_bltn (v := .ty "str") (by rfl) T.m_str (by decide +kernel) rfl) pa_nil))) (pe_one (pe_cmpR (op_eqK K hr.units) (pv 0) (pv 1) (nomark _)))))))))), ?_⟩
  obtain ⟨x, y, rfl, hs, q⟩ := h
  have hH := Has.start H
  refine g_start (σ' := [some (x), some (y), none, none]) rfl ?_
  rcases hs with ⟨rfl, rfl⟩ | ⟨i, rfl, rfl⟩ | ⟨z, rfl, rfl⟩ | ⟨a, b, xs, ys, rfl, rfl, hab, l1, l2, hs⟩ | ⟨a, b, A, rfl, rfl, t1, t2, hn, lA, lt⟩
  · walk_at "gg"
    refine g_ktupF (by walk_at "sz") hH (fun p1 H1 F1 n1 s1 f1 h1 => ?_)
    walk_at "gg"
    refine g_is (b := false) (.base .non) (by decide +kernel) ?_
    walk_at "gg"
    refine i_d (fun _ => ?_) (fun z => (z rfl).elim)
    walk_at "gg"
    rw [decide_eq_true rfl]
    exact q H1 (s1.trans h1.same)
  · walk_at "gg"
    refine g_ktupF (by walk_at "sz") hH (fun p1 H1 F1 n1 s1 f1 h1 => ?_)
    walk_at "gg"
    refine i_d (fun z => by cases z) (fun _ => ?_)
    walk_at "gg"
    rw [decide_eq_true rfl]
    exact q H1 (s1.trans h1.same)
  · walk_at "gg"
    refine g_ktupF (by walk_at "sz") hH (fun p1 H1 F1 n1 s1 f1 h1 => ?_)
    walk_at "gg"
    refine i_d (fun z => by cases z) (fun _ => ?_)
    walk_at "gg"
    rw [decide_eq_true rfl]
    exact q H1 (s1.trans h1.same)
  · walk_at "gg"
    refine g_ktupF (by walk_at "sz") hH (fun p1 H1 F1 n1 s1 f1 h1 => ?_)
    rcases hab with ⟨ha, hb⟩ | ⟨ha, hb⟩
    · have ha1 := s1 _ _ ha
      have hb1 := s1 _ _ hb
      walk_at "gg"
      refine i_n (fun z => (z rfl).elim) (fun _ => ?_)
      walk_at "gg"
      refine i_n (fun z => (z rfl).elim) (fun _ => ?_)
      walk_at "gg"
      refine i_n (fun z => (z (by rw [l1])).elim) (fun _ => ?_)
      walk_at "gg"
      refine k_forR1 (fun i σ H' => ∃ y2 y3, σ = [some (.ref a), some (.ref b), y2, y3] ∧ Has F1 [] H') (by omega) (by omega) ⟨_, _, rfl, h1⟩ ?_ ?_
      · rintro i σ H2 hi ⟨y2, y3, rfl, h2⟩
        walk_at "gg"
        refine g_ixV (by walk_at "h") (by omega) (by omega) (fun u hu => ?_)
        walk_at "gg"
        refine g_ixV (by walk_at "h") (by omega) (by omega) (fun v hv => ?_)
        walk_at "gg"
        refine ⟨u, v, rfl, (hs _ u v hu hv).up (s1.trans h2.same), fun H3 s3 => ?_⟩
        walk_at "gg"
        exact ⟨_, _, rfl, h2.on s3⟩
      · rintro σ H2 ⟨y2, y3, rfl, h2⟩
        walk_at "gg"
        exact q H2 (s1.trans h2.same)
    · have ha1 := s1 _ _ ha
      have hb1 := s1 _ _ hb
      walk_at "gg"
      refine i_n (fun z => (z rfl).elim) (fun _ => ?_)
      walk_at "gg"
      refine i_n (fun z => (z rfl).elim) (fun _ => ?_)
      walk_at "gg"
      refine i_n (fun z => (z (by rw [l1])).elim) (fun _ => ?_)
      walk_at "gg"
      refine k_forR1 (fun i σ H' => ∃ y2 y3, σ = [some (.ref a), some (.ref b), y2, y3] ∧ Has F1 [] H') (by omega) (by omega) ⟨_, _, rfl, h1⟩ ?_ ?_
      · rintro i σ H2 hi ⟨y2, y3, rfl, h2⟩
        walk_at "gg"
        refine g_ixVT (by walk_at "h") (by omega) (by omega) (fun u hu => ?_)
        walk_at "gg"
        refine g_ixVT (by walk_at "h") (by omega) (by omega) (fun v hv => ?_)
        walk_at "gg"
        refine ⟨u, v, rfl, (hs _ u v hu hv).up (s1.trans h2.same), fun H3 s3 => ?_⟩
        walk_at "gg"
        exact ⟨_, _, rfl, h2.on s3⟩
      · rintro σ H2 ⟨y2, y3, rfl, h2⟩
        walk_at "gg"
        exact q H2 (s1.trans h2.same)
  · obtain ⟨m, rfl⟩ : ∃ m, n = m + 2 := ⟨n - 2, by omega⟩
    obtain ⟨ka, ha, eka, nda, dqa⟩ := t1
    obtain ⟨kb, hb, ekb, ndb, dqb⟩ := t2
    walk_at "gg"
    refine g_ktupF (by walk_at "sz") hH (fun p1 H1 F1 n1 s1 f1 h1 => ?_)
    have fa := s1 _ _ ha
    have fb := s1 _ _ hb
    have dqa := dqa.up s1 _ _
    have dqb := dqb.up s1 _ _
    walk_at "gg"
    refine g_listD (h1.same _ _ fa) h1 (fun p2 H2 n2 h2 => ?_)
    walk_at "gg"
    refine g_listD (h2.same _ _ fb) h2 (fun p3 H3 n3 h3 => ?_)
    rw [tr_keys eka] at h3
    rw [tr_keys ekb] at h3
    walk_at "gg"
    refine ⟨.ref p2, .ref p3, rfl, Sm.strs (h3.get (by walk_at "m")) (h3.get (List.Mem.head _)) (by rw [List.length_map]; omega), fun H4 s4 => ?_⟩
    have h4 := (h3.on s4).drop.drop
    walk_at "gg"
    refine k_forDK rfl fb h4 (fun t σ O' => ∃ y2 y3, σ = [some (.ref a), some (.ref b), y2, y3] ∧ O' = []) ⟨_, _, rfl, rfl⟩ ?_ ?_
    · rintro t k v σ O' H5 od ekv ⟨y2, y3, rfl, rfl⟩ h5
      obtain ⟨p, ep, rfl⟩ := tr_key ekb ekv
      have ra : RT (upd F1 b (.frz od (.dK kb))) a A := RT.lock fb ⟨ka, .inl fa, eka, nda, dqa⟩
      have rb : RT (upd F1 b (.frz od (.dK kb))) b A := RT.lock fb ⟨kb, .inl fb, ekb, ndb, dqb⟩
      obtain ⟨ka', rda, eka', _, dqa'⟩ := ra.up h5.same
      obtain ⟨kb', rdb, ekb', _, dqb'⟩ := rb.up h5.same
      have eg : getT A p.1 = some p.2 := getT_of nda (List.mem_of_getElem? ep)
      obtain ⟨l1, v1, hl1⟩ := tr_at eka' dqa' eg
      obtain ⟨l2, v2, hl2⟩ := tr_at ekb' dqb' eg
      walk_at "gg"
      refine g_ixDR rda v1 ?_
      walk_at "gg"
      refine g_ixDR rdb v2 ?_
      walk_at "gg"
      refine ⟨.ref l1, .ref l2, rfl, Sm.strs hl1 hl2 (by have := lt p (List.mem_of_getElem? ep); omega), fun H6 s6 => ?_⟩
      walk_at "gg"
      exact ⟨[], ⟨_, _, rfl, rfl⟩, h5.on s6⟩
    · rintro σ O' H5 ⟨y2, y3, rfl, rfl⟩ h5
      walk_at "gg"
      exact q H5 (s1.trans h5.same)
def sp_l_same (K : PySem.W.Frag) : Sp := sp_l_same_n K 6
theorem ok_l_same (T : Txt K mg) : FnOk P w K mg base CX0 6 T.f_l_same T.fd_l_same ["told", "due"] (sp_l_same K) := ok_l_same_n T 6
end

end K08

namespace K08
open PySem PySem.Spec PyProof.Rows L2 Qk
local macro_rules | `(tactic| walk_at "m") => `(tactic| ((repeat (first | exact List.Mem.head _ | apply List.Mem.tail)); done))
local macro_rules | `(tactic| walk_at "h") => `(tactic| first | assumption | exact Has.gF (by assumption) (by assumption) | exact Has.get (by assumption) (by walk_at "m"))
local macro_rules | `(tactic| walk_at "c") => `(tactic| ((repeat (first | exact Chg.hd | apply Chg.tl)); done))
local macro_rules | `(tactic| walk_at "is") => `(tactic| first
  | ((with_reducible refine' is2_non ?gh ?_); (case gh => walk_at "h"))
  | (with_reducible refine is_int_list ?_)
  | (with_reducible refine is_int_tuple ?_)
  | (with_reducible refine is_int_dict ?_)
  | (with_reducible refine is_int_int ?_)
  | (with_reducible refine is_int_bool ?_)
  | (with_reducible refine is_int_str ?_)
  | ((with_reducible refine' is2_int ?gh ?_); (case gh => walk_at "h"))
  | (with_reducible refine is_str_list ?_)
  | (with_reducible refine is_str_tuple ?_)
  | (with_reducible refine is_str_dict ?_)
  | (with_reducible refine is_str_int ?_)
  | (with_reducible refine is_str_bool ?_)
  | (with_reducible refine is_str_str ?_)
  | ((with_reducible refine' is2_str ?gh ?_); (case gh => walk_at "h"))
  | (with_reducible refine is_bool_list ?_)
  | (with_reducible refine is_bool_tuple ?_)
  | (with_reducible refine is_bool_dict ?_)
  | (with_reducible refine is_bool_int ?_)
  | (with_reducible refine is_bool_bool ?_)
  | (with_reducible refine is_bool_str ?_)
  | ((with_reducible refine' is2_bool ?gh ?_); (case gh => walk_at "h"))
  | ((with_reducible refine' is_list_list ?gh ?_); (case gh => walk_at "h"))
  | ((with_reducible refine' is_list_tuple ?gh ?_); (case gh => walk_at "h"))
  | ((with_reducible refine' is_list_dict ?gh ?_); (case gh => walk_at "h"))
  | ((with_reducible refine' is_list_int ?gh ?_); (case gh => walk_at "h"))
  | ((with_reducible refine' is_list_bool ?gh ?_); (case gh => walk_at "h"))
  | ((with_reducible refine' is_list_str ?gh ?_); (case gh => walk_at "h"))
  | ((with_reducible refine' is2_list ?ga ?gb ?_); (case ga => walk_at "h"); (case gb => walk_at "h"))
  | ((with_reducible refine' is_tuple_list ?gh ?_); (case gh => walk_at "h"))
  | ((with_reducible refine' is_tuple_tuple ?gh ?_); (case gh => walk_at "h"))
  | ((with_reducible refine' is_tuple_dict ?gh ?_); (case gh => walk_at "h"))
  | ((with_reducible refine' is_tuple_int ?gh ?_); (case gh => walk_at "h"))
  | ((with_reducible refine' is_tuple_bool ?gh ?_); (case gh => walk_at "h"))
  | ((with_reducible refine' is_tuple_str ?gh ?_); (case gh => walk_at "h"))
  | ((with_reducible refine' is2_tuple ?ga ?gb ?_); (case ga => walk_at "h"); (case gb => walk_at "h"))
  | ((with_reducible refine' is_dict_list ?gh ?_); (case gh => walk_at "h"))
  | ((with_reducible refine' is_dict_tuple ?gh ?_); (case gh => walk_at "h"))
  | ((with_reducible refine' is_dict_dict ?gh ?_); (case gh => walk_at "h"))
  | ((with_reducible refine' is_dict_int ?gh ?_); (case gh => walk_at "h"))
  | ((with_reducible refine' is_dict_bool ?gh ?_); (case gh => walk_at "h"))
  | ((with_reducible refine' is_dict_str ?gh ?_); (case gh => walk_at "h"))
  | ((with_reducible refine' is2_dict ?ga ?gb ?_); (case ga => walk_at "h"); (case gb => walk_at "h")))
local macro_rules | `(tactic| walk_at "g") => `(tactic| first
  | (with_reducible refine g_seq ?_)
  | (with_reducible refine g_asg ?_)
  | ((with_reducible refine g_name ?_); dsimp only [List.set, wipe, List.map])
  | ((with_reducible refine' g_var ?gv ?_); (case gv => exact rfl))
  | (with_reducible refine g_c ?_)
  | (with_reducible refine g_op ?_)
  | (with_reducible refine g_cons ?_)
  | (with_reducible refine g_nil ?_)
  | (with_reducible refine g_cb ?_)
  | (with_reducible refine g_call ?_)
  | (with_reducible refine g_tup ?_)
  | (with_reducible refine g_lst ?_)
  | (with_reducible refine g_bm ?_)
  | (with_reducible refine g_bm0 ?_)
  | ((with_reducible refine' g_kbm ?gh ?_); (case gh => walk_at "h"))
  | (with_reducible refine g_drop ?_)
  | (with_reducible refine g_ret ?_)
  | (with_reducible refine g_retN ?_)
  | (with_reducible refine g_next ?_)
  | (with_reducible refine g_brk ?_)
  | (with_reducible refine g_cont ?_)
  | (with_reducible refine g_if ?_)
  | ((with_reducible refine' g_aug ?gv ?_); (case gv => exact rfl))
  | (with_reducible refine g_ipI ?_)
  | (with_reducible refine g_test ?_)
  | (with_reducible refine g_tB ?_)
  | (with_reducible refine g_kB ?_)
  | (with_reducible refine g_not ?_)
  | (with_reducible refine g_and ?_)
  | (with_reducible refine g_or ?_)
  | (with_reducible refine g_andV ?_)
  | (with_reducible refine g_orV ?_)
  | (with_reducible refine g_notV ?_)
  | (with_reducible refine g_ifE ?_)
  | (with_reducible refine g_addI ?_)
  | (with_reducible refine g_rI0 ?_)
  | (with_reducible refine g_eqI ?_)
  | (with_reducible refine g_eqS ?_)
  | (with_reducible refine g_neI ?_)
  | (with_reducible refine g_neS ?_)
  | (with_reducible refine g_isN ?_)
  | (with_reducible refine g_notN ?_)
  | (with_reducible refine g_int ?_)
  | (with_reducible refine g_max2 ?_)
  | (with_reducible refine g_min2 ?_)
  | ((with_reducible refine' g_lenL ?gh ?_); (case gh => walk_at "h"))
  | (with_reducible refine g_sub ?_)
  | (with_reducible refine g_gcons ?_)
  | (with_reducible refine g_gnil ?_)
  | (with_reducible refine g_un ?_)
  | (with_reducible refine g_rU ?_)
  | (with_reducible refine g_forL ?_)
  | (with_reducible refine g_forS ?_)
  | (with_reducible refine g_forR1 ?_)
  | (with_reducible refine g_forR2 ?_)
  | (with_reducible refine g_forR3 ?_)
  | (with_reducible refine g_lcL ?_)
  | (with_reducible refine g_lcR1 ?_)
  | (with_reducible refine g_lcR2 ?_)
  | (with_reducible refine g_slice ?_)
  | (with_reducible refine g_part ?_)
  | (with_reducible refine g_kOI ?_)
  | (with_reducible refine g_nopart ?_)
  | (with_reducible refine g_yes ?_)
  | ((with_reducible refine' g_wipe ?gv ?_); (case gv => exact rfl))
  | (with_reducible refine iteT ?_)
  | (with_reducible refine iteF ?_)
  | (with_reducible refine i_nf ?_)
  | (with_reducible refine i_nt ?_)
  | ((with_reducible refine' g_gtup ?gh ?gl ?_); (case gh => walk_at "h"); (case gl => exact rfl))
  | ((with_reducible refine' g_notinI ?gh ?_); (case gh => walk_at "h"))
  | ((with_reducible refine' g_inI ?gh ?_); (case gh => walk_at "h"))
  | ((with_reducible refine' g_kget2 ?gh ?_); (case gh => walk_at "h"))
  | ((with_reducible refine' g_kgotI ?gh ?_); (case gh => walk_at "h"))
  | (with_reducible refine g_tRev ?_)
  | (with_reducible refine g_neB ?_)
  | (with_reducible refine g_eqB ?_)
  | ((with_reducible refine' g_lenT ?gh ?_); (case gh => walk_at "h"))
  | (with_reducible refine g_star ?_)
  | ((with_reducible refine' g_kstarL ?gh ?_); (case gh => walk_at "h"))
  | ((with_reducible refine' g_kstarT ?gh ?_); (case gh => walk_at "h"))
  | (with_reducible refine g_tru ?_)
  | ((with_reducible refine' g_truL ?gh ?_); (case gh => walk_at "h"))
  | (with_reducible refine g_get2 ?_)
  | (with_reducible refine g_try ?_)
  | (with_reducible refine g_fld ?_)
  | (with_reducible refine g_sfld ?_)
  | (with_reducible refine g_meth ?_)
  | (with_reducible refine g_make ?_)
  | (with_reducible refine g_del ?_)
  | (with_reducible refine g_callS ?_)
  | (with_reducible refine g_raise ?_)
  | (with_reducible refine g_xf ?_)
  | (with_reducible refine g_m0 ?_)
  | (with_reducible refine g_km0 ?_)
  | walk_at "is")
local macro_rules | `(tactic| walk_at "gg") => `(tactic| repeat walk_at "g")
local macro_rules | `(tactic| walk_at "sz") => `(tactic| (refine sz ?_; simp only [List.length_cons, List.length_nil, List.length_map, List.length_append, List.length_replicate]; omega))
local macro_rules | `(tactic| walk_at "sub") => `(tactic| ((repeat (first | exact List.Sublist.slnil | with_reducible apply List.Sublist.cons_cons | with_reducible apply List.Sublist.cons)); done))

/-! ### ascending lists of texts -/
abbrev kk (z : Str) : List Nat := z.cps.toList
theorem kk_inj {a b : Str} (h : kk a = kk b) : a = b := by
  cases a with
  | mk x =>
    cases b with
    | mk y =>
      congr 1
      exact Array.toList_inj.mp h
def Asc (xs : List Str) : Prop := xs.Pairwise fun a b => kk a < kk b
theorem kk_cases {a b : Str} (h : ¬ kk b < kk a) (n : a ≠ b) : kk a < kk b := by
  refine Decidable.byContradiction fun h2 => n (kk_inj ?_)
  exact List.le_antisymm (List.not_lt.mp h) (List.not_lt.mp h2)
theorem asc_rise : ∀ (p : Str) (l : List Str), risingS p l = true → (p :: l).Nodup → Asc (p :: l)
  | p, [], _, _ => List.pairwise_cons.mpr ⟨fun _ h => (by cases h), List.Pairwise.nil⟩
  | p, x :: r, h, n => by
    have h : (!PySem.Spec.ltCps x.cps.toList p.cps.toList && risingS x r) = true := h
    rw [Bool.and_eq_true] at h
    have h1 : ¬ kk x < kk p := by
      have := h.1
      rw [ltCps_eq] at this
      simpa using this
    have n2 := List.nodup_cons.mp n
    have ih := asc_rise x r h.2 n2.2
    have lt : kk p < kk x := kk_cases h1 fun e => n2.1 (by rw [e]; exact List.mem_cons_self)
    refine List.pairwise_cons.mpr ⟨fun z hz => ?_, ih⟩
    rcases List.mem_cons.mp hz with rfl | hz
    · exact lt
    · exact List.lt_trans lt ((List.pairwise_cons.mp ih).1 z hz)
theorem asc_of {xs : List Str} (h : sortedS xs = true) (n : xs.Nodup) : Asc xs := by
  cases xs with
  | nil => exact List.Pairwise.nil
  | cons x r => exact asc_rise x r h n
theorem Asc.nodup {xs : List Str} (h : Asc xs) : xs.Nodup := h.imp fun {a b} l e => by
  rw [e] at l
  exact List.lt_irrefl _ l
theorem Asc.ext : ∀ {xs ys : List Str}, Asc xs → Asc ys → (∀ z, z ∈ xs ↔ z ∈ ys) → xs = ys
  | [], [], _, _, _ => rfl
  | [], y :: ys, _, _, h => by cases (h y).mpr List.mem_cons_self
  | x :: xs, [], _, _, h => by cases (h x).mp List.mem_cons_self
  | x :: xs, y :: ys, hx, hy, h => by
    have hx' := List.pairwise_cons.mp hx
    have hy' := List.pairwise_cons.mp hy
    have e : x = y := by
      rcases List.mem_cons.mp ((h x).mp List.mem_cons_self) with e | m1
      · exact e
      · rcases List.mem_cons.mp ((h y).mpr List.mem_cons_self) with e | m2
        · exact e.symm
        · exact (List.lt_irrefl _ (List.lt_trans (hy'.1 x m1) (hx'.1 y m2))).elim
    subst e
    have := Asc.ext hx'.2 hy'.2 fun z => by
      have hz := h z
      rw [List.mem_cons, List.mem_cons] at hz
      constructor
      · intro m
        rcases hz.mp (.inr m) with e | m'
        · exact (List.lt_irrefl _ (e ▸ hx'.1 z m)).elim
        · exact m'
      · intro m
        rcases hz.mpr (.inr m) with e | m'
        · exact (List.lt_irrefl _ (e ▸ hy'.1 z m)).elim
        · exact m'
    rw [this]
theorem Asc.filter {xs : List Str} (h : Asc xs) (p : Str → Bool) : Asc (xs.filter p) := h.sublist List.filter_sublist
/-- a list without repeats, grown by one -/
def addL (xs : List Str) (y : Str) : List Str := if y ∈ xs then xs else xs ++ [y]
theorem addL_mem {xs : List Str} {y z : Str} : z ∈ addL xs y ↔ z ∈ xs ∨ z = y := by
  unfold addL
  split
  · next h =>
    constructor
    · exact .inl
    · rintro (m | rfl)
      · exact m
      · exact h
  · simp
theorem addL_nodup {xs : List Str} {y : Str} (n : xs.Nodup) : (addL xs y).Nodup := by
  unfold addL
  split
  · exact n
  · next h =>
    rw [List.nodup_append]
    refine ⟨n, List.nodup_cons.mpr ⟨fun h => (by cases h), List.nodup_nil⟩, fun a ha b hb e => ?_⟩
    rw [List.mem_singleton.mp hb] at e
    exact h (e ▸ ha)
theorem addL_len (xs : List Str) (y : Str) : (addL xs y).length ≤ xs.length + 1 := by
  unfold addL
  split
  · omega
  · rw [List.length_append]; exact Nat.le_refl _
/-- the keys of a dict that is used as a set -/
def tk (xs : List Str) : List (Key × V) := xs.map fun z => (Sum.inr z, V.bl true)
theorem tk_keys (xs : List Str) : (tk xs).map (·.1) = xs.map Sum.inr := by
  unfold tk
  rw [List.map_map]
  rfl
theorem tk_val (xs : List Str) (z : Str) : (valV (tk xs) (.inr z)).isSome = decide (z ∈ xs) := by
  rw [← valV_any]
  unfold tk
  rw [List.any_map, Bool.eq_iff_iff]
  simp only [List.any_eq_true, Function.comp, decide_eq_true_eq]
  constructor
  · rintro ⟨x, hx, e⟩
    exact Sum.inr.inj e ▸ hx
  · exact fun h => ⟨z, h, rfl⟩
theorem tk_put (xs : List Str) (z : Str) : putK (tk xs) (.inr z) (.bl true) = tk (addL xs z) := by
  unfold putK addL
  rw [valV_any, tk_val]
  by_cases h : z ∈ xs
  · rw [if_pos (decide_eq_true h), if_pos h]
    unfold tk
    rw [List.map_map]
    apply List.map_congr_left
    intro x hx
    show (if (Sum.inr x : Key) = .inr z then ((Sum.inr x : Key), V.bl true) else (.inr x, .bl true)) = _
    split <;> rfl
  · rw [if_neg (by simpa using h), if_neg h]
    unfold tk
    rw [List.map_append]
    rfl
theorem tk_len (xs : List Str) : (tk xs).length = xs.length := List.length_map ..

/-! ### trees: the law's own makings -/
def mkT (ps : List Str) (os : List (Option Tx)) : Tr := (ps.zip os).filterMap fun p => p.2.map fun t => (p.1, t)
theorem mkT_step {ps : List Str} {os : List (Option Tx)} {i : Nat} {z : Str} {o : Option Tx} (h1 : ps[i]? = some z) (h2 : os[i]? = some o) : mkT (ps.take (i + 1)) (os.take (i + 1)) = mkT (ps.take i) (os.take i) ++ (o.map fun t => (z, t)).toList := by
  unfold mkT
  rw [List.take_add_one, h1, List.take_add_one, h2]
  have l1 := (List.getElem?_eq_some_iff.mp h1).1
  have l2 := (List.getElem?_eq_some_iff.mp h2).1
  rw [show (some z).toList = [z] from rfl, show (some o).toList = [o] from rfl, List.zip_append (by rw [List.length_take, List.length_take]; omega), List.filterMap_append]
  congr 1
theorem mkT_keys {ps : List Str} {os : List (Option Tx)} : ((mkT ps os).map (·.1)).Sublist ps := by
  unfold mkT
  induction ps generalizing os with
  | nil => exact List.nil_sublist _
  | cons z ps ih =>
    cases os with
    | nil => exact List.nil_sublist _
    | cons o os =>
      rw [List.zip_cons_cons]
      cases o with
      | none => exact List.Sublist.cons _ ih
      | some t => exact List.Sublist.cons_cons _ ih
def AscT (A : Tr) : Prop := Asc (A.map (·.1))
theorem AscT.nd {A : Tr} (h : AscT A) : (A.map (·.1)).Nodup := Asc.nodup h
theorem AscT.ext {A B : Tr} (ha : AscT A) (hb : AscT B) (h : ∀ z t, (z, t) ∈ A ↔ (z, t) ∈ B) : A = B := by
  have hk : ∀ z, z ∈ A.map (·.1) ↔ z ∈ B.map (·.1) := fun z => by
    rw [List.mem_map, List.mem_map]
    constructor
    · rintro ⟨p, hp, rfl⟩
      exact ⟨p, (h p.1 p.2).mp hp, rfl⟩
    · rintro ⟨p, hp, rfl⟩
      exact ⟨p, (h p.1 p.2).mpr hp, rfl⟩
  have ek := Asc.ext ha hb hk
  refine List.ext_getElem? fun i => ?_
  cases ea : A[i]? with
  | none =>
    have l : A.length = B.length := by
      have := congrArg List.length ek
      rw [List.length_map, List.length_map] at this
      exact this
    rw [List.getElem?_eq_none_iff] at ea
    rw [List.getElem?_eq_none (by omega)]
  | some p =>
    have ek' : (A.map (·.1))[i]? = (B.map (·.1))[i]? := by rw [ek]
    rw [List.getElem?_map, List.getElem?_map, ea] at ek'
    obtain ⟨r, er, e2⟩ := Option.map_eq_some_iff.mp ek'.symm
    rw [er]
    have m1 := getT_of hb.nd (List.mem_of_getElem? er)
    have m2 := getT_of hb.nd ((h p.1 p.2).mp (List.mem_of_getElem? ea))
    rw [e2, m2] at m1
    injection m1 with m1
    rw [show p = r from Prod.ext e2.symm m1]
/-- what may be compared -/
def okTr (A : Tr) : Prop := ∀ p ∈ A, PyData.strOk p.1 = true ∧ okX p.2
def itD (A : Tr) : PyData := .list (A.map fun p => .tuple [.str p.1, txD p.2])
theorem sh_itD {A : Tr} (h : okTr A) : SeqAt.shaped (itD A) = true := by
  refine Sh.ok (n := 3) (Sh.list (n := 2) fun d hd => ?_) (by decide)
  obtain ⟨p, hp, rfl⟩ := List.mem_map.mp hd
  refine Sh.tuple (n := 1) fun d hd => ?_
  simp only [List.mem_cons, List.not_mem_nil, or_false] at hd
  rcases hd with rfl | rfl
  · exact Sh.str (h p hp).1
  · exact Sh.strs (n := 0) (h p hp).2
theorem dq_items {H : Hp} : ∀ {ts : List Addr} {kvs : List (Key × V)} {A : Tr}, Paired (fun (t : Addr) (q : Key × V) => H t = some (.tup [kV q.1, q.2])) ts kvs → kvs.map (·.1) = A.map (fun p => kS p.1) → DqAll H (kvs.map (·.2)) (A.map fun p => txD p.2) → DqAll H (ts.map V.ref) (A.map fun p => .tuple [.str p.1, txD p.2])
  | [], [], [], _, _, _ => .nil
  | [], [], _ :: _, _, e, _ => by cases e
  | t :: ts, q :: kvs, [], _, e, _ => by cases e
  | t :: ts, q :: kvs, p :: A, .cons h pd, e, dq => by
    rw [List.map_cons, List.map_cons] at e
    injection e with e1 e2
    cases dq with
    | cons d1 d2 =>
    rw [e1] at h
    exact .cons (.tup h (.cons (.str p.1) (.cons d1 .nil))) (dq_items pd e2 d2)
  | [], _ :: _, _, pd, _, _ => by cases pd
theorem eqvAll_self : ∀ {ds : List PyData}, (∀ d ∈ ds, PyData.eqv d d = true) → PyData.eqvAll ds ds = true
  | [], _ => by rw [PyData.eqvAll]
  | d :: ds, h => by
    rw [PyData.eqvAll, h d List.mem_cons_self, eqvAll_self fun x hx => h x (List.mem_cons_of_mem _ hx)]
    rfl
theorem eqv_itD (A : Tr) : PyData.eqv (itD A) (itD A) = true := by
  rw [itD, PyData.eqv]
  refine eqvAll_self fun d hd => ?_
  obtain ⟨p, _, rfl⟩ := List.mem_map.mp hd
  rw [PyData.eqv]
  refine eqvAll_self fun d hd => ?_
  simp only [List.mem_cons, List.not_mem_nil, or_false] at hd
  rcases hd with rfl | rfl
  · rw [PyData.eqv]
    exact beq_self_eq_true _
  · rw [txD, eqv_strs]
    exact decide_eq_true rfl
theorem Chg.bt {b : Str × Addr × Tx} {t : Tx} {O : Own} : ∀ {B : Bt} {k : Nat}, B[k]? = some b → Chg (bO B ++ O) b.2.1 (.lst (b.2.2.map V.str)) (.lst (t.map V.str)) (bO (B.set k (b.1, b.2.1, t)) ++ O)
  | [], k, h => by simp at h
  | x :: B, 0, h => by
    have e : x = b := Option.some.inj h
    subst e
    exact .hd
  | x :: B, k + 1, h => .tl (Chg.bt (B := B) (k := k) h)
theorem bK_set {b : Str × Addr × Tx} {t : Tx} : ∀ {B : Bt} {k : Nat}, B[k]? = some b → bK (B.set k (b.1, b.2.1, t)) = bK B
  | [], k, h => by simp at h
  | x :: B, 0, h => by
    have e : x = b := Option.some.inj h
    subst e
    rfl
  | x :: B, k + 1, h => by
    have := bK_set (B := B) (k := k) (t := t) h
    show _ :: bK (B.set k _) = _ :: bK B
    rw [this]
theorem bK_at : ∀ {B : Bt} {k : Nat} {b : Str × Addr × Tx}, (B.map (·.1)).Nodup → B[k]? = some b → valV (bK B) (.inr b.1) = some (.ref b.2.1)
  | [], k, _, _, h => by simp at h
  | x :: B, 0, b, _, h => by
    have e : x = b := Option.some.inj h
    subst e
    exact valV_pos rfl
  | x :: B, k + 1, b, n, h => by
    rw [List.map_cons] at n
    have n' := List.nodup_cons.mp n
    show valV ((kS x.1, V.ref x.2.1) :: bK B) _ = _
    rw [valV_neg (fun e => n'.1 ?_)]
    · exact bK_at n'.2 (k := k) h
    · have : x.1 = b.1 := Sum.inr.inj e
      rw [this]
      exact List.mem_map.mpr ⟨b, List.mem_of_getElem? h, rfl⟩
section
variable {P : Program} {w : World} {K : PySem.W.Frag} {mg : Str → Option Value} {base : Heap}
def wayM : List Str := ["a", "a/b", "b/a/c", "ab", "0", "abcdef/012345/z9", "a/b/c", "a0"]
def way (i : Int) : Str := wayM.getD (i % 8).toNat ""
theorem way_ok (i : Int) : PyData.strOk (way i) = true := by
  have h : ∀ k, k < 8 → PyData.strOk (wayM.getD k "") = true := by decide +kernel
  exact h _ (by omega)
def sp_l_way (K : PySem.W.Frag) : Sp := fun vs H Q _ => ∃ i : Int, vs = [.int i] ∧ ∀ H', Same H H' → Q (.str (way i)) H'
theorem sp_l_way_len {vs H Q E} (h : sp_l_way K vs H Q E) : vs.length = 1 := by
  obtain ⟨_, rfl, _⟩ := h
  rfl
theorem ok_l_way (T : Txt K mg) : FnOk P w K mg base CX0 1 T.f_l_way T.fd_l_way ["place"] (sp_l_way K) := by
  refine T.F_l_way.ok sc_l_way (fun vs H Q E h => sp_l_way_len h) (fun cdv A outer s H vs Q E hr h => ?_)
  refine ⟨_, (pss_cons (ps_set (i := 1) sc_l_way.nd rfl (.inl rfl) (pe_lst (pa_cons pe_str (pa_cons pe_str (pa_cons pe_str (pa_cons pe_str (pa_cons pe_str (pa_cons pe_str (pa_cons pe_str (pa_cons pe_str pa_nil))))))))))
      (pss_one (ps_ret (pe_ix (ix_K K (hu_of hr)) (pv 1) (pe_op op_mod (pe_callTy cr_int1 (by rfl) T.m_int (by decide +kernel) (pa_cons (pv 0) pa_nil)) pe_int) (fun _ _ => rfl))))), ?_⟩
  obtain ⟨i, rfl, q⟩ := h
  have hH := Has.start H
  refine g_start (σ' := [some (.int i), none]) rfl ?_
  walk_at "gg"
  refine g_klst (by walk_at "sz") hH (fun p1 H1 n1 h1 => ?_)
  walk_at "gg"
  refine g_rI (by show (0 : Int) < 8; decide) ?_
  have h0 : (0 : Int) ≤ i % 8 := Int.emod_nonneg _ (by decide)
  have h8 : i % 8 < 8 := Int.emod_lt_of_pos _ (by decide)
  refine g_ixZ (xs := wayM) (h1.get (List.Mem.head _)) h0 (by exact h8) (fun z hz => ?_)
  have e : z = way i := by
    unfold way
    rw [List.getD_eq_getElem?_getD, hz]
    rfl
  rw [e]
  exact q H1 h1.same
def sp_l_made (K : PySem.W.Frag) : Sp := fun vs H Q _ => ∃ (pl tl : Addr) (ps : List Str) (ws : List V) (os : List (Option Tx)), vs = [.ref pl, .ref tl] ∧ H pl = some (.lst (ps.map V.str)) ∧ H tl = some (.lst ws) ∧ DqAll H ws (os.map oxD) ∧ ps.length = os.length ∧ ps.length ≤ 100 ∧ ps.Nodup ∧
  ∀ d (B : Bt) H', Has H ((d, .dK (bK B)) :: bO B) H' → bA B = mkT ps os → Q (.ref d) H'
theorem sp_l_made_len {vs H Q E} (h : sp_l_made K vs H Q E) : vs.length = 2 := by
  obtain ⟨_, _, _, _, _, rfl, _⟩ := h
  rfl
theorem ok_l_made (T : Txt K mg) : FnOk P w K mg base CX0 1 T.f_l_made T.fd_l_made ["paths", "texts"] (sp_l_made K) := by
  refine T.F_l_made.ok sc_l_made (fun vs H Q E h => sp_l_made_len h) (fun cdv A outer s H vs Q E hr h => ?_)
  refine ⟨_, (pss_cons (ps_set (i := 2) sc_l_made.nd rfl (.inl rfl) pe_dnewK)
      (pss_cons (ps_for PassesOwn.never rfl (pi_range1 rfl T.m_range (pa_cons (pe_callB (cr_lenK K) (by rfl) T.m_len (by decide +kernel) (pa_cons (pv 0) pa_nil)) pa_nil)) (pg_name (i := 3) sc_l_made.nd rfl (.inl rfl)) (pss_one (ps_if (pt_cmpR op_notNA (pe_ix (ix_K K (hu_of hr)) (pv 1) (pv 3) (fun _ _ => rfl)) pe_non (nomark _)) (pss_one (ps_asg (pe_callTy (cr_listK K) (by rfl) T.m_list (by decide +kernel) (pa_cons (pe_ix (ix_K K (hu_of hr)) (pv 1) (pv 3) (fun _ _ => rfl)) pa_nil)) (pg_sub (pv 2) (pe_ix (ix_K K (hu_of hr)) (pv 0) (pv 3) (fun _ _ => rfl)) (set_any (hu_of hr))))) pss_nil)))
      (pss_one (ps_ret (pv 2))))), ?_⟩
  obtain ⟨pl, tl, ps, ws, os, rfl, hp, ht, dq, le, few, nd, q⟩ := h
  have hH := Has.start H
  have lw : ws.length = ps.length := by rw [dq.len, List.length_map, le]
  refine g_start (σ' := [some (.ref pl), some (.ref tl), none, none]) rfl ?_
  walk_at "gg"
  refine g_dnewK hH (fun d H1 n1 h1 => ?_)
  walk_at "gg"
  rw [List.length_map]
  refine k_forR1 (fun t σ H' => ∃ (B : Bt) (y3 : Option V), σ = [some (.ref pl), some (.ref tl), some (.ref d), y3] ∧ Has H ((d, .dK (bK B)) :: (bO B ++ [])) H' ∧ bA B = mkT (ps.take t) (os.take t)) (by omega) (by omega) ⟨[], _, rfl, Has.b0 h1, rfl⟩ ?_ ?_
  · rintro t σ H2 ht' ⟨B, y3, rfl, h2, eB⟩
    have lt : t < ps.length := by omega
    have ez : ps[t]? = some ps[t] := List.getElem?_eq_getElem lt
    generalize ps[t] = z at ez
    have eo : os[t]? = some (os[t]'(by omega)) := List.getElem?_eq_getElem (by omega)
    generalize os[t]'(by omega) = o at eo
    have eu : ws[t]? = some (ws[t]'(by omega)) := List.getElem?_eq_getElem (by omega)
    generalize ws[t]'(by omega) = u at eu
    obtain ⟨dd, ed, dqu⟩ := dq.get eu
    rw [List.getElem?_map, eo] at ed
    injection ed with ed
    subst ed
    have step := mkT_step ez eo
    have lB : B.length ≤ t := by
      have h1 := congrArg List.length eB
      have h2 := (mkT_keys (ps := ps.take t) (os := os.take t)).length_le
      rw [List.length_map, List.length_take] at h2
      unfold bA at h1
      rw [List.length_map] at h1
      omega
    walk_at "gg"
    refine g_ixL (v := u) (h2.same _ _ ht) (atI_nat eu) ?_
    walk_at "gg"
    cases o with
    | none =>
      have e := dqu.non_inv
      subst e
      refine i_n (fun c => (c rfl).elim) (fun _ => ?_)
      walk_at "gg"
      refine ⟨B, _, rfl, h2, ?_⟩
      rw [step, eB]
      exact (List.append_nil _).symm
    | some x =>
      obtain ⟨l, rfl, hx⟩ := Dq.of_strs (xs := x) dqu
      refine i_n (fun _ => ?_) (fun c => by cases c)
      walk_at "gg"
      refine g_ixL (v := .ref l) (h2.same _ _ ht) (atI_nat eu) ?_
      walk_at "gg"
      refine g_listL (h2.same _ _ hx) h2 (fun p H3 n3 h3 => ?_)
      walk_at "gg"
      refine g_ixL (v := .str z) (h3.same _ _ hp) (atI_nat (by rw [List.getElem?_map, ez]; rfl)) ?_
      have nz : z ∉ B.map (·.1) := fun m => by
        rw [← bA_keys, eB] at m
        have m2 := mkT_keys.subset m
        exact nd_new nd ez m2
      walk_at "gg"
      refine g_stD (k := .inr z) rfl h3 (.tl .hd) (szl (by unfold bK; rw [List.length_map]; omega)) (fun H4 h4 => ?_)
      rw [putK_new _ (bK_none nz)] at h4
      walk_at "gg"
      refine ⟨B ++ [(z, p, x)], _, rfl, Has.bput h4, ?_⟩
      rw [bA_snoc, eB, step]
      rfl
  · rintro σ H2 ⟨B, y3, rfl, h2, eB⟩
    have e5 : (ps.length : Int).toNat = ps.length := by omega
    rw [e5, List.take_length, le, List.take_length] at eB
    rw [List.append_nil] at h2
    walk_at "gg"
    exact q d B H2 h2 eB
def sp_l_copy (K : PySem.W.Frag) : Sp := fun vs H Q _ => ∃ (a : Addr) (A : Tr), vs = [.ref a] ∧ TrAt H a A ∧ A.length ≤ 1000 ∧ ∀ d (B : Bt) H', Has H ((d, .dK (bK B)) :: bO B) H' → bA B = A → Q (.ref d) H'
theorem sp_l_copy_len {vs H Q E} (h : sp_l_copy K vs H Q E) : vs.length = 1 := by
  obtain ⟨_, _, rfl, _⟩ := h
  rfl
theorem take_new' {A : Tr} (n : (A.map (·.1)).Nodup) {t : Nat} {p : Str × Tx} (e : A[t]? = some p) : p.1 ∉ (A.take t).map (·.1) := by
  rw [List.map_take]
  exact nd_new n (by rw [List.getElem?_map, e]; rfl)
theorem ok_l_copy (T : Txt K mg) : FnOk P w K mg base CX0 1 T.f_l_copy T.fd_l_copy ["tree"] (sp_l_copy K) := by
  refine T.F_l_copy.ok sc_l_copy (fun vs H Q E h => sp_l_copy_len h) (fun cdv A outer s H vs Q E hr h => ?_)
  refine ⟨_, (pss_cons (ps_set (i := 1) sc_l_copy.nd rfl (.inl rfl) pe_dnewK)
      (pss_cons (ps_lock (ps_for PassesOwn.never rfl (pi_keys (pv 0)) (pg_name (i := 2) sc_l_copy.nd rfl (.inl rfl)) (pss_one (ps_asg (pe_callTy (cr_listK K) (by rfl) T.m_list (by decide +kernel) (pa_cons (pe_ix (ix_K K (hu_of hr)) (pv 0) (pv 2) (fun _ _ => rfl)) pa_nil)) (pg_sub (pv 1) (pv 2) (set_any (hu_of hr)))))))
      (pss_one (ps_ret (pv 1))))), ?_⟩
  obtain ⟨a, A, rfl, ⟨kvs, ha, ek, nd, dq⟩, lA, q⟩ := h
  have hH := Has.start H
  have lk := tr_len ek
  refine g_start (σ' := [some (.ref a), none, none]) rfl ?_
  walk_at "gg"
  refine g_dnewK hH (fun d H1 n1 h1 => ?_)
  walk_at "gg"
  refine k_forDK rfl ha (Has.b0 h1) (fun t σ O' => ∃ (B : Bt) (y2 : Option V), σ = [some (.ref a), some (.ref d), y2] ∧ O' = (d, .dK (bK B)) :: (bO B ++ []) ∧ bA B = A.take t) ⟨[], _, rfl, rfl, rfl⟩ ?_ ?_
  · rintro t k v σ O' H2 od ekv ⟨B, y2, rfl, rfl, eB⟩ h2
    obtain ⟨p, ep, rfl⟩ := tr_key ek ekv
    obtain ⟨kv2, rd, ek2, _, dq2⟩ := (RT.lock (od := od) ha ⟨kvs, .inl ha, ek, nd, dq⟩).up h2.same
    obtain ⟨l, vl, hl⟩ := tr_at ek2 dq2 (getT_of nd (List.mem_of_getElem? ep))
    have lB : B.length ≤ t := by
      have := congrArg List.length eB
      unfold bA at this
      rw [List.length_map, List.length_take] at this
      omega
    have lt : t < A.length := (List.getElem?_eq_some_iff.mp ep).1
    walk_at "gg"
    refine g_ixDR rd vl ?_
    walk_at "gg"
    refine g_listL hl h2 (fun p1 H3 n3 h3 => ?_)
    have nz : p.1 ∉ B.map (·.1) := by
      rw [← bA_keys, eB]
      exact take_new' nd ep
    walk_at "gg"
    refine g_stD (k := .inr p.1) rfl h3 (.tl .hd) (szl (by unfold bK; rw [List.length_map]; omega)) (fun H4 h4 => ?_)
    rw [putK_new _ (bK_none nz)] at h4
    walk_at "gg"
    refine ⟨_, ⟨B ++ [(p.1, p1, p.2)], _, rfl, rfl, ?_⟩, Has.bput h4⟩
    rw [bA_snoc, eB, List.take_add_one, ep]
    rfl
  · rintro σ O' H2 ⟨B, y2, rfl, rfl, eB⟩ h2
    rw [lk, List.take_length] at eB
    rw [List.append_nil] at h2
    walk_at "gg"
    exact q d B H2 h2 eB
def sp_l_rising (K : PySem.W.Frag) : Sp := fun vs H Q _ => ∃ (a : Addr) (A : Tr), vs = [.ref a] ∧ TrAt H a A ∧ A.length ≤ 60 ∧ ∀ d (B : Bt) H', Has H ((d, .dK (bK B)) :: bO B) H' → AscT (bA B) → (∀ p, p ∈ bA B ↔ p ∈ A) → Q (.ref d) H'
theorem sp_l_rising_len {vs H Q E} (h : sp_l_rising K vs H Q E) : vs.length = 1 := by
  obtain ⟨_, _, rfl, _⟩ := h
  rfl
theorem ok_l_rising (T : Txt K mg) : FnOk P w K mg base CX0 1 T.f_l_rising T.fd_l_rising ["tree"] (sp_l_rising K) := by
  refine T.F_l_rising.ok sc_l_rising (fun vs H Q E h => sp_l_rising_len h) (fun cdv A outer s H vs Q E hr h => ?_)
  refine ⟨_, (pss_cons (ps_set (i := 1) sc_l_rising.nd rfl (.inl rfl) pe_dnewK)
      (pss_cons (ps_for PassesOwn.never rfl (k_il K (pi_list (pe_callB (cr_sortN K P w rfl (cr_sortA K rfl)) (by rfl) T.m_sorted (by decide +kernel) (pa_cons (pe_callTy (cr_listD rfl) (by rfl) T.m_list (by decide +kernel) (pa_cons (pv 0) pa_nil)) pa_nil)))) (pg_name (i := 2) sc_l_rising.nd rfl (.inl rfl)) (pss_one (ps_asg (pe_callTy (cr_listK K) (by rfl) T.m_list (by decide +kernel) (pa_cons (pe_ix (ix_K K (hu_of hr)) (pv 0) (pv 2) (fun _ _ => rfl)) pa_nil)) (pg_sub (pv 1) (pv 2) (set_any (hu_of hr))))))
      (pss_one (ps_ret (pv 1))))), ?_⟩
  obtain ⟨a, A, rfl, ⟨kvs, ha, ek, nd, dq⟩, lA, q⟩ := h
  have hH := Has.start H
  refine g_start (σ' := [some (.ref a), none, none]) rfl ?_
  walk_at "gg"
  refine g_dnewK hH (fun d H1 n1 h1 => ?_)
  walk_at "gg"
  refine g_listD (h1.same _ _ ha) h1 (fun p1 H2 n2 h2 => ?_)
  rw [tr_keys ek] at h2
  walk_at "gg"
  refine g_sortNA (g_sortS (h2.get (List.Mem.head _)) (by rw [List.length_map]; omega) h2 (fun us p2 H3 pm srt n3 h3 => ?_))
  have asc := asc_of srt (pm.nodup_iff.mpr nd)
  have h3 : Has H ((d, .dK (bK [])) :: (bO [] ++ [(p2, .lst (us.map V.str)), (p1, .lst ((A.map (·.1)).map V.str))])) H3 := h3.perm (by exact (List.perm_middle (l₁ := [_, _]) (l₂ := [])).symm)
  walk_at "gg"
  refine k_forL (h3.get (List.Mem.tail _ (List.Mem.head _))) (fun t σ H' => ∃ (B : Bt) (y2 : Option V), σ = [some (.ref a), some (.ref d), y2] ∧ Has H ((d, .dK (bK B)) :: (bO B ++ [(p2, .lst (us.map V.str)), (p1, .lst ((A.map (·.1)).map V.str))])) H' ∧ (bA B).map (·.1) = us.take t ∧ ∀ p ∈ bA B, p ∈ A) ⟨[], _, rfl, h3, rfl, fun p h => by cases h⟩ ?_ ?_ ?_
  · rintro t σ H' _ ⟨B, y2, rfl, h, _⟩
    exact h.get (List.mem_cons_of_mem _ (List.mem_append_right _ (List.Mem.head _)))
  · rintro t x σ H4 hx ⟨B, y2, rfl, h4, eB, sB⟩
    rw [List.getElem?_map] at hx
    obtain ⟨z, hz, rfl⟩ := Option.map_eq_some_iff.mp hx
    have zm : z ∈ A.map (·.1) := pm.mem_iff.mp (List.mem_of_getElem? hz)
    obtain ⟨p, hp, rfl⟩ := List.mem_map.mp zm
    obtain ⟨l, vl, hl⟩ := tr_at ek (dq.up h4.same _ _) (getT_of nd hp)
    have lt := (List.getElem?_eq_some_iff.mp hz).1
    have lu := pm.length_eq
    rw [List.length_map] at lu
    have lB : B.length ≤ t := by
      have := congrArg List.length eB
      unfold bA at this
      rw [List.length_map, List.length_map, List.length_take] at this
      omega
    have nz : p.1 ∉ B.map (·.1) := by
      rw [← bA_keys, eB]
      intro m
      exact nd_new asc.nodup hz m
    walk_at "gg"
    refine g_ixDS (h4.same _ _ ha) vl ?_
    walk_at "gg"
    refine g_listL hl h4 (fun p3 H5 n5 h5 => ?_)
    walk_at "gg"
    refine g_stD (k := .inr p.1) rfl h5 (.tl .hd) (szl (by unfold bK; rw [List.length_map]; omega)) (fun H6 h6 => ?_)
    rw [putK_new _ (bK_none nz)] at h6
    walk_at "gg"
    refine ⟨B ++ [(p.1, p3, p.2)], _, rfl, Has.bput h6, ?_, fun r hr => ?_⟩
    · rw [bA_snoc, List.map_append, eB, List.take_add_one, hz]
      rfl
    · rw [bA_snoc] at hr
      rcases List.mem_append.mp hr with hr | hr
      · exact sB r hr
      · rw [List.mem_singleton.mp hr]
        exact hp
  · rintro σ H4 ⟨B, y2, rfl, h4, eB, sB⟩
    rw [List.length_map, List.take_length] at eB
    walk_at "gg"
    refine q d B H4 (h4.sub (List.Sublist.cons_cons _ (List.sublist_append_left _ _))) (by unfold AscT; rw [eB]; exact asc) fun p => ⟨sB p, fun hp => ?_⟩
    have m : p.1 ∈ (bA B).map (·.1) := by
      rw [eB]
      exact pm.mem_iff.mpr (List.mem_map.mpr ⟨p, hp, rfl⟩)
    obtain ⟨r, hr, er⟩ := List.mem_map.mp m
    have e1 := getT_of nd hp
    have e2 := getT_of nd (sB r hr)
    rw [er, e1] at e2
    injection e2 with e2
    rw [show p = r from Prod.ext er.symm e2]
    exact hr
def sp_l_kept (K : PySem.W.Frag) : Sp := fun vs H Q _ => ∃ (a b : Addr) (A : Tr), vs = [.ref a, .ref b] ∧ TrAt H a A ∧ TrAt H b A ∧ okTr A ∧ ∀ H', Same H H' → Q (.bl true) H'
theorem sp_l_kept_len {vs H Q E} (h : sp_l_kept K vs H Q E) : vs.length = 2 := by
  obtain ⟨_, _, _, rfl, _⟩ := h
  rfl
theorem ok_l_kept (T : Txt K mg) : FnOk P w K mg base CX0 1 T.f_l_kept T.fd_l_kept ["passed", "tree"] (sp_l_kept K) := by
  refine T.F_l_kept.ok sc_l_kept (fun vs H Q E h => sp_l_kept_len h) (fun cdv A outer s H vs Q E hr h => ?_)
  refine ⟨_, (pss_one (ps_ret (pe_cmpR (op_eqK K hr.units) (LiI.pe_listItems rfl (pv 0) (by rfl) T.m_list (by decide +kernel)) (LiI.pe_listItems rfl (pv 1) (by rfl) T.m_list (by decide +kernel)) (nomark _)))), ?_⟩
  obtain ⟨a, b, A, rfl, ⟨ka, ha, eka, _, dqa⟩, ⟨kb, hb, ekb, _, dqb⟩, ok, q⟩ := h
  refine g_start (σ' := [some (.ref a), some (.ref b)]) rfl ?_
  walk_at "gg"
  refine g_listItems ?_
  walk_at "gg"
  refine g_items ha (fun p1 H1 ts1 s1 n1 e1 pd1 => ?_)
  walk_at "gg"
  refine g_listItems ?_
  walk_at "gg"
  refine g_items (s1 _ _ hb) (fun p2 H2 ts2 s2 n2 e2 pd2 => ?_)
  refine g_eqD (d := itD A) (e := itD A) (.lst (s2 _ _ e1) ((dq_items pd1 eka (dqa.up s1 _ _)).up s2 _ _)) (.lst e2 (dq_items pd2 ekb (dqb.up (s1.trans s2) _ _))) (sh_itD ok) (sh_itD ok) ?_
  rw [eqv_itD]
  exact q H2 (s1.trans s2)
def sp_l_spoil (K : PySem.W.Frag) : Sp := fun vs H Q _ => ∃ (d : Addr) (B : Bt) (F : Hp), vs = [.ref d] ∧ Has F ((d, .dK (bK B)) :: bO B) H ∧ (B.map (·.1)).Nodup ∧ B.length ≤ 1000 ∧ (∀ b ∈ B, b.2.2.length ≤ 1000) ∧ ∀ H', Same F H' → Q .non H'
theorem sp_l_spoil_len {vs H Q E} (h : sp_l_spoil K vs H Q E) : vs.length = 1 := by
  obtain ⟨_, _, _, rfl, _⟩ := h
  rfl
theorem ok_l_spoil (T : Txt K mg) : FnOk P w K mg base CX0 1 T.f_l_spoil T.fd_l_spoil ["tree"] (sp_l_spoil K) := by
  refine T.F_l_spoil.ok sc_l_spoil (fun vs H Q E h => sp_l_spoil_len h) (fun cdv A outer s H vs Q E hr h => ?_)
  refine ⟨_, (pss_cons (ps_for PassesOwn.never rfl (k_il K (pi_list (pe_callTy (cr_listD rfl) (by rfl) T.m_list (by decide +kernel) (pa_cons (pv 0) pa_nil)))) (pg_name (i := 1) sc_l_spoil.nd rfl (.inl rfl)) (pss_one (ps_expr (k_bm K (pe_bm PySem.F.plainAttrs_list PySem.F.slot_list_append PySem.F.type_list_append mt_append (pe_ix (ix_K K (hu_of hr)) (pv 0) (pv 1) (fun _ _ => rfl)) (pa_cons pe_str pa_nil))))))
      (pss_one (ps_asg (pe_lst (pa_cons pe_str pa_nil)) (pg_sub (pv 0) pe_str (set_any (hu_of hr)))))), ?_⟩
  obtain ⟨d, B, F, rfl, h, nd, lB, lt, q⟩ := h
  refine g_start (σ' := [some (.ref d), none]) rfl ?_
  walk_at "gg"
  refine g_listD (h.get (List.Mem.head _)) h (fun l H1 n1 h1 => ?_)
  have ek : (bK B).map (fun kv => kV kv.1) = (B.map (·.1)).map V.str := by
    unfold bK
    rw [List.map_map, List.map_map]
    rfl
  rw [ek] at h1
  refine k_forL (h1.get (List.Mem.head _)) (fun t σ H' => ∃ (C : Bt) (y1 : Option V), σ = [some (.ref d), y1] ∧ bK C = bK B ∧ Has F ((l, .lst ((B.map (·.1)).map V.str)) :: (d, .dK (bK C)) :: (bO C ++ [])) H' ∧ ∀ b ∈ C, b.2.2.length ≤ 1000 + t) ⟨B, _, rfl, rfl, by rw [List.append_nil]; exact h1, fun b hb => lt b hb⟩ ?_ ?_ ?_
  · rintro t σ H' _ ⟨C, y1, rfl, eC, h, _⟩
    exact h.get (List.Mem.head _)
  · rintro t x σ H2 hx ⟨C, y1, rfl, eC, h2, lC⟩
    rw [List.getElem?_map] at hx
    obtain ⟨z, hz, rfl⟩ := Option.map_eq_some_iff.mp hx
    have kC : C.map (·.1) = B.map (·.1) := by
      have := congrArg (List.map (·.1)) eC
      rw [bK_keys, bK_keys] at this
      have e : ∀ D : Bt, (bA D).map (fun p => kS p.1) = (D.map (·.1)).map kS := fun D => by
        unfold bA
        rw [List.map_map, List.map_map]
        rfl
      rw [e, e] at this
      exact (List.map_inj_right (fun a b h => Sum.inr.inj h)).mp this
    rw [← kC, List.getElem?_map] at hz
    obtain ⟨b, eb, rfl⟩ := Option.map_eq_some_iff.mp hz
    have tl : t < B.length := by
      have := (List.getElem?_eq_some_iff.mp eb).1
      have := congrArg List.length kC
      rw [List.length_map, List.length_map] at this
      omega
    have lb := lC b (List.mem_of_getElem? eb)
    walk_at "gg"
    refine g_ixDS (h2.get (List.Mem.tail _ (List.Mem.head _))) (bK_at (by rw [kC]; exact nd) eb) ?_
    have hb : H2 b.2.1 = some (.lst (b.2.2.map V.str)) := h2.get (List.mem_cons_of_mem _ (List.mem_cons_of_mem _ (List.mem_append_left _ (List.mem_map.mpr ⟨b, List.mem_of_getElem? eb, rfl⟩))))
    have c : Chg ((l, HO.lst ((B.map (·.1)).map V.str)) :: (d, .dK (bK C)) :: (bO C ++ [])) b.2.1 (.lst (b.2.2.map V.str)) (.lst (b.2.2.map V.str ++ [V.str "c"])) ((l, HO.lst ((B.map (·.1)).map V.str)) :: (d, .dK (bK C)) :: (bO (C.set t (b.1, b.2.1, b.2.2 ++ (["c"] : Tx))) ++ [])) := by
      have := Chg.bt (t := b.2.2 ++ (["c"] : Tx)) (O := []) eb
      rw [List.map_append] at this
      exact .tl (.tl this)
    walk_at "gg"
    refine g_append h2 c (szl (by rw [List.length_map]; omega)) (fun H3 h3 => ?_)
    walk_at "gg"
    have e3 := bK_set (t := b.2.2 ++ (["c"] : Tx)) eb
    refine ⟨C.set t (b.1, b.2.1, b.2.2 ++ (["c"] : Tx)), _, rfl, e3.trans eC, by rw [e3]; exact h3, fun r hr => ?_⟩
    rcases List.mem_or_eq_of_mem_set hr with hr | rfl
    · have := lC r hr
      omega
    · show (b.2.2 ++ (["c"] : Tx)).length ≤ _
      rw [List.length_append]
      show _ + 1 ≤ _
      omega
  · rintro σ H2 ⟨C, y1, rfl, eC, h2, lC⟩
    have l2 : (bK C).length ≤ 1000 := by
      rw [eC]
      unfold bK
      rw [List.length_map]
      exact lB
    walk_at "gg"
    refine g_klst (by walk_at "sz") h2 (fun p3 H3 n3 h3 => ?_)
    walk_at "gg"
    refine g_stD (k := .inr "zz") rfl h3 (.tl (.tl .hd)) (szl (by omega)) (fun H4 h4 => ?_)
    walk_at "gg"
    exact q H4 h4.same
end

end K08

namespace K08
open PySem PySem.Spec PyProof.Rows L2 Qk
local macro_rules | `(tactic| walk_at "m") => `(tactic| ((repeat (first | exact List.Mem.head _ | apply List.Mem.tail)); done))
local macro_rules | `(tactic| walk_at "h") => `(tactic| first | assumption | exact Has.gF (by assumption) (by assumption) | exact Has.get (by assumption) (by walk_at "m"))
local macro_rules | `(tactic| walk_at "c") => `(tactic| ((repeat (first | exact Chg.hd | apply Chg.tl)); done))
local macro_rules | `(tactic| walk_at "is") => `(tactic| first
  | ((with_reducible refine' is2_non ?gh ?_); (case gh => walk_at "h"))
  | (with_reducible refine is_int_list ?_)
  | (with_reducible refine is_int_tuple ?_)
  | (with_reducible refine is_int_dict ?_)
  | (with_reducible refine is_int_int ?_)
  | (with_reducible refine is_int_bool ?_)
  | (with_reducible refine is_int_str ?_)
  | ((with_reducible refine' is2_int ?gh ?_); (case gh => walk_at "h"))
  | (with_reducible refine is_str_list ?_)
  | (with_reducible refine is_str_tuple ?_)
  | (with_reducible refine is_str_dict ?_)
  | (with_reducible refine is_str_int ?_)
  | (with_reducible refine is_str_bool ?_)
  | (with_reducible refine is_str_str ?_)
  | ((with_reducible refine' is2_str ?gh ?_); (case gh => walk_at "h"))
  | (with_reducible refine is_bool_list ?_)
  | (with_reducible refine is_bool_tuple ?_)
  | (with_reducible refine is_bool_dict ?_)
  | (with_reducible refine is_bool_int ?_)
  | (with_reducible refine is_bool_bool ?_)
  | (with_reducible refine is_bool_str ?_)
  | ((with_reducible refine' is2_bool ?gh ?_); (case gh => walk_at "h"))
  | ((with_reducible refine' is_list_list ?gh ?_); (case gh => walk_at "h"))
  | ((with_reducible refine' is_list_tuple ?gh ?_); (case gh => walk_at "h"))
  | ((with_reducible refine' is_list_dict ?gh ?_); (case gh => walk_at "h"))
  | ((with_reducible refine' is_list_int ?gh ?_); (case gh => walk_at "h"))
  | ((with_reducible refine' is_list_bool ?gh ?_); (case gh => walk_at "h"))
  | ((with_reducible refine' is_list_str ?gh ?_); (case gh => walk_at "h"))
  | ((with_reducible refine' is2_list ?ga ?gb ?_); (case ga => walk_at "h"); (case gb => walk_at "h"))
  | ((with_reducible refine' is_tuple_list ?gh ?_); (case gh => walk_at "h"))
  | ((with_reducible refine' is_tuple_tuple ?gh ?_); (case gh => walk_at "h"))
  | ((with_reducible refine' is_tuple_dict ?gh ?_); (case gh => walk_at "h"))
  | ((with_reducible refine' is_tuple_int ?gh ?_); (case gh => walk_at "h"))
  | ((with_reducible refine' is_tuple_bool ?gh ?_); (case gh => walk_at "h"))
  | ((with_reducible refine' is_tuple_str ?gh ?_); (case gh => walk_at "h"))
  | ((with_reducible refine' is2_tuple ?ga ?gb ?_); (case ga => walk_at "h"); (case gb => walk_at "h"))
  | ((with_reducible refine' is_dict_list ?gh ?_); (case gh => walk_at "h"))
  | ((with_reducible refine' is_dict_tuple ?gh ?_); (case gh => walk_at "h"))
  | ((with_reducible refine' is_dict_dict ?gh ?_); (case gh => walk_at "h"))
  | ((with_reducible refine' is_dict_int ?gh ?_); (case gh => walk_at "h"))
  | ((with_reducible refine' is_dict_bool ?gh ?_); (case gh => walk_at "h"))
  | ((with_reducible refine' is_dict_str ?gh ?_); (case gh => walk_at "h"))
  | ((with_reducible refine' is2_dict ?ga ?gb ?_); (case ga => walk_at "h"); (case gb => walk_at "h")))
local macro_rules | `(tactic| walk_at "g") => `(tactic| first
  | (with_reducible refine g_seq ?_)
  | (with_reducible refine g_asg ?_)
  | ((with_reducible refine g_name ?_); dsimp only [List.set, wipe, List.map])
  | ((with_reducible refine' g_var ?gv ?_); (case gv => exact rfl))
  | (with_reducible refine g_c ?_)
  | (with_reducible refine g_op ?_)
  | (with_reducible refine g_cons ?_)
  | (with_reducible refine g_nil ?_)
  | (with_reducible refine g_cb ?_)
  | (with_reducible refine g_call ?_)
  | (with_reducible refine g_tup ?_)
  | (with_reducible refine g_lst ?_)
  | (with_reducible refine g_bm ?_)
  | (with_reducible refine g_bm0 ?_)
  | ((with_reducible refine' g_kbm ?gh ?_); (case gh => walk_at "h"))
  | (with_reducible refine g_drop ?_)
  | (with_reducible refine g_ret ?_)
  | (with_reducible refine g_retN ?_)
  | (with_reducible refine g_next ?_)
  | (with_reducible refine g_brk ?_)
  | (with_reducible refine g_cont ?_)
  | (with_reducible refine g_if ?_)
  | ((with_reducible refine' g_aug ?gv ?_); (case gv => exact rfl))
  | (with_reducible refine g_ipI ?_)
  | (with_reducible refine g_test ?_)
  | (with_reducible refine g_tB ?_)
  | (with_reducible refine g_kB ?_)
  | (with_reducible refine g_not ?_)
  | (with_reducible refine g_and ?_)
  | (with_reducible refine g_or ?_)
  | (with_reducible refine g_andV ?_)
  | (with_reducible refine g_orV ?_)
  | (with_reducible refine g_notV ?_)
  | (with_reducible refine g_ifE ?_)
  | (with_reducible refine g_addI ?_)
  | (with_reducible refine g_rI0 ?_)
  | (with_reducible refine g_eqI ?_)
  | (with_reducible refine g_eqS ?_)
  | (with_reducible refine g_neI ?_)
  | (with_reducible refine g_neS ?_)
  | (with_reducible refine g_isN ?_)
  | (with_reducible refine g_notN ?_)
  | (with_reducible refine g_int ?_)
  | (with_reducible refine g_max2 ?_)
  | (with_reducible refine g_min2 ?_)
  | ((with_reducible refine' g_lenL ?gh ?_); (case gh => walk_at "h"))
  | (with_reducible refine g_sub ?_)
  | (with_reducible refine g_gcons ?_)
  | (with_reducible refine g_gnil ?_)
  | (with_reducible refine g_un ?_)
  | (with_reducible refine g_rU ?_)
  | (with_reducible refine g_forL ?_)
  | (with_reducible refine g_forS ?_)
  | (with_reducible refine g_forR1 ?_)
  | (with_reducible refine g_forR2 ?_)
  | (with_reducible refine g_forR3 ?_)
  | (with_reducible refine g_lcL ?_)
  | (with_reducible refine g_lcR1 ?_)
  | (with_reducible refine g_lcR2 ?_)
  | (with_reducible refine g_slice ?_)
  | (with_reducible refine g_part ?_)
  | (with_reducible refine g_kOI ?_)
  | (with_reducible refine g_nopart ?_)
  | (with_reducible refine g_yes ?_)
  | ((with_reducible refine' g_wipe ?gv ?_); (case gv => exact rfl))
  | (with_reducible refine iteT ?_)
  | (with_reducible refine iteF ?_)
  | (with_reducible refine i_nf ?_)
  | (with_reducible refine i_nt ?_)
  | ((with_reducible refine' g_gtup ?gh ?gl ?_); (case gh => walk_at "h"); (case gl => exact rfl))
  | ((with_reducible refine' g_notinI ?gh ?_); (case gh => walk_at "h"))
  | ((with_reducible refine' g_inI ?gh ?_); (case gh => walk_at "h"))
  | ((with_reducible refine' g_kget2 ?gh ?_); (case gh => walk_at "h"))
  | ((with_reducible refine' g_kgotI ?gh ?_); (case gh => walk_at "h"))
  | (with_reducible refine g_tRev ?_)
  | (with_reducible refine g_neB ?_)
  | (with_reducible refine g_eqB ?_)
  | ((with_reducible refine' g_lenT ?gh ?_); (case gh => walk_at "h"))
  | (with_reducible refine g_star ?_)
  | ((with_reducible refine' g_kstarL ?gh ?_); (case gh => walk_at "h"))
  | ((with_reducible refine' g_kstarT ?gh ?_); (case gh => walk_at "h"))
  | (with_reducible refine g_tru ?_)
  | ((with_reducible refine' g_truL ?gh ?_); (case gh => walk_at "h"))
  | (with_reducible refine g_get2 ?_)
  | (with_reducible refine g_try ?_)
  | (with_reducible refine g_fld ?_)
  | (with_reducible refine g_sfld ?_)
  | (with_reducible refine g_meth ?_)
  | (with_reducible refine g_make ?_)
  | (with_reducible refine g_del ?_)
  | (with_reducible refine g_callS ?_)
  | (with_reducible refine g_raise ?_)
  | (with_reducible refine g_xf ?_)
  | (with_reducible refine g_m0 ?_)
  | (with_reducible refine g_km0 ?_)
  | walk_at "is")
local macro_rules | `(tactic| walk_at "gg") => `(tactic| repeat walk_at "g")
local macro_rules | `(tactic| walk_at "sz") => `(tactic| (refine sz ?_; simp only [List.length_cons, List.length_nil, List.length_map, List.length_append, List.length_replicate]; omega))
local macro_rules | `(tactic| walk_at "sub") => `(tactic| ((repeat (first | exact List.Sublist.slnil | with_reducible apply List.Sublist.cons_cons | with_reducible apply List.Sublist.cons)); done))

/-! ### the menu of texts -/
section
variable {P : Program} {w : World} {K : PySem.W.Frag} {mg : Str → Option Value} {base : Heap}
def textM : List Tx := [["a"], [], ["b"], ["a", "b"], ["a", "a"], [""], ["b", "a"], [" "]]
def text (i : Int) : Tx := textM.getD (i % 8).toNat []
theorem text_ok (i : Int) : okX (text i) ∧ (text i).length ≤ 40 := by
  have h : ∀ k, k < 8 → ((textM.getD k []).all fun z => PyData.strOk z) = true ∧ (textM.getD k []).length ≤ 40 := by decide +kernel
  have h := h (i % 8).toNat (by omega)
  exact ⟨fun z hz => List.all_eq_true.mp h.1 z hz, h.2⟩
def sp_l_text (K : PySem.W.Frag) : Sp := fun vs H Q _ => ∃ i : Int, vs = [.int i] ∧ ∀ p H', Same H H' → H p = none → H' p = some (.lst ((text i).map V.str)) → Q (.ref p) H'
theorem sp_l_text_len {vs H Q E} (h : sp_l_text K vs H Q E) : vs.length = 1 := by
  obtain ⟨_, rfl, _⟩ := h
  rfl
theorem ok_l_text (T : Txt K mg) : FnOk P w K mg base CX0 1 T.f_l_text T.fd_l_text ["place"] (sp_l_text K) := by
  refine T.F_l_text.ok sc_l_text (fun vs H Q E h => sp_l_text_len h) (fun cdv A outer s H vs Q E hr h => ?_)
  refine ⟨_, (pss_cons (ps_set (i := 1) sc_l_text.nd rfl (.inl rfl) (pe_lst (pa_cons (pe_lst (pa_cons pe_str pa_nil)) (pa_cons (pe_lst pa_nil) (pa_cons (pe_lst (pa_cons pe_str pa_nil)) (pa_cons (pe_lst (pa_cons pe_str (pa_cons pe_str pa_nil))) (pa_cons (pe_lst (pa_cons pe_str (pa_cons pe_str pa_nil))) (pa_cons (pe_lst (pa_cons pe_str pa_nil)) (pa_cons (pe_lst (pa_cons pe_str (pa_cons pe_str pa_nil))) (pa_cons (pe_lst (pa_cons pe_str pa_nil)) pa_nil))))))))))
      (pss_one (ps_ret (pe_ix (ix_K K (hu_of hr)) (pv 1) (pe_op op_mod (pe_callTy cr_int1 (by rfl) T.m_int (by decide +kernel) (pa_cons (pv 0) pa_nil)) pe_int) (fun _ _ => rfl))))), ?_⟩
  obtain ⟨i, rfl, q⟩ := h
  have h0 := Has.start H
  refine g_start (σ' := [some (.int i), none]) rfl ?_
  walk_at "gg"
  refine g_klst (by walk_at "sz") h0 (fun p1 H1 n1 h1 => ?_)
  walk_at "gg"
  have s1 := h1.same
  refine g_klst (by walk_at "sz") h1 (fun p2 H2 n2 h2 => ?_)
  walk_at "gg"
  have s2 := h2.same
  refine g_klst (by walk_at "sz") h2 (fun p3 H3 n3 h3 => ?_)
  walk_at "gg"
  have s3 := h3.same
  refine g_klst (by walk_at "sz") h3 (fun p4 H4 n4 h4 => ?_)
  walk_at "gg"
  have s4 := h4.same
  refine g_klst (by walk_at "sz") h4 (fun p5 H5 n5 h5 => ?_)
  walk_at "gg"
  have s5 := h5.same
  refine g_klst (by walk_at "sz") h5 (fun p6 H6 n6 h6 => ?_)
  walk_at "gg"
  have s6 := h6.same
  refine g_klst (by walk_at "sz") h6 (fun p7 H7 n7 h7 => ?_)
  walk_at "gg"
  have s7 := h7.same
  refine g_klst (by walk_at "sz") h7 (fun p8 H8 n8 h8 => ?_)
  walk_at "gg"
  have s8 := h8.same
  refine g_klst (by walk_at "sz") h8 (fun l H9 n9 h9 => ?_)
  walk_at "gg"
  refine g_rI (by show (0 : Int) < 8; decide) ?_
  have i0 : (0 : Int) ≤ i % 8 := Int.emod_nonneg _ (by decide)
  have i1 : i % 8 < 8 := Int.emod_lt_of_pos _ (by decide)
  have et : ∀ k : Nat, i % 8 = k → text i = textM.getD k [] := fun k e => by
    unfold text
    rw [e]
    rfl
  by_cases e : i % 8 = (0 : Nat)
  · rw [e]
    refine g_ixL (v := .ref p1) (h9.get (List.Mem.head _)) (atI_nat (j := 0) rfl) ?_
    exact q p1 H9 h9.same n1 (by rw [et 0 e]; exact h9.get (by walk_at "m"))
  by_cases e : i % 8 = (1 : Nat)
  · rw [e]
    refine g_ixL (v := .ref p2) (h9.get (List.Mem.head _)) (atI_nat (j := 1) rfl) ?_
    exact q p2 H9 h9.same (s1.free n2) (by rw [et 1 e]; exact h9.get (by walk_at "m"))
  by_cases e : i % 8 = (2 : Nat)
  · rw [e]
    refine g_ixL (v := .ref p3) (h9.get (List.Mem.head _)) (atI_nat (j := 2) rfl) ?_
    exact q p3 H9 h9.same (s2.free n3) (by rw [et 2 e]; exact h9.get (by walk_at "m"))
  by_cases e : i % 8 = (3 : Nat)
  · rw [e]
    refine g_ixL (v := .ref p4) (h9.get (List.Mem.head _)) (atI_nat (j := 3) rfl) ?_
    exact q p4 H9 h9.same (s3.free n4) (by rw [et 3 e]; exact h9.get (by walk_at "m"))
  by_cases e : i % 8 = (4 : Nat)
  · rw [e]
    refine g_ixL (v := .ref p5) (h9.get (List.Mem.head _)) (atI_nat (j := 4) rfl) ?_
    exact q p5 H9 h9.same (s4.free n5) (by rw [et 4 e]; exact h9.get (by walk_at "m"))
  by_cases e : i % 8 = (5 : Nat)
  · rw [e]
    refine g_ixL (v := .ref p6) (h9.get (List.Mem.head _)) (atI_nat (j := 5) rfl) ?_
    exact q p6 H9 h9.same (s5.free n6) (by rw [et 5 e]; exact h9.get (by walk_at "m"))
  by_cases e : i % 8 = (6 : Nat)
  · rw [e]
    refine g_ixL (v := .ref p7) (h9.get (List.Mem.head _)) (atI_nat (j := 6) rfl) ?_
    exact q p7 H9 h9.same (s6.free n7) (by rw [et 6 e]; exact h9.get (by walk_at "m"))
  have e : i % 8 = (7 : Nat) := by omega
  rw [e]
  refine g_ixL (v := .ref p8) (h9.get (List.Mem.head _)) (atI_nat (j := 7) rfl) ?_
  exact q p8 H9 h9.same (s7.free n8) (by rw [et 7 e]; exact h9.get (by walk_at "m"))
end

end K08

namespace K08
open PySem PySem.Spec PyProof.Rows L2 Qk
local macro_rules | `(tactic| walk_at "m") => `(tactic| ((repeat (first | exact List.Mem.head _ | apply List.Mem.tail)); done))
local macro_rules | `(tactic| walk_at "h") => `(tactic| first | assumption | exact Has.gF (by assumption) (by assumption) | exact Has.get (by assumption) (by walk_at "m"))
local macro_rules | `(tactic| walk_at "c") => `(tactic| ((repeat (first | exact Chg.hd | apply Chg.tl)); done))
local macro_rules | `(tactic| walk_at "is") => `(tactic| first
  | ((with_reducible refine' is2_non ?gh ?_); (case gh => walk_at "h"))
  | (with_reducible refine is_int_list ?_)
  | (with_reducible refine is_int_tuple ?_)
  | (with_reducible refine is_int_dict ?_)
  | (with_reducible refine is_int_int ?_)
  | (with_reducible refine is_int_bool ?_)
  | (with_reducible refine is_int_str ?_)
  | ((with_reducible refine' is2_int ?gh ?_); (case gh => walk_at "h"))
  | (with_reducible refine is_str_list ?_)
  | (with_reducible refine is_str_tuple ?_)
  | (with_reducible refine is_str_dict ?_)
  | (with_reducible refine is_str_int ?_)
  | (with_reducible refine is_str_bool ?_)
  | (with_reducible refine is_str_str ?_)
  | ((with_reducible refine' is2_str ?gh ?_); (case gh => walk_at "h"))
  | (with_reducible refine is_bool_list ?_)
  | (with_reducible refine is_bool_tuple ?_)
  | (with_reducible refine is_bool_dict ?_)
  | (with_reducible refine is_bool_int ?_)
  | (with_reducible refine is_bool_bool ?_)
  | (with_reducible refine is_bool_str ?_)
  | ((with_reducible refine' is2_bool ?gh ?_); (case gh => walk_at "h"))
  | ((with_reducible refine' is_list_list ?gh ?_); (case gh => walk_at "h"))
  | ((with_reducible refine' is_list_tuple ?gh ?_); (case gh => walk_at "h"))
  | ((with_reducible refine' is_list_dict ?gh ?_); (case gh => walk_at "h"))
  | ((with_reducible refine' is_list_int ?gh ?_); (case gh => walk_at "h"))
  | ((with_reducible refine' is_list_bool ?gh ?_); (case gh => walk_at "h"))
  | ((with_reducible refine' is_list_str ?gh ?_); (case gh => walk_at "h"))
  | ((with_reducible refine' is2_list ?ga ?gb ?_); (case ga => walk_at "h"); (case gb => walk_at "h"))
  | ((with_reducible refine' is_tuple_list ?gh ?_); (case gh => walk_at "h"))
  | ((with_reducible refine' is_tuple_tuple ?gh ?_); (case gh => walk_at "h"))
  | ((with_reducible refine' is_tuple_dict ?gh ?_); (case gh => walk_at "h"))
  | ((with_reducible refine' is_tuple_int ?gh ?_); (case gh => walk_at "h"))
  | ((with_reducible refine' is_tuple_bool ?gh ?_); (case gh => walk_at "h"))
  | ((with_reducible refine' is_tuple_str ?gh ?_); (case gh => walk_at "h"))
  | ((with_reducible refine' is2_tuple ?ga ?gb ?_); (case ga => walk_at "h"); (case gb => walk_at "h"))
  | ((with_reducible refine' is_dict_list ?gh ?_); (case gh => walk_at "h"))
  | ((with_reducible refine' is_dict_tuple ?gh ?_); (case gh => walk_at "h"))
  | ((with_reducible refine' is_dict_dict ?gh ?_); (case gh => walk_at "h"))
  | ((with_reducible refine' is_dict_int ?gh ?_); (case gh => walk_at "h"))
  | ((with_reducible refine' is_dict_bool ?gh ?_); (case gh => walk_at "h"))
  | ((with_reducible refine' is_dict_str ?gh ?_); (case gh => walk_at "h"))
  | ((with_reducible refine' is2_dict ?ga ?gb ?_); (case ga => walk_at "h"); (case gb => walk_at "h")))
local macro_rules | `(tactic| walk_at "g") => `(tactic| first
  | (with_reducible refine g_seq ?_)
  | (with_reducible refine g_asg ?_)
  | ((with_reducible refine g_name ?_); dsimp only [List.set, wipe, List.map])
  | ((with_reducible refine' g_var ?gv ?_); (case gv => exact rfl))
  | (with_reducible refine g_c ?_)
  | (with_reducible refine g_op ?_)
  | (with_reducible refine g_cons ?_)
  | (with_reducible refine g_nil ?_)
  | (with_reducible refine g_cb ?_)
  | (with_reducible refine g_call ?_)
  | (with_reducible refine g_tup ?_)
  | (with_reducible refine g_lst ?_)
  | (with_reducible refine g_bm ?_)
  | (with_reducible refine g_bm0 ?_)
  | ((with_reducible refine' g_kbm ?gh ?_); (case gh => walk_at "h"))
  | (with_reducible refine g_drop ?_)
  | (with_reducible refine g_ret ?_)
  | (with_reducible refine g_retN ?_)
  | (with_reducible refine g_next ?_)
  | (with_reducible refine g_brk ?_)
  | (with_reducible refine g_cont ?_)
  | (with_reducible refine g_if ?_)
  | ((with_reducible refine' g_aug ?gv ?_); (case gv => exact rfl))
  | (with_reducible refine g_ipI ?_)
  | (with_reducible refine g_test ?_)
  | (with_reducible refine g_tB ?_)
  | (with_reducible refine g_kB ?_)
  | (with_reducible refine g_not ?_)
  | (with_reducible refine g_and ?_)
  | (with_reducible refine g_or ?_)
  | (with_reducible refine g_andV ?_)
  | (with_reducible refine g_orV ?_)
  | (with_reducible refine g_notV ?_)
  | (with_reducible refine g_ifE ?_)
  | (with_reducible refine g_addI ?_)
  | (with_reducible refine g_rI0 ?_)
  | (with_reducible refine g_eqI ?_)
  | (with_reducible refine g_eqS ?_)
  | (with_reducible refine g_neI ?_)
  | (with_reducible refine g_neS ?_)
  | (with_reducible refine g_isN ?_)
  | (with_reducible refine g_notN ?_)
  | (with_reducible refine g_int ?_)
  | (with_reducible refine g_max2 ?_)
  | (with_reducible refine g_min2 ?_)
  | ((with_reducible refine' g_lenL ?gh ?_); (case gh => walk_at "h"))
  | (with_reducible refine g_sub ?_)
  | (with_reducible refine g_gcons ?_)
  | (with_reducible refine g_gnil ?_)
  | (with_reducible refine g_un ?_)
  | (with_reducible refine g_rU ?_)
  | (with_reducible refine g_forL ?_)
  | (with_reducible refine g_forS ?_)
  | (with_reducible refine g_forR1 ?_)
  | (with_reducible refine g_forR2 ?_)
  | (with_reducible refine g_forR3 ?_)
  | (with_reducible refine g_lcL ?_)
  | (with_reducible refine g_lcR1 ?_)
  | (with_reducible refine g_lcR2 ?_)
  | (with_reducible refine g_slice ?_)
  | (with_reducible refine g_part ?_)
  | (with_reducible refine g_kOI ?_)
  | (with_reducible refine g_nopart ?_)
  | (with_reducible refine g_yes ?_)
  | ((with_reducible refine' g_wipe ?gv ?_); (case gv => exact rfl))
  | (with_reducible refine iteT ?_)
  | (with_reducible refine iteF ?_)
  | (with_reducible refine i_nf ?_)
  | (with_reducible refine i_nt ?_)
  | ((with_reducible refine' g_gtup ?gh ?gl ?_); (case gh => walk_at "h"); (case gl => exact rfl))
  | ((with_reducible refine' g_notinI ?gh ?_); (case gh => walk_at "h"))
  | ((with_reducible refine' g_inI ?gh ?_); (case gh => walk_at "h"))
  | ((with_reducible refine' g_kget2 ?gh ?_); (case gh => walk_at "h"))
  | ((with_reducible refine' g_kgotI ?gh ?_); (case gh => walk_at "h"))
  | (with_reducible refine g_tRev ?_)
  | (with_reducible refine g_neB ?_)
  | (with_reducible refine g_eqB ?_)
  | ((with_reducible refine' g_lenT ?gh ?_); (case gh => walk_at "h"))
  | (with_reducible refine g_star ?_)
  | ((with_reducible refine' g_kstarL ?gh ?_); (case gh => walk_at "h"))
  | ((with_reducible refine' g_kstarT ?gh ?_); (case gh => walk_at "h"))
  | (with_reducible refine g_tru ?_)
  | ((with_reducible refine' g_truL ?gh ?_); (case gh => walk_at "h"))
  | (with_reducible refine g_get2 ?_)
  | (with_reducible refine g_try ?_)
  | (with_reducible refine g_fld ?_)
  | (with_reducible refine g_sfld ?_)
  | (with_reducible refine g_meth ?_)
  | (with_reducible refine g_make ?_)
  | (with_reducible refine g_del ?_)
  | (with_reducible refine g_callS ?_)
  | (with_reducible refine g_raise ?_)
  | (with_reducible refine g_xf ?_)
  | (with_reducible refine g_m0 ?_)
  | (with_reducible refine g_km0 ?_)
  | walk_at "is")
local macro_rules | `(tactic| walk_at "gg") => `(tactic| repeat walk_at "g")
local macro_rules | `(tactic| walk_at "sz") => `(tactic| (refine sz ?_; simp only [List.length_cons, List.length_nil, List.length_map, List.length_append, List.length_replicate]; omega))
local macro_rules | `(tactic| walk_at "sub") => `(tactic| ((repeat (first | exact List.Sublist.slnil | with_reducible apply List.Sublist.cons_cons | with_reducible apply List.Sublist.cons)); done))

/-! ### texts chosen -/
section
variable {P : Program} {w : World} {K : PySem.W.Frag} {mg : Str → Option Value} {base : Heap}
theorem g_neX {K : PySem.W.Frag} {H : Hp} {Q : VK} {x y : V} {a b : Option Tx} (hx : Dq H x (oxD a)) (hy : Dq H y (oxD b)) (oa : okO a) (ob : okO b) (q : Q (.bl (!decide (a = b))) H) : rNeA K x y H Q := by
  refine g_neD hx hy ((sh_oxD oa).ok (by decide)) ((sh_oxD ob).ok (by decide)) ?_
  rw [eqv_oxD]
  exact q
theorem g_eqX {K : PySem.W.Frag} {H : Hp} {Q : VK} {x y : V} {a b : Option Tx} (hx : Dq H x (oxD a)) (hy : Dq H y (oxD b)) (oa : okO a) (ob : okO b) (q : Q (.bl (decide (a = b))) H) : rEqA K x y H Q := by
  refine g_eqD hx hy ((sh_oxD oa).ok (by decide)) ((sh_oxD ob).ok (by decide)) ?_
  rw [eqv_oxD]
  exact q
theorem g_eqXL {K : PySem.W.Frag} {H : Hp} {Q : VK} {a b : Addr} {ws ws' : List V} {xs ys : List (Option Tx)} (ha : H a = some (.lst ws)) (hb : H b = some (.lst ws')) (da : DqAll H ws (xs.map oxD)) (db : DqAll H ws' (ys.map oxD)) (oa : ∀ o ∈ xs, okO o) (ob : ∀ o ∈ ys, okO o) (q : Q (.bl (decide (xs = ys))) H) : rEqA K (.ref a) (.ref b) H Q := by
  refine g_eqD (.lst ha da) (.lst hb db) ((shL_oxD oa).ok (by decide)) ((shL_oxD ob).ok (by decide)) ?_
  rw [eqv_oxL]
  exact q
theorem g_neXL {K : PySem.W.Frag} {H : Hp} {Q : VK} {a b : Addr} {ws ws' : List V} {xs ys : List (Option Tx)} (ha : H a = some (.lst ws)) (hb : H b = some (.lst ws')) (da : DqAll H ws (xs.map oxD)) (db : DqAll H ws' (ys.map oxD)) (oa : ∀ o ∈ xs, okO o) (ob : ∀ o ∈ ys, okO o) (q : Q (.bl (!decide (xs = ys))) H) : rNeA K (.ref a) (.ref b) H Q := by
  refine g_neD (.lst ha da) (.lst hb db) ((shL_oxD oa).ok (by decide)) ((shL_oxD ob).ok (by decide)) ?_
  rw [eqv_oxL]
  exact q
theorem g_notinX {K : PySem.W.Frag} {H : Hp} {Q : VK} {x : V} {a : Option Tx} {b : Addr} {ws : List V} {xs : List (Option Tx)} (hx : Dq H x (oxD a)) (hb : H b = some (.lst ws)) (db : DqAll H ws (xs.map oxD)) (oa : okO a) (ob : ∀ o ∈ xs, okO o) (q : Q (.bl (!decide (a ∈ xs))) H) : rNotInA K x (.ref b) H Q := by
  refine .inr (.inr ⟨oxD a, xs.map oxD, hx.dp K _ _, Dp.lst (SqL.of hb) (db.dp K _ _), (sh_oxD oa).ok (by decide), (shL_oxD ob).ok (by decide), ?_⟩)
  rw [any_oxD]
  exact q
theorem dq_frz {F H : Hp} {O : Own} (h : Has F O H) {v : V} {d : PyData} (q : Dq F v d) : Dq H v d := q.up h.same _ _
def sp_other_values (K : PySem.W.Frag) : Sp := fun vs H Q _ => ∃ (bv : V) (l : Addr) (ws : List V) (b : Option Tx) (ts : List (Option Tx)), vs = [bv, .ref l] ∧ Dq H bv (oxD b) ∧ H l = some (.lst ws) ∧ DqAll H ws (ts.map oxD) ∧ ts.length ≤ 1000 ∧ okO b ∧ (∀ o ∈ ts, okO o) ∧
  ∀ p H' ws', Same H H' → H p = none → H' p = some (.lst ws') → DqAll H' ws' ((oth b ts).map oxD) → Q (.ref p) H'
theorem sp_other_values_len {vs H Q E} (h : sp_other_values K vs H Q E) : vs.length = 2 := by
  obtain ⟨_, _, _, _, _, rfl, _⟩ := h
  rfl
theorem ok_other_values (T : Txt K mg) : FnOk P w K mg base CX0 1 T.f_other_values T.fd_other_values ["base", "texts"] (sp_other_values K) := by
  refine T.F_other_values.ok sc_other_values (fun vs H Q E h => sp_other_values_len h) (fun cdv A outer s H vs Q E hr h => ?_)
  refine ⟨_, (pss_cons (ps_set (i := 2) sc_other_values.nd rfl (.inl rfl) (pe_lst pa_nil))
      (pss_cons (ps_for PassesOwn.never rfl (k_il K (pi_list (pv 1))) (pg_name (i := 3) sc_other_values.nd rfl (.inl rfl)) (pss_cons (ps_if (pt_cmpR (op_eqK K hr.units) (pv 3) (pv 0) (nomark _)) (pss_one ps_continue) pss_nil)
      (pss_one (ps_if (pt_cmpR (op_notinN K P w hr.units (u65 hr)) (pv 3) (pv 2) (by rfl)) (pss_one (ps_expr (k_bm K (pe_bm PySem.F.plainAttrs_list PySem.F.slot_list_append PySem.F.type_list_append mt_append (pv 2) (pa_cons (pv 3) pa_nil))))) pss_nil))))
      (pss_one (ps_ret (pv 2))))), ?_⟩
  obtain ⟨bv, l, ws, b, ts, rfl, db, hl, dq, few, okb, okt, q⟩ := h
  have hH := Has.start H
  have lw := dq.len
  rw [List.length_map] at lw
  refine g_start (σ' := [some (bv), some (.ref l), none, none]) rfl ?_
  walk_at "gg"
  refine g_klst (by walk_at "sz") hH (fun p H1 n1 h1 => ?_)
  walk_at "gg"
  refine k_forL (h1.same _ _ hl) (fun t σ H' => ∃ (ws' : List V) (y3 : Option V), σ = [some bv, some (.ref l), some (.ref p), y3] ∧ Has H [(p, .lst ws')] H' ∧ DqAll H ws' ((oth b (ts.take t)).map oxD)) ⟨[], _, rfl, h1, .nil⟩ ?_ ?_ ?_
  · rintro t σ H' _ ⟨ws', y3, rfl, h, _⟩
    exact h.same _ _ hl
  · rintro t v σ H2 hv ⟨ws', y3, rfl, h2, dq'⟩
    obtain ⟨d, ed, dv⟩ := dq.get hv
    rw [List.getElem?_map] at ed
    obtain ⟨o, eo, rfl⟩ := Option.map_eq_some_iff.mp ed
    have oko := okt o (List.mem_of_getElem? eo)
    have lo := oth_len b (ts.take t)
    have lw' := dq'.len
    rw [List.length_map] at lw'
    rw [List.length_take] at lo
    have step := oth_step (base := b) eo
    walk_at "gg"
    refine g_eqX (dq_frz h2 dv) (dq_frz h2 db) oko okb ?_
    walk_at "gg"
    refine i_d (fun e => ?_) (fun ne => ?_)
    · walk_at "gg"
      refine ⟨ws', _, rfl, h2, ?_⟩
      rw [step, if_pos e]
      exact dq'
    · walk_at "gg"
      rw [if_neg ne] at step
      refine g_notinNM (g_notinM (g_notinX (dq_frz h2 dv) (h2.get (List.Mem.head _)) (dq'.up h2.same _ _) oko (fun x hx => ?_) ?_))
      · exact okt x (List.mem_of_mem_take (oth_mem.mp hx).1)
      walk_at "gg"
      refine i_n (fun nm => ?_) (fun m => ?_)
      · walk_at "gg"
        refine g_append h2 .hd (szl (by omega)) (fun H3 h3 => ?_)
        walk_at "gg"
        refine ⟨ws' ++ [v], _, rfl, h3, ?_⟩
        rw [step, if_neg nm, List.map_append]
        exact dq'.snoc dv
      · walk_at "gg"
        refine ⟨ws', _, rfl, h2, ?_⟩
        rw [step, if_pos m]
        exact dq'
  · rintro σ H2 ⟨ws', y3, rfl, h2, dq'⟩
    rw [lw, List.take_length] at dq'
    walk_at "gg"
    exact q p H2 ws' h2.same n1 (h2.get (List.Mem.head _)) (dq'.up h2.same _ _)
def sp_chosen_text (K : PySem.W.Frag) : Sp := fun vs H Q _ => ∃ (bv : V) (l : Addr) (ws : List V) (b : Option Tx) (ts : List (Option Tx)), vs = [bv, .ref l] ∧ Dq H bv (oxD b) ∧ H l = some (.lst ws) ∧ DqAll H ws (ts.map oxD) ∧ ts.length ≤ 1000 ∧ okO b ∧ (∀ o ∈ ts, okO o) ∧
  ∀ v H', Same H H' → Fr H H' v (cho b ts) → Q v H'
theorem sp_chosen_text_len {vs H Q E} (h : sp_chosen_text K vs H Q E) : vs.length = 2 := by
  obtain ⟨_, _, _, _, _, rfl, _⟩ := h
  rfl
theorem ok_chosen_text (T : Txt K mg) : FnOk P w K mg base CX0 2 T.f_chosen_text T.fd_chosen_text ["base", "texts"] (sp_chosen_text K) := by
  refine T.F_chosen_text.ok sc_chosen_text (fun vs H Q E h => sp_chosen_text_len h) (fun cdv A outer s H vs Q E hr h => ?_)
  refine ⟨_, (pss_cons (ps_set (i := 2) sc_chosen_text.nd rfl (.inl rfl) (pv 0))
      (pss_cons (ps_set (i := 3) sc_chosen_text.nd rfl (.inl rfl) (pe_call (ok_other_values T) (hr.mono (by decide)) (by rfl) T.g_other_values T.F_other_values.kp T.b_other_values .nil pass0 (pa_cons (pv 0) (pa_cons (pv 1) pa_nil))))
      (pss_cons (ps_if (pt_cmpR (op_eqK K hr.units) (pe_callB (cr_lenK K) (by rfl) T.m_len (by decide +kernel) (pa_cons (pv 3) pa_nil)) pe_int (nomark _)) (pss_one (ps_set (i := 2) sc_chosen_text.nd rfl (.inl rfl) (pe_ix (ix_K K (hu_of hr)) (pv 3) pe_int (fun _ _ => rfl)))) pss_nil)
      (pss_cons (ps_if (pt_cmpR op_isNA (pv 2) pe_non (nomark _)) (pss_one (ps_ret pe_non)) pss_nil)
      (pss_one (ps_ret (pe_callTy (cr_listK K) (by rfl) T.m_list (by decide +kernel) (pa_cons (pv 2) pa_nil)))))))), ?_⟩
  obtain ⟨bv, l, ws, b, ts, rfl, db, hl, dq, few, okb, okt, q⟩ := h
  refine g_start (σ' := [some (bv), some (.ref l), none, none]) rfl ?_
  walk_at "gg"
  refine ⟨bv, l, ws, b, ts, rfl, db, hl, dq, few, okb, okt, fun p H1 ws' s1 n1 hp dq' => ?_⟩
  have hH1 := Has.start H1
  have lw' := dq'.len
  rw [List.length_map] at lw'
  walk_at "gg"
  have fin : ∀ (v : V) (o : Option Tx), Dq H1 v (oxD o) → o = cho b ts → (if decide (v = V.non) = true then tRet (tC V.non) { nx := tRet (tCB (rListOf K) (tCons (tVar 2) tNil)) { nx := fun x H' => Q V.non H', rt := Q }, rt := Q } [some bv, some (.ref l), some v, some (.ref p)] H1
      else tNext { nx := tRet (tCB (rListOf K) (tCons (tVar 2) tNil)) { nx := fun x H' => Q V.non H', rt := Q }, rt := Q } [some bv, some (.ref l), some v, some (.ref p)] H1) := fun v o dv e => by
    subst e
    cases e : cho b ts with
    | none =>
      rw [e] at dv
      have := dv.non_inv
      subst this
      refine i_d (fun _ => ?_) (fun c => (c rfl).elim)
      walk_at "gg"
      exact q .non H1 s1 (.inl ⟨rfl, e⟩)
    | some t =>
      rw [e] at dv
      obtain ⟨a, rfl, ha⟩ := Dq.of_strs (xs := t) dv
      refine i_d (fun c => by cases c) (fun _ => ?_)
      walk_at "gg"
      refine g_listL ha hH1 (fun p2 H2 n2 h2 => ?_)
      exact q (.ref p2) H2 (s1.trans h2.same) (.inr ⟨p2, t, rfl, e, s1.free n2, h2.get (List.Mem.head _)⟩)
  refine i_d (fun e => ?_) (fun ne => ?_)
  · have e1 : (oth b ts).length = 1 := by omega
    obtain ⟨o, eo⟩ := List.length_eq_one_iff.mp e1
    rw [eo] at dq'
    cases dq' with
    | @cons v vs _ _ dv dvs =>
    walk_at "gg"
    refine g_ixL (v := v) hp (atI_nat (j := 0) rfl) ?_
    walk_at "gg"
    refine fin v o dv ?_
    unfold cho
    rw [if_pos e1, eo]
    rfl
  · have ne1 : (oth b ts).length ≠ 1 := fun e => ne (by omega)
    walk_at "gg"
    refine fin bv b (db.up s1 _ _) ?_
    unfold cho
    rw [if_neg ne1]
end

end K08

namespace K08
open PySem PySem.Spec PyProof.Rows L2 Qk
local macro_rules | `(tactic| walk_at "m") => `(tactic| ((repeat (first | exact List.Mem.head _ | apply List.Mem.tail)); done))
local macro_rules | `(tactic| walk_at "h") => `(tactic| first | assumption | exact Has.gF (by assumption) (by assumption) | exact Has.get (by assumption) (by walk_at "m"))
local macro_rules | `(tactic| walk_at "c") => `(tactic| ((repeat (first | exact Chg.hd | apply Chg.tl)); done))
local macro_rules | `(tactic| walk_at "is") => `(tactic| first
  | ((with_reducible refine' is2_non ?gh ?_); (case gh => walk_at "h"))
  | (with_reducible refine is_int_list ?_)
  | (with_reducible refine is_int_tuple ?_)
  | (with_reducible refine is_int_dict ?_)
  | (with_reducible refine is_int_int ?_)
  | (with_reducible refine is_int_bool ?_)
  | (with_reducible refine is_int_str ?_)
  | ((with_reducible refine' is2_int ?gh ?_); (case gh => walk_at "h"))
  | (with_reducible refine is_str_list ?_)
  | (with_reducible refine is_str_tuple ?_)
  | (with_reducible refine is_str_dict ?_)
  | (with_reducible refine is_str_int ?_)
  | (with_reducible refine is_str_bool ?_)
  | (with_reducible refine is_str_str ?_)
  | ((with_reducible refine' is2_str ?gh ?_); (case gh => walk_at "h"))
  | (with_reducible refine is_bool_list ?_)
  | (with_reducible refine is_bool_tuple ?_)
  | (with_reducible refine is_bool_dict ?_)
  | (with_reducible refine is_bool_int ?_)
  | (with_reducible refine is_bool_bool ?_)
  | (with_reducible refine is_bool_str ?_)
  | ((with_reducible refine' is2_bool ?gh ?_); (case gh => walk_at "h"))
  | ((with_reducible refine' is_list_list ?gh ?_); (case gh => walk_at "h"))
  | ((with_reducible refine' is_list_tuple ?gh ?_); (case gh => walk_at "h"))
  | ((with_reducible refine' is_list_dict ?gh ?_); (case gh => walk_at "h"))
  | ((with_reducible refine' is_list_int ?gh ?_); (case gh => walk_at "h"))
  | ((with_reducible refine' is_list_bool ?gh ?_); (case gh => walk_at "h"))
  | ((with_reducible refine' is_list_str ?gh ?_); (case gh => walk_at "h"))
  | ((with_reducible refine' is2_list ?ga ?gb ?_); (case ga => walk_at "h"); (case gb => walk_at "h"))
  | ((with_reducible refine' is_tuple_list ?gh ?_); (case gh => walk_at "h"))
  | ((with_reducible refine' is_tuple_tuple ?gh ?_); (case gh => walk_at "h"))
  | ((with_reducible refine' is_tuple_dict ?gh ?_); (case gh => walk_at "h"))
  | ((with_reducible refine' is_tuple_int ?gh ?_); (case gh => walk_at "h"))
  | ((with_reducible refine' is_tuple_bool ?gh ?_); (case gh => walk_at "h"))
  | ((with_reducible refine' is_tuple_str ?gh ?_); (case gh => walk_at "h"))
  | ((with_reducible refine' is2_tuple ?ga ?gb ?_); (case ga => walk_at "h"); (case gb => walk_at "h"))
  | ((with_reducible refine' is_dict_list ?gh ?_); (case gh => walk_at "h"))
  | ((with_reducible refine' is_dict_tuple ?gh ?_); (case gh => walk_at "h"))
  | ((with_reducible refine' is_dict_dict ?gh ?_); (case gh => walk_at "h"))
  | ((with_reducible refine' is_dict_int ?gh ?_); (case gh => walk_at "h"))
  | ((with_reducible refine' is_dict_bool ?gh ?_); (case gh => walk_at "h"))
  | ((with_reducible refine' is_dict_str ?gh ?_); (case gh => walk_at "h"))
  | ((with_reducible refine' is2_dict ?ga ?gb ?_); (case ga => walk_at "h"); (case gb => walk_at "h")))
local macro_rules | `(tactic| walk_at "g") => `(tactic| first
  | (with_reducible refine g_seq ?_)
  | (with_reducible refine g_asg ?_)
  | ((with_reducible refine g_name ?_); dsimp only [List.set, wipe, List.map])
  | ((with_reducible refine' g_var ?gv ?_); (case gv => exact rfl))
  | (with_reducible refine g_c ?_)
  | (with_reducible refine g_op ?_)
  | (with_reducible refine g_cons ?_)
  | (with_reducible refine g_nil ?_)
  | (with_reducible refine g_cb ?_)
  | (with_reducible refine g_call ?_)
  | (with_reducible refine g_tup ?_)
  | (with_reducible refine g_lst ?_)
  | (with_reducible refine g_bm ?_)
  | (with_reducible refine g_bm0 ?_)
  | ((with_reducible refine' g_kbm ?gh ?_); (case gh => walk_at "h"))
  | (with_reducible refine g_drop ?_)
  | (with_reducible refine g_ret ?_)
  | (with_reducible refine g_retN ?_)
  | (with_reducible refine g_next ?_)
  | (with_reducible refine g_brk ?_)
  | (with_reducible refine g_cont ?_)
  | (with_reducible refine g_if ?_)
  | ((with_reducible refine' g_aug ?gv ?_); (case gv => exact rfl))
  | (with_reducible refine g_ipI ?_)
  | (with_reducible refine g_test ?_)
  | (with_reducible refine g_tB ?_)
  | (with_reducible refine g_kB ?_)
  | (with_reducible refine g_not ?_)
  | (with_reducible refine g_and ?_)
  | (with_reducible refine g_or ?_)
  | (with_reducible refine g_andV ?_)
  | (with_reducible refine g_orV ?_)
  | (with_reducible refine g_notV ?_)
  | (with_reducible refine g_ifE ?_)
  | (with_reducible refine g_addI ?_)
  | (with_reducible refine g_rI0 ?_)
  | (with_reducible refine g_eqI ?_)
  | (with_reducible refine g_eqS ?_)
  | (with_reducible refine g_neI ?_)
  | (with_reducible refine g_neS ?_)
  | (with_reducible refine g_isN ?_)
  | (with_reducible refine g_notN ?_)
  | (with_reducible refine g_int ?_)
  | (with_reducible refine g_max2 ?_)
  | (with_reducible refine g_min2 ?_)
  | ((with_reducible refine' g_lenL ?gh ?_); (case gh => walk_at "h"))
  | (with_reducible refine g_sub ?_)
  | (with_reducible refine g_gcons ?_)
  | (with_reducible refine g_gnil ?_)
  | (with_reducible refine g_un ?_)
  | (with_reducible refine g_rU ?_)
  | (with_reducible refine g_forL ?_)
  | (with_reducible refine g_forS ?_)
  | (with_reducible refine g_forR1 ?_)
  | (with_reducible refine g_forR2 ?_)
  | (with_reducible refine g_forR3 ?_)
  | (with_reducible refine g_lcL ?_)
  | (with_reducible refine g_lcR1 ?_)
  | (with_reducible refine g_lcR2 ?_)
  | (with_reducible refine g_slice ?_)
  | (with_reducible refine g_part ?_)
  | (with_reducible refine g_kOI ?_)
  | (with_reducible refine g_nopart ?_)
  | (with_reducible refine g_yes ?_)
  | ((with_reducible refine' g_wipe ?gv ?_); (case gv => exact rfl))
  | (with_reducible refine iteT ?_)
  | (with_reducible refine iteF ?_)
  | (with_reducible refine i_nf ?_)
  | (with_reducible refine i_nt ?_)
  | ((with_reducible refine' g_gtup ?gh ?gl ?_); (case gh => walk_at "h"); (case gl => exact rfl))
  | ((with_reducible refine' g_notinI ?gh ?_); (case gh => walk_at "h"))
  | ((with_reducible refine' g_inI ?gh ?_); (case gh => walk_at "h"))
  | ((with_reducible refine' g_kget2 ?gh ?_); (case gh => walk_at "h"))
  | ((with_reducible refine' g_kgotI ?gh ?_); (case gh => walk_at "h"))
  | (with_reducible refine g_tRev ?_)
  | (with_reducible refine g_neB ?_)
  | (with_reducible refine g_eqB ?_)
  | ((with_reducible refine' g_lenT ?gh ?_); (case gh => walk_at "h"))
  | (with_reducible refine g_star ?_)
  | ((with_reducible refine' g_kstarL ?gh ?_); (case gh => walk_at "h"))
  | ((with_reducible refine' g_kstarT ?gh ?_); (case gh => walk_at "h"))
  | (with_reducible refine g_tru ?_)
  | ((with_reducible refine' g_truL ?gh ?_); (case gh => walk_at "h"))
  | (with_reducible refine g_get2 ?_)
  | (with_reducible refine g_try ?_)
  | (with_reducible refine g_fld ?_)
  | (with_reducible refine g_sfld ?_)
  | (with_reducible refine g_meth ?_)
  | (with_reducible refine g_make ?_)
  | (with_reducible refine g_del ?_)
  | (with_reducible refine g_callS ?_)
  | (with_reducible refine g_raise ?_)
  | (with_reducible refine g_xf ?_)
  | (with_reducible refine g_m0 ?_)
  | (with_reducible refine g_km0 ?_)
  | walk_at "is")
local macro_rules | `(tactic| walk_at "gg") => `(tactic| repeat walk_at "g")
local macro_rules | `(tactic| walk_at "sz") => `(tactic| (refine sz ?_; simp only [List.length_cons, List.length_nil, List.length_map, List.length_append, List.length_replicate]; omega))
local macro_rules | `(tactic| walk_at "sub") => `(tactic| ((repeat (first | exact List.Sublist.slnil | with_reducible apply List.Sublist.cons_cons | with_reducible apply List.Sublist.cons)); done))

/-! ### values chosen by the law -/
theorem Sm.ox {H : Hp} {n : Nat} {x y : V} {o : Option Tx} (hx : Dq H x (oxD o)) (hy : Dq H y (oxD o)) (l : lnO o) : Sm H (n + 2) x y := by
  cases o with
  | none =>
    rw [hx.non_inv, hy.non_inv]
    exact Sm.non
  | some t =>
    obtain ⟨a, rfl, ha⟩ := Dq.of_strs (xs := t) hx
    obtain ⟨b, rfl, hb⟩ := Dq.of_strs (xs := t) hy
    exact Sm.strs ha hb (by have := l t rfl; omega)
section
variable {P : Program} {w : World} {K : PySem.W.Frag} {mg : Str → Option Value} {base : Heap}
def sp_l_value (K : PySem.W.Frag) : Sp := fun vs H Q _ => ∃ (v : V) (o : Option Tx), vs = [v] ∧ Dq H v (oxD o) ∧ ∀ v' H', Same H H' → Fr H H' v' o → Q v' H'
theorem sp_l_value_len {vs H Q E} (h : sp_l_value K vs H Q E) : vs.length = 1 := by
  obtain ⟨_, _, rfl, _⟩ := h
  rfl
theorem ok_l_value (T : Txt K mg) : FnOk P w K mg base CX0 1 T.f_l_value T.fd_l_value ["text"] (sp_l_value K) := by
  refine T.F_l_value.ok sc_l_value (fun vs H Q E h => sp_l_value_len h) (fun cdv A outer s H vs Q E hr h => ?_)
  refine ⟨_, (pss_cons (ps_if (pt_cmpR op_isNA (pv 0) pe_non (nomark _)) (pss_one (ps_ret pe_non)) pss_nil)
      (pss_one (ps_ret (pe_callTy (cr_listK K) (by rfl) T.m_list (by decide +kernel) (pa_cons (pv 0) pa_nil))))), ?_⟩
  obtain ⟨v, o, rfl, dv, q⟩ := h
  have hH := Has.start H
  refine g_start (σ' := [some (v)]) rfl ?_
  walk_at "gg"
  cases o with
  | none =>
    have e := dv.non_inv
    subst e
    refine i_d (fun _ => ?_) (fun c => (c rfl).elim)
    walk_at "gg"
    exact q .non H (Same.refl _) (.inl ⟨rfl, rfl⟩)
  | some t =>
    obtain ⟨a, rfl, ha⟩ := Dq.of_strs (xs := t) dv
    refine i_d (fun c => by cases c) (fun _ => ?_)
    walk_at "gg"
    refine g_listL ha hH (fun p H1 n1 h1 => ?_)
    exact q (.ref p) H1 h1.same (.inr ⟨p, t, rfl, rfl, n1, h1.get (List.Mem.head _)⟩)
def sp_l_chosen (K : PySem.W.Frag) : Sp := fun vs H Q _ => ∃ (bv : V) (l : Addr) (ws : List V) (b : Option Tx) (ts : List (Option Tx)) (F : Hp), vs = [bv, .ref l] ∧ Same F H ∧ Dq F bv (oxD b) ∧ H l = some (.lst ws) ∧ DqAll F ws (ts.map oxD) ∧ ts.length ≤ 1000 ∧ okO b ∧ (∀ o ∈ ts, okO o) ∧
  ∀ v H', Same H H' → Dq F v (oxD (cho b ts)) → Q v H'
theorem sp_l_chosen_len {vs H Q E} (h : sp_l_chosen K vs H Q E) : vs.length = 2 := by
  obtain ⟨_, _, _, _, _, _, rfl, _⟩ := h
  rfl
theorem ok_l_chosen (T : Txt K mg) : FnOk P w K mg base CX0 1 T.f_l_chosen T.fd_l_chosen ["base", "values"] (sp_l_chosen K) := by
  refine T.F_l_chosen.ok sc_l_chosen (fun vs H Q E h => sp_l_chosen_len h) (fun cdv A outer s H vs Q E hr h => ?_)
  refine ⟨_, (pss_cons (ps_set (i := 2) sc_l_chosen.nd rfl (.inl rfl) (pe_lst pa_nil))
      (pss_cons (ps_for PassesOwn.never rfl (k_il K (pi_list (pv 1))) (pg_name (i := 3) sc_l_chosen.nd rfl (.inl rfl)) (pss_one (ps_if (PW.pt (pw_and (pt_cmpR (op_neK K hr.units) (pv 3) (pv 0) (nomark _)) (pw_and1 (pt_cmpR (op_notinN K P w hr.units (u65 hr)) (pv 3) (pv 2) (by rfl))))) (pss_one (ps_expr (k_bm K (pe_bm PySem.F.plainAttrs_list PySem.F.slot_list_append PySem.F.type_list_append mt_append (pv 2) (pa_cons (pv 3) pa_nil))))) pss_nil)))
      (pss_cons (ps_if (pt_cmpR (op_eqK K hr.units) (pe_callB (cr_lenK K) (by rfl) T.m_len (by decide +kernel) (pa_cons (pv 2) pa_nil)) pe_int (nomark _)) (pss_one (ps_ret (pe_ix (ix_K K (hu_of hr)) (pv 2) pe_int (fun _ _ => rfl)))) pss_nil)
      (pss_one (ps_ret (pv 0)))))), ?_⟩
  obtain ⟨bv, l, ws, b, ts, F, rfl, sF, db, hl, dq, few, okb, okt, q⟩ := h
  have hH := Has.start H
  have lw := dq.len
  rw [List.length_map] at lw
  refine g_start (σ' := [some (bv), some (.ref l), none, none]) rfl ?_
  walk_at "gg"
  refine g_klst (by walk_at "sz") hH (fun p H1 n1 h1 => ?_)
  walk_at "gg"
  refine k_forL (h1.same _ _ hl) (fun t σ H' => ∃ (ws' : List V) (y3 : Option V), σ = [some bv, some (.ref l), some (.ref p), y3] ∧ Has H [(p, .lst ws')] H' ∧ DqAll F ws' ((oth b (ts.take t)).map oxD)) ⟨[], _, rfl, h1, .nil⟩ ?_ ?_ ?_
  · rintro t σ H' _ ⟨ws', y3, rfl, h, _⟩
    exact h.same _ _ hl
  · rintro t v σ H2 hv ⟨ws', y3, rfl, h2, dq'⟩
    obtain ⟨d, ed, dv⟩ := dq.get hv
    rw [List.getElem?_map] at ed
    obtain ⟨o, eo, rfl⟩ := Option.map_eq_some_iff.mp ed
    have oko := okt o (List.mem_of_getElem? eo)
    have lo := oth_len b (ts.take t)
    have lw' := dq'.len
    rw [List.length_map] at lw'
    rw [List.length_take] at lo
    have step := oth_step (base := b) eo
    walk_at "gg"
    refine g_neX (dq_frz (h2.mono sF) dv) (dq_frz (h2.mono sF) db) oko okb ?_
    walk_at "gg"
    refine i_n (fun ne => ?_) (fun e => ?_)
    · rw [if_neg ne] at step
      walk_at "gg"
      refine g_notinNM (g_notinM (g_notinX (dq_frz (h2.mono sF) dv) (h2.get (List.Mem.head _)) (dq'.up (h2.mono sF).same _ _) oko (fun x hx => ?_) ?_))
      · exact okt x (List.mem_of_mem_take (oth_mem.mp hx).1)
      walk_at "gg"
      refine i_n (fun nm => ?_) (fun m => ?_)
      · walk_at "gg"
        refine g_append h2 .hd (szl (by omega)) (fun H3 h3 => ?_)
        walk_at "gg"
        refine ⟨ws' ++ [v], _, rfl, h3, ?_⟩
        rw [step, if_neg nm, List.map_append]
        exact dq'.snoc dv
      · walk_at "gg"
        refine ⟨ws', _, rfl, h2, ?_⟩
        rw [step, if_pos m]
        exact dq'
    · walk_at "gg"
      refine ⟨ws', _, rfl, h2, ?_⟩
      rw [step, if_pos e]
      exact dq'
  · rintro σ H2 ⟨ws', y3, rfl, h2, dq'⟩
    rw [lw, List.take_length] at dq'
    have lw' := dq'.len
    rw [List.length_map] at lw'
    walk_at "gg"
    refine i_d (fun e => ?_) (fun ne => ?_)
    · have e1 : (oth b ts).length = 1 := by omega
      obtain ⟨o, eo⟩ := List.length_eq_one_iff.mp e1
      have ec : cho b ts = o := by
        unfold cho
        rw [if_pos e1, eo]
        rfl
      rw [eo] at dq'
      cases dq' with
      | @cons v vs _ _ dv dvs =>
      walk_at "gg"
      refine g_ixL (v := v) (h2.get (List.Mem.head _)) (atI_nat (j := 0) rfl) ?_
      exact q v H2 h2.same (by rw [ec]; exact dv)
    · have ne1 : (oth b ts).length ≠ 1 := fun e => ne (by omega)
      have ec : cho b ts = b := by
        unfold cho
        rw [if_neg ne1]
      walk_at "gg"
      exact q bv H2 h2.same (by rw [ec]; exact db)
def sp_l_chooses (K : PySem.W.Frag) : Sp := fun vs H Q _ => ∃ (bv dv : V) (l : Addr) (ws : List V) (b : Option Tx) (ts : List (Option Tx)), vs = [bv, .ref l, dv] ∧ Dq H bv (oxD b) ∧ H l = some (.lst ws) ∧ DqAll H ws (ts.map oxD) ∧ ts.length ≤ 1000 ∧ okO b ∧ (∀ o ∈ ts, okO o) ∧ lnO b ∧ (∀ o ∈ ts, lnO o) ∧
  Dq H dv (oxD (cho b ts)) ∧ ∀ H', Same H H' → Q (.bl true) H'
theorem sp_l_chooses_len {vs H Q E} (h : sp_l_chooses K vs H Q E) : vs.length = 3 := by
  obtain ⟨_, _, _, _, _, _, rfl, _⟩ := h
  rfl
theorem ok_l_chooses (T : Txt K mg) : FnOk P w K mg base CX0 7 T.f_l_chooses T.fd_l_chooses ["base", "values", "due"] (sp_l_chooses K) := by
  refine T.F_l_chooses.ok sc_l_chooses (fun vs H Q E h => sp_l_chooses_len h) (fun cdv A outer s H vs Q E hr h => ?_)
  refine ⟨_, (pss_cons (ps_set (i := 3) sc_l_chooses.nd rfl (.inl rfl) (pe_call (ok_l_value T) (hr.mono (by decide)) (by rfl) T.g_l_value T.F_l_value.kp T.b_l_value .nil pass0 (pa_cons (pv 0) pa_nil)))
      (pss_cons (ps_setLc (i := 4) (own := [("value", 6)]) (g := gName 6) (tt := tYes) rfl sc_l_chooses.nd rfl rfl (sw_true rfl rfl rfl (by decide +kernel)) (k_il K (pi_list (pv 1))) (blkOk_by (N := n_l_chooses) (sc := defScope s_l_chooses) (by decide +kernel)) (fun _ _ _ _ _ => (pg_name (i := 6) sc_l_chooses.nd rfl (.inl rfl))) (fun _ _ _ _ _ => pts_nil) (fun _ _ _ _ _ => (pe_call (ok_l_value T) (hr.mono (by decide)) (by rfl) T.g_l_value T.F_l_value.kp T.b_l_value .nil pass0 (pa_cons (pv 6) pa_nil))))
      (pss_cons (ps_set (i := 5) sc_l_chooses.nd rfl (.inl rfl) (pe_call (ok_chosen_text T) (hr.mono (by decide)) (by rfl) T.g_chosen_text T.F_chosen_text.kp T.b_chosen_text .nil pass0 (pa_cons (pv 3) (pa_cons (pv 4) pa_nil))))
      (pss_cons (ps_if (PW.pt (pw_or (pt_not (pt_val (pe_call (ok_l_same T) (hr.mono (by decide)) (by rfl) T.g_l_same T.F_l_same.kp T.b_l_same .nil pass0 (pa_cons (pv 5) (pa_cons (pv 2) pa_nil))))) (pw_or (pt_cmpR (op_neK K hr.units) (pv 3) (pv 0) (nomark _)) (pw_or1 (pt_cmpR (op_neK K hr.units) (pv 4) (pv 1) (nomark _)))))) (pss_one (ps_ret pe_bl)) pss_nil)
      (pss_cons (ps_if (pt_cmpR op_notNA (pv 5) pe_non (nomark _)) (pss_one (ps_expr (k_bm K (pe_bm PySem.F.plainAttrs_list PySem.F.slot_list_append PySem.F.type_list_append mt_append (pv 5) (pa_cons pe_str pa_nil))))) pss_nil)
      (pss_one (ps_ret (pe_and (pe_cmpR (op_eqK K hr.units) (pv 3) (pv 0) (nomark _)) (pe_one (pe_cmpR (op_eqK K hr.units) (pv 4) (pv 1) (nomark _))))))))))), ?_⟩
  obtain ⟨bv, dv, l, ws, b, ts, rfl, db, hl, dq, few, okb, okt, lnb, lnt, dd, q⟩ := h
  have hH := Has.start H
  have lw := dq.len
  rw [List.length_map] at lw
  refine g_start (σ' := [some (bv), some (.ref l), some (dv), none, none, none, none]) rfl ?_
  walk_at "gg"
  refine ⟨bv, b, rfl, db, fun pv H1 s1 f1 => ?_⟩
  obtain ⟨F1, sF1, h1, dp⟩ := hH.fr s1 f1
  walk_at "gg"
  refine k_lcL (h1.same _ _ (sF1 _ _ hl)) h1 (fun i acc F' O' => DqAll F' acc ((ts.take i).map oxD) ∧ Same F1 F' ∧ O' = []) ⟨.nil, Same.refl _, rfl⟩ ?_ ?_ ?_
  · rintro i acc F' O' H' ⟨_, sF, rfl⟩ hh
    exact hh.same _ _ (sF _ _ (sF1 _ _ hl))
  · rintro i v acc F' O' D H2 hv ⟨da, sF, rfl⟩ hh
    obtain ⟨d, ed, dv'⟩ := dq.get hv
    rw [List.getElem?_map] at ed
    obtain ⟨o, eo, rfl⟩ := Option.map_eq_some_iff.mp ed
    have la := da.len
    rw [List.length_map, List.length_take] at la
    walk_at "gg"
    refine ⟨v, o, rfl, (dv'.up (sF1.trans sF) _ _).up hh.same _ _, fun v2 H3 s3 f3 => ?_⟩
    obtain ⟨F3, sF3, h3, d3⟩ := hh.fr s3 f3
    exact k_turn h3 (by omega) ⟨oxL_take (da.up sF3 _ _) eo d3, sF.trans sF3, rfl⟩
  rintro acc F2 O2 g H2 ⟨da, sF2, rfl⟩ h2
  rw [lw, List.take_length] at da
  have sF := sF1.trans sF2
  have hg := h2.get (List.Mem.head _)
  walk_at "gg"
  refine ⟨pv, g, acc, b, ts, rfl, (dp.up sF2 _ _).up h2.same _ _, hg, da.up h2.same _ _, few, okb, okt, fun tv H3 s3 f3 => ?_⟩
  have h3 := h2.on s3
  have sD : ∀ H' : Hp, Same F2 H' → Dq H' pv (oxD b) ∧ Dq H' bv (oxD b) ∧ DqAll H' acc (ts.map oxD) ∧ DqAll H' ws (ts.map oxD) := fun H' s => ⟨(dp.up sF2 _ _).up s _ _, (db.up sF _ _).up s _ _, da.up s _ _, (dq.up sF _ _).up s _ _⟩
  have smt : Sm H3 6 tv dv := by
    obtain ⟨F3, sF3, h3', d3⟩ := h2.fr s3 f3
    exact Sm.ox (d3.up h3'.same _ _) ((dd.up (sF.trans h2.same) _ _).up s3 _ _) (cho_all (Pr := lnO) lnb lnt)
  walk_at "gg"
  refine ⟨tv, dv, rfl, smt, fun H4 s4 => ?_⟩
  have h4 := h3.on s4
  obtain ⟨d1, d2, d3, d4⟩ := sD H4 h4.same
  walk_at "gg"
  refine g_neX d1 d2 okb okb ?_
  rw [decide_eq_true rfl]
  walk_at "gg"
  refine g_neXL (h4.get (List.Mem.head _)) (h4.same _ _ (sF _ _ hl)) d3 d4 okt okt ?_
  rw [decide_eq_true rfl]
  walk_at "gg"
  have fin : ∀ H5 : Hp, Has F2 [(g, .lst acc)] H5 → (tRet (tAndV (tOp (rEqA K) (tVar 3) (tVar 0)) (tOp (rEqA K) (tVar 4) (tVar 1))) { nx := fun x H' => Q V.non H', rt := Q } [some bv, some (.ref l), some dv, some pv, some (.ref g), some tv, none] H5) := fun H5 h5 => by
    obtain ⟨d1, d2, d3, d4⟩ := sD H5 h5.same
    walk_at "gg"
    refine g_eqX d1 d2 okb okb ?_
    rw [decide_eq_true rfl]
    walk_at "gg"
    refine g_eqXL (h5.get (List.Mem.head _)) (h5.same _ _ (sF _ _ hl)) d3 d4 okt okt ?_
    rw [decide_eq_true rfl]
    exact q H5 (sF.trans h5.same)
  rcases f3 with ⟨rfl, e⟩ | ⟨p, t, rfl, e, n3, hp⟩
  · refine i_n (fun c => (c rfl).elim) (fun _ => ?_)
    walk_at "g"
    exact fin H4 h4
  · refine i_n (fun _ => ?_) (fun c => by cases c)
    have h4' := (h2.made n3 s3 hp).on s4
    have lt := cho_all (Pr := lnO) lnb lnt t e
    walk_at "gg"
    refine g_append h4' .hd (szl (by rw [List.length_map]; omega)) (fun H5 h5 => ?_)
    walk_at "g"
    exact fin H5 h5.drop
end

end K08

namespace K08
open PySem PySem.Spec PyProof.Rows L2 Qk
local macro_rules | `(tactic| walk_at "m") => `(tactic| ((repeat (first | exact List.Mem.head _ | apply List.Mem.tail)); done))
local macro_rules | `(tactic| walk_at "h") => `(tactic| first | assumption | exact Has.gF (by assumption) (by assumption) | exact Has.get (by assumption) (by walk_at "m"))
local macro_rules | `(tactic| walk_at "c") => `(tactic| ((repeat (first | exact Chg.hd | apply Chg.tl)); done))
local macro_rules | `(tactic| walk_at "is") => `(tactic| first
  | ((with_reducible refine' is2_non ?gh ?_); (case gh => walk_at "h"))
  | (with_reducible refine is_int_list ?_)
  | (with_reducible refine is_int_tuple ?_)
  | (with_reducible refine is_int_dict ?_)
  | (with_reducible refine is_int_int ?_)
  | (with_reducible refine is_int_bool ?_)
  | (with_reducible refine is_int_str ?_)
  | ((with_reducible refine' is2_int ?gh ?_); (case gh => walk_at "h"))
  | (with_reducible refine is_str_list ?_)
  | (with_reducible refine is_str_tuple ?_)
  | (with_reducible refine is_str_dict ?_)
  | (with_reducible refine is_str_int ?_)
  | (with_reducible refine is_str_bool ?_)
  | (with_reducible refine is_str_str ?_)
  | ((with_reducible refine' is2_str ?gh ?_); (case gh => walk_at "h"))
  | (with_reducible refine is_bool_list ?_)
  | (with_reducible refine is_bool_tuple ?_)
  | (with_reducible refine is_bool_dict ?_)
  | (with_reducible refine is_bool_int ?_)
  | (with_reducible refine is_bool_bool ?_)
  | (with_reducible refine is_bool_str ?_)
  | ((with_reducible refine' is2_bool ?gh ?_); (case gh => walk_at "h"))
  | ((with_reducible refine' is_list_list ?gh ?_); (case gh => walk_at "h"))
  | ((with_reducible refine' is_list_tuple ?gh ?_); (case gh => walk_at "h"))
  | ((with_reducible refine' is_list_dict ?gh ?_); (case gh => walk_at "h"))
  | ((with_reducible refine' is_list_int ?gh ?_); (case gh => walk_at "h"))
  | ((with_reducible refine' is_list_bool ?gh ?_); (case gh => walk_at "h"))
  | ((with_reducible refine' is_list_str ?gh ?_); (case gh => walk_at "h"))
  | ((with_reducible refine' is2_list ?ga ?gb ?_); (case ga => walk_at "h"); (case gb => walk_at "h"))
  | ((with_reducible refine' is_tuple_list ?gh ?_); (case gh => walk_at "h"))
  | ((with_reducible refine' is_tuple_tuple ?gh ?_); (case gh => walk_at "h"))
  | ((with_reducible refine' is_tuple_dict ?gh ?_); (case gh => walk_at "h"))
  | ((with_reducible refine' is_tuple_int ?gh ?_); (case gh => walk_at "h"))
  | ((with_reducible refine' is_tuple_bool ?gh ?_); (case gh => walk_at "h"))
  | ((with_reducible refine' is_tuple_str ?gh ?_); (case gh => walk_at "h"))
  | ((with_reducible refine' is2_tuple ?ga ?gb ?_); (case ga => walk_at "h"); (case gb => walk_at "h"))
  | ((with_reducible refine' is_dict_list ?gh ?_); (case gh => walk_at "h"))
  | ((with_reducible refine' is_dict_tuple ?gh ?_); (case gh => walk_at "h"))
  | ((with_reducible refine' is_dict_dict ?gh ?_); (case gh => walk_at "h"))
  | ((with_reducible refine' is_dict_int ?gh ?_); (case gh => walk_at "h"))
  | ((with_reducible refine' is_dict_bool ?gh ?_); (case gh => walk_at "h"))
  | ((with_reducible refine' is_dict_str ?gh ?_); (case gh => walk_at "h"))
  | ((with_reducible refine' is2_dict ?ga ?gb ?_); (case ga => walk_at "h"); (case gb => walk_at "h")))
local macro_rules | `(tactic| walk_at "g") => `(tactic| first
  | (with_reducible refine g_seq ?_)
  | (with_reducible refine g_asg ?_)
  | ((with_reducible refine g_name ?_); dsimp only [List.set, wipe, List.map])
  | ((with_reducible refine' g_var ?gv ?_); (case gv => exact rfl))
  | (with_reducible refine g_c ?_)
  | (with_reducible refine g_op ?_)
  | (with_reducible refine g_cons ?_)
  | (with_reducible refine g_nil ?_)
  | (with_reducible refine g_cb ?_)
  | (with_reducible refine g_call ?_)
  | (with_reducible refine g_tup ?_)
  | (with_reducible refine g_lst ?_)
  | (with_reducible refine g_bm ?_)
  | (with_reducible refine g_bm0 ?_)
  | ((with_reducible refine' g_kbm ?gh ?_); (case gh => walk_at "h"))
  | (with_reducible refine g_drop ?_)
  | (with_reducible refine g_ret ?_)
  | (with_reducible refine g_retN ?_)
  | (with_reducible refine g_next ?_)
  | (with_reducible refine g_brk ?_)
  | (with_reducible refine g_cont ?_)
  | (with_reducible refine g_if ?_)
  | ((with_reducible refine' g_aug ?gv ?_); (case gv => exact rfl))
  | (with_reducible refine g_ipI ?_)
  | (with_reducible refine g_test ?_)
  | (with_reducible refine g_tB ?_)
  | (with_reducible refine g_kB ?_)
  | (with_reducible refine g_not ?_)
  | (with_reducible refine g_and ?_)
  | (with_reducible refine g_or ?_)
  | (with_reducible refine g_andV ?_)
  | (with_reducible refine g_orV ?_)
  | (with_reducible refine g_notV ?_)
  | (with_reducible refine g_ifE ?_)
  | (with_reducible refine g_addI ?_)
  | (with_reducible refine g_rI0 ?_)
  | (with_reducible refine g_eqI ?_)
  | (with_reducible refine g_eqS ?_)
  | (with_reducible refine g_neI ?_)
  | (with_reducible refine g_neS ?_)
  | (with_reducible refine g_isN ?_)
  | (with_reducible refine g_notN ?_)
  | (with_reducible refine g_int ?_)
  | (with_reducible refine g_max2 ?_)
  | (with_reducible refine g_min2 ?_)
  | ((with_reducible refine' g_lenL ?gh ?_); (case gh => walk_at "h"))
  | (with_reducible refine g_sub ?_)
  | (with_reducible refine g_gcons ?_)
  | (with_reducible refine g_gnil ?_)
  | (with_reducible refine g_un ?_)
  | (with_reducible refine g_rU ?_)
  | (with_reducible refine g_forL ?_)
  | (with_reducible refine g_forS ?_)
  | (with_reducible refine g_forR1 ?_)
  | (with_reducible refine g_forR2 ?_)
  | (with_reducible refine g_forR3 ?_)
  | (with_reducible refine g_lcL ?_)
  | (with_reducible refine g_lcR1 ?_)
  | (with_reducible refine g_lcR2 ?_)
  | (with_reducible refine g_slice ?_)
  | (with_reducible refine g_part ?_)
  | (with_reducible refine g_kOI ?_)
  | (with_reducible refine g_nopart ?_)
  | (with_reducible refine g_yes ?_)
  | ((with_reducible refine' g_wipe ?gv ?_); (case gv => exact rfl))
  | (with_reducible refine iteT ?_)
  | (with_reducible refine iteF ?_)
  | (with_reducible refine i_nf ?_)
  | (with_reducible refine i_nt ?_)
  | ((with_reducible refine' g_gtup ?gh ?gl ?_); (case gh => walk_at "h"); (case gl => exact rfl))
  | ((with_reducible refine' g_notinI ?gh ?_); (case gh => walk_at "h"))
  | ((with_reducible refine' g_inI ?gh ?_); (case gh => walk_at "h"))
  | ((with_reducible refine' g_kget2 ?gh ?_); (case gh => walk_at "h"))
  | ((with_reducible refine' g_kgotI ?gh ?_); (case gh => walk_at "h"))
  | (with_reducible refine g_tRev ?_)
  | (with_reducible refine g_neB ?_)
  | (with_reducible refine g_eqB ?_)
  | ((with_reducible refine' g_lenT ?gh ?_); (case gh => walk_at "h"))
  | (with_reducible refine g_star ?_)
  | ((with_reducible refine' g_kstarL ?gh ?_); (case gh => walk_at "h"))
  | ((with_reducible refine' g_kstarT ?gh ?_); (case gh => walk_at "h"))
  | (with_reducible refine g_tru ?_)
  | ((with_reducible refine' g_truL ?gh ?_); (case gh => walk_at "h"))
  | (with_reducible refine g_get2 ?_)
  | (with_reducible refine g_try ?_)
  | (with_reducible refine g_fld ?_)
  | (with_reducible refine g_sfld ?_)
  | (with_reducible refine g_meth ?_)
  | (with_reducible refine g_make ?_)
  | (with_reducible refine g_del ?_)
  | (with_reducible refine g_callS ?_)
  | (with_reducible refine g_raise ?_)
  | (with_reducible refine g_xf ?_)
  | (with_reducible refine g_m0 ?_)
  | (with_reducible refine g_km0 ?_)
  | walk_at "is")
local macro_rules | `(tactic| walk_at "gg") => `(tactic| repeat walk_at "g")
local macro_rules | `(tactic| walk_at "sz") => `(tactic| (refine sz ?_; simp only [List.length_cons, List.length_nil, List.length_map, List.length_append, List.length_replicate]; omega))
local macro_rules | `(tactic| walk_at "sub") => `(tactic| ((repeat (first | exact List.Sublist.slnil | with_reducible apply List.Sublist.cons_cons | with_reducible apply List.Sublist.cons)); done))

/-! ### trees chosen -/
/-- what the chosen tree has -/
def chT (A : Tr) (As : List Tr) (z : Str) : Option Tx := cho (getT A z) (As.map fun B => getT B z)
theorem chT_none {A : Tr} {As : List Tr} {z : Str} (h : ∀ B ∈ A :: As, z ∉ B.map (·.1)) : chT A As z = none := by
  have e : getT A z = none := getT_none.mpr (h A List.mem_cons_self)
  unfold chT
  rcases cho_mem (base := getT A z) (vs := As.map fun B => getT B z) with c | m
  · rw [c, e]
  · obtain ⟨B, hB, e2⟩ := List.mem_map.mp m
    rw [← e2]
    exact getT_none.mpr (h B (List.mem_cons_of_mem _ hB))
/-- small trees of small texts -/
def smT (m : Nat) (A : Tr) : Prop := A.length ≤ m ∧ okTr A ∧ ∀ p ∈ A, p.2.length ≤ 1000
theorem smT.get {m : Nat} {A : Tr} (h : smT m A) (z : Str) : okO (getT A z) ∧ lnO (getT A z) :=
  ⟨getT_in okO_none fun p hp => okO_some (h.2.1 p hp).2, getT_in (Pr := lnO) (fun _ e => by cases e) fun p hp t e => by
    injection e with e
    rw [← e]
    exact h.2.2 p hp⟩
section
variable {P : Program} {w : World} {K : PySem.W.Frag} {mg : Str → Option Value} {base : Heap}
theorem trs_getX {H : Hp} {z : Str} {ds : List Addr} {As : List Tr} (h : Trs H ds As) {i : Nat} {A : Tr} (e : As[i]? = some A) {xs : List V} (d : DqAll H xs ((As.take i).map fun B => oxD (getT B z))) {v : V} (dv : Dq H v (oxD (getT A z))) : DqAll H (xs ++ [v]) ((As.take (i + 1)).map fun B => oxD (getT B z)) := by
  rw [List.take_add_one, e, List.map_append]
  exact d.snoc dv
def sp_chosen_tree (K : PySem.W.Frag) : Sp := fun vs H Q _ => ∃ (b l : Addr) (ds : List Addr) (A : Tr) (As : List Tr), vs = [.ref b, .ref l] ∧ TrAt H b A ∧ H l = some (.lst (ds.map V.ref)) ∧ Trs H ds As ∧ As.length ≤ 12 ∧ smT 4 A ∧ (∀ B ∈ As, smT 4 B) ∧
  ∀ d (B : Bt) H', Has H ((d, .dK (bK B)) :: bO B) H' → AscT (bA B) → (∀ z t, (z, t) ∈ bA B ↔ chT A As z = some t) → Q (.ref d) H'
theorem sp_chosen_tree_len {vs H Q E} (h : sp_chosen_tree K vs H Q E) : vs.length = 2 := by
  obtain ⟨_, _, _, _, _, rfl, _⟩ := h
  rfl
set_option maxHeartbeats 1000000 in
theorem ok_chosen_tree (T : Txt K mg) : FnOk P w K mg base CX0 3 T.f_chosen_tree T.fd_chosen_tree ["base", "trees"] (sp_chosen_tree K) := by
  refine T.F_chosen_tree.ok sc_chosen_tree (fun vs H Q E h => sp_chosen_tree_len h) (fun cdv A outer s H vs Q E hr h => ?_)
  refine ⟨_, (pss_cons (k_sc2S P w (ps_setSc2 (i := 2) (own := [("tree", 6), ("path", 4)]) (vs1 := [4]) (g := gName 6) (gb := gName 4) (tt := tYes) (ttb := tYes) rfl sc_chosen_tree.nd rfl rfl (sw_trueS rfl rfl rfl (by decide +kernel)) (k_il K (pi_list (pe_lst (pa_cons (pv 0) (k_star K (StX.pa_star (pv 1) pa_nil)))))) (blkOk_by (N := n_chosen_tree) (sc := defScope s_chosen_tree) (by decide +kernel)) (by decide) (fun _ _ _ _ _ => (pg_name (i := 6) sc_chosen_tree.nd rfl (.inl rfl))) (fun _ _ _ _ _ => pts_nil) (fun _ _ _ _ _ => (pi_keys (pv 6))) (fun _ _ _ _ _ => (pg_name (i := 4) sc_chosen_tree.nd rfl (.inl rfl))) (fun _ _ _ _ _ => pts_nil) (fun _ _ _ _ _ => (pv 4))))
      (pss_cons (ps_set (i := 3) sc_chosen_tree.nd rfl (.inl rfl) pe_dnewK)
      (pss_cons (ps_for PassesOwn.never rfl (k_il K (pi_list (pe_callB (cr_sortN K P w rfl (cr_sortA K rfl)) (by rfl) T.m_sorted (by decide +kernel) (pa_cons (pv 2) pa_nil)))) (pg_name (i := 4) sc_chosen_tree.nd rfl (.inr rfl)) (pss_cons (ps_set (i := 5) sc_chosen_tree.nd rfl (.inl rfl) (pe_call (ok_chosen_text T) (hr.mono (by decide)) (by rfl) T.g_chosen_text T.F_chosen_text.kp T.b_chosen_text .nil pass0 (pa_cons (pe_dget1 (hu_of hr) (pv 0) (pv 4) ⟨rfl, rfl, rfl, rfl⟩) (pa_cons (pe_lc (own := [("tree", 6)]) (g := gName 6) (tt := tYes) rfl sc_chosen_tree.nd (k_il K (pi_list (pv 1))) (blkOk_by (N := n_chosen_tree) (sc := defScope s_chosen_tree) (by decide +kernel)) (fun _ _ _ _ _ => (pg_name (i := 6) sc_chosen_tree.nd rfl (.inl rfl))) (fun _ _ _ _ _ => pts_nil) (fun _ _ _ _ _ => (pe_dget1 (hu_of hr) (pv 6) (pv 4) ⟨rfl, rfl, rfl, rfl⟩))) pa_nil))))
      (pss_one (ps_if (pt_cmpR op_notNA (pv 5) pe_non (nomark _)) (pss_one (ps_asg (pv 5) (pg_sub (pv 3) (pv 4) (set_any (hu_of hr))))) pss_nil))))
      (pss_one (ps_ret (pv 3)))))), ?_⟩
  obtain ⟨b, l, ds, A, As, rfl, tb, hl, ts, few, smA, smB, q⟩ := h
  have hH := Has.start H
  have lds := ts.len
  refine g_start (σ' := [some (.ref b), some (.ref l), none, none, none, none, none]) rfl ?_
  walk_at "gg"
  refine g_sc2 ?_
  walk_at "gg"
  refine g_klst (sz (by rw [List.length_cons, List.length_append, List.length_map, List.length_nil]; omega)) hH (fun l0 H1 n1 h1 => ?_)
  have tall : Trs H (b :: ds) (A :: As) := .cons tb ts
  have smAll : ∀ B ∈ A :: As, smT 4 B := fun B hB => by
    rcases List.mem_cons.mp hB with rfl | hB
    · exact smA
    · exact smB B hB
  have e0 : V.ref b :: (ds.map V.ref ++ []) = (b :: ds).map V.ref := by
    rw [List.append_nil]
    rfl
  rw [e0] at h1
  have sums := tall.sum (m := 4) fun B hB => (smAll B hB).1
  rw [List.length_cons] at sums
  refine k_keysOf h1 (.inr (List.Mem.head _)) (kvOf H) tall.at_ (by omega) (by exact (by decide : 6 < 7)) (by exact (by decide : 4 < 7)) (by decide) (fun S H2 T n nS hT hn h2 => ?_)
  have h2 := h2.sub (O' := [(S, SetQ P w S T n)]) (List.Sublist.cons_cons _ (List.Sublist.cons _ (List.Sublist.refl _)))
  walk_at "gg"
  refine g_dnewK h2 (fun d H3 n3 h3 => ?_)
  walk_at "gg"
  refine g_sortNQ (h3.get (List.Mem.tail _ (List.Mem.head _))) (by omega) (fun k hk => ?_) h3 (fun us p4 H4 srt nd mu lu n4 h4 => ?_)
  · obtain ⟨z, e, _⟩ := tall.keys.mp ((hT k).mp hk)
    exact ⟨z, e⟩
  have asc := asc_of srt nd
  have mz : ∀ z, z ∈ us ↔ ∃ B ∈ A :: As, z ∈ B.map (·.1) := fun z => by
    rw [mu, hT, tall.keys]
    constructor
    · rintro ⟨z', e, r⟩
      rw [Sum.inr.inj e]
      exact r
    · intro r
      exact ⟨z, rfl, r⟩
  have h4 : Has H ((d, .dK (bK [])) :: (bO [] ++ [(p4, .lst (us.map V.str))])) H4 := (h4.sub (O' := [(p4, .lst (us.map V.str)), (d, .dK [])]) (by walk_at "sub")).perm (by exact (List.perm_middle (l₁ := [_]) (l₂ := [])).symm)
  walk_at "gg"
  refine k_forL (h4.get (List.Mem.tail _ (List.Mem.head _))) (fun t σ H' => ∃ (B : Bt) (y4 y5 : Option V), σ = [some (.ref b), some (.ref l), some (.ref S), some (.ref d), y4, y5, none] ∧ Has H ((d, .dK (bK B)) :: (bO B ++ [(p4, .lst (us.map V.str))])) H' ∧ ((bA B).map (·.1)).Sublist (us.take t) ∧ ∀ z x, (z, x) ∈ bA B ↔ z ∈ us.take t ∧ chT A As z = some x) ⟨[], _, _, rfl, h4, List.Sublist.refl _, fun z x => by simp [bA]⟩ ?_ ?_ ?_
  · rintro t σ H' _ ⟨B, y4, y5, rfl, h, _⟩
    exact h.get (List.mem_cons_of_mem _ (List.mem_append_right _ (List.Mem.head _)))
  · rintro t x σ H5 hx ⟨B, y4, y5, rfl, h5, sB, mB⟩
    rw [List.getElem?_map] at hx
    obtain ⟨z, hz, rfl⟩ := Option.map_eq_some_iff.mp hx
    have tl := (List.getElem?_eq_some_iff.mp hz).1
    have lB : B.length ≤ t := by
      have := sB.length_le
      unfold bA at this
      rw [List.length_map, List.length_map, List.length_take] at this
      omega
    obtain ⟨kvs, hb, ek, ndb, dqb⟩ := tb
    have tk : us.take (t + 1) = us.take t ++ [z] := by rw [List.take_add_one, hz]; rfl
    walk_at "gg"
    refine g_get1 ?_
    walk_at "gg"
    refine g_kget1 (h5.same _ _ hb) ?_
    walk_at "gg"
    refine g_kgotS (h5.same _ _ hb) ?_
    have dbz := (tr_get z ek dqb).1
    generalize (valV kvs (.inr z)).getD .non = bv at dbz
    walk_at "gg"
    refine k_lcL (h5.same _ _ hl) h5 (fun i acc F' O' => DqAll F' acc ((As.take i).map fun B => oxD (getT B z)) ∧ H = F' ∧ O' = (d, .dK (bK B)) :: (bO B ++ [(p4, .lst (us.map V.str))])) ⟨.nil, rfl, rfl⟩ ?_ ?_ ?_
    · rintro i acc F' O' H' ⟨_, rfl, rfl⟩ hh
      exact hh.same _ _ hl
    · rintro i v acc F' O' D H6 hv ⟨da, rfl, rfl⟩ hh
      rw [List.getElem?_map] at hv
      obtain ⟨di, edi, rfl⟩ := Option.map_eq_some_iff.mp hv
      obtain ⟨C, eC, ⟨kc, hc, ekc, _, dqc⟩⟩ := ts.get edi
      have la := da.len
      rw [List.length_map, List.length_take] at la
      walk_at "gg"
      refine g_get1 ?_
      walk_at "gg"
      refine g_kget1 (hh.same _ _ hc) ?_
      walk_at "gg"
      refine g_kgotS (hh.same _ _ hc) ?_
      exact k_turn hh (by omega) ⟨trs_getX ts eC da (tr_get z ekc dqc).1, rfl, rfl⟩
    rintro acc F6 O6 l6 H6 ⟨da, rfl, rfl⟩ h6
    have ell : (ds.map V.ref).length = As.length := by rw [List.length_map, lds]
    rw [ell, List.take_length] at da
    have da' : DqAll H acc ((As.map fun B => getT B z).map oxD) := by
      rw [List.map_map]
      exact da
    refine ⟨bv, l6, acc, getT A z, As.map fun B => getT B z, rfl, dbz.up h6.same _ _, h6.get (List.Mem.head _), da'.up h6.same _ _, by rw [List.length_map]; omega, (smA.get z).1, fun o ho => ?_, fun v H7 s7 f7 => ?_⟩
    · obtain ⟨C, hC, rfl⟩ := List.mem_map.mp ho
      exact ((smB C hC).get z).1
    have h7 := (h6.on s7).drop
    walk_at "gg"
    rcases f7 with ⟨rfl, e⟩ | ⟨p, x, rfl, e, n7, hp⟩
    · refine i_n (fun c => (c rfl).elim) (fun _ => ?_)
      walk_at "gg"
      refine ⟨B, _, _, rfl, h7, sB.trans (by rw [tk]; exact List.sublist_append_left _ _), fun z' x' => ?_⟩
      rw [mB, tk, List.mem_append, List.mem_singleton]
      constructor
      · exact fun h => ⟨.inl h.1, h.2⟩
      · rintro ⟨h | h, h2⟩
        · exact ⟨h, h2⟩
        · subst h
          have : chT A As z' = none := e
          rw [this] at h2
          cases h2
    · refine i_n (fun _ => ?_) (fun c => by cases c)
      have h7' : Has H ((p, .lst (x.map V.str)) :: (d, .dK (bK B)) :: (bO B ++ [(p4, .lst (us.map V.str))])) H7 := (h6.made n7 s7 hp).sub (List.Sublist.cons_cons _ (List.Sublist.cons _ (List.Sublist.refl _)))
      have nz : z ∉ B.map (·.1) := fun m => by
        rw [← bA_keys] at m
        exact nd_new nd hz (sB.subset m)
      walk_at "gg"
      refine g_stD (k := .inr z) rfl h7' (.tl .hd) (szl (by unfold bK; rw [List.length_map]; omega)) (fun H8 h8 => ?_)
      rw [putK_new _ (bK_none nz)] at h8
      walk_at "gg"
      refine ⟨B ++ [(z, p, x)], _, _, rfl, Has.bput h8, ?_, fun z' x' => ?_⟩
      · rw [bA_snoc, List.map_append, tk]
        exact sB.append (List.Sublist.refl _)
      · rw [bA_snoc, List.mem_append, mB, tk, List.mem_append, List.mem_singleton, List.mem_singleton]
        constructor
        · rintro (h | h)
          · exact ⟨.inl h.1, h.2⟩
          · injection h with h1 h2
            subst h1
            subst h2
            exact ⟨.inr rfl, e⟩
        · rintro ⟨h | h, h2⟩
          · exact .inl ⟨h, h2⟩
          · subst h
            have e2 : chT A As z' = some x := e
            rw [e2] at h2
            injection h2 with h2
            rw [h2]
            exact .inr rfl
  · rintro σ H5 ⟨B, y4, y5, rfl, h5, sB, mB⟩
    rw [List.length_map, List.take_length] at sB mB
    walk_at "gg"
    refine q d B H5 (h5.sub (List.Sublist.cons_cons _ (List.sublist_append_left _ _))) (asc.sublist sB) fun z x => ?_
    rw [mB]
    refine ⟨fun h => h.2, fun h => ⟨(mz z).mpr ?_, h⟩⟩
    refine Classical.byContradiction fun c => ?_
    rw [chT_none (fun B hB m => c ⟨B, hB, m⟩)] at h
    cases h
end

end K08

namespace K08
open PySem PySem.Spec PyProof.Rows L2 Qk
local macro_rules | `(tactic| walk_at "m") => `(tactic| ((repeat (first | exact List.Mem.head _ | apply List.Mem.tail)); done))
local macro_rules | `(tactic| walk_at "h") => `(tactic| first | assumption | exact Has.gF (by assumption) (by assumption) | exact Has.get (by assumption) (by walk_at "m"))
local macro_rules | `(tactic| walk_at "c") => `(tactic| ((repeat (first | exact Chg.hd | apply Chg.tl)); done))
local macro_rules | `(tactic| walk_at "is") => `(tactic| first
  | ((with_reducible refine' is2_non ?gh ?_); (case gh => walk_at "h"))
  | (with_reducible refine is_int_list ?_)
  | (with_reducible refine is_int_tuple ?_)
  | (with_reducible refine is_int_dict ?_)
  | (with_reducible refine is_int_int ?_)
  | (with_reducible refine is_int_bool ?_)
  | (with_reducible refine is_int_str ?_)
  | ((with_reducible refine' is2_int ?gh ?_); (case gh => walk_at "h"))
  | (with_reducible refine is_str_list ?_)
  | (with_reducible refine is_str_tuple ?_)
  | (with_reducible refine is_str_dict ?_)
  | (with_reducible refine is_str_int ?_)
  | (with_reducible refine is_str_bool ?_)
  | (with_reducible refine is_str_str ?_)
  | ((with_reducible refine' is2_str ?gh ?_); (case gh => walk_at "h"))
  | (with_reducible refine is_bool_list ?_)
  | (with_reducible refine is_bool_tuple ?_)
  | (with_reducible refine is_bool_dict ?_)
  | (with_reducible refine is_bool_int ?_)
  | (with_reducible refine is_bool_bool ?_)
  | (with_reducible refine is_bool_str ?_)
  | ((with_reducible refine' is2_bool ?gh ?_); (case gh => walk_at "h"))
  | ((with_reducible refine' is_list_list ?gh ?_); (case gh => walk_at "h"))
  | ((with_reducible refine' is_list_tuple ?gh ?_); (case gh => walk_at "h"))
  | ((with_reducible refine' is_list_dict ?gh ?_); (case gh => walk_at "h"))
  | ((with_reducible refine' is_list_int ?gh ?_); (case gh => walk_at "h"))
  | ((with_reducible refine' is_list_bool ?gh ?_); (case gh => walk_at "h"))
  | ((with_reducible refine' is_list_str ?gh ?_); (case gh => walk_at "h"))
  | ((with_reducible refine' is2_list ?ga ?gb ?_); (case ga => walk_at "h"); (case gb => walk_at "h"))
  | ((with_reducible refine' is_tuple_list ?gh ?_); (case gh => walk_at "h"))
  | ((with_reducible refine' is_tuple_tuple ?gh ?_); (case gh => walk_at "h"))
  | ((with_reducible refine' is_tuple_dict ?gh ?_); (case gh => walk_at "h"))
  | ((with_reducible refine' is_tuple_int ?gh ?_); (case gh => walk_at "h"))
  | ((with_reducible refine' is_tuple_bool ?gh ?_); (case gh => walk_at "h"))
  | ((with_reducible refine' is_tuple_str ?gh ?_); (case gh => walk_at "h"))
  | ((with_reducible refine' is2_tuple ?ga ?gb ?_); (case ga => walk_at "h"); (case gb => walk_at "h"))
  | ((with_reducible refine' is_dict_list ?gh ?_); (case gh => walk_at "h"))
  | ((with_reducible refine' is_dict_tuple ?gh ?_); (case gh => walk_at "h"))
  | ((with_reducible refine' is_dict_dict ?gh ?_); (case gh => walk_at "h"))
  | ((with_reducible refine' is_dict_int ?gh ?_); (case gh => walk_at "h"))
  | ((with_reducible refine' is_dict_bool ?gh ?_); (case gh => walk_at "h"))
  | ((with_reducible refine' is_dict_str ?gh ?_); (case gh => walk_at "h"))
  | ((with_reducible refine' is2_dict ?ga ?gb ?_); (case ga => walk_at "h"); (case gb => walk_at "h")))
local macro_rules | `(tactic| walk_at "g") => `(tactic| first
  | (with_reducible refine g_seq ?_)
  | (with_reducible refine g_asg ?_)
  | ((with_reducible refine g_name ?_); dsimp only [List.set, wipe, List.map])
  | ((with_reducible refine' g_var ?gv ?_); (case gv => exact rfl))
  | (with_reducible refine g_c ?_)
  | (with_reducible refine g_op ?_)
  | (with_reducible refine g_cons ?_)
  | (with_reducible refine g_nil ?_)
  | (with_reducible refine g_cb ?_)
  | (with_reducible refine g_call ?_)
  | (with_reducible refine g_tup ?_)
  | (with_reducible refine g_lst ?_)
  | (with_reducible refine g_bm ?_)
  | (with_reducible refine g_bm0 ?_)
  | ((with_reducible refine' g_kbm ?gh ?_); (case gh => walk_at "h"))
  | (with_reducible refine g_drop ?_)
  | (with_reducible refine g_ret ?_)
  | (with_reducible refine g_retN ?_)
  | (with_reducible refine g_next ?_)
  | (with_reducible refine g_brk ?_)
  | (with_reducible refine g_cont ?_)
  | (with_reducible refine g_if ?_)
  | ((with_reducible refine' g_aug ?gv ?_); (case gv => exact rfl))
  | (with_reducible refine g_ipI ?_)
  | (with_reducible refine g_test ?_)
  | (with_reducible refine g_tB ?_)
  | (with_reducible refine g_kB ?_)
  | (with_reducible refine g_not ?_)
  | (with_reducible refine g_and ?_)
  | (with_reducible refine g_or ?_)
  | (with_reducible refine g_andV ?_)
  | (with_reducible refine g_orV ?_)
  | (with_reducible refine g_notV ?_)
  | (with_reducible refine g_ifE ?_)
  | (with_reducible refine g_addI ?_)
  | (with_reducible refine g_rI0 ?_)
  | (with_reducible refine g_eqI ?_)
  | (with_reducible refine g_eqS ?_)
  | (with_reducible refine g_neI ?_)
  | (with_reducible refine g_neS ?_)
  | (with_reducible refine g_isN ?_)
  | (with_reducible refine g_notN ?_)
  | (with_reducible refine g_int ?_)
  | (with_reducible refine g_max2 ?_)
  | (with_reducible refine g_min2 ?_)
  | ((with_reducible refine' g_lenL ?gh ?_); (case gh => walk_at "h"))
  | (with_reducible refine g_sub ?_)
  | (with_reducible refine g_gcons ?_)
  | (with_reducible refine g_gnil ?_)
  | (with_reducible refine g_un ?_)
  | (with_reducible refine g_rU ?_)
  | (with_reducible refine g_forL ?_)
  | (with_reducible refine g_forS ?_)
  | (with_reducible refine g_forR1 ?_)
  | (with_reducible refine g_forR2 ?_)
  | (with_reducible refine g_forR3 ?_)
  | (with_reducible refine g_lcL ?_)
  | (with_reducible refine g_lcR1 ?_)
  | (with_reducible refine g_lcR2 ?_)
  | (with_reducible refine g_slice ?_)
  | (with_reducible refine g_part ?_)
  | (with_reducible refine g_kOI ?_)
  | (with_reducible refine g_nopart ?_)
  | (with_reducible refine g_yes ?_)
  | ((with_reducible refine' g_wipe ?gv ?_); (case gv => exact rfl))
  | (with_reducible refine iteT ?_)
  | (with_reducible refine iteF ?_)
  | (with_reducible refine i_nf ?_)
  | (with_reducible refine i_nt ?_)
  | ((with_reducible refine' g_gtup ?gh ?gl ?_); (case gh => walk_at "h"); (case gl => exact rfl))
  | ((with_reducible refine' g_notinI ?gh ?_); (case gh => walk_at "h"))
  | ((with_reducible refine' g_inI ?gh ?_); (case gh => walk_at "h"))
  | ((with_reducible refine' g_kget2 ?gh ?_); (case gh => walk_at "h"))
  | ((with_reducible refine' g_kgotI ?gh ?_); (case gh => walk_at "h"))
  | (with_reducible refine g_tRev ?_)
  | (with_reducible refine g_neB ?_)
  | (with_reducible refine g_eqB ?_)
  | ((with_reducible refine' g_lenT ?gh ?_); (case gh => walk_at "h"))
  | (with_reducible refine g_star ?_)
  | ((with_reducible refine' g_kstarL ?gh ?_); (case gh => walk_at "h"))
  | ((with_reducible refine' g_kstarT ?gh ?_); (case gh => walk_at "h"))
  | (with_reducible refine g_tru ?_)
  | ((with_reducible refine' g_truL ?gh ?_); (case gh => walk_at "h"))
  | (with_reducible refine g_get2 ?_)
  | (with_reducible refine g_try ?_)
  | (with_reducible refine g_fld ?_)
  | (with_reducible refine g_sfld ?_)
  | (with_reducible refine g_meth ?_)
  | (with_reducible refine g_make ?_)
  | (with_reducible refine g_del ?_)
  | (with_reducible refine g_callS ?_)
  | (with_reducible refine g_raise ?_)
  | (with_reducible refine g_xf ?_)
  | (with_reducible refine g_m0 ?_)
  | (with_reducible refine g_km0 ?_)
  | walk_at "is")
local macro_rules | `(tactic| walk_at "gg") => `(tactic| repeat walk_at "g")
local macro_rules | `(tactic| walk_at "sz") => `(tactic| (refine sz ?_; simp only [List.length_cons, List.length_nil, List.length_map, List.length_append, List.length_replicate]; omega))
local macro_rules | `(tactic| walk_at "sub") => `(tactic| ((repeat (first | exact List.Sublist.slnil | with_reducible apply List.Sublist.cons_cons | with_reducible apply List.Sublist.cons)); done))

/-! ### trees chosen by the law -/
theorem rise_weak : ∀ (p : Str) (l : List Str), risingS p l = true → (p :: l).Pairwise fun a b => ¬ kk b < kk a
  | p, [], _ => List.pairwise_cons.mpr ⟨fun _ h => (by cases h), List.Pairwise.nil⟩
  | p, x :: r, h => by
    have h : (!PySem.Spec.ltCps x.cps.toList p.cps.toList && risingS x r) = true := h
    rw [Bool.and_eq_true] at h
    have h1 : ¬ kk x < kk p := by
      have := h.1
      rw [ltCps_eq] at this
      simpa using this
    have ih := rise_weak x r h.2
    refine List.pairwise_cons.mpr ⟨fun z hz => ?_, ih⟩
    rcases List.mem_cons.mp hz with rfl | hz
    · exact h1
    · exact List.not_lt.mpr (List.le_trans (List.not_lt.mp h1) (List.not_lt.mp ((List.pairwise_cons.mp ih).1 z hz)))
theorem sorted_weak {xs : List Str} (h : sortedS xs = true) : xs.Pairwise fun a b => ¬ kk b < kk a := by
  cases xs with
  | nil => exact List.Pairwise.nil
  | cons x r => exact rise_weak x r h
section
variable {P : Program} {w : World} {K : PySem.W.Frag} {mg : Str → Option Value} {base : Heap}
def sp_l_chosen_tree (K : PySem.W.Frag) : Sp := fun vs H Q _ => ∃ (b l : Addr) (ds : List Addr) (A : Tr) (As : List Tr), vs = [.ref b, .ref l] ∧ TrAt H b A ∧ H l = some (.lst (ds.map V.ref)) ∧ Trs H ds As ∧ As.length ≤ 12 ∧ smT 4 A ∧ (∀ B ∈ As, smT 4 B) ∧
  ∀ d (B : Bt) H', Has H ((d, .dK (bK B)) :: bO B) H' → AscT (bA B) → (∀ z t, (z, t) ∈ bA B ↔ chT A As z = some t) → Q (.ref d) H'
theorem sp_l_chosen_tree_len {vs H Q E} (h : sp_l_chosen_tree K vs H Q E) : vs.length = 2 := by
  obtain ⟨_, _, _, _, _, rfl, _⟩ := h
  rfl
set_option maxHeartbeats 1000000 in
theorem ok_l_chosen_tree (T : Txt K mg) : FnOk P w K mg base CX0 2 T.f_l_chosen_tree T.fd_l_chosen_tree ["base", "trees"] (sp_l_chosen_tree K) := by
  refine T.F_l_chosen_tree.ok sc_l_chosen_tree (fun vs H Q E h => sp_l_chosen_tree_len h) (fun cdv A outer s H vs Q E hr h => ?_)
  refine ⟨_, (pss_cons (ps_set (i := 2) sc_l_chosen_tree.nd rfl (.inl rfl) (pe_callTy (cr_listD rfl) (by rfl) T.m_list (by decide +kernel) (pa_cons (pv 0) pa_nil)))
      (pss_cons (ps_for PassesOwn.never rfl (k_il K (pi_list (pv 1))) (pg_name (i := 3) sc_l_chosen_tree.nd rfl (.inl rfl)) (pss_one (ps_set (i := 2) sc_l_chosen_tree.nd rfl (.inl rfl) (pe_op (op_addK K) (pv 2) (pe_callTy (cr_listD rfl) (by rfl) T.m_list (by decide +kernel) (pa_cons (pv 3) pa_nil))))))
      (pss_cons (ps_set (i := 4) sc_l_chosen_tree.nd rfl (.inl rfl) pe_dnewK)
      (pss_cons (ps_for PassesOwn.never rfl (k_il K (pi_list (pe_callB (cr_sortN K P w rfl (cr_sortA K rfl)) (by rfl) T.m_sorted (by decide +kernel) (pa_cons (pv 2) pa_nil)))) (pg_name (i := 5) sc_l_chosen_tree.nd rfl (.inr rfl)) (pss_cons (ps_setLc (i := 6) (own := [("tree", 3)]) (g := gName 3) (tt := tYes) rfl sc_l_chosen_tree.nd rfl rfl (sw_true rfl rfl rfl (by decide +kernel)) (k_il K (pi_list (pv 1))) (blkOk_by (N := n_l_chosen_tree) (sc := defScope s_l_chosen_tree) (by decide +kernel)) (fun _ _ _ _ _ => (pg_name (i := 3) sc_l_chosen_tree.nd rfl (.inl rfl))) (fun _ _ _ _ _ => pts_nil) (fun _ _ _ _ _ => (pe_dget1 (hu_of hr) (pv 3) (pv 5) ⟨rfl, rfl, rfl, rfl⟩)))
      (pss_cons (ps_set (i := 7) sc_l_chosen_tree.nd rfl (.inl rfl) (pe_call (ok_l_chosen T) (hr.mono (by decide)) (by rfl) T.g_l_chosen T.F_l_chosen.kp T.b_l_chosen .nil pass0 (pa_cons (pe_dget1 (hu_of hr) (pv 0) (pv 5) ⟨rfl, rfl, rfl, rfl⟩) (pa_cons (pv 6) pa_nil))))
      (pss_one (ps_if (pt_cmpR op_notNA (pv 7) pe_non (nomark _)) (pss_one (ps_asg (pe_callTy (cr_listK K) (by rfl) T.m_list (by decide +kernel) (pa_cons (pv 7) pa_nil)) (pg_sub (pv 4) (pv 5) (set_any (hu_of hr))))) pss_nil)))))
      (pss_one (ps_ret (pv 4))))))), ?_⟩
  obtain ⟨b, l, ds, A, As, rfl, tb, hl, ts, few, smA, smB, q⟩ := h
  have hH := Has.start H
  have lds := ts.len
  have ell : (ds.map V.ref).length = As.length := by rw [List.length_map, lds]
  obtain ⟨kvs, hb, ek, ndb, dqb⟩ := id tb
  refine g_start (σ' := [some (.ref b), some (.ref l), none, none, none, none, none, none]) rfl ?_
  walk_at "gg"
  refine g_listD hb hH (fun p0 H1 n1 h1 => ?_)
  rw [tr_keys ek] at h1
  walk_at "gg"
  refine k_forL (h1.same _ _ hl) (fun t σ H' => ∃ (pa : Addr) (ps : List Str) (y3 y4 y5 y6 y7 : Option V), σ = [some (.ref b), some (.ref l), some (.ref pa), y3, y4, y5, y6, y7] ∧ Has H [(pa, .lst (ps.map V.str))] H' ∧ ps.length ≤ 4 + t * 4 ∧ ∀ z, z ∈ ps ↔ ∃ C ∈ A :: As.take t, z ∈ C.map (·.1)) ⟨p0, A.map (·.1), _, _, _, _, _, rfl, h1, by rw [List.length_map]; exact smA.1, fun z => by simp⟩ ?_ ?_ ?_
  · rintro t σ H' _ ⟨pa, ps, y3, y4, y5, y6, y7, rfl, h, _⟩
    exact h.same _ _ hl
  · rintro t x σ H2 hx ⟨pa, ps, y3, y4, y5, y6, y7, rfl, h2, lps, mps⟩
    have tl := (List.getElem?_eq_some_iff.mp hx).1
    rw [ell] at tl
    rw [List.getElem?_map] at hx
    obtain ⟨di, edi, rfl⟩ := Option.map_eq_some_iff.mp hx
    obtain ⟨C, eC, ⟨kc, hc, ekc, _, _⟩⟩ := ts.get edi
    have lC := (smB C (List.mem_of_getElem? eC)).1
    walk_at "gg"
    refine g_listD (h2.same _ _ hc) h2 (fun p1 H3 n3 h3 => ?_)
    rw [tr_keys ekc] at h3
    refine g_addL (h3.get (by walk_at "m")) (h3.get (List.Mem.head _)) (sz (by rw [List.length_map, List.length_map, List.length_map]; omega)) h3 (fun p2 H4 n4 h4 => ?_)
    rw [← List.map_append] at h4
    walk_at "gg"
    refine ⟨p2, _, _, _, _, _, _, rfl, h4.sub (by walk_at "sub"), by rw [List.length_append, List.length_map]; omega, fun z => ?_⟩
    rw [List.mem_append, mps, List.take_add_one, eC]
    constructor
    · rintro (⟨C', hC', m⟩ | m)
      · refine ⟨C', ?_, m⟩
        rcases List.mem_cons.mp hC' with rfl | hC'
        · exact List.mem_cons_self
        · exact List.mem_cons_of_mem _ (List.mem_append_left _ hC')
      · exact ⟨C, List.mem_cons_of_mem _ (List.mem_append_right _ (List.mem_singleton.mpr rfl)), m⟩
    · rintro ⟨C', hC', m⟩
      rcases List.mem_cons.mp hC' with rfl | hC'
      · exact .inl ⟨C', List.mem_cons_self, m⟩
      · rcases List.mem_append.mp hC' with hC' | hC'
        · exact .inl ⟨C', List.mem_cons_of_mem _ hC', m⟩
        · have e : C' = C := List.mem_singleton.mp hC'
          subst e
          exact .inr m
  rintro σ H2 ⟨pa, ps, y3, y4, y5, y6, y7, rfl, h2, lps, mps⟩
  rw [ell] at lps mps
  rw [List.take_length] at mps
  walk_at "gg"
  refine g_dnewK h2 (fun d H3 n3 h3 => ?_)
  walk_at "gg"
  refine g_sortNA (g_sortS (h3.get (List.Mem.tail _ (List.Mem.head _))) (by omega) h3 (fun us p4 H4 pm srt n4 h4 => ?_))
  have wk := sorted_weak srt
  have mz : ∀ z, z ∈ us ↔ ∃ B ∈ A :: As, z ∈ B.map (·.1) := fun z => pm.mem_iff.trans (mps z)
  have h4 : Has H ((d, .dK (bK [])) :: (bO [] ++ [(p4, .lst (us.map V.str))])) H4 := (h4.sub (O' := [(p4, .lst (us.map V.str)), (d, .dK [])]) (by walk_at "sub")).perm (by exact (List.perm_middle (l₁ := [_]) (l₂ := [])).symm)
  have lus := pm.length_eq
  walk_at "gg"
  refine k_forL (h4.get (List.Mem.tail _ (List.Mem.head _))) (fun t σ H' => ∃ (B : Bt) (y4 y5 y6 y7 : Option V), σ = [some (.ref b), some (.ref l), some (.ref pa), y4, some (.ref d), y5, y6, y7] ∧ Has H ((d, .dK (bK B)) :: (bO B ++ [(p4, .lst (us.map V.str))])) H' ∧ AscT (bA B) ∧ B.length ≤ t ∧ ∀ z x, (z, x) ∈ bA B ↔ z ∈ us.take t ∧ chT A As z = some x) ⟨[], _, _, _, _, rfl, h4, .nil, Nat.zero_le _, fun z x => by simp [bA]⟩ ?_ ?_ ?_
  · rintro t σ H' _ ⟨B, y4, y5, y6, y7, rfl, h, _⟩
    exact h.get (List.mem_cons_of_mem _ (List.mem_append_right _ (List.Mem.head _)))
  · rintro t x σ H5 hx ⟨B, y4, y5, y6, y7, rfl, h5, aB, lB, mB⟩
    rw [List.getElem?_map] at hx
    obtain ⟨z, hz, rfl⟩ := Option.map_eq_some_iff.mp hx
    have tl := (List.getElem?_eq_some_iff.mp hz).1
    have tk : us.take (t + 1) = us.take t ++ [z] := by rw [List.take_add_one, hz]; rfl
    walk_at "gg"
    refine k_lcL (h5.same _ _ hl) h5 (fun i acc F' O' => DqAll F' acc ((As.take i).map fun B => oxD (getT B z)) ∧ H = F' ∧ O' = (d, .dK (bK B)) :: (bO B ++ [(p4, .lst (us.map V.str))])) ⟨.nil, rfl, rfl⟩ ?_ ?_ ?_
    · rintro i acc F' O' H' ⟨_, rfl, rfl⟩ hh
      exact hh.same _ _ hl
    · rintro i v acc F' O' D H6 hv ⟨da, rfl, rfl⟩ hh
      rw [List.getElem?_map] at hv
      obtain ⟨di, edi, rfl⟩ := Option.map_eq_some_iff.mp hv
      obtain ⟨C, eC, ⟨kc, hc, ekc, _, dqc⟩⟩ := ts.get edi
      have la := da.len
      rw [List.length_map, List.length_take] at la
      walk_at "gg"
      refine g_get1 ?_
      walk_at "gg"
      refine g_kget1 (hh.same _ _ hc) ?_
      walk_at "gg"
      refine g_kgotS (hh.same _ _ hc) ?_
      exact k_turn hh (by omega) ⟨trs_getX ts eC da (tr_get z ekc dqc).1, rfl, rfl⟩
    rintro acc F6 O6 l6 H6 ⟨da, rfl, rfl⟩ h6
    rw [ell, List.take_length] at da
    have da' : DqAll H acc ((As.map fun B => getT B z).map oxD) := by
      rw [List.map_map]
      exact da
    walk_at "gg"
    refine g_get1 ?_
    walk_at "gg"
    refine g_kget1 (h6.same _ _ hb) ?_
    walk_at "gg"
    refine g_kgotS (h6.same _ _ hb) ?_
    have dbz := (tr_get z ek dqb).1
    generalize (valV kvs (.inr z)).getD .non = bv at dbz
    walk_at "gg"
    refine ⟨bv, l6, acc, getT A z, As.map fun B => getT B z, H6, rfl, Same.refl _, dbz.up h6.same _ _, h6.get (List.Mem.head _), da'.up h6.same _ _, by rw [List.length_map]; omega, (smA.get z).1, fun o ho => ?_, fun v H7 s7 d7 => ?_⟩
    · obtain ⟨C, hC, rfl⟩ := List.mem_map.mp ho
      exact ((smB C hC).get z).1
    have h7 := (h6.on s7).drop
    have ec : cho (getT A z) (As.map fun B => getT B z) = chT A As z := rfl
    rw [ec] at d7
    walk_at "gg"
    cases e : chT A As z with
    | none =>
      rw [e] at d7
      have ev := d7.non_inv
      subst ev
      refine i_n (fun c => (c rfl).elim) (fun _ => ?_)
      walk_at "gg"
      refine ⟨B, _, _, _, _, rfl, h7, aB, by omega, fun z' x' => ?_⟩
      rw [mB, tk, List.mem_append, List.mem_singleton]
      constructor
      · exact fun h => ⟨.inl h.1, h.2⟩
      · rintro ⟨h | h, h2⟩
        · exact ⟨h, h2⟩
        · subst h
          rw [e] at h2
          cases h2
    | some x =>
      rw [e] at d7
      obtain ⟨a, rfl, ha⟩ := Dq.of_strs (xs := x) d7
      refine i_n (fun _ => ?_) (fun c => by cases c)
      walk_at "gg"
      refine g_listL (s7 _ _ ha) h7 (fun p H8 n8 h8 => ?_)
      by_cases old : z ∈ us.take t
      · have mz : (z, x) ∈ bA B := (mB z x).mpr ⟨old, e⟩
        obtain ⟨b', hb', eb'⟩ := List.mem_map.mp mz
        obtain ⟨j, hj⟩ := List.mem_iff_getElem?.mp hb'
        injection eb' with eb1 eb2
        have nB : (B.map (·.1)).Nodup := by
          rw [← bA_keys]
          exact aB.nd
        walk_at "gg"
        refine g_stD (k := .inr z) rfl h8 (.tl .hd) (szl (by unfold bK; rw [List.length_map]; omega)) (fun H9 h9 => ?_)
        have er : putK (bK B) (.inr z) (V.ref p) = bK (B.set j (b'.1, p, x)) := by
          rw [← eb1]
          exact putK_rep nB hj
        rw [er] at h9
        have h9 := Has.brep hj h9
        have ebA : bA (B.set j (b'.1, p, x)) = bA B := by
          rw [← eb2]
          exact bA_set hj
        walk_at "gg"
        refine ⟨B.set j (b'.1, p, x), _, _, _, _, rfl, h9, by rw [ebA]; exact aB, by rw [List.length_set]; omega, fun z' x' => ?_⟩
        rw [ebA, mB, tk, List.mem_append, List.mem_singleton]
        constructor
        · exact fun h => ⟨.inl h.1, h.2⟩
        · rintro ⟨h | h, h2⟩
          · exact ⟨h, h2⟩
          · exact ⟨h ▸ old, h2⟩
      · have nz : z ∉ B.map (·.1) := fun m => by
          rw [← bA_keys] at m
          obtain ⟨r, hr, er⟩ := List.mem_map.mp m
          have := (mB r.1 r.2).mp hr
          rw [er] at this
          exact old this.1
        walk_at "gg"
        refine g_stD (k := .inr z) rfl h8 (.tl .hd) (szl (by unfold bK; rw [List.length_map]; omega)) (fun H9 h9 => ?_)
        rw [putK_new _ (bK_none nz)] at h9
        walk_at "gg"
        refine ⟨B ++ [(z, p, x)], _, _, _, _, rfl, Has.bput h9, ?_, by rw [List.length_append]; show _ + 1 ≤ _; omega, fun z' x' => ?_⟩
        · unfold AscT
          rw [bA_snoc, List.map_append]
          refine List.pairwise_append.mpr ⟨aB, List.pairwise_singleton _ _, fun a ha c hc => ?_⟩
          have ec : c = z := List.mem_singleton.mp hc
          subst ec
          obtain ⟨r, hr, rfl⟩ := List.mem_map.mp ha
          have mr := ((mB r.1 r.2).mp hr).1
          obtain ⟨j, hj⟩ := List.mem_iff_getElem?.mp mr
          have lj := (List.getElem?_eq_some_iff.mp hj).1
          rw [List.length_take] at lj
          rw [List.getElem?_take_of_lt (by omega)] at hj
          obtain ⟨l1, e1⟩ := List.getElem?_eq_some_iff.mp hj
          obtain ⟨l2, e2⟩ := List.getElem?_eq_some_iff.mp hz
          have := List.pairwise_iff_getElem.mp wk j t l1 l2 (by omega)
          rw [e1, e2] at this
          exact kk_cases this fun c => old (c ▸ mr)
        · rw [bA_snoc, List.mem_append, mB, tk, List.mem_append, List.mem_singleton, List.mem_singleton]
          constructor
          · rintro (h | h)
            · exact ⟨.inl h.1, h.2⟩
            · injection h with h1 h2
              subst h1
              subst h2
              exact ⟨.inr rfl, e⟩
          · rintro ⟨h | h, h2⟩
            · exact .inl ⟨h, h2⟩
            · subst h
              rw [e] at h2
              injection h2 with h2
              rw [h2]
              exact .inr rfl
  · rintro σ H5 ⟨B, y4, y5, y6, y7, rfl, h5, aB, lB, mB⟩
    rw [List.length_map, List.take_length] at mB
    walk_at "gg"
    refine q d B H5 (h5.sub (List.Sublist.cons_cons _ (List.sublist_append_left _ _))) aB fun z x => ?_
    rw [mB]
    refine ⟨fun h => h.2, fun h => ⟨(mz z).mpr ?_, h⟩⟩
    refine Classical.byContradiction fun c => ?_
    rw [chT_none (fun B hB m => c ⟨B, hB, m⟩)] at h
    cases h
def sp_l_chooses_tree (K : PySem.W.Frag) : Sp := fun vs H Q _ => ∃ (b l u : Addr) (ds : List Addr) (A C : Tr) (As : List Tr), vs = [.ref b, .ref l, .ref u] ∧ TrAt H b A ∧ H l = some (.lst (ds.map V.ref)) ∧ Trs H ds As ∧ As.length ≤ 12 ∧ smT 4 A ∧ (∀ B ∈ As, smT 4 B) ∧ TrAt H u C ∧ AscT C ∧ (∀ z t, (z, t) ∈ C ↔ chT A As z = some t) ∧ ∀ H', Same H H' → Q (.bl true) H'
theorem sp_l_chooses_tree_len {vs H Q E} (h : sp_l_chooses_tree K vs H Q E) : vs.length = 3 := by
  obtain ⟨_, _, _, _, _, _, _, rfl, _⟩ := h
  rfl
theorem chT_sm {A C : Tr} {As : List Tr} (smA : smT 4 A) (smB : ∀ B ∈ As, smT 4 B) (aC : AscT C) (mC : ∀ z t, (z, t) ∈ C ↔ chT A As z = some t) (l : C.length ≤ 1000) : ∀ p ∈ C, p.2.length ≤ 1000 := fun p hp => by
  have e := (mC p.1 p.2).mp hp
  exact cho_all (Pr := lnO) (smA.get p.1).2 (fun o ho => by
    obtain ⟨B, hB, rfl⟩ := List.mem_map.mp ho
    exact ((smB B hB).get p.1).2) _ e
theorem chT_few {A C : Tr} {As : List Tr} (h1 : A.length ≤ 4) (h2 : ∀ B ∈ As, B.length ≤ 4) (l : As.length ≤ 12) (aC : AscT C) (mC : ∀ z t, (z, t) ∈ C ↔ chT A As z = some t) : C.length ≤ 52 := by
  have sub : ∀ z ∈ C.map (·.1), z ∈ (A :: As).flatMap fun B => B.map (·.1) := fun z hz => by
    obtain ⟨p, hp, rfl⟩ := List.mem_map.mp hz
    refine Classical.byContradiction fun c => ?_
    have e := (mC p.1 p.2).mp hp
    rw [chT_none (fun B hB m => c (List.mem_flatMap.mpr ⟨B, hB, m⟩))] at e
    cases e
  have len : ∀ (Bs : List Tr), (∀ B ∈ Bs, B.length ≤ 4) → (Bs.flatMap fun B => B.map (·.1)).length ≤ 4 * Bs.length := by
    intro Bs
    induction Bs with
    | nil => intro _; exact Nat.zero_le _
    | cons B Bs ih =>
      intro h
      rw [List.flatMap_cons, List.length_append, List.length_map, List.length_cons, Nat.mul_succ]
      have := ih fun B hB => h B (List.mem_cons_of_mem _ hB)
      have := h B List.mem_cons_self
      omega
  have h3 := len (A :: As) fun B hB => by
    rcases List.mem_cons.mp hB with rfl | hB
    · exact h1
    · exact h2 B hB
  have h4 : (C.map (·.1)).length ≤ ((A :: As).flatMap fun B => B.map (·.1)).length := by
    have : ∀ (xs ys : List Str), xs.Nodup → (∀ z ∈ xs, z ∈ ys) → xs.length ≤ ys.length := by
      intro xs
      induction xs with
      | nil => intro _ _ _; exact Nat.zero_le _
      | cons x xs ih =>
        intro ys n h
        have n' := List.nodup_cons.mp n
        have hx := h x List.mem_cons_self
        have := ih (ys.erase x) n'.2 fun z hz => (List.mem_erase_of_ne (fun e => n'.1 (by rw [← e]; exact hz))).mpr (h z (List.mem_cons_of_mem _ hz))
        rw [List.length_erase_of_mem hx] at this
        have := List.length_pos_of_mem hx
        rw [List.length_cons]
        omega
    exact this _ _ aC.nd sub
  rw [List.length_map] at h4
  rw [List.length_cons] at h3
  omega
set_option maxHeartbeats 1000000 in
theorem ok_l_chooses_tree (T : Txt K mg) : FnOk P w K mg base CX0 7 T.f_l_chooses_tree T.fd_l_chooses_tree ["base", "trees", "due"] (sp_l_chooses_tree K) := by
  refine T.F_l_chooses_tree.ok sc_l_chooses_tree (fun vs H Q E h => sp_l_chooses_tree_len h) (fun cdv A outer s H vs Q E hr h => ?_)
  refine ⟨_, (pss_cons (ps_set (i := 3) sc_l_chooses_tree.nd rfl (.inl rfl) (pe_call (ok_l_copy T) (hr.mono (by decide)) (by rfl) T.g_l_copy T.F_l_copy.kp T.b_l_copy .nil pass0 (pa_cons (pv 0) pa_nil)))
      (pss_cons (ps_setLc (i := 4) (own := [("tree", 7)]) (g := gName 7) (tt := tYes) rfl sc_l_chooses_tree.nd rfl rfl (sw_true rfl rfl rfl (by decide +kernel)) (k_il K (pi_list (pv 1))) (blkOk_by (N := n_l_chooses_tree) (sc := defScope s_l_chooses_tree) (by decide +kernel)) (fun _ _ _ _ _ => (pg_name (i := 7) sc_l_chooses_tree.nd rfl (.inl rfl))) (fun _ _ _ _ _ => pts_nil) (fun _ _ _ _ _ => (pe_call (ok_l_copy T) (hr.mono (by decide)) (by rfl) T.g_l_copy T.F_l_copy.kp T.b_l_copy .nil pass0 (pa_cons (pv 7) pa_nil))))
      (pss_cons (ps_set (i := 5) sc_l_chooses_tree.nd rfl (.inl rfl) (pe_call (ok_chosen_tree T) (hr.mono (by decide)) (by rfl) T.g_chosen_tree T.F_chosen_tree.kp T.b_chosen_tree .nil pass0 (pa_cons (pv 3) (pa_cons (pv 4) pa_nil))))
      (pss_cons (ps_if (pt_not (pt_val (pe_call (ok_l_same T) (hr.mono (by decide)) (by rfl) T.g_l_same T.F_l_same.kp T.b_l_same .nil pass0 (pa_cons (pv 5) (pa_cons (pv 2) pa_nil))))) (pss_one (ps_ret pe_bl)) pss_nil)
      (pss_cons (ps_expr (pe_call (ok_l_spoil T) (hr.mono (by decide)) (by rfl) T.g_l_spoil T.F_l_spoil.kp T.b_l_spoil .nil pass0 (pa_cons (pv 5) pa_nil)))
      (pss_cons (ps_if (PW.pt (pw_or (pt_not (pt_val (pe_call (ok_l_kept T) (hr.mono (by decide)) (by rfl) T.g_l_kept T.F_l_kept.kp T.b_l_kept .nil pass0 (pa_cons (pv 3) (pa_cons (pv 0) pa_nil))))) (pw_or1 (pt_cmpR (op_neK K hr.units) (pe_callB (cr_lenK K) (by rfl) T.m_len (by decide +kernel) (pa_cons (pv 4) pa_nil)) (pe_callB (cr_lenK K) (by rfl) T.m_len (by decide +kernel) (pa_cons (pv 1) pa_nil)) (nomark _))))) (pss_one (ps_ret pe_bl)) pss_nil)
      (pss_cons (ps_for PassesOwn.never rfl (pi_range1 rfl T.m_range (pa_cons (pe_callB (cr_lenK K) (by rfl) T.m_len (by decide +kernel) (pa_cons (pv 1) pa_nil)) pa_nil)) (pg_name (i := 6) sc_l_chooses_tree.nd rfl (.inl rfl)) (pss_one (ps_if (pt_not (pt_val (pe_call (ok_l_kept T) (hr.mono (by decide)) (by rfl) T.g_l_kept T.F_l_kept.kp T.b_l_kept .nil pass0 (pa_cons (pe_ix (ix_K K (hu_of hr)) (pv 4) (pv 6) (fun _ _ => rfl)) (pa_cons (pe_ix (ix_K K (hu_of hr)) (pv 1) (pv 6) (fun _ _ => rfl)) pa_nil))))) (pss_one (ps_ret pe_bl)) pss_nil)))
      (pss_one (ps_ret pe_bl))))))))), ?_⟩
  obtain ⟨b, l, u, ds, A, C, As, rfl, tb, hl, ts, few, smA, smB, tu, aC, mC, q⟩ := h
  have hH := Has.start H
  have lds := ts.len
  have ell : (ds.map V.ref).length = As.length := by rw [List.length_map, lds]
  have lC := chT_few smA.1 (fun B hB => (smB B hB).1) few aC mC
  have ltC := chT_sm smA smB aC mC (by omega)
  obtain ⟨_, _, _, ndA, _⟩ := id tb
  refine g_start (σ' := [some (.ref b), some (.ref l), some (.ref u), none, none, none, none, none]) rfl ?_
  walk_at "gg"
  refine ⟨b, A, rfl, tb, by have := smA.1; omega, fun pa B1 H1 h1 eB1 => ?_⟩
  obtain ⟨F1, sF1, h1, nw⟩ := hH.join h1
  have nB : (B1.map (·.1)).Nodup := by rw [← bA_keys, eB1]; exact ndA
  have tp : TrAt F1 pa A := by rw [← eB1]; exact tr_own nw nB
  walk_at "gg"
  refine k_lcL (h1.same _ _ (sF1 _ _ hl)) h1 (fun i acc F' O' => ∃ es, acc = es.map V.ref ∧ Trs F' es (As.take i) ∧ Same F1 F' ∧ O' = []) ⟨[], rfl, .nil, Same.refl _, rfl⟩ ?_ ?_ ?_
  · rintro i acc F' O' H' ⟨_, _, _, sF, rfl⟩ hh
    exact hh.same _ _ (sF _ _ (sF1 _ _ hl))
  · rintro i v acc F' O' D H2 hv ⟨es, rfl, te, sF, rfl⟩ hh
    rw [List.getElem?_map] at hv
    obtain ⟨di, edi, rfl⟩ := Option.map_eq_some_iff.mp hv
    obtain ⟨C', eC', tc⟩ := ts.get edi
    have le := te.len
    rw [List.length_take] at le
    obtain ⟨_, _, _, ndC, _⟩ := id tc
    walk_at "gg"
    refine ⟨di, C', rfl, (tc.up (sF1.trans sF)).up hh.same, by have := (smB C' (List.mem_of_getElem? eC')).1; omega, fun pc B2 H3 h3 eB2 => ?_⟩
    obtain ⟨F3, sF3, h3, nw⟩ := hh.join h3
    have nB : (B2.map (·.1)).Nodup := by rw [← bA_keys, eB2]; exact ndC
    have tn : TrAt F3 pc C' := by rw [← eB2]; exact tr_own nw nB
    refine k_turn h3 (by rw [List.length_map]; omega) ⟨es ++ [pc], by rw [List.map_append]; rfl, ?_, sF.trans sF3, rfl⟩
    rw [List.take_add_one, eC']
    exact (te.up sF3).snoc tn
  rintro acc F2 O2 g H2 ⟨es, rfl, te, sF2, rfl⟩ h2
  rw [ell, List.take_length] at te
  have sF := sF1.trans sF2
  have le := te.len
  have hg := h2.get (List.Mem.head _)
  walk_at "gg"
  refine ⟨pa, g, es, A, As, rfl, (tp.up sF2).up h2.same, hg, te.up h2.same, few, smA, smB, fun d B H3 h3 aB mB => ?_⟩
  have eBC : bA B = C := aB.ext aC fun z t => (mB z t).trans (mC z t).symm
  have nB : (B.map (·.1)).Nodup := by rw [← bA_keys, eBC]; exact aC.nd
  have h3' := h2.plus h3
  have tt : TrAt H3 d C := by
    rw [← eBC]
    exact Has.built (O := []) (by rw [List.append_nil]; exact h3) nB
  have lB : B.length ≤ 60 := by
    have := congrArg List.length eBC
    unfold bA at this
    rw [List.length_map] at this
    omega
  walk_at "gg"
  refine ⟨.ref d, .ref u, rfl, Sm.tree tt ((tu.up (sF.trans h2.same)).up h3.same) (by omega) ltC, fun H4 s4 => ?_⟩
  walk_at "gg"
  refine ⟨d, B, rmO ((d, .dK (bK B)) :: bO B) H4, rfl, (h3.on s4).re, nB, by omega, fun c hc => ?_, fun H5 s5 => ?_⟩
  · have : (c.1, c.2.2) ∈ C := by
      rw [← eBC]
      exact List.mem_map.mpr ⟨c, hc, rfl⟩
    exact ltC _ this
  have sH : Same H2 H5 := fun a o e => s5 a o (by
    have := (h3.on s4).reF a o e
    exact this)
  have h5 := h2.on sH
  walk_at "gg"
  refine ⟨pa, b, A, rfl, (tp.up sF2).up h5.same, (tb.up sF).up h5.same, smA.2.1, fun H6 s6 => ?_⟩
  have h6 := h5.on s6
  walk_at "gg"
  refine g_lenL (h6.same _ _ (sF _ _ hl)) ?_
  walk_at "gg"
  have ele : (es.map V.ref).length = (ds.map V.ref).length := by rw [List.length_map, List.length_map, le, lds]
  refine i_n (fun c => (c (by rw [ele])).elim) (fun _ => ?_)
  walk_at "gg"
  refine g_lenL (h6.same _ _ (sF _ _ hl)) ?_
  rw [ell]
  refine k_forR1 (fun t σ H' => ∃ (y6 y7 : Option V), σ = [some (.ref b), some (.ref l), some (.ref u), some (.ref pa), some (.ref g), some (.ref d), y6, y7] ∧ Has F2 [(g, .lst (es.map V.ref))] H') (by omega) (by omega) ⟨_, _, rfl, h6⟩ ?_ ?_
  · rintro t σ H7 ht ⟨y6, y7, rfl, h7⟩
    have lt : t < As.length := by omega
    have e1 : es[t]? = some (es[t]'(by omega)) := List.getElem?_eq_getElem (by omega)
    generalize es[t]'(by omega) = e_ at e1
    have e2 : ds[t]? = some (ds[t]'(by omega)) := List.getElem?_eq_getElem (by omega)
    generalize ds[t]'(by omega) = d_ at e2
    obtain ⟨C1, eC1, t1⟩ := te.get e1
    obtain ⟨C2, eC2, t2⟩ := ts.get e2
    have e3 : C1 = C2 := Option.some.inj (eC1.symm.trans eC2)
    subst e3
    walk_at "gg"
    refine g_ixL (v := .ref e_) (h7.get (List.Mem.head _)) (atI_nat (by rw [List.getElem?_map, e1]; rfl)) ?_
    walk_at "gg"
    refine g_ixL (v := .ref d_) (h7.same _ _ (sF _ _ hl)) (atI_nat (by rw [List.getElem?_map, e2]; rfl)) ?_
    walk_at "gg"
    refine ⟨e_, d_, C1, rfl, t1.up h7.same, (t2.up sF).up h7.same, (smB C1 (List.mem_of_getElem? eC1)).2.1, fun H8 s8 => ?_⟩
    walk_at "gg"
    exact ⟨_, _, rfl, h7.on s8⟩
  · rintro σ H7 ⟨y6, y7, rfl, h7⟩
    walk_at "gg"
    exact q H7 (sF.trans h7.same)
end

end K08

namespace K08
open PySem PySem.Spec PyProof.Rows L2 Qk
local macro_rules | `(tactic| walk_at "m") => `(tactic| ((repeat (first | exact List.Mem.head _ | apply List.Mem.tail)); done))
local macro_rules | `(tactic| walk_at "h") => `(tactic| first | assumption | exact Has.gF (by assumption) (by assumption) | exact Has.get (by assumption) (by walk_at "m"))
local macro_rules | `(tactic| walk_at "c") => `(tactic| ((repeat (first | exact Chg.hd | apply Chg.tl)); done))
local macro_rules | `(tactic| walk_at "is") => `(tactic| first
  | ((with_reducible refine' is2_non ?gh ?_); (case gh => walk_at "h"))
  | (with_reducible refine is_int_list ?_)
  | (with_reducible refine is_int_tuple ?_)
  | (with_reducible refine is_int_dict ?_)
  | (with_reducible refine is_int_int ?_)
  | (with_reducible refine is_int_bool ?_)
  | (with_reducible refine is_int_str ?_)
  | ((with_reducible refine' is2_int ?gh ?_); (case gh => walk_at "h"))
  | (with_reducible refine is_str_list ?_)
  | (with_reducible refine is_str_tuple ?_)
  | (with_reducible refine is_str_dict ?_)
  | (with_reducible refine is_str_int ?_)
  | (with_reducible refine is_str_bool ?_)
  | (with_reducible refine is_str_str ?_)
  | ((with_reducible refine' is2_str ?gh ?_); (case gh => walk_at "h"))
  | (with_reducible refine is_bool_list ?_)
  | (with_reducible refine is_bool_tuple ?_)
  | (with_reducible refine is_bool_dict ?_)
  | (with_reducible refine is_bool_int ?_)
  | (with_reducible refine is_bool_bool ?_)
  | (with_reducible refine is_bool_str ?_)
  | ((with_reducible refine' is2_bool ?gh ?_); (case gh => walk_at "h"))
  | ((with_reducible refine' is_list_list ?gh ?_); (case gh => walk_at "h"))
  | ((with_reducible refine' is_list_tuple ?gh ?_); (case gh => walk_at "h"))
  | ((with_reducible refine' is_list_dict ?gh ?_); (case gh => walk_at "h"))
  | ((with_reducible refine' is_list_int ?gh ?_); (case gh => walk_at "h"))
  | ((with_reducible refine' is_list_bool ?gh ?_); (case gh => walk_at "h"))
  | ((with_reducible refine' is_list_str ?gh ?_); (case gh => walk_at "h"))
  | ((with_reducible refine' is2_list ?ga ?gb ?_); (case ga => walk_at "h"); (case gb => walk_at "h"))
  | ((with_reducible refine' is_tuple_list ?gh ?_); (case gh => walk_at "h"))
  | ((with_reducible refine' is_tuple_tuple ?gh ?_); (case gh => walk_at "h"))
  | ((with_reducible refine' is_tuple_dict ?gh ?_); (case gh => walk_at "h"))
  | ((with_reducible refine' is_tuple_int ?gh ?_); (case gh => walk_at "h"))
  | ((with_reducible refine' is_tuple_bool ?gh ?_); (case gh => walk_at "h"))
  | ((with_reducible refine' is_tuple_str ?gh ?_); (case gh => walk_at "h"))
  | ((with_reducible refine' is2_tuple ?ga ?gb ?_); (case ga => walk_at "h"); (case gb => walk_at "h"))
  | ((with_reducible refine' is_dict_list ?gh ?_); (case gh => walk_at "h"))
  | ((with_reducible refine' is_dict_tuple ?gh ?_); (case gh => walk_at "h"))
  | ((with_reducible refine' is_dict_dict ?gh ?_); (case gh => walk_at "h"))
  | ((with_reducible refine' is_dict_int ?gh ?_); (case gh => walk_at "h"))
  | ((with_reducible refine' is_dict_bool ?gh ?_); (case gh => walk_at "h"))
  | ((with_reducible refine' is_dict_str ?gh ?_); (case gh => walk_at "h"))
  | ((with_reducible refine' is2_dict ?ga ?gb ?_); (case ga => walk_at "h"); (case gb => walk_at "h")))
local macro_rules | `(tactic| walk_at "g") => `(tactic| first
  | (with_reducible refine g_seq ?_)
  | (with_reducible refine g_asg ?_)
  | ((with_reducible refine g_name ?_); dsimp only [List.set, wipe, List.map])
  | ((with_reducible refine' g_var ?gv ?_); (case gv => exact rfl))
  | (with_reducible refine g_c ?_)
  | (with_reducible refine g_op ?_)
  | (with_reducible refine g_cons ?_)
  | (with_reducible refine g_nil ?_)
  | (with_reducible refine g_cb ?_)
  | (with_reducible refine g_call ?_)
  | (with_reducible refine g_tup ?_)
  | (with_reducible refine g_lst ?_)
  | (with_reducible refine g_bm ?_)
  | (with_reducible refine g_bm0 ?_)
  | ((with_reducible refine' g_kbm ?gh ?_); (case gh => walk_at "h"))
  | (with_reducible refine g_drop ?_)
  | (with_reducible refine g_ret ?_)
  | (with_reducible refine g_retN ?_)
  | (with_reducible refine g_next ?_)
  | (with_reducible refine g_brk ?_)
  | (with_reducible refine g_cont ?_)
  | (with_reducible refine g_if ?_)
  | ((with_reducible refine' g_aug ?gv ?_); (case gv => exact rfl))
  | (with_reducible refine g_ipI ?_)
  | (with_reducible refine g_test ?_)
  | (with_reducible refine g_tB ?_)
  | (with_reducible refine g_kB ?_)
  | (with_reducible refine g_not ?_)
  | (with_reducible refine g_and ?_)
  | (with_reducible refine g_or ?_)
  | (with_reducible refine g_andV ?_)
  | (with_reducible refine g_orV ?_)
  | (with_reducible refine g_notV ?_)
  | (with_reducible refine g_ifE ?_)
  | (with_reducible refine g_addI ?_)
  | (with_reducible refine g_rI0 ?_)
  | (with_reducible refine g_eqI ?_)
  | (with_reducible refine g_eqS ?_)
  | (with_reducible refine g_neI ?_)
  | (with_reducible refine g_neS ?_)
  | (with_reducible refine g_isN ?_)
  | (with_reducible refine g_notN ?_)
  | (with_reducible refine g_int ?_)
  | (with_reducible refine g_max2 ?_)
  | (with_reducible refine g_min2 ?_)
  | ((with_reducible refine' g_lenL ?gh ?_); (case gh => walk_at "h"))
  | (with_reducible refine g_sub ?_)
  | (with_reducible refine g_gcons ?_)
  | (with_reducible refine g_gnil ?_)
  | (with_reducible refine g_un ?_)
  | (with_reducible refine g_rU ?_)
  | (with_reducible refine g_forL ?_)
  | (with_reducible refine g_forS ?_)
  | (with_reducible refine g_forR1 ?_)
  | (with_reducible refine g_forR2 ?_)
  | (with_reducible refine g_forR3 ?_)
  | (with_reducible refine g_lcL ?_)
  | (with_reducible refine g_lcR1 ?_)
  | (with_reducible refine g_lcR2 ?_)
  | (with_reducible refine g_slice ?_)
  | (with_reducible refine g_part ?_)
  | (with_reducible refine g_kOI ?_)
  | (with_reducible refine g_nopart ?_)
  | (with_reducible refine g_yes ?_)
  | ((with_reducible refine' g_wipe ?gv ?_); (case gv => exact rfl))
  | (with_reducible refine iteT ?_)
  | (with_reducible refine iteF ?_)
  | (with_reducible refine i_nf ?_)
  | (with_reducible refine i_nt ?_)
  | ((with_reducible refine' g_gtup ?gh ?gl ?_); (case gh => walk_at "h"); (case gl => exact rfl))
  | ((with_reducible refine' g_notinI ?gh ?_); (case gh => walk_at "h"))
  | ((with_reducible refine' g_inI ?gh ?_); (case gh => walk_at "h"))
  | ((with_reducible refine' g_kget2 ?gh ?_); (case gh => walk_at "h"))
  | ((with_reducible refine' g_kgotI ?gh ?_); (case gh => walk_at "h"))
  | (with_reducible refine g_tRev ?_)
  | (with_reducible refine g_neB ?_)
  | (with_reducible refine g_eqB ?_)
  | ((with_reducible refine' g_lenT ?gh ?_); (case gh => walk_at "h"))
  | (with_reducible refine g_star ?_)
  | ((with_reducible refine' g_kstarL ?gh ?_); (case gh => walk_at "h"))
  | ((with_reducible refine' g_kstarT ?gh ?_); (case gh => walk_at "h"))
  | (with_reducible refine g_tru ?_)
  | ((with_reducible refine' g_truL ?gh ?_); (case gh => walk_at "h"))
  | (with_reducible refine g_get2 ?_)
  | (with_reducible refine g_try ?_)
  | (with_reducible refine g_fld ?_)
  | (with_reducible refine g_sfld ?_)
  | (with_reducible refine g_meth ?_)
  | (with_reducible refine g_make ?_)
  | (with_reducible refine g_del ?_)
  | (with_reducible refine g_callS ?_)
  | (with_reducible refine g_raise ?_)
  | (with_reducible refine g_xf ?_)
  | (with_reducible refine g_m0 ?_)
  | (with_reducible refine g_km0 ?_)
  | walk_at "is")
local macro_rules | `(tactic| walk_at "gg") => `(tactic| repeat walk_at "g")
local macro_rules | `(tactic| walk_at "sz") => `(tactic| (refine sz ?_; simp only [List.length_cons, List.length_nil, List.length_map, List.length_append, List.length_replicate]; omega))
local macro_rules | `(tactic| walk_at "sub") => `(tactic| ((repeat (first | exact List.Sublist.slnil | with_reducible apply List.Sublist.cons_cons | with_reducible apply List.Sublist.cons)); done))

/-! ### the law -/
def gdO (o : Option Tx) : Prop := okO o ∧ lnO o
theorem gd_text (i : Int) : gdO (some (text i)) := ⟨okO_some (text_ok i).1, fun t e => by
  injection e with e
  have := (text_ok i).2
  rw [← e]
  omega⟩
theorem gd_none : gdO none := ⟨okO_none, fun _ e => by cases e⟩
theorem way_nodup (s e : Int) (h : e % 2 = 1) : ((List.range 3).map fun k => way (s + e * (k : Nat))).Nodup := by
  have key : ∀ a < 8, ∀ b < 8, b % 2 = 1 → ((List.range 3).map fun k => wayM.getD ((a + b * k) % 8) "").Nodup := by decide +kernel
  have := key (s % 8).toNat (by omega) (e % 8).toNat (by omega) (by omega)
  have e2 : ((List.range 3).map fun k => way (s + e * (k : Nat))) = ((List.range 3).map fun k => wayM.getD (((s % 8).toNat + (e % 8).toNat * k) % 8) "") := by
    apply List.map_congr_left
    intro k hk
    have hk := List.mem_range.mp hk
    have h3 : k = 0 ∨ k = 1 ∨ k = 2 := by omega
    unfold way
    congr 1
    rcases h3 with rfl | rfl | rfl
    · push_cast
      omega
    · push_cast
      omega
    · push_cast
      omega
  rw [e2]
  exact this
theorem mkT_sm {ps : List Str} {os : List (Option Tx)} (l : ps.length ≤ 4) (hp : ∀ z ∈ ps, PyData.strOk z = true) (ho : ∀ o ∈ os, gdO o) : smT 4 (mkT ps os) := by
  have mem : ∀ p ∈ mkT ps os, p.1 ∈ ps ∧ (some p.2) ∈ os := fun p hp => by
    unfold mkT at hp
    obtain ⟨q, hq, e⟩ := List.mem_filterMap.mp hp
    obtain ⟨t, et, e2⟩ := Option.map_eq_some_iff.mp e
    have := List.of_mem_zip hq
    subst e2
    exact ⟨this.1, et ▸ this.2⟩
  refine ⟨?_, fun p h => ⟨hp _ (mem p h).1, (ho _ (mem p h).2).1 _ rfl⟩, fun p h => (ho _ (mem p h).2).2 _ rfl⟩
  have := (mkT_keys (ps := ps) (os := os)).length_le
  rw [List.length_map] at this
  omega
section
variable {P : Program} {w : World} {K : PySem.W.Frag} {mg : Str → Option Value} {base : Heap}
def sp_law (K : PySem.W.Frag) : Sp := fun vs H Q _ => ∃ (a : Addr) (ns : List Int), vs = [.ref a] ∧ SqL K H a (ns.map V.int) ∧ ns.length ≤ 63 ∧ ∀ H', Q (.bl true) H'
theorem sp_law_len {vs H Q E} (h : sp_law K vs H Q E) : vs.length = 1 := by
  obtain ⟨_, _, rfl, _⟩ := h
  rfl
theorem sp_law_start {H : Hp} {a : Addr} {ns : List Int} (hl : ns.length ≤ 63) (hS : SqL K H a (ns.map V.int)) : sp_law K [.ref a] H (fun v _ => v = .bl true) (fun _ _ _ => False) := ⟨a, ns, rfl, hS, hl, fun _ => rfl⟩
set_option maxHeartbeats 8000000 in
theorem ok_law (T : Txt K mg) : FnOk P w K mg base CX0 8 T.f_law T.fd_law ["script"] (sp_law K) := by
  refine T.F_law.ok sc_law (fun vs H Q E h => sp_law_len h) (fun cdv A outer s H vs Q E hr h => ?_)
  refine ⟨_, (pss_cons (ps_set (i := 1) sc_law.nd rfl (.inr rfl) (pe_call (ok_l_feed T) (hr.mono (by decide)) (by rfl) T.g_l_feed T.F_l_feed.kp T.b_l_feed .nil pass0 (pa_cons (pv 0) pa_nil)))
      (pss_cons (ps_set (i := 2) sc_law.nd rfl (.inr rfl) (pe_lc (own := [("k", 7)]) (g := gName 7) (tt := tYes) rfl sc_law.nd (pi_range1 rfl T.m_range (pa_cons pe_int pa_nil)) (blkOk_by (N := n_law) (sc := defScope s_law) (by decide +kernel)) (fun _ _ _ _ _ => (pg_name (i := 7) sc_law.nd rfl (.inl rfl))) (fun _ _ _ _ _ => pts_nil) (fun _ _ _ _ _ => (pe_call (ok_l_text T) (hr.mono (by decide)) (by rfl) T.g_l_text T.F_l_text.kp T.b_l_text .nil pass0 (pa_cons (pe_op (op_addK K) (pe_call (ok_l_next T) (hr.mono (by decide)) (by rfl) T.g_l_next T.F_l_next.kp T.b_l_next .nil pass0 (pa_cons (pv 1) (pa_cons pe_int pa_nil))) (pe_op op_mulA pe_int (pv 7))) pa_nil)))))
      (pss_cons (ps_set (i := 2) sc_law.nd rfl (.inr rfl) (pe_op (op_addK K) (pe_lst (pa_cons pe_non pa_nil)) (pv 2)))
      (pss_cons (ps_set (i := 3) sc_law.nd rfl (.inl rfl) (pe_ix (ix_K K (hu_of hr)) (pv 2) (pe_op op_mod (pe_callTy cr_int1 (by rfl) T.m_int (by decide +kernel) (pa_cons (pe_op (op_addK K) (pe_call (ok_l_next T) (hr.mono (by decide)) (by rfl) T.g_l_next T.F_l_next.kp T.b_l_next .nil pass0 (pa_cons (pv 1) (pa_cons pe_int pa_nil))) pe_int) pa_nil)) pe_int) (fun _ _ => rfl)))
      (pss_cons (ps_set (i := 4) sc_law.nd rfl (.inl rfl) (pe_op op_sub pe_int (pe_call (ok_l_next T) (hr.mono (by decide)) (by rfl) T.g_l_next T.F_l_next.kp T.b_l_next .nil pass0 (pa_cons (pv 1) (pa_cons pe_int pa_nil)))))
      (pss_cons (ps_setLc (i := 5) (own := [("k", 7)]) (g := gName 7) (tt := tYes) rfl sc_law.nd rfl rfl (sw_true rfl rfl rfl (by decide +kernel)) (pi_range1 rfl T.m_range (pa_cons (pv 4) pa_nil)) (blkOk_by (N := n_law) (sc := defScope s_law) (by decide +kernel)) (fun _ _ _ _ _ => (pg_name (i := 7) sc_law.nd rfl (.inl rfl))) (fun _ _ _ _ _ => pts_nil) (fun _ _ _ _ _ => (pe_ix (ix_K K (hu_of hr)) (pv 2) (pe_op op_mod (pe_callTy cr_int1 (by rfl) T.m_int (by decide +kernel) (pa_cons (pe_op (op_addK K) (pe_op (op_addK K) (pe_call (ok_l_next T) (hr.mono (by decide)) (by rfl) T.g_l_next T.F_l_next.kp T.b_l_next .nil pass0 (pa_cons (pv 1) (pa_cons pe_int pa_nil))) pe_int) (pe_op op_mod (pv 7) pe_int)) pa_nil)) pe_int) (fun _ _ => rfl))))
      (pss_cons (ps_set (i := 6) sc_law.nd rfl (.inl rfl) (pe_call (ok_l_chosen T) (hr.mono (by decide)) (by rfl) T.g_l_chosen T.F_l_chosen.kp T.b_l_chosen .nil pass0 (pa_cons (pv 3) (pa_cons (pv 5) pa_nil))))
      (pss_cons (ps_for PassesOwn.never rfl (pi_range1 rfl T.m_range (pa_cons pe_int pa_nil)) (pg_name (i := 7) sc_law.nd rfl (.inl rfl)) (pss_one (ps_if (pt_not (pt_val (pe_call (ok_l_chooses T) (hr.mono (by decide)) (by rfl) T.g_l_chooses T.F_l_chooses.kp T.b_l_chooses .nil pass0 (pa_cons (pv 3) (pa_cons (pe_op (op_addK K) (pe_slice (sl_M K) (pv 5) (po_some (pv 7)) po_none) (pe_slice (sl_M K) (pv 5) po_none (po_some (pv 7)))) (pa_cons (pv 6) pa_nil)))))) (pss_one (ps_ret pe_bl)) pss_nil)))
      (pss_cons (ps_if (pt_not (pt_val (pe_call (ok_l_chooses T) (hr.mono (by decide)) (by rfl) T.g_l_chooses T.F_l_chooses.kp T.b_l_chooses .nil pass0 (pa_cons (pv 3) (pa_cons (k_rev K (pe_revL (pv 5))) (pa_cons (pv 6) pa_nil)))))) (pss_one (ps_ret pe_bl)) pss_nil)
      (pss_cons (ps_if (pt_not (pt_val (pe_call (ok_l_chooses T) (hr.mono (by decide)) (by rfl) T.g_l_chooses T.F_l_chooses.kp T.b_l_chooses .nil pass0 (pa_cons (pv 3) (pa_cons (pe_op (op_addK K) (pe_op (op_addK K) (pv 5) (pv 5)) (pe_lst (pa_cons (pv 3) pa_nil))) (pa_cons (pv 6) pa_nil)))))) (pss_one (ps_ret pe_bl)) pss_nil)
      (pss_cons (ps_if (pt_not (pt_val (pe_call (ok_l_chooses T) (hr.mono (by decide)) (by rfl) T.g_l_chooses T.F_l_chooses.kp T.b_l_chooses .nil pass0 (pa_cons (pv 3) (pa_cons (pe_lst pa_nil) (pa_cons (pv 3) pa_nil)))))) (pss_one (ps_ret pe_bl)) pss_nil)
      (pss_cons (ps_set (i := 8) sc_law.nd rfl (.inr rfl) (pe_call (ok_l_next T) (hr.mono (by decide)) (by rfl) T.g_l_next T.F_l_next.kp T.b_l_next .nil pass0 (pa_cons (pv 1) (pa_cons pe_int pa_nil))))
      (pss_cons (ps_set (i := 9) sc_law.nd rfl (.inr rfl) (pe_ix (ix_K K (hu_of hr)) (pe_lst (pa_cons pe_int (pa_cons pe_int (pa_cons pe_int (pa_cons pe_int pa_nil))))) (pe_call (ok_l_next T) (hr.mono (by decide)) (by rfl) T.g_l_next T.F_l_next.kp T.b_l_next .nil pass0 (pa_cons (pv 1) (pa_cons pe_int pa_nil))) (fun _ _ => rfl)))
      (pss_cons (ps_setLc (i := 10) (own := [("k", 7)]) (g := gName 7) (tt := tYes) rfl sc_law.nd rfl rfl (sw_true rfl rfl rfl (by decide +kernel)) (pi_range1 rfl T.m_range (pa_cons pe_int pa_nil)) (blkOk_by (N := n_law) (sc := defScope s_law) (by decide +kernel)) (fun _ _ _ _ _ => (pg_name (i := 7) sc_law.nd rfl (.inl rfl))) (fun _ _ _ _ _ => pts_nil) (fun _ _ _ _ _ => (pe_call (ok_l_way T) (hr.mono (by decide)) (by rfl) T.g_l_way T.F_l_way.kp T.b_l_way .nil pass0 (pa_cons (pe_op (op_addK K) (pv 8) (pe_op op_mulA (pv 9) (pv 7))) pa_nil))))
      (pss_cons (ps_set (i := 11) sc_law.nd rfl (.inl rfl) (pe_lst pa_nil))
      (pss_cons (ps_for PassesOwn.never rfl (pi_range1 rfl T.m_range (pa_cons (pe_op op_sub pe_int (pe_call (ok_l_next T) (hr.mono (by decide)) (by rfl) T.g_l_next T.F_l_next.kp T.b_l_next .nil pass0 (pa_cons (pv 1) (pa_cons pe_int pa_nil)))) pa_nil)) (pg_name (i := 12) sc_law.nd rfl (.inr rfl)) (pss_cons (ps_setLc (i := 13) (own := [("k", 7)]) (g := gName 7) (tt := tYes) rfl sc_law.nd rfl rfl (sw_true rfl rfl rfl (by decide +kernel)) (pi_range1 rfl T.m_range (pa_cons pe_int pa_nil)) (blkOk_by (N := n_law) (sc := defScope s_law) (by decide +kernel)) (fun _ _ _ _ _ => (pg_name (i := 7) sc_law.nd rfl (.inl rfl))) (fun _ _ _ _ _ => pts_nil) (fun _ _ _ _ _ => (pe_op (op_addK K) (pe_op (op_addK K) (pe_call (ok_l_next T) (hr.mono (by decide)) (by rfl) T.g_l_next T.F_l_next.kp T.b_l_next .nil pass0 (pa_cons (pv 1) (pa_cons pe_int pa_nil))) pe_int) (pe_op op_mulA (pv 12) (pv 7)))))
      (pss_one (ps_expr (k_bm K (pe_bm PySem.F.plainAttrs_list PySem.F.slot_list_append PySem.F.type_list_append mt_append (pv 11) (pa_cons (pe_call (ok_l_made T) (hr.mono (by decide)) (by rfl) T.g_l_made T.F_l_made.kp T.b_l_made .nil pass0 (pa_cons (pv 10) (pa_cons (pe_lc (own := [("pick", 17)]) (g := gName 17) (tt := tYes) rfl sc_law.nd (k_il K (pi_list (pv 13))) (blkOk_by (N := n_law) (sc := defScope s_law) (by decide +kernel)) (fun _ _ _ _ _ => (pg_name (i := 17) sc_law.nd rfl (.inl rfl))) (fun _ _ _ _ _ => pts_nil) (fun _ _ _ _ _ => (pe_ix (ix_K K (hu_of hr)) (pv 2) (pe_op op_mod (pe_callTy cr_int1 (by rfl) T.m_int (by decide +kernel) (pa_cons (pv 17) pa_nil)) pe_int) (fun _ _ => rfl)))) pa_nil))) pa_nil)))))))
      (pss_cons (ps_set (i := 14) sc_law.nd rfl (.inl rfl) (pe_ix (ix_K K (hu_of hr)) (pv 11) pe_int (fun _ _ => rfl)))
      (pss_cons (ps_set (i := 15) sc_law.nd rfl (.inl rfl) (pe_slice (sl_M K) (pv 11) (po_some pe_int) po_none))
      (pss_cons (ps_set (i := 6) sc_law.nd rfl (.inl rfl) (pe_call (ok_l_chosen_tree T) (hr.mono (by decide)) (by rfl) T.g_l_chosen_tree T.F_l_chosen_tree.kp T.b_l_chosen_tree .nil pass0 (pa_cons (pv 14) (pa_cons (pv 15) pa_nil))))
      (pss_cons (ps_for PassesOwn.never rfl (k_il K (pi_list (pe_lst (pa_cons (pv 15) (pa_cons (k_rev K (pe_revL (pv 15))) (pa_cons (pe_op (op_addK K) (pv 15) (pv 15)) pa_nil)))))) (pg_name (i := 16) sc_law.nd rfl (.inl rfl)) (pss_one (ps_if (pt_not (pt_val (pe_call (ok_l_chooses_tree T) (hr.mono (by decide)) (by rfl) T.g_l_chooses_tree T.F_l_chooses_tree.kp T.b_l_chooses_tree .nil pass0 (pa_cons (pv 14) (pa_cons (pv 16) (pa_cons (pv 6) pa_nil)))))) (pss_one (ps_ret pe_bl)) pss_nil)))
      (pss_one (ps_ret (pe_call (ok_l_chooses_tree T) (hr.mono (by decide)) (by rfl) T.g_l_chooses_tree T.F_l_chooses_tree.kp T.b_l_chooses_tree .nil pass0 (pa_cons (pv 14) (pa_cons (pe_lst pa_nil) (pa_cons (pe_call (ok_l_rising T) (hr.mono (by decide)) (by rfl) T.g_l_rising T.F_l_rising.kp T.b_l_rising .nil pass0 (pa_cons (pv 14) pa_nil)) pa_nil)))))))))))))))))))))))))), ?_⟩
  obtain ⟨sc, ns, rfl, hS, hl, q⟩ := h
  refine g_start (σ' := [some (.ref sc), none, none, none, none, none, none, none, none, none, none, none, none, none, none, none, none, none]) rfl ?_
  walk_at "gg"
  refine ⟨sc, ns, rfl, hS, hl, fun c H1 F1 wc rows n1 s1 h1 dqc lr => ?_⟩
  walk_at "gg"
  -- the texts
  refine k_lcR1 (by decide) (by decide) h1 (fun i acc F' O' => ∃ (ts : List Tx) (wc : List V) (rows : List (Int × Int)), DqAll F' acc ((ts.map some).map oxD) ∧ ts.length = i ∧ (∀ t ∈ ts, gdO (some t)) ∧ [(c, HO.lst wc)] = O' ∧ DqAll F' wc (rows.map cellD) ∧ rows.length ≤ 100) ⟨[], wc, rows, .nil, rfl, by simp, rfl, dqc, lr⟩ ?_ ?_
  · rintro i acc F' O' D H2 hi ⟨ts, wc, rows, da, rfl, gts, rfl, dqc, lr⟩ hh
    have la := da.len
    rw [List.length_map, List.length_map] at la
    have hi' : ts.length < 3 := hi
    walk_at "gg"
    refine ⟨c, 8, F', wc, rows, rfl, hh.drop, dqc, lr, by decide, by decide, fun H3 F3 wc3 rows3 r hb g hs dq3 l3 r0 r1 => ?_⟩
    have h3 := hh.grown (by walk_at "c") hb g hs.same (hs.get (List.Mem.head _))
    walk_at "gg"
    refine g_mulI (.inl ⟨by decide, by decide⟩) ?_
    walk_at "gg"
    refine ⟨_, rfl, fun p H4 s4 n4 hp => ?_⟩
    have h4 := h3.made n4 s4 hp
    have sG := h4.grow
    have h5 := h4.frz
    refine k_turn h5 (by omega) ⟨ts ++ [text (r + 3 * (ts.length : Nat))], wc3, rows3, ?_, by rw [List.length_append]; rfl, fun t ht => ?_, rfl, dq3.up sG _ _, l3⟩
    · rw [List.map_append, List.map_append]
      exact (da.up (g.1.trans sG) _ _).snoc (Dq.strs (xs := text (r + 3 * (ts.length : Nat))) upd_same)
    · rcases List.mem_append.mp ht with ht | ht
      · exact gts t ht
      · rw [List.mem_singleton.mp ht]
        exact gd_text _
  rintro acc F2 O2 t0 H2 ⟨ts, wc, rows, da, lts, gts, rfl, dqc, lr⟩ h2
  have lts : ts.length = 3 := lts
  have la := ox_len da
  rw [List.length_map] at la
  walk_at "gg"
  refine g_klst (by walk_at "sz") h2 (fun t1 H3 n3 h3 => ?_)
  walk_at "gg"
  refine g_addL (h3.get (List.Mem.head _)) (h3.get (by walk_at "m")) (sz (by rw [List.length_cons, List.length_nil]; omega)) h3 (fun tx H4 n4 h4 => ?_)
  have h := h4.sub (O' := [(tx, .lst ([V.non] ++ acc)), (c, .lst wc)]) (by walk_at "sub")
  have sG := h.grow
  have h := h.frz
  have dqT : DqAll (upd F2 tx (.lst ([V.non] ++ acc))) ([V.non] ++ acc) ((none :: ts.map some).map oxD) := .cons .non (da.up sG _ _)
  have ftx : upd F2 tx (.lst ([V.non] ++ acc)) tx = some (.lst ([V.non] ++ acc)) := upd_same
  have dqc := dqc.up sG _ _
  have lT : ([V.non] ++ acc).length = 4 := by rw [List.length_append, la, lts]; rfl
  have gdT : ∀ o ∈ none :: ts.map some, gdO o := fun o ho => by
    rcases List.mem_cons.mp ho with rfl | ho
    · exact gd_none
    · obtain ⟨t, ht, rfl⟩ := List.mem_map.mp ho
      exact gts t ht
  generalize upd F2 tx (.lst ([V.non] ++ acc)) = F at h dqT ftx dqc
  generalize (none :: ts.map some) = oT at dqT gdT
  generalize [V.non] ++ acc = wT at h dqT ftx lT
  clear h2 h3 h4 sG da la gts lts n3 n4 h1 s1 n1
  -- the base
  walk_at "gg"
  refine ⟨c, 4, F, wc, rows, rfl, h, dqc, lr, by decide, by decide, fun H5 F wc rows r hb g hs dqc lr r0 r1 => ?_⟩
  have h := h.grown .hd hb g hs.same (hs.get (List.Mem.head _))
  have dqT := dqT.up g.1 _ _
  have ftx := g.1 _ _ ftx
  walk_at "gg"
  refine g_rI (by show (0 : Int) < 4; decide) ?_
  refine g_ixV (h.same _ _ ftx) (Int.emod_nonneg _ (by decide)) (by rw [lT]; exact Int.emod_lt_of_pos _ (by decide)) (fun bv hbv => ?_)
  obtain ⟨b, eb, db⟩ := ox_at dqT hbv
  have gb := gdT b (List.mem_of_getElem? eb)
  clear hb g hs r0 r1 hbv eb r
  walk_at "gg"
  refine ⟨c, 5, F, wc, rows, rfl, h, dqc, lr, by decide, by decide, fun H5 F wc rows r hb g hs dqc lr r0 r1 => ?_⟩
  have h := h.grown .hd hb g hs.same (hs.get (List.Mem.head _))
  have dqT := dqT.up g.1 _ _
  have ftx := g.1 _ _ ftx
  have db := db.up g.1 _ _
  clear hb g hs
  obtain ⟨m, em⟩ := Int.eq_ofNat_of_zero_le (show 0 ≤ 4 - r by omega)
  have lm : m ≤ 4 := by omega
  walk_at "gg"
  rw [em]
  -- the values
  refine k_lcR1 (by omega) (by omega) h (fun i acc F' O' => ∃ (os : List (Option Tx)) (wc : List V) (rows : List (Int × Int)), DqAll F' acc (os.map oxD) ∧ os.length = i ∧ (∀ o ∈ os, gdO o) ∧ Same F F' ∧ [(c, HO.lst wc)] = O' ∧ DqAll F' wc (rows.map cellD) ∧ rows.length ≤ 100) ⟨[], wc, rows, .nil, rfl, by simp, Same.refl _, rfl, dqc, lr⟩ ?_ ?_
  · rintro i acc F' O' D H2 hi ⟨os, wc, rows, da, rfl, gos, sF, rfl, dqc, lr⟩ hh
    have la := ox_len da
    walk_at "gg"
    refine ⟨c, 4, F', wc, rows, rfl, hh.drop, dqc, lr, by decide, by decide, fun H3 F3 wc3 rows3 r hb g hs dq3 l3 r0 r1 => ?_⟩
    have h3 := hh.grown (by walk_at "c") hb g hs.same (hs.get (List.Mem.head _))
    walk_at "gg"
    refine g_rI (by show (0 : Int) < 2; decide) ?_
    walk_at "gg"
    refine g_rI (by show (0 : Int) < 4; decide) ?_
    refine g_ixV (h3.same _ _ (g.1 _ _ (sF _ _ ftx))) (Int.emod_nonneg _ (by decide)) (by rw [lT]; exact Int.emod_lt_of_pos _ (by decide)) (fun v hv => ?_)
    obtain ⟨o, eo, dv⟩ := ox_at dqT hv
    refine k_turn h3 (by omega) ⟨os ++ [o], wc3, rows3, ?_, by rw [List.length_append]; rfl, fun x hx => ?_, sF.trans g.1, rfl, dq3, l3⟩
    · rw [List.map_append]
      exact (da.up g.1 _ _).snoc (dv.up (sF.trans g.1) _ _)
    · rcases List.mem_append.mp hx with hx | hx
      · exact gos x hx
      · rw [List.mem_singleton.mp hx]
        exact gdT o (List.mem_of_getElem? eo)
  rintro wV F2 O2 va H2 ⟨oV, wc, rows, dqV, loV, gdV, sF, rfl, dqc, lr⟩ h2
  have loV : oV.length ≤ 4 := by omega
  have lV := ox_len dqV
  have sG := h2.grow
  have h := h2.frz
  have fva : upd F2 va (.lst wV) va = some (.lst wV) := upd_same
  have dqV := dqV.up sG _ _
  have dqc := dqc.up sG _ _
  have sF := sF.trans sG
  have dqT := dqT.up sF _ _
  have ftx := sF _ _ ftx
  have db := db.up sF _ _
  clear h2 sG r0 r1 sF
  generalize upd F2 va (.lst wV) = F at h fva dqV dqc dqT ftx db
  walk_at "gg"
  refine ⟨bv, va, wV, b, oV, F, rfl, h.same, db, h.same _ _ fva, dqV, by omega, gb.1, fun o ho => (gdV o ho).1, fun dv H3 s3 dd => ?_⟩
  have h := h.on s3
  clear s3
  walk_at "gg"
  refine k_forR1 (fun t σ H' => ∃ (y7 : Option V), σ = [some (.ref sc), some (.ref c), some (.ref tx), some bv, some (.int (4 - r)), some (.ref va), some dv, y7, none, none, none, none, none, none, none, none, none, none] ∧ Has F [(c, .lst wc)] H') (by decide) (by decide) ⟨_, by rw [em], h⟩ ?_ ?_
  · rintro t σ H4 ht ⟨y7, rfl, h4⟩
    have ht' : t < 3 := ht
    walk_at "gg"
    refine g_slM (g_slS (SqL.of (h4.same _ _ fva)) h4 (fun p1 H5 n5 h5 => ?_))
    rw [cutV_from] at h5
    walk_at "gg"
    refine g_slM (g_slS (SqL.of (h5.same _ _ fva)) h5 (fun p2 H6 n6 h6 => ?_))
    rw [cutV_to] at h6
    refine g_addL (h6.get (by walk_at "m")) (h6.get (List.Mem.head _)) (sz (by rw [List.length_drop, List.length_take]; omega)) h6 (fun p3 H7 n7 h7 => ?_)
    walk_at "gg"
    have ec : cho b (oV.drop t ++ oV.take t) = cho b oV := cho_congr fun v _ => by
      rw [List.mem_append]
      conv => rhs; rw [← List.take_append_drop t oV]
      rw [List.mem_append]
      exact Or.comm
    have go : ∀ o ∈ oV.drop t ++ oV.take t, gdO o := fun o ho => by
      rcases List.mem_append.mp ho with ho | ho
      · exact gdV o (List.mem_of_mem_drop ho)
      · exact gdV o (List.mem_of_mem_take ho)
    refine ⟨bv, dv, p3, _, b, oV.drop t ++ oV.take t, rfl, db.up h7.same _ _, h7.get (List.Mem.head _), ?_, by rw [List.length_append, List.length_drop, List.length_take]; omega, gb.1, fun o ho => (go o ho).1, gb.2, fun o ho => (go o ho).2, by rw [ec]; exact dd.up h7.same _ _, fun H8 s8 => ?_⟩
    · rw [List.map_append, List.map_drop, List.map_take]
      exact ((dqV.up h7.same _ _).dro t).app ((dqV.up h7.same _ _).tak t)
    walk_at "gg"
    exact ⟨_, rfl, (h7.on s8).sub (by walk_at "sub")⟩
  rintro σ H4 ⟨y7, rfl, h⟩
  walk_at "gg"
  refine g_rRev (h.same _ _ fva) h (fun p1 H5 n5 h5 => ?_)
  walk_at "gg"
  have ec : cho b oV.reverse = cho b oV := cho_congr fun v _ => List.mem_reverse
  refine ⟨bv, dv, p1, _, b, oV.reverse, rfl, db.up h5.same _ _, h5.get (List.Mem.head _), by rw [List.map_reverse]; exact (dqV.up h5.same _ _).rev, by rw [List.length_reverse]; omega, gb.1, fun o ho => (gdV o (List.mem_reverse.mp ho)).1, gb.2, fun o ho => (gdV o (List.mem_reverse.mp ho)).2, by rw [ec]; exact dd.up h5.same _ _, fun H6 s6 => ?_⟩
  have h := (h5.on s6).drop
  clear h5 s6 n5 ec
  walk_at "gg"
  refine g_addL (h.same _ _ fva) (h.same _ _ fva) (sz (by omega)) h (fun p2 H7 n7 h7 => ?_)
  walk_at "gg"
  refine g_klst (by walk_at "sz") h7 (fun p3 H8 n8 h8 => ?_)
  refine g_addL (h8.get (by walk_at "m")) (h8.get (List.Mem.head _)) (sz (by rw [List.length_append]; show _ + 1 ≤ _; omega)) h8 (fun p4 H9 n9 h9 => ?_)
  walk_at "gg"
  have ec : cho b (oV ++ oV ++ [b]) = cho b oV := cho_congr fun v hv => by
    rw [List.mem_append, List.mem_append, List.mem_singleton]
    constructor
    · rintro ((h | h) | h)
      · exact h
      · exact h
      · exact (hv h).elim
    · exact fun h => .inl (.inl h)
  have go : ∀ o ∈ oV ++ oV ++ [b], gdO o := fun o ho => by
    rw [List.mem_append, List.mem_append, List.mem_singleton] at ho
    rcases ho with (ho | ho) | rfl
    · exact gdV o ho
    · exact gdV o ho
    · exact gb
  refine ⟨bv, dv, p4, _, b, oV ++ oV ++ [b], rfl, db.up h9.same _ _, h9.get (List.Mem.head _), ?_, by rw [List.length_append, List.length_append]; show _ + 1 ≤ _; omega, gb.1, fun o ho => (go o ho).1, gb.2, fun o ho => (go o ho).2, by rw [ec]; exact dd.up h9.same _ _, fun H10 s10 => ?_⟩
  · rw [List.map_append, List.map_append]
    exact ((dqV.up h9.same _ _).app (dqV.up h9.same _ _)).app (.cons (db.up h9.same _ _) .nil)
  have h := (h9.on s10).sub (O' := [(c, .lst wc)]) (by walk_at "sub")
  clear h7 h8 h9 s10 n7 n8 n9 ec go
  walk_at "gg"
  refine g_klst (by walk_at "sz") h (fun p5 H11 n11 h11 => ?_)
  walk_at "gg"
  refine ⟨bv, bv, p5, [], b, [], rfl, db.up h11.same _ _, h11.get (List.Mem.head _), .nil, by decide, gb.1, (fun o ho => by cases ho), gb.2, (fun o ho => by cases ho), by rw [cho_nil]; exact db.up h11.same _ _, fun H12 s12 => ?_⟩
  have h := (h11.on s12).drop
  clear h11 s12 n11 dd dqV fva gdV loV lV db gb
  -- the paths
  walk_at "gg"
  refine ⟨c, 8, F, wc, rows, rfl, h, dqc, lr, by decide, by decide, fun H5 F wc rows st hb g hs dqc lr st0 st1 => ?_⟩
  have h := h.grown .hd hb g hs.same (hs.get (List.Mem.head _))
  have dqT := dqT.up g.1 _ _
  have ftx := g.1 _ _ ftx
  clear hb g hs
  walk_at "gg"
  refine g_klst (by walk_at "sz") h (fun p6 H6 n6 h6 => ?_)
  walk_at "gg"
  refine ⟨c, 4, F, wc, rows, rfl, h6.drop, dqc, lr, by decide, by decide, fun H7 F wc rows ix hb g hs dqc lr i0 i1 => ?_⟩
  have h7 := h6.grown (by walk_at "c") hb g hs.same (hs.get (List.Mem.head _))
  have dqT := dqT.up g.1 _ _
  have ftx := g.1 _ _ ftx
  refine g_ixI (xs := [3, 1, 5, 7]) (h7.get (List.Mem.head _)) i0 (by exact i1) (fun stp hst => ?_)
  have hodd : stp % 2 = 1 := by
    have := List.mem_of_getElem? hst
    simp only [List.mem_cons, List.not_mem_nil, or_false] at this
    omega
  have lst : 0 ≤ stp ∧ stp ≤ 7 := by
    have := List.mem_of_getElem? hst
    simp only [List.mem_cons, List.not_mem_nil, or_false] at this
    omega
  have h := h7.drop
  clear hb g hs h6 h7 n6 hst i0 i1
  walk_at "gg"
  refine k_lcR1 (by decide) (by decide) h (fun i acc F' O' => acc = (((List.range i).map fun k => way (st + stp * (k : Nat)))).map V.str ∧ F = F' ∧ O' = [(c, HO.lst wc)]) ⟨rfl, rfl, rfl⟩ ?_ ?_
  · rintro i acc F' O' D H2 hi ⟨rfl, rfl, rfl⟩ hh
    have hi' : i < 3 := hi
    walk_at "gg"
    refine g_mulI (.inl ⟨by omega, by omega⟩) ?_
    walk_at "gg"
    refine ⟨_, rfl, fun H3 s3 => ?_⟩
    refine k_turn (hh.on s3) (by rw [List.length_map, List.length_map, List.length_range]; omega) ⟨?_, rfl, rfl⟩
    rw [List.range_succ, List.map_append, List.map_append]
    rfl
  rintro acc F2 O2 pl H2 ⟨rfl, rfl, rfl⟩ h2
  have e3 : ((3 : Int)).toNat = 3 := rfl
  rw [e3] at h2
  have ndp := way_nodup st stp hodd
  have okp : ∀ z ∈ (List.range 3).map fun k => way (st + stp * (k : Nat)), PyData.strOk z = true := fun z hz => by
    obtain ⟨k, _, rfl⟩ := List.mem_map.mp hz
    exact way_ok _
  have lp : ((List.range 3).map fun k => way (st + stp * (k : Nat))).length = 3 := rfl
  generalize ((List.range 3).map fun k => way (st + stp * (k : Nat))) = ps at h2 ndp okp lp
  have sG := h2.grow
  have h := h2.frz
  have fpl : upd F pl (.lst (ps.map V.str)) pl = some (.lst (ps.map V.str)) := upd_same
  have dqT := dqT.up sG _ _
  have ftx := sG _ _ ftx
  have dqc := dqc.up sG _ _
  clear h2 sG
  generalize upd F pl (.lst (ps.map V.str)) = F at h fpl dqT ftx dqc
  -- the trees
  walk_at "gg"
  refine g_klst (by walk_at "sz") h (fun tl H3 n3 h3 => ?_)
  walk_at "gg"
  refine ⟨c, 5, F, wc, rows, rfl, h3.drop, dqc, lr, by decide, by decide, fun H5 F wc rows r2 hb g hs dqc lr r0 r1 => ?_⟩
  have h := h3.grown (by walk_at "c") hb g hs.same (hs.get (List.Mem.head _))
  have dqT := dqT.up g.1 _ _
  have ftx := g.1 _ _ ftx
  have fpl := g.1 _ _ fpl
  clear hb g hs h3 n3
  obtain ⟨mt, emt⟩ := Int.eq_ofNat_of_zero_le (show 0 ≤ 5 - r2 by omega)
  have lmt : 1 ≤ mt ∧ mt ≤ 5 := by omega
  walk_at "gg"
  rw [emt]
  refine k_forR1 (fun t σ H' => ∃ (F' : Hp) (ds : List Addr) (As : List Tr) (wc : List V) (rows : List (Int × Int)) (y7 y12 y13 : Option V), σ = [some (.ref sc), some (.ref c), some (.ref tx), some bv, some (.int (4 - r)), some (.ref va), some dv, y7, some (.int st), some (.int stp), some (.ref pl), some (.ref tl), y12, y13, none, none, none, none] ∧ Same F F' ∧ Has F' [(tl, .lst (ds.map V.ref)), (c, .lst wc)] H' ∧ Trs F' ds As ∧ As.length = t ∧ (∀ A ∈ As, smT 4 A) ∧ DqAll F' wc (rows.map cellD) ∧ rows.length ≤ 100) (by omega) (by omega)
    ⟨F, [], [], wc, rows, _, _, _, rfl, Same.refl _, h, .nil, rfl, (fun A hA => by cases hA), dqc, lr⟩ ?_ ?_
  · rintro t σ H2 ht ⟨F', ds, As, wc, rows, y7, y12, y13, rfl, sF, h2, ts_, lAs, smA, dqc, lr⟩
    have dqT := dqT.up sF _ _
    have ftx := sF _ _ ftx
    have fpl := sF _ _ fpl
    have lds := ts_.len
    have ht' : t < mt := by omega
    walk_at "gg"
    refine k_lcR1 (by decide) (by decide) h2 (fun i acc F2 O' => ∃ (ks : List Int) (wc : List V) (rows : List (Int × Int)), acc = ks.map V.int ∧ ks.length = i ∧ Same F' F2 ∧ [(tl, HO.lst (ds.map V.ref)), (c, HO.lst wc)] = O' ∧ DqAll F2 wc (rows.map cellD) ∧ rows.length ≤ 100) ⟨[], wc, rows, rfl, rfl, Same.refl _, rfl, dqc, lr⟩ ?_ ?_
    · rintro i acc F2 O' D H3 hi ⟨ks, wc, rows, rfl, rfl, sF2, rfl, dqc, lr⟩ hh
      have hi' : ks.length < 3 := hi
      walk_at "gg"
      refine ⟨c, 4, F2, wc, rows, rfl, hh.sub (by walk_at "sub"), dqc, lr, by decide, by decide, fun H5 F wc rows r5 hb g hs dqc lr r0 r1 => ?_⟩
      have h5 := hh.grown (by walk_at "c") hb g hs.same (hs.get (List.Mem.head _))
      walk_at "gg"
      refine g_mulI (.inl ⟨by omega, by omega⟩) ?_
      walk_at "gg"
      exact k_turn h5 (by rw [List.length_map]; omega) ⟨ks ++ [_], wc, rows, by rw [List.map_append]; rfl, by rw [List.length_append]; rfl, sF2.trans g.1, rfl, dqc, lr⟩
    rintro acc F2 O2 pk H3 ⟨ks, wc3, rows3, rfl, lks, sF2, rfl, dqc3, lr3⟩ h3
    have lks : ks.length = 3 := lks
    have dqT := dqT.up sF2 _ _
    have ftx := sF2 _ _ ftx
    have fpl := sF2 _ _ fpl
    have ts_ := ts_.up sF2
    walk_at "gg"
    refine k_lcL (h3.get (List.Mem.head _)) h3 (fun i acc F3 O' => ∃ os : List (Option Tx), DqAll F2 acc (os.map oxD) ∧ os.length = i ∧ (∀ o ∈ os, gdO o) ∧ F2 = F3 ∧ O' = [(pk, .lst (ks.map V.int)), (tl, HO.lst (ds.map V.ref)), (c, HO.lst wc3)]) ⟨[], .nil, rfl, by simp, rfl, rfl⟩ ?_ ?_ ?_
    · rintro i acc F3 O' H4 ⟨_, _, _, _, rfl, rfl⟩ hh
      exact hh.get (List.Mem.head _)
    · rintro i v acc F3 O' D H4 hv ⟨os, da, rfl, gos, rfl, rfl⟩ hh
      rw [List.getElem?_map] at hv
      obtain ⟨k, hk, rfl⟩ := Option.map_eq_some_iff.mp hv
      have lk := (List.getElem?_eq_some_iff.mp hk).1
      have la := ox_len da
      walk_at "gg"
      refine g_rI (by show (0 : Int) < 4; decide) ?_
      refine g_ixV (hh.same _ _ ftx) (Int.emod_nonneg _ (by decide)) (by rw [lT]; exact Int.emod_lt_of_pos _ (by decide)) (fun v hv => ?_)
      obtain ⟨o, eo, dv⟩ := ox_at dqT hv
      refine k_turn hh (by omega) ⟨os ++ [o], ?_, by rw [List.length_append]; rfl, fun x hx => ?_, rfl, rfl⟩
      · rw [List.map_append]
        exact da.snoc dv
      · rcases List.mem_append.mp hx with hx | hx
        · exact gos x hx
        · rw [List.mem_singleton.mp hx]
          exact gdT o (List.mem_of_getElem? eo)
    rintro acc F3 O3 q4 H4 ⟨os, da, los, gos, rfl, rfl⟩ h4
    rw [List.length_map, lks] at los
    walk_at "gg"
    refine ⟨pl, q4, ps, acc, os, rfl, h4.same _ _ fpl, h4.get (List.Mem.head _), da.up h4.same _ _, by omega, by omega, ndp, fun d B H5 h5 eB => ?_⟩
    obtain ⟨F5, sF5, h5, nw⟩ := h4.join h5
    have nB : (B.map (·.1)).Nodup := by rw [← bA_keys, eB]; exact mkT_keys.nodup ndp
    have tn : TrAt F5 d (mkT ps os) := by rw [← eB]; exact tr_own nw nB
    have h5 := h5.sub (O' := [(tl, HO.lst (ds.map V.ref)), (c, HO.lst wc3)]) (by walk_at "sub")
    walk_at "gg"
    refine g_append h5 .hd (szl (by rw [List.length_map]; omega)) (fun H6 h6 => ?_)
    walk_at "gg"
    refine ⟨F5, ds ++ [d], As ++ [mkT ps os], wc3, rows3, _, _, _, rfl, (sF.trans sF2).trans sF5, ?_, (ts_.up sF5).snoc tn, by rw [List.length_append, lAs]; rfl, fun A hA => ?_, dqc3.up sF5 _ _, lr3⟩
    · rw [List.map_append]
      exact h6
    · rcases List.mem_append.mp hA with hA | hA
      · exact smA A hA
      · rw [List.mem_singleton.mp hA]
        exact mkT_sm (by omega) okp gos
  rintro σ H3 ⟨F', ds, As, wc3, rows3, y7, y12, y13, rfl, sF, h3, tt, lAs, smA, _, _⟩
  have lAs : As.length = mt := by omega
  have lds := tt.len
  clear dqT ftx fpl dqc lr h
  obtain ⟨d0, ds', rfl⟩ : ∃ d0 ds', ds = d0 :: ds' := by
    cases ds with
    | nil => rw [List.length_nil] at lds; omega
    | cons d0 ds' => exact ⟨d0, ds', rfl⟩
  cases tt with
  | @cons _ A0 _ As' t0 tr =>
  have ldr := tr.len
  rw [List.length_cons] at lAs
  have sm0 := smA A0 List.mem_cons_self
  have smR : ∀ A ∈ As', smT 4 A := fun A hA => smA A (List.mem_cons_of_mem _ hA)
  walk_at "gg"
  refine g_ixL (v := .ref d0) (h3.get (List.Mem.head _)) (atI_nat (j := 0) rfl) ?_
  walk_at "gg"
  refine g_slM (g_slS (SqL.of (h3.get (List.Mem.head _))) h3 (fun rs H4 n4 h4 => ?_))
  have ecut : cutV ((d0 :: ds').map V.ref) (some 1) none = ds'.map V.ref := by
    have := cutV_from ((d0 :: ds').map V.ref) 1
    push_cast at this
    rw [this]
    rfl
  rw [ecut] at h4
  have h4 := h4.sub (O' := [(rs, .lst (ds'.map V.ref))]) (by walk_at "sub")
  walk_at "gg"
  refine ⟨d0, rs, ds', A0, As', rfl, t0.up h4.same, h4.get (List.Mem.head _), tr.up h4.same, by omega, sm0, smR, fun du B H5 h5 aB mB => ?_⟩
  obtain ⟨F5, sF5, h5, nw⟩ := h4.join h5
  have tu : TrAt F5 du (bA B) := tr_own nw (by rw [← bA_keys]; exact aB.nd)
  have t0 := t0.up sF5
  have tr := tr.up sF5
  clear nw h4 n4
  walk_at "gg"
  refine g_rRev (h5.get (List.Mem.head _)) h5 (fun rr H6 n6 h6 => ?_)
  rw [← List.map_reverse] at h6
  walk_at "gg"
  refine g_addL (h6.get (by walk_at "m")) (h6.get (by walk_at "m")) (sz (by rw [List.length_map]; omega)) h6 (fun r2_ H7 n7 h7 => ?_)
  rw [← List.map_append] at h7
  walk_at "gg"
  refine g_klst (by walk_at "sz") h7 (fun al H8 n8 h8 => ?_)
  have okA : ∀ {es : List Addr} {Bs : List Tr} {a : Addr}, ((al, HO.lst [V.ref rs, V.ref rr, V.ref r2_]) :: (r2_, HO.lst ((ds' ++ ds').map V.ref)) :: (rr, HO.lst (ds'.reverse.map V.ref)) :: [(rs, HO.lst (ds'.map V.ref))]).Mem (a, .lst (es.map V.ref)) → True := fun _ => trivial
  clear okA
  walk_at "gg"
  refine k_forL (h8.get (List.Mem.head _)) (fun t σ H' => ∃ (y16 : Option V), σ = [some (.ref sc), some (.ref c), some (.ref tx), some bv, some (.int (4 - r)), some (.ref va), some (.ref du), y7, some (.int st), some (.int stp), some (.ref pl), some (.ref tl), y12, y13, some (.ref d0), some (.ref rs), y16, none] ∧ Has F5 [(al, HO.lst [V.ref rs, V.ref rr, V.ref r2_]), (r2_, HO.lst ((ds' ++ ds').map V.ref)), (rr, HO.lst (ds'.reverse.map V.ref)), (rs, HO.lst (ds'.map V.ref))] H') ⟨_, rfl, h8⟩ ?_ ?_ ?_
  · rintro t σ H' _ ⟨y16, rfl, h⟩
    exact h.get (List.Mem.head _)
  · rintro t x σ H9 hx ⟨y16, rfl, h9⟩
    have one : ∀ (a : Addr) (es : List Addr) (Bs : List Tr), H9 a = some (.lst (es.map V.ref)) → Trs F5 es Bs → Bs.length ≤ 12 → (∀ A, A ∈ Bs ↔ A ∈ As') → sp_l_chooses_tree K [.ref d0, .ref a, .ref du] H9 (fun v H' => v = .bl true ∧ Has F5 [(al, HO.lst [V.ref rs, V.ref rr, V.ref r2_]), (r2_, HO.lst ((ds' ++ ds').map V.ref)), (rr, HO.lst (ds'.reverse.map V.ref)), (rs, HO.lst (ds'.map V.ref))] H') (fun _ _ _ => False) := fun a es Bs ha te lB mBs => by
      have ech : ∀ z, chT A0 Bs z = chT A0 As' z := fun z => cho_congr fun v _ => by
        rw [List.mem_map, List.mem_map]
        constructor
        · rintro ⟨A, hA, e⟩
          exact ⟨A, (mBs A).mp hA, e⟩
        · rintro ⟨A, hA, e⟩
          exact ⟨A, (mBs A).mpr hA, e⟩
      exact ⟨d0, a, du, es, A0, bA B, Bs, rfl, t0.up h9.same, ha, te.up h9.same, lB, sm0, fun A hA => smR A ((mBs A).mp hA), tu.up h9.same, aB, fun z t => by rw [mB, ech], fun H' s => ⟨rfl, h9.on s⟩⟩
    have hx3 : x = .ref rs ∨ x = .ref rr ∨ x = .ref r2_ := by
      have := List.mem_of_getElem? hx
      simpa using this
    have go : ∀ a : Addr, x = .ref a → (∃ (es : List Addr) (Bs : List Tr), H9 a = some (.lst (es.map V.ref)) ∧ Trs F5 es Bs ∧ Bs.length ≤ 12 ∧ (∀ A, A ∈ Bs ↔ A ∈ As')) := fun a e => by
      rcases hx3 with h | h | h
      · rw [h] at e
        injection e with e
        subst e
        exact ⟨ds', As', h9.get (by walk_at "m"), tr, by omega, fun A => Iff.rfl⟩
      · rw [h] at e
        injection e with e
        subst e
        exact ⟨ds'.reverse, As'.reverse, h9.get (by walk_at "m"), tr.rev, by rw [List.length_reverse]; omega, fun A => List.mem_reverse⟩
      · rw [h] at e
        injection e with e
        subst e
        exact ⟨ds' ++ ds', As' ++ As', h9.get (by walk_at "m"), tr.app tr, by rw [List.length_append]; omega, fun A => by rw [List.mem_append]; exact or_self_iff⟩
    obtain ⟨a, rfl⟩ : ∃ a, x = .ref a := by
      rcases hx3 with h | h | h
      · exact ⟨_, h⟩
      · exact ⟨_, h⟩
      · exact ⟨_, h⟩
    obtain ⟨es, Bs, ha, te, lB, mBs⟩ := go a rfl
    obtain ⟨b1, l1, u1, es1, A1, C1, Bs1, e1, x1, x2, x3, x4, x5, x6, x7, x8, x9, x10⟩ := one a es Bs ha te lB mBs
    walk_at "gg"
    refine ⟨b1, l1, u1, es1, A1, C1, Bs1, e1, x1, x2, x3, x4, x5, x6, x7, x8, x9, fun H10 s10 => ?_⟩
    have h10 := (x10 H10 s10).2
    walk_at "gg"
    exact ⟨_, rfl, h10⟩
  rintro σ H9 ⟨y16, rfl, h9⟩
  walk_at "gg"
  refine g_klst (by walk_at "sz") h9 (fun ne H10 n10 h10 => ?_)
  walk_at "gg"
  refine ⟨d0, A0, rfl, t0.up h10.same, by have := sm0.1; omega, fun dr B2 H11 h11 aB2 mB2 => ?_⟩
  obtain ⟨F11, sF11, h11', nw⟩ := h10.join h11
  have tr2 : TrAt F11 dr (bA B2) := tr_own nw (by rw [← bA_keys]; exact aB2.nd)
  have nd0 : (A0.map (·.1)).Nodup := by
    obtain ⟨_, _, _, n, _⟩ := t0
    exact n
  walk_at "gg"
  exact ⟨d0, ne, dr, [], A0, bA B2, [], rfl, (t0.up sF11).up h11'.same, h11'.get (List.Mem.head _), .nil, by decide, sm0, (fun A hA => by cases hA), tr2.up h11'.same, aB2, fun z t => by
    rw [mB2]
    show _ ↔ cho (getT A0 z) [] = some t
    rw [cho_nil]
    exact ⟨fun h => getT_of nd0 h, fun h => getT_mem h⟩, fun H12 s12 => q H12⟩
end

end K08

namespace K08
open PySem PySem.Spec PyProof.Rows L2 Qk
local macro_rules | `(tactic| walk_at "m") => `(tactic| ((repeat (first | exact List.Mem.head _ | apply List.Mem.tail)); done))
local macro_rules | `(tactic| walk_at "h") => `(tactic| first | assumption | exact Has.gF (by assumption) (by assumption) | exact Has.get (by assumption) (by walk_at "m"))
local macro_rules | `(tactic| walk_at "c") => `(tactic| ((repeat (first | exact Chg.hd | apply Chg.tl)); done))
local macro_rules | `(tactic| walk_at "is") => `(tactic| first
  | ((with_reducible refine' is2_non ?gh ?_); (case gh => walk_at "h"))
  | (with_reducible refine is_int_list ?_)
  | (with_reducible refine is_int_tuple ?_)
  | (with_reducible refine is_int_dict ?_)
  | (with_reducible refine is_int_int ?_)
  | (with_reducible refine is_int_bool ?_)
  | (with_reducible refine is_int_str ?_)
  | ((with_reducible refine' is2_int ?gh ?_); (case gh => walk_at "h"))
  | (with_reducible refine is_str_list ?_)
  | (with_reducible refine is_str_tuple ?_)
  | (with_reducible refine is_str_dict ?_)
  | (with_reducible refine is_str_int ?_)
  | (with_reducible refine is_str_bool ?_)
  | (with_reducible refine is_str_str ?_)
  | ((with_reducible refine' is2_str ?gh ?_); (case gh => walk_at "h"))
  | (with_reducible refine is_bool_list ?_)
  | (with_reducible refine is_bool_tuple ?_)
  | (with_reducible refine is_bool_dict ?_)
  | (with_reducible refine is_bool_int ?_)
  | (with_reducible refine is_bool_bool ?_)
  | (with_reducible refine is_bool_str ?_)
  | ((with_reducible refine' is2_bool ?gh ?_); (case gh => walk_at "h"))
  | ((with_reducible refine' is_list_list ?gh ?_); (case gh => walk_at "h"))
  | ((with_reducible refine' is_list_tuple ?gh ?_); (case gh => walk_at "h"))
  | ((with_reducible refine' is_list_dict ?gh ?_); (case gh => walk_at "h"))
  | ((with_reducible refine' is_list_int ?gh ?_); (case gh => walk_at "h"))
  | ((with_reducible refine' is_list_bool ?gh ?_); (case gh => walk_at "h"))
  | ((with_reducible refine' is_list_str ?gh ?_); (case gh => walk_at "h"))
  | ((with_reducible refine' is2_list ?ga ?gb ?_); (case ga => walk_at "h"); (case gb => walk_at "h"))
  | ((with_reducible refine' is_tuple_list ?gh ?_); (case gh => walk_at "h"))
  | ((with_reducible refine' is_tuple_tuple ?gh ?_); (case gh => walk_at "h"))
  | ((with_reducible refine' is_tuple_dict ?gh ?_); (case gh => walk_at "h"))
  | ((with_reducible refine' is_tuple_int ?gh ?_); (case gh => walk_at "h"))
  | ((with_reducible refine' is_tuple_bool ?gh ?_); (case gh => walk_at "h"))
  | ((with_reducible refine' is_tuple_str ?gh ?_); (case gh => walk_at "h"))
  | ((with_reducible refine' is2_tuple ?ga ?gb ?_); (case ga => walk_at "h"); (case gb => walk_at "h"))
  | ((with_reducible refine' is_dict_list ?gh ?_); (case gh => walk_at "h"))
  | ((with_reducible refine' is_dict_tuple ?gh ?_); (case gh => walk_at "h"))
  | ((with_reducible refine' is_dict_dict ?gh ?_); (case gh => walk_at "h"))
  | ((with_reducible refine' is_dict_int ?gh ?_); (case gh => walk_at "h"))
  | ((with_reducible refine' is_dict_bool ?gh ?_); (case gh => walk_at "h"))
  | ((with_reducible refine' is_dict_str ?gh ?_); (case gh => walk_at "h"))
  | ((with_reducible refine' is2_dict ?ga ?gb ?_); (case ga => walk_at "h"); (case gb => walk_at "h")))
local macro_rules | `(tactic| walk_at "g") => `(tactic| first
  | (with_reducible refine g_seq ?_)
  | (with_reducible refine g_asg ?_)
  | ((with_reducible refine g_name ?_); dsimp only [List.set, wipe, List.map])
  | ((with_reducible refine' g_var ?gv ?_); (case gv => exact rfl))
  | (with_reducible refine g_c ?_)
  | (with_reducible refine g_op ?_)
  | (with_reducible refine g_cons ?_)
  | (with_reducible refine g_nil ?_)
  | (with_reducible refine g_cb ?_)
  | (with_reducible refine g_call ?_)
  | (with_reducible refine g_tup ?_)
  | (with_reducible refine g_lst ?_)
  | (with_reducible refine g_bm ?_)
  | (with_reducible refine g_bm0 ?_)
  | ((with_reducible refine' g_kbm ?gh ?_); (case gh => walk_at "h"))
  | (with_reducible refine g_drop ?_)
  | (with_reducible refine g_ret ?_)
  | (with_reducible refine g_retN ?_)
  | (with_reducible refine g_next ?_)
  | (with_reducible refine g_brk ?_)
  | (with_reducible refine g_cont ?_)
  | (with_reducible refine g_if ?_)
  | ((with_reducible refine' g_aug ?gv ?_); (case gv => exact rfl))
  | (with_reducible refine g_ipI ?_)
  | (with_reducible refine g_test ?_)
  | (with_reducible refine g_tB ?_)
  | (with_reducible refine g_kB ?_)
  | (with_reducible refine g_not ?_)
  | (with_reducible refine g_and ?_)
  | (with_reducible refine g_or ?_)
  | (with_reducible refine g_andV ?_)
  | (with_reducible refine g_orV ?_)
  | (with_reducible refine g_notV ?_)
  | (with_reducible refine g_ifE ?_)
  | (with_reducible refine g_addI ?_)
  | (with_reducible refine g_rI0 ?_)
  | (with_reducible refine g_eqI ?_)
  | (with_reducible refine g_eqS ?_)
  | (with_reducible refine g_neI ?_)
  | (with_reducible refine g_neS ?_)
  | (with_reducible refine g_isN ?_)
  | (with_reducible refine g_notN ?_)
  | (with_reducible refine g_int ?_)
  | (with_reducible refine g_max2 ?_)
  | (with_reducible refine g_min2 ?_)
  | ((with_reducible refine' g_lenL ?gh ?_); (case gh => walk_at "h"))
  | (with_reducible refine g_sub ?_)
  | (with_reducible refine g_gcons ?_)
  | (with_reducible refine g_gnil ?_)
  | (with_reducible refine g_un ?_)
  | (with_reducible refine g_rU ?_)
  | (with_reducible refine g_forL ?_)
  | (with_reducible refine g_forS ?_)
  | (with_reducible refine g_forR1 ?_)
  | (with_reducible refine g_forR2 ?_)
  | (with_reducible refine g_forR3 ?_)
  | (with_reducible refine g_lcL ?_)
  | (with_reducible refine g_lcR1 ?_)
  | (with_reducible refine g_lcR2 ?_)
  | (with_reducible refine g_slice ?_)
  | (with_reducible refine g_part ?_)
  | (with_reducible refine g_kOI ?_)
  | (with_reducible refine g_nopart ?_)
  | (with_reducible refine g_yes ?_)
  | ((with_reducible refine' g_wipe ?gv ?_); (case gv => exact rfl))
  | (with_reducible refine iteT ?_)
  | (with_reducible refine iteF ?_)
  | (with_reducible refine i_nf ?_)
  | (with_reducible refine i_nt ?_)
  | ((with_reducible refine' g_gtup ?gh ?gl ?_); (case gh => walk_at "h"); (case gl => exact rfl))
  | ((with_reducible refine' g_notinI ?gh ?_); (case gh => walk_at "h"))
  | ((with_reducible refine' g_inI ?gh ?_); (case gh => walk_at "h"))
  | ((with_reducible refine' g_kget2 ?gh ?_); (case gh => walk_at "h"))
  | ((with_reducible refine' g_kgotI ?gh ?_); (case gh => walk_at "h"))
  | (with_reducible refine g_tRev ?_)
  | (with_reducible refine g_neB ?_)
  | (with_reducible refine g_eqB ?_)
  | ((with_reducible refine' g_lenT ?gh ?_); (case gh => walk_at "h"))
  | (with_reducible refine g_star ?_)
  | ((with_reducible refine' g_kstarL ?gh ?_); (case gh => walk_at "h"))
  | ((with_reducible refine' g_kstarT ?gh ?_); (case gh => walk_at "h"))
  | (with_reducible refine g_tru ?_)
  | ((with_reducible refine' g_truL ?gh ?_); (case gh => walk_at "h"))
  | (with_reducible refine g_get2 ?_)
  | (with_reducible refine g_try ?_)
  | (with_reducible refine g_fld ?_)
  | (with_reducible refine g_sfld ?_)
  | (with_reducible refine g_meth ?_)
  | (with_reducible refine g_make ?_)
  | (with_reducible refine g_del ?_)
  | (with_reducible refine g_callS ?_)
  | (with_reducible refine g_raise ?_)
  | (with_reducible refine g_xf ?_)
  | (with_reducible refine g_m0 ?_)
  | (with_reducible refine g_km0 ?_)
  | walk_at "is")
local macro_rules | `(tactic| walk_at "gg") => `(tactic| repeat walk_at "g")
local macro_rules | `(tactic| walk_at "sz") => `(tactic| (refine sz ?_; simp only [List.length_cons, List.length_nil, List.length_map, List.length_append, List.length_replicate]; omega))
local macro_rules | `(tactic| walk_at "sub") => `(tactic| ((repeat (first | exact List.Sublist.slnil | with_reducible apply List.Sublist.cons_cons | with_reducible apply List.Sublist.cons)); done))

set_option maxHeartbeats 4000000
theorem all_mk {l : PySem.W.OpenLaw} {w : World} {K : PySem.W.Frag} {h : Heap} {mg : Str → Option Value} {fa f1 f2 f3 f4 f5 f6 f7 f8 f9 f10 f11 f12 f13 f14 f15 f16 f17 f18 f19 : Addr} (X : K.In h) (G : h.Ns mainGlobals mg) (hfa : mg "law" = some (.ref fa))
    {od1 an1 od2 an2 od3 an3 od4 an4 od5 an5 od6 an6 od7 an7 od8 an8 od9 an9 od10 an10 od11 an11 od12 an12 od13 an13 od14 an14 od15 an15 od16 an16 od17 an17 od18 an18 od19 an19 : Option Addr} {sl1 sl2 sl3 sl4 sl5 sl6 sl7 sl8 sl9 sl10 sl11 sl12 sl13 sl14 sl15 sl16 sl17 sl18 sl19 : Array (Option Value)} {oc1 kV1 dc1 pm1 cd1 ct1 oc2 kV2 dc2 pm2 cd2 ct2 oc3 kV3 dc3 pm3 cd3 ct3 oc4 kV4 dc4 pm4 cd4 ct4 oc5 kV5 dc5 pm5 cd5 ct5 oc6 kV6 dc6 pm6 cd6 ct6 oc7 kV7 dc7 pm7 cd7 ct7 oc8 kV8 dc8 pm8 cd8 ct8 oc9 kV9 dc9 pm9 cd9 ct9 oc10 kV10 dc10 pm10 cd10 ct10 oc11 kV11 dc11 pm11 cd11 ct11 oc12 kV12 dc12 pm12 cd12 ct12 oc13 kV13 dc13 pm13 cd13 ct13 oc14 kV14 dc14 pm14 cd14 ct14 oc15 kV15 dc15 pm15 cd15 ct15 oc16 kV16 dc16 pm16 cd16 ct16 oc17 kV17 dc17 pm17 cd17 ct17 oc18 kV18 dc18 pm18 cd18 ct18 oc19 kV19 dc19 pm19 cd19 ct19 : Value}
    (a1 : PySem.W.nsIn K mainGlobals "_other_values" = some (some (.ref f1))) (l1 : K.lookup f1 = some ⟨oc1, od1, .func (PySem.W.fnOf "_other_values" "_other_values" (defArgs s_other_values) (defBody s_other_values) (defScope s_other_values) .none kV1 dc1 pm1 an1 cd1 ct1), sl1⟩) (c1 : PySem.W.codeIn K cd1 "_other_values" = true) (k1 : PySem.W.keepIn K (.ref f1) = true)
    (a2 : PySem.W.nsIn K mainGlobals "chosen_text" = some (some (.ref f2))) (l2 : K.lookup f2 = some ⟨oc2, od2, .func (PySem.W.fnOf "chosen_text" "chosen_text" (defArgs s_chosen_text) (defBody s_chosen_text) (defScope s_chosen_text) .none kV2 dc2 pm2 an2 cd2 ct2), sl2⟩) (c2 : PySem.W.codeIn K cd2 "chosen_text" = true) (k2 : PySem.W.keepIn K (.ref f2) = true)
    (a3 : PySem.W.nsIn K mainGlobals "chosen_tree" = some (some (.ref f3))) (l3 : K.lookup f3 = some ⟨oc3, od3, .func (PySem.W.fnOf "chosen_tree" "chosen_tree" (defArgs s_chosen_tree) (defBody s_chosen_tree) (defScope s_chosen_tree) .none kV3 dc3 pm3 an3 cd3 ct3), sl3⟩) (c3 : PySem.W.codeIn K cd3 "chosen_tree" = true) (k3 : PySem.W.keepIn K (.ref f3) = true)
    (a4 : PySem.W.nsIn K mainGlobals "_law_feed" = some (some (.ref f4))) (l4 : K.lookup f4 = some ⟨oc4, od4, .func (PySem.W.fnOf "_law_feed" "_law_feed" (defArgs s_l_feed) (defBody s_l_feed) (defScope s_l_feed) .none kV4 dc4 pm4 an4 cd4 ct4), sl4⟩) (c4 : PySem.W.codeIn K cd4 "_law_feed" = true) (k4 : PySem.W.keepIn K (.ref f4) = true)
    (a5 : PySem.W.nsIn K mainGlobals "_law_next" = some (some (.ref f5))) (l5 : K.lookup f5 = some ⟨oc5, od5, .func (PySem.W.fnOf "_law_next" "_law_next" (defArgs s_l_next) (defBody s_l_next) (defScope s_l_next) .none kV5 dc5 pm5 an5 cd5 ct5), sl5⟩) (c5 : PySem.W.codeIn K cd5 "_law_next" = true) (k5 : PySem.W.keepIn K (.ref f5) = true)
    (a6 : PySem.W.nsIn K mainGlobals "_law_same" = some (some (.ref f6))) (l6 : K.lookup f6 = some ⟨oc6, od6, .func (PySem.W.fnOf "_law_same" "_law_same" (defArgs s_l_same) (defBody s_l_same) (defScope s_l_same) .none kV6 dc6 pm6 an6 cd6 ct6), sl6⟩) (c6 : PySem.W.codeIn K cd6 "_law_same" = true) (k6 : PySem.W.keepIn K (.ref f6) = true)
    (a7 : PySem.W.nsIn K mainGlobals "_law_way" = some (some (.ref f7))) (l7 : K.lookup f7 = some ⟨oc7, od7, .func (PySem.W.fnOf "_law_way" "_law_way" (defArgs s_l_way) (defBody s_l_way) (defScope s_l_way) .none kV7 dc7 pm7 an7 cd7 ct7), sl7⟩) (c7 : PySem.W.codeIn K cd7 "_law_way" = true) (k7 : PySem.W.keepIn K (.ref f7) = true)
    (a8 : PySem.W.nsIn K mainGlobals "_law_text" = some (some (.ref f8))) (l8 : K.lookup f8 = some ⟨oc8, od8, .func (PySem.W.fnOf "_law_text" "_law_text" (defArgs s_l_text) (defBody s_l_text) (defScope s_l_text) .none kV8 dc8 pm8 an8 cd8 ct8), sl8⟩) (c8 : PySem.W.codeIn K cd8 "_law_text" = true) (k8 : PySem.W.keepIn K (.ref f8) = true)
    (a9 : PySem.W.nsIn K mainGlobals "_law_made" = some (some (.ref f9))) (l9 : K.lookup f9 = some ⟨oc9, od9, .func (PySem.W.fnOf "_law_made" "_law_made" (defArgs s_l_made) (defBody s_l_made) (defScope s_l_made) .none kV9 dc9 pm9 an9 cd9 ct9), sl9⟩) (c9 : PySem.W.codeIn K cd9 "_law_made" = true) (k9 : PySem.W.keepIn K (.ref f9) = true)
    (a10 : PySem.W.nsIn K mainGlobals "_law_copy" = some (some (.ref f10))) (l10 : K.lookup f10 = some ⟨oc10, od10, .func (PySem.W.fnOf "_law_copy" "_law_copy" (defArgs s_l_copy) (defBody s_l_copy) (defScope s_l_copy) .none kV10 dc10 pm10 an10 cd10 ct10), sl10⟩) (c10 : PySem.W.codeIn K cd10 "_law_copy" = true) (k10 : PySem.W.keepIn K (.ref f10) = true)
    (a11 : PySem.W.nsIn K mainGlobals "_law_rising" = some (some (.ref f11))) (l11 : K.lookup f11 = some ⟨oc11, od11, .func (PySem.W.fnOf "_law_rising" "_law_rising" (defArgs s_l_rising) (defBody s_l_rising) (defScope s_l_rising) .none kV11 dc11 pm11 an11 cd11 ct11), sl11⟩) (c11 : PySem.W.codeIn K cd11 "_law_rising" = true) (k11 : PySem.W.keepIn K (.ref f11) = true)
    (a12 : PySem.W.nsIn K mainGlobals "_law_kept" = some (some (.ref f12))) (l12 : K.lookup f12 = some ⟨oc12, od12, .func (PySem.W.fnOf "_law_kept" "_law_kept" (defArgs s_l_kept) (defBody s_l_kept) (defScope s_l_kept) .none kV12 dc12 pm12 an12 cd12 ct12), sl12⟩) (c12 : PySem.W.codeIn K cd12 "_law_kept" = true) (k12 : PySem.W.keepIn K (.ref f12) = true)
    (a13 : PySem.W.nsIn K mainGlobals "_law_spoil" = some (some (.ref f13))) (l13 : K.lookup f13 = some ⟨oc13, od13, .func (PySem.W.fnOf "_law_spoil" "_law_spoil" (defArgs s_l_spoil) (defBody s_l_spoil) (defScope s_l_spoil) .none kV13 dc13 pm13 an13 cd13 ct13), sl13⟩) (c13 : PySem.W.codeIn K cd13 "_law_spoil" = true) (k13 : PySem.W.keepIn K (.ref f13) = true)
    (a14 : PySem.W.nsIn K mainGlobals "_law_value" = some (some (.ref f14))) (l14 : K.lookup f14 = some ⟨oc14, od14, .func (PySem.W.fnOf "_law_value" "_law_value" (defArgs s_l_value) (defBody s_l_value) (defScope s_l_value) .none kV14 dc14 pm14 an14 cd14 ct14), sl14⟩) (c14 : PySem.W.codeIn K cd14 "_law_value" = true) (k14 : PySem.W.keepIn K (.ref f14) = true)
    (a15 : PySem.W.nsIn K mainGlobals "_law_chosen" = some (some (.ref f15))) (l15 : K.lookup f15 = some ⟨oc15, od15, .func (PySem.W.fnOf "_law_chosen" "_law_chosen" (defArgs s_l_chosen) (defBody s_l_chosen) (defScope s_l_chosen) .none kV15 dc15 pm15 an15 cd15 ct15), sl15⟩) (c15 : PySem.W.codeIn K cd15 "_law_chosen" = true) (k15 : PySem.W.keepIn K (.ref f15) = true)
    (a16 : PySem.W.nsIn K mainGlobals "_law_chooses" = some (some (.ref f16))) (l16 : K.lookup f16 = some ⟨oc16, od16, .func (PySem.W.fnOf "_law_chooses" "_law_chooses" (defArgs s_l_chooses) (defBody s_l_chooses) (defScope s_l_chooses) .none kV16 dc16 pm16 an16 cd16 ct16), sl16⟩) (c16 : PySem.W.codeIn K cd16 "_law_chooses" = true) (k16 : PySem.W.keepIn K (.ref f16) = true)
    (a17 : PySem.W.nsIn K mainGlobals "_law_chosen_tree" = some (some (.ref f17))) (l17 : K.lookup f17 = some ⟨oc17, od17, .func (PySem.W.fnOf "_law_chosen_tree" "_law_chosen_tree" (defArgs s_l_chosen_tree) (defBody s_l_chosen_tree) (defScope s_l_chosen_tree) .none kV17 dc17 pm17 an17 cd17 ct17), sl17⟩) (c17 : PySem.W.codeIn K cd17 "_law_chosen_tree" = true) (k17 : PySem.W.keepIn K (.ref f17) = true)
    (a18 : PySem.W.nsIn K mainGlobals "_law_chooses_tree" = some (some (.ref f18))) (l18 : K.lookup f18 = some ⟨oc18, od18, .func (PySem.W.fnOf "_law_chooses_tree" "_law_chooses_tree" (defArgs s_l_chooses_tree) (defBody s_l_chooses_tree) (defScope s_l_chooses_tree) .none kV18 dc18 pm18 an18 cd18 ct18), sl18⟩) (c18 : PySem.W.codeIn K cd18 "_law_chooses_tree" = true) (k18 : PySem.W.keepIn K (.ref f18) = true)
    (a19 : PySem.W.nsIn K mainGlobals "law" = some (some (.ref f19))) (l19 : K.lookup f19 = some ⟨oc19, od19, .func (PySem.W.fnOf "law" "law" (defArgs s_law) (defBody s_law) (defScope s_law) .none kV19 dc19 pm19 an19 cd19 ct19), sl19⟩) (c19 : PySem.W.codeIn K cd19 "law" = true) (k19 : PySem.W.keepIn K (.ref f19) = true)
    (z_abs : PySem.W.nsIn K mainGlobals "abs" = some none)
    (z_bool : PySem.W.nsIn K mainGlobals "bool" = some none)
    (z_dict : PySem.W.nsIn K mainGlobals "dict" = some none)
    (z_int : PySem.W.nsIn K mainGlobals "int" = some none)
    (z_isinstance : PySem.W.nsIn K mainGlobals "isinstance" = some none)
    (z_len : PySem.W.nsIn K mainGlobals "len" = some none)
    (z_list : PySem.W.nsIn K mainGlobals "list" = some none)
    (z_range : PySem.W.nsIn K mainGlobals "range" = some none)
    (z_sorted : PySem.W.nsIn K mainGlobals "sorted" = some none)
    (z_str : PySem.W.nsIn K mainGlobals "str" = some none)
    (z_tuple : PySem.W.nsIn K mainGlobals "tuple" = some none) :
    ∃ fd : FuncData, (∀ (s : Shared) (v : Value), BindsTo s fd ⟨[v], []⟩ [("script", v)]) ∧ ∀ base : Heap, K.In base → base.Ns mainGlobals mg → FnOk l.prog w K mg base CX0 8 fa fd ["script"] (sp_law K) := by
  have e := hfa.symm.trans (PySem.W.mg_of X G a19)
  cases e
  have F1 := fun_mk (st := s_other_values) l1 c1 k1
  have b1 := F1.binds (ps := ["base", "texts"]) fun _ _ _ _ _ _ us hl => match us, hl with | [_, _], _ => rfl
  have F2 := fun_mk (st := s_chosen_text) l2 c2 k2
  have b2 := F2.binds (ps := ["base", "texts"]) fun _ _ _ _ _ _ us hl => match us, hl with | [_, _], _ => rfl
  have F3 := fun_mk (st := s_chosen_tree) l3 c3 k3
  have b3 := F3.binds (ps := ["base", "trees"]) fun _ _ _ _ _ _ us hl => match us, hl with | [_, _], _ => rfl
  have F4 := fun_mk (st := s_l_feed) l4 c4 k4
  have b4 := F4.binds (ps := ["script"]) fun _ _ _ _ _ _ us hl => match us, hl with | [_], _ => rfl
  have F5 := fun_mk (st := s_l_next) l5 c5 k5
  have b5 := F5.binds (ps := ["cells", "many"]) fun _ _ _ _ _ _ us hl => match us, hl with | [_, _], _ => rfl
  have F6 := fun_mk (st := s_l_same) l6 c6 k6
  have b6 := F6.binds (ps := ["told", "due"]) fun _ _ _ _ _ _ us hl => match us, hl with | [_, _], _ => rfl
  have F7 := fun_mk (st := s_l_way) l7 c7 k7
  have b7 := F7.binds (ps := ["place"]) fun _ _ _ _ _ _ us hl => match us, hl with | [_], _ => rfl
  have F8 := fun_mk (st := s_l_text) l8 c8 k8
  have b8 := F8.binds (ps := ["place"]) fun _ _ _ _ _ _ us hl => match us, hl with | [_], _ => rfl
  have F9 := fun_mk (st := s_l_made) l9 c9 k9
  have b9 := F9.binds (ps := ["paths", "texts"]) fun _ _ _ _ _ _ us hl => match us, hl with | [_, _], _ => rfl
  have F10 := fun_mk (st := s_l_copy) l10 c10 k10
  have b10 := F10.binds (ps := ["tree"]) fun _ _ _ _ _ _ us hl => match us, hl with | [_], _ => rfl
  have F11 := fun_mk (st := s_l_rising) l11 c11 k11
  have b11 := F11.binds (ps := ["tree"]) fun _ _ _ _ _ _ us hl => match us, hl with | [_], _ => rfl
  have F12 := fun_mk (st := s_l_kept) l12 c12 k12
  have b12 := F12.binds (ps := ["passed", "tree"]) fun _ _ _ _ _ _ us hl => match us, hl with | [_, _], _ => rfl
  have F13 := fun_mk (st := s_l_spoil) l13 c13 k13
  have b13 := F13.binds (ps := ["tree"]) fun _ _ _ _ _ _ us hl => match us, hl with | [_], _ => rfl
  have F14 := fun_mk (st := s_l_value) l14 c14 k14
  have b14 := F14.binds (ps := ["text"]) fun _ _ _ _ _ _ us hl => match us, hl with | [_], _ => rfl
  have F15 := fun_mk (st := s_l_chosen) l15 c15 k15
  have b15 := F15.binds (ps := ["base", "values"]) fun _ _ _ _ _ _ us hl => match us, hl with | [_, _], _ => rfl
  have F16 := fun_mk (st := s_l_chooses) l16 c16 k16
  have b16 := F16.binds (ps := ["base", "values", "due"]) fun _ _ _ _ _ _ us hl => match us, hl with | [_, _, _], _ => rfl
  have F17 := fun_mk (st := s_l_chosen_tree) l17 c17 k17
  have b17 := F17.binds (ps := ["base", "trees"]) fun _ _ _ _ _ _ us hl => match us, hl with | [_, _], _ => rfl
  have F18 := fun_mk (st := s_l_chooses_tree) l18 c18 k18
  have b18 := F18.binds (ps := ["base", "trees", "due"]) fun _ _ _ _ _ _ us hl => match us, hl with | [_, _, _], _ => rfl
  have F19 := fun_mk (st := s_law) l19 c19 k19
  have b19 := F19.binds (ps := ["script"]) fun _ _ _ _ _ _ us hl => match us, hl with | [_], _ => rfl
  exact ⟨_, fun s v => .of_eq rfl, fun base _ _ => ok_law ⟨_, _, F1, PySem.W.mg_of X G a1, b1, _, _, F2, PySem.W.mg_of X G a2, b2, _, _, F3, PySem.W.mg_of X G a3, b3, _, _, F4, PySem.W.mg_of X G a4, b4, _, _, F5, PySem.W.mg_of X G a5, b5, _, _, F6, PySem.W.mg_of X G a6, b6, _, _, F7, PySem.W.mg_of X G a7, b7, _, _, F8, PySem.W.mg_of X G a8, b8, _, _, F9, PySem.W.mg_of X G a9, b9, _, _, F10, PySem.W.mg_of X G a10, b10, _, _, F11, PySem.W.mg_of X G a11, b11, _, _, F12, PySem.W.mg_of X G a12, b12, _, _, F13, PySem.W.mg_of X G a13, b13, _, _, F14, PySem.W.mg_of X G a14, b14, _, _, F15, PySem.W.mg_of X G a15, b15, _, _, F16, PySem.W.mg_of X G a16, b16, _, _, F17, PySem.W.mg_of X G a17, b17, _, _, F18, PySem.W.mg_of X G a18, b18, _, _, F19, PySem.W.mg_of X G a19, b19, PySem.W.mg_none_of X G z_abs, PySem.W.mg_none_of X G z_bool, PySem.W.mg_none_of X G z_dict, PySem.W.mg_none_of X G z_int, PySem.W.mg_none_of X G z_isinstance, PySem.W.mg_none_of X G z_len, PySem.W.mg_none_of X G z_list, PySem.W.mg_none_of X G z_range, PySem.W.mg_none_of X G z_sorted, PySem.W.mg_none_of X G z_str, PySem.W.mg_none_of X G z_tuple⟩⟩
end K08
open PySem PySem.W PyProof.Rows
set_option maxHeartbeats 0 in
theorem PySem.Challenge.cw_partclones_k08_chosen_holds : PySem.Challenge.rw_partclones_k08_chosen.Holds := by
  w_on; o_law; k_head; (case hw => w_witness2)
  k_fill
  refine L2.walk_of (l := PySem.Challenge.rw_partclones_k08_chosen) (n := 63) (k := 8) (x := "script") (CX := fun _ => L2.CX0) (sp := fun w => K08.sp_law _) rfl (by decide) rfl ⟨rfl, by decide, by decide⟩ (fun w h Y => PySem.W.kIn_of Y) ?F (fun _ H a ns hl _ hS => K08.sp_law_start hl hS) (fun _ _ _ _ _ h => h)
  case F =>
    intro w mg fa h KX G hmg
    refine' K08.all_mk KX G hmg ?a1 ?l1 ?c1 ?k1 ?a2 ?l2 ?c2 ?k2 ?a3 ?l3 ?c3 ?k3 ?a4 ?l4 ?c4 ?k4 ?a5 ?l5 ?c5 ?k5 ?a6 ?l6 ?c6 ?k6 ?a7 ?l7 ?c7 ?k7 ?a8 ?l8 ?c8 ?k8 ?a9 ?l9 ?c9 ?k9 ?a10 ?l10 ?c10 ?k10 ?a11 ?l11 ?c11 ?k11 ?a12 ?l12 ?c12 ?k12 ?a13 ?l13 ?c13 ?k13 ?a14 ?l14 ?c14 ?k14 ?a15 ?l15 ?c15 ?k15 ?a16 ?l16 ?c16 ?k16 ?a17 ?l17 ?c17 ?k17 ?a18 ?l18 ?c18 ?k18 ?a19 ?l19 ?c19 ?k19 ?z_abs ?z_bool ?z_dict ?z_int ?z_isinstance ?z_len ?z_list ?z_range ?z_sorted ?z_str ?z_tuple
    (case a1 => k_is)
    (case l1 => k_is)
    (case c1 => k_is)
    (case k1 => k_is)
    (case a2 => k_is)
    (case l2 => k_is)
    (case c2 => k_is)
    (case k2 => k_is)
    (case a3 => k_is)
    (case l3 => k_is)
    (case c3 => k_is)
    (case k3 => k_is)
    (case a4 => k_is)
    (case l4 => k_is)
    (case c4 => k_is)
    (case k4 => k_is)
    (case a5 => k_is)
    (case l5 => k_is)
    (case c5 => k_is)
    (case k5 => k_is)
    (case a6 => k_is)
    (case l6 => k_is)
    (case c6 => k_is)
    (case k6 => k_is)
    (case a7 => k_is)
    (case l7 => k_is)
    (case c7 => k_is)
    (case k7 => k_is)
    (case a8 => k_is)
    (case l8 => k_is)
    (case c8 => k_is)
    (case k8 => k_is)
    (case a9 => k_is)
    (case l9 => k_is)
    (case c9 => k_is)
    (case k9 => k_is)
    (case a10 => k_is)
    (case l10 => k_is)
    (case c10 => k_is)
    (case k10 => k_is)
    (case a11 => k_is)
    (case l11 => k_is)
    (case c11 => k_is)
    (case k11 => k_is)
    (case a12 => k_is)
    (case l12 => k_is)
    (case c12 => k_is)
    (case k12 => k_is)
    (case a13 => k_is)
    (case l13 => k_is)
    (case c13 => k_is)
    (case k13 => k_is)
    (case a14 => k_is)
    (case l14 => k_is)
    (case c14 => k_is)
    (case k14 => k_is)
    (case a15 => k_is)
    (case l15 => k_is)
    (case c15 => k_is)
    (case k15 => k_is)
    (case a16 => k_is)
    (case l16 => k_is)
    (case c16 => k_is)
    (case k16 => k_is)
    (case a17 => k_is)
    (case l17 => k_is)
    (case c17 => k_is)
    (case k17 => k_is)
    (case a18 => k_is)
    (case l18 => k_is)
    (case c18 => k_is)
    (case k18 => k_is)
    (case a19 => k_is)
    (case l19 => k_is)
    (case c19 => k_is)
    (case k19 => k_is)
    (case z_abs => k_is)
    (case z_bool => k_is)
    (case z_dict => k_is)
    (case z_int => k_is)
    (case z_isinstance => k_is)
    (case z_len => k_is)
    (case z_list => k_is)
    (case z_range => k_is)
    (case z_sorted => k_is)
    (case z_str => k_is)
    (case z_tuple => k_is)

