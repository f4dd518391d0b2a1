import PyProof.Rows.All
import Wide.All
import OpenK.AllK
import Wide.FinOn
import HandS.ForMost
import HandS.Small
import HandS.Style
import HandS.Flow
import HandS.Deep
import HandS.IsInst
import HandS.More
import HandS.Star
import HandS.TupAny
import KE.KExcIs
import HandS.ExcCtx
import HandS.ExcInit
import HandS.ExcField
import HandS.HotCalls
import HandS.Wide
import HandS.Strs
import HandS.SetKeys
import HandS.Text
import HandS.Iter
import HandS.WideBits
import HandS.Dict
import HandS.WordsDict
import HandS.Conv
import HandS.List
import HandS.Ends
import HandS.OwnIter
import HandS.IterNext
import HandS.GenOver
import KE.KOpsOwn
import HandS.Call
import HandS.SlotsOwn
import HandS.ClsMeth
import HandS.IterVal
import HandS.ExcOwn
import HandS.NoneIn
import PySem.Challenge.RW_partclones_k29_lot_plus_minus
set_option Elab.async false
set_option linter.all false
set_option maxRecDepth 100000
namespace Qk
open PySem PySem.Spec PyProof.Rows L2

/-! ### heaps -/
abbrev Own := List (Addr × HO)
structure Has (F : Hp) (O : Own) (H : Hp) : Prop where
  same : Same F H
  own : ∀ p ∈ O, F p.1 = none ∧ H p.1 = some p.2
  nd : (O.map (·.1)).Nodup

/-- O with the object at a changed from o to o' -/
inductive Chg : Own → Addr → HO → HO → Own → Prop
  | hd {a : Addr} {o o' : HO} {O : Own} : Chg ((a, o) :: O) a o o' ((a, o') :: O)
  | tl {a : Addr} {o o' : HO} {O O' : Own} {x : Addr × HO} : Chg O a o o' O' → Chg (x :: O) a o o' (x :: O')
theorem Chg.mem {O O' : Own} {a : Addr} {o o' : HO} (c : Chg O a o o' O') : (a, o) ∈ O := by
  induction c with
  | hd => exact List.Mem.head _
  | tl _ ih => exact List.Mem.tail _ ih
theorem Chg.fst {O O' : Own} {a : Addr} {o o' : HO} (c : Chg O a o o' O') : O'.map (·.1) = O.map (·.1) := by
  induction c with
  | hd => rfl
  | tl _ ih => rw [List.map_cons, List.map_cons, ih]
theorem Chg.own {O O' : Own} {a : Addr} {o o' : HO} (c : Chg O a o o' O') (nd : (O.map (·.1)).Nodup) : ∀ p ∈ O', p = (a, o') ∨ (p ∈ O ∧ p.1 ≠ a) := by
  induction c with
  | @hd a o o' O =>
    intro p hp
    rw [List.map_cons] at nd
    have nm := (List.nodup_cons.mp nd).1
    rcases List.mem_cons.mp hp with e | hp
    · exact .inl e
    · refine .inr ⟨List.mem_cons_of_mem _ hp, fun e => nm ?_⟩
      exact List.mem_map.mpr ⟨p, hp, e⟩
  | @tl a o o' O O' x c ih =>
    intro p hp
    rw [List.map_cons] at nd
    have nm := List.nodup_cons.mp nd
    rcases List.mem_cons.mp hp with e | hp
    · subst e
      refine .inr ⟨List.mem_cons_self, fun e => nm.1 ?_⟩
      rw [e]
      exact List.mem_map.mpr ⟨_, c.mem, rfl⟩
    · rcases ih nm.2 p hp with e | ⟨e, ne⟩
      · exact .inl e
      · exact .inr ⟨List.mem_cons_of_mem _ e, ne⟩

section
variable {F F' : Hp} {O O' : Own} {H H' : Hp} {a p : Addr} {o o' : HO} {K : PySem.W.Frag} {xs : List V}
theorem Has.start (H : Hp) : Has H [] H := ⟨Same.refl H, fun _ h => (List.not_mem_nil h).elim, List.nodup_nil⟩
theorem Has.get (h : Has F O H) (m : (a, o) ∈ O) : H a = some o := (h.own _ m).2
theorem Has.but (h : Has F O H) (c : Chg O a o o' O') (s : ∀ b u, b ≠ a → H b = some u → H' b = some u) (e : H' a = some o') : Has F O' H' := by
  have fa : F a = none := (h.own _ c.mem).1
  refine ⟨fun b u q => s b u (fun z => by rw [z, fa] at q; cases q) (h.same b u q), fun q hq => ?_, by rw [c.fst]; exact h.nd⟩
  rcases c.own h.nd q hq with rfl | ⟨m, ne⟩
  · exact ⟨fa, e⟩
  · exact ⟨(h.own _ m).1, s _ _ ne (h.own _ m).2⟩
theorem Has.put (h : Has F O H) (c : Chg O a o o' O') : Has F O' (upd H a o') := h.but c (fun b u ne q => by rw [upd_ne ne]; exact q) upd_same
theorem Has.on (h : Has F O H) (s : Same H H') : Has F O H' := ⟨h.same.trans s, fun q hq => ⟨(h.own q hq).1, s _ _ (h.own q hq).2⟩, h.nd⟩
theorem Has.made (h : Has F O H) (n : H p = none) (s : Same H H') (e : H' p = some o) : Has F ((p, o) :: O) H' := by
  refine ⟨h.same.trans s, fun q hq => ?_, ?_⟩
  · rcases List.mem_cons.mp hq with rfl | hq
    · exact ⟨h.same.free n, e⟩
    · exact ⟨(h.own q hq).1, s _ _ (h.own q hq).2⟩
  · rw [List.map_cons]
    refine List.nodup_cons.mpr ⟨fun m => ?_, h.nd⟩
    obtain ⟨q, hq, e'⟩ := List.mem_map.mp m
    have z := (h.own q hq).2
    rw [e', n] at z
    cases z
theorem same_upd (n : H p = none) : Same H (upd H p o) := fun b u q => by
  rw [upd_ne (ne_of_none q n)]
  exact q
theorem Has.new (h : Has F O H) (n : H p = none) : Has F ((p, o) :: O) (upd H p o) := h.made n (same_upd n) upd_same
theorem Has.drop {x : Addr × HO} (h : Has F (x :: O) H) : Has F O H := ⟨h.same, fun q hq => h.own q (List.mem_cons_of_mem _ hq), (List.nodup_cons.mp (by have := h.nd; rw [List.map_cons] at this; exact this)).2⟩
theorem Has.sub (h : Has F O H) (s : O'.Sublist O) : Has F O' H := ⟨h.same, fun q hq => h.own q (s.subset hq), (s.map _).nodup h.nd⟩
theorem Has.perm (h : Has F O H) (s : O'.Perm O) : Has F O' H := ⟨h.same, fun q hq => h.own q (s.subset hq), (s.map _).nodup_iff.mpr h.nd⟩
/-- the first owned object stands still from now on -/
theorem Has.frz (h : Has F ((p, o) :: O) H) : Has (upd F p o) O H := by
  have hp := h.own (p, o) List.mem_cons_self
  have nd : p ∉ O.map (·.1) ∧ (O.map (·.1)).Nodup := List.nodup_cons.mp (by have := h.nd; rw [List.map_cons] at this; exact this)
  refine ⟨fun b u q => ?_, fun q hq => ⟨?_, (h.own q (List.mem_cons_of_mem _ hq)).2⟩, nd.2⟩
  · by_cases e : b = p
    · subst e
      rw [upd_same] at q
      cases q
      exact hp.2
    · rw [upd_ne e] at q
      exact h.same b u q
  · rw [upd_ne (fun z => nd.1 (List.mem_map.mpr ⟨q, hq, z⟩))]
    exact (h.own q (List.mem_cons_of_mem _ hq)).1
theorem Has.free (h : Has F ((p, o) :: O) H) : F p = none := (h.own _ List.mem_cons_self).1
theorem Has.grow (h : Has F ((p, o) :: O) H) : Same F (upd F p o) := same_upd h.free
/-- all stands still from now on -/
theorem Has.all (h : Has F O H) : Has H [] H := Has.start H
/-- F grown by what O knows nothing of -/
theorem Has.up (h : Has F O H) (s2 : Same F' H') (s : Same H H') (d : ∀ p ∈ O, F' p.1 = none) : Has F' O H' :=
  ⟨s2, fun q hq => ⟨d q hq, s _ _ (h.own q hq).2⟩, h.nd⟩
theorem Has.sqO (h : Has F O H) (m : (a, .lst xs) ∈ O) : SqL K H a xs := SqL.of (h.get m)
theorem Has.sqF (h : Has F O H) (m : SqL K F a xs) : SqL K H a xs := h.same.seq m
theorem Same.tup {K : PySem.W.Frag} (e : Same H H') (h : SqT K H a xs) : SqT K H' a xs := by
  rcases h with (h | ⟨o, h⟩) | h
  · exact .inl (.inl (e _ _ h))
  · exact .inl (.inr ⟨o, e _ _ h⟩)
  · exact .inr h
theorem Has.stF (h : Has F O H) (m : SqT K F a xs) : SqT K H a xs := Same.tup h.same m
theorem Has.stO (h : Has F O H) (m : (a, .tup xs) ∈ O) : SqT K H a xs := SqT.of (h.get m)
end

/-! ### data -/
mutual
inductive Dq (H : Hp) : V → PyData → Prop
  | non : Dq H .non .none
  | bl (b : Bool) : Dq H (.bl b) (.bool b)
  | int (i : Int) : Dq H (.int i) (.int i)
  | str (x : Str) : Dq H (.str x) (.str x)
  | lst {a : Addr} {xs : List V} {ds : List PyData} : H a = some (.lst xs) → DqAll H xs ds → Dq H (.ref a) (.list ds)
  | tup {a : Addr} {xs : List V} {ds : List PyData} : H a = some (.tup xs) → DqAll H xs ds → Dq H (.ref a) (.tuple ds)
inductive DqAll (H : Hp) : List V → List PyData → Prop
  | nil : DqAll H [] []
  | cons {v : V} {vs : List V} {d : PyData} {ds : List PyData} : Dq H v d → DqAll H vs ds → DqAll H (v :: vs) (d :: ds)
end
mutual
theorem Dq.up {H H' : Hp} (e : Same H H') : ∀ (d : PyData) (v : V), Dq H v d → Dq H' v d
  | _, _, .non => .non
  | _, _, .bl b => .bl b
  | _, _, .int i => .int i
  | _, _, .str x => .str x
  | .list ds, _, .lst s a => .lst (e _ _ s) (DqAll.up e ds _ a)
  | .tuple ds, _, .tup s a => .tup (e _ _ s) (DqAll.up e ds _ a)
theorem DqAll.up {H H' : Hp} (e : Same H H') : ∀ (ds : List PyData) (vs : List V), DqAll H vs ds → DqAll H' vs ds
  | _, _, .nil => .nil
  | d :: ds, _, .cons h t => .cons (Dq.up e d _ h) (DqAll.up e ds _ t)
end
mutual
theorem Dq.dp (K : PySem.W.Frag) {H : Hp} : ∀ (d : PyData) (v : V), Dq H v d → Dp K H v d
  | _, _, .non => .non
  | _, _, .bl b => .bl b
  | _, _, .int i => .int i
  | _, _, .str x => .str x
  | .list ds, _, .lst s a => .lst (SqL.of s) (DqAll.dp K ds _ a)
  | .tuple ds, _, .tup s a => .tup (SqT.of s) (DqAll.dp K ds _ a)
theorem DqAll.dp (K : PySem.W.Frag) {H : Hp} : ∀ (ds : List PyData) (vs : List V), DqAll H vs ds → DpAll K H vs ds
  | _, _, .nil => .nil
  | d :: ds, _, .cons h t => .cons (Dq.dp K d _ h) (DqAll.dp K ds _ t)
end
theorem DqAll.len {H : Hp} : ∀ {vs : List V} {ds : List PyData}, DqAll H vs ds → vs.length = ds.length
  | _, _, .nil => rfl
  | _, _, .cons _ t => by rw [List.length_cons, List.length_cons, t.len]
theorem DqAll.get {H : Hp} : ∀ {vs : List V} {ds : List PyData} {i : Nat} {v : V}, DqAll H vs ds → vs[i]? = some v → ∃ d, ds[i]? = some d ∧ Dq H v d
  | _, _, _, _, .nil, e => by simp at e
  | _, _, 0, _, .cons h _, e => ⟨_, rfl, by have e' := Option.some.inj e; rw [← e']; exact h⟩
  | _, _, i + 1, _, .cons _ t, e => t.get (i := i) e
theorem DqAll.snoc {H : Hp} : ∀ {vs : List V} {ds : List PyData} {v : V} {d : PyData}, DqAll H vs ds → Dq H v d → DqAll H (vs ++ [v]) (ds ++ [d])
  | _, _, _, _, .nil, h => .cons h .nil
  | _, _, _, _, .cons h t, h' => .cons h (t.snoc h')
theorem DqAll.app {H : Hp} : ∀ {vs ws : List V} {ds es : List PyData}, DqAll H vs ds → DqAll H ws es → DqAll H (vs ++ ws) (ds ++ es)
  | _, _, _, _, .nil, h => h
  | _, _, _, _, .cons h t, h' => .cons h (t.app h')
theorem DqAll.rev {H : Hp} : ∀ {vs : List V} {ds : List PyData}, DqAll H vs ds → DqAll H vs.reverse ds.reverse
  | _, _, .nil => .nil
  | _, _, .cons h t => by
    rw [List.reverse_cons, List.reverse_cons]
    exact t.rev.snoc h
theorem DqAll.strs {H : Hp} : ∀ (xs : List Str), DqAll H (xs.map V.str) (xs.map PyData.str)
  | [] => .nil
  | x :: xs => .cons (.str x) (DqAll.strs xs)
theorem DqAll.ints {H : Hp} : ∀ (xs : List Int), DqAll H (xs.map V.int) (xs.map PyData.int)
  | [] => .nil
  | x :: xs => .cons (.int x) (DqAll.ints xs)
theorem DqAll.of_strs {H : Hp} : ∀ {vs : List V} {xs : List Str}, DqAll H vs (xs.map PyData.str) → vs = xs.map V.str
  | _, [], .nil => rfl
  | _, x :: xs, .cons h t => by
    cases h
    rw [List.map_cons, t.of_strs]
theorem Dq.of_strs {H : Hp} {v : V} {xs : List Str} (h : Dq H v (.list (xs.map PyData.str))) : ∃ a, v = .ref a ∧ H a = some (.lst (xs.map V.str)) := by
  cases h with
  | lst s a =>
    rw [a.of_strs] at s
    exact ⟨_, rfl, s⟩
theorem Dq.strs {H : Hp} {a : Addr} {xs : List Str} (h : H a = some (.lst (xs.map V.str))) : Dq H (.ref a) (.list (xs.map PyData.str)) := .lst h (DqAll.strs xs)
theorem Dq.ints {H : Hp} {a : Addr} {xs : List Int} (h : H a = some (.lst (xs.map V.int))) : Dq H (.ref a) (.list (xs.map PyData.int)) := .lst h (DqAll.ints xs)
theorem Has.gF {F : Hp} {O : Own} {H : Hp} {a : Addr} {o : HO} (h : Has F O H) (e : F a = some o) : H a = some o := h.same _ _ e
theorem Has.dq {F : Hp} {O : Own} {H : Hp} (h : Has F O H) {v : V} {d : PyData} (p : Dq F v d) : Dq H v d := p.up h.same d v

/-! ### == of data -/
theorem eqvAll_strs : ∀ xs ys : List Str, PyData.eqvAll (xs.map PyData.str) (ys.map PyData.str) = decide (xs = ys)
  | [], [] => by simp [PyData.eqvAll]
  | [], y :: ys => by simp [PyData.eqvAll]
  | x :: xs, [] => by simp [PyData.eqvAll]
  | x :: xs, y :: ys => by
    rw [List.map_cons, List.map_cons, PyData.eqvAll, eqvAll_strs xs ys, PyData.eqv]
    by_cases h : x = y
    · subst h; simp
    · simp [h]
theorem eqv_strs (xs ys : List Str) : PyData.eqv (.list (xs.map PyData.str)) (.list (ys.map PyData.str)) = decide (xs = ys) := by
  rw [PyData.eqv, eqvAll_strs]
theorem eqvAll_ints : ∀ xs ys : List Int, PyData.eqvAll (xs.map PyData.int) (ys.map PyData.int) = decide (xs = ys)
  | [], [] => by simp [PyData.eqvAll]
  | [], y :: ys => by simp [PyData.eqvAll]
  | x :: xs, [] => by simp [PyData.eqvAll]
  | x :: xs, y :: ys => by
    rw [List.map_cons, List.map_cons, PyData.eqvAll, eqvAll_ints xs ys, PyData.eqv]
    by_cases h : x = y
    · subst h; simp
    · simp [h]
theorem eqv_ints (xs ys : List Int) : PyData.eqv (.list (xs.map PyData.int)) (.list (ys.map PyData.int)) = decide (xs = ys) := by
  rw [PyData.eqv, eqvAll_ints]
theorem canLayAll_mem : ∀ {ds : List PyData}, (∀ d ∈ ds, d.canLay0 = true) → PyData.canLayAll0 ds = true
  | [], _ => rfl
  | d :: ds, h => by
    rw [PyData.canLayAll0, h d List.mem_cons_self, canLayAll_mem fun x hx => h x (List.mem_cons_of_mem _ hx)]
    rfl
theorem depthAll_le {n : Nat} : ∀ {ds : List PyData}, (∀ d ∈ ds, d.depth ≤ n) → PyData.depthAll ds ≤ n
  | [], _ => Nat.zero_le _
  | d :: ds, h => by
    rw [PyData.depthAll]
    exact Nat.max_le.mpr ⟨h d List.mem_cons_self, depthAll_le fun x hx => h x (List.mem_cons_of_mem _ hx)⟩
/-- data of depth n that can be compared -/
def Sh (n : Nat) (d : PyData) : Prop := d.canLay0 = true ∧ d.depth ≤ n
theorem Sh.list {n : Nat} {ds : List PyData} (h : ∀ d ∈ ds, Sh n d) : Sh (n + 1) (.list ds) := by
  refine ⟨?_, ?_⟩
  · rw [PyData.canLay0]
    exact canLayAll_mem fun d hd => (h d hd).1
  · rw [PyData.depth]
    have := depthAll_le (n := n) fun d hd => (h d hd).2
    omega
theorem Sh.tuple {n : Nat} {ds : List PyData} (h : ∀ d ∈ ds, Sh n d) : Sh (n + 1) (.tuple ds) := by
  refine ⟨?_, ?_⟩
  · rw [PyData.canLay0]
    exact canLayAll_mem fun d hd => (h d hd).1
  · rw [PyData.depth]
    have := depthAll_le (n := n) fun d hd => (h d hd).2
    omega
theorem Sh.ok {n : Nat} {d : PyData} (h : Sh n d) (hn : n ≤ 64) : SeqAt.shaped d = true := by
  unfold SeqAt.shaped
  rw [h.1, Bool.true_and]
  exact decide_eq_true (Nat.le_trans h.2 hn)
theorem Sh.int {n : Nat} (i : Int) : Sh n (.int i) := ⟨rfl, Nat.zero_le _⟩
theorem Sh.non {n : Nat} : Sh n .none := ⟨rfl, Nat.zero_le _⟩
theorem Sh.bl {n : Nat} (b : Bool) : Sh n (.bool b) := ⟨rfl, Nat.zero_le _⟩
theorem Sh.str {n : Nat} {x : Str} (h : PyData.strOk x = true) : Sh n (.str x) := ⟨h, Nat.zero_le _⟩
theorem Sh.strs {n : Nat} {xs : List Str} (h : ∀ x ∈ xs, PyData.strOk x = true) : Sh (n + 1) (.list (xs.map PyData.str)) := Sh.list fun d hd => by
  obtain ⟨x, hx, rfl⟩ := List.mem_map.mp hd
  exact Sh.str (h x hx)
theorem Sh.ints {n : Nat} {xs : List Int} : Sh (n + 1) (.list (xs.map PyData.int)) := Sh.list fun d hd => by
  obtain ⟨x, hx, rfl⟩ := List.mem_map.mp hd
  exact Sh.int x

/-! ### readings, in order -/
def kB (x : V) (H : Hp) (R : Bool → Hp → Prop) : Prop := ∃ k, x = .bl k ∧ R k H
def kTup (xs : List V) (H : Hp) (Q : VK) : Prop := xs.length ≤ sizeLine ∧ ∀ p, H p = none → Q (.ref p) (upd H p (.tup xs))
def kLst (xs : List V) (H : Hp) (Q : VK) : Prop := xs.length ≤ sizeLine ∧ ∀ p, H p = none → Q (.ref p) (upd H p (.lst xs))
def kBM (K : PySem.W.Frag) (T : String) (r : V → List V → Hp → VK → Prop) (t : TA) (σ : L2.St) (x : V) (H : Hp) (Q : VK) : Prop := tyV K T x H ∧ t σ H fun xs H2 => r x xs H2 Q
section
variable {K : PySem.W.Frag} {σ : L2.St} {F : Hp} {O O' : Own} {H : Hp} {Q : VK} {ta tb tc te : TE} {x y v : V} {D : Ends} {t1 t2 : TS}
theorem g_var {i : Nat} (h : σ[i]? = some (some v)) (q : Q v H) : tVar i σ H Q := ⟨v, h, q⟩
theorem g_c (q : Q v H) : tC v σ H Q := q
theorem g_op {r : R2} (q : ta σ H fun x H1 => tb σ H1 fun y H2 => r x y H2 Q) : tOp r ta tb σ H Q := q
theorem g_un {r : V → Hp → VK → Prop} (q : ta σ H fun x H1 => r x H1 Q) : tUn r ta σ H Q := q
theorem g_cons {tr : TA} {QA : List V → Hp → Prop} (q : ta σ H fun x H1 => tr σ H1 fun xs H2 => QA (x :: xs) H2) : tCons ta tr σ H QA := q
theorem g_nil {QA : List V → Hp → Prop} (q : QA [] H) : tNil σ H QA := q
theorem g_cb {r : List V → Hp → VK → Prop} {t : TA} (q : t σ H fun vs H1 => r vs H1 Q) : tCB r t σ H Q := q
theorem g_call {sp : Sp} {E : XK} {t : TA} (q : t σ H fun vs H1 => sp vs H1 Q E) : tCall sp [] E t σ H Q := by
  unfold tCall
  simp only [List.append_nil]
  exact q
theorem g_tup {t : TA} (q : t σ H fun xs H1 => kTup xs H1 Q) : tTup t σ H Q := q
theorem g_lst {t : TA} (q : t σ H fun xs H1 => kLst xs H1 Q) : tLst t σ H Q := q
theorem g_bm {T : String} {r : V → List V → Hp → VK → Prop} {t : TA} (q : ta σ H fun x H1 => kBM K T r t σ x H1 Q) : tBM K T r ta t σ H Q := q
theorem g_bm0 {T : String} {r : V → List V → Hp → VK → Prop} (q : ta σ H fun x H1 => kBM K T r tNil σ x H1 Q) : tBM0 K T r ta σ H Q := q
theorem g_kbm {r : V → List V → Hp → VK → Prop} {t : TA} {a : Addr} {xs : List V} (h : H a = some (.lst xs)) (q : t σ H fun vs H2 => r (.ref a) vs H2 Q) : kBM K "list" r t σ (.ref a) H Q := ⟨.inl ⟨rfl, _, SqL.of h⟩, q⟩
theorem g_ktup {xs : List V} (hl : xs.length ≤ sizeLine) (hH : Has F O H) (q : ∀ p H', H p = none → Has F ((p, .tup xs) :: O) H' → Q (.ref p) H') : kTup xs H Q := ⟨hl, fun p n => q p _ n (hH.new n)⟩
theorem g_klst {xs : List V} (hl : xs.length ≤ sizeLine) (hH : Has F O H) (q : ∀ p H', H p = none → Has F ((p, .lst xs) :: O) H' → Q (.ref p) H') : kLst xs H Q := ⟨hl, fun p n => q p _ n (hH.new n)⟩
/-- a tuple that stands still at once -/
theorem g_ktupF {xs : List V} (hl : xs.length ≤ sizeLine) (hH : Has F O H) (q : ∀ p H' F', H p = none → Same F F' → F' p = some (.tup xs) → Has F' O H' → Q (.ref p) H') : kTup xs H Q :=
  ⟨hl, fun p n => q p _ (upd F p (.tup xs)) n (same_upd (hH.same.free n)) upd_same (hH.new n).frz⟩
theorem g_klstF {xs : List V} (hl : xs.length ≤ sizeLine) (hH : Has F O H) (q : ∀ p H' F', H p = none → Same F F' → F' p = some (.lst xs) → Has F' O H' → Q (.ref p) H') : kLst xs H Q :=
  ⟨hl, fun p n => q p _ (upd F p (.lst xs)) n (same_upd (hH.same.free n)) upd_same (hH.new n).frz⟩
theorem g_seq (h : t1 { D with nx := t2 D } σ H) : tSeq t1 t2 D σ H := h
theorem g_asg {g : TG} (q : te σ H fun x H1 => g x σ H1 D.nx) : tAsg te g D σ H := q
theorem g_name {i : Nat} {R : L2.St → Hp → Prop} (q : R (σ.set i (some v)) H) : gName i v σ H R := q
theorem g_drop (q : te σ H fun _ H1 => D.nx σ H1) : tDrop te D σ H := q
theorem g_ret (q : te σ H fun x H1 => D.rt x H1) : tRet te D σ H := q
theorem g_retN (q : D.rt .non H) : tRetN D σ H := q
theorem g_next (q : D.nx σ H) : tNext D σ H := q
theorem g_brk (q : D.bk σ H) : tBreak D σ H := q
theorem g_cont (q : D.ct σ H) : tCont D σ H := q
theorem g_if {c : TT} (q : c σ H fun b H1 => if b = true then t1 D σ H1 else t2 D σ H1) : tIfS c t1 t2 D σ H := q
theorem g_aug {i : Nat} {ti : TIp} (h : σ[i]? = some (some x)) (q : te σ H fun y H1 => ti x y H1 fun z H2 => D.nx (σ.set i (some z)) H2) : tAug i te ti D σ H := ⟨x, h, q⟩
theorem g_ipI {f : Int → Int → Int} {i j : Int} (q : Q (.int (f i j)) H) : ipI f (.int i) (.int j) H Q := ⟨i, j, rfl, rfl, q⟩
theorem g_test {R : Bool → Hp → Prop} (q : te σ H fun x H1 => kB x H1 R) : tTest te σ H R := q
theorem g_tB {R : Bool → Hp → Prop} (q : te σ H fun x H1 => kB x H1 R) : tB te σ H R := q
theorem g_kB {b : Bool} {R : Bool → Hp → Prop} (q : R b H) : kB (.bl b) H R := ⟨b, rfl, q⟩
theorem g_not {t : TT} {R : Bool → Hp → Prop} (q : t σ H fun c H1 => R (!c) H1) : tNot t σ H R := q
theorem g_and {t u : TT} {R : Bool → Hp → Prop} (q : t σ H fun c H1 => if c = true then u σ H1 R else R false H1) : tAnd t u σ H R := q
theorem g_or {t u : TT} {R : Bool → Hp → Prop} (q : t σ H fun c H1 => if c = true then R true H1 else u σ H1 R) : tOr t u σ H R := q
theorem g_andV (q : ta σ H fun x H1 => kB x H1 fun c H2 => if c = true then tb σ H2 Q else Q (.bl false) H2) : tAndV ta tb σ H Q := q
theorem g_orV (q : ta σ H fun x H1 => kB x H1 fun c H2 => if c = true then Q (.bl true) H2 else tb σ H2 Q) : tOrV ta tb σ H Q := q
theorem g_notV (q : ta σ H fun x H1 => kB x H1 fun c H2 => Q (.bl (!c)) H2) : tNotV ta σ H Q := q
theorem g_ifE {t : TT} (q : t σ H fun c H1 => if c = true then ta σ H1 Q else tb σ H1 Q) : tIf t ta tb σ H Q := q
theorem i_d {c A B : Prop} [Decidable c] (h1 : c → A) (h2 : ¬ c → B) : if decide c = true then A else B := by
  by_cases h : c
  · rw [if_pos (decide_eq_true h)]
    exact h1 h
  · rw [if_neg (by rw [decide_eq_false h]; exact Bool.false_ne_true)]
    exact h2 h
theorem i_n {c A B : Prop} [Decidable c] (h1 : ¬ c → A) (h2 : c → B) : if (!decide c) = true then A else B := by
  by_cases h : c
  · rw [decide_eq_true h, if_neg (by decide)]
    exact h2 h
  · rw [decide_eq_false h, if_pos (by decide)]
    exact h1 h
theorem i_b {b : Bool} {A B : Prop} (h1 : b = true → A) (h2 : b = false → B) : if b = true then A else B := by
  cases b with
  | true => rw [if_pos rfl]; exact h1 rfl
  | false => rw [if_neg Bool.false_ne_true]; exact h2 rfl
theorem i_nb {b : Bool} {A B : Prop} (h1 : b = false → A) (h2 : b = true → B) : if (!b) = true then A else B := by
  cases b with
  | false =>
    show (if true = true then A else B)
    rw [if_pos rfl]
    exact h1 rfl
  | true =>
    show (if false = true then A else B)
    rw [if_neg Bool.false_ne_true]
    exact h2 rfl
/-- a test by its answer -/
theorem g_bool {t : TT} {R : Bool → Hp → Prop} (b : Bool) (h : ∀ R : Bool → Hp → Prop, R b H → t σ H R) (q : R b H) : t σ H R := h R q

/-! ### operators -/
def rAdd (K : PySem.W.Frag) : R2 := fun x y H Q => (rI0 (fun i j => .int (i + j)) x y H Q ∨ ∃ i j, x = .str i ∧ y = .str j ∧ i.length + j.length ≤ sizeLine ∧ Q (.str (i ++ j)) H) ∨ rCat x y H Q ∨ rCatA K x y H Q
theorem g_addI {i j : Int} (q : Q (.int (i + j)) H) : rAdd K (.int i) (.int j) H Q := .inl (.inl ⟨i, j, rfl, rfl, q⟩)
theorem g_addS {i j : Str} (hl : i.length + j.length ≤ sizeLine) (q : Q (.str (i ++ j)) H) : rAdd K (.str i) (.str j) H Q := .inl (.inr ⟨i, j, rfl, rfl, hl, q⟩)
theorem g_addL {a b : Addr} {xs ys : List V} (h1 : H a = some (.lst xs)) (h2 : H b = some (.lst ys)) (hl : xs.length + ys.length ≤ sizeLine) (hH : Has F O H) (q : ∀ p H', H p = none → Has F ((p, .lst (xs ++ ys)) :: O) H' → Q (.ref p) H') : rAdd K (.ref a) (.ref b) H Q :=
  .inr (.inl ⟨a, b, xs, ys, rfl, rfl, h1, h2, hl, fun p n => q p _ n (hH.new n)⟩)
theorem g_rI0 {g : Int → Int → V} {i j : Int} (q : Q (g i j) H) : rI0 g (.int i) (.int j) H Q := ⟨i, j, rfl, rfl, q⟩
theorem g_rI {C : Int → Int → Prop} {g : Int → Int → V} {i j : Int} (hc : C i j) (q : Q (g i j) H) : rI C g (.int i) (.int j) H Q := ⟨i, j, rfl, rfl, hc, q⟩
theorem g_rU {g : Int → V} {i : Int} (q : Q (g i) H) : rU g (.int i) H Q := ⟨i, rfl, q⟩
def rMul : R2 := fun x y H Q => rI CMul (fun i j => .int (i * j)) x y H Q ∨ rRep x y H Q
theorem g_mulI {i j : Int} (hc : CMul i j) (q : Q (.int (i * j)) H) : rMul (.int i) (.int j) H Q := .inl ⟨i, j, rfl, rfl, hc, q⟩
theorem g_mulL {a : Addr} {k : Int} {xs : List V} (h : H a = some (.lst xs)) (h1 : -(2 ^ 63) ≤ k) (h2 : k < 2 ^ 63) (hl : xs.length * k.toNat ≤ sizeLine) (hH : Has F O H)
    (q : ∀ p H', H p = none → Has F ((p, .lst (List.replicate k.toNat xs).flatten) :: O) H' → Q (.ref p) H') : rMul (.ref a) (.int k) H Q := .inr ⟨a, k, xs, rfl, rfl, h, h1, h2, hl, fun p n => q p _ n (hH.new n)⟩
def rEqA (K : PySem.W.Frag) : R2 := fun x y H Q => rEq x y H Q ∨ rEqD K x y H Q
def rNeA (K : PySem.W.Frag) : R2 := fun x y H Q => rNe x y H Q ∨ rNeD K x y H Q
theorem g_eqI {i j : Int} (q : Q (.bl (decide (i = j))) H) : rEqA K (.int i) (.int j) H Q := .inl ⟨rfl, by rw [dec_int, Bool.beq_eq_decide_eq]; exact q⟩
theorem g_eqS {i j : Str} (q : Q (.bl (decide (i = j))) H) : rEqA K (.str i) (.str j) H Q := .inl ⟨rfl, by rw [dec_str, Bool.beq_eq_decide_eq]; exact q⟩
theorem g_neI {i j : Int} (q : Q (.bl (!decide (i = j))) H) : rNeA K (.int i) (.int j) H Q := .inl ⟨rfl, by rw [dec_int, Bool.beq_eq_decide_eq]; exact q⟩
theorem g_neS {i j : Str} (q : Q (.bl (!decide (i = j))) H) : rNeA K (.str i) (.str j) H Q := .inl ⟨rfl, by rw [dec_str, Bool.beq_eq_decide_eq]; exact q⟩
theorem g_eqD {d e : PyData} (hx : Dq H x d) (hy : Dq H y e) (sd : SeqAt.shaped d = true) (se : SeqAt.shaped e = true) (q : Q (.bl (PyData.eqv d e)) H) : rEqA K x y H Q := .inr ⟨d, e, hx.dp K d x, hy.dp K e y, sd, se, q⟩
theorem g_neD {d e : PyData} (hx : Dq H x d) (hy : Dq H y e) (sd : SeqAt.shaped d = true) (se : SeqAt.shaped e = true) (q : Q (.bl (!PyData.eqv d e)) H) : rNeA K x y H Q := .inr ⟨d, e, hx.dp K d x, hy.dp K e y, sd, se, q⟩
def rIsN : R2 := fun x y H Q => y = .non ∧ Q (.bl (decide (x = .non))) H
def rNotN : R2 := fun x y H Q => y = .non ∧ Q (.bl (!decide (x = .non))) H
theorem g_isN (q : Q (.bl (decide (x = .non))) H) : rIsN x .non H Q := ⟨rfl, q⟩
theorem g_notN (q : Q (.bl (!decide (x = .non))) H) : rNotN x .non H Q := ⟨rfl, q⟩
def rIxD : R2 := fun x y H Q => ∃ a v, x = .ref a ∧ DGet H a y (some v) ∧ Q v H
def rIxA (K : PySem.W.Frag) : R2 := fun x y H Q => rIx K x y H Q ∨ rIxD x y H Q
theorem g_ixL {a : Addr} {xs : List V} {i : Int} (h : H a = some (.lst xs)) (ha : atI xs i = some v) (q : Q v H) : rIxA K (.ref a) (.int i) H Q := .inl <| .inl ⟨a, xs, i, v, rfl, rfl, SqL.of h, ha, q⟩
theorem g_ixT {a : Addr} {xs : List V} {i : Int} (h : H a = some (.tup xs)) (ha : atI xs i = some v) (q : Q v H) : rIxA K (.ref a) (.int i) H Q := .inl (.inr (.inl ⟨a, xs, i, v, rfl, rfl, SqT.of h, ha, q⟩))
theorem g_ixS {z : Str} {i : Int} {c : Nat} (hl : z.length ≤ sizeLine) (ha : atI z.cps.toList i = some c) (q : Q (.str ⟨#[c]⟩) H) : rIxA K (.str z) (.int i) H Q := .inl (.inr (.inr ⟨z, i, c, rfl, rfl, hl, ha, q⟩))
theorem at_n {xs : List V} {i : Int} (h0 : 0 ≤ i) (h : xs[i.toNat]? = some v) : atI xs i = some v := by
  have e : i = (i.toNat : Int) := by omega
  rw [e]
  exact atI_nat h

/-! ### calls of what is built in -/
def rLen (K : PySem.W.Frag) : List V → Hp → VK → Prop := fun xs H Q => (∃ p ys, xs = [.ref p] ∧ (SqL K H p ys ∨ SqT K H p ys) ∧ Q (.int ys.length) H) ∨ ∃ z, xs = [.str z] ∧ z.length ≤ sizeLine ∧ Q (.int z.length) H
theorem g_lenL {a : Addr} {xs : List V} (h : H a = some (.lst xs)) (q : Q (.int (xs.length : Int)) H) : rLen K [.ref a] H Q := .inl ⟨a, xs, rfl, .inl (SqL.of h), q⟩
theorem g_lenT {a : Addr} {xs : List V} (h : H a = some (.tup xs)) (q : Q (.int (xs.length : Int)) H) : rLen K [.ref a] H Q := .inl ⟨a, xs, rfl, .inr (SqT.of h), q⟩
theorem g_lenS {z : Str} (h : z.length ≤ sizeLine) (q : Q (.int (z.length : Int)) H) : rLen K [.str z] H Q := .inr ⟨z, rfl, h, q⟩
def rInt1 : List V → Hp → VK → Prop := fun xs H Q => (∃ i, xs = [.int i] ∧ Q (.int i) H) ∨ ∃ k, xs = [.bl k] ∧ Q (.int (if k then 1 else 0)) H
theorem g_int {i : Int} (q : Q (.int i) H) : rInt1 [.int i] H Q := .inl ⟨i, rfl, q⟩
theorem g_intB {k : Bool} (q : Q (.int (if k then 1 else 0)) H) : rInt1 [.bl k] H Q := .inr ⟨k, rfl, q⟩
def rAbs1 : List V → Hp → VK → Prop := fun xs H Q => ∃ i, xs = [.int i] ∧ Q (.int (if i < 0 then -i else i)) H
theorem g_abs {i : Int} (q : ∀ j : Int, 0 ≤ j → Q (.int j) H) : rAbs1 [.int i] H Q := ⟨i, rfl, q _ (by split <;> omega)⟩
def rMax2 : List V → Hp → VK → Prop := fun xs H Q => ∃ i j, xs = [.int i, .int j] ∧ Q (.int (if j > i then j else i)) H
theorem g_max2 {i j : Int} (q : Q (.int (max i j)) H) : rMax2 [.int i, .int j] H Q := ⟨i, j, rfl, by
  have e : (if j > i then j else i) = max i j := by split <;> omega
  rw [e]
  exact q⟩
def rListOf (K : PySem.W.Frag) : List V → Hp → VK → Prop := fun xs H Q => ∃ p ys, xs = [.ref p] ∧ (SqL K H p ys ∨ SqT K H p ys) ∧ ∀ l, H l = none → Q (.ref l) (upd H l (.lst ys))
theorem g_listL {a : Addr} {xs : List V} (h : H a = some (.lst xs)) (hH : Has F O H) (q : ∀ p H', H p = none → Has F ((p, .lst xs) :: O) H' → Q (.ref p) H') : rListOf K [.ref a] H Q := ⟨a, xs, rfl, .inl (SqL.of h), fun p n => q p _ n (hH.new n)⟩
theorem g_listT {a : Addr} {xs : List V} (h : H a = some (.tup xs)) (hH : Has F O H) (q : ∀ p H', H p = none → Has F ((p, .lst xs) :: O) H' → Q (.ref p) H') : rListOf K [.ref a] H Q := ⟨a, xs, rfl, .inr (SqT.of h), fun p n => q p _ n (hH.new n)⟩
def rTupleOf (K : PySem.W.Frag) : List V → Hp → VK → Prop := fun xs H Q => ∃ p ys, xs = [.ref p] ∧ ((SqL K H p ys ∧ ∀ l, H l = none → Q (.ref l) (upd H l (.tup ys))) ∨ (SqT K H p ys ∧ Q (.ref p) H))
theorem g_tupleL {a : Addr} {xs : List V} (h : H a = some (.lst xs)) (hH : Has F O H) (q : ∀ p H' F', H p = none → Same F F' → F' p = some (.tup xs) → Has F' O H' → Q (.ref p) H') : rTupleOf K [.ref a] H Q :=
  ⟨a, xs, rfl, .inl ⟨SqL.of h, fun p n => q p _ (upd F p (.tup xs)) n (same_upd (hH.same.free n)) upd_same (hH.new n).frz⟩⟩
theorem g_tupleT {a : Addr} {xs : List V} (h : H a = some (.tup xs)) (q : Q (.ref a) H) : rTupleOf K [.ref a] H Q := ⟨a, xs, rfl, .inr ⟨SqT.of h, q⟩⟩

/-! ### methods of lists, stores -/
theorem g_append {a : Addr} {xs : List V} (hH : Has F O H) (c : Chg O a (.lst xs) (.lst (xs ++ [y])) O') (hl : xs.length < sizeLine) (q : ∀ H', Has F O' H' → Q .non H') : rAppend (.ref a) [y] H Q :=
  ⟨a, xs, y, rfl, rfl, hH.get c.mem, hl, q _ (hH.put c)⟩
theorem g_popAt {a : Addr} {xs : List V} {i : Int} {k : Nat} (hH : Has F O H) (c : Chg O a (.lst xs) (.lst (xs.eraseIdx k)) O') (h1 : -(2 ^ 63) ≤ i) (h2 : i < 2 ^ 63) (hk : seqIndex? i xs.length = some k) (hy : xs[k]? = some y)
    (q : ∀ H', Has F O' H' → Q y H') : rPopAt (.ref a) [.int i] H Q := ⟨a, xs, i, k, y, rfl, rfl, hH.get c.mem, h1, h2, hk, hy, q _ (hH.put c)⟩
theorem g_clear {a : Addr} {xs : List V} (hH : Has F O H) (c : Chg O a (.lst xs) (.lst []) O') (q : ∀ H', Has F O' H' → Q .non H') : rClear (.ref a) [] H Q := ⟨a, xs, rfl, rfl, hH.get c.mem, q _ (hH.put c)⟩
/-- o[i] = v -/
def kSet (t : TSet) (R : L2.St → Hp → Prop) (σ : L2.St) (o i v : V) (H : Hp) : Prop := t o i v H fun H3 => R σ H3
theorem g_sub {to ti : TE} {t : TSet} {R : L2.St → Hp → Prop} (q : to σ H fun o H1 => ti σ H1 fun i H2 => kSet t R σ o i v H2) : gSub to ti t v σ H R := q
theorem g_setL {R : L2.St → Hp → Prop} {a : Addr} {xs : List V} {k : Int} {j : Nat} (hH : Has F O H) (c : Chg O a (.lst xs) (.lst (xs.set j v)) O') (hj : ixN xs.length k = some j) (q : ∀ H', Has F O' H' → R σ H') : kSet rSetL R σ (.ref a) (.int k) v H :=
  ⟨a, xs, k, j, rfl, rfl, hH.get c.mem, hj, q _ (hH.put c)⟩
theorem ixN_nat {n : Nat} {k : Int} (h0 : 0 ≤ k) (h : k < n) : ixN n k = some k.toNat := by
  unfold ixN
  rw [if_pos h0, if_pos h]
/-- a, b = a tuple -/
theorem g_gtup {n : Nat} {t : TGs} {a : Addr} {xs : List V} {R : L2.St → Hp → Prop} (h : H a = some (.tup xs)) (hl : xs.length = n) (q : t xs σ H R) : gTup K n t (.ref a) σ H R := ⟨a, xs, rfl, SqT.of h, hl, q⟩
theorem g_gcons {t : TG} {u : TGs} {r : List V} {R : L2.St → Hp → Prop} (q : t v σ H fun σ' H' => u r σ' H' R) : gCons t u (v :: r) σ H R := ⟨v, r, rfl, q⟩
theorem g_gnil {R : L2.St → Hp → Prop} (q : R σ H) : gNil [] σ H R := ⟨rfl, q⟩
/-- slices -/
def kSl (r : V → Option Int → Option Int → Hp → VK → Prop) (tl th : TO) (σ : L2.St) (x : V) (H : Hp) (Q : VK) : Prop := tl σ H fun l H2 => th σ H2 fun u H3 => r x l u H3 Q
theorem g_sl {r : V → Option Int → Option Int → Hp → VK → Prop} {tl th : TO} (q : te σ H fun x H1 => kSl r tl th σ x H1 Q) : tSl r te tl th σ H Q := q
theorem g_kslN {r : V → Option Int → Option Int → Hp → VK → Prop} (q : r x none none H Q) : kSl r tNoPart tNoPart σ x H Q := q
theorem g_kslL {r : V → Option Int → Option Int → Hp → VK → Prop} {tl : TE} {i : Int} (q : tl σ H fun z H1 => ∃ i, z = .int i ∧ r x (some i) none H1 Q) : kSl r (tPart tl) tNoPart σ x H Q := q
theorem g_kslH {r : V → Option Int → Option Int → Hp → VK → Prop} {tl : TE} {i : Int} (q : tl σ H fun z H1 => ∃ i, z = .int i ∧ r x none (some i) H1 Q) : kSl r tNoPart (tPart tl) σ x H Q := q
def rRevL (K : PySem.W.Frag) (x : V) (H : Hp) (Q : VK) : Prop := ∃ a xs, x = .ref a ∧ SqL K H a xs ∧ ∀ p, H p = none → Q (.ref p) (upd H p (.lst xs.reverse))
end

/-! ### loops -/
def kW (J : It) (g : TG) (tb : TS) (D : Ends) (σ : L2.St) (H : Hp) : Prop := ∃ W : Nat → Nat → L2.St → Hp → Prop, (∃ m, W 0 m σ H) ∧ ∀ i m σ H, W i m σ H →
  (J.stop i H ∧ D.nx σ H) ∨ (J.go i H ∧ ∃ N : L2.St → Hp → Prop, (∀ σ' H', N σ' H' → ∃ m', m' < m ∧ W (i + 1) m' σ' H') ∧ ∀ x H', J.yld i H x H' → g x σ H' fun σ2 H2 => tb { D with nx := N, ct := N, bk := D.nx } σ2 H2)
def kForL (K : PySem.W.Frag) (g : TG) (tb : TS) (D : Ends) (σ : L2.St) (x : V) (H : Hp) : Prop := ∃ a, x = .ref a ∧ (∃ xs, SqL K H a xs) ∧ kW (Itl K a) g tb D σ H
def kForR1 (g : TG) (tb : TS) (D : Ends) (σ : L2.St) (vs : List V) (H : Hp) : Prop := ∃ j : Int, vs = [.int j] ∧ -(2 ^ 62) ≤ j ∧ j < 2 ^ 62 ∧ kW (Itr 0 j.toNat) g tb D σ H
def kForR2 (g : TG) (tb : TS) (D : Ends) (σ : L2.St) (vs : List V) (H : Hp) : Prop := ∃ i j : Int, vs = [.int i, .int j] ∧ (-(2 ^ 62) ≤ i ∧ i < 2 ^ 62 ∧ -(2 ^ 62) ≤ j ∧ j < 2 ^ 62) ∧ kW (Itr i (j - i).toNat) g tb D σ H
def kForR3 (g : TG) (tb : TS) (D : Ends) (σ : L2.St) (vs : List V) (H : Hp) : Prop := ∃ (i j c : Int) (n : Nat), vs = [.int i, .int j, .int c] ∧ RgC i j c n ∧ kW (Itc i c n) g tb D σ H
section
variable {K : PySem.W.Frag} {σ : L2.St} {F : Hp} {O O' : Own} {H : Hp} {Q : VK} {ta tb tc te : TE} {x y v : V} {D : Ends} {t1 t2 ts : TS} {g : TG}
theorem g_forL (q : te σ H fun x H1 => kForL K g ts D σ x H1) : tFor (iList K te) g ts D σ H := q
theorem g_forR1 {ta : TA} (q : ta σ H fun vs H1 => kForR1 g ts D σ vs H1) : tFor (iRng1 ta) g ts D σ H := q
theorem g_forR2 {ta : TA} (q : ta σ H fun vs H1 => kForR2 g ts D σ vs H1) : tFor (iRng2 ta) g ts D σ H := q
theorem g_forR3 {ta : TA} (q : ta σ H fun vs H1 => kForR3 g ts D σ vs H1) : tFor (iRng3 ta) g ts D σ H := q
theorem k_forL {a : Addr} {xs : List V} (h : H a = some (.lst xs)) (Pv : Nat → L2.St → Hp → Prop) (h0 : Pv 0 σ H) (hl : ∀ i σ H, i ≤ xs.length → Pv i σ H → H a = some (.lst xs))
    (hs : ∀ i x σ H, xs[i]? = some x → Pv i σ H → g x σ H fun σ2 H2 => ts { D with nx := Pv (i + 1), ct := Pv (i + 1), bk := D.nx } σ2 H2) (hd : ∀ σ H, Pv xs.length σ H → D.nx σ H) : kForL K g ts D σ (.ref a) H :=
  ⟨a, rfl, ⟨xs, SqL.of h⟩, for_list Pv h0 (fun i σ H hi p => SqL.of (hl i σ H hi p)) hs hd⟩
theorem k_forR1 {j : Int} (Pv : Nat → L2.St → Hp → Prop) (h1 : -(2 ^ 62) ≤ j) (h2 : j < 2 ^ 62) (h0 : Pv 0 σ H)
    (hs : ∀ i σ H, i < j.toNat → Pv i σ H → g (.int (i : Int)) σ H fun σ2 H2 => ts { D with nx := Pv (i + 1), ct := Pv (i + 1), bk := D.nx } σ2 H2) (hd : ∀ σ H, Pv j.toNat σ H → D.nx σ H) : kForR1 g ts D σ [.int j] H :=
  ⟨j, rfl, h1, h2, for_range Pv h0 (fun i σ H hi p => by rw [Int.zero_add]; exact hs i σ H hi p) hd⟩
/-- n - 1 down to 0 -/
theorem k_forDown {n : Nat} {j : Int} (hj : j = (n : Int) - 1) (hn : n < 2 ^ 60) (Pv : Nat → L2.St → Hp → Prop) (h0 : Pv n σ H)
    (hs : ∀ i σ H, i < n → Pv (i + 1) σ H → g (.int (i : Int)) σ H fun σ2 H2 => ts { D with nx := Pv i, ct := Pv i, bk := D.nx } σ2 H2) (hd : ∀ σ H, Pv 0 σ H → D.nx σ H) : kForR3 g ts D σ [.int j, .int (-1), .int (-1)] H := by
  subst hj
  have e : (((n : Int) - 1) - (-1)).toNat = n := by omega
  have rg := RgC.neg (i := (n : Int) - 1) (j := -1) (by omega) (by omega) (by decide) (by decide)
  rw [e] at rg
  refine ⟨_, _, _, n, rfl, rg, for_rangeC (fun i => Pv (n - i)) h0 (fun i σ H hi p => ?_) (fun σ H p => ?_)⟩
  · have e1 : (n : Int) - 1 + (i : Nat) * (-1) = ((n - (i + 1) : Nat) : Int) := by omega
    have e2 : n - i = (n - (i + 1)) + 1 := by omega
    rw [e1]
    have p' : Pv ((n - (i + 1)) + 1) σ H := by rw [← e2]; exact p
    exact hs _ σ H (by omega) p'
  · have p' : Pv (n - n) σ H := p
    rw [Nat.sub_self] at p'
    exact hd σ H p'
/-- while -/
def kWh (Pv : Nat → L2.St → Hp → Prop) (m : Nat) (tb : TS) (D : Ends) (σ : L2.St) (b : Bool) (H : Hp) : Prop := if b = true then ∃ N : L2.St → Hp → Prop, (∀ σ' H', N σ' H' → ∃ m', m' < m ∧ Pv m' σ' H') ∧ tb { D with nx := N, ct := N, bk := D.nx } σ H else D.nx σ H
theorem g_while {c : TT} (Pv : Nat → L2.St → Hp → Prop) (m : Nat) (h0 : Pv m σ H) (hs : ∀ m σ H, Pv m σ H → c σ H fun b H1 => kWh Pv m ts D σ b H1) : tWhile c ts D σ H := ⟨Pv, ⟨m, h0⟩, hs⟩
theorem kwh_t {Pv : Nat → L2.St → Hp → Prop} {m : Nat} (q : ts { D with nx := fun σ' H' => ∃ m', m' < m ∧ Pv m' σ' H', ct := fun σ' H' => ∃ m', m' < m ∧ Pv m' σ' H', bk := D.nx } σ H) : kWh Pv m ts D σ true H := by
  unfold kWh
  rw [if_pos rfl]
  exact ⟨_, fun _ _ h => h, q⟩
theorem kwh_f {Pv : Nat → L2.St → Hp → Prop} {m : Nat} (q : D.nx σ H) : kWh Pv m ts D σ false H := by
  unfold kWh
  rw [if_neg Bool.false_ne_true]
  exact q

/-! ### list comprehensions -/
def kLc (J : It) (g : TG) (tt : TT) (te : TE) (vs : List Nat) (σ : L2.St) (H1 : Hp) (Q : VK) : Prop := ∀ D, H1 D = none → ∃ W : Nat → Nat → Hp → Prop, (∃ m, W 0 m (upd H1 D (.lst []))) ∧ ∀ i m H, W i m H →
  (J.stop i H ∧ Q (.ref D) H) ∨ (J.go i H ∧ ∃ Nx : Hp → Prop, (∀ H', Nx H' → ∃ m', m' < m ∧ W (i + 1) m' H') ∧ ∀ x H', J.yld i H x H' → g x (wipe σ vs) H' fun σ2 H2 => wipe σ2 vs = wipe σ vs ∧ tt σ2 H2 fun b H3 =>
    if b = true then te σ2 H3 fun y H4 => ∃ acc, H4 D = some (.lst acc) ∧ acc.length < sizeLine ∧ Nx (upd H4 D (.lst (acc ++ [y]))) else Nx H3)
def kLcL (K : PySem.W.Frag) (g : TG) (tt : TT) (te : TE) (vs : List Nat) (σ : L2.St) (x : V) (H : Hp) (Q : VK) : Prop := ∃ a, x = .ref a ∧ (∃ xs, SqL K H a xs) ∧ kLc (Itl K a) g tt te vs σ H Q
def kLcR1 (g : TG) (tt : TT) (te : TE) (ws : List Nat) (σ : L2.St) (vs : List V) (H : Hp) (Q : VK) : Prop := ∃ j : Int, vs = [.int j] ∧ -(2 ^ 62) ≤ j ∧ j < 2 ^ 62 ∧ kLc (Itr 0 j.toNat) g tt te ws σ H Q
theorem g_lcL {tt : TT} {vs : List Nat} (q : ta σ H fun x H1 => kLcL K g tt te vs σ x H1 Q) : tLc (iList K ta) g tt te vs σ H Q := q
theorem g_lcR1 {ta : TA} {tt : TT} {vs : List Nat} (q : ta σ H fun xs H1 => kLcR1 g tt te vs σ xs H1 Q) : tLc (iRng1 ta) g tt te vs σ H Q := q
/-- what a turn is to leave -/
def kNx (S : Nat → List V → Hp → Own → Prop) (i : Nat) (D : Addr) (H : Hp) : Prop := ∃ acc F' O', S (i + 1) acc F' O' ∧ Has F' ((D, .lst acc) :: O') H
def kTurn (D : Addr) (Nx : Hp → Prop) (y : V) (H : Hp) : Prop := ∃ acc, H D = some (.lst acc) ∧ acc.length < sizeLine ∧ Nx (upd H D (.lst (acc ++ [y])))
theorem k_turn {S : Nat → List V → Hp → Own → Prop} {i : Nat} {D : Addr} {acc : List V} {y : V} {H : Hp} {F : Hp} {O : Own} (h : Has F ((D, .lst acc) :: O) H) (hl : acc.length ≤ 100000) (s : S (i + 1) (acc ++ [y]) F O) : kTurn D (kNx S i D) y H :=
  ⟨acc, h.get (List.Mem.head _), by rw [sizeLine_eq]; omega, _, F, O, s, h.put .hd⟩
theorem k_skip {S : Nat → List V → Hp → Own → Prop} {i : Nat} {D : Addr} {acc : List V} {H : Hp} {F : Hp} {O : Own} (h : Has F ((D, .lst acc) :: O) H) (s : S (i + 1) acc F O) : kNx S i D H := ⟨acc, F, O, s, h⟩
theorem k_lc {J : It} {tt : TT} {vs : List Nat} (hH : Has F O H) (n : Nat) (S : Nat → List V → Hp → Own → Prop) (h0 : S 0 [] F O)
    (go : ∀ i acc F O D H, i < n → S i acc F O → Has F ((D, .lst acc) :: O) H → J.go i H) (stop : ∀ acc F O D H, S n acc F O → Has F ((D, .lst acc) :: O) H → J.stop n H)
    (hs : ∀ i x acc F O D H H', i < n → J.yld i H x H' → S i acc F O → Has F ((D, .lst acc) :: O) H → g x (wipe σ vs) H' fun σ2 H2 => wipe σ2 vs = wipe σ vs ∧ tt σ2 H2 fun b H3 => if b = true then te σ2 H3 fun y H4 => kTurn D (kNx S i D) y H4 else kNx S i D H3)
    (hd : ∀ acc F O D H, S n acc F O → Has F ((D, .lst acc) :: O) H → Q (.ref D) H) : kLc J g tt te vs σ H Q := by
  intro D hD
  refine ⟨fun i m H => m = n - i ∧ i ≤ n ∧ ∃ acc F O, S i acc F O ∧ Has F ((D, .lst acc) :: O) H, ⟨n, by simp, Nat.zero_le _, [], F, O, h0, hH.new hD⟩, ?_⟩
  rintro i m H1 ⟨rfl, hi, acc, F1, O1, s1, hH1⟩
  by_cases hlt : i < n
  · exact .inr ⟨go i acc F1 O1 D H1 hlt s1 hH1, kNx S i D, fun H' p => ⟨n - (i + 1), by omega, rfl, hlt, p⟩, fun x H' y => hs i x acc F1 O1 D H1 H' hlt y s1 hH1⟩
  · have e : i = n := by omega
    subst e
    exact .inl ⟨stop acc F1 O1 D H1 s1 hH1, hd acc F1 O1 D H1 s1 hH1⟩
/-- over a list that stands still -/
theorem k_lcL {a : Addr} {xs : List V} {tt : TT} {vs : List Nat} (h : H a = some (.lst xs)) (hH : Has F O H) (S : Nat → List V → Hp → Own → Prop) (h0 : S 0 [] F O) (hl : ∀ i acc F O H, S i acc F O → Has F O H → H a = some (.lst xs))
    (hs : ∀ i x acc F O D H, xs[i]? = some x → S i acc F O → Has F ((D, .lst acc) :: O) H → g x (wipe σ vs) H fun σ2 H2 => wipe σ2 vs = wipe σ vs ∧ tt σ2 H2 fun b H3 => if b = true then te σ2 H3 fun y H4 => kTurn D (kNx S i D) y H4 else kNx S i D H3)
    (hd : ∀ acc F O D H, S xs.length acc F O → Has F ((D, .lst acc) :: O) H → Q (.ref D) H) : kLcL K g tt te vs σ (.ref a) H Q := by
  refine ⟨a, rfl, ⟨xs, SqL.of h⟩, k_lc hH xs.length S h0 (fun i acc F O D H hi s hh => ?_) (fun acc F O D H s hh => ?_) (fun i x acc F O D H H' hi y s hh => ?_) hd⟩
  · exact ⟨xs, xs[i], SqL.of (hl i acc F O H s hh.drop), List.getElem?_eq_getElem hi⟩
  · exact ⟨xs, SqL.of (hl _ acc F O H s hh.drop), Nat.le_refl _⟩
  · obtain ⟨e, y⟩ := y
    subst e
    exact hs i x acc F O D _ (y xs (SqL.of (hl i acc F O _ s hh.drop))) s hh
theorem k_lcR1 {j : Int} {tt : TT} {vs : List Nat} (h1 : -(2 ^ 62) ≤ j) (h2 : j < 2 ^ 62) (hH : Has F O H) (S : Nat → List V → Hp → Own → Prop) (h0 : S 0 [] F O)
    (hs : ∀ i acc F O D H, i < j.toNat → S i acc F O → Has F ((D, .lst acc) :: O) H → g (.int (i : Int)) (wipe σ vs) H fun σ2 H2 => wipe σ2 vs = wipe σ vs ∧ tt σ2 H2 fun b H3 => if b = true then te σ2 H3 fun y H4 => kTurn D (kNx S i D) y H4 else kNx S i D H3)
    (hd : ∀ acc F O D H, S j.toNat acc F O → Has F ((D, .lst acc) :: O) H → Q (.ref D) H) : kLcR1 g tt te vs σ [.int j] H Q := by
  refine ⟨j, rfl, h1, h2, k_lc hH j.toNat S h0 (fun i acc F O D H hi s hh => hi) (fun acc F O D H s hh => Nat.le_refl _) (fun i x acc F O D H H' hi y s hh => ?_) hd⟩
  obtain ⟨e, y⟩ := y
  subst e y
  rw [Int.zero_add]
  exact hs i acc F O D _ hi s hh
end

/-! ### the rules' own soundness: one operator for several kinds -/
section
variable {X : Cx}
theorem op_addA : OpR X (binaryOp .Add) (rAdd X.K) := by
  intro pins s σ H x y v u Q I rx ry h
  rcases h with (h | h) | h | h
  · exact op_add pins s σ H x y v u Q I rx ry h
  · exact op_add_str pins s σ H x y v u Q I rx ry h
  · exact op_cat pins s σ H x y v u Q I rx ry h
  · exact op_catA pins s σ H x y v u Q I rx ry h
theorem op_mulA : OpR X (binaryOp .Mult) rMul := by
  intro pins s σ H x y v u Q I rx ry h
  rcases h with h | h
  · exact op_mul pins s σ H x y v u Q I rx ry h
  · exact op_rep pins s σ H x y v u Q I rx ry h
theorem op_eqA (hu : X.A.units + 64 < cLine) : OpR X (compareOp .Eq) (rEqA X.K) := by
  intro pins s σ H x y v u Q I rx ry h
  rcases h with h | h
  · exact op_eq pins s σ H x y v u Q I rx ry h
  · exact op_eqD hu pins s σ H x y v u Q I rx ry h
theorem op_neA (hu : X.A.units + 64 < cLine) : OpR X (compareOp .NotEq) (rNeA X.K) := by
  intro pins s σ H x y v u Q I rx ry h
  rcases h with h | h
  · exact op_ne pins s σ H x y v u Q I rx ry h
  · exact op_neD hu pins s σ H x y v u Q I rx ry h
theorem op_isNA : OpR X (compareOp .Is) rIsN := op_isN
theorem op_notNA : OpR X (compareOp .IsNot) rNotN := op_notN
theorem cr_len : CallR X (.builtin "len") (rLen X.K) := by
  intro pins s σ H xs us Q I r h
  rcases h with h | h
  · exact call_len_seq pins s σ H xs us Q I r h
  · exact call_len_str pins s σ H xs us Q I r h
theorem cr_int1 : CallR X (.type "int") rInt1 := call_int1
theorem cr_abs1 : CallR X (.builtin "abs") rAbs1 := call_abs
theorem cr_max2 (hc : X.calm = true) : CallR X (.builtin "max") rMax2 := call_max2 hc
theorem cr_listOf : CallR X (.type "list") (rListOf X.K) := call_list_of
theorem cr_tupleOf : CallR X (.type "tuple") (rTupleOf X.K) := call_tuple_of
end

/-! ### dicts -/
def rInDc : R2 := fun x y H Q => ∃ a o, y = .ref a ∧ DGet H a x o ∧ Q (.bl o.isSome) H
def rNotInDc : R2 := fun x y H Q => ∃ a o, y = .ref a ∧ DGet H a x o ∧ Q (.bl (!o.isSome)) H
section
variable {X : Cx}
theorem op_inDc (hu : X.A.units + 1 < cLine) : OpR X (compareOp .In) rInDc := by
  intro pins s σ H x y v u Q I rx ry h
  obtain ⟨a, o, rfl, g, q⟩ := h
  cases ry
  exact d_in hu I g rx fun s' I' => ⟨.bl _, H, I', rfl, q⟩
theorem op_notinDc (hu : X.A.units + 1 < cLine) : OpR X (compareOp .NotIn) rNotInDc := by
  intro pins s σ H x y v u Q I rx ry h
  obtain ⟨a, o, rfl, g, q⟩ := h
  cases ry
  exact d_notIn hu I g rx fun s' I' => ⟨.bl _, H, I', rfl, q⟩
end
def kGet2 (ty tx : TE) (σ : L2.St) (x : V) (H : Hp) (Q : VK) : Prop := ∃ a, x = .ref a ∧ IsD H a ∧ ty σ H fun y H2 => tx σ H2 fun z H3 => ∃ o, DGet H3 a y o ∧ Q (o.getD z) H3
def kGot (a : Addr) (y z : V) (H : Hp) (Q : VK) : Prop := ∃ o, DGet H a y o ∧ Q (o.getD z) H
section
variable {K : PySem.W.Frag} {σ : L2.St} {F : Hp} {O O' : Own} {H : Hp} {Q : VK} {ta tb tc te : TE} {x y v : V} {D : Ends} {t1 t2 ts : TS} {g : TG}
theorem g_dnew (hH : Has F O H) (q : ∀ p H', H p = none → Has F ((p, .dK []) :: O) H' → Q (.ref p) H') : tDNewK σ H Q := fun p n => q p _ n (hH.new n)
theorem g_inDI {a : Addr} {kvs : List (Key × V)} {i : Int} (h : H a = some (.dK kvs)) (q : Q (.bl (valV kvs (.inl i)).isSome) H) : rInDc (.int i) (.ref a) H Q := ⟨a, _, rfl, DGet.k (k := .inl i) h, q⟩
theorem g_notinDI {a : Addr} {kvs : List (Key × V)} {i : Int} (h : H a = some (.dK kvs)) (q : Q (.bl (!(valV kvs (.inl i)).isSome)) H) : rNotInDc (.int i) (.ref a) H Q := ⟨a, _, rfl, DGet.k (k := .inl i) h, q⟩
theorem g_setDI {R : L2.St → Hp → Prop} {a : Addr} {kvs : List (Key × V)} {i : Int} (hH : Has F O H) (c : Chg O a (.dK kvs) (.dK (putK kvs (.inl i) v)) O') (hl : kvs.length < sizeLine) (q : ∀ H', Has F O' H' → R σ H') : kSet rSetD R σ (.ref a) (.int i) v H :=
  ⟨a, _, rfl, DPut.k (k := .inl i) (hH.get c.mem) hl, q _ (hH.put c)⟩
theorem g_get2 (q : ta σ H fun x H1 => kGet2 tb tc σ x H1 Q) : tDGet2 ta tb tc σ H Q := q
theorem g_kget2 {a : Addr} {kvs : List (Key × V)} (h : H a = some (.dK kvs)) (q : tb σ H fun y H2 => tc σ H2 fun z H3 => kGot a y z H3 Q) : kGet2 tb tc σ (.ref a) H Q := ⟨a, rfl, .inl ⟨kvs, .inl h⟩, q⟩
theorem g_kgotI {a : Addr} {kvs : List (Key × V)} {i : Int} {z : V} (h : H a = some (.dK kvs)) (q : Q ((valV kvs (.inl i)).getD z) H) : kGot a (.int i) z H Q := ⟨_, DGet.k (k := .inl i) h, q⟩
theorem g_kgotS {a : Addr} {kvs : List (Key × V)} {i : Str} {z : V} (h : H a = some (.dK kvs)) (q : Q ((valV kvs (.inr i)).getD z) H) : kGot a (.str i) z H Q := ⟨_, DGet.k (k := .inr i) h, q⟩
end

/-! ### in, not in; o[i] = v: any of the kinds -/
def rInA (K : PySem.W.Frag) : R2 := fun x y H Q => (rIn K false x y H Q ∨ rInDc x y H Q) ∨ (∃ i j, x = .str i ∧ y = .str j ∧ Q (.bl (!(Builtin.Str.occurrences j i 0 j.length 1).isEmpty)) H) ∨ rInD K x y H Q
def rNotInA (K : PySem.W.Frag) : R2 := fun x y H Q => (rIn K true x y H Q ∨ rNotInDc x y H Q) ∨ (∃ i j, x = .str i ∧ y = .str j ∧ Q (.bl (!(!(Builtin.Str.occurrences j i 0 j.length 1).isEmpty))) H) ∨ rNotInD K x y H Q
def rSetA : TSet := fun o i v H Q => rSetL o i v H Q ∨ rSetD o i v H Q
section
variable {X : Cx}
theorem op_inA (hu : X.A.units + 64 < cLine) (hu' : X.A.units + 65 < cLine) : OpR X (compareOp .In) (rInA X.K) := by
  intro pins s σ H x y v u Q I rx ry h
  rcases h with (h | h) | h | h
  · exact op_in_seq pins s σ H x y v u Q I rx ry h
  · exact op_inDc (by omega) pins s σ H x y v u Q I rx ry h
  · exact op_in_str pins s σ H x y v u Q I rx ry h
  · exact op_inD hu' pins s σ H x y v u Q I rx ry h
theorem op_notinA (hu : X.A.units + 64 < cLine) (hu' : X.A.units + 65 < cLine) : OpR X (compareOp .NotIn) (rNotInA X.K) := by
  intro pins s σ H x y v u Q I rx ry h
  rcases h with (h | h) | h | h
  · exact op_notIn_seq pins s σ H x y v u Q I rx ry h
  · exact op_notinDc (by omega) pins s σ H x y v u Q I rx ry h
  · exact L2.op_notIn_str pins s σ H x y v u Q I rx ry h
  · exact op_notInD hu' pins s σ H x y v u Q I rx ry h
theorem set_any (hu : X.A.units + 1 < cLine) : PSet X rSetA := by
  intro pins s σ H o i v ov iv u Q I ro ri rv h
  rcases h with h | h
  · exact set_list pins s σ H o i v ov iv u Q I ro ri rv h
  · exact set_dict hu pins s σ H o i v ov iv u Q I ro ri rv h
theorem u65 {k : Nat} {A : Around} (r : Room k A) : A.units + 65 < cLine := by have := r.un; omega
end
section
variable {K : PySem.W.Frag} {σ : L2.St} {F : Hp} {O O' : Own} {H : Hp} {Q : VK} {x y v : V}
theorem g_inFL {a : Addr} {xs : List V} (h : H a = some (.lst xs)) (hx : flatV x = true) (hf : xs.all flatV = true) (q : Q (.bl (inV x xs)) H) : rInA K x (.ref a) H Q := .inl (.inl ⟨a, xs, rfl, .inl (SqL.of h), hx, hf, q⟩)
theorem g_notinFL {a : Addr} {xs : List V} (h : H a = some (.lst xs)) (hx : flatV x = true) (hf : xs.all flatV = true) (q : Q (.bl (!inV x xs)) H) : rNotInA K x (.ref a) H Q := .inl (.inl ⟨a, xs, rfl, .inl (SqL.of h), hx, hf, q⟩)
theorem g_inI {a : Addr} {kvs : List (Key × V)} {i : Int} (h : H a = some (.dK kvs)) (q : Q (.bl (valV kvs (.inl i)).isSome) H) : rInA K (.int i) (.ref a) H Q := .inl (.inr ⟨a, _, rfl, DGet.k (k := .inl i) h, q⟩)
theorem g_notinI {a : Addr} {kvs : List (Key × V)} {i : Int} (h : H a = some (.dK kvs)) (q : Q (.bl (!(valV kvs (.inl i)).isSome)) H) : rNotInA K (.int i) (.ref a) H Q := .inl (.inr ⟨a, _, rfl, DGet.k (k := .inl i) h, q⟩)
theorem g_inS {a : Addr} {kvs : List (Key × V)} {i : Str} (h : H a = some (.dK kvs)) (q : Q (.bl (valV kvs (.inr i)).isSome) H) : rInA K (.str i) (.ref a) H Q := .inl (.inr ⟨a, _, rfl, DGet.k (k := .inr i) h, q⟩)
theorem g_notinS {a : Addr} {kvs : List (Key × V)} {i : Str} (h : H a = some (.dK kvs)) (q : Q (.bl (!(valV kvs (.inr i)).isSome)) H) : rNotInA K (.str i) (.ref a) H Q := .inl (.inr ⟨a, _, rfl, DGet.k (k := .inr i) h, q⟩)
theorem g_stL {R : L2.St → Hp → Prop} {a : Addr} {xs : List V} {k : Int} {j : Nat} (hH : Has F O H) (c : Chg O a (.lst xs) (.lst (xs.set j v)) O') (hj : ixN xs.length k = some j) (q : ∀ H', Has F O' H' → R σ H') : kSet rSetA R σ (.ref a) (.int k) v H :=
  .inl ⟨a, xs, k, j, rfl, rfl, hH.get c.mem, hj, q _ (hH.put c)⟩
theorem g_stD {R : L2.St → Hp → Prop} {a : Addr} {kvs : List (Key × V)} {k : Key} {z : V} (ez : z = kV k) (hH : Has F O H) (c : Chg O a (.dK kvs) (.dK (putK kvs k v)) O') (hl : kvs.length < sizeLine) (q : ∀ H', Has F O' H' → R σ H') : kSet rSetA R σ (.ref a) z v H := by
  subst ez
  exact .inr ⟨a, _, rfl, DPut.k (hH.get c.mem) hl, q _ (hH.put c)⟩
end

/-! ### an argument that is changed -/
def rm (H : Hp) (a : Addr) : Hp := fun b => if b = a then none else H b
/-- all but a stands as it stood -/
def But (a : Addr) (H H' : Hp) : Prop := ∀ b u, b ≠ a → H b = some u → H' b = some u
theorem rm_at {H : Hp} {a : Addr} : rm H a a = none := if_pos rfl
theorem rm_ne {H : Hp} {a b : Addr} (h : b ≠ a) : rm H a b = H b := if_neg h
theorem Has.arg {H : Hp} {a : Addr} {o : HO} (h : H a = some o) : Has (rm H a) [(a, o)] H := by
  refine ⟨fun b u q => ?_, fun p hp => ?_, by simp⟩
  · by_cases e : b = a
    · subst e; rw [rm_at] at q; cases q
    · rw [rm_ne e] at q; exact q
  · have e : p = (a, o) := by simpa using hp
    subst e
    exact ⟨rm_at, h⟩
theorem But.of {H H' : Hp} {a : Addr} (h : Same (rm H a) H') : But a H H' := fun b u ne q => h b u (by rw [rm_ne ne]; exact q)
theorem But.trans {a : Addr} {H H1 H2 : Hp} (x : But a H H1) (y : But a H1 H2) : But a H H2 := fun b u ne q => y b u ne (x b u ne q)
theorem But.same {a : Addr} {H H1 H2 : Hp} (x : But a H H1) (y : Same H1 H2) : But a H H2 := fun b u ne q => y b u (x b u ne q)
section
variable {K : PySem.W.Frag} {σ : L2.St} {F : Hp} {O O' : Own} {H : Hp} {Q : VK} {x y v : V}
/-- a test by a fact about its answer -/
theorem g_fact {t : TT} {R : Bool → Hp → Prop} (C : Bool → Prop) (h : ∀ R : Bool → Hp → Prop, (∀ b, C b → R b H) → t σ H R) (q : ∀ b, C b → R b H) : t σ H R := h R q
theorem g_ixV {a : Addr} {xs : List V} {i : Int} (h : H a = some (.lst xs)) (h0 : 0 ≤ i) (hl : i < xs.length) (q : ∀ v, xs[i.toNat]? = some v → Q v H) : rIxA K (.ref a) (.int i) H Q := by
  have e : i.toNat < xs.length := by omega
  exact g_ixL h (at_n h0 (List.getElem?_eq_getElem e)) (q _ (List.getElem?_eq_getElem e))
theorem g_ixI {a : Addr} {xs : List Int} {i : Int} (h : H a = some (.lst (xs.map V.int))) (h0 : 0 ≤ i) (hl : i < xs.length) (q : ∀ z, xs[i.toNat]? = some z → Q (.int z) H) : rIxA K (.ref a) (.int i) H Q := by
  have e : i.toNat < xs.length := by omega
  refine g_ixL h (at_n h0 (v := .int xs[i.toNat]) ?_) (q _ (List.getElem?_eq_getElem e))
  rw [List.getElem?_map, List.getElem?_eq_getElem e]
  rfl
theorem g_ixZ {a : Addr} {xs : List Str} {i : Int} (h : H a = some (.lst (xs.map V.str))) (h0 : 0 ≤ i) (hl : i < xs.length) (q : ∀ z, xs[i.toNat]? = some z → Q (.str z) H) : rIxA K (.ref a) (.int i) H Q := by
  have e : i.toNat < xs.length := by omega
  refine g_ixL h (at_n h0 (v := .str xs[i.toNat]) ?_) (q _ (List.getElem?_eq_getElem e))
  rw [List.getElem?_map, List.getElem?_eq_getElem e]
  rfl
theorem g_stI {R : L2.St → Hp → Prop} {a : Addr} {xs : List Int} {k z : Int} (hH : Has F O H) (c : Chg O a (.lst (xs.map V.int)) (.lst ((xs.set k.toNat z).map V.int)) O') (h0 : 0 ≤ k) (hl : k < xs.length) (q : ∀ H', Has F O' H' → R σ H') : kSet rSetA R σ (.ref a) (.int k) (.int z) H := by
  refine g_stL (xs := xs.map V.int) (j := k.toNat) hH ?_ (ixN_nat h0 (by rw [List.length_map]; exact hl)) q
  rw [← List.map_set]
  exact c
theorem g_popAtI {a : Addr} {xs : List Int} {i : Int} (hH : Has F O H) (c : Chg O a (.lst (xs.map V.int)) (.lst ((xs.eraseIdx i.toNat).map V.int)) O') (h0 : 0 ≤ i) (hl : i < xs.length) (h2 : xs.length ≤ 1000) (q : ∀ H' z, Has F O' H' → Q (.int z) H') : rPopAt (.ref a) [.int i] H Q := by
  have e : i.toNat < xs.length := by omega
  refine g_popAt (xs := xs.map V.int) (k := i.toNat) (y := .int xs[i.toNat]) hH ?_ (by omega) (by omega) ?_ ?_ (fun H' h => q H' _ h)
  · have : (xs.map V.int).eraseIdx i.toNat = (xs.eraseIdx i.toNat).map V.int := by
      rw [List.eraseIdx_eq_take_drop_succ, List.eraseIdx_eq_take_drop_succ, List.map_append, List.map_take, List.map_drop]
    rw [this]
    exact c
  · have := (ixN_seq (n := (xs.map V.int).length) (i := i) (j := i.toNat) (ixN_nat h0 (by rw [List.length_map]; exact hl))).1
    exact this
  · rw [List.getElem?_map, List.getElem?_eq_getElem e]
    rfl
end
theorem sz {n : Nat} (h : n ≤ 100000) : n ≤ sizeLine := by rw [sizeLine_eq]; omega
theorem szl {n : Nat} (h : n < 100000) : n < sizeLine := by rw [sizeLine_eq]; omega

section
variable {K : PySem.W.Frag} {σ : L2.St} {F : Hp} {O O' : Own} {H : Hp} {Q : VK} {x y v : V} {te ta : TE}
theorem g_yes {R : Bool → Hp → Prop} (q : R true H) : tYes σ H R := q
theorem g_wipe {σ1 σ2 : L2.St} {B : Prop} (e : σ1 = σ2) (q : B) : σ1 = σ2 ∧ B := ⟨e, q⟩
def kOI (x : V) (H : Hp) (R : Option Int → Hp → Prop) : Prop := ∃ i, x = .int i ∧ R (some i) H
theorem g_part {R : Option Int → Hp → Prop} (q : te σ H fun x H1 => kOI x H1 R) : tPart te σ H R := q
theorem g_kOI {R : Option Int → Hp → Prop} {i : Int} (q : R (some i) H) : kOI (.int i) H R := ⟨i, rfl, q⟩
theorem g_nopart {R : Option Int → Hp → Prop} (q : R none H) : tNoPart σ H R := q
theorem g_slice {r : V → Option Int → Option Int → Hp → VK → Prop} {tl th : TO} (q : te σ H fun x H1 => tl σ H1 fun l H2 => th σ H2 fun u H3 => r x l u H3 Q) : tSl r te tl th σ H Q := q
def rSlB (K : PySem.W.Frag) : V → Option Int → Option Int → Hp → VK → Prop := fun x lo hi H Q => rSlL K x lo hi H Q ∨ rSlA K x lo hi H Q
theorem g_slS {a : Addr} {xs : List V} {lo hi : Option Int} (h : SqL K H a xs) (hH : Has F O H) (q : ∀ p H', H p = none → Has F ((p, .lst (cutV xs lo hi)) :: O) H' → Q (.ref p) H') : rSlB K (.ref a) lo hi H Q := .inl ⟨a, xs, rfl, h, fun p n => q p _ n (hH.new n)⟩
theorem g_slTF {a : Addr} {xs : List V} {lo hi : Option Int} (h : F a = some (.tup xs)) (hH : Has F O H) (q : ∀ p H' F', Same F F' → F' p = some (.tup (cutV xs lo hi)) → Has F' O H' → Q (.ref p) H') : rSlB K (.ref a) lo hi H Q :=
  .inr ⟨a, xs, rfl, SqT.of (hH.same _ _ h), fun w => q a H F (Same.refl _) (by
    have e : cutV xs lo hi = xs := by
      unfold cutV
      rw [w.1, w.2, List.drop_zero, Nat.sub_zero, List.take_length]
    rw [e]; exact h) hH, fun _ p n => q p _ (upd F p (.tup (cutV xs lo hi))) (same_upd (hH.same.free n)) upd_same (hH.new n).frz⟩
theorem g_addTF {a b : Addr} {xs ys : List V} (h1 : F a = some (.tup xs)) (h2 : F b = some (.tup ys)) (hl : xs.length + ys.length ≤ sizeLine) (hH : Has F O H) (q : ∀ p H' F', Same F F' → F' p = some (.tup (xs ++ ys)) → Has F' O H' → Q (.ref p) H') : rAdd K (.ref a) (.ref b) H Q :=
  .inr (.inr ⟨a, b, xs, ys, rfl, rfl, SqT.of (hH.same _ _ h1), SqT.of (hH.same _ _ h2), hl, fun e => q b H F (Same.refl _) (by rw [e]; exact h2) hH, fun _ e => q a H F (Same.refl _) (by rw [e, List.append_nil]; exact h1) hH,
    fun _ _ p n => q p _ (upd F p (.tup (xs ++ ys))) (same_upd (hH.same.free n)) upd_same (hH.new n).frz⟩)
theorem g_slL {a : Addr} {xs : List V} {lo hi : Option Int} (h : H a = some (.lst xs)) (hH : Has F O H) (q : ∀ p H', H p = none → Has F ((p, .lst (cutV xs lo hi)) :: O) H' → Q (.ref p) H') : rSlB K (.ref a) lo hi H Q := g_slS (SqL.of h) hH q
theorem cutV_ints (ns : List Int) (lo hi : Option Int) : ∃ ms : List Int, cutV (ns.map V.int) lo hi = ms.map V.int ∧ ms.length ≤ ns.length := by
  refine ⟨(ns.drop (HT.sIx ns.length 0 lo)).take (HT.sIx ns.length ns.length hi - HT.sIx ns.length 0 lo), ?_, ?_⟩
  · unfold cutV
    rw [List.length_map, List.map_take, List.map_drop]
  · rw [List.length_take, List.length_drop]
    omega
theorem g_revL {a : Addr} {xs : List V} (h : H a = some (.lst xs)) (hH : Has F O H) (q : ∀ p H', H p = none → Has F ((p, .lst xs.reverse) :: O) H' → Q (.ref p) H') : (∃ b ys, V.ref a = .ref b ∧ SqL K H b ys ∧ ∀ p, H p = none → Q (.ref p) (upd H p (.lst ys.reverse))) :=
  ⟨a, xs, rfl, SqL.of h, fun p n => q p _ n (hH.new n)⟩
theorem g_tRev (q : te σ H fun x H1 => rRevL K x H1 Q) : tRevL K te σ H Q := q
theorem g_rRev {a : Addr} {xs : List V} (h : H a = some (.lst xs)) (hH : Has F O H) (q : ∀ p H', H p = none → Has F ((p, .lst xs.reverse) :: O) H' → Q (.ref p) H') : rRevL K (.ref a) H Q := ⟨a, xs, rfl, SqL.of h, fun p n => q p _ n (hH.new n)⟩
/-- an item of a list of texts that are in order, of ints from 0 to n -/
def okS : V → Bool
  | .str z => PyData.strOk z
  | _ => false
def okI (n : Int) : V → Bool
  | .int z => decide (0 ≤ z ∧ z ≤ n)
  | _ => false
theorem g_ixM {a : Addr} {xs : List V} {i : Int} (h : H a = some (.lst xs)) (ok : xs.all okS = true) (h0 : 0 ≤ i) (hl : i < xs.length) (q : ∀ z, PyData.strOk z = true → Q (.str z) H) : rIxA K (.ref a) (.int i) H Q := by
  refine g_ixV h h0 hl fun v hv => ?_
  have m := List.all_eq_true.mp ok v (List.mem_of_getElem? hv)
  cases v with
  | str z => exact q z m
  | _ => cases m
theorem g_ixN {n : Int} {a : Addr} {xs : List V} {i : Int} (h : H a = some (.lst xs)) (ok : xs.all (okI n) = true) (h0 : 0 ≤ i) (hl : i < xs.length) (q : ∀ z, 0 ≤ z → z ≤ n → Q (.int z) H) : rIxA K (.ref a) (.int i) H Q := by
  refine g_ixV h h0 hl fun v hv => ?_
  have m := List.all_eq_true.mp ok v (List.mem_of_getElem? hv)
  cases v with
  | int z =>
    have := of_decide_eq_true (show decide (0 ≤ z ∧ z ≤ n) = true from m)
    exact q z this.1 this.2
  | _ => cases m
end

/-! ### tables of ints: a list of rows -/
def rowO (r : Addr × List Int) : Addr × HO := (r.1, .lst (r.2.map V.int))
def tabO (t : Addr) (rows : List (Addr × List Int)) : Own := (t, .lst (rows.map fun r => V.ref r.1)) :: rows.map rowO
theorem Chg.row {r : Addr × List Int} {zs : List Int} {O : Own} : ∀ {rows : List (Addr × List Int)} {k : Nat}, rows[k]? = some r → Chg (rows.map rowO ++ O) r.1 (.lst (r.2.map V.int)) (.lst (zs.map V.int)) ((rows.set k (r.1, zs)).map rowO ++ O)
  | [], k, h => by simp at h
  | x :: rows, 0, h => by
    have e : x = r := Option.some.inj h
    subst e
    exact .hd
  | x :: rows, k + 1, h => .tl (Chg.row (rows := rows) (k := k) h)
theorem rows_ref {r : Addr × List Int} {zs : List Int} : ∀ {rows : List (Addr × List Int)} {k : Nat}, rows[k]? = some r → (rows.set k (r.1, zs)).map (fun r => V.ref r.1) = rows.map fun r => V.ref r.1
  | [], k, h => by simp at h
  | x :: rows, 0, h => by
    have e : x = r := Option.some.inj h
    subst e
    rfl
  | x :: rows, k + 1, h => by
    have := rows_ref (rows := rows) (k := k) (zs := zs) h
    show V.ref x.1 :: (rows.set k (r.1, zs)).map (fun r => V.ref r.1) = _
    rw [this]
    rfl
section
variable {K : PySem.W.Frag} {σ : L2.St} {F : Hp} {O O' : Own} {H : Hp} {Q : VK} {t : Addr} {rows : List (Addr × List Int)}
theorem Has.row {r : Addr × List Int} {k : Nat} (hH : Has F (tabO t rows ++ O) H) (hr : rows[k]? = some r) : H r.1 = some (.lst (r.2.map V.int)) :=
  hH.get (List.mem_append_left _ (List.mem_cons_of_mem _ (List.mem_map.mpr ⟨r, List.mem_of_getElem? hr, rfl⟩)))
theorem Has.tab (hH : Has F (tabO t rows ++ O) H) : H t = some (.lst (rows.map fun r => V.ref r.1)) := hH.get (List.mem_append_left _ List.mem_cons_self)
theorem g_ixRow {i : Int} (hH : Has F (tabO t rows ++ O) H) (h0 : 0 ≤ i) (hl : i < rows.length) (q : ∀ r, rows[i.toNat]? = some r → H r.1 = some (.lst (r.2.map V.int)) → Q (.ref r.1) H) : rIxA K (.ref t) (.int i) H Q := by
  have e : i.toNat < rows.length := by omega
  have hr := List.getElem?_eq_getElem e
  refine g_ixL hH.tab (at_n h0 (v := .ref rows[i.toNat].1) ?_) (q _ hr (hH.row hr))
  rw [List.getElem?_map, hr]
  rfl
theorem g_setRow {R : L2.St → Hp → Prop} {r : Addr × List Int} {k : Nat} {j z : Int} (hH : Has F (tabO t rows ++ O) H) (hr : rows[k]? = some r) (h0 : 0 ≤ j) (hl : j < r.2.length) (q : ∀ H', Has F (tabO t (rows.set k (r.1, r.2.set j.toNat z)) ++ O) H' → R σ H') :
    kSet rSetA R σ (.ref r.1) (.int j) (.int z) H := by
  refine g_stI hH (xs := r.2) ?_ h0 hl q
  have c := Chg.row (O := O) (zs := r.2.set j.toNat z) hr
  unfold tabO
  rw [List.cons_append, List.cons_append, rows_ref hr]
  exact .tl c
end

/-! ### the rules with the written part by its name -/
section
variable {X : Cx}
theorem op_addK (K : PySem.W.Frag) (e : X.K = K := by rfl) : OpR X (binaryOp .Add) (rAdd K) := by subst e; exact op_addA
theorem op_eqK (K : PySem.W.Frag) (hu : X.A.units + 64 < cLine) (e : X.K = K := by rfl) : OpR X (compareOp .Eq) (rEqA K) := by subst e; exact op_eqA hu
theorem op_neK (K : PySem.W.Frag) (hu : X.A.units + 64 < cLine) (e : X.K = K := by rfl) : OpR X (compareOp .NotEq) (rNeA K) := by subst e; exact op_neA hu
theorem op_inK (K : PySem.W.Frag) (hu : X.A.units + 64 < cLine) (hu' : X.A.units + 65 < cLine) (e : X.K = K := by rfl) : OpR X (compareOp .In) (rInA K) := by subst e; exact op_inA hu hu'
theorem op_notinK (K : PySem.W.Frag) (hu : X.A.units + 64 < cLine) (hu' : X.A.units + 65 < cLine) (e : X.K = K := by rfl) : OpR X (compareOp .NotIn) (rNotInA K) := by subst e; exact op_notinA hu hu'
theorem ix_dict (hu : X.A.units + 1 < cLine) : IxR X rIxD := by
  intro value slice pins s σ H x y v u Q I rx ry h hs
  obtain ⟨a, z, rfl, g, q⟩ := h
  cases rx
  have hT := dict_typeIs I g
  have fin : wpAny (model X.prog X.w) X.A (subscripted slice false (.ref a) u) (fun r s₃ => wpAny (model X.prog X.w) X.A (letTemporaryGo value (.ref a) r >>= fun _ => pure r) (EP X pins σ Q) X.xe s₃) X.xe s := by
    rw [hs]
    exact wpAny_operating (wpAny_mono (d_getItem hu I g ry (Q := fun r s' => EP X pins σ Q r s') fun w' s3 I3 rw' => ⟨z, H, I3, rw', q⟩) (fun r s₃ h₃ => wpAny_bind (wpAny_letTemporaryGo (wpAny_pure h₃))) fun _ _ x => x)
  unfold subscriptTail
  refine wpAny_bind ?_
  rw [getitemInPython_of_ne hT.not_modules]
  refine wpAny_bind (wpAny_specialOf hT PySem.F.slot_dict_getitem.lookup ?_)
  first
    | exact wpAny_pure (wpAny_bind fin)
    | exact wpAny_bind (wpAny_pure (wpAny_bind fin))
    | exact wpAny_bind fin
theorem ix_K (K : PySem.W.Frag) (hu : X.A.units + 1 < cLine) (e : X.K = K := by rfl) : IxR X (rIxA K) := by subst e; exact ix_seq.or (ix_dict hu)
theorem cr_lenK (K : PySem.W.Frag) (e : X.K = K := by rfl) : CallR X (.builtin "len") (rLen K) := by subst e; exact cr_len
theorem cr_listK (K : PySem.W.Frag) (e : X.K = K := by rfl) : CallR X (.type "list") (rListOf K) := by subst e; exact cr_listOf
theorem cr_tupleK (K : PySem.W.Frag) (e : X.K = K := by rfl) : CallR X (.type "tuple") (rTupleOf K) := by subst e; exact cr_tupleOf
theorem sl_all : SlR X (rSlB X.K) := by
  intro pins s σ H x v vl vu lo hi sl Q I rx hs pl pu h
  rcases h with h | h
  · exact sl_list pins s σ H x v vl vu lo hi sl Q I rx hs pl pu h
  · exact sl_tupA pins s σ H x v vl vu lo hi sl Q I rx hs pl pu h
theorem sl_K (K : PySem.W.Frag) (e : X.K = K := by rfl) : SlR X (rSlB K) := by subst e; exact sl_all
theorem k_bm {ex : Expr} {T : String} {r : V → List V → Hp → VK → Prop} {to : TE} {t : TA} (K : PySem.W.Frag) (h : PE X ex (tBM X.K T r to t)) (e : X.K = K := by rfl) : PE X ex (tBM K T r to t) := by subst e; exact h
theorem k_bm0 {ex : Expr} {T : String} {r : V → List V → Hp → VK → Prop} {to : TE} (K : PySem.W.Frag) (h : PE X ex (tBM0 X.K T r to)) (e : X.K = K := by rfl) : PE X ex (tBM0 K T r to) := by subst e; exact h
theorem k_rev {ex : Expr} {to : TE} (K : PySem.W.Frag) (h : PE X ex (tRevL X.K to)) (e : X.K = K := by rfl) : PE X ex (tRevL K to) := by subst e; exact h
theorem k_il {tg l : Expr} {tl : TE} (K : PySem.W.Frag) (h : PI X tg l (iList X.K tl)) (e : X.K = K := by rfl) : PI X tg l (iList K tl) := by subst e; exact h
theorem k_gt {tg : Expr} {n : Nat} {t : TGs} (K : PySem.W.Frag) (h : PG X tg (gTup X.K n t)) (e : X.K = K := by rfl) : PG X tg (gTup K n t) := by subst e; exact h
end
theorem g_start {t : TS} {D : Ends} {σ σ' : L2.St} {H : Hp} (e : σ = σ') (h : t D σ' H) : t D σ H := by subst e; exact h

theorem Has.argFree {H H' : Hp} {a D : Addr} {o : HO} {O : Own} (h : Has (rm H a) ((D, o) :: O) H') (m : a ∈ O.map (·.1)) : H D = none := by
  have nd : D ∉ O.map (·.1) ∧ (O.map (·.1)).Nodup := List.nodup_cons.mp (by have := h.nd; rw [List.map_cons] at this; exact this)
  have e := h.free
  rw [rm_ne (fun z => nd.1 (by rw [z]; exact m))] at e
  exact e

theorem Has.but2 {F H H' : Hp} {O O' : Own} {a p : Addr} {o o' op : HO} (h : Has F O H) (c : Chg O a o o' O') (hb : But a H H') (e : H' a = some o') (n : H p = none) (ep : H' p = some op) : Has F ((p, op) :: O') H' := by
  have h' := h.but c hb e
  refine ⟨h'.same, fun q hq => ?_, ?_⟩
  · rcases List.mem_cons.mp hq with rfl | hq
    · exact ⟨h.same.free n, ep⟩
    · exact h'.own q hq
  · rw [List.map_cons]
    refine List.nodup_cons.mpr ⟨fun m => ?_, h'.nd⟩
    rw [c.fst] at m
    obtain ⟨q, hq, e'⟩ := List.mem_map.mp m
    have z := (h.own q hq).2
    rw [e', n] at z
    cases z

theorem Has.mono {F F' H : Hp} {O : Own} (h : Has F O H) (s : Same F' F) : Has F' O H := ⟨s.trans h.same, fun q hq => ⟨s.free (h.own q hq).1, (h.own q hq).2⟩, h.nd⟩
theorem same_rm {F H : Hp} {a : Addr} (s : Same F H) (n : F a = none) : Same F (rm H a) := fun b u q => by
  rw [rm_ne (ne_of_none q n)]
  exact s b u q
theorem take_foldl {α β : Type} {f : β → α → β} {z : β} {l : List α} {i : Nat} {x : α} (h : l[i]? = some x) : (l.take (i + 1)).foldl f z = f ((l.take i).foldl f z) x := by
  rw [List.take_add_one, h, List.foldl_append]
  rfl

/-! ### isinstance -/
def rIsA (K : PySem.W.Frag) : List V → Hp → VK → Prop := fun xs H Q => rIsi K xs H Q ∨ rIsiT K xs H Q
theorem cr_isK {X : Cx} (K : PySem.W.Frag) (e : X.K = K := by rfl) : CallR X (.builtin "isinstance") (rIsA K) := by
  subst e
  intro pins s σ H xs us Q I r h
  rcases h with h | h
  · exact call_isi pins s σ H xs us Q I r h
  · exact call_isiT pins s σ H xs us Q I r h
theorem g_is {K : PySem.W.Frag} {H : Hp} {Q : VK} {x : V} {t n : String} {b : Bool} (ty : TyX K H x (.type t)) (e : kitB t n = some b) (q : Q (.bl b) H) : rIsA K [x, .ty n] H Q := .inl ⟨x, .ty n, _, _, b, rfl, .ty n, ty, kit_ty e, q⟩
theorem g_is2 {K : PySem.W.Frag} {H : Hp} {Q : VK} {x : V} {t n m : String} {a b : Bool} {tp : Addr} (h : H tp = some (.tup [.ty n, .ty m])) (ty : TyX K H x (.type t)) (ea : kitB t n = some a) (eb : kitB t m = some b) (q : Q (.bl (a || b)) H) : rIsA K [x, .ref tp] H Q := by
  refine .inr ⟨x, tp, _, _, _, a || b, rfl, h, .cons (.ty n) (.cons (.ty m) .nil), ty, ?_, q⟩
  refine kitAny_cons (kit_ty ea) (fun z => ?_) (fun z => by rw [z]; rfl)
  refine kitAny_cons (kit_ty eb) (fun y => ?_) (fun y => by rw [z, y]; rfl)
  rw [z, y]
  exact kitAny_nil
theorem kit_list_list : kitB "list" "list" = some true := by decide +kernel
theorem kit_list_tuple : kitB "list" "tuple" = some false := by decide +kernel
theorem kit_list_dict : kitB "list" "dict" = some false := by decide +kernel
theorem kit_list_int : kitB "list" "int" = some false := by decide +kernel
theorem kit_list_bool : kitB "list" "bool" = some false := by decide +kernel
theorem kit_list_str : kitB "list" "str" = some false := by decide +kernel
theorem kit_tuple_list : kitB "tuple" "list" = some false := by decide +kernel
theorem kit_tuple_tuple : kitB "tuple" "tuple" = some true := by decide +kernel
theorem kit_tuple_dict : kitB "tuple" "dict" = some false := by decide +kernel
theorem kit_tuple_int : kitB "tuple" "int" = some false := by decide +kernel
theorem kit_tuple_bool : kitB "tuple" "bool" = some false := by decide +kernel
theorem kit_tuple_str : kitB "tuple" "str" = some false := by decide +kernel
theorem kit_dict_list : kitB "dict" "list" = some false := by decide +kernel
theorem kit_dict_tuple : kitB "dict" "tuple" = some false := by decide +kernel
theorem kit_dict_dict : kitB "dict" "dict" = some true := by decide +kernel
theorem kit_dict_int : kitB "dict" "int" = some false := by decide +kernel
theorem kit_dict_bool : kitB "dict" "bool" = some false := by decide +kernel
theorem kit_dict_str : kitB "dict" "str" = some false := by decide +kernel
theorem kit_int_list : kitB "int" "list" = some false := by decide +kernel
theorem kit_int_tuple : kitB "int" "tuple" = some false := by decide +kernel
theorem kit_int_dict : kitB "int" "dict" = some false := by decide +kernel
theorem kit_int_int : kitB "int" "int" = some true := by decide +kernel
theorem kit_int_bool : kitB "int" "bool" = some false := by decide +kernel
theorem kit_int_str : kitB "int" "str" = some false := by decide +kernel
theorem kit_bool_list : kitB "bool" "list" = some false := by decide +kernel
theorem kit_bool_tuple : kitB "bool" "tuple" = some false := by decide +kernel
theorem kit_bool_dict : kitB "bool" "dict" = some false := by decide +kernel
theorem kit_bool_int : kitB "bool" "int" = some true := by decide +kernel
theorem kit_bool_bool : kitB "bool" "bool" = some true := by decide +kernel
theorem kit_bool_str : kitB "bool" "str" = some false := by decide +kernel
theorem kit_str_list : kitB "str" "list" = some false := by decide +kernel
theorem kit_str_tuple : kitB "str" "tuple" = some false := by decide +kernel
theorem kit_str_dict : kitB "str" "dict" = some false := by decide +kernel
theorem kit_str_int : kitB "str" "int" = some false := by decide +kernel
theorem kit_str_bool : kitB "str" "bool" = some false := by decide +kernel
theorem kit_str_str : kitB "str" "str" = some true := by decide +kernel
section
variable {K : PySem.W.Frag} {H : Hp} {Q : VK}
theorem is_list_list {a : Addr} {xs : List V} (h : H a = some (.lst xs)) (q : Q (.bl true) H) : rIsA K [.ref a, .ty "list"] H Q := g_is (.base (.lst h)) kit_list_list q
theorem is_list_tuple {a : Addr} {xs : List V} (h : H a = some (.lst xs)) (q : Q (.bl false) H) : rIsA K [.ref a, .ty "tuple"] H Q := g_is (.base (.lst h)) kit_list_tuple q
theorem is_list_dict {a : Addr} {xs : List V} (h : H a = some (.lst xs)) (q : Q (.bl false) H) : rIsA K [.ref a, .ty "dict"] H Q := g_is (.base (.lst h)) kit_list_dict q
theorem is_list_int {a : Addr} {xs : List V} (h : H a = some (.lst xs)) (q : Q (.bl false) H) : rIsA K [.ref a, .ty "int"] H Q := g_is (.base (.lst h)) kit_list_int q
theorem is_list_bool {a : Addr} {xs : List V} (h : H a = some (.lst xs)) (q : Q (.bl false) H) : rIsA K [.ref a, .ty "bool"] H Q := g_is (.base (.lst h)) kit_list_bool q
theorem is_list_str {a : Addr} {xs : List V} (h : H a = some (.lst xs)) (q : Q (.bl false) H) : rIsA K [.ref a, .ty "str"] H Q := g_is (.base (.lst h)) kit_list_str q
theorem is2_list {a : Addr} {xs : List V} (h : H a = some (.lst xs)) {tp : Addr} (hp : H tp = some (.tup [.ty "list", .ty "tuple"])) (q : Q (.bl true) H) : rIsA K [.ref a, .ref tp] H Q := g_is2 hp (.base (.lst h)) kit_list_list kit_list_tuple q
theorem is_tuple_list {a : Addr} {xs : List V} (h : H a = some (.tup xs)) (q : Q (.bl false) H) : rIsA K [.ref a, .ty "list"] H Q := g_is (.base (.tup h)) kit_tuple_list q
theorem is_tuple_tuple {a : Addr} {xs : List V} (h : H a = some (.tup xs)) (q : Q (.bl true) H) : rIsA K [.ref a, .ty "tuple"] H Q := g_is (.base (.tup h)) kit_tuple_tuple q
theorem is_tuple_dict {a : Addr} {xs : List V} (h : H a = some (.tup xs)) (q : Q (.bl false) H) : rIsA K [.ref a, .ty "dict"] H Q := g_is (.base (.tup h)) kit_tuple_dict q
theorem is_tuple_int {a : Addr} {xs : List V} (h : H a = some (.tup xs)) (q : Q (.bl false) H) : rIsA K [.ref a, .ty "int"] H Q := g_is (.base (.tup h)) kit_tuple_int q
theorem is_tuple_bool {a : Addr} {xs : List V} (h : H a = some (.tup xs)) (q : Q (.bl false) H) : rIsA K [.ref a, .ty "bool"] H Q := g_is (.base (.tup h)) kit_tuple_bool q
theorem is_tuple_str {a : Addr} {xs : List V} (h : H a = some (.tup xs)) (q : Q (.bl false) H) : rIsA K [.ref a, .ty "str"] H Q := g_is (.base (.tup h)) kit_tuple_str q
theorem is2_tuple {a : Addr} {xs : List V} (h : H a = some (.tup xs)) {tp : Addr} (hp : H tp = some (.tup [.ty "list", .ty "tuple"])) (q : Q (.bl true) H) : rIsA K [.ref a, .ref tp] H Q := g_is2 hp (.base (.tup h)) kit_tuple_list kit_tuple_tuple q
theorem is_dict_list {a : Addr} {kvs : List (Key × V)} (h : H a = some (.dK kvs)) (q : Q (.bl false) H) : rIsA K [.ref a, .ty "list"] H Q := g_is (.base (.dK h)) kit_dict_list q
theorem is_dict_tuple {a : Addr} {kvs : List (Key × V)} (h : H a = some (.dK kvs)) (q : Q (.bl false) H) : rIsA K [.ref a, .ty "tuple"] H Q := g_is (.base (.dK h)) kit_dict_tuple q
theorem is_dict_dict {a : Addr} {kvs : List (Key × V)} (h : H a = some (.dK kvs)) (q : Q (.bl true) H) : rIsA K [.ref a, .ty "dict"] H Q := g_is (.base (.dK h)) kit_dict_dict q
theorem is_dict_int {a : Addr} {kvs : List (Key × V)} (h : H a = some (.dK kvs)) (q : Q (.bl false) H) : rIsA K [.ref a, .ty "int"] H Q := g_is (.base (.dK h)) kit_dict_int q
theorem is_dict_bool {a : Addr} {kvs : List (Key × V)} (h : H a = some (.dK kvs)) (q : Q (.bl false) H) : rIsA K [.ref a, .ty "bool"] H Q := g_is (.base (.dK h)) kit_dict_bool q
theorem is_dict_str {a : Addr} {kvs : List (Key × V)} (h : H a = some (.dK kvs)) (q : Q (.bl false) H) : rIsA K [.ref a, .ty "str"] H Q := g_is (.base (.dK h)) kit_dict_str q
theorem is2_dict {a : Addr} {kvs : List (Key × V)} (h : H a = some (.dK kvs)) {tp : Addr} (hp : H tp = some (.tup [.ty "list", .ty "tuple"])) (q : Q (.bl false) H) : rIsA K [.ref a, .ref tp] H Q := g_is2 hp (.base (.dK h)) kit_dict_list kit_dict_tuple q
theorem is_int_list {i : Int} (q : Q (.bl false) H) : rIsA K [.int i, .ty "list"] H Q := g_is (.base (.int i)) kit_int_list q
theorem is_int_tuple {i : Int} (q : Q (.bl false) H) : rIsA K [.int i, .ty "tuple"] H Q := g_is (.base (.int i)) kit_int_tuple q
theorem is_int_dict {i : Int} (q : Q (.bl false) H) : rIsA K [.int i, .ty "dict"] H Q := g_is (.base (.int i)) kit_int_dict q
theorem is_int_int {i : Int} (q : Q (.bl true) H) : rIsA K [.int i, .ty "int"] H Q := g_is (.base (.int i)) kit_int_int q
theorem is_int_bool {i : Int} (q : Q (.bl false) H) : rIsA K [.int i, .ty "bool"] H Q := g_is (.base (.int i)) kit_int_bool q
theorem is_int_str {i : Int} (q : Q (.bl false) H) : rIsA K [.int i, .ty "str"] H Q := g_is (.base (.int i)) kit_int_str q
theorem is2_int {i : Int} {tp : Addr} (hp : H tp = some (.tup [.ty "list", .ty "tuple"])) (q : Q (.bl false) H) : rIsA K [.int i, .ref tp] H Q := g_is2 hp (.base (.int i)) kit_int_list kit_int_tuple q
theorem is_bool_list {b : Bool} (q : Q (.bl false) H) : rIsA K [.bl b, .ty "list"] H Q := g_is (.base (.bl b)) kit_bool_list q
theorem is_bool_tuple {b : Bool} (q : Q (.bl false) H) : rIsA K [.bl b, .ty "tuple"] H Q := g_is (.base (.bl b)) kit_bool_tuple q
theorem is_bool_dict {b : Bool} (q : Q (.bl false) H) : rIsA K [.bl b, .ty "dict"] H Q := g_is (.base (.bl b)) kit_bool_dict q
theorem is_bool_int {b : Bool} (q : Q (.bl true) H) : rIsA K [.bl b, .ty "int"] H Q := g_is (.base (.bl b)) kit_bool_int q
theorem is_bool_bool {b : Bool} (q : Q (.bl true) H) : rIsA K [.bl b, .ty "bool"] H Q := g_is (.base (.bl b)) kit_bool_bool q
theorem is_bool_str {b : Bool} (q : Q (.bl false) H) : rIsA K [.bl b, .ty "str"] H Q := g_is (.base (.bl b)) kit_bool_str q
theorem is2_bool {b : Bool} {tp : Addr} (hp : H tp = some (.tup [.ty "list", .ty "tuple"])) (q : Q (.bl false) H) : rIsA K [.bl b, .ref tp] H Q := g_is2 hp (.base (.bl b)) kit_bool_list kit_bool_tuple q
theorem is_str_list {z : Str} (q : Q (.bl false) H) : rIsA K [.str z, .ty "list"] H Q := g_is (.base (.str z)) kit_str_list q
theorem is_str_tuple {z : Str} (q : Q (.bl false) H) : rIsA K [.str z, .ty "tuple"] H Q := g_is (.base (.str z)) kit_str_tuple q
theorem is_str_dict {z : Str} (q : Q (.bl false) H) : rIsA K [.str z, .ty "dict"] H Q := g_is (.base (.str z)) kit_str_dict q
theorem is_str_int {z : Str} (q : Q (.bl false) H) : rIsA K [.str z, .ty "int"] H Q := g_is (.base (.str z)) kit_str_int q
theorem is_str_bool {z : Str} (q : Q (.bl false) H) : rIsA K [.str z, .ty "bool"] H Q := g_is (.base (.str z)) kit_str_bool q
theorem is_str_str {z : Str} (q : Q (.bl true) H) : rIsA K [.str z, .ty "str"] H Q := g_is (.base (.str z)) kit_str_str q
theorem is2_str {z : Str} {tp : Addr} (hp : H tp = some (.tup [.ty "list", .ty "tuple"])) (q : Q (.bl false) H) : rIsA K [.str z, .ref tp] H Q := g_is2 hp (.base (.str z)) kit_str_list kit_str_tuple q
end
section
variable {K : PySem.W.Frag} {σ : L2.St} {F : Hp} {O O' : Own} {H : Hp} {Q : VK} {x y v : V}
theorem g_neB {i j : Bool} (q : Q (.bl (!decide (i = j))) H) : rNeA K (.bl i) (.bl j) H Q := .inl ⟨rfl, by rw [dec_bl, Bool.beq_eq_decide_eq]; exact q⟩
theorem g_eqB {i j : Bool} (q : Q (.bl (decide (i = j))) H) : rEqA K (.bl i) (.bl j) H Q := .inl ⟨rfl, by rw [dec_bl, Bool.beq_eq_decide_eq]; exact q⟩
/-! ### insert, max, the last item -/
def rInsert : V → List V → Hp → VK → Prop := fun x vs H Q => ∃ (l : Addr) (xs : List V) (i : Int) (y : V), x = .ref l ∧ vs = [.int i, y] ∧ H l = some (.lst xs) ∧ xs.length < sizeLine ∧ 0 ≤ i ∧ i < 2 ^ 63 ∧ Q .non (upd H l (.lst (xs.take i.toNat ++ [y] ++ xs.drop i.toNat)))
theorem mt_insertA {X : Cx} : MtR X "list.insert" rInsert := mt_insert
theorem g_insert {a : Addr} {xs : List V} {i : Int} (hH : Has F O H) (c : Chg O a (.lst xs) (.lst (xs.take i.toNat ++ [y] ++ xs.drop i.toNat)) O') (hl : xs.length < sizeLine) (h0 : 0 ≤ i) (h1 : i < 2 ^ 63) (q : ∀ H', Has F O' H' → Q .non H') : rInsert (.ref a) [.int i, y] H Q :=
  ⟨a, xs, i, y, rfl, rfl, hH.get c.mem, hl, h0, h1, q _ (hH.put c)⟩
theorem cr_maxK {X : Cx} (K : PySem.W.Frag) (hc : X.calm = true) (e : X.K = K := by rfl) : CallR X (.builtin "max") (rMax K) := by subst e; exact cr_max hc
theorem g_max {a : Addr} {ns : List Int} (h : H a = some (.lst (ns.map V.int))) (hl : 0 < ns.length) (q : ∀ m, m ∈ ns → (∀ y, y ∈ ns → y ≤ m) → Q (.int m) H) : rMax K [.ref a] H Q := ⟨a, ns, rfl, SqL.of h, hl, q⟩
theorem g_ixLast {a : Addr} {xs : List V} {v : V} (h : H a = some (.lst xs)) (hl : xs.getLast? = some v) (q : Q v H) : rIxA K (.ref a) (.int (-1)) H Q := by
  obtain ⟨ys, rfl⟩ := List.getLast?_eq_some_iff.mp hl
  exact g_ixL h (atI_last ys v) q
end
theorem cutV_nat (xs : List V) (a b : Nat) : cutV xs (some (a : Int)) (some (b : Int)) = (xs.drop a).take (b - a) := by
  unfold cutV
  rw [HT.sIx_nat, HT.sIx_nat]
  by_cases h : a ≤ xs.length
  · rw [Nat.min_eq_left h]
    rcases Nat.le_total b xs.length with hb | hb
    · rw [Nat.min_eq_left hb]
    · rw [Nat.min_eq_right hb, List.take_of_length_le (by rw [List.length_drop]; omega), List.take_of_length_le (by rw [List.length_drop]; omega)]
  · rw [Nat.min_eq_right (show xs.length ≤ a by omega), List.drop_of_length_le (Nat.le_refl _), List.drop_of_length_le (show xs.length ≤ a by omega), List.take_nil, List.take_nil]
theorem cutV_from (xs : List V) (a : Nat) : cutV xs (some (a : Int)) none = xs.drop a := by
  unfold cutV
  rw [HT.sIx_nat, HT.sIx_none]
  by_cases h : a ≤ xs.length
  · rw [Nat.min_eq_left h, List.take_of_length_le (by rw [List.length_drop]; omega)]
  · rw [Nat.min_eq_right (show xs.length ≤ a by omega), List.drop_of_length_le (Nat.le_refl _), List.drop_of_length_le (show xs.length ≤ a by omega), List.take_nil]
theorem cutV_to (xs : List V) (b : Nat) : cutV xs none (some (b : Int)) = xs.take b := by
  unfold cutV
  rw [HT.sIx_none, HT.sIx_nat, List.drop_zero, Nat.sub_zero]
  rcases Nat.le_total b xs.length with hb | hb
  · rw [Nat.min_eq_left hb]
  · rw [Nat.min_eq_right hb, List.take_length, List.take_of_length_le hb]
/-! ### a def that adds to what stands still -/
def Grow (F H F' : Hp) : Prop := Same F F' ∧ ∀ b, H b ≠ none → F' b = F b
theorem Has.grown {F F' H H' : Hp} {O O' : Own} {a : Addr} {o o' : HO} (h : Has F O H) (c : Chg O a o o' O') (hb : But a H H') (g : Grow F H F') (s : Same F' H') (e : H' a = some o') : Has F' O' H' := by
  have h' := h.but c hb e
  refine ⟨s, fun q hq => ⟨?_, (h'.own q hq).2⟩, h'.nd⟩
  rcases c.own h.nd q hq with rfl | ⟨m, _⟩
  · rw [g.2 a (by rw [h.get c.mem]; exact fun z => by cases z)]
    exact (h.own _ c.mem).1
  · rw [g.2 q.1 (by rw [(h.own q m).2]; exact fun z => by cases z)]
    exact (h.own q m).1

section
variable {K : PySem.W.Frag} {H : Hp} {Q : VK}
theorem g_ixVT {a : Addr} {xs : List V} {i : Int} (h : H a = some (.tup xs)) (h0 : 0 ≤ i) (hl : i < xs.length) (q : ∀ v, xs[i.toNat]? = some v → Q v H) : rIxA K (.ref a) (.int i) H Q := by
  have e : i.toNat < xs.length := by omega
  exact g_ixT h (at_n h0 (List.getElem?_eq_getElem e)) (q _ (List.getElem?_eq_getElem e))
theorem is2_non {tp : Addr} (hp : H tp = some (.tup [.ty "list", .ty "tuple"])) (q : Q (.bl false) H) : rIsA K [.non, .ref tp] H Q := g_is2 hp (.base .non) (by decide +kernel : kitB "NoneType" "list" = some false) (by decide +kernel : kitB "NoneType" "tuple" = some false) q
end

theorem i_nf {A B : Prop} (h : A) : if (!false) = true then A else B := by
  show (if true = true then A else B)
  rw [if_pos rfl]
  exact h
theorem i_nt {A B : Prop} (h : B) : if (!true) = true then A else B := by
  show (if false = true then A else B)
  rw [if_neg Bool.false_ne_true]
  exact h

/-- ways that meet: what holds where they meet -/
theorem g_join {t : TS} {D : Ends} {σ : L2.St} {H : Hp} (M : L2.St → Hp → Prop) (h : ∀ σ' H', M σ' H' → D.nx σ' H') (q : (∀ σ' H', M σ' H' → D.nx σ' H') → t D σ H) : t D σ H := q h

/-! ### all that is not owned stands still from now on -/
def rmO (O : Own) (H : Hp) : Hp := fun b => if b ∈ O.map (·.1) then none else H b
section
variable {F H : Hp} {O : Own}
theorem Has.re (h : Has F O H) : Has (rmO O H) O H := by
  refine ⟨fun b u e => ?_, fun p hp => ⟨if_pos (List.mem_map.mpr ⟨p, hp, rfl⟩), (h.own p hp).2⟩, h.nd⟩
  unfold rmO at e
  split at e
  · cases e
  · exact e
theorem Has.reF (h : Has F O H) : Same F (rmO O H) := fun b u e => by
  unfold rmO
  rw [if_neg]
  · exact h.same b u e
  · intro m
    obtain ⟨p, hp, rfl⟩ := List.mem_map.mp m
    rw [(h.own p hp).1] at e
    cases e
theorem Has.re_of (h : Has F O H) {b : Addr} {u : HO} (e : H b = some u) (ne : ∀ p ∈ O, p.2 ≠ u) : rmO O H b = some u := by
  unfold rmO
  rw [if_neg]
  · exact e
  · intro m
    obtain ⟨p, hp, rfl⟩ := List.mem_map.mp m
    rw [(h.own p hp).2] at e
    exact ne p hp (Option.some.inj e)
end

section
variable {K : PySem.W.Frag} {σ : L2.St} {F : Hp} {O O' : Own} {H : Hp} {Q : VK} {x y v : V} {ta te : TE}
theorem g_ixDI {a : Addr} {kvs : List (Key × V)} {i : Int} (h : H a = some (.dK kvs)) (hv : valV kvs (.inl i) = some v) (q : Q v H) : rIxA K (.ref a) (.int i) H Q := .inr ⟨a, v, rfl, hv ▸ DGet.k (k := .inl i) h, q⟩
theorem g_ixDS {a : Addr} {kvs : List (Key × V)} {i : Str} (h : H a = some (.dK kvs)) (hv : valV kvs (.inr i) = some v) (q : Q v H) : rIxA K (.ref a) (.str i) H Q := .inr ⟨a, v, rfl, hv ▸ DGet.k (k := .inr i) h, q⟩
/-! ### [*xs, y]; if xs:; dict(pairs) -/
def kStar (K : PySem.W.Frag) (t : TA) (σ : L2.St) (x : V) (H : Hp) (Q : List V → Hp → Prop) : Prop := ∃ p xs, x = V.ref p ∧ (SqT K H p xs ∨ SqL K H p xs) ∧ t σ H fun ys H2 => Q (xs ++ ys) H2
theorem g_star {t : TA} {QA : List V → Hp → Prop} (q : te σ H fun x H1 => kStar K t σ x H1 QA) : StX.tStar K te t σ H QA := q
theorem g_kstarL {t : TA} {QA : List V → Hp → Prop} {a : Addr} {xs : List V} (h : H a = some (.lst xs)) (q : t σ H fun ys H2 => QA (xs ++ ys) H2) : kStar K t σ (.ref a) H QA := ⟨a, xs, rfl, .inr (SqL.of h), q⟩
theorem g_kstarT {t : TA} {QA : List V → Hp → Prop} {a : Addr} {xs : List V} (h : H a = some (.tup xs)) (q : t σ H fun ys H2 => QA (xs ++ ys) H2) : kStar K t σ (.ref a) H QA := ⟨a, xs, rfl, .inl (SqT.of h), q⟩
theorem k_star {X : Cx} {es : List Expr} {t : TA} {ex : Expr} {p : Pos} (K : PySem.W.Frag) (h : PA X (.Starred ex p :: es) (StX.tStar X.K te t)) (e : X.K = K := by rfl) : PA X (.Starred ex p :: es) (StX.tStar K te t) := by subst e; exact h
def kTru (K : PySem.W.Frag) (x : V) (H : Hp) (R : Bool → Hp → Prop) : Prop := ∃ k, TruV K x H k ∧ R k H
def tTru (K : PySem.W.Frag) (te : TE) : TT := fun σ H R => te σ H fun x H1 => kTru K x H1 R
theorem pt_tru {X : Cx} {a : Expr} (K : PySem.W.Frag) (ha : PE X a ta) (he : ∀ whole, isTrue a X.env whole = (do let v ← whole; standAt a.pos; holding [v] (truthy v)) := by intro _; rfl) (e : X.K = K := by rfl) : PT X a (tTru K ta) := by subst e; exact pt_truth ha he
theorem g_tru {R : Bool → Hp → Prop} (q : te σ H fun x H1 => kTru K x H1 R) : tTru K te σ H R := q
theorem g_truL {R : Bool → Hp → Prop} {a : Addr} {xs : List V} (h : H a = some (.lst xs)) (q : R (!xs.isEmpty) H) : kTru K (.ref a) H R := ⟨_, .inl ⟨xs, SqL.of h, rfl⟩, q⟩
def rDictP (K : PySem.W.Frag) : List V → Hp → VK → Prop := fun xs H Q => ∃ (a : Addr) (ps : List Addr) (kvs : List (Key × V)), xs = [.ref a] ∧ SqL K H a (ps.map V.ref) ∧ Paired (fun p kv => SqT K H p [kV kv.1, kv.2]) ps kvs ∧ ∀ p, H p = none → Q (.ref p) (upd H p (.dK (mergeK [] kvs)))
theorem cr_dictP {X : Cx} (K : PySem.W.Frag) (hc : X.calm = true) (e : X.K = K := by rfl) : CallR X (.type "dict") (rDictP K) := by subst e; exact call_dictP hc
theorem g_dictP {a : Addr} {ps : List Addr} {kvs : List (Key × V)} (h : H a = some (.lst (ps.map V.ref))) (hp : Paired (fun p kv => SqT K H p [kV kv.1, kv.2]) ps kvs) (hH : Has F O H) (q : ∀ p H', H p = none → Has F ((p, .dK (mergeK [] kvs)) :: O) H' → Q (.ref p) H') : rDictP K [.ref a] H Q :=
  ⟨a, ps, kvs, rfl, SqL.of h, hp, fun p n => q p _ n (hH.new n)⟩
end
/-! ### data without lists; tuples of ints; pairs to a dict -/
mutual
def noL : PyData → Bool
  | .list _ => false
  | .dict _ => false
  | .tuple ds => noLs ds
  | _ => true
def noLs : List PyData → Bool
  | [] => true
  | d :: ds => noL d && noLs ds
end
theorem noLs_mem : ∀ {ds : List PyData}, (∀ d ∈ ds, noL d = true) → noLs ds = true
  | [], _ => by rw [noLs]
  | d :: ds, h => by
    rw [noLs, h d List.mem_cons_self, noLs_mem fun x hx => h x (List.mem_cons_of_mem _ hx)]
    rfl
mutual
theorem Dq.keep {H H' : Hp} (e : ∀ b xs, H b = some (.tup xs) → H' b = some (.tup xs)) : ∀ (d : PyData) (v : V), noL d = true → Dq H v d → Dq H' v d
  | _, _, _, .non => .non
  | _, _, _, .bl b => .bl b
  | _, _, _, .int i => .int i
  | _, _, _, .str x => .str x
  | .list ds, _, n, .lst s a => by rw [noL] at n; cases n
  | .tuple ds, _, n, .tup s a => .tup (e _ _ s) (DqAll.keep e ds _ (by rw [noL] at n; exact n) a)
theorem DqAll.keep {H H' : Hp} (e : ∀ b xs, H b = some (.tup xs) → H' b = some (.tup xs)) : ∀ (ds : List PyData) (vs : List V), noLs ds = true → DqAll H vs ds → DqAll H' vs ds
  | _, _, _, .nil => .nil
  | d :: ds, _, n, .cons h t => by
    rw [noLs, Bool.and_eq_true] at n
    exact .cons (Dq.keep e d _ n.1 h) (DqAll.keep e ds _ n.2 t)
end
theorem Has.keep {F H : Hp} {O : Own} (h : Has F O H) (ho : ∀ p ∈ O, ∀ xs, p.2 ≠ .tup xs) {ds : List PyData} {vs : List V} (n : ∀ d ∈ ds, noL d = true) (d : DqAll H vs ds) : DqAll (rmO O H) vs ds :=
  d.keep (fun _ _ e => h.re_of e fun p hp => ho p hp _) _ _ (noLs_mem n)
theorem eqv_tints (xs ys : List Int) : PyData.eqv (.tuple (xs.map PyData.int)) (.tuple (ys.map PyData.int)) = decide (xs = ys) := by
  rw [PyData.eqv, eqvAll_ints]
theorem eqv_tstrs (xs ys : List Str) : PyData.eqv (.tuple (xs.map PyData.str)) (.tuple (ys.map PyData.str)) = decide (xs = ys) := by
  rw [PyData.eqv, eqvAll_strs]
theorem ixN_last (n : Nat) : ixN (n + 1) (-1) = some n := by
  unfold ixN
  rw [if_neg (by decide), if_pos (by omega)]
  congr 1
  omega
theorem valV_merge (i : Key) : ∀ (kvs acc : List (Key × V)), valV (mergeK acc kvs) i = (valV kvs.reverse i).or (valV acc i)
  | [], acc => by simp [mergeK, valV]
  | p :: r, acc => by
    show valV (mergeK (putK acc p.1 p.2) r) i = _
    rw [valV_merge i r, valV_put, List.reverse_cons]
    unfold valV
    rw [List.find?_append]
    cases h : r.reverse.find? fun kv => decide (kv.1 = i) with
    | some x => simp
    | none =>
      by_cases e : p.1 = i
      · simp [List.find?_cons, e]
      · rw [if_neg (fun z => e z.symm)]; simp [List.find?_cons, e]
def kLcR2 (g : TG) (tt : TT) (te : TE) (ws : List Nat) (σ : L2.St) (vs : List V) (H : Hp) (Q : VK) : Prop := ∃ i j : Int, vs = [.int i, .int j] ∧ (-(2 ^ 62) ≤ i ∧ i < 2 ^ 62 ∧ -(2 ^ 62) ≤ j ∧ j < 2 ^ 62) ∧ kLc (Itr i (j - i).toNat) g tt te ws σ H Q
section
variable {K : PySem.W.Frag} {σ : L2.St} {F : Hp} {O O' : Own} {H : Hp} {Q : VK} {x y v : V} {ta te : TE} {g : TG}
theorem g_lcR2 {ta : TA} {tt : TT} {vs : List Nat} (q : ta σ H fun xs H1 => kLcR2 g tt te vs σ xs H1 Q) : tLc (iRng2 ta) g tt te vs σ H Q := q
theorem k_lcR2 {lo j : Int} {tt : TT} {vs : List Nat} (h0 : -(2 ^ 62) ≤ lo ∧ lo < 2 ^ 62 ∧ -(2 ^ 62) ≤ j ∧ j < 2 ^ 62) (hH : Has F O H) (S : Nat → List V → Hp → Own → Prop) (h0 : S 0 [] F O)
    (hs : ∀ i acc F O D H, i < (j - lo).toNat → S i acc F O → Has F ((D, .lst acc) :: O) H → g (.int (lo + (i : Nat))) (wipe σ vs) H fun σ2 H2 => wipe σ2 vs = wipe σ vs ∧ tt σ2 H2 fun b H3 => if b = true then te σ2 H3 fun y H4 => kTurn D (kNx S i D) y H4 else kNx S i D H3)
    (hd : ∀ acc F O D H, S (j - lo).toNat acc F O → Has F ((D, .lst acc) :: O) H → Q (.ref D) H) : kLcR2 g tt te vs σ [.int lo, .int j] H Q := by
  refine ⟨lo, j, rfl, by assumption, k_lc hH (j - lo).toNat S h0 (fun i acc F O D H hi s hh => hi) (fun acc F O D H s hh => Nat.le_refl _) (fun i x acc F O D H H' hi y s hh => ?_) hd⟩
  obtain ⟨e, y⟩ := y
  subst e y
  exact hs i acc F O D _ hi s hh
theorem g_truT {R : Bool → Hp → Prop} {a : Addr} {xs : List V} (h : H a = some (.tup xs)) (q : R (!xs.isEmpty) H) : kTru K (.ref a) H R := ⟨_, .inr (.inl ⟨xs, SqT.of h, rfl⟩), q⟩
end
/-! ### list.extend by a list, by a tuple -/
theorem ext_tup (l : Addr) (items : Array Value) (n : Nat) (b : Addr) (items2 : Array Value) (n2 : Nat) (d0 : Option Addr) (sl : Array (Option Value)) (hs0 : ¬(!items.isEmpty && Builtin.List.listTooLong (items.size + items2.size)) = true) (hs1 : items.size ≤ sizeLine) (hs2 : items.size + items2.size ≤ sizeLine + 1) :
    Meets (Builtin.«list.extend» ⟨[.ref l, .ref b], []⟩) (fun _ R s => s.heap.get? l = some { cls := .type "list", dict := none, data := .seq items n, slots := #[] } ∧ s.heap.get? b = some { cls := .type "tuple", dict := d0, data := .seq items2 n2, slots := sl } ∧ R (.ok (.ret Value.none)) { s with heap := s.heap.update l (Obj.mapSeq fun x => x ++ items2), toks := s.toks }) :=
  .of_wp fun prog w A R s h => by
    obtain ⟨hp, g, d, tk, os⟩ := s
    obtain ⟨hl, hb, h⟩ := h
    have f1 := PySem.AutoSeq1.sub_tuple_tuple
    have f2 := PySem.AutoSeq1.sub_list_list
    have f3 := PySem.AutoSeq1.sub_tuple_list
    have f4 := PySem.AutoSeq1.sub_list_tuple
    have hz' : (items ++ items2).size ≤ sizeLine + 1 := by rw [Array.size_append]; exact hs2
    wp_walk using (wpAny_updateSeq hl rfl (hz := hs1) (_hz' := hz')), PySem.AutoSeq1.wpAny_loadPart' hl, PySem.AutoSeq1.wpAny_loadPart' hb
    exact ⟨_, rfl, h⟩
section
variable {X : Cx}
def rExtendT (K : PySem.W.Frag) : V → List V → Hp → VK → Prop := fun x vs H Q => ∃ l b xs zs, x = .ref l ∧ vs = [.ref b] ∧ H l = some (.lst xs) ∧ SqT K H b zs ∧ xs.length + zs.length ≤ sizeLine ∧ Q .non (upd H l (.lst (xs ++ zs)))
theorem mt_extendT : MtM X "list.extend" (rExtendT X.K) := by
  intro pins s σ H x vs v us Q I rx rv h
  obtain ⟨l, b, xs, zs, rfl, rfl, hH, hB, hz, q⟩ := h
  cases rx
  obtain ⟨u, rfl, ru⟩ := rv.one
  cases ru
  obtain ⟨z, its, n, r, hl, e⟩ := I.lstM hH
  obtain ⟨its2, r2, ⟨⟨cl, dc, da, so⟩, e2, hc, n2, hd⟩, z2⟩ := I.tuple hB
  have hc : cl = .type "tuple" := hc
  have hd : da = .seq its2.toArray n2 := hd
  subst hc hd
  have hl2 := r2.length
  have hsz : its.toArray.size + its2.toArray.size ≤ sizeLine := by rw [List.size_toArray, List.size_toArray]; omega
  have hlong : ¬ (!its.toArray.isEmpty && Builtin.List.listTooLong (its.toArray.size + its2.toArray.size)) = true := by
    rw [notLongL hsz, Bool.and_false]
    exact Bool.false_ne_true
  refine call_meets F.slot_list_extend ⟨_, e, rfl⟩ F.entry_list_extend (F.args_list_extend_2 _ _) (ext_tup l its.toArray n b its2.toArray n2 dc so hlong (by rw [List.size_toArray]; omega) (by omega)) ⟨e, e2, ?_⟩
  refine ⟨.non, _, I.lset (its' := its ++ its2) hH e (by simp) (r.append r2) ?_, rfl, q⟩
  rw [List.length_append]
  omega
def rExtendA (K : PySem.W.Frag) : V → List V → Hp → VK → Prop := fun x vs H Q => rExtend x vs H Q ∨ rExtendT K x vs H Q
theorem mt_extendA (K : PySem.W.Frag) (e : X.K = K := by rfl) : MtR X "list.extend" (rExtendA K) := by
  subst e
  intro pins s σ H x vs v us Q I rx rv h
  rcases h with h | h
  · exact mt_extend pins s σ H x vs v us Q I rx rv h
  · exact mt_extendT pins s σ H x vs v us Q I rx rv h
end
section
variable {K : PySem.W.Frag} {F : Hp} {O O' : Own} {H : Hp} {Q : VK}
theorem g_extL {a b : Addr} {xs zs : List V} (hH : Has F O H) (hb : H b = some (.lst zs)) (c : Chg O a (.lst xs) (.lst (xs ++ zs)) O') (hl : xs.length + zs.length ≤ sizeLine) (q : ∀ H', Has F O' H' → Q .non H') : rExtendA K (.ref a) [.ref b] H Q :=
  .inl ⟨a, b, xs, zs, rfl, rfl, hH.get c.mem, hb, hl, q _ (hH.put c)⟩
theorem g_extT {a b : Addr} {xs zs : List V} (hH : Has F O H) (hb : H b = some (.tup zs)) (c : Chg O a (.lst xs) (.lst (xs ++ zs)) O') (hl : xs.length + zs.length ≤ sizeLine) (q : ∀ H', Has F O' H' → Q .non H') : rExtendA K (.ref a) [.ref b] H Q :=
  .inr ⟨a, b, xs, zs, rfl, rfl, hH.get c.mem, SqT.of hb, hl, q _ (hH.put c)⟩
end
theorem Has.made2 {F H H' : Hp} {O : Own} {p l : Addr} {o u : HO} (h : Has F O H) (np : H p = none) (nl : H l = none) (s : Same H H') (ep : H' p = some o) (el : H' l = some u) (ne : p ≠ l) : Has F ((p, o) :: (l, u) :: O) H' := by
  have h1 := h.made nl s el
  refine ⟨h1.same, fun q hq => ?_, ?_⟩
  · rcases List.mem_cons.mp hq with rfl | hq
    · exact ⟨h.same.free np, ep⟩
    · exact h1.own q hq
  · rw [List.map_cons]
    refine List.nodup_cons.mpr ⟨fun m => ?_, h1.nd⟩
    obtain ⟨q, hq, e⟩ := List.mem_map.mp m
    rcases List.mem_cons.mp hq with rfl | hq
    · exact ne e.symm
    · have := (h.own q hq).2
      rw [e, np] at this
      cases this
end Qk

namespace Qk
open PySem PySem.Spec PyProof.Rows L2

/-! ### defs that raise -/
section
variable {P : Program} {w : World} {K : PySem.W.Frag} {mg : Str → Option Value} {base : Heap}
theorem Fun.okN {x qual : Str} {st : Stmt} {f : Addr} {fd : FuncData} {N ps : List Str} {k : Nat} {sp : Sp} (F : Fun K x qual st f fd) (S : FnScope N ps (defScope st)) (len : ∀ vs H Q E, sp vs H Q E → vs.length = ps.length)
    (hbody : ∀ (cdv : Value) (A : Around) (outer : List Env) (s : Shared) (H : Hp) (vs : List V) (Q : VK) (E : XK), Room k (A.deeper (envOfC qual (defScope st) s.heap.objs.size f cdv)) → sp vs H Q E →
      ∃ t, PSs (cxOf (L2N.CX P w) P w K mg base N qual (defScope st) f cdv A outer s H E) (defBody st) t ∧ t { nx := fun _ H' => Q .non H', rt := Q } (start N vs) H) : FnOk P w K mg base (L2N.CX P w) (k + 1) f fd ps sp := by
  obtain ⟨oc, od, kV, doc, pm, an, cdv, ct, osl, rfl, lk, hcd⟩ := F.ex
  exact fn_of lk hcd S len fun A outer s H vs Q E hr hsp => hbody cdv A outer s H vs Q E hr hsp
/-- a def that is called in a suite -/
theorem Fun.okH {x qual : Str} {st : Stmt} {f : Addr} {fd : FuncData} {N ps : List Str} {k : Nat} {sp : Sp} (F : Fun K x qual st f fd) (S : FnScope N ps (defScope st)) (len : ∀ vs H Q E, sp vs H Q E → vs.length = ps.length)
    (hbody : ∀ (cdv : Value) (A : Around) (outer : List Env) (s : Shared) (H : Hp) (vs : List V) (Q : VK) (E : XK) (p : Addr × Obj), L2H.Hot1 A p → L2H.RoomH k (A.deeper (envOfC qual (defScope st) s.heap.objs.size f cdv)) → sp vs H Q E →
      ∃ t, PSs (L2H.cxH CX0 P w K mg base N qual (defScope st) f cdv A outer s H E p) (defBody st) t ∧ t { nx := fun _ H' => Q .non H', rt := Q } (start N vs) H) : L2H.FnH P w K mg base CX0 (k + 1) f fd ps sp := by
  obtain ⟨oc, od, kV, doc, pm, an, cdv, ct, osl, rfl, lk, hcd⟩ := F.ex
  exact L2H.fn_ofH lk hcd S len fun A outer s H vs Q E p hot hr hsp => hbody cdv A outer s H vs Q E p hot hr hsp
end
theorem passN {X : Cx} : Passes (L2N.CX X.prog X.w) X E0 := fun _ _ _ _ _ _ _ h => by
  obtain ⟨_, _, _, _, _, _, _, _, _, _, _, _, z⟩ := h
  exact z.elim
theorem takesN {X : Cx} : L2N.Takes X (fun _ _ _ _ => False) := fun _ _ x => by
  obtain ⟨_, _, _, _, _, _, _, _, _, _, _, _, _, _, _, _, z⟩ := x
  exact z.elim

theorem _root_.L2H.RoomH.units {k : Nat} {A : Around} (r : L2H.RoomH k A) : A.units + 64 < cLine := by
  have := r.un
  omega
theorem roomS {k j : Nat} {A : Around} {h : Option Value} (r : Room k A) (e : j ≤ k) : L2H.RoomH j (A.mark h) := by
  have h1 := r.dp
  have h2 := r.un
  exact ⟨by show A.depth + 3 * j + 5 < _; omega, by show A.units + 16 * j + 200 < _; omega⟩
theorem huH {k : Nat} {A : Around} (r : L2H.RoomH k A) : A.units + 1 < cLine := by
  have := r.un
  omega
theorem u65H {k : Nat} {A : Around} (r : L2H.RoomH k A) : A.units + 65 < cLine := by
  have := r.un
  omega
/-- ways that meet in one heap fact: refine' g_merge (F := F) (O := O) (R := _) ?a ?b -/
theorem g_merge {F : Hp} {O : Own} {G : Prop} {R : Hp → Prop} (h1 : (∀ H', Has F O H' → R H') → G) (h2 : ∀ H', Has F O H' → R H') : G := h1 h2
theorem g_merge2 {α : Type} {G : Prop} {R : α → Hp → Prop} (P : α → Hp → Prop) (h1 : (∀ x H', P x H' → R x H') → G) (h2 : ∀ x H', P x H' → R x H') : G := h1 h2
theorem g_mergeP {F : Hp} {O : Own} {P G : Prop} {R : Hp → Prop} (h1 : (∀ H', Has F O H' → P → R H') → G) (h2 : ∀ H', Has F O H' → P → R H') : G := h1 h2
/-- a constant of the program's text -/
theorem pe_gc {X : Cx} {x : Str} {pos : Pos} {v : V} (hg : Gl X x) (h : ∃ u, X.mg x = some u ∧ RelV v u) (hd : (x == ("__debug__" : Str)) = false := by decide) : PE X (.Name x pos) (tC v) := by
  obtain ⟨u, hm, r⟩ := h
  exact pe_glob hg hm r hd
/-! ### raise C(e, ..) -/
section
variable {X : Cx} {pins : List (Addr × Obj)} {σ : L2.St} {H : Hp} {hp : Heap} {g : Array GenState} {dr : Drawn} {tk : Nat} {os : OsState} {C : Addr}
/-- the tuple of the arguments and the bare exception laid behind the heap -/
abbrev barePut (hp : Heap) (C : Addr) (us : List Value) : Heap := (hp.push (PySem.W.kdv_tup us)).push (PySem.HandSPX.excO C hp.objs.size)
theorem barePut_keeps {us : List Value} (b : Addr) (o : Obj) (e : hp.get? b = some o) : (barePut hp C us).get? b = some o := Heap.get?_push_of_some _ (Heap.get?_push_of_some _ e)
theorem barePut_inv (I : Inv X pins σ H ⟨hp, g, dr, tk, os⟩) (us : List Value) : Inv X pins σ (upd H (hp.objs.size + 1) (exo (hp.objs.size + 1) C none)) ⟨barePut hp C us, g, dr, tk, os⟩ := by
  refine I.laid (t' := tk) barePut_keeps (Nat.le_succ _) (exo_ok (t1 := hp.objs.size) ?_)
  unfold barePut
  heap_get
/-- what an __init__ leaves, as an exception in hand -/
theorem in_hand {H2 : Hp} {Q : XK} {us : List Value} {s' : Shared} {d : Addr} {fs : List (Str × V)} (T : OexC X.K C) (I : Inv X pins σ H ⟨hp, g, dr, tk, os⟩) (un : Un (frs X.stack) [] (upd H (hp.objs.size + 1) (exo (hp.objs.size + 1) C none)) H2 (barePut hp C us) s'.heap)
    (ok : HOk X.prog X.w H2 s'.heap) (eo : s'.os = os) (bare : AllBare s'.gens) (ea : H2 (hp.objs.size + 1) = some (exo (hp.objs.size + 1) C (some d))) (ed : H2 d = some (exd d fs)) (nd : H d = none)
    (q : Q (.ref C) (some d) (upd (del H2 (hp.objs.size + 1)) d (.xd fs))) : L2N.MkP X pins σ Q (.ref (hp.objs.size + 1)) s' := by
  obtain ⟨h2, g2, d2, t2, o2⟩ := s'
  obtain ⟨tt, G, J, kG, gone, there, free⟩ := mk_end0 (t2 := t2) (d2 := d2) I (Nat.le_succ _) barePut_keeps un ok eo bare ea ed nd
  have zn : L2N.Zn (.ref C) (some d) ({ cls := .ref C, dict := some d, data := .fields #[.ref tt, .none, .none, .none, .bool false, .none] } : Obj) := ⟨rfl, rfl, fun vs hv => by cases hv; rfl⟩
  exact ⟨_, _, _, ⟨G, g2, d2, t2, o2⟩, _, _, some d, rfl, J, kG, gone, there, zn, rfl, rfl, free, rfl, bare, raises_own T.exC T.tyC, q⟩
end
theorem pmk_oexN {X : Cx} {e : Expr} {es : List Expr} {ta : TA} {p pos : Pos} {CX : CXT} {x : Str} {C fI : Addr} {k : Nat} {fd : FuncData} {ps : List Str} {sp : Sp} (T : OexC X.K C) (iC : PySem.W.findIn X.K (.ref C) "__init__" = some (some (.ref fI))) (tI : PySem.W.typeIn X.K (.ref fI) = some (.type "function"))
    (Fi : FnOk X.prog X.w X.K X.mg X.base CX k fI fd ps sp) (room : Room (k + 1) X.A) (binds : Binds X.K fd ps []) (pass : Passes CX X (fun _ _ _ => False)) (gl : Gl X x) (gm : X.mg x = some (.ref C)) (args : PA X (e :: es) ta)
    (dbg : (x == ("__debug__" : Str)) = false := by decide) (star : starEach (e :: es) X.env = (false, eval e X.env) :: starEach es X.env := by rfl) (plain : (backTo pos (starEach es X.env)).any (·.1) = false := by rfl) :
    L2N.PMk X (.Call (.Name x p) (e :: es) [] pos) (tMkO C sp [] ta) := fun pins s σ H Q I h => by
  obtain ⟨_, _, _, _, bm, _, _, _, _, _, _, _, _, _, _, cl, rf⟩ := T.cls
  refine wpAny_Call_Name_kw (ld_glob I gl gm (PySem.W.callWith_K (h₀ := X.base) I.ok.mod.kin T.kC (thn (args.run pos pins s σ H _ I h) fun us s1 hs => ?_) star plain) dbg)
  obtain ⟨vs, H1, J, rel, few, spq⟩ := hs
  refine ⟨J.kIn, ?_⟩
  obtain ⟨hp, g, dr, tk, os⟩ := s1
  have J2 := barePut_inv (C := C) J us
  have start := spq (hp.objs.size + 1) (J.hok.fresh (Nat.le_succ _))
  rw [List.append_nil] at start
  have vals : Vals (V.ref (hp.objs.size + 1) :: vs) (Value.ref (hp.objs.size + 1) :: us) := .cons rfl rel
  have many : (Value.ref (hp.objs.size + 1) :: us).length = ps.length := vals.length.symm.trans (Fi.len _ _ _ _ start)
  have bd := binds _ (Value.ref (hp.objs.size + 1) :: us) J2.kIn (by rw [List.append_nil]; exact many)
  rw [List.append_nil] at bd
  have room2 : us.length ≤ sizeLine := sz (by have := Paired.length rel; omega)
  have run := Fi.run _ X.stack _ _ ⟨Value.ref (hp.objs.size + 1) :: us, []⟩ (Value.ref (hp.objs.size + 1) :: us) _ _ (fun _ _ _ => False) (room.make C us []) (J2.env0.make C us []) bd vals start
  show wpAny (model X.prog X.w) X.A (call (.ref C) us) _ _ _
  refine wpAny_call (PySem.HandSPX.call_own F.excBase_ValueError (fun Y => PySem.HandSPX.refsVE_contains Y bm rf) (J.kIn _ _ cl) (PySem.W.looks_findIn J.kIn iC) (fun self => PySem.W.bind_fn J.kIn self tI) room2 (codeAny_mono run fun r s' end_ => ?_))
  match r, end_ with
  | .error er, end_ => exact pass pins σ _ _ er s' J2 end_
  | .ok (.ret u), ⟨v, H2, eo, bare, un, ok, ru, ev, d, fs, ea, ed, nd, q⟩ =>
    subst ev
    exact ⟨ru, in_hand T J un ok eo bare ea ed nd q⟩
  | .ok .next, end_ => exact end_.elim
  | .ok .brk, end_ => exact end_.elim
  | .ok .cont, end_ => exact end_.elim

/-! ### readings in order -/
/-- raise C(vs) -/
def kMk (C : Addr) (sp : Sp) (vs : List V) (H : Hp) (Q : XK) : Prop := vs.length ≤ 1000 ∧ ∀ a, H a = none → sp (.ref a :: (vs ++ [])) (upd H a (exo a C none))
  (fun v H2 => v = .non ∧ ∃ (d : Addr) (fs : List (Str × V)), H2 a = some (exo a C (some d)) ∧ H2 d = some (exd d fs) ∧ H d = none ∧ Q (.ref C) (some d) (upd (del H2 a) d (.xd fs))) (fun _ _ _ => False)
def tRaise (W : WX) (C : Addr) (sp : Sp) (ta : TA) : TS := fun _ σ H => tMkO C sp [] ta σ H fun cls d H' => W cls d σ H'
theorem k_raise {X : Cx} {W : WX} {e : Expr} {C : Addr} {sp : Sp} {ta : TA} {pos : Pos} (hc : X.calm = true) (tk : L2N.Takes X W) (he : L2N.PMk X e (tMkO C sp [] ta)) : PS X (.Raise (some e) none pos) (tRaise W C sp ta) := L2N.ps_raise hc tk he
theorem g_raise {W : WX} {C : Addr} {sp : Sp} {ta : TA} {D : Ends} {σ : L2.St} {H : Hp} (q : ta σ H fun vs H1 => kMk C sp vs H1 fun cls d H' => W cls d σ H') : tRaise W C sp ta D σ H := q
/-- try: body, except c as i: suite -/
def tTry (K : PySem.W.Frag) (c : Value) (i : Nat) (tb : WX → TS) (ts : Addr → Value → Option Addr → TS) (Wout : WX) : TS := fun D σ H => tb (wAs K c i ts Wout D) D σ H
theorem k_try {X : Cx} {x n : Str} {c : Value} {i : Nat} {body suite : List Stmt} {b₀ : Stmt} {np pos pos' : Pos} {tb : WX → TS} {ts : Addr → Value → Option Addr → TS} {Wout : WX} (K : PySem.W.Frag)
    (hs : X.stack = X.env :: X.outer) (hf : X.env.frame = some X.env.locals) (hN : X.N.Nodup) (hi : X.N[i]? = some n) (hln : X.env.kindOf n = some .local) (hc : Names X x c) (tk : L2N.Takes X Wout)
    (hb : ∀ (W : WX) (pn : List (Addr × Obj)) (xe : Value → Shared → Prop), L2N.Takes (X.tr pn xe) W → PassesOwn (model X.prog X.w) X.A X.env xe → PSs (X.tr pn xe) body (tb W))
    (hsu : ∀ (a : Addr) (oe : Obj) (cls : Value) (d : Option Addr) (pn : List (Addr × Obj)), L2N.Zn cls d oe → (∃ vs, oe.data = .fields vs) → PSs (X.suite a ((a, oe) :: pn)) (b₀ :: suite) (ts a cls d)) (e : X.K = K := by rfl) :
    PS X (.Try body [.ExceptHandler (some (.Name x np)) (some n) (b₀ :: suite) pos'] [] [] pos) (tTry K c i tb ts Wout) := by subst e; exact L2N.ps_try_as hs hf hN hi hln hc tk hb hsu
/-- the way into the suite -/
theorem g_caught {K : PySem.W.Frag} {c cls : Value} {i : Nat} {ts : Addr → Value → Option Addr → TS} {Wout : WX} {D : Ends} {d : Option Addr} {σ : L2.St} {H : Hp} (m : PySem.W.exmOne K cls c = some true)
    (q : ∀ a, H a = none → ts a cls d { nx := fun σ' H' => D.nx (σ'.set i none) H', rt := D.rt, bk := fun σ' H' => D.bk (σ'.set i none) H', ct := fun σ' H' => D.ct (σ'.set i none) H' } (σ.set i (some (.ref a))) H) : wAs K c i ts Wout D cls d σ H :=
  ⟨true, m, fun _ => q, fun z => by cases z⟩
theorem g_try {K : PySem.W.Frag} {c : Value} {i : Nat} {tb : WX → TS} {ts : Addr → Value → Option Addr → TS} {Wout : WX} {D : Ends} {σ : L2.St} {H : Hp} (q : tb (wAs K c i ts Wout D) D σ H) : tTry K c i tb ts Wout D σ H := q
theorem g_callS {sp : Sp} {E : L2.St → XK} {t : TA} {σ : L2.St} {H : Hp} {Q : VK} (q : t σ H fun vs H1 => sp vs H1 Q (E σ)) : tCallS sp E t σ H Q := q

theorem g_ost {K : PySem.W.Frag} {f : Str} {to te : TE} {D : Ends} {σ : L2.St} {H : Hp} (q : tOst K f to te D σ H) : tOst K f to te D σ H := q
theorem upd_over {H : Hp} {dx a : Addr} {e1 e2 x : HO} (ne : dx ≠ a) : upd (upd (upd H dx e1) a x) dx e2 = upd (upd H dx e2) a x := by
  funext b
  by_cases h1 : b = dx
  · subst h1
    rw [upd_same, upd_ne ne, upd_same]
  · rw [upd_ne h1]
    by_cases h2 : b = a
    · subst h2
      rw [upd_same, upd_same]
    · rw [upd_ne h2, upd_ne h2, upd_ne h1, upd_ne h1]
/-- __init__ that keeps each argument in a field of its name -/
def sp_oinit (C : Addr) (names : List Str) : Sp := fun vs H Q _ => ∃ (a : Addr) (ws : List V), vs = .ref a :: ws ∧ ws.length = names.length ∧ H a = some (exo a C none) ∧
  ∀ dx, H dx = none → dx ≠ a → Q .non (upd (upd H dx (exd dx (names.zip ws).reverse)) a (exo a C (some dx)))
theorem sp_oinit_len {C : Addr} {names : List Str} {vs H Q E} (h : sp_oinit C names vs H Q E) : vs.length = names.length + 1 := by
  obtain ⟨a, ws, rfl, hl, _⟩ := h
  rw [List.length_cons, hl]
theorem g_mk {C : Addr} {names : List Str} {vs : List V} {F H : Hp} {O : Own} {Q : XK} (hl : vs.length = names.length) (hs : names.length ≤ 1000) (hH : Has F O H) (q : ∀ d H', H d = none → Has F ((d, .xd (names.zip vs).reverse) :: O) H' → Q (.ref C) (some d) H') : kMk C (sp_oinit C names) vs H Q := by
  refine ⟨by omega, fun a n => ⟨a, vs ++ [], rfl, by rw [List.append_nil]; exact hl, upd_same, fun dx n1 ne => ⟨rfl, dx, (names.zip vs).reverse, upd_same, ?_, ?_, ?_⟩⟩⟩
  · rw [upd_ne ne, upd_same, List.append_nil]
  · rw [upd_ne ne] at n1
    exact n1
  · rw [upd_ne ne] at n1
    have e : upd (del (upd (upd (upd H a (exo a C none)) dx (exd dx (names.zip (vs ++ [])).reverse)) a (exo a C (some dx))) a) dx (.xd (names.zip vs).reverse) = upd H dx (.xd (names.zip vs).reverse) := by
      funext b
      by_cases h1 : b = dx
      · subst h1
        rw [upd_same, upd_same]
      · rw [upd_ne h1, upd_ne h1]
        by_cases h2 : b = a
        · subst h2
          rw [del_same, n]
        · rw [del_ne h2, upd_ne h2, upd_ne h1, upd_ne h2]
    rw [e]
    exact q dx _ n1 (hH.new n1)
/-! ### in a suite: isinstance, a field, a call -/
structure IsC (K : PySem.W.Frag) (D : Addr) : Prop where
  cl : (PySem.W.clsIn K D).isSome = true
  hg : PySem.W.findIn K (.ref D) "__getattribute__" = some (some (.builtin "BaseException.__getattribute__"))
  hk : PySem.W.findIn K (.ref D) "__getattr__" = some none
  hs : PySem.W.subIn K (.ref D) (.type "BaseException") = some true
  hd : PySem.W.hasDictIn K D = true
  ha : PySem.W.findIn K (.ref D) "__class__" = some (some (.builtin "object.__class__"))
  hn : PySem.W.specialIn K (.builtin "object.__class__") "__get__" = some (some (.builtin "getset_descriptor.__get__"))
  ht : PySem.W.takesIn K (.builtin "object.__class__") = some true
  hm : PySem.W.mroIn K D (.type "object") = some true
/-- isinstance(e, c) for the caught e: a is where it stands -/
def rIsX (K : PySem.W.Frag) (a : Addr) (cls : Value) (d : Option Addr) : List V → Hp → VK → Prop := fun xs H Q => ∃ (D : Addr) (c : V) (cv : Value) (b : Bool), cls = .ref D ∧ IsC K D ∧ (d = none ∨ ∃ dd fs, d = some dd ∧ H dd = some (.xd fs)) ∧ xs = [.ref a, c] ∧ (∀ u, RelV c u → u = cv) ∧ PySem.W.kitOne K (.ref D) cv = some b ∧ Q (.bl b) H
def rIsY (K : PySem.W.Frag) (a : Addr) (cls : Value) (d : Option Addr) : List V → Hp → VK → Prop := fun xs H Q => rIsX K a cls d xs H Q ∨ rIsA K xs H Q
theorem cr_isX {X : Cx} {a : Addr} {oe : Obj} {cls : Value} {d : Option Addr} {pn : List (Addr × Obj)} (K : PySem.W.Frag) (hz : L2.Zc cls d oe) (hf : ∃ vs, oe.data = .fields vs) (e : X.K = K := by rfl) : CallR (X.suite a ((a, oe) :: pn)) (.builtin "isinstance") (rIsY K a cls d) := by
  subst e
  intro pins s σ H xs us Q I r h
  rcases h with h | h
  · obtain ⟨D, c, cv, b, ecl, C, hd, rfl, hcv, e, q⟩ := h
    cases r with
    | cons rx rr =>
      cases rr with
      | cons rt rr =>
        cases rr
        cases rx
        have ec := hcv _ rt
        subst ec
        obtain ⟨hget, _⟩ := I.pin (a, oe) (List.mem_append.mpr (.inl List.mem_cons_self))
        obtain ⟨vs, hv⟩ := hf
        have hcl : oe.cls = .ref D := hz.1.trans ecl
        have hdx := hz.2
        have key : ∀ od, PySem.W.InstAt s.heap a oe D od → wpAny (model X.prog X.w) (X.suite a ((a, oe) :: pn)).A (call (.builtin "isinstance") [.ref a, _]) (EP (X.suite a ((a, oe) :: pn)) pins σ Q) (X.suite a ((a, oe) :: pn)).xe s := fun od J =>
          PySem.W.kia_one (PySem.W.kitx_exc C.cl C.hg C.hk C.hs C.ha C.hn C.ht C.hm) I.kIn J e (fun z => nomatch z) fun tk => ⟨.bl b, H, I.kept (t' := tk) fun _ _ z => z, rfl, q⟩
        rcases hd with hd | ⟨dd, fs, hd, ea⟩
        · refine key none ?_
          rw [hd] at hdx
          exact ⟨hget, hcl, by unfold PySem.W.notCls; rw [hv] <;> rfl, by rw [hdx]; trivial⟩
        · have hx : ObjOk X.prog X.w H s.heap dd (.xd fs) := I.hok dd _ ea
          obtain ⟨mA, hns, hr⟩ := hx
          obtain ⟨od, ho, hl⟩ := lookIn_ns hns
          refine key (some od) ?_
          rw [hd] at hdx
          exact ⟨hget, hcl, by unfold PySem.W.notCls; rw [hv] <;> rfl, by rw [hdx]; exact ho⟩
  · exact cr_isK X.K (X := X.suite a ((a, oe) :: pn)) rfl pins s σ H xs us Q I r h
/-- e.f for the caught e -/
def tXfA (K : PySem.W.Frag) (a : Addr) (cls : Value) (d : Option Addr) (f : Str) (te : TE) : TE := fun σ H Q => te σ H fun x H1 => x = .ref a ∧ ∃ (C dd : Addr) (fs : List (Str × V)) (v : V), cls = .ref C ∧ XfC K C ∧ PySem.W.findIn K (.ref C) f = some none ∧ d = some dd ∧ H1 dd = some (.xd fs) ∧ fs.lookup f = some v ∧ Q v H1
theorem pe_xfA {X : Cx} {a : Addr} {oe : Obj} {cls : Value} {d : Option Addr} {pn : List (Addr × Obj)} {e : Expr} {te : TE} {pos : Pos} {n : Str} (K : PySem.W.Frag) (hz : L2.Zc cls d oe) (hf : ∃ vs, oe.data = .fields vs) (he : PE (X.suite a ((a, oe) :: pn)) e te) (ek : X.K = K := by rfl) (hb : attributeBase e n X.env (eval e X.env) = eval e X.env := by rfl) :
    PE (X.suite a ((a, oe) :: pn)) (.Attribute e n pos) (tXfA K a cls d n te) := by
  subst ek
  refine ⟨fun pins s σ H Q I h => ?_⟩
  refine attr_of hb (thn (he.run pins s σ H _ I h) fun u s1 hh => ?_)
  obtain ⟨x, H1, I1, rx, ex, C, dd, fs, v, ec, T, hno, ed, ea, l, q⟩ := hh
  subst ex
  obtain rfl : u = Value.ref a := rx
  subst ec
  subst ed
  obtain ⟨ha, _⟩ := I1.pin (a, oe) (List.mem_append_left _ List.mem_cons_self)
  obtain ⟨vs, hd⟩ := hf
  have hx : ObjOk X.prog X.w H1 s1.heap dd (.xd fs) := I1.hok dd _ ea
  obtain ⟨mA, hns, hr⟩ := hx
  obtain ⟨od, ho, hl⟩ := lookIn_ns hns
  obtain ⟨u, hu, ru⟩ := RelO.some_of (v := v) (o := mA n) (by rw [← l]; exact hr n)
  have J : PySem.W.InstAt s1.heap a oe C (some od) := ⟨ha, hz.1, by unfold PySem.W.notCls; rw [hd] <;> rfl, by rw [hz.2]; exact ho⟩
  exact HandSPX.exc_get I1.kIn J T.ga T.gg T.exC (PySem.W.findObj_own T.hdC hno rfl (by rw [hl, hu])) (handed_of ru) ⟨v, H1, I1.tok _, ru, q⟩
def kXf (K : PySem.W.Frag) (a : Addr) (cls : Value) (d : Option Addr) (f : Str) (x : V) (H1 : Hp) (Q : VK) : Prop := x = .ref a ∧ ∃ (C dd : Addr) (fs : List (Str × V)) (v : V), cls = .ref C ∧ XfC K C ∧ PySem.W.findIn K (.ref C) f = some none ∧ d = some dd ∧ H1 dd = some (.xd fs) ∧ fs.lookup f = some v ∧ Q v H1
theorem g_xf {K : PySem.W.Frag} {a : Addr} {cls : Value} {d : Option Addr} {f : Str} {te : TE} {σ : L2.St} {H : Hp} {Q : VK} (q : te σ H fun x H1 => kXf K a cls d f x H1 Q) : tXfA K a cls d f te σ H Q := q
theorem g_kxf {K : PySem.W.Frag} {a C dd : Addr} {f : Str} {fs : List (Str × V)} {v : V} {H : Hp} {Q : VK} (X : XfC K C) (n : PySem.W.findIn K (.ref C) f = some none) (hd : H dd = some (.xd fs)) (l : fs.lookup f = some v) (q : Q v H) : kXf K a (.ref C) (some dd) f (.ref a) H Q :=
  ⟨rfl, C, dd, fs, v, rfl, X, n, rfl, hd, l, q⟩
theorem g_isX {K : PySem.W.Frag} {a D C dd : Addr} {fs : List (Str × V)} {b : Bool} {H : Hp} {Q : VK} (I : IsC K D) (hd : H dd = some (.xd fs)) (k : PySem.W.kitOne K (.ref D) (.ref C) = some b) (q : Q (.bl b) H) : rIsY K a (.ref D) (some dd) [.ref a, .ref C] H Q :=
  .inl ⟨D, .ref C, .ref C, b, rfl, I, .inr ⟨dd, fs, rfl, hd⟩, rfl, fun u r => r, k, q⟩
theorem g_isXT {K : PySem.W.Frag} {a D dd : Addr} {n : String} {fs : List (Str × V)} {b : Bool} {H : Hp} {Q : VK} (I : IsC K D) (hd : H dd = some (.xd fs)) (k : PySem.W.kitOne K (.ref D) (.type n) = some b) (q : Q (.bl b) H) : rIsY K a (.ref D) (some dd) [.ref a, .ty n] H Q :=
  .inl ⟨D, .ty n, .type n, b, rfl, I, .inr ⟨dd, fs, rfl, hd⟩, rfl, fun u r => r, k, q⟩
theorem exm_own {K : PySem.W.Frag} {C : Addr} {cls : Value} {b : Bool} (h1 : PySem.W.subIn K (.ref C) (.type "BaseException") = some true) (hc : PySem.W.isClsIn K C = true) (ht : PySem.W.typeIn K (.ref C) = some (.type "type")) (h4 : PySem.W.subIn K cls (.ref C) = some b) : PySem.W.exmOne K cls (.ref C) = some b := by
  have hc' : (PySem.W.clsIn K C).isSome = true := hc
  have e1 : (PySem.W.subIn K (.ref C) (.type "BaseException") == some true) = true := by rw [h1] <;> rfl
  have e2 : ((PySem.W.clsIn K C).isSome && PySem.W.typeIn K (.ref C) == some (.type "type")) = true := by rw [hc', ht] <;> rfl
  show (if (PySem.W.subIn K (.ref C) (.type "BaseException") == some true) = true then (if ((PySem.W.clsIn K C).isSome && PySem.W.typeIn K (.ref C) == some (.type "type")) = true then PySem.W.subIn K cls (.ref C) else none) else none) = some b
  rw [if_pos e1, if_pos e2]
  exact h4
theorem kit_own {K : PySem.W.Frag} {D C : Addr} {b : Bool} (hs : PySem.W.subIn K (.ref D) (.ref D) = some true) (h4 : PySem.W.subIn K (.ref D) (.ref C) = some b) (hc : PySem.W.isClsIn K C = true) (ht : PySem.W.typeIn K (.ref C) = some (.type "type")) : PySem.W.kitOne K (.ref D) (.ref C) = some b := by
  have hc' : (PySem.W.clsIn K C).isSome = true := hc
  unfold PySem.W.kitOne
  by_cases e : (Value.ref D == Value.ref C) = true
  · rw [if_pos e]
    have e2 : D = C := Value.ref.inj (beq_iff_eq.mp e)
    subst e2
    rw [hs] at h4
    exact h4
  · rw [if_neg e]
    have e2 : ((PySem.W.clsIn K C).isSome && PySem.W.typeIn K (.ref C) == some (.type "type")) = true := by rw [hc', ht] <;> rfl
    show (if ((PySem.W.clsIn K C).isSome && PySem.W.typeIn K (.ref C) == some (.type "type")) = true then PySem.W.subIn K (.ref D) (.ref C) else none) = some b
    rw [if_pos e2]
    exact h4
theorem kit_ve {K : PySem.W.Frag} {D : Addr} (h : PySem.W.subIn K (.ref D) (.type "ValueError") = some true) : PySem.W.kitOne K (.ref D) (.type "ValueError") = some true := by
  have e : ¬ (Value.ref D == Value.type "ValueError") = true := by
    intro z
    cases (beq_iff_eq.mp z)
  unfold PySem.W.kitOne
  rw [if_neg e]
  show (if PySem.W.kitMeta "ValueError" = true then PySem.W.subIn K (.ref D) (.type "ValueError") else none) = some true
  rw [if_pos (by decide +kernel)]
  exact h
theorem hot_suite {X : Cx} {a : Addr} {oe : Obj} {cls : Value} {d : Option Addr} {pn : List (Addr × Obj)} (hz : L2N.Zn cls d oe) (hf : ∃ vs, oe.data = .fields vs) : L2H.HotC (X.suite a ((a, oe) :: pn)) := by
  obtain ⟨vs, hv⟩ := hf
  exact ⟨(a, oe), ⟨rfl, vs, hv, hz.2.2 vs hv⟩, List.mem_cons_self⟩

/-! ### objects -/
section
variable {X : Cx} {K : PySem.W.Frag} {σ : L2.St} {F : Hp} {O O' : Own} {H : Hp} {Q : VK} {ta te tv : TE} {x y v : V} {D : Ends}
theorem k_fld {ex : Expr} {f : Str} (K : PySem.W.Frag) (h : PE X ex (tFld X.K te f)) (e : X.K = K := by rfl) : PE X ex (tFld K te f) := by subst e; exact h
def kFld (K : PySem.W.Frag) (f : Str) (x : V) (H1 : Hp) (Q : VK) : Prop := ∃ a C dx fs v, x = .ref a ∧ H1 a = some (.ins C dx fs) ∧ Cls K C ∧ NoAttr K C f ∧ fs.lookup f = some v ∧ Q v H1
theorem g_fld {f : Str} (q : te σ H fun x H1 => kFld K f x H1 Q) : tFld K te f σ H Q := q
theorem g_kfld {a C dx : Addr} {fs : List (Str × V)} {f : Str} (h : H a = some (.ins C dx fs)) (c : Cls K C) (n : NoAttr K C f) (l : fs.lookup f = some v) (q : Q v H) : kFld K f (.ref a) H Q := ⟨a, C, dx, fs, v, rfl, h, c, n, l, q⟩
theorem k_sfld {st : Stmt} {f : Str} (K : PySem.W.Frag) (h : PS X st (sFld X.K ta tv f)) (e : X.K = K := by rfl) : PS X st (sFld K ta tv f) := by subst e; exact h
def kSFld (K : PySem.W.Frag) (f : Str) (x y : V) (D : Ends) (σ : L2.St) (H2 : Hp) : Prop := ∃ a C dx fs, x = .ref a ∧ H2 a = some (.ins C dx fs) ∧ Cls K C ∧ NoAttr K C f ∧ fs.length < 1000 ∧ D.nx σ (upd H2 a (.ins C dx (putF f y fs)))
theorem g_sfld {f : Str} (q : tv σ H fun y H1 => ta σ H1 fun x H2 => kSFld K f x y D σ H2) : sFld K ta tv f D σ H := q
theorem g_ksfld {a C dx : Addr} {fs fs' : List (Str × V)} {f : Str} (hH : Has F O H) (c : Chg O a (.ins C dx fs) (.ins C dx fs') O') (e : putF f y fs = fs') (cl : Cls K C) (n : NoAttr K C f) (hl : fs.length < 1000) (q : ∀ H', Has F O' H' → D.nx σ H') : kSFld K f (.ref a) y D σ H := by
  subst e
  exact ⟨a, C, dx, fs, rfl, hH.get c.mem, cl, n, hl, q _ (hH.put c)⟩
/-- o.m(..), what is let out told at the slots -/
def tMethS (C : Addr) (m : Str) (sp : Sp) (E : L2.St → XK) (ta : TE) (t : TA) : TE := fun σ H Q => ta σ H fun x H1 => ∃ a dx fs, x = .ref a ∧ H1 a = some (.ins C dx fs) ∧ fs.lookup m = none ∧ t σ H1 fun vs H2 => sp (x :: vs) H2 Q (E σ)
def kMeth (C : Addr) (m : Str) (sp : Sp) (E : L2.St → XK) (t : TA) (σ : L2.St) (x : V) (H1 : Hp) (Q : VK) : Prop := ∃ a dx fs, x = .ref a ∧ H1 a = some (.ins C dx fs) ∧ fs.lookup m = none ∧ t σ H1 fun vs H2 => sp (x :: vs) H2 Q (E σ)
theorem g_meth {C : Addr} {m : Str} {sp : Sp} {E : L2.St → XK} {t : TA} (q : ta σ H fun x H1 => kMeth C m sp E t σ x H1 Q) : tMethS C m sp E ta t σ H Q := q
theorem g_kmeth {C : Addr} {m : Str} {sp : Sp} {E : L2.St → XK} {t : TA} {a dx : Addr} {fs : List (Str × V)} (h : H a = some (.ins C dx fs)) (l : fs.lookup m = none) (q : t σ H fun vs H2 => sp (.ref a :: vs) H2 Q (E σ)) : kMeth C m sp E t σ (.ref a) H Q := ⟨a, dx, fs, rfl, h, l, q⟩
variable {CX : CXT} {k : Nat} {f C : Addr} {fd : FuncData} {ps : List Str} {sp : Sp} {E : L2.St → XK} {m : Str} {pos apos : Pos} {e o : Expr} {es : List Expr} {t : TA}
theorem pe_methW {pl : Sem Bool} (ho : PE X o ta) (cl : Cls X.K C) (me : Meth X.K C m f) (G : FnOk X.prog X.w X.K X.mg X.base CX k f fd ps sp) (room : Room k X.A) (bd : Binds X.K fd ps []) (pass : ∀ σ, PassesAt CX X σ (E σ)) (args : PA X (e :: es) t)
    (star : starEach (e :: es) X.env = (false, eval e X.env) :: starEach es X.env := by rfl) (plain : (backTo pos (starEach es X.env)).any (·.1) = false := by rfl)
    (tree : eval (.Call (.Attribute o m apos) (e :: es) [] pos) X.env = (do
      let ov ← eval o X.env
      standAt apos.atName
      let (f, first) ← holding [ov] (getMethod ov m pl)
      callWith pos f first (backTo pos (starEach (e :: es) X.env)) (backToKw pos (keywordEach [] X.env))) := by rfl) :
    PE X (.Call (.Attribute o m apos) (e :: es) [] pos) (tMethS C m sp E ta t) := ⟨fun pins s σ H Q I h => by
  refine PySem.W.methodCall_KW (pl := pl) (thn (ho.run pins s σ H _ I h) fun u s1 hu => ?_) tree
  obtain ⟨x, H1, J, rx, a, dx, fs, rfl, there, none_, go⟩ := hu
  cases (show u = Value.ref a from rx)
  refine getmeth_ok J there cl me none_ (PySem.W.callWith_K (first := [.ref a]) (h₀ := X.base) I.ok.mod.kin me.kp (thn (args.run pos pins s1 σ H1 _ J go) fun us s2 hs => ?_) star plain)
  obtain ⟨vs, H2, J2, rel, pr⟩ := hs
  exact ⟨J2.kIn, run_fnS (us := .ref a :: us) (vs := .ref a :: vs) G room bd (pass σ) J2 (.cons rfl rel) pr⟩⟩
theorem pe_methW0 {pl : Sem Bool} (ho : PE X o ta) (cl : Cls X.K C) (me : Meth X.K C m f) (G : FnOk X.prog X.w X.K X.mg X.base CX k f fd ps sp) (room : Room k X.A) (bd : Binds X.K fd ps []) (pass : ∀ σ, PassesAt CX X σ (E σ))
    (tree : eval (.Call (.Attribute o m apos) [] [] pos) X.env = (do
      let ov ← eval o X.env
      standAt apos.atName
      let (f, first) ← holding [ov] (getMethod ov m pl)
      callWith pos f first (backTo pos (starEach [] X.env)) (backToKw pos (keywordEach [] X.env))) := by rfl) :
    PE X (.Call (.Attribute o m apos) [] [] pos) (tMethS C m sp E ta tNil) := ⟨fun pins s σ H Q I h => by
  refine PySem.W.methodCall_KW (pl := pl) (thn (ho.run pins s σ H _ I h) fun u s1 hu => ?_) tree
  obtain ⟨x, H1, J, rx, a, dx, fs, rfl, there, none_, go⟩ := hu
  cases (show u = Value.ref a from rx)
  exact getmeth_ok J there cl me none_ (PySem.W.callWith_K0 (first := [.ref a]) J.kIn me.kp (run_fnS (us := [.ref a]) (vs := [.ref a]) G room bd (pass σ) J (.cons rfl .nil) go))⟩
theorem pass0S {X : Cx} {E : L2.St → XK} : ∀ σ, PassesAt CX0 X σ (E σ) := fun _ _ _ _ _ _ _ h => h.elim
theorem passNS {X : Cx} : ∀ σ, PassesAt (L2N.CX X.prog X.w) X σ ((fun _ => E0) σ) := fun _ _ _ _ _ _ _ h => by
  obtain ⟨_, _, _, _, _, _, _, _, _, _, _, _, z⟩ := h
  exact z.elim
/-- C(..) -/
def kMake (C : Addr) (sp : Sp) (E : XK) (vs : List V) (H1 : Hp) (Q : VK) : Prop := ∀ x dx, H1 x = none → H1 dx = none → dx ≠ x → sp (.ref x :: (vs ++ [])) (upd (upd H1 dx (.own x)) x (.ins C dx [])) (fun v H2 => v = .non ∧ Q (.ref x) H2) E
theorem g_make {E : XK} (q : t σ H fun vs H1 => kMake C sp E vs H1 Q) : tMake C sp [] E t σ H Q := q
theorem g_kmake {E : XK} {vs : List V} (hH : Has F O H) (q : ∀ x dx H', H x = none → Has F ((x, .ins C dx []) :: (dx, .own x) :: O) H' → sp (.ref x :: vs) H' (fun v H2 => v = .non ∧ Q (.ref x) H2) E) : kMake C sp E vs H Q := by
  intro x dx nx nd ne
  rw [List.append_nil]
  refine q x dx _ nx ((hH.new nd).new (by rw [upd_ne (Ne.symm ne)]; exact nx))
/-- del d[k] -/
def kDel (x y : V) (D : Ends) (σ : L2.St) (H2 : Hp) : Prop := ∃ a kvs k, x = .ref a ∧ H2 a = some (.dK kvs) ∧ y = kV k ∧ (valV kvs k).isSome = true ∧ D.nx σ (upd H2 a (.dK (dropK kvs k)))
end
section
variable {X : Cx} {K : PySem.W.Frag} {σ : L2.St} {F : Hp} {O O' : Own} {H : Hp} {Q : VK} {td ty : TE} {D : Ends}
theorem g_del (q : td σ H fun x H1 => ty σ H1 fun y H2 => kDel x y D σ H2) : sDDel td ty D σ H := q
theorem g_kdel {a : Addr} {kvs : List (Key × V)} {z : V} {k : Key} (ez : z = kV k) (hH : Has F O H) (c : Chg O a (.dK kvs) (.dK (dropK kvs k)) O') (i : (valV kvs k).isSome = true) (q : ∀ H', Has F O' H' → D.nx σ H') : kDel (.ref a) z D σ H :=
  ⟨a, kvs, k, rfl, hH.get c.mem, ez, i, q _ (hH.put c)⟩
theorem g_dnewK (hH : Has F O H) (q : ∀ p H', H p = none → Has F ((p, .dK []) :: O) H' → Q (.ref p) H') : tDNewK σ H Q := fun p n => q p _ n (hH.new n)
/-! ### sorted -/
def rSortA (K : PySem.W.Frag) : List V → Hp → VK → Prop := fun vs H Q => (rSorted K vs H Q ∨ rSortedS K vs H Q) ∨
  (∃ (a : Addr) (kvs : List (Key × V)) (ks : List Str), vs = [.ref a] ∧ Rd H a (.dK kvs) ∧ kvs.map (·.1) = ks.map Sum.inr ∧ ks.length < 64 ∧ ∀ ys p, ys.Perm ks → sortedS ys = true → H p = none → Q (.ref p) (upd H p (.lst (ys.map V.str)))) ∨
  (∃ (a : Addr) (kvs : List (Key × V)) (ks : List Int), vs = [.ref a] ∧ Rd H a (.dK kvs) ∧ kvs.map (·.1) = ks.map Sum.inl ∧ ks.length < 64 ∧ ∀ (ys : List Int) (p : Addr), ys.Perm ks → ys.Pairwise (· ≤ ·) → H p = none → Q (.ref p) (upd H p (.lst (ys.map V.int))))
theorem cr_sortA (K : PySem.W.Frag) (hc : X.calm = true) (e : X.K = K := by rfl) : CallR X (.builtin "sorted") (rSortA K) := by
  subst e
  intro pins s σ H xs us Q I r h
  rcases h with (h | h) | h | h
  · exact cr_sorted pins s σ H xs us Q I r h
  · exact cr_sortedS pins s σ H xs us Q I r h
  · exact call_sortedD hc pins s σ H xs us Q I r h
  · exact call_sortedDI hc pins s σ H xs us Q I r h
theorem g_sortI {a : Addr} {ns : List Int} (h : H a = some (.lst (ns.map V.int))) (l : ns.length < 64) (hH : Has F O H) (q : ∀ (ys : List Int) p H', ys.Perm ns → ys.Pairwise (· ≤ ·) → H p = none → Has F ((p, .lst (ys.map V.int)) :: O) H' → Q (.ref p) H') : rSortA K [.ref a] H Q :=
  .inl (.inl ⟨a, ns, rfl, SqL.of h, l, fun ys p e s n => q ys p _ e s n (hH.new n)⟩)
theorem g_sortS {a : Addr} {ns : List Str} (h : H a = some (.lst (ns.map V.str))) (l : ns.length < 64) (hH : Has F O H) (q : ∀ (ys : List Str) p H', ys.Perm ns → sortedS ys = true → H p = none → Has F ((p, .lst (ys.map V.str)) :: O) H' → Q (.ref p) H') : rSortA K [.ref a] H Q :=
  .inl (.inr ⟨a, ns, rfl, SqL.of h, l, fun ys p e s n => q ys p _ e s n (hH.new n)⟩)
theorem g_sortDS {a : Addr} {kvs : List (Key × V)} {ks : List Str} (h : H a = some (.dK kvs)) (e : kvs.map (·.1) = ks.map Sum.inr) (l : ks.length < 64) (hH : Has F O H) (q : ∀ (ys : List Str) p H', ys.Perm ks → sortedS ys = true → H p = none → Has F ((p, .lst (ys.map V.str)) :: O) H' → Q (.ref p) H') : rSortA K [.ref a] H Q :=
  .inr (.inl ⟨a, kvs, ks, rfl, .inl h, e, l, fun ys p e s n => q ys p _ e s n (hH.new n)⟩)
theorem g_sortDI {a : Addr} {kvs : List (Key × V)} {ks : List Int} (h : H a = some (.dK kvs)) (e : kvs.map (·.1) = ks.map Sum.inl) (l : ks.length < 64) (hH : Has F O H) (q : ∀ (ys : List Int) p H', ys.Perm ks → ys.Pairwise (· ≤ ·) → H p = none → Has F ((p, .lst (ys.map V.int)) :: O) H' → Q (.ref p) H') : rSortA K [.ref a] H Q :=
  .inr (.inr ⟨a, kvs, ks, rfl, .inl h, e, l, fun ys p e s n => q ys p _ e s n (hH.new n)⟩)
end
/-! ### what a method changes -/
section
variable {F F1 F' H H' H1 : Hp} {A A' R : Own}
def ButA (A : Own) (H H' : Hp) : Prop := ∀ b u, b ∉ A.map (·.1) → H b = some u → H' b = some u
theorem Has.grownA (h : Has F (A ++ R) H) (hb : ButA A H H') (g : Grow F H F') (hA : Has F' A' H') (ea : ∀ q ∈ A', q.1 ∈ A.map (·.1) ∨ H q.1 = none) : Has F' (A' ++ R) H' := by
  have nd := h.nd
  rw [List.map_append, List.nodup_append] at nd
  refine ⟨hA.same, fun q hq => ?_, ?_⟩
  · rcases List.mem_append.mp hq with hq | hq
    · exact hA.own q hq
    · obtain ⟨f0, h0⟩ := h.own q (List.mem_append_right _ hq)
      refine ⟨by rw [g.2 _ (by rw [h0]; exact fun z => by cases z)]; exact f0, hb _ _ (fun m => ?_) h0⟩
      exact nd.2.2 _ m _ (List.mem_map.mpr ⟨q, hq, rfl⟩) rfl
  · rw [List.map_append, List.nodup_append]
    refine ⟨hA.nd, nd.2.1, fun x hx y hy e => ?_⟩
    obtain ⟨q, hq, rfl⟩ := List.mem_map.mp hx
    obtain ⟨r, hr, rfl⟩ := List.mem_map.mp hy
    rcases ea q hq with m | n
    · exact nd.2.2 _ m _ (List.mem_map.mpr ⟨r, hr, rfl⟩) e
    · rw [e, (h.own r (List.mem_append_right _ hr)).2] at n
      cases n
theorem Grow.refl : Grow F H F := ⟨Same.refl F, fun _ _ => rfl⟩
/-- what stands still: of old what stood still, of new what stands still now -/
def mixF (F H F1 : Hp) : Hp := fun b => match H b with
  | none => F1 b
  | some _ => F b
theorem mix_at {b : Addr} (n : H b = none) : mixF F H F1 b = F1 b := by
  unfold mixF
  rw [n]
theorem mix_old {b : Addr} (n : H b ≠ none) : mixF F H F1 b = F b := by
  unfold mixF
  cases e : H b with
  | none => exact (n e).elim
  | some u => rfl
theorem mix_grow (h : Has F A H) (s : Same (rmO A H) F1) : Grow F H (mixF F H F1) := by
  refine ⟨fun b u e => ?_, fun b n => mix_old n⟩
  rw [mix_old (by rw [h.same _ _ e]; exact fun z => by cases z)]
  exact e
theorem mix_but (h : Has F A H) (s : Same (rmO A H) F1) (h1 : Has F1 A' H1) : ButA A H H1 := fun b u n e => h1.same _ _ (s _ _ (by
  unfold rmO
  rw [if_neg n]
  exact e))
theorem mix_has (h : Has F A H) (s : Same (rmO A H) F1) (h1 : Has F1 A' H1) (ea : ∀ q ∈ A', q.1 ∈ A.map (·.1) ∨ H q.1 = none) : Has (mixF F H F1) A' H1 := by
  refine ⟨fun b u e => ?_, fun q hq => ⟨?_, (h1.own q hq).2⟩, h1.nd⟩
  · cases eh : H b with
    | none =>
      rw [mix_at eh] at e
      exact h1.same _ _ e
    | some o =>
      rw [mix_old (by rw [eh]; exact fun z => by cases z)] at e
      have := h.same _ _ e
      refine mix_but h s h1 b u (fun m => ?_) this
      obtain ⟨q, hq, rfl⟩ := List.mem_map.mp m
      rw [(h.own q hq).1] at e
      cases e
  · rcases ea q hq with m | n
    · obtain ⟨p, hp, e⟩ := List.mem_map.mp m
      have o := h.own p hp
      rw [← e, mix_old (by rw [o.2]; exact fun z => by cases z)]
      exact o.1
    · rw [mix_at n]
      exact (h1.own q hq).1
end
theorem ButA.step {F H H1 H2 : Hp} {A O1 O2 : Own} (hb : ButA A H H1) (h1 : Has F O1 H1) (nw : ∀ x ∈ O1, x.1 ∈ A.map (·.1) ∨ H x.1 = none) (h2 : Has (rmO O1 H1) O2 H2) : ButA A H H2 := fun b u n e => h2.same _ _ (by
  unfold rmO
  rw [if_neg (fun m => ?_)]
  · exact hb b u n e
  · obtain ⟨x, hx, rfl⟩ := List.mem_map.mp m
    rcases nw x hx with m' | z
    · exact n m'
    · rw [e] at z; cases z)
/-- what is new now was new then -/
theorem newp {F F1 H H1 : Hp} {A O1 : Own} {p : Addr} (h : Has F A H) (hb : ButA A H H1) (h1 : Has F1 O1 H1) (ea : ∀ q ∈ A, q.1 ∈ O1.map (·.1)) (n : H1 p = none) : H p = none := by
  cases e : H p with
  | none => rfl
  | some u =>
    by_cases m : p ∈ A.map (·.1)
    · obtain ⟨q, hq, rfl⟩ := List.mem_map.mp m
      obtain ⟨x, hx, ex⟩ := List.mem_map.mp (ea q hq)
      have := (h1.own x hx).2
      rw [ex, n] at this
      cases this
    · rw [hb p u m e] at n
      cases n
end Qk

/-! Qs: sets of keys made of lists; membership of more kinds -/
namespace Qk
open PySem PySem.Spec PyProof.Rows L2
/-! ### set(a list of keys) -/
section
variable {prog : Program} {w : World} {A : Around} {R : Result → Shared → Prop} {I : Addr} {fp wr : List Addr} {G : Array GenState → Array GenState → Prop} {n : Nat} {P : Nat → Value → Prop} {St : Nat → Shared → Prop}
/-- the loop puts in all keys from the i-th on -/
theorem loop_keys (W : WalksS prog w A.in1 I fp wr G n P St) (D : Addr) (hD : D ∉ fp) (ks : List Key) (hn : ks.length = n) (hb : n + 1 < scanBound)
    (hv : ∀ i v, P i v → ∃ k, ks[i]? = some k ∧ (mixKind prog w).is k v = true ∧ v.scannable = true) :
    ∀ (d i m : Nat) (T : Key → Bool) (s : Shared), i + d = n → m ≤ i → St i s → s.heap.SetOf (mixKind prog w) D T m →
      (∀ s' T' m', Moved (D :: wr) G s s' → s'.heap.SetOf (mixKind prog w) D T' m' → m' ≤ n → (∀ k, T' k = (T k || (ks.drop i).any fun j => decide (k = j))) → R (.ok (.ret .none)) s') →
      codeAny (model prog w) A (.builtin "set.update.loop" ⟨[.ref D, .ref I], []⟩) R s
  | 0, i, m, T, s, e, hm, st, hT, q => by
    refine codeAny_builtin F.entry_set_update_loop ?_
    rw [Around.under_plainId F.plain_set_update_loop _]
    show wpAny _ A.in1 (pyNext (.ref I) >>= _) _ _ s
    rw [Nat.add_zero] at e
    subst e
    refine wpAny_bind (W.done s _ _ st fun s1 mv => ?_)
    show wpAny _ A.in1 (ret Value.none) _ _ s1
    obtain ⟨o, es, ep, t, ho, rest⟩ := hT
    refine wpAny_pure (q s1 T m (mv.mono fun b hb => List.mem_cons_of_mem _ hb) ⟨o, es, ep, t, mv.heap D _ (fun z => hD (W.sub _ z)) ho, rest⟩ hm fun k => ?_)
    rw [← hn, List.drop_length]
    simp
  | d + 1, i, m, T, s, e, hm, st, hT, q => by
    refine codeAny_builtin F.entry_set_update_loop ?_
    rw [Around.under_plainId F.plain_set_update_loop _]
    show wpAny _ A.in1 (pyNext (.ref I) >>= _) _ _ s
    have hi : i < n := by omega
    refine wpAny_bind (W.item i s _ _ hi st fun v s1 pv st1 mv => ?_)
    obtain ⟨k, ek, his, hsc⟩ := hv i v pv
    obtain ⟨o, es, ep, t, ho, rest⟩ := hT
    have hT1 : s1.heap.SetOf (mixKind prog w) D T m := ⟨o, es, ep, t, mv.heap D _ (fun z => hD (W.sub _ z)) ho, rest⟩
    show wpAny _ A.in1 (holding [v] (setAdd D v) >>= _) _ _ s1
    refine wpAny_bind (wpAny_holding ?_)
    unfold setAdd
    refine wpAny_holding ?_
    refine wpAny_bind ((mixKind prog w).pyHash his ?_)
    refine wpAny_setAddHashed_of (knd := mixKind prog w) (s := { s1 with toks := s1.toks + 1 }) his hsc hT1 (by omega) fun h2 sb hT2 => ?_
    refine wpAny_pure ⟨plainId_quiet F.plain_set_update_loop _, loop_keys W D hD ks hn hb hv d (i + 1) _ _ _ (by omega) ?_ (W.frame _ s1 _ _ st1 (Nat.le_succ _) fun b hb o e => ?_) hT2 fun s3 T3 m3 mv3 hT3 le eq => ?_⟩
    · split <;> omega
    · rw [sb.2 b (fun z => hD (by rw [← z]; exact hb))]
      exact e
    · refine q s3 T3 m3 (Moved.trans W.gtrans ((mv.mono fun b hb => List.mem_cons_of_mem _ hb).then_heap (Nat.le_succ _) fun b o hb e => ?_) mv3) hT3 le fun k' => ?_
      · rw [sb.2 b (fun z => hb (by rw [z]; exact List.mem_cons_self))]
        exact e
      · rw [eq k']
        have hlt : i < ks.length := by omega
        have ek' : ks[i] = k := by rw [List.getElem?_eq_getElem hlt] at ek; exact Option.some.inj ek
        rw [List.drop_eq_getElem_cons hlt, ek', Bool.or_assoc]
        congr 1
end
section
variable {prog : Program} {w : World} {A : Around} {E : Value → Shared → Prop} {s : Shared}
def newSetObj (led : Bool) : Obj := { cls := .type "set", dict := none, data := .set #[] 0 (.fresh 0 0 led) }
/-- what the filling of the new set leaves -/
def Filled (prog : Program) (w : World) (ks : List Key) (s s2 : Shared) : Prop := ∃ h' tk T m, s2 = { s with heap := h', toks := tk } ∧ h'.SetOf (mixKind prog w) s.heap.objs.size T m ∧ m ≤ ks.length ∧
  (∀ k, T k = ks.any fun j => decide (k = j)) ∧ ∀ b o, b < s.heap.objs.size → s.heap.get? b = some o → h'.get? b = some o
set_option maxHeartbeats 4000000 in
theorem call_set_keys {l : Addr} {items : Array Value} {ks : List Key} {Q : Value → Shared → Prop} (hh : A.handled = none) (hl : s.heap.IsList l items) (hsz : items.size = ks.length)
    (hv : ∀ (i : Nat) (v : Value), items[i]? = some v → ∃ k, ks[i]? = some k ∧ (mixKind prog w).is k v = true ∧ v.scannable = true) (hb : ks.length + 1 < scanBound) (q : ∀ s2, Filled prog w ks s s2 → Q (.ref s.heap.objs.size) s2) :
    wpAny (model prog w) A (call (.type "set") [.ref l]) Q E s := by
  obtain ⟨c, tl, hmro⟩ := PySem.F.called_set.mro
  have hmade := PySem.F.called_set.made
  have hsub := PySem.F.called_set.sub
  have h1 := PySem.F.called_set.notType
  have h2 := PySem.F.called_set.canCreate
  have hct := PySem.F.typeCall_set_1 (.ref l)
  refine wpAny_call (codeAny_of_tree ?_)
  show wpAny _ _ (callAny (.type "set") _) _ _ _
  refine wpAny_pure ⟨Code.quiet_builtin _ (by decide +kernel), codeAny_builtin PySem.F.entry_type_call ?_⟩
  rw [Around.under_plain (weight_type_call_type "set" [.ref l] []) rfl]
  repeat (any_goals (first | assumption | wp_step))
  refine codeAny_mono (code_set_new_1 (.ref l) (E := E) (Q₁ := fun obj s₁ => ∃ led : Bool, obj = .ref s.heap.objs.size ∧ s₁ = { s with heap := s.heap.push (newSetObj led) }) fun led => ⟨led, rfl, rfl⟩) fun r s₁ hr => ?_
  cases r with
  | error e => exact hr
  | ok fl =>
    cases fl with
    | ret obj =>
      obtain ⟨led, rfl, rfl⟩ := hr
      have hS : (s.heap.push (newSetObj led)).get? s.heap.objs.size = some (newSetObj led) := Heap.get?_push_size _ rfl
      have hT : Shared.TypeIs { s with heap := s.heap.push (newSetObj led) } (.ref s.heap.objs.size) "set" := ⟨_, hS, rfl⟩
      have hli := PySem.F.called_set.init.lookup
      have hbi := PySem.F.called_set.init.bind (.ref s.heap.objs.size)
      repeat (any_goals (first | assumption | wp_step))
      refine codeAny_mono (codeAny_call_builtin (R := wants (fun r s₂ => r = .none ∧ Filled prog w ks s s₂) E) PySem.F.called_set.init.plain PySem.F.entry_set_init (check_set_init_1 hT ?_)) fun r₂ s₂ hr₂ => ?_
      · obtain ⟨ol, hol, hcl, nl, hdl⟩ := hl
        obtain ⟨ocls, odict, odata, oslots⟩ := ol
        simp only at hcl hdl
        subst hcl
        subst hdl
        have hol' : (s.heap.push (newSetObj led)).get? l = some { cls := .type "list", dict := odict, data := .seq items nl, slots := oslots } := Heap.get?_push_of_some _ hol
        have hsls := PySem.F.sub_list_set
        have hslf := PySem.F.sub_list_frozenset
        have hne : (Value.type "list" == Value.type "dict") = false := by decide
        have hl1 : (s.heap.push (newSetObj led)).IsList l items := ⟨_, hol', rfl, nl, rfl⟩
        unfold Builtin.«set.__init__» noKeywords Builtin.Frozenset.updateFrom
        generalize hPI : pyIter = PI
        wp_walk
        subst hPI
        refine wpAny_pyIter_list hl1 ?_
        refine wpAny_bind (wpAny_runValue ?_)
        have hlS : l < s.heap.objs.size := Heap.lt_size hol
        have hh3 : A.in1.in1.in1.handled = none := by simp [hh]
        have nI : l ≠ (s.heap.push (newSetObj led)).objs.size := by
          rw [Heap.size_push]
          exact Nat.ne_of_lt (Nat.lt_succ_of_lt hlS)
        have nS : s.heap.objs.size ∉ [(s.heap.push (newSetObj led)).objs.size, l] := by
          rw [Heap.size_push]
          simp only [List.mem_cons, List.not_mem_nil, or_false, not_or]
          exact ⟨Nat.ne_of_lt (Nat.lt_succ_self _), Nat.ne_of_gt hlS⟩
        refine loop_keys ((Walks.list hh3 _ l nI items).toS) s.heap.objs.size nS ks hsz.symm (by rw [hsz]; exact hb) hv items.size 0 0 (fun _ => false) _ (Nat.zero_add _) (Nat.le_refl _)
          ⟨⟨_, Heap.get?_push_size _ rfl, rfl, rfl⟩, hl1.push _⟩ ?hA ?hB
        case hA =>
          have hg : ((s.heap.push (newSetObj led)).push { cls := .type "list_iterator", data := .fields #[.ref l, .int 0 0] }).get? s.heap.objs.size = some (newSetObj led) := Heap.get?_push_of_some _ hS
          exact ⟨_, #[], 0, _, hg, ⟨rfl, rfl, rfl⟩, rfl, (fun e he => by simp at he), (fun k => by simp), (by decide), (by rfl), rfl⟩
        case hB =>
          intro s' T' m' mv hT' le eq
          obtain ⟨h', g', d', tk', os'⟩ := s'
          have eg : g' = s.gens := mv.gens
          have ed : d' = s.drawn := mv.drawn
          have eo : os' = s.os := mv.os
          subst eg
          subst ed
          subst eo
          show wpAny _ _ _ _ _ _
          refine wpAny_pure ?_
          show wpAny _ _ (ret Value.none) _ _ _
          refine wpAny_pure ⟨rfl, h', tk', T', m', rfl, hT', by omega, fun k => by rw [eq k]; rfl, fun b o hb e => ?_⟩
          refine mv.heap b o ?_ (Heap.get?_push_of_some _ (Heap.get?_push_of_some _ e))
          simp only [List.mem_cons, List.not_mem_nil, or_false, not_or]
          exact ⟨Nat.ne_of_lt hb, by rw [Heap.size_push]; exact Nat.ne_of_lt (Nat.lt_succ_of_lt hb)⟩
      · cases r₂ with
        | error e => exact hr₂
        | ok fl₂ =>
          cases fl₂ with
          | ret r =>
            obtain ⟨rfl, hf⟩ := hr₂
            repeat (any_goals (first | assumption | wp_step))
            exact q _ hf
          | _ => exact hr₂.elim
    | _ => exact hr.elim
end
/-- the keys of a list as values -/
theorem keys_vals {P : Program} {w : World} : ∀ {ks : List Key} {us : List Value}, Vals (ks.map kV) us → ∀ (i : Nat) (v : Value), us[i]? = some v → ∃ k, ks[i]? = some k ∧ (mixKind P w).is k v = true ∧ v.scannable = true
  | [], _, .nil, i, v, e => by simp at e
  | k :: ks, _, .cons r t, 0, v, e => by
    simp at e
    subst e
    exact ⟨k, rfl, kV_is r, key_scan r⟩
  | k :: ks, _, .cons r t, i + 1, v, e => by
    simp only [List.getElem?_cons_succ] at e ⊢
    exact keys_vals t i v e
section
variable {X : Cx}
/-- set(a list of texts) -/
def rSetTx (K : PySem.W.Frag) (P : Program) (w : World) : List V → Hp → VK → Prop := fun xs H Q => ∃ (l : Addr) (zs : List Str), xs = [.ref l] ∧ SqL K H l (zs.map V.str) ∧ zs.length < 1000 ∧
  ∀ a n T, H a = none → n ≤ zs.length → (∀ z, T (Sum.inr z) = decide (z ∈ zs)) → Q (.ref a) (upd H a (SetK P w a T n))
theorem cr_setTx (K : PySem.W.Frag) (hc : X.calm = true) (e : X.K = K := by rfl) : CallR X (.type "set") (rSetTx K X.prog X.w) := by
  subst e
  intro pins s σ H xs us Q I r h
  obtain ⟨l, zs, rfl, hl, hf, q⟩ := h
  rw [Vals.ref1 r]
  obtain ⟨its, rv, pl, hz⟩ := I.list hl
  have rv : Vals ((zs.map Sum.inr).map kV) its := by
    rw [List.map_map]
    exact rv
  have hle : its.length = zs.length := by rw [← rv.length, List.length_map, List.length_map]
  have hn : H s.heap.objs.size = none := I.hok.fresh (Nat.le_refl _)
  refine call_set_keys (ks := zs.map Sum.inr) (I.ok.hd hc) pl.isList (by rw [List.size_toArray, hle, List.length_map]) (fun i v e => keys_vals rv i v (by simpa using e)) (by rw [List.length_map]; unfold scanBound; omega) fun s2 F => ?_
  obtain ⟨h', tk, T, m, rfl, hT, hm, eT, k⟩ := F
  rw [List.length_map] at hm
  refine ⟨.ref s.heap.objs.size, upd H s.heap.objs.size (SetK X.prog X.w s.heap.objs.size T m), I.laid (t' := tk) (fun b o e => k b o (Heap.lt_size e) e) (Nat.le_refl _) (setK_new hT), rfl, q _ m T hn hm fun z => ?_⟩
  rw [eT, Bool.eq_iff_iff]
  simp [List.any_eq_true]
end
end Qk

/-! Qt: membership in sets, slices of texts, loops over texts, dict displays, bits -/
namespace Qk
open PySem PySem.Spec PyProof.Rows L2
/-! ### in, not in: also sets -/
def rInM (K : PySem.W.Frag) (P : Program) (w : World) : R2 := fun x y H Q => rInA K x y H Q ∨ rSInK P w false x y H Q
def rNotInM (K : PySem.W.Frag) (P : Program) (w : World) : R2 := fun x y H Q => rNotInA K x y H Q ∨ rSInK P w true x y H Q
section
variable {X : Cx}
theorem op_inM (K : PySem.W.Frag) (P : Program) (w : World) (hu : X.A.units + 64 < cLine) (hu' : X.A.units + 65 < cLine) (e : X.K = K := by rfl) (eP : X.prog = P := by rfl) (ew : X.w = w := by rfl) : OpR X (compareOp .In) (rInM K P w) := by
  subst e
  subst eP
  subst ew
  intro pins s σ H x y v u Q I rx ry h
  rcases h with h | h
  · exact op_inA hu hu' pins s σ H x y v u Q I rx ry h
  · exact or_sinK pins s σ H x y v u Q I rx ry h
theorem op_notinM (K : PySem.W.Frag) (P : Program) (w : World) (hu : X.A.units + 64 < cLine) (hu' : X.A.units + 65 < cLine) (e : X.K = K := by rfl) (eP : X.prog = P := by rfl) (ew : X.w = w := by rfl) : OpR X (compareOp .NotIn) (rNotInM K P w) := by
  subst e
  subst eP
  subst ew
  intro pins s σ H x y v u Q I rx ry h
  rcases h with h | h
  · exact op_notinA hu hu' pins s σ H x y v u Q I rx ry h
  · exact or_snotinK pins s σ H x y v u Q I rx ry h
/-- slices of lists, tuples, texts -/
def rSlM (K : PySem.W.Frag) : V → Option Int → Option Int → Hp → VK → Prop := fun x lo hi H Q => rSlB K x lo hi H Q ∨ rSlS x lo hi H Q
theorem sl_M (K : PySem.W.Frag) (e : X.K = K := by rfl) : SlR X (rSlM K) := by
  subst e
  intro pins s σ H x v vl vu lo hi sl Q I rx hs pl pu h
  rcases h with h | h
  · exact sl_all pins s σ H x v vl vu lo hi sl Q I rx hs pl pu h
  · exact sl_str pins s σ H x v vl vu lo hi sl Q I rx hs pl pu h
end
section
variable {K : PySem.W.Frag} {P : Program} {w : World} {σ : L2.St} {F : Hp} {O O' : Own} {H : Hp} {Q : VK} {x y v : V} {te ta tk tv : TE} {D : Ends} {ts : TS} {g : TG}
theorem g_inM (q : rInA K x y H Q) : rInM K P w x y H Q := .inl q
theorem g_notinM (q : rNotInA K x y H Q) : rNotInM K P w x y H Q := .inl q
theorem g_inK {a : Addr} {T : Key → Bool} {n : Nat} {k : Key} (ek : x = kV k) (h : H a = some (SetK P w a T n)) (q : Q (.bl (T k)) H) : rInM K P w x (.ref a) H Q := .inr ⟨k, a, T, n, ek, rfl, h, q⟩
theorem g_notinK {a : Addr} {T : Key → Bool} {n : Nat} {k : Key} (ek : x = kV k) (h : H a = some (SetK P w a T n)) (q : Q (.bl (!T k)) H) : rNotInM K P w x (.ref a) H Q := .inr ⟨k, a, T, n, ek, rfl, h, q⟩
theorem g_inC {c : Nat} {z : Str} (q : Q (.bl (decide (c ∈ z.cps.toList))) H) : rInA K (.str ⟨#[c]⟩) (.str z) H Q := .inr (.inl ⟨_, _, rfl, rfl, by rw [PySem.StrLaws.found_one z c]; exact q⟩)
theorem g_notinC {c : Nat} {z : Str} (q : Q (.bl (!decide (c ∈ z.cps.toList))) H) : rNotInA K (.str ⟨#[c]⟩) (.str z) H Q := .inr (.inl ⟨_, _, rfl, rfl, by rw [PySem.StrLaws.found_one z c]; exact q⟩)
theorem g_slM {lo hi : Option Int} (q : rSlB K x lo hi H Q) : rSlM K x lo hi H Q := .inl q
theorem g_slZ {z : Str} {lo hi : Option Int} (hl : z.length ≤ sizeLine) (q : Q (.str (cutS z lo hi)) H) : rSlM K (.str z) lo hi H Q := .inr ⟨z, rfl, hl, q⟩
/-! ### loops over a text -/
def kForS (g : TG) (tb : TS) (D : Ends) (σ : L2.St) (x : V) (H : Hp) : Prop := ∃ z, x = .str z ∧ kW (Its z) g tb D σ H
theorem g_forS (q : te σ H fun x H1 => kForS g ts D σ x H1) : tFor (iStr te) g ts D σ H := q
theorem k_forS {z : Str} (Pv : Nat → L2.St → Hp → Prop) (h0 : Pv 0 σ H)
    (hs : ∀ i c σ H, z.cps[i]? = some c → Pv i σ H → g (.str ⟨#[c]⟩) σ H fun σ2 H2 => ts { D with nx := Pv (i + 1), ct := Pv (i + 1), bk := D.nx } σ2 H2) (hd : ∀ σ H, Pv z.length σ H → D.nx σ H) : kForS g ts D σ (.str z) H := by
  refine ⟨z, rfl, fun i m σ H => m = z.length - i ∧ i ≤ z.length ∧ Pv i σ H, ⟨z.length, rfl, Nat.zero_le _, h0⟩, ?_⟩
  rintro i m σ H ⟨rfl, hi, p⟩
  by_cases hlt : i < z.length
  · refine .inr ⟨hlt, Pv (i + 1), fun σ' H' p' => ⟨z.length - (i + 1), by omega, rfl, hlt, p'⟩, fun x H' y => ?_⟩
    obtain ⟨e, c, hc, rfl⟩ := y
    subst e
    exact hs i c σ _ hc p
  · have e : i = z.length := by omega
    subst e
    exact .inl ⟨Nat.le_refl _, hd σ H p⟩
/-! ### {k: v} -/
def kDisp1 (p : Addr) (x y : V) (H : Hp) (Q : VK) : Prop := H p = some (.dK []) ∧ ∃ kvs : List (Key × V), [(x, y)] = kvs.map (fun kv => (kV kv.1, kv.2)) ∧ kvs.length ≤ 15 ∧ Q (.ref p) (upd H p (.dK (mergeK [] kvs)))
theorem g_disp1 (hH : Has F O H) (q : ∀ p H1, H p = none → Has F ((p, .dK []) :: O) H1 → tk σ H1 fun x H2 => tv σ H2 fun y H3 => kDisp1 p x y H3 Q) : tDisp [(tk, tv)] σ H Q := fun p n => q p _ n (hH.new n)
theorem g_kdisp1 {p : Addr} {z : V} {k : Key} (h : Has F ((p, .dK []) :: O) H) (ez : z = kV k) (q : ∀ H', Has F ((p, .dK [(k, y)]) :: O) H' → Q (.ref p) H') : kDisp1 p z y H Q := by
  subst ez
  exact ⟨h.get (List.Mem.head _), [(k, y)], rfl, Nat.succ_le_succ (Nat.zero_le _), q _ (h.put .hd)⟩
/-! ### sum, str, set -/
theorem cr_setTxK {X : Cx} (K : PySem.W.Frag) (P : Program) (w : World) (hc : X.calm = true) (e : X.K = K := by rfl) (eP : X.prog = P := by rfl) (ew : X.w = w := by rfl) : CallR X (.type "set") (rSetTx K P w) := by
  subst e
  subst eP
  subst ew
  exact cr_setTx _ hc
theorem g_sum {a : Addr} {ns : List Int} (h : H a = some (.lst (ns.map V.int))) (q : Q (.int ns.sum) H) : rSum K [.ref a] H Q := ⟨a, ns, rfl, SqL.of h, q⟩
def rStrI : List V → Hp → VK → Prop := fun xs H Q => ∃ i : Int, xs = [.int i] ∧ i.natAbs.log2 < 1920 ∧ Q (.str (toString i)) H
theorem cr_strI {X : Cx} : CallR X (.type "str") rStrI := call_str_int
theorem g_strI {i : Int} (h : i.natAbs.log2 < 1920) (q : Q (.str (toString i)) H) : rStrI [.int i] H Q := ⟨i, rfl, h, q⟩
theorem cr_sumK {X : Cx} (K : PySem.W.Frag) (hc : X.calm = true) (e : X.K = K := by rfl) : CallR X (.builtin "sum") (rSum K) := by subst e; exact cr_sum hc
theorem g_setOf {a : Addr} {zs : List Str} (h : H a = some (.lst (zs.map V.str))) (hl : zs.length < 1000) (hH : Has F O H) (q : ∀ p n T H', H p = none → (∀ z, T (Sum.inr z) = decide (z ∈ zs)) → Has F ((p, SetK P w p T n) :: O) H' → Q (.ref p) H') : rSetTx K P w [.ref a] H Q :=
  ⟨a, zs, rfl, SqL.of h, hl, fun p n T np _ eT => q p n T _ np eT (hH.new np)⟩
/-! ### methods of texts -/
def kM0 (r : V → List V → Hp → VK → Prop) (x : V) (H : Hp) (Q : VK) : Prop := (∃ a, x = .str a) ∧ r x [] H Q
theorem g_m0 {r : V → List V → Hp → VK → Prop} (q : ta σ H fun x H1 => kM0 r x H1 Q) : tM0 r ta σ H Q := q
theorem g_km0 {r : V → List V → Hp → VK → Prop} {z : Str} (q : r (.str z) [] H Q) : kM0 r (.str z) H Q := ⟨⟨z, rfl⟩, q⟩
end
/-! ### ways that meet, the rest of the way out of sight -/
theorem g_joinD {t : TS} {D : Ends} {σ : L2.St} {H : Hp} (M : L2.St → Hp → Prop) (h : ∀ σ' H', M σ' H' → D.nx σ' H') (q : ∀ nx' : L2.St → Hp → Prop, (∀ σ' H', M σ' H' → nx' σ' H') → t { D with nx := nx' } σ H) : t D σ H := q D.nx h
end Qk

/-! Qu: sets of keys that can be gone through: set(list), sorted(set), in -/
namespace Qk
open PySem PySem.Spec PyProof.Rows L2
/-- the entries of a set and their keys -/
structure KE (P : Program) (w : World) (es : Array (Int × Value)) (ks : List Key) : Prop where
  ex : ∃ kes : List (Key × (Int × Value)), (kes.map (·.2)).Perm es.toList ∧ (∀ p ∈ kes, (mixKind P w).is p.1 p.2.2 = true) ∧ kes.map (·.1) = ks
  nd : ks.Nodup
def KR (P : Program) (w : World) (h : Heap) (a : Addr) (T : Key → Bool) (n : Nat) : Prop :=
  ∃ (o : Obj) (es : Array (Int × Value)) (ep : Nat) (t : SetTable) (ks : List Key), h.get? a = some o ∧ o.ExactSet ∧ o.data = .set es ep t ∧ ElemsOf (mixKind P w) es.toList ∧ KE P w es ks ∧ (∀ k, T k = true ↔ k ∈ ks) ∧
    es.size < scanBound ∧ t.fits es.size = true ∧ es.size = n ∧ Ris t.place.toList ∧ (w.params.followText "set-order" = true ∨ t.led = true)
section
variable {P : Program} {w : World} {h h' : Heap} {a : Addr} {T : Key → Bool} {n : Nat}
theorem KE.mem {es : Array (Int × Value)} {ks : List Key} (e : KE P w es ks) (k : Key) : k ∈ ks ↔ ∃ x, x ∈ es.toList ∧ (mixKind P w).is k x.2 = true := by
  obtain ⟨kes, pm, hi, rfl⟩ := e.ex
  rw [List.mem_map]
  constructor
  · rintro ⟨p, hp, rfl⟩
    exact ⟨p.2, pm.mem_iff.mp (List.mem_map.mpr ⟨p, hp, rfl⟩), hi p hp⟩
  · rintro ⟨x, hx, hk⟩
    obtain ⟨p, hp, rfl⟩ := List.mem_map.mp (pm.mem_iff.mpr hx)
    exact ⟨p, hp, (mixKind P w).inj _ _ _ (hi p hp) hk⟩
theorem KE.len {es : Array (Int × Value)} {ks : List Key} (e : KE P w es ks) : ks.length = es.size := by
  obtain ⟨kes, pm, _, rfl⟩ := e.ex
  rw [List.length_map, ← Array.length_toList, ← pm.length_eq, List.length_map]
theorem KR.setOf (r : KR P w h a T n) : h.SetOf (mixKind P w) a T n := by
  obtain ⟨o, es, ep, t, ks, h1, h2, h3, h4, h5, h6, h7, h8, h9, _⟩ := r
  exact ⟨o, es, ep, t, h1, h2, h3, h4, fun k => (h6 k).trans (h5.mem k), h7, h8, h9⟩
theorem KR.at_ (r : KR P w h a T n) (s : ∀ o, h.get? a = some o → h'.get? a = some o) : KR P w h' a T n := by
  obtain ⟨o, es, ep, t, ks, h1, rest⟩ := r
  exact ⟨o, es, ep, t, ks, s _ h1, rest⟩
theorem KR.congr {T' : Key → Bool} (r : KR P w h a T n) (e : ∀ k, T' k = T k) : KR P w h a T' n := by
  have : T' = T := funext e
  rw [this]
  exact r
end
def SetQ (P : Program) (w : World) (a : Addr) (T : Key → Bool) (n : Nat) : HO := HO.ext fun h => KR P w h a T n
theorem setQ_get {X : Cx} {pins : List (Addr × Obj)} {σ : L2.St} {H : Hp} {s : Shared} {a : Addr} {T : Key → Bool} {n : Nat} (I : L2.Inv X pins σ H s) (ha : H a = some (SetQ X.prog X.w a T n)) : KR X.prog X.w s.heap a T n := (I.hok a _ ha).1
theorem setQ_new {P : Program} {w : World} {H : Hp} {h : Heap} {a : Addr} {T : Key → Bool} {n : Nat} (r : KR P w h a T n) : ObjOk P w H h a (SetQ P w a T n) := by
  obtain ⟨o, _, _, _, _, ho, _⟩ := id r
  exact ⟨r, ⟨o, ho⟩, fun h1 h2 r1 s => KR.at_ r1 s⟩
/-! ### one more key -/
section
variable {P : Program} {w : World} {A : Around} {E : Value → Shared → Prop} {s : Shared} {a : Addr}
theorem KE.push {es es1 : Array (Int × Value)} {ks : List Key} (e : KE P w es ks) {k : Key} {x : Value} {hx : Int} (hk : (mixKind P w).is k x = true) (nk : k ∉ ks) (pm : es1.toList.Perm (es.push (hx, x)).toList) : KE P w es1 (ks ++ [k]) := by
  obtain ⟨kes, p0, hi, rfl⟩ := e.ex
  refine ⟨⟨kes ++ [(k, (hx, x))], ?_, ?_, by rw [List.map_append]; rfl⟩, ?_⟩
  · rw [List.map_append]
    refine List.Perm.trans (List.Perm.append_right _ p0) ?_
    rw [Array.toList_push] at pm
    exact pm.symm
  · intro p hp
    rcases List.mem_append.mp hp with hp | hp
    · exact hi p hp
    · rw [List.mem_singleton.mp hp]; exact hk
  · rw [List.nodup_append]
    refine ⟨e.nd, List.nodup_cons.mpr ⟨fun h => (by cases h), List.nodup_nil⟩, fun x hx y hy e => ?_⟩
    rw [List.mem_singleton.mp hy] at e
    exact nk (e ▸ hx)
theorem KE.perm {es es1 : Array (Int × Value)} {ks : List Key} (e : KE P w es ks) (pm : es1.toList.Perm es.toList) : KE P w es1 ks := by
  obtain ⟨kes, p0, hi, ek⟩ := e.ex
  exact ⟨⟨kes, p0.trans pm.symm, hi, ek⟩, e.nd⟩
theorem kr_tail {g : Bool → Sem Unit} (hg : ∀ (b : Bool) (s₁ : Shared) (Q' : Unit → Shared → Prop), Q' () s₁ → wpAny (model P w) A (g b) Q' E s₁) {o : Obj} {es : Array (Int × Value)} {ep : Nat} {t : SetTable}
    (ho : s.heap.get? a = some o) (hx : o.ExactSet) (hd : o.data = .set es ep t) {es1 : Array (Int × Value)} {t2 : SetTable} {T' : Key → Bool} {ks : List Key}
    (he : ElemsOf (mixKind P w) es1.toList) (hk : KE P w es1 ks) (hT : ∀ k, T' k = true ↔ k ∈ ks) (hsz : es1.size < scanBound) (hf : t2.fits es1.size = true) (hr : Ris t2.place.toList) (hl : w.params.followText "set-order" = true ∨ t2.led = true)
    {wasDummy : Bool} {R : Option Bool → Shared → Prop} (q : ∀ h', Heap.SameBut a s.heap h' → KR P w h' a T' es1.size → R (some true) { s with heap := h' }) :
    wpAny (model P w) A (do
      storeSet a es1 t2
      if (!wasDummy && t2.tooFull) = true then do
          g (relayAll t2 es1 (SetTable.grown es1.size)).snd.snd
          storeSet a (relayAll t2 es1 (SetTable.grown es1.size)).fst (relayAll t2 es1 (SetTable.grown es1.size)).snd.fst
          pure (some true)
        else pure (some true)) R E s := by
  refine wpAny_bind (wpAny_storeSet_of ho hd ?_ (fits_of_scanBound hsz))
  have h1 := store_at (es' := es1) (t' := t2) ho hd
  have b1 := Heap.SameBut.update s.heap a (Obj.putSet es1 t2)
  split
  · refine wpAny_bind (hg _ _ _ ?_)
    have pm := relayAll_perm t2 es1 (SetTable.grown es1.size)
    have fit := relayAll_fits t2 es1 (SetTable.grown es1.size)
    have ris := relayAll_ris t2 es1 (SetTable.grown es1.size)
    have led := relayAll_led t2 es1 (SetTable.grown es1.size)
    generalize relayAll t2 es1 (SetTable.grown es1.size) = rl at pm fit ris led
    obtain ⟨es2, t3, gv⟩ := rl
    have es_sz : es2.size = es1.size := by
      have := pm.length_eq
      rwa [Array.length_toList, Array.length_toList] at this
    refine wpAny_bind (wpAny_storeSet_of h1 rfl ?_ (fits_of_scanBound (by show es2.size < _; omega)))
    refine wpAny_pure (q _ (b1.trans (Heap.SameBut.update _ a _)) ?_)
    refine ⟨_, es2, ep + 1 + 1, t3, ks, store_at (es' := es2) (t' := t3) h1 rfl, ⟨hx.1, hx.2.1, hx.2.2⟩, rfl, he.perm pm, hk.perm pm, hT, by omega, fit, es_sz, ris, ?_⟩
    rcases hl with hl | hl
    · exact .inl hl
    · exact .inr (led.trans hl)
  · exact wpAny_pure (q _ b1 ⟨_, es1, ep + 1, t2, ks, h1, ⟨hx.1, hx.2.1, hx.2.2⟩, rfl, he, hk, hT, hsz, hf, rfl, hr, hl⟩)
theorem kr_add {T : Key → Bool} {n : Nat} {k : Key} {x : Value} {Q : Bool → Shared → Prop} (his : (mixKind P w).is k x = true) (hsc : x.scannable = true) (hT : KR P w s.heap a T n) (hn : n + 1 < scanBound)
    (q : ∀ h', Heap.SameBut a s.heap h' → KR P w h' a (fun k' => T k' || decide (k' = k)) (if T k = true then n else n + 1) → Q (!T k) { s with heap := h' }) : wpAny (model P w) A (setAddHashed a x ((mixKind P w).hash k)) Q E s := by
  obtain ⟨o, es, ep, t, ks, ho, hx, hd, he, hk, hT', hsz, hf, hn', hr, hl⟩ := hT
  unfold setAddHashed
  refine wpAny_holding ?_
  rw [setAddHashedIn.eq_def]
  dsimp only
  refine wpAny_bind (wpAny_setState_of ho hd hf ?_)
  dsimp only
  rw [if_pos (byScan_of (knd := mixKind P w) hsc hsz he)]
  refine wpAny_bind ?_
  unfold setAddByScan
  refine wpAny_bind (wpAny_rule ?_)
  refine wpAny_bind (wpAny_setScan_of (knd := mixKind P w) his ho hd hf he ?_)
  cases hfi : List.findIdx? (fun e => (mixKind P w).is k e.2) es.toList with
  | some j =>
    have hk1 : T k = true := by
      rw [hT' k, hk.mem k]
      have h1 := List.findIdx?_eq_some_iff_getElem.mp hfi
      obtain ⟨hj, hp, _⟩ := h1
      exact ⟨_, List.getElem_mem hj, hp⟩
    dsimp only
    refine wpAny_pure ?_
    dsimp only
    refine wpAny_pure ?_
    have q' := q s.heap (Heap.SameBut.refl _ _) ?_
    · rw [hk1] at q'
      exact q'
    · rw [if_pos hk1]
      refine KR.congr ⟨o, es, ep, t, ks, ho, hx, hd, he, hk, hT', hsz, hf, hn', hr, hl⟩ fun k' => ?_
      by_cases e : k' = k
      · rw [e, hk1]; rfl
      · rw [decide_eq_false e, Bool.or_false]
  | none =>
    have hk0 : T k = false := by
      cases e : T k with
      | false => rfl
      | true =>
        obtain ⟨x', hx', hi'⟩ := (hk.mem k).mp ((hT' k).mp e)
        have := List.findIdx?_eq_none_iff.mp hfi x' hx'
        rw [hi'] at this
        cases this
    have nk : k ∉ ks := fun m => by
      have := (hT' k).mpr m
      rw [hk0] at this
      cases this
    dsimp only
    have pm := layNew_perm t es ((mixKind P w).hash k) x
    have fit := layNew_fits t es ((mixKind P w).hash k) x
    have ris := layNew_ris t es ((mixKind P w).hash k) x hr
    have led := layNew_led t es ((mixKind P w).hash k) x
    generalize layNew t es ((mixKind P w).hash k) x = ln at pm fit ris led
    obtain ⟨es1, t1, wd, gv⟩ := ln
    dsimp only at pm fit ris led ⊢
    have sz1 : es1.size = es.size + 1 := by
      have := pm.length_eq
      rwa [Array.length_toList, Array.length_toList, Array.size_push] at this
    have he1 : ElemsOf (mixKind P w) es1.toList := by
      have := he.push his hsc
      rw [← Array.toList_push] at this
      exact this.perm pm
    have hk1 := hk.push his nk pm
    have hT1 : ∀ k', (T k' || decide (k' = k)) = true ↔ k' ∈ ks ++ [k] := fun k' => by
      rw [Bool.or_eq_true, decide_eq_true_eq, hT' k', List.mem_append, List.mem_singleton]
    have hsz1 : es1.size < scanBound := by omega
    have led1 : w.params.followText "set-order" = true ∨ t1.led = true := by
      rcases hl with hl | hl
      · exact .inl hl
      · exact .inr (led.trans hl)
    rw [hk0] at q
    have fin : ∀ h', Heap.SameBut a s.heap h' → KR P w h' a (fun k' => T k' || decide (k' = k)) es1.size → Q true { s with heap := h' } := fun h' b r => q h' b (by rw [sz1, hn'] at r; exact r)
    have tl : ∀ b : Bool, (if b = true then t1 else { t1 with plain := false }).fits es1.size = true ∧ Ris (if b = true then t1 else { t1 with plain := false }).place.toList ∧ (w.params.followText "set-order" = true ∨ (if b = true then t1 else { t1 with plain := false }).led = true) := fun b => by
      cases b
      · exact ⟨SetTable.fits_plain_off fit, ris, led1⟩
      · exact ⟨fit, ris, led1⟩
    refine wpAny_bind ?_
    cases gv <;> (first | refine wpAny_pure ?_ | refine wpAny_rule ?_)
    all_goals
      split
      · rw [hashByValue_scannable _ hsc]
        refine wpAny_bind (wpAny_pure ?_)
        refine kr_tail ?_ ho hx hd he1 hk1 hT1 hsz1 (tl _).1 (tl _).2.1 (tl _).2.2 (fun h' sb r => ?_)
        · intro b s₁ Q' h
          cases b <;> (first | exact wpAny_pure h | exact wpAny_rule h)
        · exact wpAny_pure (fin h' sb r)
      · refine wpAny_bind (wpAny_pure ?_)
        refine kr_tail ?_ ho hx hd he1 hk1 hT1 hsz1 (tl true).1 (tl true).2.1 (tl true).2.2 (fun h' sb r => ?_)
        · intro b s₁ Q' h
          cases b <;> (first | exact wpAny_pure h | exact wpAny_rule h)
        · exact wpAny_pure (fin h' sb r)
end
theorem code_set_led1 {P : Program} {w : World} {A : Around} {E : Value → Shared → Prop} {s : Shared} (a : Value) {Q₁ : Value → Shared → Prop}
    (q : Q₁ (.ref s.heap.objs.size) { s with heap := s.heap.push { cls := .type "set", data := .set #[] 0 (.fresh 0 0 !w.params.followText "set-order") } }) :
    codeAny (model P w) A (.call (.builtin "set.__new__") ⟨[.type "set", a], []⟩) (wants Q₁ E) s := by
  refine codeAny_of_tree ?_
  show wpAny _ _ (_ >>= _) _ _ _
  refine wpAny_bind ?_
  refine wpAny_of_eq (PySem.F.newCall_set_1 a) ?_
  refine wpAny_pure ?_
  refine ⟨plainId_quiet F.plain_set_new _, codeAny_builtin F.entry_set_new ?_⟩
  rw [Around.under_plainId F.plain_set_new _]
  show wpAny _ _ (Builtin.«set.__new__» _) _ _ _
  unfold Builtin.«set.__new__» Builtin.Frozenset.newClass newSet
  dsimp only
  have hs := @PySem.sub_set_self
  repeat (any_goals (first | assumption | wp_step))
  refine wpAny_askSetting ?_
  refine wpAny_pure ?_
  dsimp only
  unfold newObj
  repeat (any_goals (first | assumption | wp_step))

/-! ### set(a list of keys) -/
section
variable {prog : Program} {w : World} {A : Around} {R : Result → Shared → Prop} {I : Addr} {fp wr : List Addr} {G : Array GenState → Array GenState → Prop} {n : Nat} {P : Nat → Value → Prop} {St : Nat → Shared → Prop}
/-- the loop puts in all keys from the i-th on -/
theorem loop_keysQ (W : WalksS prog w A.in1 I fp wr G n P St) (D : Addr) (hD : D ∉ fp) (ks : List Key) (hn : ks.length = n) (hb : n + 1 < scanBound)
    (hv : ∀ i v, P i v → ∃ k, ks[i]? = some k ∧ (mixKind prog w).is k v = true ∧ v.scannable = true) :
    ∀ (d i m : Nat) (T : Key → Bool) (s : Shared), i + d = n → m ≤ i → St i s → KR prog w s.heap D T m →
      (∀ s' T' m', Moved (D :: wr) G s s' → KR prog w s'.heap D T' m' → m' ≤ n → (∀ k, T' k = (T k || (ks.drop i).any fun j => decide (k = j))) → R (.ok (.ret .none)) s') →
      codeAny (model prog w) A (.builtin "set.update.loop" ⟨[.ref D, .ref I], []⟩) R s
  | 0, i, m, T, s, e, hm, st, hT, q => by
    refine codeAny_builtin F.entry_set_update_loop ?_
    rw [Around.under_plainId F.plain_set_update_loop _]
    show wpAny _ A.in1 (pyNext (.ref I) >>= _) _ _ s
    rw [Nat.add_zero] at e
    subst e
    refine wpAny_bind (W.done s _ _ st fun s1 mv => ?_)
    show wpAny _ A.in1 (ret Value.none) _ _ s1
    refine wpAny_pure (q s1 T m (mv.mono fun b hb => List.mem_cons_of_mem _ hb) (hT.at_ fun o ho => mv.heap D _ (fun z => hD (W.sub _ z)) ho) hm fun k => ?_)
    rw [← hn, List.drop_length]
    simp
  | d + 1, i, m, T, s, e, hm, st, hT, q => by
    refine codeAny_builtin F.entry_set_update_loop ?_
    rw [Around.under_plainId F.plain_set_update_loop _]
    show wpAny _ A.in1 (pyNext (.ref I) >>= _) _ _ s
    have hi : i < n := by omega
    refine wpAny_bind (W.item i s _ _ hi st fun v s1 pv st1 mv => ?_)
    obtain ⟨k, ek, his, hsc⟩ := hv i v pv
    have hT1 : KR prog w s1.heap D T m := hT.at_ fun o ho => mv.heap D _ (fun z => hD (W.sub _ z)) ho
    show wpAny _ A.in1 (holding [v] (setAdd D v) >>= _) _ _ s1
    refine wpAny_bind (wpAny_holding ?_)
    unfold setAdd
    refine wpAny_holding ?_
    refine wpAny_bind ((mixKind prog w).pyHash his ?_)
    refine kr_add (s := { s1 with toks := s1.toks + 1 }) his hsc hT1 (by omega) fun h2 sb hT2 => ?_
    refine wpAny_pure ⟨plainId_quiet F.plain_set_update_loop _, loop_keysQ W D hD ks hn hb hv d (i + 1) _ _ _ (by omega) ?_ (W.frame _ s1 _ _ st1 (Nat.le_succ _) fun b hb o e => ?_) hT2 fun s3 T3 m3 mv3 hT3 le eq => ?_⟩
    · split <;> omega
    · rw [sb.2 b (fun z => hD (by rw [← z]; exact hb))]
      exact e
    · refine q s3 T3 m3 (Moved.trans W.gtrans ((mv.mono fun b hb => List.mem_cons_of_mem _ hb).then_heap (Nat.le_succ _) fun b o hb e => ?_) mv3) hT3 le fun k' => ?_
      · rw [sb.2 b (fun z => hb (by rw [z]; exact List.mem_cons_self))]
        exact e
      · rw [eq k']
        have hlt : i < ks.length := by omega
        have ek' : ks[i] = k := by rw [List.getElem?_eq_getElem hlt] at ek; exact Option.some.inj ek
        rw [List.drop_eq_getElem_cons hlt, ek', Bool.or_assoc]
        congr 1
end
section
variable {prog : Program} {w : World} {A : Around} {E : Value → Shared → Prop} {s : Shared}
def newSetQ (w : World) : Obj := { cls := .type "set", dict := none, data := .set #[] 0 (.fresh 0 0 !w.params.followText "set-order") }
/-- what the filling of the new set leaves -/
def FilledQ (prog : Program) (w : World) (ks : List Key) (s s2 : Shared) : Prop := ∃ h' tk T m, s2 = { s with heap := h', toks := tk } ∧ KR prog w h' s.heap.objs.size T m ∧ m ≤ ks.length ∧
  (∀ k, T k = ks.any fun j => decide (k = j)) ∧ ∀ b o, b < s.heap.objs.size → s.heap.get? b = some o → h'.get? b = some o
set_option maxHeartbeats 4000000 in
theorem call_set_keysQ {l : Addr} {items : Array Value} {ks : List Key} {Q : Value → Shared → Prop} (hh : A.handled = none) (hl : s.heap.IsList l items) (hsz : items.size = ks.length)
    (hv : ∀ (i : Nat) (v : Value), items[i]? = some v → ∃ k, ks[i]? = some k ∧ (mixKind prog w).is k v = true ∧ v.scannable = true) (hb : ks.length + 1 < scanBound) (q : ∀ s2, FilledQ prog w ks s s2 → Q (.ref s.heap.objs.size) s2) :
    wpAny (model prog w) A (call (.type "set") [.ref l]) Q E s := by
  obtain ⟨c, tl, hmro⟩ := PySem.F.called_set.mro
  have hmade := PySem.F.called_set.made
  have hsub := PySem.F.called_set.sub
  have h1 := PySem.F.called_set.notType
  have h2 := PySem.F.called_set.canCreate
  have hct := PySem.F.typeCall_set_1 (.ref l)
  refine wpAny_call (codeAny_of_tree ?_)
  show wpAny _ _ (callAny (.type "set") _) _ _ _
  refine wpAny_pure ⟨Code.quiet_builtin _ (by decide +kernel), codeAny_builtin PySem.F.entry_type_call ?_⟩
  rw [Around.under_plain (weight_type_call_type "set" [.ref l] []) rfl]
  repeat (any_goals (first | assumption | wp_step))
  refine codeAny_mono (code_set_led1 (.ref l) (E := E) (Q₁ := fun obj s₁ => obj = .ref s.heap.objs.size ∧ s₁ = { s with heap := s.heap.push (newSetQ w) }) ⟨rfl, rfl⟩) fun r s₁ hr => ?_
  cases r with
  | error e => exact hr
  | ok fl =>
    cases fl with
    | ret obj =>
      obtain ⟨rfl, rfl⟩ := hr
      have hS : (s.heap.push (newSetQ w)).get? s.heap.objs.size = some (newSetQ w) := Heap.get?_push_size _ rfl
      have hT : Shared.TypeIs { s with heap := s.heap.push (newSetQ w) } (.ref s.heap.objs.size) "set" := ⟨_, hS, rfl⟩
      have hli := PySem.F.called_set.init.lookup
      have hbi := PySem.F.called_set.init.bind (.ref s.heap.objs.size)
      repeat (any_goals (first | assumption | wp_step))
      refine codeAny_mono (codeAny_call_builtin (R := wants (fun r s₂ => r = .none ∧ FilledQ prog w ks s s₂) E) PySem.F.called_set.init.plain PySem.F.entry_set_init (check_set_init_1 hT ?_)) fun r₂ s₂ hr₂ => ?_
      · obtain ⟨ol, hol, hcl, nl, hdl⟩ := hl
        obtain ⟨ocls, odict, odata, oslots⟩ := ol
        simp only at hcl hdl
        subst hcl
        subst hdl
        have hol' : (s.heap.push (newSetQ w)).get? l = some { cls := .type "list", dict := odict, data := .seq items nl, slots := oslots } := Heap.get?_push_of_some _ hol
        have hsls := PySem.F.sub_list_set
        have hslf := PySem.F.sub_list_frozenset
        have hne : (Value.type "list" == Value.type "dict") = false := by decide
        have hl1 : (s.heap.push (newSetQ w)).IsList l items := ⟨_, hol', rfl, nl, rfl⟩
        unfold Builtin.«set.__init__» noKeywords Builtin.Frozenset.updateFrom
        generalize hPI : pyIter = PI
        wp_walk
        subst hPI
        refine wpAny_pyIter_list hl1 ?_
        refine wpAny_bind (wpAny_runValue ?_)
        have hlS : l < s.heap.objs.size := Heap.lt_size hol
        have hh3 : A.in1.in1.in1.handled = none := by simp [hh]
        have nI : l ≠ (s.heap.push (newSetQ w)).objs.size := by
          rw [Heap.size_push]
          exact Nat.ne_of_lt (Nat.lt_succ_of_lt hlS)
        have nS : s.heap.objs.size ∉ [(s.heap.push (newSetQ w)).objs.size, l] := by
          rw [Heap.size_push]
          simp only [List.mem_cons, List.not_mem_nil, or_false, not_or]
          exact ⟨Nat.ne_of_lt (Nat.lt_succ_self _), Nat.ne_of_gt hlS⟩
        refine loop_keysQ ((Walks.list hh3 _ l nI items).toS) s.heap.objs.size nS ks hsz.symm (by rw [hsz]; exact hb) hv items.size 0 0 (fun _ => false) _ (Nat.zero_add _) (Nat.le_refl _)
          ⟨⟨_, Heap.get?_push_size _ rfl, rfl, rfl⟩, hl1.push _⟩ ?hA ?hB
        case hA =>
          have hg : ((s.heap.push (newSetQ w)).push { cls := .type "list_iterator", data := .fields #[.ref l, .int 0 0] }).get? s.heap.objs.size = some (newSetQ w) := Heap.get?_push_of_some _ hS
          refine ⟨_, #[], 0, _, [], hg, ⟨rfl, rfl, rfl⟩, rfl, (fun e he => by simp at he), ⟨⟨[], List.Perm.refl _, (fun p h => by cases h), rfl⟩, List.nodup_nil⟩, (fun k => by simp), (by decide), (by rfl), rfl, List.Pairwise.nil, ?_⟩
          show _ ∨ (!w.params.followText "set-order") = true
          cases w.params.followText "set-order" <;> simp
        case hB =>
          intro s' T' m' mv hT' le eq
          obtain ⟨h', g', d', tk', os'⟩ := s'
          have eg : g' = s.gens := mv.gens
          have ed : d' = s.drawn := mv.drawn
          have eo : os' = s.os := mv.os
          subst eg
          subst ed
          subst eo
          show wpAny _ _ _ _ _ _
          refine wpAny_pure ?_
          show wpAny _ _ (ret Value.none) _ _ _
          refine wpAny_pure ⟨rfl, h', tk', T', m', rfl, hT', by omega, fun k => by rw [eq k]; rfl, fun b o hb e => ?_⟩
          refine mv.heap b o ?_ (Heap.get?_push_of_some _ (Heap.get?_push_of_some _ e))
          simp only [List.mem_cons, List.not_mem_nil, or_false, not_or]
          exact ⟨Nat.ne_of_lt hb, by rw [Heap.size_push]; exact Nat.ne_of_lt (Nat.lt_succ_of_lt hb)⟩
      · cases r₂ with
        | error e => exact hr₂
        | ok fl₂ =>
          cases fl₂ with
          | ret r =>
            obtain ⟨rfl, hf⟩ := hr₂
            repeat (any_goals (first | assumption | wp_step))
            exact q _ hf
          | _ => exact hr₂.elim
    | _ => exact hr.elim
end
section
variable {X : Cx}
/-- set(a list of texts), to be gone through -/
def rSetTQ (K : PySem.W.Frag) (P : Program) (w : World) : List V → Hp → VK → Prop := fun xs H Q => ∃ (l : Addr) (zs : List Str), xs = [.ref l] ∧ SqL K H l (zs.map V.str) ∧ zs.length < 1000 ∧
  ∀ a n T, H a = none → n ≤ zs.length → (∀ k, T k = true ↔ ∃ z, k = Sum.inr z ∧ z ∈ zs) → Q (.ref a) (upd H a (SetQ P w a T n))
theorem cr_setTQ (K : PySem.W.Frag) (P : Program) (w : World) (hc : X.calm = true) (e : X.K = K := by rfl) (eP : X.prog = P := by rfl) (ew : X.w = w := by rfl) : CallR X (.type "set") (rSetTQ K P w) := by
  subst e
  subst eP
  subst ew
  intro pins s σ H xs us Q I r h
  obtain ⟨l, zs, rfl, hl, hf, q⟩ := h
  rw [Vals.ref1 r]
  obtain ⟨its, rv, pl, hz⟩ := I.list hl
  have rv : Vals ((zs.map Sum.inr).map kV) its := by
    rw [List.map_map]
    exact rv
  have hle : its.length = zs.length := by rw [← rv.length, List.length_map, List.length_map]
  have hn : H s.heap.objs.size = none := I.hok.fresh (Nat.le_refl _)
  refine call_set_keysQ (ks := zs.map Sum.inr) (I.ok.hd hc) pl.isList (by rw [List.size_toArray, hle, List.length_map]) (fun i v e => keys_vals rv i v (by simpa using e)) (by rw [List.length_map]; unfold scanBound; omega) fun s2 F => ?_
  obtain ⟨h', tk, T, m, rfl, hT, hm, eT, k⟩ := F
  rw [List.length_map] at hm
  refine ⟨.ref s.heap.objs.size, upd H s.heap.objs.size (SetQ X.prog X.w s.heap.objs.size T m), I.laid (t' := tk) (fun b o e => k b o (Heap.lt_size e) e) (Nat.le_refl _) (setQ_new hT), rfl, q _ m T hn hm fun z => ?_⟩
  rw [eT, List.any_eq_true]
  constructor
  · rintro ⟨x, hx, e⟩
    obtain ⟨z', hz', rfl⟩ := List.mem_map.mp hx
    exact ⟨z', of_decide_eq_true e, hz'⟩
  · rintro ⟨z', rfl, hz'⟩
    exact ⟨_, List.mem_map.mpr ⟨z', hz', rfl⟩, decide_eq_true rfl⟩
end
end Qk

/-! Qv: sorted(a set of texts), in, not in -/
namespace Qk
open PySem PySem.Spec PyProof.Rows L2
section
variable {P : Program} {w : World} {A : Around} {E : Value → Shared → Prop} {s : Shared} {a : Addr} {T : Key → Bool} {n : Nat} {Q : Value → Shared → Prop}
theorem strs_of : ∀ (l : List Value) (zs : List Str), l.length = zs.length → (∀ i (h : i < l.length) (h' : i < zs.length), ∃ tk, l[i] = .str zs[i] tk) → StrsAre l zs
  | [], [], _, _ => .nil
  | [], _ :: _, e, _ => by cases e
  | _ :: _, [], e, _ => by cases e
  | v :: l, z :: zs, e, h => by
    obtain ⟨tk, hv⟩ := h 0 (Nat.zero_lt_succ _) (Nat.zero_lt_succ _)
    have hv : v = .str z tk := hv
    subst hv
    exact .cons z tk (strs_of l zs (by simpa using e) fun i h1 h2 => h (i + 1) (Nat.succ_lt_succ h1) (Nat.succ_lt_succ h2))
/-- values whose keys are all texts -/
theorem strs_ex : ∀ (l : List Value), (∀ v ∈ l, ∃ z tk, v = .str z tk) → ∃ zs, StrsAre l zs
  | [], _ => ⟨[], .nil⟩
  | v :: l, h => by
    obtain ⟨z, tk, rfl⟩ := h v List.mem_cons_self
    obtain ⟨zs, hz⟩ := strs_ex l fun u hu => h u (List.mem_cons_of_mem _ hu)
    exact ⟨z :: zs, .cons z tk hz⟩
theorem strs_len {l : List Value} {zs : List Str} (h : StrsAre l zs) : zs.length = l.length := by
  induction h with
  | nil => rfl
  | cons y t r ih => simp [ih]
theorem is_text {z : Str} {v : Value} (h : (mixKind P w).is (Sum.inr z) v = true) : ∃ tk, v = .str z tk := by
  have h : keyIs (Sum.inr z) v = true := h
  have h : v.isStrOf z = true := h
  cases v <;> simp [Value.isStrOf] at h ⊢
  exact h
/-- the texts of values, found by their keys -/
theorem strs_keys : ∀ (l : List (Key × (Int × Value))), (∀ p ∈ l, (mixKind P w).is p.1 p.2.2 = true) → (∀ p ∈ l, ∃ z, p.1 = Sum.inr z) → ∃ zs, StrsAre (l.map (·.2.2)) zs ∧ l.map (·.1) = zs.map Sum.inr
  | [], _, _ => ⟨[], .nil, rfl⟩
  | p :: l, h1, h2 => by
    obtain ⟨z, ez⟩ := h2 p List.mem_cons_self
    have hi := h1 p List.mem_cons_self
    rw [ez] at hi
    obtain ⟨tk, ev⟩ := is_text hi
    obtain ⟨zs, hz, e⟩ := strs_keys l (fun q hq => h1 q (List.mem_cons_of_mem _ hq)) fun q hq => h2 q (List.mem_cons_of_mem _ hq)
    refine ⟨z :: zs, ?_, ?_⟩
    · rw [List.map_cons, ev]
      exact .cons z tk hz
    · rw [List.map_cons, ez, e]
      rfl
theorem StrsAre.perm {l l' : List Value} (pm : l.Perm l') : ∀ {zs : List Str}, StrsAre l zs → ∃ zs', StrsAre l' zs' ∧ zs.Perm zs' := by
  induction pm with
  | nil => intro zs h; exact ⟨zs, h, List.Perm.refl _⟩
  | cons x _ ih =>
    intro zs h
    cases h with
    | cons y t r =>
      obtain ⟨zs', h', p⟩ := ih r
      exact ⟨y :: zs', .cons y t h', p.cons y⟩
  | swap x y l =>
    intro zs h
    cases h with
    | cons a t r =>
      cases r with
      | cons b t' r => exact ⟨_, .cons b t' (.cons a t r), List.Perm.swap _ _ _⟩
  | trans _ _ ih1 ih2 =>
    intro zs h
    obtain ⟨z1, h1, p1⟩ := ih1 h
    obtain ⟨z2, h2, p2⟩ := ih2 h1
    exact ⟨z2, h2, p1.trans p2⟩
theorem sorted_setQ (R : KR P w s.heap a T n) (hh : A.handled = none) (hn : n < 64) (ht : ∀ k, T k = true → ∃ z, k = Sum.inr z)
    (q : ∀ (s' : Shared) (p : Nat) (out : Array Value) (c : Nat) (zs : List Str), (∀ (b : Addr) (o : Obj), s.heap.get? b = some o → s'.heap.get? b = some o) → s'.gens = s.gens → s'.os = s.os → s.heap.objs.size ≤ p →
      s'.heap.get? p = some (seqObj "list" out c) → StrsAre out.toList zs → sortedS zs = true → zs.Nodup → (∀ z, z ∈ zs ↔ T (Sum.inr z) = true) → zs.length = n → Q (.ref p) s') :
    wpAny (model P w) A (call (.builtin "sorted") [.ref a]) Q E s := by
  obtain ⟨o, es, ep, t, ks, ho, hx, hd, he, hk, hT, hsz, hf, hn', hr, hl⟩ := R
  obtain ⟨kes, pm, hi, ek⟩ := hk.ex
  refine Calls.call_function_entry kind_sorted plain_sorted entry_sorted (args_sorted1 _) ?_
  unfold Builtin.sorted
  refine wpAny_bind (wpAny_pure ?_)
  refine wpAny_bind (collect_set (by simpa using hh) ⟨o, ho, hx.1, hd⟩ hf hsz hr hl fun s1 out k1 z1 g1 o1 p1 => ?_)
  have hall : ∀ p ∈ kes, ∃ z, p.1 = Sum.inr z := fun p hp => ht _ ((hT _).mpr (by rw [← ek]; exact List.mem_map.mpr ⟨p, hp, rfl⟩))
  obtain ⟨zs, hz, ez⟩ := strs_keys kes hi hall
  have pv : (kes.map (·.2.2)).Perm out := by
    have := pm.map (·.2)
    rw [List.map_map] at this
    exact this.trans p1.symm
  obtain ⟨zs', hz', pz⟩ := StrsAre.perm pv hz
  have lo : out.length = n := by rw [p1.length_eq, List.length_map, Array.length_toList, hn']
  refine wpAny_bind (wpAny_newList ?_ (by rw [lo, sizeLine_eq]; omega))
  refine wpAny_bind (wpAny_holding ?_)
  have hp : (s1.heap.push { cls := Value.type "list", data := Data.seq out.toArray }).get? s1.heap.objs.size = some (seqObj "list" out.toArray 0) := Heap.get?_push_size _ rfl
  refine wpAny_call_entry slot_list_sort ⟨_, hp, rfl⟩ entry_list_sort ?_ (args_list_sort _)
  refine list_sort_treeK strKind_oneLt hp hz'.keysOf (fun v1 v2 rest e => by subst e; exact keyKind_strs hz') (by omega) fun st' pa so => ?_
  obtain ⟨ss, h1, h2, h3⟩ := sorted_out_str hz' pa so
  refine ⟨.none, rfl, ?_⟩
  refine wpAny_pure ⟨_, rfl, ?_⟩
  obtain ⟨c, hc⟩ := sortedHeap_at (out := Array.map (fun x => x.snd) (arrOf st')) hp
  have nds : ss.Nodup := by
    have nz : zs.Nodup := by
      have := hk.nd
      rw [← ek, ez] at this
      exact (List.pairwise_map.mp this).imp fun h e => h (by rw [e])
    exact (h2.trans pz.symm).nodup_iff.mpr nz
  refine q _ s1.heap.objs.size _ c ss (fun b u e => ?_) g1 o1 z1 hc h1 h3 nds (fun z => ?_) ?_
  · have e1 := k1 b u e
    have l1 := Heap.lt_size e1
    have e2 := sortedHeap_old (h := s1.heap.push { cls := Value.type "list", data := Data.seq out.toArray }) (vs := out) (out := Array.map (fun x => x.snd) (arrOf st')) (Nat.ne_of_lt l1) (by rw [size_push']; exact Nat.lt_succ_of_lt l1)
    exact e2.trans (Heap.get?_push_of_some _ e1)
  · rw [h2.mem_iff, ← pz.mem_iff, hT, ← ek, ez, List.mem_map]
    constructor
    · intro h
      exact ⟨z, h, rfl⟩
    · rintro ⟨z', h, e⟩
      injection e with e
      rw [← e]
      exact h
  · rw [h2.length_eq, strs_len hz', lo]
end
/-! ### the rules -/
def rSortQ (P : Program) (w : World) : List V → Hp → VK → Prop := fun xs H Q => ∃ (a : Addr) (T : Key → Bool) (n : Nat), xs = [.ref a] ∧ H a = some (SetQ P w a T n) ∧ n < 64 ∧ (∀ k, T k = true → ∃ z, k = Sum.inr z) ∧
  ∀ (zs : List Str) (p : Addr), sortedS zs = true → zs.Nodup → (∀ z, z ∈ zs ↔ T (Sum.inr z) = true) → zs.length = n → H p = none → Q (.ref p) (upd H p (.lst (zs.map V.str)))
section
variable {X : Cx}
theorem cr_sortQ (P : Program) (w : World) (hc : X.calm = true) (eP : X.prog = P := by rfl) (ew : X.w = w := by rfl) : CallR X (.builtin "sorted") (rSortQ P w) := by
  subst eP
  subst ew
  intro pins s σ H xs us Q I r h
  obtain ⟨a, T, n, rfl, ha, hn, ht, q⟩ := h
  rw [Vals.ref1 r]
  refine sorted_setQ (setQ_get I ha) (I.ok.hd hc) hn ht fun s' p out c zs k g o hp hg hi hs nd hm hl => ?_
  have hl' : (zs.map V.str).length ≤ sizeLine := by rw [List.length_map, hl, sizeLine_eq]; omega
  have hn : H p = none := I.hok.fresh hp
  obtain ⟨heap, gens, drawn, toks, os⟩ := s'
  have g : gens = s.gens := g
  have o : os = s.os := o
  subst g
  subst o
  have hob : ObjOk X.prog X.w (upd H p (.lst (zs.map V.str))) heap p (.lst (zs.map V.str)) := ⟨hl', out.toList, c, vals_of_strs hi, hg⟩
  have J := I.call (ch := []) (d' := drawn) (t' := toks) (g' := s.gens) (Un.laid k hp hn) (HOk.laid I.hok k hp hob) I.bare (fun x z => (by cases z))
  exact ⟨.ref p, upd H p (.lst (zs.map V.str)), J, rfl, q zs p hs nd hm hl hn⟩
def rInQ (P : Program) (w : World) (neg : Bool) : R2 := fun x y H Q => ∃ (k : Key) (a : Addr) (T : Key → Bool) (n : Nat), x = kV k ∧ y = .ref a ∧ H a = some (SetQ P w a T n) ∧ Q (.bl (if neg = true then !T k else T k)) H
theorem or_inQ : OpR X (compareOp .In) (rInQ X.prog X.w false) := by
  intro pins s σ H x y v u Q I rx ry h
  obtain ⟨k, a, T, n, rfl, rfl, ha, q⟩ := h
  have eu : u = .ref a := ry
  subst eu
  refine wpAny_inSet_of (knd := mixKind X.prog X.w) (kV_is rx) (key_scan rx) (setQ_get I ha).setOf ?_
  exact ⟨.bl (T k), H, I.tok _, rfl, q⟩
theorem or_notinQ : OpR X (compareOp .NotIn) (rInQ X.prog X.w true) := by
  intro pins s σ H x y v u Q I rx ry h
  obtain ⟨k, a, T, n, rfl, rfl, ha, q⟩ := h
  have eu : u = .ref a := ry
  subst eu
  refine wpAny_notInSet_of (knd := mixKind X.prog X.w) (kV_is rx) (key_scan rx) (setQ_get I ha).setOf ?_
  exact ⟨.bl (!T k), H, I.tok _, rfl, q⟩
end
/-! ### in, not in: lists, texts, sets of both kinds -/
def rInN (K : PySem.W.Frag) (P : Program) (w : World) : R2 := fun x y H Q => rInM K P w x y H Q ∨ rInQ P w false x y H Q
def rNotInN (K : PySem.W.Frag) (P : Program) (w : World) : R2 := fun x y H Q => rNotInM K P w x y H Q ∨ rInQ P w true x y H Q
def rSortN (K : PySem.W.Frag) (P : Program) (w : World) : List V → Hp → VK → Prop := fun xs H Q => rSortA K xs H Q ∨ rSortQ P w xs H Q
section
variable {X : Cx}
theorem op_inN (K : PySem.W.Frag) (P : Program) (w : World) (hu : X.A.units + 64 < cLine) (hu' : X.A.units + 65 < cLine) (e : X.K = K := by rfl) (eP : X.prog = P := by rfl) (ew : X.w = w := by rfl) : OpR X (compareOp .In) (rInN K P w) := by
  subst e
  subst eP
  subst ew
  intro pins s σ H x y v u Q I rx ry h
  rcases h with h | h
  · exact op_inM _ _ _ hu hu' rfl rfl rfl pins s σ H x y v u Q I rx ry h
  · exact or_inQ pins s σ H x y v u Q I rx ry h
theorem op_notinN (K : PySem.W.Frag) (P : Program) (w : World) (hu : X.A.units + 64 < cLine) (hu' : X.A.units + 65 < cLine) (e : X.K = K := by rfl) (eP : X.prog = P := by rfl) (ew : X.w = w := by rfl) : OpR X (compareOp .NotIn) (rNotInN K P w) := by
  subst e
  subst eP
  subst ew
  intro pins s σ H x y v u Q I rx ry h
  rcases h with h | h
  · exact op_notinM _ _ _ hu hu' rfl rfl rfl pins s σ H x y v u Q I rx ry h
  · exact or_notinQ pins s σ H x y v u Q I rx ry h
theorem cr_sortN (K : PySem.W.Frag) (P : Program) (w : World) (hc : X.calm = true) (c : CallR X (.builtin "sorted") (rSortA K)) (eP : X.prog = P := by rfl) (ew : X.w = w := by rfl) : CallR X (.builtin "sorted") (rSortN K P w) := by
  intro pins s σ H xs us Q I r h
  rcases h with h | h
  · exact c pins s σ H xs us Q I r h
  · exact cr_sortQ P w hc eP ew pins s σ H xs us Q I r h
end
section
variable {K : PySem.W.Frag} {P : Program} {w : World} {F : Hp} {O O' : Own} {H : Hp} {Q : VK} {x y v : V}
theorem g_inNM (q : rInM K P w x y H Q) : rInN K P w x y H Q := .inl q
theorem g_notinNM (q : rNotInM K P w x y H Q) : rNotInN K P w x y H Q := .inl q
theorem g_inNQ {a : Addr} {T : Key → Bool} {n : Nat} {k : Key} (ek : x = kV k) (h : H a = some (SetQ P w a T n)) (q : Q (.bl (T k)) H) : rInN K P w x (.ref a) H Q := .inr ⟨k, a, T, n, ek, rfl, h, q⟩
theorem g_notinNQ {a : Addr} {T : Key → Bool} {n : Nat} {k : Key} (ek : x = kV k) (h : H a = some (SetQ P w a T n)) (q : Q (.bl (!T k)) H) : rNotInN K P w x (.ref a) H Q := .inr ⟨k, a, T, n, ek, rfl, h, q⟩
theorem g_sortNA {xs : List V} (q : rSortA K xs H Q) : rSortN K P w xs H Q := .inl q
theorem g_sortNQ {a : Addr} {T : Key → Bool} {n : Nat} (h : H a = some (SetQ P w a T n)) (hn : n < 64) (ht : ∀ k, T k = true → ∃ z, k = Sum.inr z) (hH : Has F O H)
    (q : ∀ (zs : List Str) p H', sortedS zs = true → zs.Nodup → (∀ z, z ∈ zs ↔ T (Sum.inr z) = true) → zs.length = n → H p = none → Has F ((p, .lst (zs.map V.str)) :: O) H' → Q (.ref p) H') : rSortN K P w [.ref a] H Q :=
  .inr ⟨a, T, n, rfl, h, hn, ht, fun zs p s nd m l np => q zs p _ s nd m l np (hH.new np)⟩
theorem g_setOfQ {a : Addr} {zs : List Str} (h : H a = some (.lst (zs.map V.str))) (hl : zs.length < 1000) (hH : Has F O H) (q : ∀ p n T H', H p = none → n ≤ zs.length → (∀ k, T k = true ↔ ∃ z, k = Sum.inr z ∧ z ∈ zs) → Has F ((p, SetQ P w p T n) :: O) H' → Q (.ref p) H') : rSetTQ K P w [.ref a] H Q :=
  ⟨a, zs, rfl, SqL.of h, hl, fun p n T np le eT => q p n T _ np le eT (hH.new np)⟩
end
/-! ### min of two numbers -/
def rMin2 : List V → Hp → VK → Prop := fun xs H Q => ∃ i j, xs = [.int i, .int j] ∧ Q (.int (if j < i then j else i)) H
theorem cr_min2 {X : Cx} (hc : X.calm = true) : CallR X (.builtin "min") rMin2 := call_min2 hc
theorem g_min2 {i j : Int} {H : Hp} {Q : VK} (q : Q (.int (min i j)) H) : rMin2 [.int i, .int j] H Q := ⟨i, j, rfl, by
  have e : (if j < i then j else i) = min i j := by split <;> omega
  rw [e]
  exact q⟩
/-! ### any, all of a list of truth values -/
theorem cr_anyK {X : Cx} (K : PySem.W.Frag) (hc : X.calm = true) (e : X.K = K := by rfl) : CallR X (.builtin "any") (rAny K) := by subst e; exact cr_any hc
theorem cr_allK {X : Cx} (K : PySem.W.Frag) (hc : X.calm = true) (e : X.K = K := by rfl) : CallR X (.builtin "all") (rAll K) := by subst e; exact cr_all hc
theorem g_any {K : PySem.W.Frag} {a : Addr} {bs : List Bool} {H : Hp} {Q : VK} (h : H a = some (.lst (bs.map V.bl))) (q : Q (.bl (bs.any id)) H) : rAny K [.ref a] H Q := ⟨a, bs, rfl, SqL.of h, q⟩
theorem g_all {K : PySem.W.Frag} {a : Addr} {bs : List Bool} {H : Hp} {Q : VK} (h : H a = some (.lst (bs.map V.bl))) (q : Q (.bl (bs.all id)) H) : rAll K [.ref a] H Q := ⟨a, bs, rfl, SqL.of h, q⟩
end Qk

/-! Qtt: loops and comprehensions over a tuple -/
namespace Qk
open PySem PySem.Spec PyProof.Rows L2
theorem k_it {X : Cx} {tg l : Expr} {tl : TE} (K : PySem.W.Frag) (h : PI X tg l (iTup X.K tl)) (e : X.K = K := by rfl) : PI X tg l (iTup K tl) := by subst e; exact h
def kLcT (K : PySem.W.Frag) (g : TG) (tt : TT) (te : TE) (vs : List Nat) (σ : L2.St) (x : V) (H : Hp) (Q : VK) : Prop := ∃ a, x = .ref a ∧ (∃ xs, SqT K H a xs) ∧ kLc (Itt K a) g tt te vs σ H Q
def kForT (K : PySem.W.Frag) (g : TG) (tb : TS) (D : Ends) (σ : L2.St) (x : V) (H : Hp) : Prop := ∃ a, x = .ref a ∧ (∃ xs, SqT K H a xs) ∧ kW (Itt K a) g tb D σ H
section
variable {K : PySem.W.Frag} {σ : L2.St} {F : Hp} {O O' : Own} {H : Hp} {Q : VK} {ta te : TE} {D : Ends} {ts : TS} {g : TG}
theorem g_lcT {tt : TT} {vs : List Nat} (q : ta σ H fun x H1 => kLcT K g tt te vs σ x H1 Q) : tLc (iTup K ta) g tt te vs σ H Q := q
theorem g_forT (q : te σ H fun x H1 => kForT K g ts D σ x H1) : tFor (iTup K te) g ts D σ H := q
/-- over a tuple that stands still -/
theorem k_lcT {a : Addr} {xs : List V} {tt : TT} {vs : List Nat} (h : H a = some (.tup xs)) (hH : Has F O H) (S : Nat → List V → Hp → Own → Prop) (h0 : S 0 [] F O) (hl : ∀ i acc F O H, S i acc F O → Has F O H → H a = some (.tup xs))
    (hs : ∀ i x acc F O D H, xs[i]? = some x → S i acc F O → Has F ((D, .lst acc) :: O) H → g x (wipe σ vs) H fun σ2 H2 => wipe σ2 vs = wipe σ vs ∧ tt σ2 H2 fun b H3 => if b = true then te σ2 H3 fun y H4 => kTurn D (kNx S i D) y H4 else kNx S i D H3)
    (hd : ∀ acc F O D H, S xs.length acc F O → Has F ((D, .lst acc) :: O) H → Q (.ref D) H) : kLcT K g tt te vs σ (.ref a) H Q := by
  refine ⟨a, rfl, ⟨xs, SqT.of h⟩, k_lc hH xs.length S h0 (fun i acc F O D H hi s hh => ?_) (fun acc F O D H s hh => ?_) (fun i x acc F O D H H' hi y s hh => ?_) hd⟩
  · exact ⟨xs, xs[i], SqT.of (hl i acc F O H s hh.drop), List.getElem?_eq_getElem hi⟩
  · exact ⟨xs, SqT.of (hl _ acc F O H s hh.drop), Nat.le_refl _⟩
  · obtain ⟨e, y⟩ := y
    subst e
    exact hs i x acc F O D _ (y xs (SqT.of (hl i acc F O _ s hh.drop))) s hh
theorem k_forT {a : Addr} {xs : List V} (h : H a = some (.tup xs)) (Pv : Nat → L2.St → Hp → Prop) (h0 : Pv 0 σ H) (hl : ∀ i σ H, i ≤ xs.length → Pv i σ H → H a = some (.tup xs))
    (hs : ∀ i x σ H, xs[i]? = some x → Pv i σ H → g x σ H fun σ2 H2 => ts { D with nx := Pv (i + 1), ct := Pv (i + 1), bk := D.nx } σ2 H2) (hd : ∀ σ H, Pv xs.length σ H → D.nx σ H) : kForT K g ts D σ (.ref a) H := by
  refine ⟨a, rfl, ⟨xs, SqT.of h⟩, fun i m σ H => m = xs.length - i ∧ i ≤ xs.length ∧ Pv i σ H, ⟨_, rfl, Nat.zero_le _, h0⟩, ?_⟩
  rintro i m σ H1 ⟨rfl, hi, p⟩
  have hq : SqT K H1 a xs := SqT.of (hl i σ H1 hi p)
  by_cases hlt : i < xs.length
  · refine .inr ⟨⟨xs, xs[i], hq, List.getElem?_eq_getElem hlt⟩, Pv (i + 1), fun σ' H' p' => ⟨xs.length - (i + 1), by omega, rfl, hlt, p'⟩, ?_⟩
    rintro x H' ⟨rfl, y⟩
    exact hs i x σ _ (y xs hq) p
  · have e : i = xs.length := by omega
    subst e
    exact .inl ⟨⟨xs, hq, Nat.le_refl _⟩, hd σ H1 p⟩
end
end Qk

/-! Qw: try with several clauses «except c as n», one name in all -/
namespace Qk
open PySem PySem.Spec PyProof.Rows L2
abbrev Cls3 := Addr → Value → Option Addr → TS
/-- the wish of the clauses, the first that fits takes it -/
def wAsM (K : PySem.W.Frag) (i : Nat) (Wout : WX) (D : Ends) : List (Value × Cls3) → WX
  | [] => Wout
  | p :: r => wAs K p.1 i p.2 (wAsM K i Wout D r) D
inductive Clauses (X : Cx) (n : Str) : List ExceptHandler → List (Value × Cls3) → Prop
  | nil : Clauses X n [] []
  | cons {x : Str} {c : Value} {ts : Cls3} {b : Stmt} {su : List Stmt} {q1 q2 : Pos} {hs : List ExceptHandler} {l : List (Value × Cls3)} (nm : Names X x c)
      (sp : ∀ (a : Addr) (o : Obj) (cls : Value) (d : Option Addr) (pn : List (Addr × Obj)), L2N.Zn cls d o → (∃ vs, o.data = .fields vs) → PSs (X.suite a ((a, o) :: pn)) (b :: su) (ts a cls d)) (rest : Clauses X n hs l) :
      Clauses X n (.ExceptHandler (some (.Name x q1)) (some n) (b :: su) q2 :: hs) ((c, ts) :: l)
set_option maxHeartbeats 4000000 in
theorem ps_tryM {X : Cx} {n : Str} {i : Nat} {body : List Stmt} {h0 : ExceptHandler} {hds : List ExceptHandler} {l : List (Value × Cls3)} {pos : Pos} {tb : WX → TS} {Wout : WX}
    (st : X.stack = X.env :: X.outer) (fr : X.env.frame = some X.env.locals) (nd : X.N.Nodup) (ni : X.N[i]? = some n) (lo : X.env.kindOf n = some .local) (tk : L2N.Takes X Wout)
    (hb : ∀ (W : WX) (pn : List (Addr × Obj)) (xe : Value → Shared → Prop), L2N.Takes (X.tr pn xe) W → PassesOwn (model X.prog X.w) X.A X.env xe → PSs (X.tr pn xe) body (tb W))
    (cs : Clauses X n (h0 :: hds) l) : PS X (.Try body (h0 :: hds) [] [] pos) (fun D σ H => tb (wAsM X.K i Wout D l) D σ H) := by
  refine ⟨fun pins s σ H D I want => ?_⟩
  have I0 := I.ok
  have frs0 : X.A.frames = some (X.env :: X.outer) := by rw [I0.frames, st]
  refine wpAny_Try_except ?_
  let caught : Value → Shared → Prop := fun e s1 => wpAny (model X.prog X.w) X.A (noteFrame e X.env) (fun _ s2 => wpAny (model X.prog X.w) X.A (setFlight e none) (fun _ s3 => wpAny (model X.prog X.w) X.A (handleBy e X.env (h0 :: hds)) (SP X pins D) X.xe s3) X.xe s2) X.xe s1
  have take : L2N.Takes (X.tr (X.pn ++ pins) caught) (wAsM X.K i Wout D l) := fun u s' xx => by
    obtain ⟨a, B, sI, pins', σ1, H1, cls, d, rfl, J', nb, up, sky, na, os, ag, w⟩ := xx
    have J : Inv X pins σ1 H1 sI := J'.ofTry I0
    have sk : Sky B (X.env :: X.outer) a (L2N.Zn cls d) X.env.locals s'.heap := by rw [← st]; exact sky
    show wpAny (model X.prog X.w) X.A (noteFrame (.ref a) X.env) _ _ _
    refine L2N.Sky.land L2N.Zn.steady frs0 fr sk fun h3 f3 u3 => ?_
    have J3 : Inv X pins σ1 H1 { s' with heap := h3 } := J.landed nb f3.1 (up.trans u3) os ag
    obtain ⟨o3, vs3, at3, z3, d3⟩ := f3.there
    have noFrame : a ∉ frs (X.env :: X.outer) := fun m => by
      obtain ⟨_, o', e', bad⟩ := f3.2.2.1.mem m
      rw [at3] at e'
      cases e'
      exact bad _ d3
    have nL : a ≠ X.env.locals := fun z => noFrame (List.mem_filterMap.mpr ⟨X.env, List.mem_cons_self, by rw [fr, z]⟩)
    have nF : a ∉ X.fs := fun m => by
      obtain ⟨e, he, q⟩ := List.mem_filterMap.mp m
      exact noFrame (List.mem_filterMap.mpr ⟨e, List.mem_cons_of_mem _ he, q⟩)
    have S3 := J3.suite at3 d3 na nL nF
    have step : ∀ {hs : List ExceptHandler} {l' : List (Value × Cls3)}, Clauses X n hs l' → wAsM X.K i Wout D l' cls d σ1 H1 → wpAny (model X.prog X.w) X.A (handleBy (.ref a) X.env hs) (SP X pins D) X.xe { s' with heap := h3 } := by
      intro hs l' c
      induction c with
      | nil =>
        intro w0
        refine wpAny_handleBy_nil ?_
        obtain ⟨_, _, _, oe, vs, T, _, _, he, _, hd, h1, _⟩ := id f3
        unfold PySem.passOn
        refine wpAny_bind (wpAny_field he hd h1 ?_)
        have nn : ¬ (Value.ref T == Value.none) = true := by simp
        rw [if_neg nn]
        have off : wpAny (model X.prog X.w) X.A (setFlight (.ref a) X.env.frame) (fun _ s4 => wpAny (model X.prog X.w) X.A (throw (.ref a) : Sem Flow) (SP X pins D) X.xe s4) X.xe { s' with heap := h3 } := by
          rw [fr]
          refine HandSPX.setFlight_upZ f3 fun h4 g4 u4 => wpAny_throw (tk _ _ ?_)
          exact ⟨a, B, sI, pins, σ1, H1, cls, d, rfl, J, nb, (up.trans u3).trans u4, .inr (.inr (by rw [st]; exact g4)), na, os, ag, w0⟩
        first
          | exact wpAny_bind (wpAny_pure (wpAny_bind off))
          | exact wpAny_bind off
      | @cons x c ts b su q1 q2 hs2 l2 nm sp rest ih =>
        intro w0
        obtain ⟨yes, fits, inS, goOn⟩ := w0
        refine wpAny_handleBy_cons (codeAny_handlers_test ?_) (by intro q; cases q)
        have ty : PySem.W.Looks (model X.prog X.w) h3 (typeOf (.ref a)) cls := fun _ _ _ _ k q => wpAny_typeOf_ref (k _ _ at3) (by rw [z3.1]; exact q)
        have look := PySem.W.exm_one (M := model X.prog X.w) J3.kIn ty fits
        have named : ∀ {Q : Value → Shared → Prop} {E : Value → Shared → Prop}, Q c { s' with heap := h3 } → wpAny (model X.prog X.w) (X.A.mark (some (.ref a))) (eval (.Name x q1) X.env) Q E { s' with heap := h3 } := fun {Q E} q => by
          obtain ⟨g1, g2, g3 | ⟨g3, g4, g5⟩⟩ := nm
          · exact ld_glob (X := X.suite a ((a, o3) :: (X.pn ++ pins))) S3 g1 g3 q g2
          · exact ld_blt (X := X.suite a ((a, o3) :: (X.pn ++ pins))) S3 g1 g3 g4 q g5 g2
        refine named (look.here ?_)
        cases yes with
        | false =>
          show wpAny _ X.A (handleBy (.ref a) X.env hs2) _ _ _
          exact ih (goOn rfl)
        | true =>
          refine codeAny_handlers_suite_as ?_
          refine HandSPX.lands_againZ f3 fun h4 f4 u4 => ?_
          have J4 : Inv X pins σ1 H1 { s' with heap := h4 } := J.landed nb f4.1 ((up.trans u3).trans u4) os ag
          obtain ⟨o4, vs4, at4, z4, d4⟩ := f4.there
          have S4 := J4.suite at4 d4 na nL nF
          refine store_ok (X := X.suite a ((a, o4) :: (X.pn ++ pins))) (v := .ref a) S4 nd ni (.inl lo) rfl (fun s5 S5 => ?_) (.inr lo)
          refine wpAny_mono ((sp a o4 cls d (X.pn ++ pins) z4 ⟨_, d4⟩).run [] s5 _ H1 _ S5 (inS rfl a na)) (fun f s6 got => ?_) (fun _ _ z => z.elim)
          have done : ∀ {σ6 : L2.St} {H6 : Hp} {Q : Shared → Prop}, Inv (X.suite a ((a, o4) :: (X.pn ++ pins))) [] σ6 H6 s6 → (∀ s7, Inv X pins (σ6.set i none) H6 s7 → Q s7) → wpAny (model X.prog X.w) X.A (do bindName X.env n .none; unbindBehindTheSuite X.env n q2) (fun _ s7 => Q s7) X.xe s6 :=
            fun S6 hq => gone_ok (S6.unsuite I0) nd ni lo hq
          match f, got with
          | .next, ⟨_, _, S6, q6⟩ => exact done S6 fun s7 J7 => ⟨_, _, J7, q6⟩
          | .brk, ⟨_, _, S6, q6⟩ => exact done S6 fun s7 J7 => ⟨_, _, J7, q6⟩
          | .cont, ⟨_, _, S6, q6⟩ => exact done S6 fun s7 J7 => ⟨_, _, J7, q6⟩
          | .ret _, ⟨_, _, _, S6, r6, q6⟩ => exact done S6 fun s7 J7 => ⟨_, _, _, J7, r6, q6⟩
    exact step cs w
  refine wpAny_mono ((hb (wAsM X.K i Wout D l) (X.pn ++ pins) caught take PassesOwn.looking).run [] s σ H D (I.toTry _) want) (fun f s1 got => ?_) (fun e s1 he => he)
  match f, got with
  | .next, ⟨_, _, J', q⟩ => exact wpAny_execs_nil ⟨_, _, J'.ofTry I0, q⟩
  | .brk, ⟨_, _, J', q⟩ => exact ⟨_, _, J'.ofTry I0, q⟩
  | .cont, ⟨_, _, J', q⟩ => exact ⟨_, _, J'.ofTry I0, q⟩
  | .ret _, ⟨_, _, _, J', r, q⟩ => exact ⟨_, _, _, J'.ofTry I0, r, q⟩
def tTryM (K : PySem.W.Frag) (i : Nat) (tb : WX → TS) (l : List (Value × Cls3)) (Wout : WX) : TS := fun D σ H => tb (wAsM K i Wout D l) D σ H
theorem k_tryM {X : Cx} {n : Str} {i : Nat} {body : List Stmt} {h0 : ExceptHandler} {hds : List ExceptHandler} {l : List (Value × Cls3)} {pos : Pos} {tb : WX → TS} {Wout : WX} (K : PySem.W.Frag)
    (st : X.stack = X.env :: X.outer) (fr : X.env.frame = some X.env.locals) (nd : X.N.Nodup) (ni : X.N[i]? = some n) (lo : X.env.kindOf n = some .local) (tk : L2N.Takes X Wout)
    (hb : ∀ (W : WX) (pn : List (Addr × Obj)) (xe : Value → Shared → Prop), L2N.Takes (X.tr pn xe) W → PassesOwn (model X.prog X.w) X.A X.env xe → PSs (X.tr pn xe) body (tb W))
    (cs : Clauses X n (h0 :: hds) l) (e : X.K = K := by rfl) : PS X (.Try body (h0 :: hds) [] [] pos) (tTryM K i tb l Wout) := by
  subst e
  exact ps_tryM st fr nd ni lo tk hb cs
theorem g_tryM {K : PySem.W.Frag} {i : Nat} {tb : WX → TS} {l : List (Value × Cls3)} {Wout : WX} {D : Ends} {σ : L2.St} {H : Hp} (q : tb (wAsM K i Wout D l) D σ H) : tTryM K i tb l Wout D σ H := q
theorem g_caughtM {K : PySem.W.Frag} {c cls : Value} {i : Nat} {ts : Cls3} {r : List (Value × Cls3)} {Wout : WX} {D : Ends} {d : Option Addr} {σ : L2.St} {H : Hp} (m : PySem.W.exmOne K cls c = some true)
    (q : ∀ a, H a = none → ts a cls d { nx := fun σ' H' => D.nx (σ'.set i none) H', rt := D.rt, bk := fun σ' H' => D.bk (σ'.set i none) H', ct := fun σ' H' => D.ct (σ'.set i none) H' } (σ.set i (some (.ref a))) H) : wAsM K i Wout D ((c, ts) :: r) cls d σ H :=
  g_caught m q
theorem g_passM {K : PySem.W.Frag} {c cls : Value} {i : Nat} {ts : Cls3} {r : List (Value × Cls3)} {Wout : WX} {D : Ends} {d : Option Addr} {σ : L2.St} {H : Hp} (m : PySem.W.exmOne K cls c = some false) (q : wAsM K i Wout D r cls d σ H) : wAsM K i Wout D ((c, ts) :: r) cls d σ H :=
  ⟨false, m, (fun z => by cases z), fun _ => q⟩
end Qk

/-! Qz: loops over the keys of a dict (locked meanwhile), len of a dict, texts in order, reverse -/
namespace Qk
open PySem PySem.Spec PyProof.Rows L2
def kForK (d : Addr) (od : Obj) (kvs : List (Key × V)) (g : TG) (tb : TS) (D : Ends) (σ : L2.St) (H : Hp) : Prop := kW (Itk d od kvs) g tb D σ H
/-- the ends of a statement under a lock -/
def lockD (d : Addr) (od : Obj) (u : HO) (D : Ends) : Ends := ⟨fun σ' H' => H' d = some (.frz od u) ∧ D.nx σ' (upd H' d u), fun v H' => H' d = some (.frz od u) ∧ D.rt v (upd H' d u), fun σ' H' => H' d = some (.frz od u) ∧ D.bk σ' (upd H' d u), fun σ' H' => H' d = some (.frz od u) ∧ D.ct σ' (upd H' d u)⟩
def kForKx (g : TG) (tb : TS) (D : Ends) (σ : L2.St) (x : V) (H1 : Hp) : Prop := ∃ d o, x = .ref d ∧ ((∃ kvs, H1 d = some (.frz o (.dK kvs)) ∧ kForK d o kvs g tb D σ H1) ∨ ∃ kvs, H1 d = some (.frz o (.dT kvs)) ∧ kW (Itkt d o kvs) g tb D σ H1)
section
variable {K : PySem.W.Frag} {σ : L2.St} {F : Hp} {O O' : Own} {H : Hp} {Q : VK} {te : TE} {x y v : V} {D : Ends} {ts : TS} {g : TG} {d : Addr} {od : Obj} {kvs : List (Key × V)}
theorem g_forK (q : te σ H fun x H1 => kForKx g ts D σ x H1) : tFor (iKeys te) g ts D σ H := q
theorem g_kforKx (h : H d = some (.frz od (.dK kvs))) (q : kForK d od kvs g ts D σ H) : kForKx g ts D σ (.ref d) H := ⟨d, od, rfl, .inl ⟨kvs, h, q⟩⟩
theorem g_lockK {i : Nat} (hv : σ[i]? = some (some (.ref d))) (h : H d = some (.dK kvs)) (q : ∀ od, kForK d od kvs g ts (lockD d od (.dK kvs) D) σ (upd H d (.frz od (.dK kvs)))) : tLock (tFor (iKeys (tVar i)) g ts) D σ H :=
  ⟨d, .dK kvs, h, trivial, fun od => ⟨.ref d, hv, d, od, rfl, .inl ⟨kvs, upd_same, q od⟩⟩⟩
theorem k_forK (Pv : Nat → L2.St → Hp → Prop) (h0 : Pv 0 σ H) (hl : ∀ i σ H, Pv i σ H → H d = some (.frz od (.dK kvs)))
    (hs : ∀ i k v σ H, kvs[i]? = some (k, v) → Pv i σ H → g (kV k) σ H fun σ2 H2 => ts { D with nx := Pv (i + 1), ct := Pv (i + 1), bk := D.nx } σ2 H2) (hd : ∀ σ H, Pv kvs.length σ H → D.nx σ H) : kForK d od kvs g ts D σ H := by
  refine ⟨fun i m σ H => m = kvs.length - i ∧ i ≤ kvs.length ∧ Pv i σ H, ⟨_, rfl, Nat.zero_le _, h0⟩, ?_⟩
  rintro i m σ H1 ⟨rfl, hi, p⟩
  have hq := hl i σ H1 p
  by_cases hlt : i < kvs.length
  · refine .inr ⟨⟨hq, hlt⟩, Pv (i + 1), fun σ' H' p' => ⟨kvs.length - (i + 1), by omega, rfl, hlt, p'⟩, ?_⟩
    rintro x H' ⟨rfl, k, v, e, rfl⟩
    exact hs i k v σ _ e p
  · have e : i = kvs.length := by omega
    subst e
    exact .inl ⟨⟨hq, Nat.le_refl _⟩, hd σ H1 p⟩
end
/-! ### a locked thing -/
section
variable {F H H' : Hp} {O : Own} {d a : Addr} {od : Obj} {u o : HO} {kvs : List (Key × V)}
theorem Has.lock (h : Has F O H) (e : F d = some u) : Has (upd F d (.frz od u)) O (upd H d (.frz od u)) := by
  refine ⟨fun b v q => ?_, fun p hp => ?_, h.nd⟩
  · by_cases c : b = d
    · subst c
      rw [upd_same] at q ⊢
      exact q
    · rw [upd_ne c] at q ⊢
      exact h.same b v q
  · have f := h.own p hp
    have ne : p.1 ≠ d := fun z => by
      rw [z, e] at f
      cases f.1
    rw [upd_ne ne, upd_ne ne]
    exact f
theorem lock_at (e : H d = some u) (h : H a = some o) (ne : o ≠ u) : upd H d (.frz od u) a = some o := by
  rw [upd_ne (fun z => ?_)]
  · exact h
  · subst z
    rw [e] at h
    exact ne (Option.some.inj h).symm
theorem unlock_at (e : H' d = some (.frz od u)) (h : H' a = some o) (ne : o ≠ .frz od u) : upd H' d u a = some o := by
  rw [upd_ne (fun z => ?_)]
  · exact h
  · subst z
    rw [e] at h
    exact ne (Option.some.inj h).symm
theorem unlock_same (e : H d = some u) (s : Same (upd H d (.frz od u)) H') : Same H (upd H' d u) := fun b v q => by
  by_cases c : b = d
  · subst c
    rw [upd_same]
    rw [e] at q
    exact q
  · rw [upd_ne c]
    exact s b v (by rw [upd_ne c]; exact q)
theorem Has.unlock (h : Has F O H) (e : F d = some (.frz od u)) : Has (upd F d u) O (upd H d u) := by
  refine ⟨fun b v q => ?_, fun p hp => ?_, h.nd⟩
  · by_cases c : b = d
    · subst c
      rw [upd_same] at q ⊢
      exact q
    · rw [upd_ne c] at q ⊢
      exact h.same b v q
  · have f := h.own p hp
    have ne : p.1 ≠ d := fun z => by
      rw [z, e] at f
      cases f.1
    rw [upd_ne ne, upd_ne ne]
    exact f
end
mutual
theorem Dq.upL {H H' : Hp} (e1 : ∀ a xs, H a = some (.lst xs) → H' a = some (.lst xs)) (e2 : ∀ a xs, H a = some (.tup xs) → H' a = some (.tup xs)) : ∀ (d : PyData) (v : V), Dq H v d → Dq H' v d
  | _, _, .non => .non
  | _, _, .bl b => .bl b
  | _, _, .int i => .int i
  | _, _, .str x => .str x
  | .list ds, _, .lst s a => .lst (e1 _ _ s) (DqAll.upL e1 e2 ds _ a)
  | .tuple ds, _, .tup s a => .tup (e2 _ _ s) (DqAll.upL e1 e2 ds _ a)
theorem DqAll.upL {H H' : Hp} (e1 : ∀ a xs, H a = some (.lst xs) → H' a = some (.lst xs)) (e2 : ∀ a xs, H a = some (.tup xs) → H' a = some (.tup xs)) : ∀ (ds : List PyData) (vs : List V), DqAll H vs ds → DqAll H' vs ds
  | _, _, .nil => .nil
  | d :: ds, _, .cons h t => .cons (Dq.upL e1 e2 d _ h) (DqAll.upL e1 e2 ds _ t)
end
theorem DqAll.lockK {H : Hp} {d : Addr} {od : Obj} {kvs : List (Key × V)} (e : H d = some (.dK kvs)) {ds : List PyData} {vs : List V} (h : DqAll H vs ds) : DqAll (upd H d (.frz od (.dK kvs))) vs ds :=
  h.upL (fun a xs q => lock_at e q (fun z => by cases z)) (fun a xs q => lock_at e q (fun z => by cases z)) ds vs
/-! ### len, also of a dict -/
def rLenN (K : PySem.W.Frag) : List V → Hp → VK → Prop := fun xs H Q => rLen K xs H Q ∨ ∃ a kvs, xs = [V.ref a] ∧ H a = some (.dK kvs) ∧ Q (.int kvs.length) H
theorem cr_lenN {X : Cx} (K : PySem.W.Frag) (e : X.K = K := by rfl) : CallR X (.builtin "len") (rLenN K) := by
  subst e
  intro pins s σ H xs us Q I r h
  rcases h with h | h
  · exact cr_len pins s σ H xs us Q I r h
  · exact call_lenD pins s σ H xs us Q I r h
section
variable {K : PySem.W.Frag} {H : Hp} {Q : VK}
theorem g_lenNL {a : Addr} {xs : List V} (h : H a = some (.lst xs)) (q : Q (.int (xs.length : Int)) H) : rLenN K [.ref a] H Q := .inl (g_lenL h q)
theorem g_lenNT {a : Addr} {xs : List V} (h : H a = some (.tup xs)) (q : Q (.int (xs.length : Int)) H) : rLenN K [.ref a] H Q := .inl (g_lenT h q)
theorem g_lenNS {z : Str} (h : z.length ≤ sizeLine) (q : Q (.int (z.length : Int)) H) : rLenN K [.str z] H Q := .inl (g_lenS h q)
theorem g_lenND {a : Addr} {kvs : List (Key × V)} (h : H a = some (.dK kvs)) (q : Q (.int (kvs.length : Int)) H) : rLenN K [.ref a] H Q := .inr ⟨a, kvs, rfl, h, q⟩
end
/-! ### texts in order -/
def rLtA : R2 := fun x y H Q => (rI0 (fun i j => .bl (decide (i < j))) x y H Q) ∨ ∃ i j, x = .str i ∧ y = .str j ∧ Q (.bl (decide (i.cps.toList < j.cps.toList))) H
theorem op_ltA {X : Cx} : OpR X (compareOp .Lt) rLtA := by
  intro pins s σ H x y v u Q I rx ry h
  rcases h with h | h
  · exact op_lt pins s σ H x y v u Q I rx ry h
  · exact op_lt_str pins s σ H x y v u Q I rx ry h
theorem g_ltI {i j : Int} {H : Hp} {Q : VK} (q : Q (.bl (decide (i < j))) H) : rLtA (.int i) (.int j) H Q := .inl ⟨i, j, rfl, rfl, q⟩
theorem g_ltS {i j : Str} {H : Hp} {Q : VK} (q : Q (.bl (decide (i.cps.toList < j.cps.toList))) H) : rLtA (.str i) (.str j) H Q := .inr ⟨i, j, rfl, rfl, q⟩
/-! ### reverse -/
def rRevA : V → List V → Hp → VK → Prop := fun x vs H Q => ∃ l xs, x = .ref l ∧ vs = [] ∧ H l = some (.lst xs) ∧ Q .non (upd H l (.lst xs.reverse))
theorem mt_revA {X : Cx} : MtR X "list.reverse" rRevA := mt_reverse
theorem g_revA {F H : Hp} {O O' : Own} {Q : VK} {a : Addr} {xs : List V} (hH : Has F O H) (c : Chg O a (.lst xs) (.lst xs.reverse) O') (q : ∀ H', Has F O' H' → Q .non H') : rRevA (.ref a) [] H Q :=
  ⟨a, xs, rfl, rfl, hH.get c.mem, q _ (hH.put c)⟩
/-! ### list(range(n)) -/
def kLstRg (x : V) (H1 : Hp) (Q : VK) : Prop := ∃ n, x = .int n ∧ (RgOk 0 n ∧ ∀ q, H1 q = none → Q (.ref q) (upd H1 q (.lst (rgV 0 n))))
section
variable {σ : L2.St} {F : Hp} {O : Own} {H : Hp} {Q : VK} {ta : TE}
theorem g_lstRg (q : ta σ H fun x H1 => kLstRg x H1 Q) : tLstRg (tRg1 ta) σ H Q := q
theorem g_kLstRg {n : Nat} (hn : n ≤ 1000) (hH : Has F O H) (q : ∀ p H', H p = none → Has F ((p, .lst ((List.range n).map fun (a : Nat) => V.int (a : Int))) :: O) H' → Q (.ref p) H') : kLstRg (.int (n : Int)) H Q := by
  refine ⟨n, rfl, RgOk.of_le (by omega) (by omega) (by omega) (by omega), fun p np => q p _ np ?_⟩
  have e : rgV 0 (n : Int) = (List.range n).map fun (a : Nat) => V.int (a : Int) := by
    unfold rgV
    have : ((n : Int) - 0).toNat = n := by omega
    rw [this]
    apply List.map_congr_left
    intro a _
    rw [Int.zero_add]
  rw [e]
  exact hH.new np
end
/-! ### dicts read whether locked or not -/
section
variable {K : PySem.W.Frag} {P : Program} {w : World} {H : Hp} {Q : VK} {a : Addr} {kvs : List (Key × V)} {i : Str} {v : V}
theorem g_ixDR (h : Rd H a (.dK kvs)) (hv : valV kvs (.inr i) = some v) (q : Q v H) : rIxA K (.ref a) (.str i) H Q := .inr ⟨a, v, rfl, .inl ⟨kvs, .inr i, h, rfl, hv.symm⟩, q⟩
theorem g_inSR (h : Rd H a (.dK kvs)) (q : Q (.bl (valV kvs (.inr i)).isSome) H) : rInA K (.str i) (.ref a) H Q := .inl (.inr ⟨a, _, rfl, .inl ⟨kvs, .inr i, h, rfl, rfl⟩, q⟩)
theorem g_notinSR (h : Rd H a (.dK kvs)) (q : Q (.bl (!(valV kvs (.inr i)).isSome)) H) : rNotInA K (.str i) (.ref a) H Q := .inl (.inr ⟨a, _, rfl, .inl ⟨kvs, .inr i, h, rfl, rfl⟩, q⟩)
end
end Qk

set_option maxHeartbeats 2000000
/-! Qh: where an exception is handled: a list comprehension over range(n), all() of a list of truth values. -/
namespace Qk
open PySem PySem.Spec PyProof.Rows L2 HotX L2H
/-! ### a list's end, all() -/
section
variable {prog : Program} {w : World} {A : Around} {E : Value → Shared → Prop} {s : Shared}
theorem next_list_endH {it l x1 : Addr} {i : Nat} {items : Array Value} {Q : Option Value → Shared → Prop} (hot : HotAt A x1 s.heap) (hit : s.heap.IsListIter it l i) (hl : s.heap.IsList l items) (hx : items[i]? = none) (hne : x1 ≠ it)
    (hQ : ∀ h', (∀ b o, b ≠ it → s.heap.get? b = some o → h'.get? b = some o) → Q none { s with heap := h' }) : wpAny (model prog w) A (pyNext (.ref it)) Q E s := by
  obtain ⟨o, ho, hc, hd⟩ := id hit
  obtain ⟨ol, hol, _, nl, hdl⟩ := hl
  obtain ⟨hh, o1, vs1, h1, d1, c1⟩ := hot
  unfold pyNext
  refine wpAny_bind (wpAny_attempt (wpAny_callSpecial?_slot (name := Str.ofString "__next__") hit.typeIs slot_listiter_next
    (wpAny_call_entry slot_listiter_next hit.typeIs entry_listiter_next ?_ (args_listiter_next _))))
  show wpAny _ _ (field (.ref it) 0 >>= _) _ _ s
  refine wpAny_bind (wpAny_field ho hd (x := .ref l) rfl ?_)
  show wpAny _ _ (if (Value.ref l == Value.none) = true then _ else _) _ _ s
  rw [if_neg (show ¬ ((Value.ref l == Value.none) = true) from Bool.false_ne_true)]
  show wpAny _ _ (field (.ref it) 1 >>= _) _ _ s
  refine wpAny_bind (wpAny_field ho hd (x := .int i 0) rfl ?_)
  show wpAny _ _ (seqItems? (.ref l) >>= _) _ _ s
  refine wpAny_bind (wpAny_seqItems hol hdl ?_)
  simp only [Int.toNat_natCast, hx]
  refine wpAny_bind (wpAny_rule (wpAny_bind (wpAny_setField ho hd (by simp) ?_)))
  have k0 : ∀ b u, b ≠ it → s.heap.get? b = some u → (s.heap.update it (Obj.mapFields (·.setIfInBounds 0 .none))).get? b = some u := fun b u ne e => by
    rw [Heap.get?_update_other _ _ (Ne.symm ne)]
    exact e
  show wpAny _ _ (newExc (.type "StopIteration") [] >>= _) _ _ _
  refine wpAny_bind ?_
  simp only [newExc, newTuple]
  refine wpAny_bind (wpAny_newObj_type ?_ (by size_fits))
  refine wpAny_bind (m := firstArgMember _ _) (wpAny_of_eq (a := Value.none) (by first | rfl | (simp only [firstArgMember]; rfl)) ?_)
  refine wpAny_newObj_type ?_ (by size_fits)
  refine raiseNew_hot ⟨hh, o1, vs1, Heap.get?_push_of_some _ (Heap.get?_push_of_some _ (k0 _ _ hne h1)), d1, c1⟩ (Nat.ne_of_lt (Heap.lt_size (Heap.get?_push_of_some _ (k0 _ _ hne h1)))) (Heap.get?_push_size _ rfl) rfl (by first | (simp; done) | (simp; omega) | (simp only [Array.size_append]; simp; omega)) ?_
  refine wpAny_bind (wpAny_isInstance (T := "StopIteration") (b := true) ⟨_, Heap.get?_update_self _ (Heap.get?_push_size _ rfl) rfl, rfl⟩ isSubtype_stop ?_)
  refine wpAny_pure (hQ _ fun b u ne e => ?_)
  rw [Heap.get?_update_other _ _ (Nat.ne_of_gt (Heap.lt_size (Heap.get?_push_of_some _ (k0 b u ne e))))]
  exact Heap.get?_push_of_some _ (Heap.get?_push_of_some _ (k0 b u ne e))
end
theorem walks_listH {prog : Program} {w : World} {A : Around} {x1 : Addr} (I ax : Addr) (hne : ax ≠ I) (hn1 : x1 ≠ I) (items : Array Value) :
    Walks prog w A I [I, ax, x1] [I] items.size (fun i v => items[i]? = some v) (fun i h => (h.IsListIter I ax i ∧ h.IsList ax items) ∧ HotAt A x1 h) where
  sub := fun b hb => by simp at hb; simp [hb]
  frame := fun _ _ _ st hk => by
    obtain ⟨⟨s1, s2⟩, hh, o1, vs1, h1, d1, c1⟩ := st
    exact ⟨⟨s1.at fun o e => hk I (by simp) o e, s2.at fun o e => hk ax (by simp) o e⟩, hh, o1, vs1, hk x1 (by simp) _ h1, d1, c1⟩
  item := fun i s Q E hi st hQ => by
    obtain ⟨⟨s1, s2⟩, hh, o1, vs1, h1, d1, c1⟩ := st
    refine wpAny_pyNext_list_item s1 s2 (x := items[i]) (by simp [hi]) fun h' hit' hs' => ?_
    exact hQ _ h' s.toks (by simp [hi]) ⟨⟨hit', s2.extBut hs'.extBut hne⟩, hh, o1, vs1, hs'.extBut x1 o1 hn1 h1, d1, c1⟩ fun b o hb e => hs'.extBut b o (fun h => hb (by simp [h])) e
  done := fun s Q E st hQ => next_list_endH st.2 st.1.1 st.1.2 (by simp) hn1 fun h' he' => hQ h' s.toks fun b o hb e => he' b o (fun h => hb (by simp [h])) e
  self := fun _ _ _ _ st hQ => wpAny_pyIter_listiter st.1.1 hQ
theorem cr_allH {X : Cx} (K : PySem.W.Frag) (hc : HotC X) (e : X.K = K := by rfl) : CallR X (.builtin "all") (rAll K) := by
  subst e
  intro pins s σ H vs us Q I r h
  obtain ⟨a, bs, rfl, hs, q⟩ := h
  obtain ⟨its, rv, hl, _⟩ := I.list hs
  rw [Vals.ref1 r]
  have hb := rv.bls
  obtain ⟨x1, hh, o1, vs1, h1, d1, c1⟩ := hc.at I
  refine call_all_walk (iter_any hl.isList fun s₂ e2 st hne => ?_)
  subst e2
  have n1 : x1 ≠ s.heap.objs.size := Nat.ne_of_lt (Heap.lt_size h1)
  refine ⟨_, _, _, _, _, _, _, rfl, walks_listH (A := X.A.in1) (x1 := x1) _ a hne n1 its.toArray, ⟨st, hh, o1, vs1, Heap.get?_push_of_some _ h1, d1, c1⟩, truth_bools hb, fun h' tk hk => ?_⟩
  refine ⟨.bl _, H, I.kept fun b o eo => hk b o (fun hmem => ?_) (Heap.get?_push_of_some _ eo), ?_, q⟩
  · rcases List.mem_cons.mp hmem with e1 | hmem
    · exact absurd (e1 ▸ Heap.lt_size eo) (Nat.lt_irrefl _)
    · cases hmem
  · show Value.bool _ = Value.bool _
    rw [← L2.all_range, hb, List.size_toArray, List.length_map]
/-! ### the comprehension's block, the handled exception kept in sight -/
abbrev blkH (X : Cx) (s : Shared) (H : Hp) (scope : Scope) (cenv : Env) (fp : List Addr) (p : Addr × Obj) : Cx := { X.blk s H scope cenv fp with pn := [p] }
theorem blkH_ok {X : Cx} {s : Shared} {H : Hp} {scope : Scope} {cenv : Env} {fp : List Addr} {p : Addr × Obj} (ok : (X.blk s H scope cenv fp).Ok) : (blkH X s H scope cenv fp p).Ok :=
  ⟨ok.mod, ok.kind, ok.glob, ok.blt, ok.above, ok.inj, ok.has, ok.cab, ok.hd, ok.frames, ok.stk, ok.exf, ok.bs, ok.bsz, ok.noex, ok.exfs, ok.funs, ok.frf⟩
section
variable {X : Cx}
theorem lcH {pins : List (Addr × Obj)} {s : Shared} {σ : L2.St} {H : Hp} {Q : VK} {elt tg iter : Expr} {ifs : List Expr} {scope : Scope} {own : List (Str × Nat)} {pos pos' : Pos} {wi : TI} {g : TG} {tt : TT} {te : TE} {use : Option (Value → Sem Unit)} {Qf : Value → Shared → Prop}
    (hc : HotC X) (hN : X.N.Nodup) (I : Inv X pins σ H s) (hi : PIH X tg iter wi) (ok : BlkOk X.N X.env.scope scope own)
    (hg : ∀ (s : Shared) (H : Hp) (C : Addr) (cl : List (Str × Addr)) (fp : List Addr) (p : Addr × Obj), Hot1 X.A p → PG (blkH X s H scope (compEnvC scope cl C X.env) fp p) tg g) (ht : ∀ (s : Shared) (H : Hp) (C : Addr) (cl : List (Str × Addr)) (fp : List Addr) (p : Addr × Obj), Hot1 X.A p → PTs (blkH X s H scope (compEnvC scope cl C X.env) fp p) ifs tt)
    (he : ∀ (s : Shared) (H : Hp) (C : Addr) (cl : List (Str × Addr)) (fp : List Addr) (p : Addr × Obj), Hot1 X.A p → PE (blkH X s H scope (compEnvC scope cl C X.env) fp p) elt te) (hs : ∀ x, foldedSetIterable iter X.env x = pure x)
    (h : tLc wi g tt te (own.map (·.2)) σ H Q)
    (hRR : ∀ D C s' m H', Inv X pins σ H' s' → Q (.ref D) H' → s'.heap.Ns C m → FpOk X pins H' C → compPost (model X.prog X.w) X.A X.xe use Qf (.ref D) C (.ok .next) s') :
    wpAny (model X.prog X.w) X.A (comprehension (.ListComp elt [⟨tg, iter, ifs, 0⟩] scope pos) scope X.env pos' (newList []) false (eval iter X.env) use) Qf X.xe s := by
  obtain ⟨p, hot, hp⟩ := hc
  have hfree : ∀ y ∈ scope.names, y.2 = .free → ∃ c, X.env.cells.lookup y.1 = some c := fun y hy e => by
    rcases ok.free y hy e with k | k
    · exact I.ok.has _ (.inl k)
    · exact I.ok.has _ (.inr k)
  refine wpAny_comprehension_free (use := use) rfl hs (closure_ok hfree) ok.kind (fun y hy e => by rw [ok.uniq y hy, e])
    (thn (hi.run pins s σ H _ I h) fun xv s1 hx => thn hx fun itv s2 h2 => ?_)
  obtain ⟨it, fp, tn, J, H2, e, I2, T, st2, f2, q⟩ := h2
  subst e
  refine wpAny_newObj_type (newEnv_comp ?_) (by show 0 ≤ sizeLine; decide)
  generalize hD : s2.heap.objs.size = D
  have hDn : H2 D = none := I2.hok.fresh (Nat.le_of_eq hD)
  obtain ⟨W, ⟨m0, w0⟩, turn⟩ := q D hDn
  generalize hs3 : ({ s2 with heap := s2.heap.push { cls := .type "list", data := .seq ([] : List Value).toArray } } : Shared) = s3
  have I3 : Inv X pins σ (upd H2 D (.lst [])) s3 := by
    rw [← hs3]
    refine I2.laid (t' := s2.toks) (fun b o e => Heap.get?_push_of_some _ e) (Nat.le_of_eq hD) ⟨Nat.zero_le _, [], 0, .nil, ?_⟩
    rw [← hD]
    exact Heap.get?_push_size _ rfl
  have h3 : s3.heap = s2.heap.push { cls := .type "list", data := .seq ([] : List Value).toArray } := by rw [← hs3]
  have sz : ∀ b ∈ fp, b < s2.heap.objs.size := fun b hb => by
    obtain ⟨o, e, _⟩ := T.obj _ _ st2 b hb
    exact Heap.lt_size e
  have f3 : ∀ b ∈ fp, FpOk X pins (upd H2 D (.lst [])) b ∧ b < s3.heap.objs.size := fun b hb => by
    have hlt := sz b hb
    refine ⟨⟨?_, (f2 b hb).2⟩, by rw [h3, Heap.size_push]; exact Nat.lt_succ_of_lt hlt⟩
    rw [upd_ne (by rw [← hD]; exact Nat.ne_of_lt hlt)]
    exact (f2 b hb).1
  have st3 : tn 0 s3.heap := T.keep _ _ _ st2 fun b _ o e => by rw [h3]; exact Heap.get?_push_of_some _ e
  have P3 := I3.pin p (List.mem_append_left _ hp)
  have I4' := block_start I3 ok hN f3
  have I4 : Inv (blkH X s3 (upd H2 D (.lst [])) scope (compEnvC scope (cellsFrom (s3.heap.objs.size + 1) scope.names (cloFrom X.env.cells scope.names [])) s3.heap.objs.size X.env) fp p) [] (wipe σ (own.map (·.2))) (upd H2 D (.lst [])) { s3 with heap := pushCells (s3.heap.push { cls := .type "dict", data := .dict #[] }) scope.names } := by
    refine ⟨blkH_ok I4'.ok, I4'.os, I4'.bare, I4'.base, I4'.loc, I4'.cell, I4'.free, I4'.freeC, fun q hq => ?_, I4'.hok, I4'.len⟩
    have e : q = p := by simpa using hq
    subst e
    refine ⟨pushCells_keeps _ _ _ _ (Heap.get?_push_of_some _ P3.1), P3.2.1, ?_, ?_, P3.2.2.2.2⟩
    · show q.1 ≠ s3.heap.objs.size
      exact Nat.ne_of_lt (Heap.lt_size P3.1)
    · intro hm
      exact (List.mem_cons.mp (I3.stkSub q.1 hm)).elim P3.2.2.1 P3.2.2.2.1
  have pg := hg s3 (upd H2 D (.lst [])) s3.heap.objs.size (cellsFrom (s3.heap.objs.size + 1) scope.names (cloFrom X.env.cells scope.names [])) fp p hot
  have pt := ht s3 (upd H2 D (.lst [])) s3.heap.objs.size (cellsFrom (s3.heap.objs.size + 1) scope.names (cloFrom X.env.cells scope.names [])) fp p hot
  have pe := he s3 (upd H2 D (.lst [])) s3.heap.objs.size (cellsFrom (s3.heap.objs.size + 1) scope.names (cloFrom X.env.cells scope.names [])) fp p hot
  clear I4'
  show codeAny _ _ (.compStart (.ListComp elt [⟨tg, iter, ifs, 0⟩] scope pos) 0 (.ref it) (.ref D) (compEnvC scope (cellsFrom (s3.heap.objs.size + 1) scope.names (cloFrom X.env.cells scope.names [])) s3.heap.objs.size X.env)) (compPost (model X.prog X.w) X.A X.xe use Qf (.ref D) s3.heap.objs.size) { s3 with heap := pushCells (s3.heap.push { cls := .type "dict", data := .dict #[] }) scope.names }
  have nfp : ∀ b ∈ fp, (upd H2 D (.lst [])) b = none := fun b hb => (f3 b hb).1.1
  generalize hce : compEnvC scope (cellsFrom (s3.heap.objs.size + 1) scope.names (cloFrom X.env.cells scope.names [])) s3.heap.objs.size X.env = ce at I4 pg pt pe ⊢
  have cL : ce.locals = s3.heap.objs.size := by subst hce; rfl
  generalize hH3 : upd H2 D (.lst []) = H3 at I3 I4 pg pt pe w0 nfp f3 P3
  generalize hs4 : ({ s3 with heap := pushCells (s3.heap.push { cls := .type "dict", data := .dict #[] }) scope.names } : Shared) = s4 at I4 ⊢
  have st4 : tn 0 s4.heap := T.keep _ _ _ st3 fun b _ o e => by rw [← hs4]; exact pushCells_keeps _ _ _ _ (Heap.get?_push_of_some _ e)
  have hcB : HotC (blkH X s3 H3 scope ce fp p) := ⟨p, hot, List.mem_singleton.mpr rfl⟩
  have stat : ∀ {σ' : L2.St} {H' : Hp} {s' : Shared}, Inv (blkH X s3 H3 scope ce fp p) [] σ' H' s' → (∀ b ∈ fp, H' b = none) → ∀ b ∈ fp, FpOk (blkH X s3 H3 scope ce fp p) [] H' b := fun {σ' H' s'} I' hn b hb =>
    ⟨hn b hb, (I'.ok.exf b hb).1, I'.ok.exfs b hb, .inl hb, fun x c e => (I'.ok.exf b hb).2 x c e, fun q hq => by
      have e : q = p := by simpa using hq
      subst e
      exact (f3 b hb).1.2.2.2.2.2 q (List.mem_append_left _ hp)⟩
  have loop : codeAny (model X.prog X.w) X.A (.compLoop (.ListComp elt [⟨tg, iter, ifs, 0⟩] scope pos) 0 (.ref it) (.ref D) ce) (compPost (model X.prog X.w) X.A X.xe use Qf (.ref D) s3.heap.objs.size) s4 := by
    refine compLoop_any (fun n s' => ∃ i H', Inv (blkH X s3 H3 scope ce fp p) [] (wipe σ (own.map (·.2))) H' s' ∧ tn i s'.heap ∧ (∀ b ∈ fp, H' b = none) ∧ W i n H') ?_ m0 ⟨0, H3, I4, st4, nfp, w0⟩
    rintro n s5 ⟨i, H5, I5, st5, n5, w5⟩
    rcases turn i n H5 w5 with ⟨stop, qq⟩ | ⟨go, Nx, hNx, step⟩
    · have td := T.done (blkH X s3 H3 scope ce fp p) rfl rfl rfl hcB i [] s5 _ H5 (fun _ _ => False) I5 (stat I5 n5) st5 stop
      refine thnF td fun r s6 ⟨hr, I6⟩ => ?_
      subst hr
      have I7 : Inv X pins σ H5 s6 := I3.call' (ch := fp) I6.os I6.base I6.hok I6.bare fun b hb => ⟨(f3 b hb).1.2.2.2.1, (f3 b hb).1.2.1, (f3 b hb).1.2.2.2.2.1, (f3 b hb).1.2.2.2.2.2⟩
      have nC : H5 s3.heap.objs.size = none := by
        have z : H5 ce.locals = none := I6.free
        rw [cL] at z
        exact z
      obtain ⟨m, hn, _⟩ := I6.loc
      have hn : s6.heap.Ns ce.locals m := hn
      rw [cL] at hn
      exact hRR D s3.heap.objs.size s6 m H5 I7 qq hn (I3.fpOk (Nat.le_refl _) nC)
    · have ti := T.item (blkH X s3 H3 scope ce fp p) rfl rfl rfl hcB i [] s5 _ H5 (fun _ _ => False) I5 (stat I5 n5) st5 go
      refine thnF ti fun r s6 ⟨u, hr, h6⟩ => ?_
      subst hr
      refine thnF h6 fun _ s7 ⟨x, H7, I7, r7, y7, st7, n7⟩ => ?_
      have I7' := I7.pinned (stat I7 n7) (T.obj _ _ st7)
      refine thnF (pg.run _ s7 _ H7 x u _ I7' r7 (step x H7 y7)) fun _ s8 ⟨σ8, H8, I8, hw8, q8⟩ => ?_
      refine thnF (pt.run _ s8 σ8 H8 _ I8 q8) fun b s9 ⟨H9, I9, q9⟩ => ?_
      have fin : ∀ {s' : Shared} {H' : Hp}, Inv (blkH X s3 H3 scope ce fp p) ([] ++ pinsAt fp s7.heap) σ8 H' s' → Nx H' → ∃ m, m < n ∧ ∃ i H', Inv (blkH X s3 H3 scope ce fp p) [] (wipe σ (own.map (·.2))) H' s' ∧ tn i s'.heap ∧ (∀ b ∈ fp, H' b = none) ∧ W i m H' := fun {s' H'} I' nx => by
        obtain ⟨m', hm, w'⟩ := hNx H' nx
        have pin' : ∀ b ∈ fp, ∀ o, s7.heap.get? b = some o → s'.heap.get? b = some o ∧ H' b = none := fun b hb o e =>
          let z := I'.pin (b, o) (List.mem_append_right _ (List.mem_append_right _ (mem_pinsAt hb e)))
          ⟨z.1, z.2.1⟩
        have hl : (wipe σ (own.map (·.2))).length = σ8.length := by rw [← hw8, wipe_length]
        refine ⟨m', hm, i + 1, H', (I'.unpinned (pins := [])).weak hl (fun j v e => ?_), T.keep _ _ _ st7 fun b hb o e => (pin' b hb o e).1, fun b hb => ?_, w'⟩
        · rw [← hw8] at e
          exact (wipe_some e).1
        · obtain ⟨o, e, _⟩ := T.obj _ _ st7 b hb
          exact (pin' b hb o e).2
      cases b with
      | false =>
        simp only [Bool.false_eq_true, if_false] at q9 ⊢
        exact fin I9 q9
      | true =>
        simp only [if_true] at q9 ⊢
        refine thnF (pe.run _ s9 σ8 H9 _ I9 q9) fun z s10 ⟨yv, H10, I10, r10, acc, hD10, hz10, nx⟩ => ?_
        exact app_ok (X := blkH X s3 H3 scope ce fp p) I10 hD10 hz10 r10 fun s11 I11 => fin I11 nx
  exact codeAny_compStart_list loop (T.self X.A 0 _ _ _ st4 loop)
theorem pe_lcH {elt tg iter : Expr} {ifs : List Expr} {scope : Scope} {own : List (Str × Nat)} {pos : Pos} {wi : TI} {g : TG} {tt : TT} {te : TE} (hc : HotC X) (hN : X.N.Nodup) (hi : PIH X tg iter wi) (ok : BlkOk X.N X.env.scope scope own)
    (hg : ∀ (s : Shared) (H : Hp) (C : Addr) (cl : List (Str × Addr)) (fp : List Addr) (p : Addr × Obj), Hot1 X.A p → PG (blkH X s H scope (compEnvC scope cl C X.env) fp p) tg g) (ht : ∀ (s : Shared) (H : Hp) (C : Addr) (cl : List (Str × Addr)) (fp : List Addr) (p : Addr × Obj), Hot1 X.A p → PTs (blkH X s H scope (compEnvC scope cl C X.env) fp p) ifs tt)
    (he : ∀ (s : Shared) (H : Hp) (C : Addr) (cl : List (Str × Addr)) (fp : List Addr) (p : Addr × Obj), Hot1 X.A p → PE (blkH X s H scope (compEnvC scope cl C X.env) fp p) elt te) (hs : ∀ x, foldedSetIterable iter X.env x = pure x := by intro _; rfl) :
    PE X (.ListComp elt [⟨tg, iter, ifs, 0⟩] scope pos) (tLc wi g tt te (own.map (·.2))) := by
  refine ⟨fun pins s σ H Q I h => ?_⟩
  rw [eval_ListComp]
  refine lcH hc hN I hi ok hg ht he hs h fun D C s' m H' I' q hn f => ⟨m, hn, fun h'' sb => ?_⟩
  obtain ⟨f0, f1, f2, f3, f4, f5⟩ := f
  exact ⟨.ref D, H', I'.turned (t' := s'.toks) (fun b o hb e => (sb.2 b hb).trans e) f0 f1 f3 f4 f5, rfl, q⟩
end
/-! ### in a suite: isinstance(e, (c, d)) -/
theorem vals_refs : ∀ {cs : List Addr} {its : List Value}, Vals (cs.map V.ref) its → its = cs.map Value.ref
  | [], _, .nil => rfl
  | c :: cs, _, .cons r rr => by
    obtain rfl := (show _ = Value.ref c from r)
    rw [vals_refs rr]
    rfl
def rIsXU (K : PySem.W.Frag) (a : Addr) (cls : Value) (d : Option Addr) : List V → Hp → VK → Prop := fun xs H Q => ∃ (D tp : Addr) (cs : List Addr) (b : Bool), cls = .ref D ∧ IsC K D ∧ (d = none ∨ ∃ dd fs, d = some dd ∧ H dd = some (.xd fs)) ∧ xs = [.ref a, .ref tp] ∧ H tp = some (.tup (cs.map V.ref)) ∧ PySem.W.kitAny K (.ref D) (cs.map Value.ref) = some b ∧ Q (.bl b) H
theorem cr_isXU {X : Cx} {a : Addr} {oe : Obj} {cls : Value} {d : Option Addr} {pn : List (Addr × Obj)} (K : PySem.W.Frag) (hz : L2.Zc cls d oe) (hf : ∃ vs, oe.data = .fields vs) (e : X.K = K := by rfl) : CallR (X.suite a ((a, oe) :: pn)) (.builtin "isinstance") (rIsXU K a cls d) := by
  subst e
  intro pins s σ H xs us Q I r h
  obtain ⟨D, tp, cs, b, ecl, C, hd, rfl, hT, e, q⟩ := h
  obtain ⟨u1, u2, rfl, r1, r2⟩ := vals2 r
  cases (show u1 = Value.ref a from r1)
  cases (show u2 = Value.ref tp from r2)
  obtain ⟨hget, _⟩ := I.pin (a, oe) (List.mem_append.mpr (.inl List.mem_cons_self))
  obtain ⟨vs, hv⟩ := hf
  have hcl : oe.cls = .ref D := hz.1.trans ecl
  have hdx := hz.2
  obtain ⟨_, its, rv, o, h1, h2, n, h3⟩ := (show ObjOk X.prog X.w H s.heap tp (.tup (cs.map V.ref)) from I.hok tp _ hT)
  have e3 := vals_refs rv
  subst e3
  obtain ⟨oc, od, dt, sl⟩ := o
  simp only at h2 h3
  subst h2 h3
  have key : ∀ od, PySem.W.InstAt s.heap a oe D od → wpAny (model X.prog X.w) (X.suite a ((a, oe) :: pn)).A (call (.builtin "isinstance") [.ref a, .ref tp]) (EP (X.suite a ((a, oe) :: pn)) pins σ Q) (X.suite a ((a, oe) :: pn)).xe s := fun od J =>
    PySem.W.kia_tup (PySem.W.kitx_exc C.cl C.hg C.hk C.hs C.ha C.hn C.ht C.hm) I.kIn J h1 e (fun z => nomatch z) fun tk => ⟨.bl b, H, I.kept (t' := tk) fun _ _ z => z, rfl, q⟩
  rcases hd with hd | ⟨dd, fs, hd, ea⟩
  · refine key none ?_
    rw [hd] at hdx
    exact ⟨hget, hcl, by unfold PySem.W.notCls; rw [hv] <;> rfl, by rw [hdx]; trivial⟩
  · have hx : ObjOk X.prog X.w H s.heap dd (.xd fs) := I.hok dd _ ea
    obtain ⟨mA, hns, hr⟩ := hx
    obtain ⟨od, ho, hl⟩ := lookIn_ns hns
    refine key (some od) ?_
    rw [hd] at hdx
    exact ⟨hget, hcl, by unfold PySem.W.notCls; rw [hv] <;> rfl, by rw [hdx]; exact ho⟩
theorem g_isXU {K : PySem.W.Frag} {a D C1 C2 dd tp : Addr} {fs : List (Str × V)} {b1 b2 : Bool} {H : Hp} {Q : VK} (I : IsC K D) (hd : H dd = some (.xd fs)) (ht : H tp = some (.tup [.ref C1, .ref C2])) (k1 : PySem.W.kitOne K (.ref D) (.ref C1) = some b1) (k2 : PySem.W.kitOne K (.ref D) (.ref C2) = some b2) (q : Q (.bl (b1 || b2)) H) : rIsXU K a (.ref D) (some dd) [.ref a, .ref tp] H Q := by
  refine ⟨D, tp, [C1, C2], b1 || b2, rfl, I, .inr ⟨dd, fs, rfl, hd⟩, rfl, ht, ?_, q⟩
  refine kitAny_cons k1 (fun z => ?_) (fun z => by rw [z]; rfl)
  refine kitAny_cons k2 (fun y => ?_) (fun y => by rw [z, y]; rfl)
  rw [z, y]
  exact kitAny_nil
end Qk

/-! Qx: list(o) of an own object whose __iter__ gives an iterator of a list -/
namespace Qk
open PySem PySem.Spec PyProof.Rows L2
section
variable {P : Program} {w : World} {A : Around} {E : Value → Shared → Prop} {s : Shared} {it l : Addr} {i : Nat} {items : Array Value} {Q : Option Value → Shared → Prop}
theorem pyNext_of (ty : s.TypeIs (.ref it) "list_iterator")
    (h : wpAny (model P w) A.in1 (Builtin.«list_iterator.__next__» ⟨[.ref it], []⟩) (fun fin s' => ∃ v, fin = Fin.done (Flow.ret v) ∧ Q (some v) s') (fun e s' => wpAny (model P w) A (do
      let b ← isInstance e (.type "StopIteration")
      if b = true then pure none else throw e) Q E s') s) : wpAny (model P w) A (pyNext (.ref it)) Q E s := by
  unfold pyNext callSpecial?
  refine wpAny_bind (wpAny_attempt (wpAny_bind (wpAny_specialOf ty slot_listiter_next.lookup ?_)))
  dsimp only
  refine wpAny_holding ?_
  rw [slot_listiter_next.bind]
  refine wpAny_bind (wpAny_pure ?_)
  dsimp only
  refine wpAny_bind (wpAny_call_entry slot_listiter_next ty entry_listiter_next ?_ (args_listiter_next _))
  refine wpAny_mono h ?_ ?_
  · rintro fin s' ⟨v, rfl, q⟩
    refine ⟨v, rfl, ?_⟩
    exact wpAny_pure (wpAny_pure q)
  · exact fun e s' q => q
theorem li_next (h : s.heap.get? it = some (GNX.itObj l i)) (hl : s.heap.IsList l items) {x : Value} (hx : items[i]? = some x)
    (q : ∀ h', h'.get? it = some (GNX.itObj l (i + 1)) → Heap.SameBut it s.heap h' → Q (some x) { s with heap := h' }) : wpAny (model P w) A (pyNext (.ref it)) Q E s :=
  pyNext_of ⟨_, h, rfl⟩ (GNX.next_item h hl hx fun h' e b => q h' e b)
theorem li_end (hh : A.handled = none) (h : s.heap.get? it = some (GNX.itObj l i)) (hl : s.heap.IsList l items) (hx : items[i]? = none)
    (q : ∀ h', (∃ o, h'.get? it = some o) → (∀ b o, b ≠ it → s.heap.get? b = some o → h'.get? b = some o) → Q none { s with heap := h' }) : wpAny (model P w) A (pyNext (.ref it)) Q E s := by
  refine pyNext_of ⟨_, h, rfl⟩ (GNX.next_end hh h hl hx fun h1 h' e vs e1 b1 k ne he _ => ?_)
  refine wpAny_bind (wpAny_isInstance ⟨_, he, rfl⟩ (b := true) (by rfl) ?_)
  rw [if_pos rfl]
  refine wpAny_pure (q h' ⟨_, k _ _ e1⟩ fun b o hb ho => k b o ?_)
  rw [b1.2 b hb]
  exact ho
end
def GoneO (it : Addr) : HO := HO.ext fun h => ∃ o, h.get? it = some o
theorem gone_ok {P : Program} {w : World} {H : Hp} {h : Heap} {it : Addr} (e : ∃ o, h.get? it = some o) : ObjOk P w H h it (GoneO it) := ⟨e, e, fun h1 h2 ⟨o, ho⟩ s => ⟨o, s o ho⟩⟩
theorem upd4 {H : Hp} {it q : Addr} {a b a' b' : HO} (ne : it ≠ q) : upd (upd (upd (upd H it a) q b) it a') q b' = upd (upd H it a') q b' := by
  funext x
  by_cases e1 : x = q
  · subst e1; rw [upd_same, upd_same]
  · rw [upd_ne e1, upd_ne e1]
    by_cases e2 : x = it
    · subst e2; rw [upd_same, upd_same]
    · rw [upd_ne e2, upd_ne e1, upd_ne e2, upd_ne e2]
section
variable {X : Cx} {pins : List (Addr × Obj)} {σ : L2.St} {A1 : Around} {Rs : Result → Shared → Prop}
theorem li_loop {it l q : Addr} {ys : List V} {H0 : Hp} (hd : A1.handled = none) (n1 : it ≠ q) (n2 : it ≠ l) (n3 : q ≠ l) (hl : H0 l = some (.lst ys)) (few : ys.length ≤ sizeLine)
    (done : ∀ s', L2.Inv X pins σ (upd (upd H0 it (GoneO it)) q (.lst ys)) s' → Rs (.ok (.ret .none)) s') :
    ∀ (m i : Nat) (s : Shared), i + m = ys.length → L2.Inv X pins σ (upd (upd H0 it (ItO l it i)) q (.lst (ys.take i))) s → codeAny (model X.prog X.w) A1 (.builtin "list.extend.loop" ⟨[.ref q, .ref it, .none], []⟩) Rs s
  | m, i, s, e, I => by
    refine codeAny_builtin F.entry_extend_loop ?_
    rw [Around.under_plainId F.plain_extend_loop _]
    show wpAny _ A1.in1 (pyNext (.ref it) >>= _) _ _ s
    have hit : s.heap.get? it = some (GNX.itObj l i) := itO_get I (by rw [upd_ne n1, upd_same])
    obtain ⟨its, rv, pl, _⟩ := I.list (SqL.of (K := X.K) (a := l) (xs := ys) (by rw [upd_ne n3.symm, upd_ne n2.symm]; exact hl))
    have lits : its.length = ys.length := rv.length.symm
    cases m with
    | zero =>
      have hi : ys[i]? = none := List.getElem?_eq_none_iff.mpr (by omega)
      refine wpAny_bind (li_end (by simpa using hd) hit pl.isList (by rw [List.getElem?_toArray]; exact rv.none_of hi) fun h' ex k => ?_)
      dsimp only
      refine wpAny_pure ?_
      have et : ys.take i = ys := List.take_of_length_le (by omega)
      rw [et] at I
      have J := I.write (x := it) (e := it) (o := GoneO it) (t' := s.toks) (by rw [upd_ne n1, upd_same]; trivial) (.inl rfl) (fun b u hb hu => k b u hb hu) ex (gone_ok ex)
      have J2 := (L2.Inv.lstM J (l := q) (xs := ys) (by rw [upd_ne n1.symm, upd_same]))
      refine done _ ?_
      have eq : upd (upd (upd H0 it (ItO l it i)) q (.lst ys)) it (GoneO it) = upd (upd H0 it (GoneO it)) q (.lst ys) := by
        funext x
        by_cases e1 : x = it
        · subst e1; rw [upd_same, upd_ne n1, upd_same]
        · rw [upd_ne e1]
          by_cases e2 : x = q
          · subst e2; rw [upd_same, upd_same]
          · rw [upd_ne e2, upd_ne e1, upd_ne e2, upd_ne e1]
      rw [eq] at J
      exact J
    | succ m =>
      have hlt : i < ys.length := by omega
      have hy : ys[i]? = some ys[i] := List.getElem?_eq_getElem hlt
      obtain ⟨u, hu, ru⟩ := rv.get hy
      refine wpAny_bind (li_next hit pl.isList (by rw [List.getElem?_toArray]; exact hu) fun h' e1 b1 => ?_)
      dsimp only
      have J := I.write (x := it) (e := it) (o := ItO l it (i + 1)) (h' := h') (t' := s.toks) (by rw [upd_ne n1, upd_same]; trivial) (.inl rfl) (fun b v hb hv => by rw [b1.2 b hb]; exact hv) ⟨_, e1⟩ (itO_ok e1)
      obtain ⟨lq, itsq, nq, vq, eq_, gq⟩ := J.lstM (l := q) (xs := ys.take i) (by rw [upd_ne n1.symm, upd_same])
      show wpAny _ A1.in1 (updateSeq q _ >>= _) _ _ _
      refine wpAny_bind (wpAny_updateSeq gq rfl ?_ (by rw [List.size_toArray, ← eq_]; exact lq) (by rw [Array.size_push, List.size_toArray, ← eq_, List.length_take]; omega))
      refine wpAny_pure ⟨plainId_quiet F.plain_extend_loop _, ?_⟩
      have J2 := J.lset (l := q) (xs := ys.take i) (ys := ys.take (i + 1)) (its' := itsq ++ [u]) (f := fun x => x.push u) (t' := s.toks) (by rw [upd_ne n1.symm, upd_same]) gq (by simp) (by
        rw [List.take_add_one, hy]
        exact vq.append (.cons ru .nil)) (by rw [List.length_take]; omega)
      rw [upd4 n1] at J2
      exact li_loop hd n1 n2 n3 hl few done m (i + 1) _ (by omega) J2
end
/-- what the class of such an object says -/
structure LiC (K : PySem.W.Frag) (C fi : Addr) : Prop where
  it : PySem.W.findIn K (.ref C) "__iter__" = some (some (.ref fi))
  itF : PySem.W.isFn K (.ref fi) = true
  nolen : PySem.W.findIn K (.ref C) "__len__" = some none
  nohint : PySem.W.findIn K (.ref C) "__length_hint__" = some none
theorem li_hint {s : Shared} {C fi a : Addr} {M : Model} {A : Around} {E : Value → Shared → Prop} {Q : Bool → Shared → Prop} {K : PySem.W.Frag} {ox : Obj} {od : Option Obj} (I : LiC K C fi) (kin : K.In s.heap) (inst : PySem.W.InstAt s.heap a ox C od) (q : Q true s) : wpAny M A (Builtin.List.listLengthHint (.ref a)) Q E s := by
  unfold Builtin.List.listLengthHint specialOf
  refine wpAny_bind (wpAny_bind (inst.type.here ?_))
  refine (PySem.W.looks_findIn kin I.nolen).here ?_
  dsimp only
  refine PySem.W.KFB.if_not rfl ?_
  refine PySem.W.KFB.if_not rfl ?_
  refine wpAny_bind (wpAny_bind (inst.type.here ?_))
  refine (PySem.W.looks_findIn kin I.nohint).here ?_
  exact wpAny_pure q
def rListI (C : Addr) (sp : Sp) (EI : XK) : List V → Hp → VK → Prop := fun xs H Q => ∃ a dx fs, xs = [.ref a] ∧ H a = some (.ins C dx fs) ∧ ∀ q, H q = none → sp [.ref a] (upd H q (.lst [])) (fun v H' => ∃ (it l : Addr) (ys : List V), v = .ref it ∧ (∃ dx' fs', H' a = some (.ins C dx' fs')) ∧ H' it = some (ItO l it 0) ∧ H' q = some (.lst []) ∧ H' l = some (.lst ys) ∧
  it ≠ q ∧ it ≠ l ∧ q ≠ l ∧ ys.length ≤ sizeLine ∧ Q (.ref q) (upd (upd H' it (GoneO it)) q (.lst ys))) EI
theorem upd_id {H : Hp} {it q : Addr} {a b : HO} (h1 : H it = some a) (h2 : H q = some b) : upd (upd H it a) q b = H := by
  funext x
  by_cases e1 : x = q
  · subst e1; rw [upd_same, h2]
  · rw [upd_ne e1]
    by_cases e2 : x = it
    · subst e2; rw [upd_same, h1]
    · rw [upd_ne e2]
section
variable {X : Cx} {CI : CXT} {C fi : Addr} {fdI : FuncData} {psI : List Str} {sp : Sp} {EI : XK} {n : Nat}
set_option maxHeartbeats 1000000 in
theorem li_extend {pins : List (Addr × Obj)} {σ : L2.St} {H : Hp} {s : Shared} {a q dx : Addr} {fs : List (Str × V)} {A1 : Around} {Rs : Result → Shared → Prop} {Q : VK} (S : L2.Sub X n A1.in1) (L : LiC X.K C fi) (F : FnOk X.prog X.w X.K X.mg X.base CI n fi fdI psI sp) (bd : L2.Binds X.K fdI psI []) (pass : Passes CI X EI)
    (I : L2.Inv X pins σ H s) (ha : H a = some (.ins C dx fs)) (hq : H q = some (.lst []))
    (hs : sp [.ref a] H (fun v H' => ∃ (it l : Addr) (ys : List V), v = .ref it ∧ (∃ dx' fs', H' a = some (.ins C dx' fs')) ∧ H' it = some (ItO l it 0) ∧ H' q = some (.lst []) ∧ H' l = some (.lst ys) ∧ it ≠ q ∧ it ≠ l ∧ q ≠ l ∧ ys.length ≤ sizeLine ∧ Q (.ref q) (upd (upd H' it (GoneO it)) q (.lst ys))) EI)
    (done : ∀ (H' : Hp) (s' : Shared), L2.Inv X pins σ H' s' → Q (.ref q) H' → Rs (.ok (.ret .none)) s') (err : ∀ (e : Value) (s : Shared), X.xe e s → Rs (.error e) s) :
    wpAny (model X.prog X.w) A1.in1 (Builtin.List.listExtendWith (.ref q) (.ref a) .none) (fun fin s' => match fin with
      | Fin.done f => Rs (.ok f) s'
      | Fin.again c' => c'.quiet = true ∧ codeAny (model X.prog X.w) A1 c' Rs s') (fun e s' => Rs (.error e) s') s := by
  obtain ⟨mA, om, _⟩ := ins_get I.hok ha
  obtain ⟨od, inst, _⟩ := om.look
  obtain ⟨m, fr⟩ := I.fr
  have nqa : q ≠ a := fun e => by
    rw [e, ha] at hq
    cases hq
  unfold Builtin.List.listExtendWith
  refine wpAny_bind (inst.type.here ?_)
  refine PySem.W.KFB.if_not (by
    have : Builtin.List.listSameRef (.ref q) (.ref a) = false := by
      show (q == a) = false
      simpa using nqa
    rw [this]
    rfl) ?_
  refine wpAny_bind (PySem.W.owit_iter fr I.ok.mod.kin inst L.it L.itF ?_)
  refine wpAny_call ?_
  have e0 := I.env0
  have E0 : Env0 X.prog X.w X.K X.mg X.base A1.in1 X.stack s H := ⟨S.fr.trans e0.frames, e0.mod, e0.bs, e0.bsz, e0.funs, e0.frf, e0.hok, e0.bare⟩
  have hps : psI.length = 1 := (F.len _ _ _ _ hs).symm
  have run := F.run A1.in1 X.stack s H ⟨[Value.ref a], []⟩ [Value.ref a] [V.ref a] _ EI S.room E0 (bd s [Value.ref a] I.kIn (by rw [hps]; rfl)) (.cons rfl .nil) hs
  refine codeAny_mono run ?_
  rintro r s' hr
  cases r with
  | error e => exact err e s' (pass pins σ H s e s' I hr)
  | ok fl =>
    cases fl with
    | ret u =>
      obtain ⟨v, H', I', rv, hq'⟩ := I.after hr
      obtain ⟨it, l, ys, rfl, ⟨dx', fs', ha'⟩, hit, hq2, hl, n1, n2, n3, few, qq⟩ := hq'
      have eu : u = .ref it := rv
      subst eu
      show wpAny _ _ (specialOf (.ref it) "__next__") _ _ s'
      refine wpAny_specialOf ⟨_, itO_get I' hit, rfl⟩ slot_listiter_next.lookup ?_
      obtain ⟨mA', om', _⟩ := ins_get I'.hok ha'
      obtain ⟨od', inst', _⟩ := om'.look
      refine wpAny_bind (wpAny_holding (li_hint L I'.kIn inst' ?_))
      dsimp only
      refine wpAny_ite_split (fun _ => ?_) (fun h => (h rfl).elim)
      refine wpAny_bind (wpAny_rule ?_)
      obtain ⟨_, its0, n0, v0, e0', g0⟩ := I'.lstM hq2
      have ei : its0 = [] := List.eq_nil_of_length_eq_zero e0'.symm
      subst ei
      show wpAny _ _ ((updateSeq q _ >>= fun _ => updateSeq q _) >>= _) _ _ _
      refine wpAny_bind (wpAny_bind (wpAny_updateSeq g0 rfl ?_ (by decide) (by rw [sizeLine_eq]; decide)))
      have J1 := I'.lset (l := q) (xs := []) (ys := [.non]) (its' := [.none]) (f := fun x => x.push .none) (t' := s'.toks) hq2 g0 (by simp) (.cons rfl .nil) (by rw [sizeLine_eq]; decide)
      obtain ⟨_, its1, n1', v1, e1', g1⟩ := J1.lstM (l := q) (xs := [.non]) upd_same
      have l1 : its1.length = 1 := e1'.symm
      refine wpAny_updateSeq g1 rfl ?_ (by rw [List.size_toArray, l1, sizeLine_eq]; decide) (by rw [Array.size_pop, List.size_toArray, l1]; exact Nat.zero_le _)
      have J2 := J1.lset (l := q) (xs := [.non]) (ys := []) (its' := []) (f := fun x => x.pop) (t' := s'.toks) upd_same g1 (by
        match its1, l1 with
        | [x], _ => rfl) .nil (Nat.zero_le _)
      have eh : upd (upd H' q (.lst [.non])) q (.lst []) = H' := by
        funext x
        by_cases e : x = q
        · subst e; rw [upd_same, hq2]
        · rw [upd_ne e, upd_ne e]
      rw [eh] at J2
      refine wpAny_pure ⟨plainId_quiet PySem.F.plain_extend_loop _, ?_⟩
      refine li_loop (H0 := H') (ys := ys) (by simpa using S.room.hd) n1 n2 n3 hl few (fun s2 J => done _ s2 J qq) ys.length 0 _ (Nat.zero_add _) ?_
      have e2 : upd (upd H' it (ItO l it 0)) q (.lst (ys.take 0)) = H' := upd_id hit hq2
      rw [e2]
      exact J2
    | _ => exact hr.elim
theorem call_listI (L : LiC X.K C fi) (F : FnOk X.prog X.w X.K X.mg X.base CI n fi fdI psI sp) (bd : L2.Binds X.K fdI psI []) (pass : Passes CI X EI) (room : Room (n + 2) X.A) : CallR X (.type "list") (rListI C sp EI) := by
  intro pins s σ H vs us Q I0 r h
  obtain ⟨a, dx, fs, rfl, ha, h⟩ := h
  rw [Vals.ref1 r]
  have np : H s.heap.objs.size = none := I0.hok.fresh (Nat.le_refl _)
  have hq := h _ np
  have S : L2.Sub X n X.A.in1.in1 := (L2.Sub.in1 (L2.Sub.in1 ⟨room, rfl⟩))
  refine callType_codes PySem.F.called_list (PySem.F.typeCall_list_1 _) PySem.F.entry_list_init (code_list_new _ (Q₁ := fun obj s₁ => obj = .ref s.heap.objs.size ∧ s₁ = { s with heap := s.heap.push { cls := .type "list", data := .seq #[] } }) ⟨rfl, rfl⟩) ?_
  rintro obj s₁ ⟨rfl, rfl⟩
  have hp : (s.heap.push { cls := .type "list", data := .seq #[] }).get? s.heap.objs.size = some { cls := .type "list", data := .seq #[] } := Heap.get?_push_size _ rfl
  refine ⟨⟨_, hp, rfl⟩, PySem.F.args_list_init_2 _ _, ?_⟩
  have I1 := I0.lnew (ys := []) (its := []) (t' := s.toks) .nil (Nat.zero_le _)
  unfold Builtin.«list.__init__»
  dsimp only
  refine PySem.W.KFB.if_not rfl ?_
  rw [if_neg (show ¬ [Value.ref a].length > 1 from by simp)]
  unfold Builtin.List.listItems
  refine wpAny_bind (wpAny_bind (wpAny_seqItems hp rfl (wpAny_pure ?_)))
  show wpAny _ _ (updateSeq s.heap.objs.size _ >>= _) _ _ _
  refine wpAny_bind (wpAny_updateSeq hp rfl ?_ (by decide) (by decide))
  have J := I1.lset (l := s.heap.objs.size) (xs := []) (ys := []) (its := []) (its' := []) (f := fun x => #[]) (t' := s.toks) upd_same hp rfl .nil (Nat.zero_le _)
  have eh : upd (upd H s.heap.objs.size (.lst [])) s.heap.objs.size (.lst []) = upd H s.heap.objs.size (.lst []) := by
    funext x
    by_cases e : x = s.heap.objs.size
    · subst e; rw [upd_same, upd_same]
    · rw [upd_ne e, upd_ne e]
  rw [eh] at J
  refine wpAny_bind (wpAny_letGo ?_)
  have ne : a ≠ s.heap.objs.size := fun e => by
    rw [e, np] at ha
    cases ha
  have ha' : upd H s.heap.objs.size (.lst []) a = some (.ins C dx fs) := by rw [upd_ne ne]; exact ha
  exact li_extend (Rs := wants (fun r s₂ => r = .none ∧ EP X pins σ Q (.ref s.heap.objs.size) s₂) X.xe) S L F bd pass J ha' upd_same hq (fun H' s' I' q => ⟨rfl, V.ref s.heap.objs.size, H', I', rfl, q⟩) (fun e s he => he)
end
/-! ### the rules' steps -/
structure InsC (K : PySem.W.Frag) (C : Addr) : Prop where
  ca : PySem.W.findIn K (.ref C) "__class__" = some (some (.builtin "object.__class__"))
  cn : PySem.W.specialIn K (.builtin "object.__class__") "__get__" = some (some (.builtin "getset_descriptor.__get__"))
  ct : PySem.W.takesIn K (.builtin "object.__class__") = some true
  cm : PySem.W.mroIn K C (.type "object") = some true
theorem cr_isI {X : Cx} (K : PySem.W.Frag) (e : X.K = K := by rfl) : CallR X (.builtin "isinstance") (rIsi K) := by subst e; exact call_isi
theorem cr_iterK {X : Cx} (K : PySem.W.Frag) (e : X.K = K := by rfl) : CallR X (.builtin "iter") (rIter K) := by subst e; exact call_iterL
section
variable {K : PySem.W.Frag} {F : Hp} {O : Own} {H : Hp} {Q : VK}
theorem g_isO {a C dx : Addr} {fs : List (Str × V)} (h : H a = some (.ins C dx fs)) (c : Cls K C) (i : InsC K C) (q : Q (.bl true) H) : rIsi K [.ref a, .ref C] H Q :=
  ⟨.ref a, .ref C, .ref C, .ref C, true, rfl, .own C, .base (.ins h c i.ca i.cn i.ct i.cm), by unfold PySem.W.kitOne; rw [if_pos (beq_self_eq_true _)], q⟩
theorem g_iter {l : Addr} {zs : List V} (h : H l = some (.lst zs)) (q : ∀ it, H it = none → Q (.ref it) (upd H it (ItO l it 0))) : rIter K [.ref l] H Q := ⟨l, zs, rfl, SqL.of h, q⟩
/-- what an __iter__ that gives its list's iterator promises -/
def spIt (C : Addr) (nl : Str) : Sp := fun vs H Q _ => ∃ (a dx : Addr) (fs : List (Str × V)) (l : Addr) (ys : List V), vs = [.ref a] ∧ H a = some (.ins C dx fs) ∧ fs.lookup nl = some (.ref l) ∧ H l = some (.lst ys) ∧ ∀ it, H it = none → Q (.ref it) (upd H it (ItO l it 0))
theorem g_listI {C a dx l : Addr} {fs : List (Str × V)} {nl : Str} {ys : List V} {EI : XK} (h : H a = some (.ins C dx fs)) (lk : fs.lookup nl = some (.ref l)) (hl : H l = some (.lst ys)) (few : ys.length ≤ sizeLine) (hH : Has F O H)
    (q : ∀ p H', H p = none → Has F ((p, .lst ys) :: O) H' → Q (.ref p) H') : rListI C (spIt C nl) EI [.ref a] H Q := by
  refine ⟨a, dx, fs, rfl, h, fun p np => ?_⟩
  have nea : a ≠ p := fun e => by rw [e, np] at h; cases h
  have nel : l ≠ p := fun e => by rw [e, np] at hl; cases hl
  refine ⟨a, dx, fs, l, ys, rfl, by rw [upd_ne nea]; exact h, lk, by rw [upd_ne nel]; exact hl, fun it ni => ?_⟩
  have nip : it ≠ p := fun e => by rw [e, upd_same] at ni; cases ni
  have ni' : H it = none := by rw [upd_ne nip] at ni; exact ni
  have nea' : a ≠ it := fun e => by rw [e, ni'] at h; cases h
  have nel' : l ≠ it := fun e => by rw [e, ni'] at hl; cases hl
  refine ⟨it, l, ys, rfl, ⟨dx, fs, by rw [upd_ne nea', upd_ne nea]; exact h⟩, upd_same, by rw [upd_ne nip.symm, upd_same], by rw [upd_ne nel', upd_ne nel]; exact hl, nip, nel'.symm, nel.symm, few, ?_⟩
  have h1 := hH.new (o := .lst []) np
  have h2 := h1.new (o := ItO l it 0) ni
  have h3 := h2.put (o' := GoneO it) .hd
  have h4 := h3.put (o' := .lst ys) (.tl .hd)
  exact q p _ np h4.drop
end
end Qk

/-! Qxo: a comprehension or a loop over an own object whose __iter__ gives an iterator of a list -/
namespace Qk
open PySem PySem.Spec PyProof.Rows L2
open Sem (wp)
/-! ### an address without an object stays one -/
def Dead (b : Addr) (h : Heap) : Prop := b < h.objs.size ∧ h.get? b = none
theorem Dead.push {b : Addr} {h : Heap} {o : Obj} (d : Dead b h) : Dead b (h.push o) := by
  refine ⟨?_, ?_⟩
  · show b < (h.push o).objs.size
    rw [Heap.objs_push]
    exact Nat.lt_trans d.1 (by rw [Array.size_push]; exact Nat.lt_succ_self _)
  · rw [Heap.get?_push_ne h b o (Nat.ne_of_lt d.1)]
    exact d.2
theorem Dead.update {b a : Addr} {h : Heap} {f : Obj → Obj} (d : Dead b h) (ha : (h.get? a).isSome) : Dead b (h.update a f) := by
  have ne : a ≠ b := fun e => by
    subst e
    rw [d.2] at ha
    cases ha
  refine ⟨?_, (Heap.get?_update_other _ _ ne).trans d.2⟩
  have : (h.update a f).objs.size = h.objs.size := by
    first
      | exact Heap.update_size _ _ _
      | exact Heap.size_update _ _ _
      | simp [Heap.update]
  rw [this]
  exact d.1
theorem runs_dead {M : Model} {Γ : PySem.Ctx} {p : Pos} {t : Sem PySem.Fin} {fs : List Frame} {s s' : Shared} {e : End} {b : Addr} (h : Runs M Γ p t fs s e s') : Dead b s.heap → Dead b s'.heap := by
  induction h with
  | update ha _ ih => exact fun d => ih (d.update ha)
  | alloc _ ih => exact fun d => ih d.push
  | call _ _ ih1 ih2 => exact fun d => ih2 (ih1 d)
  | resumeFresh _ _ _ _ ih1 ih2 => exact fun d => ih2 (ih1 d)
  | resumeSuspended _ _ _ _ ih1 ih2 => exact fun d => ih2 (ih1 d)
  | segRet _ _ ih1 ih2 => exact fun d => ih2 (ih1 d)
  | segGen _ _ ih1 ih2 => exact fun d => ih2 (ih1 d)
  | segSuspGen _ _ _ _ ih1 ih2 => exact fun d => ih2 (ih1 d)
  | _ =>
    intro d
    first
      | exact d
      | (rename_i ih; exact ih d)
/-- whatever a code answers, a dead address stays dead -/
theorem code_dead {M : Model} {A : Around} {c : Code} {Q : Result → Shared → Prop} {s : Shared} (h : codeAny M A c Q s) : codeAny M A c (fun r s' => Q r s' ∧ ∀ b, Dead b s.heap → Dead b s'.heap) s := by
  intro Γ p hc hΓ
  obtain ⟨r, s', hr, q⟩ := h Γ p hc hΓ
  exact ⟨r, s', hr, q, fun b => runs_dead hr⟩
/-! ### the rule -/
structure ItC1 (K : PySem.W.Frag) (C fi : Addr) : Prop where
  it : PySem.W.findIn K (.ref C) "__iter__" = some (some (.ref fi))
  itF : PySem.W.isFn K (.ref fi) = true
/-- tracked no more -/
theorem inv_rm {X : Cx} {pins : List (Addr × Obj)} {σ : L2.St} {H : Hp} {s : Shared} {it l : Addr} {i : Nat} (I : L2.Inv X pins σ H s) (e : H it = some (ItO l it i)) : L2.Inv X pins σ (rm H it) s := by
  have ne : ∀ {b : Addr} {u : HO}, rm H it b = some u → b ≠ it ∧ H b = some u := fun {b u} q => by
    by_cases c : b = it
    · rw [c, rm_at] at q
      cases q
    · rw [rm_ne c] at q
      exact ⟨c, q⟩
  have no : ∀ {b : Addr}, H b = none → rm H it b = none := fun {b} q => by
    by_cases c : b = it
    · rw [c]; exact rm_at
    · rw [rm_ne c]; exact q
  have dif : ∀ {b : Addr} {u : HO}, H b = some u → u ≠ ItO l it i → rm H it b = some u := fun {b u} q n => by
    rw [rm_ne]
    · exact q
    · intro c
      rw [c, e] at q
      exact n (Option.some.inj q).symm
  refine ⟨I.ok, I.os, I.bare, ⟨I.base.keep, I.base.slot, fun b o q n hx => no (I.base.free b o q n hx), I.base.there, fun b xs q => dif (I.base.tups b xs q) (by intro z; cases z), fun b o u q => dif (I.base.frzs b o u q) (by intro z; cases z), fun b ps q => ?_⟩, I.loc, I.cell, no I.free, fun x c q => no (I.freeC x c q), fun p hp => ?_, ?_, I.len⟩
  · obtain ⟨more, q2⟩ := I.base.tbls b ps q
    exact ⟨more, dif q2 (by intro z; cases z)⟩
  · obtain ⟨h1, h2, h3⟩ := I.pin p hp
    exact ⟨h1, no h2, h3⟩
  · intro b u q
    obtain ⟨c, q⟩ := ne q
    exact (I.hok b u q).stay (fun _ _ _ z => z) (fun d z => dif z (by intro y; cases y)) fun d xs z => dif z (by intro y; cases y)
def iOwnI (K : PySem.W.Frag) (C : Addr) (sp : Sp) (EI : XK) (te : TE) : TI := fun σ H R => te σ H fun x H1 => ∃ a dx fs, x = .ref a ∧ H1 a = some (.ins C dx fs) ∧ sp [.ref a] H1 (fun v H' => ∃ (it l : Addr) (ys : List V), v = .ref it ∧ H1 it = none ∧ H' it = some (ItO l it 0) ∧ H' l = some (.lst ys) ∧ it ≠ l ∧ R (Itl K l) (rm H' it)) EI
section
variable {X : Cx} {CI : CXT} {C fi : Addr} {fdI : FuncData} {psI : List Str} {sp : Sp} {EI : XK} {n : Nat} {tg iter : Expr} {te : TE}
theorem pi_ownI (hl : PE X iter te) (L : ItC1 X.K C fi) (F : FnOk X.prog X.w X.K X.mg X.base CI n fi fdI psI sp) (bd : L2.Binds X.K fdI psI []) (pass : Passes CI X EI) (room : Room n X.A) : PI X tg iter (iOwnI X.K C sp EI te) := by
  refine ⟨fun pins s σ H R I h => ?_⟩
  refine wpAny_mono (hl.run pins s σ H _ I h) (fun v s1 ⟨x, H1, I1, r1, q1⟩ => ?_) fun _ _ z => z
  obtain ⟨a, dx, fs, rfl, ha, hs⟩ := q1
  cases r1
  obtain ⟨mA, om, _⟩ := ins_get I1.hok ha
  obtain ⟨od, inst, _⟩ := om.look
  obtain ⟨m, fr⟩ := I1.fr
  refine PySem.W.owit_iter fr I1.ok.mod.kin inst L.it L.itF ?_
  refine wpAny_call ?_
  have e0 := I1.env0
  have hps : psI.length = 1 := (F.len _ _ _ _ hs).symm
  have run := F.run X.A X.stack s1 H1 ⟨[Value.ref a], []⟩ [Value.ref a] [V.ref a] _ EI room e0 (bd s1 [Value.ref a] I1.kIn (by rw [hps]; rfl)) (.cons rfl .nil) hs
  refine codeAny_mono (code_dead run) ?_
  rintro r s' ⟨hr, dead⟩
  cases r with
  | error e => exact pass pins σ H1 s1 e s' I1 hr
  | ok fl =>
    cases fl with
    | ret u =>
      obtain ⟨v, H', os, bare, un, hok, rv, hq'⟩ := hr
      obtain ⟨it, l, ys, rfl, nit, hit, hl2, nel, qq⟩ := hq'
      have I' : L2.Inv X pins σ H' s' := I1.call' (ch := []) os un hok bare (fun b z => absurd z (by simp))
      have eu : u = .ref it := rv
      subst eu
      have ob := itO_get I' hit
      have big : s1.heap.objs.size ≤ it := by
        refine Decidable.byContradiction fun c => ?_
        have lt : it < s1.heap.objs.size := Nat.lt_of_not_le c
        cases eg : s1.heap.get? it with
        | none =>
          have := (dead it ⟨lt, eg⟩).2
          rw [ob] at this
          cases this
        | some o =>
          have := un.free it o eg nit (by simp)
          rw [hit] at this
          cases this
      show wpAny _ _ (specialOf (.ref it) "__next__") _ _ s'
      refine wpAny_specialOf ⟨_, ob, rfl⟩ slot_listiter_next.lookup ?_
      have J := inv_rm I' hit
      have z : rm H' it it = none := rm_at
      refine ⟨it, [it], _, _, rm H' it, rfl, J, turn_list l it, ⟨_, ob, rfl, rfl⟩, fun b hb => ?_, qq⟩
      have e : b = it := by simpa using hb
      subst e
      refine ⟨rm_at, fun c => ?_, I1.nofs big, .inr (Nat.le_trans I1.sz big), fun x c ec e => ?_, fun p hp e => ?_⟩
      · have := I'.free
        rw [← c, hit] at this
        cases this
      · have := I'.freeC x c ec
        rw [e, hit] at this
        cases this
      · have := (I'.pin p hp).2.1
        rw [e, hit] at this
        cases this
    | _ => exact hr.elim
end
section
variable {X : Cx} {tg iter : Expr} {te : TE} {C : Addr} {sp : Sp} {EI : XK}
theorem k_oi (K : PySem.W.Frag) (h : PI X tg iter (iOwnI X.K C sp EI te)) (e : X.K = K := by rfl) : PI X tg iter (iOwnI K C sp EI te) := by subst e; exact h
end
def kLcO (K : PySem.W.Frag) (C : Addr) (sp : Sp) (EI : XK) (g : TG) (tt : TT) (te : TE) (vs : List Nat) (σ : L2.St) (x : V) (H : Hp) (Q : VK) : Prop := ∃ a dx fs, x = .ref a ∧ H a = some (.ins C dx fs) ∧ sp [.ref a] H (fun v H' => ∃ (it l : Addr) (ys : List V), v = .ref it ∧ H it = none ∧ H' it = some (ItO l it 0) ∧ H' l = some (.lst ys) ∧ it ≠ l ∧ kLc (Itl K l) g tt te vs σ (rm H' it) Q) EI
section
variable {K : PySem.W.Frag} {σ : L2.St} {F : Hp} {O : Own} {H : Hp} {Q : VK} {ta te : TE} {tt : TT} {vs : List Nat} {g : TG} {C : Addr} {sp : Sp} {EI : XK}
theorem g_lcO (q : ta σ H fun x H1 => kLcO K C sp EI g tt te vs σ x H1 Q) : tLc (iOwnI K C sp EI ta) g tt te vs σ H Q := q
theorem k_lcO {a dx l : Addr} {fs : List (Str × V)} {nl : Str} {ys : List V} (h : H a = some (.ins C dx fs)) (lk : fs.lookup nl = some (.ref l)) (hl : H l = some (.lst ys)) (q : kLcL K g tt te vs σ (.ref l) H Q) : kLcO K C (spIt C nl) EI g tt te vs σ (.ref a) H Q := by
  refine ⟨a, dx, fs, rfl, h, a, dx, fs, l, ys, rfl, h, lk, hl, fun it ni => ?_⟩
  have ne : it ≠ l := fun e => by rw [e, hl] at ni; cases ni
  refine ⟨it, l, ys, rfl, ni, upd_same, by rw [upd_ne ne.symm]; exact hl, ne, ?_⟩
  have e : rm (upd H it (ItO l it 0)) it = H := by
    funext x
    by_cases c : x = it
    · rw [c, rm_at, ni]
    · rw [rm_ne c, upd_ne c]
  rw [e]
  obtain ⟨b, eb, _, qq⟩ := q
  cases eb
  exact qq
end
end Qk

/-! Ql: ==, &, | and in by an own def of a class of dict instances -/
namespace Qk
open PySem PySem.Spec PyProof.Rows L2 PySem.W
open Sem (wp)
/-- what the class's text must have -/
structure OwnOp (K : PySem.W.Frag) (C : Addr) (name : Str) (f : Addr) : Prop where
  at_ : PySem.W.findIn K (.ref C) name = some (some (.ref f))
  fn : PySem.W.isFn K (.ref f) = true
/-- x op y of two instances of one class -/
def rOwnD (C : Addr) (sp : Sp) (E : XK) : R2 := fun x y H Q => ∃ a dx fs b dy gs, x = .ref a ∧ y = .ref b ∧ H a = some (.ins C dx fs) ∧ H b = some (.ins C dy gs) ∧ sp [x, y] H Q E
/-- x in y, y an instance of the class -/
def rInD (C : Addr) (sp : Sp) (E : XK) : R2 := fun x y H Q => ∃ a dx fs, y = .ref a ∧ H a = some (.ins C dx fs) ∧ sp [y, x] H (fun v H' => ∃ b, v = .bl b ∧ Q v H') E
section
variable {X : Cx} {CI : CXT} {C f : Addr} {fdI : FuncData} {psI : List Str} {sp : Sp} {EI : XK} {n : Nat}
theorem op_eqD (o : OwnOp X.K C "__eq__" f) (F : FnOk X.prog X.w X.K X.mg X.base CI n f fdI psI sp) (bd : L2.Binds X.K fdI psI []) (pass : Passes CI X EI) (room : Room n X.A) : OpR X (compareOp .Eq) (rOwnD C sp EI) := by
  intro pins s σ H x y v u Q I rx ry h
  obtain ⟨a, dx, fs, b, dy, gs, rfl, rfl, ha, hb, hs⟩ := h
  cases (show v = Value.ref a from rx)
  cases (show u = Value.ref b from ry)
  obtain ⟨mA, om, _⟩ := ins_get I.hok ha
  obtain ⟨od, J, _⟩ := om.look
  obtain ⟨mB, om', _⟩ := ins_get I.hok hb
  obtain ⟨od', J', _⟩ := om'.look
  obtain ⟨m, hF⟩ := I.fr
  show wpAny _ _ (richCompare .Eq (.ref a) (.ref b)) _ _ s
  refine PySem.W.cmp_K (op := .Eq) (tb := .ref C) room.units0 hF I.ok.mod.kin J J'.type (by unfold PySem.W.notFirst; simp) o.at_ o.fn ?_
  refine wpAny_mono (run_fn (vs := [.ref a, .ref b]) (us := [.ref a, .ref b]) (ds := []) (dvs := []) F room bd .nil pass I (.cons rfl (.cons rfl .nil)) (by simpa using hs)) (fun w s' z => ?_) fun _ _ x => x
  obtain ⟨z', H', I', rz, qz⟩ := z
  exact SlX.cmpback rz ⟨z', H', I', rz, qz⟩
theorem op_inD (o : OwnOp X.K C "__contains__" f) (F : FnOk X.prog X.w X.K X.mg X.base CI n f fdI psI sp) (bd : L2.Binds X.K fdI psI []) (pass : Passes CI X EI) (room : Room n X.A) : OpR X (compareOp .In) (rInD C sp EI) := by
  intro pins s σ H x y v u Q I rx ry h
  obtain ⟨a, dx, fs, rfl, ha, hs⟩ := h
  cases (show u = Value.ref a from ry)
  obtain ⟨mA, om, _⟩ := ins_get I.hok ha
  obtain ⟨od, J, _⟩ := om.look
  have kin := I.kIn
  have L1 : Looks (model X.prog X.w) s.heap (specialOf (.ref a) "__contains__") (some (.ref f)) := by
    unfold specialOf
    exact J.type.andThen (PySem.W.looks_findIn kin o.at_)
  show wpAny _ _ (contains (.ref a) v >>= fun b => pure (Value.bool b)) _ _ s
  refine wpAny_bind ?_
  unfold contains
  refine wpAny_holding ?_
  simp only [stdlibNamesSay?]
  refine wpAny_bind (L1.here ?_)
  rw [if_neg (by simp)]
  unfold callSpecialUnlessNone?
  refine wpAny_bind (wpAny_bind (L1.here (wpAny_holding (wpAny_bind ((bind_fn kin _ (beq_iff_eq.mp o.fn)).here ?_)))))
  simp only [List.append_nil, List.singleton_append]
  rw [if_neg (by simp)]
  refine wpAny_bind (wpAny_mono (run_fn (Q := fun v H' => ∃ b, v = .bl b ∧ Q v H') (vs := [.ref a, x]) (us := [.ref a, v]) (ds := []) (dvs := []) F room bd .nil pass I (.cons rfl (.cons rx .nil)) (by simpa using hs)) (fun w s' z => ?_) fun _ _ x => x)
  obtain ⟨z', H', I', rz, b, rfl, qz⟩ := z
  cases (show w = Value.bool b from rz)
  exact wpAny_pure (wpAny_pure (wpAny_pure ⟨V.bl b, H', I', rfl, qz⟩))
theorem fillsSelf {K : Frag} {h : Heap} {M : Model} {nm : String} (X : K.In h) (hc : selfFirst K C = true) (hs : findIn K (.ref C) (PySem.dunder nm) = some (some (.ref f))) : Looks M h (fillsNumberSlot (.ref C) nm) true := by
  obtain ⟨cd, rest, hcd, hm⟩ := ksp_first hc
  exact fills_K X hcd hm hs
/-- a op b of two instances of one class -/
theorem op_binD {op : Operator} (hc : selfFirst X.K C = true) (o : OwnOp X.K C (PySem.dunder op.info.2) f) (F : FnOk X.prog X.w X.K X.mg X.base CI n f fdI psI sp) (bd : L2.Binds X.K fdI psI []) (pass : Passes CI X EI) (room : Room n X.A) : OpR X (binaryOp op) (rOwnD C sp EI) := by
  intro pins s σ H x y v u Q I rx ry h
  obtain ⟨a, dx, fs, b, dy, gs, rfl, rfl, ha, hb, hs⟩ := h
  cases (show v = Value.ref a from rx)
  cases (show u = Value.ref b from ry)
  obtain ⟨mA, om, _⟩ := ins_get I.hok ha
  obtain ⟨od, J, _⟩ := om.look
  obtain ⟨mB, om', _⟩ := ins_get I.hok hb
  obtain ⟨od', J', _⟩ := om'.look
  have kin := I.kIn
  have one : wpAny (model X.prog X.w) X.A (tryMethod (.ref a) (PySem.dunder op.info.2) (.ref b)) (fun r s' => ∃ v, r = some v ∧ EP X pins σ Q v s') X.xe s := by
    refine ksp_try kin J o.at_ o.fn ?_
    refine wpAny_mono (run_fn (vs := [.ref a, .ref b]) (us := [.ref a, .ref b]) (ds := []) (dvs := []) F room bd .nil pass I (.cons rfl (.cons rfl .nil)) (by simpa using hs)) (fun w s' z => ?_) fun _ _ x => x
    obtain ⟨z', H', I', rz, qz⟩ := z
    exact SlX.cmpback rz ⟨z', H', I', rz, qz⟩
  have L1 : Looks (model X.prog X.w) s.heap (typeOf (.ref a)) (.ref C) := J.type
  have L2 : Looks (model X.prog X.w) s.heap (typeOf (.ref b)) (.ref C) := J'.type
  rcases hi : op.info with ⟨sym, nm'⟩
  have o2 := o.at_
  rw [hi] at o2 one
  have L3 : Looks (model X.prog X.w) s.heap (fillsNumberSlot (.ref C) nm') true := fillsSelf kin hc o2
  simp only [binaryOp, hi]
  refine wpAny_holding (wpAny_bind ?_)
  unfold binaryOp1
  refine wpAny_bind (L1.here (wpAny_bind (L2.here (wpAny_bind (L3.here ?_)))))
  simp only [beq_self_eq_true, if_true]
  ksp_lk
  refine wpAny_mono one (fun r s' hr' => ?_) fun _ _ e => e
  obtain ⟨v, rfl, hq⟩ := hr'
  ksp_lk
  exact hq
end
/-! ### a class that is made, what its __init__ lets out told at the slots -/
def tMakeS (C : Addr) (sp : Sp) (E : L2.St → XK) (t : TA) : TE := fun σ H Q => t σ H fun vs H1 => kMake C sp (E σ) vs H1 Q
def tMakeV (i : Nat) (C : Addr) (sp : Sp) (E : L2.St → XK) (t : TA) : TE := fun σ H Q => σ[i]? = some (some (.ref C)) ∧ t σ H fun vs H1 => kMake C sp (E σ) vs H1 Q
def tCMethS (C : Addr) (sp : Sp) (E : L2.St → XK) (ta : TE) (t : TA) : TE := fun σ H Q => ta σ H fun x H1 => x = .ref C ∧ t σ H1 fun vs H2 => sp (.ref C :: vs) H2 Q (E σ)
section
variable {X : Cx} {CX : CXT} {k i : Nat} {C f p g : Addr} {mc : Value} {fd : FuncData} {ps : List Str} {sp : Sp} {E : L2.St → XK} {x m : Str} {pos apos p0 : Pos} {e o : Expr} {es : List Expr} {ta : TE} {t : TA} {pl : Sem Bool} {σ : L2.St} {H : Hp} {Q : VK}
theorem g_makeS (q : t σ H fun vs H1 => kMake C sp (E σ) vs H1 Q) : tMakeS C sp E t σ H Q := q
theorem g_makeV (h : σ[i]? = some (some (.ref C))) (q : t σ H fun vs H1 => kMake C sp (E σ) vs H1 Q) : tMakeV i C sp E t σ H Q := ⟨h, q⟩
theorem g_cmethS (q : ta σ H fun x H1 => x = .ref C ∧ t σ H1 fun vs H2 => sp (.ref C :: vs) H2 Q (E σ)) : tCMethS C sp E ta t σ H Q := q
theorem run_makeS {pins : List (Addr × Obj)} {s : Shared} {us : List Value} {vs : List V} (M : Mk X.K C f) (F : FnOk X.prog X.w X.K X.mg X.base CX k f fd ps sp) (hr : Room (k + 1) X.A) (hb : L2.Binds X.K fd ps [])
    (hx : PassesAt CX X σ (E σ)) (I : L2.Inv X pins σ H s) (r : Vals vs us) (h : kMake C sp (E σ) vs H Q) : wpAny (model X.prog X.w) X.A (call (.ref C) us) (EP X pins σ Q) X.xe s := by
  have hq := h (s.heap.objs.size + 1) s.heap.objs.size (I.hok.fresh (Nat.le_succ _)) (I.hok.fresh (Nat.le_refl _)) (Nat.ne_of_lt (Nat.lt_succ_self _))
  have I2 := Inv.made (C := C) I
  have r2 : Vals (V.ref (s.heap.objs.size + 1) :: (vs ++ [])) (Value.ref (s.heap.objs.size + 1) :: (us ++ [])) := .cons rfl (r.append .nil)
  have hl : (Value.ref (s.heap.objs.size + 1) :: us ++ []).length = ps.length := by
    have e := r2.length
    rw [F.len _ _ _ _ hq] at e
    exact e.symm
  have bb := hb _ (Value.ref (s.heap.objs.size + 1) :: us) I2.kIn hl
  rw [List.cons_append] at bb
  refine wpAny_call (make_map (f := f) I.kIn M.makes M.init (beq_iff_eq.mp M.fn) (codeAny_mono (F.run _ X.stack _ _ ⟨Value.ref (s.heap.objs.size + 1) :: us, []⟩ (Value.ref (s.heap.objs.size + 1) :: (us ++ [])) _ _ (E σ) (hr.make C us [])
    (I2.env0.make C us []) bb r2 hq) fun r s' hq' => ?_))
  cases r with
  | error e => exact hx pins _ _ e s' I2 hq'
  | ok fl =>
    cases fl with
    | ret u =>
      obtain ⟨v, H', I3, rv, ev, q3⟩ := I2.after hq'
      subst ev
      exact ⟨rv, ⟨V.ref (s.heap.objs.size + 1), H', I3, rfl, q3⟩⟩
    | next => exact False.elim hq'
    | brk => exact False.elim hq'
    | cont => exact False.elim hq'
theorem pe_makeS (M : Mk X.K C f) (F : FnOk X.prog X.w X.K X.mg X.base CX k f fd ps sp) (hr : Room (k + 1) X.A) (hg : Gl X x) (hm : X.mg x = some (.ref C)) (hb : L2.Binds X.K fd ps []) (hx : ∀ σ, PassesAt CX X σ (E σ))
    (ha : PA X (e :: es) t) (hdb : (x == ("__debug__" : Str)) = false := by decide) (he : starEach (e :: es) X.env = (false, eval e X.env) :: starEach es X.env := by rfl) (hpl : (backTo pos (starEach es X.env)).any (·.1) = false := by rfl) :
    PE X (.Call (.Name x p0) (e :: es) [] pos) (tMakeS C sp E t) := by
  refine ⟨fun pins s σ H Q I h => ?_⟩
  refine wpAny_Call_Name_kw (ld_glob I hg hm ?_ hdb)
  refine PySem.W.callWith_K (h₀ := X.base) I.ok.mod.kin M.kp (thn (ha.run pos pins s σ H _ I h) fun us s1 ⟨vs, H1, I1, r, q⟩ => ⟨I1.kIn, ?_⟩) he hpl
  exact run_makeS M F hr hb (hx σ) I1 r q
theorem pe_makeV (M : Mk X.K C f) (F : FnOk X.prog X.w X.K X.mg X.base CX k f fd ps sp) (hr : Room (k + 1) X.A) (hN : X.N[i]? = some x) (hv : Vis X.env.scope x) (hb : L2.Binds X.K fd ps []) (hx : ∀ σ, PassesAt CX X σ (E σ))
    (ha : PA X (e :: es) t) (hd : (x == ("__debug__" : Str)) = false := by decide) (hcd : (x == ("__classdict__" : Str)) = false := by decide) (he : starEach (e :: es) X.env = (false, eval e X.env) :: starEach es X.env := by rfl) (hpl : (backTo pos (starEach es X.env)).any (·.1) = false := by rfl) :
    PE X (.Call (.Name x p0) (e :: es) [] pos) (tMakeV i C sp E t) := by
  refine ⟨fun pins s σ H Q I h => ?_⟩
  obtain ⟨hs, h⟩ := h
  refine wpAny_Call_Name_kw (thn ((pe_var (pos := p0) (i := i) hN hv hd hcd).run pins s σ H (fun v H1 => v = .ref C ∧ H1 = H) I ⟨.ref C, hs, rfl, rfl⟩) fun u s1 ⟨v, H1, I1, r1, ev, eH⟩ => ?_)
  subst ev
  rw [eH] at I1
  cases r1
  refine PySem.W.callWith_K (h₀ := X.base) I.ok.mod.kin M.kp (thn (ha.run pos pins s1 σ H _ I1 h) fun us s2 ⟨vs, H2, I2, r, q⟩ => ⟨I2.kIn, ?_⟩) he hpl
  exact run_makeS M F hr hb (hx σ) I2 r q
theorem run_cmS {pins : List (Addr × Obj)} {s : Shared} {q : Addr} {us : List Value} {vs : List V} (F : FnOk X.prog X.w X.K X.mg X.base CX k g fd ps sp) (hr : Room k X.A) (hb : L2.Binds X.K fd ps []) (hx : PassesAt CX X σ (E σ)) (I : L2.Inv X ((q, PySem.W.methodObj (.ref g) (.ref C)) :: pins) σ H s)
    (r : Vals vs us) (h : sp (.ref C :: vs) H Q (E σ)) : wpAny (model X.prog X.w) X.A (call (.ref q) us) (EP X pins σ Q) X.xe s := by
  have hl : (Value.ref C :: us).length = ps.length := by
    have r2 : Vals (V.ref C :: vs) (Value.ref C :: us) := .cons rfl r
    have e := r2.length
    rw [F.len _ _ _ _ h] at e
    exact e.symm
  have b := hb s (Value.ref C :: us) I.kIn (by rw [List.append_nil]; exact hl)
  rw [List.append_nil] at b
  have z : wpAny (model X.prog X.w) X.A (call (.ref q) us) (EP X ((q, PySem.W.methodObj (.ref g) (.ref C)) :: pins) σ Q) X.xe s := by
    refine wpAny_call (PySem.W.method_call (ClX.pin_at I) (codeAny_mono (F.run X.A X.stack s H ⟨Value.ref C :: us, []⟩ (Value.ref C :: us) (V.ref C :: vs) Q (E σ) hr I.env0 b (.cons rfl r) h) fun r s' hq => ?_))
    cases r with
    | error e => exact hx _ H s e s' I hq
    | ok fl =>
      cases fl with
      | ret u => exact I.after hq
      | next => exact False.elim hq
      | brk => exact False.elim hq
      | cont => exact False.elim hq
  exact thn z fun _ _ y => ClX.unpinE y
theorem pe_cmethS (he : PE X o ta) (r : ClX.CRead X.K C mc) (c : ClX.CMet X.K C mc m p g) (F : FnOk X.prog X.w X.K X.mg X.base CX k g fd ps sp) (hr : Room k X.A) (hb : L2.Binds X.K fd ps []) (hx : ∀ σ, PassesAt CX X σ (E σ)) (ha : PA X (e :: es) t)
    (hst : starEach (e :: es) X.env = (false, eval e X.env) :: starEach es X.env := by rfl) (hpl : (backTo pos (starEach es X.env)).any (·.1) = false := by rfl)
    (ht : eval (.Call (.Attribute o m apos) (e :: es) [] pos) X.env = (do
      let ov ← eval o X.env
      standAt apos.atName
      let (f, first) ← holding [ov] (getMethod ov m pl)
      callWith pos f first (backTo pos (starEach (e :: es) X.env)) (backToKw pos (keywordEach [] X.env))) := by rfl) :
    PE X (.Call (.Attribute o m apos) (e :: es) [] pos) (tCMethS C sp E ta t) := by
  refine ⟨fun pins s σ H Q I h => ?_⟩
  refine PySem.W.methodCall_KW (pl := pl) (thn (he.run pins s σ H _ I h) fun u s1 ⟨x, H1, I1, rx, ex, q⟩ => ?_) ht
  subst ex
  obtain rfl : u = Value.ref C := rx
  refine ClX.getmethcm_ok I1 r c fun s2 I2 => ?_
  refine ClX.callwith_cm I2 (ClX.base_none I1 (Nat.le_refl _)) c.fi (thn (ha.run pos _ s2 σ H1 _ I2 q) fun us s3 ⟨vs, H2, I3, rv, q2⟩ => ⟨⟨ClX.pin_at I3, I3.kIn⟩, ?_⟩) hst hpl
  exact run_cmS F hr hb (hx σ) I3 rv q2
end
end Qk

/-! Qlo: a loop over an own object whose __iter__ gives an iterator of a list; defs with a star parameter -/
namespace Qk
open PySem PySem.Spec PyProof.Rows L2
def kForO (K : PySem.W.Frag) (C : Addr) (sp : Sp) (EI : XK) (g : TG) (ts : TS) (D : Ends) (σ : L2.St) (x : V) (H : Hp) : Prop := ∃ a dx fs, x = .ref a ∧ H a = some (.ins C dx fs) ∧ sp [.ref a] H (fun v H' => ∃ (it l : Addr) (ys : List V), v = .ref it ∧ H it = none ∧ H' it = some (ItO l it 0) ∧ H' l = some (.lst ys) ∧ it ≠ l ∧ kW (Itl K l) g ts D σ (rm H' it)) EI
section
variable {K : PySem.W.Frag} {σ : L2.St} {H : Hp} {ta : TE} {g : TG} {ts : TS} {D : Ends} {C : Addr} {sp : Sp} {EI : XK}
theorem g_forO (q : ta σ H fun x H1 => kForO K C sp EI g ts D σ x H1) : tFor (iOwnI K C sp EI ta) g ts D σ H := q
theorem k_forO {a dx l : Addr} {fs : List (Str × V)} {nl : Str} {ys : List V} (h : H a = some (.ins C dx fs)) (lk : fs.lookup nl = some (.ref l)) (hl : H l = some (.lst ys)) (q : kForL K g ts D σ (.ref l) H) : kForO K C (spIt C nl) EI g ts D σ (.ref a) H := by
  refine ⟨a, dx, fs, rfl, h, a, dx, fs, l, ys, rfl, h, lk, hl, fun it ni => ?_⟩
  have ne : it ≠ l := fun e => by rw [e, hl] at ni; cases ni
  refine ⟨it, l, ys, rfl, ni, upd_same, by rw [upd_ne ne.symm]; exact hl, ne, ?_⟩
  have e : rm (upd H it (ItO l it 0)) it = H := by
    funext x
    by_cases c : x = it
    · rw [c, rm_at, ni]
    · rw [rm_ne c, upd_ne c]
  rw [e]
  obtain ⟨b, eb, _, qq⟩ := q
  cases eb
  exact qq
end
/-! ### def f(a, *r) -/
/-- what a call of it promises: r is a new tuple -/
def spV (sp : Sp) : Sp := fun vs H Q E => ∃ v rest, vs = v :: rest ∧ rest.length ≤ 5 ∧ ∀ p, H p = none → sp [v, .ref p] (upd H p (.tup rest)) Q E
section
variable {P : Program} {w : World} {K : PySem.W.Frag} {mg : Str → Option Value} {base : Heap}
theorem okV {x qual : Str} {st : Stmt} {f : Addr} {fd : FuncData} {N : List Str} {pa pv : Str} {k : Nat} {sp : Sp} (F : Fun K x qual st f fd) (hb : ∀ (u : Value) (rest : List Value), rest.length ≤ 5 → bindArgs fd ⟨u :: rest, []⟩ = (newTuple rest >>= fun t => pure [(pa, u), (pv, t)])) (S : FnScope N [pa, pv] (defScope st))
    (hbody : ∀ (cdv : Value) (A : Around) (outer : List Env) (s : Shared) (H : Hp) (vs : List V) (Q : VK) (E : XK), Room k (A.deeper (envOfC qual (defScope st) s.heap.objs.size f cdv)) → sp vs H Q E →
      ∃ t, PSs (cxOf CX0 P w K mg base N qual (defScope st) f cdv A outer s H E).nox (defBody st) t ∧ t { nx := fun _ H' => Q .non H', rt := Q } (L2.start N vs) H) : FnR P w K mg base CX0 (k + 1) f (spV sp) := by
  obtain ⟨oc, od, kV, doc, pm, an, cdv, ct, osl, rfl, lk, hcd⟩ := F.ex
  refine fn_ofV lk hcd S (by decide) hb (fun _ _ _ _ _ _ _ _ _ _ _ _ z => z) fun A outer s H vs Q E hr hsp => ?_
  obtain ⟨t, h, q⟩ := hbody cdv A outer s H vs Q E hr hsp
  exact ⟨t, h.nox, q⟩
theorem bindsV {x qual : Str} {st : Stmt} {f : Addr} {fd : FuncData} {pa pv : Str} (F : Fun K x qual st f fd)
    (h : ∀ (kV doc pm : Value) (an : Option Addr) (cdv ct : Value) (u : Value) (rest : List Value), rest.length ≤ 5 → bindArgs (PySem.W.fnOf x qual (defArgs st) (defBody st) (defScope st) .none kV doc pm an cdv ct) ⟨u :: rest, []⟩ = (newTuple rest >>= fun t => pure [(pa, u), (pv, t)])) :
    ∀ (u : Value) (rest : List Value), rest.length ≤ 5 → bindArgs fd ⟨u :: rest, []⟩ = (newTuple rest >>= fun t => pure [(pa, u), (pv, t)]) := by
  obtain ⟨oc, od, kV, doc, pm, an, cdv, ct, osl, rfl, lk, hcd⟩ := F.ex
  exact h kV doc pm an cdv ct
variable {X : Cx} {CX : CXT} {k : Nat} {f : Addr} {sp : Sp} {E : XK} {x : Str} {e : Expr} {es : List Expr} {t : TA} {p pos : Pos}
theorem pe_callFR (F : FnR X.prog X.w X.K X.mg X.base CX k f sp) (hr : Room k X.A) (hg : Gl X x) (hm : X.mg x = some (.ref f)) (hk : PySem.W.keepIn X.K (.ref f) = true) (hx : Passes CX X E) (ha : PA X (e :: es) t)
    (hdb : (x == ("__debug__" : Str)) = false := by decide) (he : starEach (e :: es) X.env = (false, eval e X.env) :: starEach es X.env := by rfl) (hpl : (backTo pos (starEach es X.env)).any (·.1) = false := by rfl) :
    PE X (.Call (.Name x p) (e :: es) [] pos) (tCall sp [] E t) := by
  refine ⟨fun pins s σ H Q I h => ?_⟩
  refine wpAny_Call_Name_kw (ld_glob I hg hm ?_ hdb)
  refine PySem.W.callWith_K (h₀ := X.base) I.ok.mod.kin hk (thn (ha.run pos pins s σ H _ I h) fun us s1 ⟨vs, H1, I1, r, q⟩ => ⟨I1.kIn, ?_⟩) he hpl
  exact wpAny_call (run_fnR F hr hx I1 r (by simpa using q))
end
/-! ### a, b = a list -/
section
variable {X : Cx}
theorem k_gu {tg : Expr} {n : Nat} {t : TGs} (K : PySem.W.Frag) (h : PG X tg (gUnl X.K n t)) (e : X.K = K := by rfl) : PG X tg (gUnl K n t) := by subst e; exact h
theorem g_gunl {K : PySem.W.Frag} {σ : L2.St} {H : Hp} {n : Nat} {t : TGs} {a : Addr} {xs : List V} {R : L2.St → Hp → Prop} (h : H a = some (.lst xs)) (hl : xs.length = n) (q : t xs σ H R) : gUnl K n t (.ref a) σ H R := ⟨a, xs, rfl, SqL.of h, hl, q⟩
end
end Qk

namespace K29
open PySem PySem.Spec PyProof.Rows L2 Qk
/-! ### the text -/
def topS (i : Nat) : Stmt := PySem.Challenge.pw_partclones_k29_lot_plus_minus.main.body.getD i (.Pass ⟨0, 0, 0, 0⟩)
abbrev s_wall : Stmt := topS 0
abbrev n_wall : List Str := ["k"]
theorem sc_wall : FnScope n_wall ["k"] (defScope s_wall) := ⟨rfl, rfl, rfl, by decide +kernel, rfl, by decide +kernel, by decide +kernel⟩
abbrev s_group_under : Stmt := topS 2
abbrev n_group_under : List Str := ["order", "group", "found", "member", "version"]
theorem sc_group_under : FnScope n_group_under ["order", "group"] (defScope s_group_under) := ⟨rfl, rfl, rfl, by decide +kernel, rfl, by decide +kernel, by decide +kernel⟩
abbrev s_top_versions : Stmt := topS 3
abbrev n_top_versions : List Str := ["order", "versions", "covered", "version", "low"]
theorem sc_top_versions : FnScope n_top_versions ["order", "versions"] (defScope s_top_versions) := ⟨rfl, rfl, rfl, by decide +kernel, rfl, by decide +kernel, by decide +kernel⟩
abbrev s_common : Stmt := topS 4
abbrev n_common : List Str := ["order", "ones", "others", "checked_ones", "checked_others", "under_others", "version"]
theorem sc_common : FnScope n_common ["order", "ones", "others"] (defScope s_common) := ⟨rfl, rfl, rfl, by decide +kernel, rfl, by decide +kernel, by decide +kernel⟩
abbrev s_group_bases : Stmt := topS 5
abbrev n_group_bases : List Str := ["order", "ones", "others"]
theorem sc_group_bases : FnScope n_group_bases ["order", "ones", "others"] (defScope s_group_bases) := ⟨rfl, rfl, rfl, by decide +kernel, rfl, by decide +kernel, by decide +kernel⟩
abbrev s_merge_bases : Stmt := topS 6
abbrev n_merge_bases : List Str := ["order", "one", "other"]
theorem sc_merge_bases : FnScope n_merge_bases ["order", "one", "other"] (defScope s_merge_bases) := ⟨rfl, rfl, rfl, by decide +kernel, rfl, by decide +kernel, by decide +kernel⟩
abbrev s_new_bases : Stmt := topS 8
abbrev n_new_bases : List Str := ["order", "members", "fresh", "found", "at", "one", "other", "base"]
theorem sc_new_bases : FnScope n_new_bases ["order", "members", "fresh"] (defScope s_new_bases) := ⟨rfl, rfl, rfl, by decide +kernel, rfl, by decide +kernel, by decide +kernel⟩
abbrev s_closure : Stmt := topS 9
abbrev n_closure : List Str := ["order", "names", "members", "fresh"]
theorem sc_closure : FnScope n_closure ["order", "names"] (defScope s_closure) := ⟨rfl, rfl, rfl, by decide +kernel, rfl, by decide +kernel, by decide +kernel⟩
abbrev s_missing_bases : Stmt := topS 11
abbrev n_missing_bases : List Str := ["order", "members", "first", "second", "base"]
theorem sc_missing_bases : FnScope n_missing_bases ["order", "members", "first", "second"] (defScope s_missing_bases) := ⟨rfl, rfl, rfl, by decide +kernel, rfl, by decide +kernel, by decide +kernel⟩
abbrev s_first_gap : Stmt := topS 12
abbrev n_first_gap : List Str := ["order", "names", "members", "at", "first", "second", "missing"]
theorem sc_first_gap : FnScope n_first_gap ["order", "names"] (defScope s_first_gap) := ⟨rfl, rfl, rfl, by decide +kernel, rfl, by decide +kernel, by decide +kernel⟩
abbrev s_is_needed : Stmt := topS 13
abbrev n_is_needed : List Str := ["order", "members", "name", "others", "at", "first", "second", "member"]
theorem sc_is_needed : FnScope n_is_needed ["order", "members", "name"] (defScope s_is_needed) := ⟨rfl, rfl, rfl, by decide +kernel, rfl, by decide +kernel, by decide +kernel⟩
abbrev s_joined : Stmt := topS 24
abbrev n_joined : List Str := ["first", "others", "members", "lot", "name"]
theorem sc_joined : FnScope n_joined ["first", "others"] (defScope s_joined) := ⟨rfl, rfl, rfl, by decide +kernel, rfl, by decide +kernel, by decide +kernel⟩
abbrev s_is_name : Stmt := topS 29
abbrev n_is_name : List Str := ["value", "sign"]
theorem sc_is_name : FnScope n_is_name ["value"] (defScope s_is_name) := ⟨rfl, rfl, rfl, by decide +kernel, rfl, by decide +kernel, by decide +kernel⟩
abbrev s_l_cells : Stmt := topS 33
abbrev n_l_cells : List Str := ["script", "cell"]
theorem sc_l_cells : FnScope n_l_cells ["script"] (defScope s_l_cells) := ⟨rfl, rfl, rfl, by decide +kernel, rfl, by decide +kernel, by decide +kernel⟩
abbrev s_l_next : Stmt := topS 34
abbrev n_l_next : List Str := ["feed", "many", "drawn"]
theorem sc_l_next : FnScope n_l_next ["feed", "many"] (defScope s_l_next) := ⟨rfl, rfl, rfl, by decide +kernel, rfl, by decide +kernel, by decide +kernel⟩
abbrev s_l_draw_web : Stmt := topS 35
abbrev n_l_draw_web : List Str := ["feed", "many", "wide", "web", "k", "row", "j", "low", "back", "one"]
theorem sc_l_draw_web : FnScope n_l_draw_web ["feed", "many"] (defScope s_l_draw_web) := ⟨rfl, rfl, rfl, by decide +kernel, rfl, by decide +kernel, by decide +kernel⟩
abbrev s_l_draw_picks : Stmt := topS 36
abbrev n_l_draw_picks : List Str := ["feed", "many", "rest", "picks", "sizes", "k", "place"]
theorem sc_l_draw_picks : FnScope n_l_draw_picks ["feed", "many"] (defScope s_l_draw_picks) := ⟨rfl, rfl, rfl, by decide +kernel, rfl, by decide +kernel, by decide +kernel⟩
abbrev s_l_spelt : Stmt := topS 37
abbrev n_l_spelt : List Str := ["code", "signs", "word", "rest", "k"]
theorem sc_l_spelt : FnScope n_l_spelt ["code"] (defScope s_l_spelt) := ⟨rfl, rfl, rfl, by decide +kernel, rfl, by decide +kernel, by decide +kernel⟩
abbrev s_l_draw_names : Stmt := topS 38
abbrev n_l_draw_names : List Str := ["feed", "many", "start", "step", "menu", "k"]
theorem sc_l_draw_names : FnScope n_l_draw_names ["feed", "many"] (defScope s_l_draw_names) := ⟨rfl, rfl, rfl, by decide +kernel, rfl, by decide +kernel, by decide +kernel⟩
abbrev s_l_put_all : Stmt := topS 39
abbrev n_l_put_all : List Str := ["web", "names", "order", "k", "parents", "one"]
theorem sc_l_put_all : FnScope n_l_put_all ["web", "names"] (defScope s_l_put_all) := ⟨rfl, rfl, rfl, by decide +kernel, rfl, by decide +kernel, by decide +kernel⟩
abbrev s_l_below_all : Stmt := topS 40
abbrev n_l_below_all : List Str := ["web", "names", "under", "k", "low", "one", "more", "name"]
theorem sc_l_below_all : FnScope n_l_below_all ["web", "names"] (defScope s_l_below_all) := ⟨rfl, rfl, rfl, by decide +kernel, rfl, by decide +kernel, by decide +kernel⟩
abbrev s_l_base_row : Stmt := topS 41
abbrev n_l_base_row : List Str := ["under", "one", "other", "low", "both", "name", "high"]
theorem sc_l_base_row : FnScope n_l_base_row ["under", "one", "other"] (defScope s_l_base_row) := ⟨rfl, rfl, rfl, by decide +kernel, rfl, by decide +kernel, by decide +kernel⟩
abbrev s_l_base_rows : Stmt := topS 42
abbrev n_l_base_rows : List Str := ["under", "bases", "one", "other"]
theorem sc_l_base_rows : FnScope n_l_base_rows ["under"] (defScope s_l_base_rows) := ⟨rfl, rfl, rfl, by decide +kernel, rfl, by decide +kernel, by decide +kernel⟩
abbrev s_l_gaps : Stmt := topS 43
abbrev n_l_gaps : List Str := ["bases", "some", "found", "one", "other", "row", "base"]
theorem sc_l_gaps : FnScope n_l_gaps ["bases", "some"] (defScope s_l_gaps) := ⟨rfl, rfl, rfl, by decide +kernel, rfl, by decide +kernel, by decide +kernel⟩
abbrev s_l_closure : Stmt := topS 44
abbrev n_l_closure : List Str := ["bases", "some", "found", "k", "missing"]
theorem sc_l_closure : FnScope n_l_closure ["bases", "some"] (defScope s_l_closure) := ⟨rfl, rfl, rfl, by decide +kernel, rfl, by decide +kernel, by decide +kernel⟩
abbrev s_l_is_needed : Stmt := topS 45
abbrev n_l_is_needed : List Str := ["bases", "some", "name", "row", "one", "other"]
theorem sc_l_is_needed : FnScope n_l_is_needed ["bases", "some", "name"] (defScope s_l_is_needed) := ⟨rfl, rfl, rfl, by decide +kernel, rfl, by decide +kernel, by decide +kernel⟩
abbrev s_l_first_fault : Stmt := topS 46
abbrev n_l_first_fault : List Str := ["bases", "handed", "k"]
theorem sc_l_first_fault : FnScope n_l_first_fault ["bases", "handed"] (defScope s_l_first_fault) := ⟨rfl, rfl, rfl, by decide +kernel, rfl, by decide +kernel, by decide +kernel⟩
abbrev s_l_same : Stmt := topS 47
abbrev n_l_same : List Str := ["told", "due"]
theorem sc_l_same : FnScope n_l_same ["told", "due"] (defScope s_l_same) := ⟨rfl, rfl, rfl, by decide +kernel, rfl, by decide +kernel, by decide +kernel⟩
abbrev s_l_is_list : Stmt := topS 48
abbrev n_l_is_list : List Str := ["told", "due", "k"]
theorem sc_l_is_list : FnScope n_l_is_list ["told", "due"] (defScope s_l_is_list) := ⟨rfl, rfl, rfl, by decide +kernel, rfl, by decide +kernel, by decide +kernel⟩
abbrev s_l_lacks : Stmt := topS 49
abbrev n_l_lacks : List Str := ["some", "row", "name"]
theorem sc_l_lacks : FnScope n_l_lacks ["some", "row"] (defScope s_l_lacks) := ⟨rfl, rfl, rfl, by decide +kernel, rfl, by decide +kernel, by decide +kernel⟩
abbrev s_l_is_lot : Stmt := topS 50
abbrev n_l_is_lot : List Str := ["lot", "due", "names", "told", "name"]
theorem sc_l_is_lot : FnScope n_l_is_lot ["lot", "due", "names"] (defScope s_l_is_lot) := ⟨rfl, rfl, rfl, by decide +kernel, rfl, by decide +kernel, by decide +kernel⟩
abbrev s_l_over_refused : Stmt := topS 51
abbrev n_l_over_refused : List Str := ["order", "handed", "fault", "kept", "why", "good"]
theorem sc_l_over_refused : FnScope n_l_over_refused ["order", "handed", "fault"] (defScope s_l_over_refused) := ⟨rfl, rfl, rfl, by decide +kernel, rfl, by decide +kernel, by decide +kernel⟩
abbrev s_l_refused : Stmt := topS 52
abbrev n_l_refused : List Str := ["kind", "lot", "name", "word", "why", "good"]
theorem sc_l_refused : FnScope n_l_refused ["kind", "lot", "name", "word"] (defScope s_l_refused) := ⟨rfl, rfl, rfl, by decide +kernel, rfl, by decide +kernel, by decide +kernel⟩
abbrev s_l_minus : Stmt := topS 53
abbrev n_l_minus : List Str := ["bases", "lot", "some", "names", "name"]
theorem sc_l_minus : FnScope n_l_minus ["bases", "lot", "some", "names"] (defScope s_l_minus) := ⟨rfl, rfl, rfl, by decide +kernel, rfl, by decide +kernel, by decide +kernel⟩
abbrev s_l_joined : Stmt := topS 54
abbrev n_l_joined : List Str := ["bases", "lots", "some", "names", "one", "other", "last", "two", "three"]
theorem sc_l_joined : FnScope n_l_joined ["bases", "lots", "some", "names"] (defScope s_l_joined) := ⟨rfl, rfl, rfl, by decide +kernel, rfl, by decide +kernel, by decide +kernel⟩
abbrev s_l_stay : Stmt := topS 55
abbrev n_l_stay : List Str := ["lots", "due", "names", "k"]
theorem sc_l_stay : FnScope n_l_stay ["lots", "due", "names"] (defScope s_l_stay) := ⟨rfl, rfl, rfl, by decide +kernel, rfl, by decide +kernel, by decide +kernel⟩
abbrev s_law : Stmt := topS 56
abbrev n_law : List Str := ["script", "feed", "many", "web", "rows", "turn", "place", "pick", "names", "late", "asked", "order", "bases", "some", "kept", "due", "lots", "odd", "bad", "row", "name", "wide", "k"]
theorem sc_law : FnScope n_law ["script"] (defScope s_law) := ⟨rfl, rfl, rfl, by decide +kernel, rfl, by decide +kernel, by decide +kernel⟩
abbrev s_Lot___init__ : Stmt := inClass (topS 23) 0
abbrev n_Lot___init__ : List Str := ["self", "order", "names", "members", "gap", "first", "second", "missing"]
theorem sc_Lot___init__ : FnScope n_Lot___init__ ["self", "order", "names"] (defScope s_Lot___init__) := ⟨rfl, rfl, rfl, by decide +kernel, rfl, by decide +kernel, by decide +kernel⟩
abbrev s_Lot_over : Stmt := inClass (topS 23) 1
abbrev n_Lot_over : List Str := ["cls", "order", "names"]
theorem sc_Lot_over : FnScope n_Lot_over ["cls", "order", "names"] (defScope s_Lot_over) := ⟨rfl, rfl, rfl, by decide +kernel, rfl, by decide +kernel, by decide +kernel⟩
abbrev s_Lot___contains__ : Stmt := inClass (topS 23) 2
abbrev n_Lot___contains__ : List Str := ["self", "name"]
theorem sc_Lot___contains__ : FnScope n_Lot___contains__ ["self", "name"] (defScope s_Lot___contains__) := ⟨rfl, rfl, rfl, by decide +kernel, rfl, by decide +kernel, by decide +kernel⟩
abbrev s_Lot___iter__ : Stmt := inClass (topS 23) 3
abbrev n_Lot___iter__ : List Str := ["self"]
theorem sc_Lot___iter__ : FnScope n_Lot___iter__ ["self"] (defScope s_Lot___iter__) := ⟨rfl, rfl, rfl, by decide +kernel, rfl, by decide +kernel, by decide +kernel⟩
abbrev s_Lot___eq__ : Stmt := inClass (topS 23) 4
abbrev n_Lot___eq__ : List Str := ["self", "other"]
theorem sc_Lot___eq__ : FnScope n_Lot___eq__ ["self", "other"] (defScope s_Lot___eq__) := ⟨rfl, rfl, rfl, by decide +kernel, rfl, by decide +kernel, by decide +kernel⟩
abbrev s_Lot___and__ : Stmt := inClass (topS 23) 5
abbrev n_Lot___and__ : List Str := ["self", "other", "name"]
theorem sc_Lot___and__ : FnScope n_Lot___and__ ["self", "other"] (defScope s_Lot___and__) := ⟨rfl, rfl, rfl, by decide +kernel, rfl, by decide +kernel, by decide +kernel⟩
abbrev s_Lot___or__ : Stmt := inClass (topS 23) 6
abbrev n_Lot___or__ : List Str := ["self", "other", "further", "name"]
theorem sc_Lot___or__ : FnScope n_Lot___or__ ["self", "other"] (defScope s_Lot___or__) := ⟨rfl, rfl, rfl, by decide +kernel, rfl, by decide +kernel, by decide +kernel⟩
abbrev s_Lot_within : Stmt := inClass (topS 23) 7
abbrev n_Lot_within : List Str := ["self", "other"]
theorem sc_Lot_within : FnScope n_Lot_within ["self", "other"] (defScope s_Lot_within) := ⟨rfl, rfl, rfl, by decide +kernel, rfl, by decide +kernel, by decide +kernel⟩
abbrev s_Lot_plus : Stmt := inClass (topS 23) 8
abbrev n_Lot_plus : List Str := ["self", "name"]
theorem sc_Lot_plus : FnScope n_Lot_plus ["self", "name"] (defScope s_Lot_plus) := ⟨rfl, rfl, rfl, by decide +kernel, rfl, by decide +kernel, by decide +kernel⟩
abbrev s_Lot_minus : Stmt := inClass (topS 23) 9
abbrev n_Lot_minus : List Str := ["self", "name", "member"]
theorem sc_Lot_minus : FnScope n_Lot_minus ["self", "name"] (defScope s_Lot_minus) := ⟨rfl, rfl, rfl, by decide +kernel, rfl, by decide +kernel, by decide +kernel⟩
abbrev s_Order___init__ : Stmt := inClass (topS 31) 0
abbrev n_Order___init__ : List Str := ["self"]
theorem sc_Order___init__ : FnScope n_Order___init__ ["self"] (defScope s_Order___init__) := ⟨rfl, rfl, rfl, by decide +kernel, rfl, by decide +kernel, by decide +kernel⟩
abbrev s_Order_put : Stmt := inClass (topS 31) 1
abbrev n_Order_put : List Str := ["self", "name", "parents", "checked_parents", "found", "parent", "version"]
theorem sc_Order_put : FnScope n_Order_put ["self", "name", "parents"] (defScope s_Order_put) := ⟨rfl, rfl, rfl, by decide +kernel, rfl, by decide +kernel, by decide +kernel⟩
abbrev s_Order___iter__ : Stmt := inClass (topS 31) 2
abbrev n_Order___iter__ : List Str := ["self"]
theorem sc_Order___iter__ : FnScope n_Order___iter__ ["self"] (defScope s_Order___iter__) := ⟨rfl, rfl, rfl, by decide +kernel, rfl, by decide +kernel, by decide +kernel⟩
abbrev s_Order_names : Stmt := inClass (topS 31) 3
abbrev n_Order_names : List Str := ["self"]
theorem sc_Order_names : FnScope n_Order_names ["self"] (defScope s_Order_names) := ⟨rfl, rfl, rfl, by decide +kernel, rfl, by decide +kernel, by decide +kernel⟩
abbrev s_Order_has : Stmt := inClass (topS 31) 4
abbrev n_Order_has : List Str := ["self", "name"]
theorem sc_Order_has : FnScope n_Order_has ["self", "name"] (defScope s_Order_has) := ⟨rfl, rfl, rfl, by decide +kernel, rfl, by decide +kernel, by decide +kernel⟩
abbrev s_Order_under : Stmt := inClass (topS 31) 5
abbrev n_Order_under : List Str := ["self", "name"]
theorem sc_Order_under : FnScope n_Order_under ["self", "name"] (defScope s_Order_under) := ⟨rfl, rfl, rfl, by decide +kernel, rfl, by decide +kernel, by decide +kernel⟩
abbrev s_Order_is_under : Stmt := inClass (topS 31) 6
abbrev n_Order_is_under : List Str := ["self", "low", "high"]
theorem sc_Order_is_under : FnScope n_Order_is_under ["self", "low", "high"] (defScope s_Order_is_under) := ⟨rfl, rfl, rfl, by decide +kernel, rfl, by decide +kernel, by decide +kernel⟩
abbrev s_Order_nearest : Stmt := inClass (topS 31) 7
abbrev n_Order_nearest : List Str := ["self", "name"]
theorem sc_Order_nearest : FnScope n_Order_nearest ["self", "name"] (defScope s_Order_nearest) := ⟨rfl, rfl, rfl, by decide +kernel, rfl, by decide +kernel, by decide +kernel⟩
abbrev s_Order_checked : Stmt := inClass (topS 31) 8
abbrev n_Order_checked : List Str := ["self", "names", "found", "name"]
theorem sc_Order_checked : FnScope n_Order_checked ["self", "names"] (defScope s_Order_checked) := ⟨rfl, rfl, rfl, by decide +kernel, rfl, by decide +kernel, by decide +kernel⟩
set_option maxHeartbeats 4000000 in
structure Txt (K : PySem.W.Frag) (mg : Str → Option Value) where
  f_wall : Addr
  fd_wall : FuncData
  F_wall : Fun K "_wall" "_wall" s_wall f_wall fd_wall
  g_wall : mg "_wall" = some (.ref f_wall)
  b_wall : Binds K fd_wall ["k"] []
  f_group_under : Addr
  fd_group_under : FuncData
  F_group_under : Fun K "_group_under" "_group_under" s_group_under f_group_under fd_group_under
  g_group_under : mg "_group_under" = some (.ref f_group_under)
  b_group_under : Binds K fd_group_under ["order", "group"] []
  f_top_versions : Addr
  fd_top_versions : FuncData
  F_top_versions : Fun K "_top_versions" "_top_versions" s_top_versions f_top_versions fd_top_versions
  g_top_versions : mg "_top_versions" = some (.ref f_top_versions)
  b_top_versions : Binds K fd_top_versions ["order", "versions"] []
  f_common : Addr
  fd_common : FuncData
  F_common : Fun K "common" "common" s_common f_common fd_common
  g_common : mg "common" = some (.ref f_common)
  b_common : Binds K fd_common ["order", "ones", "others"] []
  f_group_bases : Addr
  fd_group_bases : FuncData
  F_group_bases : Fun K "group_bases" "group_bases" s_group_bases f_group_bases fd_group_bases
  g_group_bases : mg "group_bases" = some (.ref f_group_bases)
  b_group_bases : Binds K fd_group_bases ["order", "ones", "others"] []
  f_merge_bases : Addr
  fd_merge_bases : FuncData
  F_merge_bases : Fun K "merge_bases" "merge_bases" s_merge_bases f_merge_bases fd_merge_bases
  g_merge_bases : mg "merge_bases" = some (.ref f_merge_bases)
  b_merge_bases : Binds K fd_merge_bases ["order", "one", "other"] []
  f_new_bases : Addr
  fd_new_bases : FuncData
  F_new_bases : Fun K "_new_bases" "_new_bases" s_new_bases f_new_bases fd_new_bases
  g_new_bases : mg "_new_bases" = some (.ref f_new_bases)
  b_new_bases : Binds K fd_new_bases ["order", "members", "fresh"] []
  f_closure : Addr
  fd_closure : FuncData
  F_closure : Fun K "closure" "closure" s_closure f_closure fd_closure
  g_closure : mg "closure" = some (.ref f_closure)
  b_closure : Binds K fd_closure ["order", "names"] []
  f_missing_bases : Addr
  fd_missing_bases : FuncData
  F_missing_bases : Fun K "_missing_bases" "_missing_bases" s_missing_bases f_missing_bases fd_missing_bases
  g_missing_bases : mg "_missing_bases" = some (.ref f_missing_bases)
  b_missing_bases : Binds K fd_missing_bases ["order", "members", "first", "second"] []
  f_first_gap : Addr
  fd_first_gap : FuncData
  F_first_gap : Fun K "first_gap" "first_gap" s_first_gap f_first_gap fd_first_gap
  g_first_gap : mg "first_gap" = some (.ref f_first_gap)
  b_first_gap : Binds K fd_first_gap ["order", "names"] []
  f_is_needed : Addr
  fd_is_needed : FuncData
  F_is_needed : Fun K "is_needed" "is_needed" s_is_needed f_is_needed fd_is_needed
  g_is_needed : mg "is_needed" = some (.ref f_is_needed)
  b_is_needed : Binds K fd_is_needed ["order", "members", "name"] []
  f_joined : Addr
  fd_joined : FuncData
  F_joined : Fun K "joined" "joined" s_joined f_joined fd_joined
  g_joined : mg "joined" = some (.ref f_joined)
  V_joined : ∀ (u : Value) (rest : List Value), rest.length ≤ 5 → bindArgs fd_joined ⟨u :: rest, []⟩ = (newTuple rest >>= fun t => pure [(("first" : Str), u), (("others" : Str), t)])
  f_is_name : Addr
  fd_is_name : FuncData
  F_is_name : Fun K "is_name" "is_name" s_is_name f_is_name fd_is_name
  g_is_name : mg "is_name" = some (.ref f_is_name)
  b_is_name : Binds K fd_is_name ["value"] []
  f_l_cells : Addr
  fd_l_cells : FuncData
  F_l_cells : Fun K "_law_cells" "_law_cells" s_l_cells f_l_cells fd_l_cells
  g_l_cells : mg "_law_cells" = some (.ref f_l_cells)
  b_l_cells : Binds K fd_l_cells ["script"] []
  f_l_next : Addr
  fd_l_next : FuncData
  F_l_next : Fun K "_law_next" "_law_next" s_l_next f_l_next fd_l_next
  g_l_next : mg "_law_next" = some (.ref f_l_next)
  b_l_next : Binds K fd_l_next ["feed", "many"] []
  f_l_draw_web : Addr
  fd_l_draw_web : FuncData
  F_l_draw_web : Fun K "_law_draw_web" "_law_draw_web" s_l_draw_web f_l_draw_web fd_l_draw_web
  g_l_draw_web : mg "_law_draw_web" = some (.ref f_l_draw_web)
  b_l_draw_web : Binds K fd_l_draw_web ["feed", "many"] []
  f_l_draw_picks : Addr
  fd_l_draw_picks : FuncData
  F_l_draw_picks : Fun K "_law_draw_picks" "_law_draw_picks" s_l_draw_picks f_l_draw_picks fd_l_draw_picks
  g_l_draw_picks : mg "_law_draw_picks" = some (.ref f_l_draw_picks)
  b_l_draw_picks : Binds K fd_l_draw_picks ["feed", "many"] []
  f_l_spelt : Addr
  fd_l_spelt : FuncData
  F_l_spelt : Fun K "_law_spelt" "_law_spelt" s_l_spelt f_l_spelt fd_l_spelt
  g_l_spelt : mg "_law_spelt" = some (.ref f_l_spelt)
  b_l_spelt : Binds K fd_l_spelt ["code"] []
  f_l_draw_names : Addr
  fd_l_draw_names : FuncData
  F_l_draw_names : Fun K "_law_draw_names" "_law_draw_names" s_l_draw_names f_l_draw_names fd_l_draw_names
  g_l_draw_names : mg "_law_draw_names" = some (.ref f_l_draw_names)
  b_l_draw_names : Binds K fd_l_draw_names ["feed", "many"] []
  f_l_put_all : Addr
  fd_l_put_all : FuncData
  F_l_put_all : Fun K "_law_put_all" "_law_put_all" s_l_put_all f_l_put_all fd_l_put_all
  g_l_put_all : mg "_law_put_all" = some (.ref f_l_put_all)
  b_l_put_all : Binds K fd_l_put_all ["web", "names"] []
  f_l_below_all : Addr
  fd_l_below_all : FuncData
  F_l_below_all : Fun K "_law_below_all" "_law_below_all" s_l_below_all f_l_below_all fd_l_below_all
  g_l_below_all : mg "_law_below_all" = some (.ref f_l_below_all)
  b_l_below_all : Binds K fd_l_below_all ["web", "names"] []
  f_l_base_row : Addr
  fd_l_base_row : FuncData
  F_l_base_row : Fun K "_law_base_row" "_law_base_row" s_l_base_row f_l_base_row fd_l_base_row
  g_l_base_row : mg "_law_base_row" = some (.ref f_l_base_row)
  b_l_base_row : Binds K fd_l_base_row ["under", "one", "other"] []
  f_l_base_rows : Addr
  fd_l_base_rows : FuncData
  F_l_base_rows : Fun K "_law_base_rows" "_law_base_rows" s_l_base_rows f_l_base_rows fd_l_base_rows
  g_l_base_rows : mg "_law_base_rows" = some (.ref f_l_base_rows)
  b_l_base_rows : Binds K fd_l_base_rows ["under"] []
  f_l_gaps : Addr
  fd_l_gaps : FuncData
  F_l_gaps : Fun K "_law_gaps" "_law_gaps" s_l_gaps f_l_gaps fd_l_gaps
  g_l_gaps : mg "_law_gaps" = some (.ref f_l_gaps)
  b_l_gaps : Binds K fd_l_gaps ["bases", "some"] []
  f_l_closure : Addr
  fd_l_closure : FuncData
  F_l_closure : Fun K "_law_closure" "_law_closure" s_l_closure f_l_closure fd_l_closure
  g_l_closure : mg "_law_closure" = some (.ref f_l_closure)
  b_l_closure : Binds K fd_l_closure ["bases", "some"] []
  f_l_is_needed : Addr
  fd_l_is_needed : FuncData
  F_l_is_needed : Fun K "_law_is_needed" "_law_is_needed" s_l_is_needed f_l_is_needed fd_l_is_needed
  g_l_is_needed : mg "_law_is_needed" = some (.ref f_l_is_needed)
  b_l_is_needed : Binds K fd_l_is_needed ["bases", "some", "name"] []
  f_l_first_fault : Addr
  fd_l_first_fault : FuncData
  F_l_first_fault : Fun K "_law_first_fault" "_law_first_fault" s_l_first_fault f_l_first_fault fd_l_first_fault
  g_l_first_fault : mg "_law_first_fault" = some (.ref f_l_first_fault)
  b_l_first_fault : Binds K fd_l_first_fault ["bases", "handed"] []
  f_l_same : Addr
  fd_l_same : FuncData
  F_l_same : Fun K "_law_same" "_law_same" s_l_same f_l_same fd_l_same
  g_l_same : mg "_law_same" = some (.ref f_l_same)
  b_l_same : Binds K fd_l_same ["told", "due"] []
  f_l_is_list : Addr
  fd_l_is_list : FuncData
  F_l_is_list : Fun K "_law_is_list" "_law_is_list" s_l_is_list f_l_is_list fd_l_is_list
  g_l_is_list : mg "_law_is_list" = some (.ref f_l_is_list)
  b_l_is_list : Binds K fd_l_is_list ["told", "due"] []
  f_l_lacks : Addr
  fd_l_lacks : FuncData
  F_l_lacks : Fun K "_law_lacks" "_law_lacks" s_l_lacks f_l_lacks fd_l_lacks
  g_l_lacks : mg "_law_lacks" = some (.ref f_l_lacks)
  b_l_lacks : Binds K fd_l_lacks ["some", "row"] []
  f_l_is_lot : Addr
  fd_l_is_lot : FuncData
  F_l_is_lot : Fun K "_law_is_lot" "_law_is_lot" s_l_is_lot f_l_is_lot fd_l_is_lot
  g_l_is_lot : mg "_law_is_lot" = some (.ref f_l_is_lot)
  b_l_is_lot : Binds K fd_l_is_lot ["lot", "due", "names"] []
  f_l_over_refused : Addr
  fd_l_over_refused : FuncData
  F_l_over_refused : Fun K "_law_over_refused" "_law_over_refused" s_l_over_refused f_l_over_refused fd_l_over_refused
  g_l_over_refused : mg "_law_over_refused" = some (.ref f_l_over_refused)
  b_l_over_refused : Binds K fd_l_over_refused ["order", "handed", "fault"] []
  f_l_refused : Addr
  fd_l_refused : FuncData
  F_l_refused : Fun K "_law_refused" "_law_refused" s_l_refused f_l_refused fd_l_refused
  g_l_refused : mg "_law_refused" = some (.ref f_l_refused)
  b_l_refused : Binds K fd_l_refused ["kind", "lot", "name", "word"] []
  f_l_minus : Addr
  fd_l_minus : FuncData
  F_l_minus : Fun K "_law_minus" "_law_minus" s_l_minus f_l_minus fd_l_minus
  g_l_minus : mg "_law_minus" = some (.ref f_l_minus)
  b_l_minus : Binds K fd_l_minus ["bases", "lot", "some", "names"] []
  f_l_joined : Addr
  fd_l_joined : FuncData
  F_l_joined : Fun K "_law_joined" "_law_joined" s_l_joined f_l_joined fd_l_joined
  g_l_joined : mg "_law_joined" = some (.ref f_l_joined)
  b_l_joined : Binds K fd_l_joined ["bases", "lots", "some", "names"] []
  f_l_stay : Addr
  fd_l_stay : FuncData
  F_l_stay : Fun K "_law_stay" "_law_stay" s_l_stay f_l_stay fd_l_stay
  g_l_stay : mg "_law_stay" = some (.ref f_l_stay)
  b_l_stay : Binds K fd_l_stay ["lots", "due", "names"] []
  f_law : Addr
  fd_law : FuncData
  F_law : Fun K "law" "law" s_law f_law fd_law
  g_law : mg "law" = some (.ref f_law)
  b_law : Binds K fd_law ["script"] []
  f_Lot___init__ : Addr
  fd_Lot___init__ : FuncData
  F_Lot___init__ : Fun K "__init__" "Lot.__init__" s_Lot___init__ f_Lot___init__ fd_Lot___init__
  b_Lot___init__ : Binds K fd_Lot___init__ ["self", "order", "names"] []
  f_Lot_over : Addr
  fd_Lot_over : FuncData
  F_Lot_over : Fun K "over" "Lot.over" s_Lot_over f_Lot_over fd_Lot_over
  b_Lot_over : Binds K fd_Lot_over ["cls", "order", "names"] []
  f_Lot___contains__ : Addr
  fd_Lot___contains__ : FuncData
  F_Lot___contains__ : Fun K "__contains__" "Lot.__contains__" s_Lot___contains__ f_Lot___contains__ fd_Lot___contains__
  b_Lot___contains__ : Binds K fd_Lot___contains__ ["self", "name"] []
  f_Lot___iter__ : Addr
  fd_Lot___iter__ : FuncData
  F_Lot___iter__ : Fun K "__iter__" "Lot.__iter__" s_Lot___iter__ f_Lot___iter__ fd_Lot___iter__
  b_Lot___iter__ : Binds K fd_Lot___iter__ ["self"] []
  f_Lot___eq__ : Addr
  fd_Lot___eq__ : FuncData
  F_Lot___eq__ : Fun K "__eq__" "Lot.__eq__" s_Lot___eq__ f_Lot___eq__ fd_Lot___eq__
  b_Lot___eq__ : Binds K fd_Lot___eq__ ["self", "other"] []
  f_Lot___and__ : Addr
  fd_Lot___and__ : FuncData
  F_Lot___and__ : Fun K "__and__" "Lot.__and__" s_Lot___and__ f_Lot___and__ fd_Lot___and__
  b_Lot___and__ : Binds K fd_Lot___and__ ["self", "other"] []
  f_Lot___or__ : Addr
  fd_Lot___or__ : FuncData
  F_Lot___or__ : Fun K "__or__" "Lot.__or__" s_Lot___or__ f_Lot___or__ fd_Lot___or__
  b_Lot___or__ : Binds K fd_Lot___or__ ["self", "other"] []
  f_Lot_within : Addr
  fd_Lot_within : FuncData
  F_Lot_within : Fun K "within" "Lot.within" s_Lot_within f_Lot_within fd_Lot_within
  b_Lot_within : Binds K fd_Lot_within ["self", "other"] []
  f_Lot_plus : Addr
  fd_Lot_plus : FuncData
  F_Lot_plus : Fun K "plus" "Lot.plus" s_Lot_plus f_Lot_plus fd_Lot_plus
  b_Lot_plus : Binds K fd_Lot_plus ["self", "name"] []
  f_Lot_minus : Addr
  fd_Lot_minus : FuncData
  F_Lot_minus : Fun K "minus" "Lot.minus" s_Lot_minus f_Lot_minus fd_Lot_minus
  b_Lot_minus : Binds K fd_Lot_minus ["self", "name"] []
  f_Order___init__ : Addr
  fd_Order___init__ : FuncData
  F_Order___init__ : Fun K "__init__" "Order.__init__" s_Order___init__ f_Order___init__ fd_Order___init__
  b_Order___init__ : Binds K fd_Order___init__ ["self"] []
  f_Order_put : Addr
  fd_Order_put : FuncData
  F_Order_put : Fun K "put" "Order.put" s_Order_put f_Order_put fd_Order_put
  b_Order_put : Binds K fd_Order_put ["self", "name", "parents"] []
  f_Order___iter__ : Addr
  fd_Order___iter__ : FuncData
  F_Order___iter__ : Fun K "__iter__" "Order.__iter__" s_Order___iter__ f_Order___iter__ fd_Order___iter__
  b_Order___iter__ : Binds K fd_Order___iter__ ["self"] []
  f_Order_names : Addr
  fd_Order_names : FuncData
  F_Order_names : Fun K "names" "Order.names" s_Order_names f_Order_names fd_Order_names
  b_Order_names : Binds K fd_Order_names ["self"] []
  f_Order_has : Addr
  fd_Order_has : FuncData
  F_Order_has : Fun K "has" "Order.has" s_Order_has f_Order_has fd_Order_has
  b_Order_has : Binds K fd_Order_has ["self", "name"] []
  f_Order_under : Addr
  fd_Order_under : FuncData
  F_Order_under : Fun K "under" "Order.under" s_Order_under f_Order_under fd_Order_under
  b_Order_under : Binds K fd_Order_under ["self", "name"] []
  f_Order_is_under : Addr
  fd_Order_is_under : FuncData
  F_Order_is_under : Fun K "is_under" "Order.is_under" s_Order_is_under f_Order_is_under fd_Order_is_under
  b_Order_is_under : Binds K fd_Order_is_under ["self", "low", "high"] []
  f_Order_nearest : Addr
  fd_Order_nearest : FuncData
  F_Order_nearest : Fun K "nearest" "Order.nearest" s_Order_nearest f_Order_nearest fd_Order_nearest
  b_Order_nearest : Binds K fd_Order_nearest ["self", "name"] []
  f_Order_checked : Addr
  fd_Order_checked : FuncData
  F_Order_checked : Fun K "checked" "Order.checked" s_Order_checked f_Order_checked fd_Order_checked
  b_Order_checked : Binds K fd_Order_checked ["self", "names"] []
  C_Lot : Addr
  g_Lot : mg "Lot" = some (.ref C_Lot)
  cl_Lot : Cls K C_Lot
  nA_Lot__order : NoAttr K C_Lot "_order"
  nA_Lot__names : NoAttr K C_Lot "_names"
  nA_Lot___len__ : NoAttr K C_Lot "__len__"
  nA_Lot___length_hint__ : NoAttr K C_Lot "__length_hint__"
  ic_Lot : InsC K C_Lot
  sf_Lot : PySem.W.selfFirst K C_Lot = true
  Mk_Lot : Mk K C_Lot f_Lot___init__
  p_Lot_over : Addr
  CR_Lot : ClX.CRead K C_Lot (.type "type")
  CM_Lot_over : ClX.CMet K C_Lot (.type "type") "over" p_Lot_over f_Lot_over
  M_Lot___contains__ : Meth K C_Lot "__contains__" f_Lot___contains__
  M_Lot___iter__ : Meth K C_Lot "__iter__" f_Lot___iter__
  M_Lot___eq__ : Meth K C_Lot "__eq__" f_Lot___eq__
  M_Lot___and__ : Meth K C_Lot "__and__" f_Lot___and__
  M_Lot___or__ : Meth K C_Lot "__or__" f_Lot___or__
  M_Lot_within : Meth K C_Lot "within" f_Lot_within
  M_Lot_plus : Meth K C_Lot "plus" f_Lot_plus
  M_Lot_minus : Meth K C_Lot "minus" f_Lot_minus
  C_Order : Addr
  g_Order : mg "Order" = some (.ref C_Order)
  cl_Order : Cls K C_Order
  nA_Order__names : NoAttr K C_Order "_names"
  nA_Order__under : NoAttr K C_Order "_under"
  Mk_Order : Mk K C_Order f_Order___init__
  M_Order_put : Meth K C_Order "put" f_Order_put
  M_Order___iter__ : Meth K C_Order "__iter__" f_Order___iter__
  M_Order_names : Meth K C_Order "names" f_Order_names
  M_Order_has : Meth K C_Order "has" f_Order_has
  M_Order_under : Meth K C_Order "under" f_Order_under
  M_Order_is_under : Meth K C_Order "is_under" f_Order_is_under
  M_Order_nearest : Meth K C_Order "nearest" f_Order_nearest
  M_Order_checked : Meth K C_Order "checked" f_Order_checked
  C_PartError : Addr
  g_PartError : mg "PartError" = some (.ref C_PartError)
  C_Unknown : Addr
  g_Unknown : mg "Unknown" = some (.ref C_Unknown)
  fi_Unknown : Addr
  fdi_Unknown : FuncData
  Fi_Unknown : Fun K "__init__" "Unknown.__init__" (inClass (topS 18) 0) fi_Unknown fdi_Unknown
  bi_Unknown : Binds K fdi_Unknown ["self", "name"] []
  O_Unknown : OexC K C_Unknown
  iC_Unknown : PySem.W.findIn K (.ref C_Unknown) "__init__" = some (some (.ref fi_Unknown))
  tI_Unknown : PySem.W.typeIn K (.ref fi_Unknown) = some (.type "function")
  N_Unknown_name : PySem.W.findIn K (.ref C_Unknown) "name" = some none
  XF_Unknown : XfC K C_Unknown
  IS_Unknown : IsC K C_Unknown
  C_Repeated : Addr
  g_Repeated : mg "Repeated" = some (.ref C_Repeated)
  fi_Repeated : Addr
  fdi_Repeated : FuncData
  Fi_Repeated : Fun K "__init__" "Repeated.__init__" (inClass (topS 19) 0) fi_Repeated fdi_Repeated
  bi_Repeated : Binds K fdi_Repeated ["self", "name"] []
  O_Repeated : OexC K C_Repeated
  iC_Repeated : PySem.W.findIn K (.ref C_Repeated) "__init__" = some (some (.ref fi_Repeated))
  tI_Repeated : PySem.W.typeIn K (.ref fi_Repeated) = some (.type "function")
  N_Repeated_name : PySem.W.findIn K (.ref C_Repeated) "name" = some none
  XF_Repeated : XfC K C_Repeated
  IS_Repeated : IsC K C_Repeated
  C_NotClosed : Addr
  g_NotClosed : mg "NotClosed" = some (.ref C_NotClosed)
  fi_NotClosed : Addr
  fdi_NotClosed : FuncData
  Fi_NotClosed : Fun K "__init__" "NotClosed.__init__" (inClass (topS 20) 0) fi_NotClosed fdi_NotClosed
  bi_NotClosed : Binds K fdi_NotClosed ["self", "first", "second", "missing"] []
  O_NotClosed : OexC K C_NotClosed
  iC_NotClosed : PySem.W.findIn K (.ref C_NotClosed) "__init__" = some (some (.ref fi_NotClosed))
  tI_NotClosed : PySem.W.typeIn K (.ref fi_NotClosed) = some (.type "function")
  N_NotClosed_first : PySem.W.findIn K (.ref C_NotClosed) "first" = some none
  N_NotClosed_second : PySem.W.findIn K (.ref C_NotClosed) "second" = some none
  N_NotClosed_missing : PySem.W.findIn K (.ref C_NotClosed) "missing" = some none
  XF_NotClosed : XfC K C_NotClosed
  IS_NotClosed : IsC K C_NotClosed
  C_Needed : Addr
  g_Needed : mg "Needed" = some (.ref C_Needed)
  fi_Needed : Addr
  fdi_Needed : FuncData
  Fi_Needed : Fun K "__init__" "Needed.__init__" (inClass (topS 21) 0) fi_Needed fdi_Needed
  bi_Needed : Binds K fdi_Needed ["self", "name"] []
  O_Needed : OexC K C_Needed
  iC_Needed : PySem.W.findIn K (.ref C_Needed) "__init__" = some (some (.ref fi_Needed))
  tI_Needed : PySem.W.typeIn K (.ref fi_Needed) = some (.type "function")
  N_Needed_name : PySem.W.findIn K (.ref C_Needed) "name" = some none
  XF_Needed : XfC K C_Needed
  IS_Needed : IsC K C_Needed
  M_Unknown_Needed : PySem.W.exmOne K (.ref C_Unknown) (.ref C_Needed) = some false
  M_Unknown_Repeated : PySem.W.exmOne K (.ref C_Unknown) (.ref C_Repeated) = some false
  M_Unknown_Unknown : PySem.W.exmOne K (.ref C_Unknown) (.ref C_Unknown) = some true
  K_Unknown_Needed : PySem.W.kitOne K (.ref C_Unknown) (.ref C_Needed) = some false
  K_Unknown_PartError : PySem.W.kitOne K (.ref C_Unknown) (.ref C_PartError) = some true
  K_Unknown_Repeated : PySem.W.kitOne K (.ref C_Unknown) (.ref C_Repeated) = some false
  K_Unknown_ValueError : PySem.W.kitOne K (.ref C_Unknown) (.type "ValueError") = some true
  M_Repeated_Needed : PySem.W.exmOne K (.ref C_Repeated) (.ref C_Needed) = some false
  M_Repeated_Repeated : PySem.W.exmOne K (.ref C_Repeated) (.ref C_Repeated) = some true
  M_Repeated_Unknown : PySem.W.exmOne K (.ref C_Repeated) (.ref C_Unknown) = some false
  K_Repeated_Needed : PySem.W.kitOne K (.ref C_Repeated) (.ref C_Needed) = some false
  K_Repeated_PartError : PySem.W.kitOne K (.ref C_Repeated) (.ref C_PartError) = some true
  K_Repeated_Repeated : PySem.W.kitOne K (.ref C_Repeated) (.ref C_Repeated) = some true
  K_Repeated_ValueError : PySem.W.kitOne K (.ref C_Repeated) (.type "ValueError") = some true
  M_NotClosed_Needed : PySem.W.exmOne K (.ref C_NotClosed) (.ref C_Needed) = some false
  M_NotClosed_Repeated : PySem.W.exmOne K (.ref C_NotClosed) (.ref C_Repeated) = some false
  M_NotClosed_Unknown : PySem.W.exmOne K (.ref C_NotClosed) (.ref C_Unknown) = some false
  K_NotClosed_Needed : PySem.W.kitOne K (.ref C_NotClosed) (.ref C_Needed) = some false
  K_NotClosed_PartError : PySem.W.kitOne K (.ref C_NotClosed) (.ref C_PartError) = some true
  K_NotClosed_Repeated : PySem.W.kitOne K (.ref C_NotClosed) (.ref C_Repeated) = some false
  K_NotClosed_ValueError : PySem.W.kitOne K (.ref C_NotClosed) (.type "ValueError") = some true
  M_Needed_Needed : PySem.W.exmOne K (.ref C_Needed) (.ref C_Needed) = some true
  M_Needed_Repeated : PySem.W.exmOne K (.ref C_Needed) (.ref C_Repeated) = some false
  M_Needed_Unknown : PySem.W.exmOne K (.ref C_Needed) (.ref C_Unknown) = some false
  K_Needed_Needed : PySem.W.kitOne K (.ref C_Needed) (.ref C_Needed) = some true
  K_Needed_PartError : PySem.W.kitOne K (.ref C_Needed) (.ref C_PartError) = some true
  K_Needed_Repeated : PySem.W.kitOne K (.ref C_Needed) (.ref C_Repeated) = some false
  K_Needed_ValueError : PySem.W.kitOne K (.ref C_Needed) (.type "ValueError") = some true
  m_ValueError : mg "ValueError" = none
  m_abs : mg "abs" = none
  m_all : mg "all" = none
  m_classmethod : mg "classmethod" = none
  m_enumerate : mg "enumerate" = none
  m_int : mg "int" = none
  m_isinstance : mg "isinstance" = none
  m_iter : mg "iter" = none
  m_len : mg "len" = none
  m_list : mg "list" = none
  m_max : mg "max" = none
  m_min : mg "min" = none
  m_range : mg "range" = none
  m_set : mg "set" = none
  m_sorted : mg "sorted" = none
  m_str : mg "str" = none
  k_NAME_LETTERS : ∃ u, mg "NAME_LETTERS" = some u ∧ RelV (.str "abcdefghijklmnopqrstuvwxyz") u
  k_NAME_DIGITS : ∃ u, mg "NAME_DIGITS" = some u ∧ RelV (.str "0123456789") u
  k_NAME_LENGTH : ∃ u, mg "NAME_LENGTH" = some u ∧ RelV (.int 6) u
section
variable {P : Program} {w : World} {K : PySem.W.Frag} {mg : Str → Option Value} {base : Heap}
theorem sc_init_Unknown : FnScope ["self", "name"] ["self", "name"] (defScope (inClass (topS 18) 0)) := ⟨rfl, rfl, rfl, by decide +kernel, rfl, by decide +kernel, by decide +kernel⟩
theorem ok_init_Unknown (T : Txt K mg) : FnOk P w K mg base CX0 1 T.fi_Unknown T.fdi_Unknown ["self", "name"] (sp_oinit T.C_Unknown ["name"]) := by
  refine T.Fi_Unknown.ok sc_init_Unknown (fun vs H Q E h => sp_oinit_len h) (fun cdv A outer s H vs Q E hr h => ?_)
  refine ⟨_, (pss_one (ps_ost (pv 0) (pv 1))), ?_⟩
  obtain ⟨a, ws, rfl, hl, ha, q⟩ := h
  match ws, hl with
  | [v1], _ =>
  refine ⟨_, rfl, _, rfl, a, T.C_Unknown, rfl, T.O_Unknown, T.N_Unknown_name, .inl ⟨ha, fun dx n ne => ?_⟩⟩
  have z := q dx n ne
  first | exact z | (rw [upd_over ne]; exact z) | (rw [upd_over ne, upd_over ne]; exact z)
theorem sc_init_Repeated : FnScope ["self", "name"] ["self", "name"] (defScope (inClass (topS 19) 0)) := ⟨rfl, rfl, rfl, by decide +kernel, rfl, by decide +kernel, by decide +kernel⟩
theorem ok_init_Repeated (T : Txt K mg) : FnOk P w K mg base CX0 1 T.fi_Repeated T.fdi_Repeated ["self", "name"] (sp_oinit T.C_Repeated ["name"]) := by
  refine T.Fi_Repeated.ok sc_init_Repeated (fun vs H Q E h => sp_oinit_len h) (fun cdv A outer s H vs Q E hr h => ?_)
  refine ⟨_, (pss_one (ps_ost (pv 0) (pv 1))), ?_⟩
  obtain ⟨a, ws, rfl, hl, ha, q⟩ := h
  match ws, hl with
  | [v1], _ =>
  refine ⟨_, rfl, _, rfl, a, T.C_Repeated, rfl, T.O_Repeated, T.N_Repeated_name, .inl ⟨ha, fun dx n ne => ?_⟩⟩
  have z := q dx n ne
  first | exact z | (rw [upd_over ne]; exact z) | (rw [upd_over ne, upd_over ne]; exact z)
theorem sc_init_NotClosed : FnScope ["self", "first", "second", "missing"] ["self", "first", "second", "missing"] (defScope (inClass (topS 20) 0)) := ⟨rfl, rfl, rfl, by decide +kernel, rfl, by decide +kernel, by decide +kernel⟩
theorem ok_init_NotClosed (T : Txt K mg) : FnOk P w K mg base CX0 1 T.fi_NotClosed T.fdi_NotClosed ["self", "first", "second", "missing"] (sp_oinit T.C_NotClosed ["first", "second", "missing"]) := by
  refine T.Fi_NotClosed.ok sc_init_NotClosed (fun vs H Q E h => sp_oinit_len h) (fun cdv A outer s H vs Q E hr h => ?_)
  refine ⟨_, (pss_cons (ps_ost (pv 0) (pv 1)) (pss_cons (ps_ost (pv 0) (pv 2)) (pss_one (ps_ost (pv 0) (pv 3))))), ?_⟩
  obtain ⟨a, ws, rfl, hl, ha, q⟩ := h
  match ws, hl with
  | [v1, v2, v3], _ =>
  refine g_seq ?_
  refine ⟨_, rfl, _, rfl, a, T.C_NotClosed, rfl, T.O_NotClosed, T.N_NotClosed_first, .inl ⟨ha, fun dx n ne => ?_⟩⟩
  refine g_seq ?_
  refine ⟨_, rfl, _, rfl, a, T.C_NotClosed, rfl, T.O_NotClosed, T.N_NotClosed_second, .inr ⟨dx, _, upd_same, by rw [upd_ne ne, upd_same], Nat.le_of_ble_eq_true rfl, ?_⟩⟩
  refine ⟨_, rfl, _, rfl, a, T.C_NotClosed, rfl, T.O_NotClosed, T.N_NotClosed_missing, .inr ⟨dx, _, by rw [upd_ne (Ne.symm ne), upd_same], upd_same, Nat.le_of_ble_eq_true rfl, ?_⟩⟩
  have z := q dx n ne
  first | exact z | (rw [upd_over ne]; exact z) | (rw [upd_over ne, upd_over ne]; exact z)
theorem sc_init_Needed : FnScope ["self", "name"] ["self", "name"] (defScope (inClass (topS 21) 0)) := ⟨rfl, rfl, rfl, by decide +kernel, rfl, by decide +kernel, by decide +kernel⟩
theorem ok_init_Needed (T : Txt K mg) : FnOk P w K mg base CX0 1 T.fi_Needed T.fdi_Needed ["self", "name"] (sp_oinit T.C_Needed ["name"]) := by
  refine T.Fi_Needed.ok sc_init_Needed (fun vs H Q E h => sp_oinit_len h) (fun cdv A outer s H vs Q E hr h => ?_)
  refine ⟨_, (pss_one (ps_ost (pv 0) (pv 1))), ?_⟩
  obtain ⟨a, ws, rfl, hl, ha, q⟩ := h
  match ws, hl with
  | [v1], _ =>
  refine ⟨_, rfl, _, rfl, a, T.C_Needed, rfl, T.O_Needed, T.N_Needed_name, .inl ⟨ha, fun dx n ne => ?_⟩⟩
  have z := q dx n ne
  first | exact z | (rw [upd_over ne]; exact z) | (rw [upd_over ne, upd_over ne]; exact z)
end
local macro_rules | `(tactic| walk_at "m") => `(tactic| ((repeat (first | exact List.Mem.head _ | apply List.Mem.tail)); done))
local macro_rules | `(tactic| walk_at "h") => `(tactic| first | assumption | exact Has.gF (by assumption) (by assumption) | exact Has.get (by assumption) (by walk_at "m"))
local macro_rules | `(tactic| walk_at "c") => `(tactic| ((repeat (first | exact Chg.hd | apply Chg.tl)); done))
local macro_rules | `(tactic| walk_at "is") => `(tactic| first
  | ((with_reducible refine' is2_non ?gh ?_); (case gh => walk_at "h"))
  | (with_reducible refine is_int_list ?_)
  | (with_reducible refine is_int_tuple ?_)
  | (with_reducible refine is_int_dict ?_)
  | (with_reducible refine is_int_int ?_)
  | (with_reducible refine is_int_bool ?_)
  | (with_reducible refine is_int_str ?_)
  | ((with_reducible refine' is2_int ?gh ?_); (case gh => walk_at "h"))
  | (with_reducible refine is_str_list ?_)
  | (with_reducible refine is_str_tuple ?_)
  | (with_reducible refine is_str_dict ?_)
  | (with_reducible refine is_str_int ?_)
  | (with_reducible refine is_str_bool ?_)
  | (with_reducible refine is_str_str ?_)
  | ((with_reducible refine' is2_str ?gh ?_); (case gh => walk_at "h"))
  | (with_reducible refine is_bool_list ?_)
  | (with_reducible refine is_bool_tuple ?_)
  | (with_reducible refine is_bool_dict ?_)
  | (with_reducible refine is_bool_int ?_)
  | (with_reducible refine is_bool_bool ?_)
  | (with_reducible refine is_bool_str ?_)
  | ((with_reducible refine' is2_bool ?gh ?_); (case gh => walk_at "h"))
  | ((with_reducible refine' is_list_list ?gh ?_); (case gh => walk_at "h"))
  | ((with_reducible refine' is_list_tuple ?gh ?_); (case gh => walk_at "h"))
  | ((with_reducible refine' is_list_dict ?gh ?_); (case gh => walk_at "h"))
  | ((with_reducible refine' is_list_int ?gh ?_); (case gh => walk_at "h"))
  | ((with_reducible refine' is_list_bool ?gh ?_); (case gh => walk_at "h"))
  | ((with_reducible refine' is_list_str ?gh ?_); (case gh => walk_at "h"))
  | ((with_reducible refine' is2_list ?ga ?gb ?_); (case ga => walk_at "h"); (case gb => walk_at "h"))
  | ((with_reducible refine' is_tuple_list ?gh ?_); (case gh => walk_at "h"))
  | ((with_reducible refine' is_tuple_tuple ?gh ?_); (case gh => walk_at "h"))
  | ((with_reducible refine' is_tuple_dict ?gh ?_); (case gh => walk_at "h"))
  | ((with_reducible refine' is_tuple_int ?gh ?_); (case gh => walk_at "h"))
  | ((with_reducible refine' is_tuple_bool ?gh ?_); (case gh => walk_at "h"))
  | ((with_reducible refine' is_tuple_str ?gh ?_); (case gh => walk_at "h"))
  | ((with_reducible refine' is2_tuple ?ga ?gb ?_); (case ga => walk_at "h"); (case gb => walk_at "h"))
  | ((with_reducible refine' is_dict_list ?gh ?_); (case gh => walk_at "h"))
  | ((with_reducible refine' is_dict_tuple ?gh ?_); (case gh => walk_at "h"))
  | ((with_reducible refine' is_dict_dict ?gh ?_); (case gh => walk_at "h"))
  | ((with_reducible refine' is_dict_int ?gh ?_); (case gh => walk_at "h"))
  | ((with_reducible refine' is_dict_bool ?gh ?_); (case gh => walk_at "h"))
  | ((with_reducible refine' is_dict_str ?gh ?_); (case gh => walk_at "h"))
  | ((with_reducible refine' is2_dict ?ga ?gb ?_); (case ga => walk_at "h"); (case gb => walk_at "h")))
local macro_rules | `(tactic| walk_at "g") => `(tactic| first
  | (with_reducible refine g_seq ?_)
  | (with_reducible refine g_asg ?_)
  | ((with_reducible refine g_name ?_); dsimp only [List.set, wipe, List.map])
  | ((with_reducible refine' g_var ?gv ?_); (case gv => exact rfl))
  | (with_reducible refine g_c ?_)
  | (with_reducible refine g_op ?_)
  | (with_reducible refine g_cons ?_)
  | (with_reducible refine g_nil ?_)
  | (with_reducible refine g_cb ?_)
  | (with_reducible refine g_call ?_)
  | (with_reducible refine g_tup ?_)
  | (with_reducible refine g_lst ?_)
  | (with_reducible refine g_bm ?_)
  | (with_reducible refine g_bm0 ?_)
  | ((with_reducible refine' g_kbm ?gh ?_); (case gh => walk_at "h"))
  | (with_reducible refine g_drop ?_)
  | (with_reducible refine g_ret ?_)
  | (with_reducible refine g_retN ?_)
  | (with_reducible refine g_next ?_)
  | (with_reducible refine g_brk ?_)
  | (with_reducible refine g_cont ?_)
  | (with_reducible refine g_if ?_)
  | ((with_reducible refine' g_aug ?gv ?_); (case gv => exact rfl))
  | (with_reducible refine g_ipI ?_)
  | (with_reducible refine g_test ?_)
  | (with_reducible refine g_tB ?_)
  | (with_reducible refine g_kB ?_)
  | (with_reducible refine g_not ?_)
  | (with_reducible refine g_and ?_)
  | (with_reducible refine g_or ?_)
  | (with_reducible refine g_andV ?_)
  | (with_reducible refine g_orV ?_)
  | (with_reducible refine g_notV ?_)
  | (with_reducible refine g_ifE ?_)
  | (with_reducible refine g_addI ?_)
  | (with_reducible refine g_rI0 ?_)
  | (with_reducible refine g_eqI ?_)
  | (with_reducible refine g_eqS ?_)
  | (with_reducible refine g_neI ?_)
  | (with_reducible refine g_neS ?_)
  | (with_reducible refine g_isN ?_)
  | (with_reducible refine g_notN ?_)
  | (with_reducible refine g_int ?_)
  | (with_reducible refine g_max2 ?_)
  | (with_reducible refine g_min2 ?_)
  | ((with_reducible refine' g_lenL ?gh ?_); (case gh => walk_at "h"))
  | (with_reducible refine g_sub ?_)
  | (with_reducible refine g_gcons ?_)
  | (with_reducible refine g_gnil ?_)
  | (with_reducible refine g_un ?_)
  | (with_reducible refine g_rU ?_)
  | (with_reducible refine g_forL ?_)
  | (with_reducible refine g_forS ?_)
  | (with_reducible refine g_forR1 ?_)
  | (with_reducible refine g_forR2 ?_)
  | (with_reducible refine g_forR3 ?_)
  | (with_reducible refine g_lcL ?_)
  | (with_reducible refine g_lcR1 ?_)
  | (with_reducible refine g_lcR2 ?_)
  | (with_reducible refine g_slice ?_)
  | (with_reducible refine g_part ?_)
  | (with_reducible refine g_kOI ?_)
  | (with_reducible refine g_nopart ?_)
  | (with_reducible refine g_yes ?_)
  | ((with_reducible refine' g_wipe ?gv ?_); (case gv => exact rfl))
  | (with_reducible refine iteT ?_)
  | (with_reducible refine iteF ?_)
  | (with_reducible refine i_nf ?_)
  | (with_reducible refine i_nt ?_)
  | ((with_reducible refine' g_gtup ?gh ?gl ?_); (case gh => walk_at "h"); (case gl => exact rfl))
  | ((with_reducible refine' g_notinI ?gh ?_); (case gh => walk_at "h"))
  | ((with_reducible refine' g_inI ?gh ?_); (case gh => walk_at "h"))
  | ((with_reducible refine' g_kget2 ?gh ?_); (case gh => walk_at "h"))
  | ((with_reducible refine' g_kgotI ?gh ?_); (case gh => walk_at "h"))
  | (with_reducible refine g_tRev ?_)
  | (with_reducible refine g_neB ?_)
  | (with_reducible refine g_eqB ?_)
  | ((with_reducible refine' g_lenT ?gh ?_); (case gh => walk_at "h"))
  | (with_reducible refine g_star ?_)
  | ((with_reducible refine' g_kstarL ?gh ?_); (case gh => walk_at "h"))
  | ((with_reducible refine' g_kstarT ?gh ?_); (case gh => walk_at "h"))
  | (with_reducible refine g_tru ?_)
  | ((with_reducible refine' g_truL ?gh ?_); (case gh => walk_at "h"))
  | (with_reducible refine g_get2 ?_)
  | (with_reducible refine g_try ?_)
  | (with_reducible refine g_fld ?_)
  | (with_reducible refine g_sfld ?_)
  | (with_reducible refine g_meth ?_)
  | (with_reducible refine g_make ?_)
  | (with_reducible refine g_del ?_)
  | (with_reducible refine g_callS ?_)
  | (with_reducible refine g_raise ?_)
  | (with_reducible refine g_xf ?_)
  | (with_reducible refine g_m0 ?_)
  | (with_reducible refine g_km0 ?_)
  | walk_at "is")
local macro_rules | `(tactic| walk_at "gg") => `(tactic| repeat walk_at "g")
local macro_rules | `(tactic| walk_at "sz") => `(tactic| (refine sz ?_; simp only [List.length_cons, List.length_nil, List.length_map, List.length_append, List.length_replicate]; omega))
local macro_rules | `(tactic| walk_at "sub") => `(tactic| ((repeat (first | exact List.Sublist.slnil | with_reducible apply List.Sublist.cons_cons | with_reducible apply List.Sublist.cons)); done))

/-! ### names -/
def lettersL : List Nat := ("abcdefghijklmnopqrstuvwxyz" : Str).cps.toList
def digitsL : List Nat := ("0123456789" : Str).cps.toList
structure NmOk (z : Str) : Prop where
  l1 : 1 ≤ z.length
  l2 : z.length ≤ 6
  hd : ∀ c, z.cps[0]? = some c → c ∈ lettersL
  all : ∀ c, c ∈ z.cps.toList → c ∈ lettersL ∨ c ∈ digitsL
section
variable {P : Program} {w : World} {K : PySem.W.Frag} {mg : Str → Option Value} {base : Heap}
def sp_is_name (K : PySem.W.Frag) : Sp := fun vs H Q _ => ∃ z : Str, vs = [.str z] ∧ NmOk z ∧ Q (.bl true) H
theorem sp_is_name_len {vs H Q E} (h : sp_is_name K vs H Q E) : vs.length = 1 := by
  obtain ⟨_, rfl, _⟩ := h
  rfl
theorem ok_is_name (T : Txt K mg) : FnOk P w K mg base CX0 1 T.f_is_name T.fd_is_name ["value"] (sp_is_name K) := by
  refine T.F_is_name.ok sc_is_name (fun vs H Q E h => sp_is_name_len h) (fun cdv A outer s H vs Q E hr h => ?_)
  refine ⟨_, (pss_cons (ps_if (pt_cmpR (op_eqK K hr.units) (pv 0) pe_str (nomark _)) (pss_one (ps_ret pe_bl)) pss_nil)
      (pss_cons (ps_if (pt_cmpR op_gt (pe_callB (cr_lenK K) (by rfl) T.m_len (by decide +kernel) (pa_cons (pv 0) pa_nil)) (pe_gc (v := .int 6) (by rfl) T.k_NAME_LENGTH) (nomark _)) (pss_one (ps_ret pe_bl)) pss_nil)
      (pss_cons (ps_if (pt_cmpR (op_notinM K P w hr.units (u65 hr)) (pe_ix (ix_K K (hu_of hr)) (pv 0) pe_int (fun _ _ => rfl)) (pe_gc (v := .str "abcdefghijklmnopqrstuvwxyz") (by rfl) T.k_NAME_LETTERS) (by rfl)) (pss_one (ps_ret pe_bl)) pss_nil)
      (pss_cons (ps_for PassesOwn.never rfl (pi_str (pv 0)) (pg_name (i := 1) sc_is_name.nd rfl (.inl rfl)) (pss_one (ps_if (PW.pt (pw_and (pt_cmpR (op_notinM K P w hr.units (u65 hr)) (pv 1) (pe_gc (v := .str "abcdefghijklmnopqrstuvwxyz") (by rfl) T.k_NAME_LETTERS) (by rfl)) (pw_and1 (pt_cmpR (op_notinM K P w hr.units (u65 hr)) (pv 1) (pe_gc (v := .str "0123456789") (by rfl) T.k_NAME_DIGITS) (by rfl))))) (pss_one (ps_ret pe_bl)) pss_nil)))
      (pss_one (ps_ret pe_bl)))))), ?_⟩
  obtain ⟨z, rfl, ok, q⟩ := h
  refine g_start (σ' := [some (.str z), none]) rfl ?_
  walk_at "gg"
  refine i_d (fun e => ?_) (fun _ => ?_)
  · have := ok.l1
    rw [e] at this
    exact absurd this (by decide +kernel)
  walk_at "gg"
  refine g_lenS (sz (by have := ok.l2; omega)) ?_
  walk_at "gg"
  refine i_d (fun e => by have := ok.l2; omega) (fun _ => ?_)
  walk_at "gg"
  have l1 := ok.l1
  have hlt : 0 < z.cps.size := l1
  have e0 : z.cps[0]? = some z.cps[0] := Array.getElem?_eq_getElem hlt
  generalize z.cps[0] = c0 at e0
  have h0 := ok.hd c0 e0
  refine g_ixS (c := c0) (sz (by have := ok.l2; omega)) (atI_nat (j := 0) (by rw [Array.getElem?_toList]; exact e0)) ?_
  walk_at "gg"
  refine g_notinM (g_notinC ?_)
  walk_at "gg"
  refine i_n (fun e => (e h0).elim) (fun _ => ?_)
  walk_at "gg"
  refine k_forS (fun i σ H' => ∃ y1, σ = [some (.str z), y1] ∧ H' = H) ⟨_, rfl, rfl⟩ ?_ ?_
  · rintro i c σ H' hc ⟨y1, rfl, rfl⟩
    have hm := ok.all c (List.mem_of_getElem? (by rw [Array.getElem?_toList]; exact hc))
    walk_at "gg"
    refine g_notinM (g_notinC ?_)
    walk_at "gg"
    refine i_n (fun e1 => ?_) (fun _ => ?_)
    · walk_at "gg"
      refine g_notinM (g_notinC ?_)
      walk_at "gg"
      refine i_n (fun e2 => ?_) (fun _ => ?_)
      · rcases hm with hm | hm
        · exact (e1 hm).elim
        · exact (e2 hm).elim
      · walk_at "gg"
        exact ⟨_, rfl, rfl⟩
    · walk_at "gg"
      exact ⟨_, rfl, rfl⟩
  · rintro σ H' ⟨y1, rfl, rfl⟩
    walk_at "gg"
    exact q
end

end K29

namespace K29
open PySem PySem.Spec PyProof.Rows L2 Qk
local macro_rules | `(tactic| walk_at "m") => `(tactic| ((repeat (first | exact List.Mem.head _ | apply List.Mem.tail)); done))
local macro_rules | `(tactic| walk_at "h") => `(tactic| first | assumption | exact Has.gF (by assumption) (by assumption) | exact Has.get (by assumption) (by walk_at "m"))
local macro_rules | `(tactic| walk_at "c") => `(tactic| ((repeat (first | exact Chg.hd | apply Chg.tl)); done))
local macro_rules | `(tactic| walk_at "is") => `(tactic| first
  | ((with_reducible refine' is2_non ?gh ?_); (case gh => walk_at "h"))
  | (with_reducible refine is_int_list ?_)
  | (with_reducible refine is_int_tuple ?_)
  | (with_reducible refine is_int_dict ?_)
  | (with_reducible refine is_int_int ?_)
  | (with_reducible refine is_int_bool ?_)
  | (with_reducible refine is_int_str ?_)
  | ((with_reducible refine' is2_int ?gh ?_); (case gh => walk_at "h"))
  | (with_reducible refine is_str_list ?_)
  | (with_reducible refine is_str_tuple ?_)
  | (with_reducible refine is_str_dict ?_)
  | (with_reducible refine is_str_int ?_)
  | (with_reducible refine is_str_bool ?_)
  | (with_reducible refine is_str_str ?_)
  | ((with_reducible refine' is2_str ?gh ?_); (case gh => walk_at "h"))
  | (with_reducible refine is_bool_list ?_)
  | (with_reducible refine is_bool_tuple ?_)
  | (with_reducible refine is_bool_dict ?_)
  | (with_reducible refine is_bool_int ?_)
  | (with_reducible refine is_bool_bool ?_)
  | (with_reducible refine is_bool_str ?_)
  | ((with_reducible refine' is2_bool ?gh ?_); (case gh => walk_at "h"))
  | ((with_reducible refine' is_list_list ?gh ?_); (case gh => walk_at "h"))
  | ((with_reducible refine' is_list_tuple ?gh ?_); (case gh => walk_at "h"))
  | ((with_reducible refine' is_list_dict ?gh ?_); (case gh => walk_at "h"))
  | ((with_reducible refine' is_list_int ?gh ?_); (case gh => walk_at "h"))
  | ((with_reducible refine' is_list_bool ?gh ?_); (case gh => walk_at "h"))
  | ((with_reducible refine' is_list_str ?gh ?_); (case gh => walk_at "h"))
  | ((with_reducible refine' is2_list ?ga ?gb ?_); (case ga => walk_at "h"); (case gb => walk_at "h"))
  | ((with_reducible refine' is_tuple_list ?gh ?_); (case gh => walk_at "h"))
  | ((with_reducible refine' is_tuple_tuple ?gh ?_); (case gh => walk_at "h"))
  | ((with_reducible refine' is_tuple_dict ?gh ?_); (case gh => walk_at "h"))
  | ((with_reducible refine' is_tuple_int ?gh ?_); (case gh => walk_at "h"))
  | ((with_reducible refine' is_tuple_bool ?gh ?_); (case gh => walk_at "h"))
  | ((with_reducible refine' is_tuple_str ?gh ?_); (case gh => walk_at "h"))
  | ((with_reducible refine' is2_tuple ?ga ?gb ?_); (case ga => walk_at "h"); (case gb => walk_at "h"))
  | ((with_reducible refine' is_dict_list ?gh ?_); (case gh => walk_at "h"))
  | ((with_reducible refine' is_dict_tuple ?gh ?_); (case gh => walk_at "h"))
  | ((with_reducible refine' is_dict_dict ?gh ?_); (case gh => walk_at "h"))
  | ((with_reducible refine' is_dict_int ?gh ?_); (case gh => walk_at "h"))
  | ((with_reducible refine' is_dict_bool ?gh ?_); (case gh => walk_at "h"))
  | ((with_reducible refine' is_dict_str ?gh ?_); (case gh => walk_at "h"))
  | ((with_reducible refine' is2_dict ?ga ?gb ?_); (case ga => walk_at "h"); (case gb => walk_at "h")))
local macro_rules | `(tactic| walk_at "g") => `(tactic| first
  | (with_reducible refine g_seq ?_)
  | (with_reducible refine g_asg ?_)
  | ((with_reducible refine g_name ?_); dsimp only [List.set, wipe, List.map])
  | ((with_reducible refine' g_var ?gv ?_); (case gv => exact rfl))
  | (with_reducible refine g_c ?_)
  | (with_reducible refine g_op ?_)
  | (with_reducible refine g_cons ?_)
  | (with_reducible refine g_nil ?_)
  | (with_reducible refine g_cb ?_)
  | (with_reducible refine g_call ?_)
  | (with_reducible refine g_tup ?_)
  | (with_reducible refine g_lst ?_)
  | (with_reducible refine g_bm ?_)
  | (with_reducible refine g_bm0 ?_)
  | ((with_reducible refine' g_kbm ?gh ?_); (case gh => walk_at "h"))
  | (with_reducible refine g_drop ?_)
  | (with_reducible refine g_ret ?_)
  | (with_reducible refine g_retN ?_)
  | (with_reducible refine g_next ?_)
  | (with_reducible refine g_brk ?_)
  | (with_reducible refine g_cont ?_)
  | (with_reducible refine g_if ?_)
  | ((with_reducible refine' g_aug ?gv ?_); (case gv => exact rfl))
  | (with_reducible refine g_ipI ?_)
  | (with_reducible refine g_test ?_)
  | (with_reducible refine g_tB ?_)
  | (with_reducible refine g_kB ?_)
  | (with_reducible refine g_not ?_)
  | (with_reducible refine g_and ?_)
  | (with_reducible refine g_or ?_)
  | (with_reducible refine g_andV ?_)
  | (with_reducible refine g_orV ?_)
  | (with_reducible refine g_notV ?_)
  | (with_reducible refine g_ifE ?_)
  | (with_reducible refine g_addI ?_)
  | (with_reducible refine g_rI0 ?_)
  | (with_reducible refine g_eqI ?_)
  | (with_reducible refine g_eqS ?_)
  | (with_reducible refine g_neI ?_)
  | (with_reducible refine g_neS ?_)
  | (with_reducible refine g_isN ?_)
  | (with_reducible refine g_notN ?_)
  | (with_reducible refine g_int ?_)
  | (with_reducible refine g_max2 ?_)
  | (with_reducible refine g_min2 ?_)
  | ((with_reducible refine' g_lenL ?gh ?_); (case gh => walk_at "h"))
  | (with_reducible refine g_sub ?_)
  | (with_reducible refine g_gcons ?_)
  | (with_reducible refine g_gnil ?_)
  | (with_reducible refine g_un ?_)
  | (with_reducible refine g_rU ?_)
  | (with_reducible refine g_forL ?_)
  | (with_reducible refine g_forS ?_)
  | (with_reducible refine g_forR1 ?_)
  | (with_reducible refine g_forR2 ?_)
  | (with_reducible refine g_forR3 ?_)
  | (with_reducible refine g_lcL ?_)
  | (with_reducible refine g_lcR1 ?_)
  | (with_reducible refine g_lcR2 ?_)
  | (with_reducible refine g_slice ?_)
  | (with_reducible refine g_part ?_)
  | (with_reducible refine g_kOI ?_)
  | (with_reducible refine g_nopart ?_)
  | (with_reducible refine g_yes ?_)
  | ((with_reducible refine' g_wipe ?gv ?_); (case gv => exact rfl))
  | (with_reducible refine iteT ?_)
  | (with_reducible refine iteF ?_)
  | (with_reducible refine i_nf ?_)
  | (with_reducible refine i_nt ?_)
  | ((with_reducible refine' g_gtup ?gh ?gl ?_); (case gh => walk_at "h"); (case gl => exact rfl))
  | ((with_reducible refine' g_notinI ?gh ?_); (case gh => walk_at "h"))
  | ((with_reducible refine' g_inI ?gh ?_); (case gh => walk_at "h"))
  | ((with_reducible refine' g_kget2 ?gh ?_); (case gh => walk_at "h"))
  | ((with_reducible refine' g_kgotI ?gh ?_); (case gh => walk_at "h"))
  | (with_reducible refine g_tRev ?_)
  | (with_reducible refine g_neB ?_)
  | (with_reducible refine g_eqB ?_)
  | ((with_reducible refine' g_lenT ?gh ?_); (case gh => walk_at "h"))
  | (with_reducible refine g_star ?_)
  | ((with_reducible refine' g_kstarL ?gh ?_); (case gh => walk_at "h"))
  | ((with_reducible refine' g_kstarT ?gh ?_); (case gh => walk_at "h"))
  | (with_reducible refine g_tru ?_)
  | ((with_reducible refine' g_truL ?gh ?_); (case gh => walk_at "h"))
  | (with_reducible refine g_get2 ?_)
  | (with_reducible refine g_try ?_)
  | (with_reducible refine g_fld ?_)
  | (with_reducible refine g_sfld ?_)
  | (with_reducible refine g_meth ?_)
  | (with_reducible refine g_make ?_)
  | (with_reducible refine g_del ?_)
  | (with_reducible refine g_callS ?_)
  | (with_reducible refine g_raise ?_)
  | (with_reducible refine g_xf ?_)
  | (with_reducible refine g_m0 ?_)
  | (with_reducible refine g_km0 ?_)
  | walk_at "is")
local macro_rules | `(tactic| walk_at "gg") => `(tactic| repeat walk_at "g")
local macro_rules | `(tactic| walk_at "sz") => `(tactic| (refine sz ?_; simp only [List.length_cons, List.length_nil, List.length_map, List.length_append, List.length_replicate]; omega))
local macro_rules | `(tactic| walk_at "sub") => `(tactic| ((repeat (first | exact List.Sublist.slnil | with_reducible apply List.Sublist.cons_cons | with_reducible apply List.Sublist.cons)); done))

/-! ### ascending lists of texts -/
abbrev kk (z : Str) : List Nat := z.cps.toList
theorem kk_inj {a b : Str} (h : kk a = kk b) : a = b := by
  cases a with
  | mk x =>
    cases b with
    | mk y =>
      congr 1
      exact Array.toList_inj.mp h
def Asc (xs : List Str) : Prop := xs.Pairwise fun a b => kk a < kk b
theorem kk_cases {a b : Str} (h : ¬ kk b < kk a) (n : a ≠ b) : kk a < kk b := by
  refine Decidable.byContradiction fun h2 => n (kk_inj ?_)
  exact List.le_antisymm (List.not_lt.mp h) (List.not_lt.mp h2)
theorem asc_rise : ∀ (p : Str) (l : List Str), risingS p l = true → (p :: l).Nodup → Asc (p :: l)
  | p, [], _, _ => List.pairwise_cons.mpr ⟨fun _ h => (by cases h), List.Pairwise.nil⟩
  | p, x :: r, h, n => by
    have h : (!PySem.Spec.ltCps x.cps.toList p.cps.toList && risingS x r) = true := h
    rw [Bool.and_eq_true] at h
    have h1 : ¬ kk x < kk p := by
      have := h.1
      rw [ltCps_eq] at this
      simpa using this
    have n2 := List.nodup_cons.mp n
    have ih := asc_rise x r h.2 n2.2
    have lt : kk p < kk x := kk_cases h1 fun e => n2.1 (by rw [e]; exact List.mem_cons_self)
    refine List.pairwise_cons.mpr ⟨fun z hz => ?_, ih⟩
    rcases List.mem_cons.mp hz with rfl | hz
    · exact lt
    · exact List.lt_trans lt ((List.pairwise_cons.mp ih).1 z hz)
theorem asc_of {xs : List Str} (h : sortedS xs = true) (n : xs.Nodup) : Asc xs := by
  cases xs with
  | nil => exact List.Pairwise.nil
  | cons x r => exact asc_rise x r h n
theorem Asc.nodup {xs : List Str} (h : Asc xs) : xs.Nodup := h.imp fun {a b} l e => by
  rw [e] at l
  exact List.lt_irrefl _ l
theorem Asc.ext : ∀ {xs ys : List Str}, Asc xs → Asc ys → (∀ z, z ∈ xs ↔ z ∈ ys) → xs = ys
  | [], [], _, _, _ => rfl
  | [], y :: ys, _, _, h => by cases (h y).mpr List.mem_cons_self
  | x :: xs, [], _, _, h => by cases (h x).mp List.mem_cons_self
  | x :: xs, y :: ys, hx, hy, h => by
    have hx' := List.pairwise_cons.mp hx
    have hy' := List.pairwise_cons.mp hy
    have e : x = y := by
      rcases List.mem_cons.mp ((h x).mp List.mem_cons_self) with e | m1
      · exact e
      · rcases List.mem_cons.mp ((h y).mpr List.mem_cons_self) with e | m2
        · exact e.symm
        · exact (List.lt_irrefl _ (List.lt_trans (hy'.1 x m1) (hx'.1 y m2))).elim
    subst e
    have := Asc.ext hx'.2 hy'.2 fun z => by
      have hz := h z
      rw [List.mem_cons, List.mem_cons] at hz
      constructor
      · intro m
        rcases hz.mp (.inr m) with e | m'
        · exact (List.lt_irrefl _ (e ▸ hx'.1 z m)).elim
        · exact m'
      · intro m
        rcases hz.mpr (.inr m) with e | m'
        · exact (List.lt_irrefl _ (e ▸ hy'.1 z m)).elim
        · exact m'
    rw [this]
theorem Asc.filter {xs : List Str} (h : Asc xs) (p : Str → Bool) : Asc (xs.filter p) := h.sublist List.filter_sublist
/-- a list without repeats, grown by one -/
def addL (xs : List Str) (y : Str) : List Str := if y ∈ xs then xs else xs ++ [y]
theorem addL_mem {xs : List Str} {y z : Str} : z ∈ addL xs y ↔ z ∈ xs ∨ z = y := by
  unfold addL
  split
  · next h =>
    constructor
    · exact .inl
    · rintro (m | rfl)
      · exact m
      · exact h
  · simp
theorem addL_nodup {xs : List Str} {y : Str} (n : xs.Nodup) : (addL xs y).Nodup := by
  unfold addL
  split
  · exact n
  · next h =>
    rw [List.nodup_append]
    refine ⟨n, List.nodup_cons.mpr ⟨fun h => (by cases h), List.nodup_nil⟩, fun a ha b hb e => ?_⟩
    rw [List.mem_singleton.mp hb] at e
    exact h (e ▸ ha)
theorem addL_len (xs : List Str) (y : Str) : (addL xs y).length ≤ xs.length + 1 := by
  unfold addL
  split
  · omega
  · rw [List.length_append]; exact Nat.le_refl _
/-- the keys of a dict that is used as a set -/
def tk (xs : List Str) : List (Key × V) := xs.map fun z => (Sum.inr z, V.bl true)
theorem tk_keys (xs : List Str) : (tk xs).map (·.1) = xs.map Sum.inr := by
  unfold tk
  rw [List.map_map]
  rfl
theorem tk_val (xs : List Str) (z : Str) : (valV (tk xs) (.inr z)).isSome = decide (z ∈ xs) := by
  rw [← valV_any]
  unfold tk
  rw [List.any_map, Bool.eq_iff_iff]
  simp only [List.any_eq_true, Function.comp, decide_eq_true_eq]
  constructor
  · rintro ⟨x, hx, e⟩
    exact Sum.inr.inj e ▸ hx
  · exact fun h => ⟨z, h, rfl⟩
theorem tk_put (xs : List Str) (z : Str) : putK (tk xs) (.inr z) (.bl true) = tk (addL xs z) := by
  unfold putK addL
  rw [valV_any, tk_val]
  by_cases h : z ∈ xs
  · rw [if_pos (decide_eq_true h), if_pos h]
    unfold tk
    rw [List.map_map]
    apply List.map_congr_left
    intro x hx
    show (if (Sum.inr x : Key) = .inr z then ((Sum.inr x : Key), V.bl true) else (.inr x, .bl true)) = _
    split <;> rfl
  · rw [if_neg (by simpa using h), if_neg h]
    unfold tk
    rw [List.map_append]
    rfl
theorem tk_len (xs : List Str) : (tk xs).length = xs.length := List.length_map ..

end K29

namespace K29
open PySem PySem.Spec PyProof.Rows L2 Qk
local macro_rules | `(tactic| walk_at "m") => `(tactic| ((repeat (first | exact List.Mem.head _ | apply List.Mem.tail)); done))
local macro_rules | `(tactic| walk_at "h") => `(tactic| first | assumption | exact Has.gF (by assumption) (by assumption) | exact Has.get (by assumption) (by walk_at "m"))
local macro_rules | `(tactic| walk_at "c") => `(tactic| ((repeat (first | exact Chg.hd | apply Chg.tl)); done))
local macro_rules | `(tactic| walk_at "is") => `(tactic| first
  | ((with_reducible refine' is2_non ?gh ?_); (case gh => walk_at "h"))
  | (with_reducible refine is_int_list ?_)
  | (with_reducible refine is_int_tuple ?_)
  | (with_reducible refine is_int_dict ?_)
  | (with_reducible refine is_int_int ?_)
  | (with_reducible refine is_int_bool ?_)
  | (with_reducible refine is_int_str ?_)
  | ((with_reducible refine' is2_int ?gh ?_); (case gh => walk_at "h"))
  | (with_reducible refine is_str_list ?_)
  | (with_reducible refine is_str_tuple ?_)
  | (with_reducible refine is_str_dict ?_)
  | (with_reducible refine is_str_int ?_)
  | (with_reducible refine is_str_bool ?_)
  | (with_reducible refine is_str_str ?_)
  | ((with_reducible refine' is2_str ?gh ?_); (case gh => walk_at "h"))
  | (with_reducible refine is_bool_list ?_)
  | (with_reducible refine is_bool_tuple ?_)
  | (with_reducible refine is_bool_dict ?_)
  | (with_reducible refine is_bool_int ?_)
  | (with_reducible refine is_bool_bool ?_)
  | (with_reducible refine is_bool_str ?_)
  | ((with_reducible refine' is2_bool ?gh ?_); (case gh => walk_at "h"))
  | ((with_reducible refine' is_list_list ?gh ?_); (case gh => walk_at "h"))
  | ((with_reducible refine' is_list_tuple ?gh ?_); (case gh => walk_at "h"))
  | ((with_reducible refine' is_list_dict ?gh ?_); (case gh => walk_at "h"))
  | ((with_reducible refine' is_list_int ?gh ?_); (case gh => walk_at "h"))
  | ((with_reducible refine' is_list_bool ?gh ?_); (case gh => walk_at "h"))
  | ((with_reducible refine' is_list_str ?gh ?_); (case gh => walk_at "h"))
  | ((with_reducible refine' is2_list ?ga ?gb ?_); (case ga => walk_at "h"); (case gb => walk_at "h"))
  | ((with_reducible refine' is_tuple_list ?gh ?_); (case gh => walk_at "h"))
  | ((with_reducible refine' is_tuple_tuple ?gh ?_); (case gh => walk_at "h"))
  | ((with_reducible refine' is_tuple_dict ?gh ?_); (case gh => walk_at "h"))
  | ((with_reducible refine' is_tuple_int ?gh ?_); (case gh => walk_at "h"))
  | ((with_reducible refine' is_tuple_bool ?gh ?_); (case gh => walk_at "h"))
  | ((with_reducible refine' is_tuple_str ?gh ?_); (case gh => walk_at "h"))
  | ((with_reducible refine' is2_tuple ?ga ?gb ?_); (case ga => walk_at "h"); (case gb => walk_at "h"))
  | ((with_reducible refine' is_dict_list ?gh ?_); (case gh => walk_at "h"))
  | ((with_reducible refine' is_dict_tuple ?gh ?_); (case gh => walk_at "h"))
  | ((with_reducible refine' is_dict_dict ?gh ?_); (case gh => walk_at "h"))
  | ((with_reducible refine' is_dict_int ?gh ?_); (case gh => walk_at "h"))
  | ((with_reducible refine' is_dict_bool ?gh ?_); (case gh => walk_at "h"))
  | ((with_reducible refine' is_dict_str ?gh ?_); (case gh => walk_at "h"))
  | ((with_reducible refine' is2_dict ?ga ?gb ?_); (case ga => walk_at "h"); (case gb => walk_at "h")))
local macro_rules | `(tactic| walk_at "g") => `(tactic| first
  | (with_reducible refine g_seq ?_)
  | (with_reducible refine g_asg ?_)
  | ((with_reducible refine g_name ?_); dsimp only [List.set, wipe, List.map])
  | ((with_reducible refine' g_var ?gv ?_); (case gv => exact rfl))
  | (with_reducible refine g_c ?_)
  | (with_reducible refine g_op ?_)
  | (with_reducible refine g_cons ?_)
  | (with_reducible refine g_nil ?_)
  | (with_reducible refine g_cb ?_)
  | (with_reducible refine g_call ?_)
  | (with_reducible refine g_tup ?_)
  | (with_reducible refine g_lst ?_)
  | (with_reducible refine g_bm ?_)
  | (with_reducible refine g_bm0 ?_)
  | ((with_reducible refine' g_kbm ?gh ?_); (case gh => walk_at "h"))
  | (with_reducible refine g_drop ?_)
  | (with_reducible refine g_ret ?_)
  | (with_reducible refine g_retN ?_)
  | (with_reducible refine g_next ?_)
  | (with_reducible refine g_brk ?_)
  | (with_reducible refine g_cont ?_)
  | (with_reducible refine g_if ?_)
  | ((with_reducible refine' g_aug ?gv ?_); (case gv => exact rfl))
  | (with_reducible refine g_ipI ?_)
  | (with_reducible refine g_test ?_)
  | (with_reducible refine g_tB ?_)
  | (with_reducible refine g_kB ?_)
  | (with_reducible refine g_not ?_)
  | (with_reducible refine g_and ?_)
  | (with_reducible refine g_or ?_)
  | (with_reducible refine g_andV ?_)
  | (with_reducible refine g_orV ?_)
  | (with_reducible refine g_notV ?_)
  | (with_reducible refine g_ifE ?_)
  | (with_reducible refine g_addI ?_)
  | (with_reducible refine g_rI0 ?_)
  | (with_reducible refine g_eqI ?_)
  | (with_reducible refine g_eqS ?_)
  | (with_reducible refine g_neI ?_)
  | (with_reducible refine g_neS ?_)
  | (with_reducible refine g_isN ?_)
  | (with_reducible refine g_notN ?_)
  | (with_reducible refine g_int ?_)
  | (with_reducible refine g_max2 ?_)
  | (with_reducible refine g_min2 ?_)
  | ((with_reducible refine' g_lenL ?gh ?_); (case gh => walk_at "h"))
  | (with_reducible refine g_sub ?_)
  | (with_reducible refine g_gcons ?_)
  | (with_reducible refine g_gnil ?_)
  | (with_reducible refine g_un ?_)
  | (with_reducible refine g_rU ?_)
  | (with_reducible refine g_forL ?_)
  | (with_reducible refine g_forS ?_)
  | (with_reducible refine g_forR1 ?_)
  | (with_reducible refine g_forR2 ?_)
  | (with_reducible refine g_forR3 ?_)
  | (with_reducible refine g_lcL ?_)
  | (with_reducible refine g_lcR1 ?_)
  | (with_reducible refine g_lcR2 ?_)
  | (with_reducible refine g_slice ?_)
  | (with_reducible refine g_part ?_)
  | (with_reducible refine g_kOI ?_)
  | (with_reducible refine g_nopart ?_)
  | (with_reducible refine g_yes ?_)
  | ((with_reducible refine' g_wipe ?gv ?_); (case gv => exact rfl))
  | (with_reducible refine iteT ?_)
  | (with_reducible refine iteF ?_)
  | (with_reducible refine i_nf ?_)
  | (with_reducible refine i_nt ?_)
  | ((with_reducible refine' g_gtup ?gh ?gl ?_); (case gh => walk_at "h"); (case gl => exact rfl))
  | ((with_reducible refine' g_notinI ?gh ?_); (case gh => walk_at "h"))
  | ((with_reducible refine' g_inI ?gh ?_); (case gh => walk_at "h"))
  | ((with_reducible refine' g_kget2 ?gh ?_); (case gh => walk_at "h"))
  | ((with_reducible refine' g_kgotI ?gh ?_); (case gh => walk_at "h"))
  | (with_reducible refine g_tRev ?_)
  | (with_reducible refine g_neB ?_)
  | (with_reducible refine g_eqB ?_)
  | ((with_reducible refine' g_lenT ?gh ?_); (case gh => walk_at "h"))
  | (with_reducible refine g_star ?_)
  | ((with_reducible refine' g_kstarL ?gh ?_); (case gh => walk_at "h"))
  | ((with_reducible refine' g_kstarT ?gh ?_); (case gh => walk_at "h"))
  | (with_reducible refine g_tru ?_)
  | ((with_reducible refine' g_truL ?gh ?_); (case gh => walk_at "h"))
  | (with_reducible refine g_get2 ?_)
  | (with_reducible refine g_try ?_)
  | (with_reducible refine g_fld ?_)
  | (with_reducible refine g_sfld ?_)
  | (with_reducible refine g_meth ?_)
  | (with_reducible refine g_make ?_)
  | (with_reducible refine g_del ?_)
  | (with_reducible refine g_callS ?_)
  | (with_reducible refine g_raise ?_)
  | (with_reducible refine g_xf ?_)
  | (with_reducible refine g_m0 ?_)
  | (with_reducible refine g_km0 ?_)
  | walk_at "is")
local macro_rules | `(tactic| walk_at "gg") => `(tactic| repeat walk_at "g")
local macro_rules | `(tactic| walk_at "sz") => `(tactic| (refine sz ?_; simp only [List.length_cons, List.length_nil, List.length_map, List.length_append, List.length_replicate]; omega))
local macro_rules | `(tactic| walk_at "sub") => `(tactic| ((repeat (first | exact List.Sublist.slnil | with_reducible apply List.Sublist.cons_cons | with_reducible apply List.Sublist.cons)); done))

/-! ### orders -/
abbrev URow := Str × List Str
def undr (rows : List URow) (x : Str) : Option (List Str) := (rows.find? fun r => decide (r.1 = x)).map (·.2)
def uD (r : URow) : PyData := .list (r.2.map PyData.str)
/-- what an order holds: its names, and for each name the ascending list of the versions under it -/
structure OrdOk (F : Hp) (nl : Addr) (kvs : List (Key × V)) (rows : List URow) : Prop where
  keys : kvs.map (·.1) = rows.map fun r => (Sum.inr r.1 : Key)
  vals : DqAll F (kvs.map (·.2)) (rows.map uD)
  names : ∃ ns : List Str, F nl = some (.lst (ns.map V.str)) ∧ Asc ns ∧ ∀ z, z ∈ ns ↔ z ∈ rows.map (·.1)
  few : rows.length ≤ 60
  nd : (rows.map (·.1)).Nodup
  asc : ∀ r ∈ rows, Asc r.2
  sub : ∀ r ∈ rows, ∀ z ∈ r.2, z ∈ rows.map (·.1)
theorem OrdOk.mono {F F' : Hp} {nl : Addr} {kvs : List (Key × V)} {rows : List URow} (h : OrdOk F nl kvs rows) (s : Same F F') : OrdOk F' nl kvs rows := by
  obtain ⟨ns, h1, h2⟩ := h.names
  exact ⟨h.keys, h.vals.up s _ _, ⟨ns, s _ _ h1, h2⟩, h.few, h.nd, h.asc, h.sub⟩
theorem OrdOk.empty {F : Hp} {nl : Addr} (h : F nl = some (.lst [])) : OrdOk F nl [] [] := ⟨rfl, .nil, ⟨[], h, List.Pairwise.nil, fun z => Iff.rfl⟩, Nat.zero_le _, List.nodup_nil, fun r h => (by cases h), fun r h => (by cases h)⟩
theorem undr_cons (r : URow) (rows : List URow) (x : Str) : undr (r :: rows) x = if r.1 = x then some r.2 else undr rows x := by
  unfold undr
  by_cases h : r.1 = x
  · rw [List.find?_cons_of_pos (by simpa using h), if_pos h]; rfl
  · rw [List.find?_cons_of_neg (by simpa using h), if_neg h]
theorem undr_mem {rows : List URow} {x : Str} {u : List Str} (h : undr rows x = some u) : (x, u) ∈ rows := by
  unfold undr at h
  obtain ⟨r, hr, rfl⟩ := Option.map_eq_some_iff.mp h
  have e := List.find?_some hr
  have m := List.mem_of_find?_eq_some hr
  have e : r.1 = x := by simpa using e
  rw [← e]
  exact m
theorem undr_known : ∀ {rows : List URow} {x : Str}, (undr rows x).isSome = decide (x ∈ rows.map (·.1))
  | [], x => rfl
  | r :: rows, x => by
    rw [undr_cons]
    by_cases h : r.1 = x
    · rw [if_pos h]
      simp [h]
    · rw [if_neg h, undr_known (rows := rows)]
      have : ¬ x = r.1 := fun e => h e.symm
      simp [this]
theorem undr_of : ∀ {rows : List URow} {x : Str} {u : List Str}, (rows.map (·.1)).Nodup → (x, u) ∈ rows → undr rows x = some u
  | r :: rows, x, u, n, m => by
    rw [undr_cons]
    rw [List.map_cons] at n
    have n := List.nodup_cons.mp n
    rcases List.mem_cons.mp m with e | m
    · subst e
      rw [if_pos rfl]
    · rw [if_neg (fun e => n.1 (by rw [e]; exact List.mem_map.mpr ⟨_, m, rfl⟩)), undr_of n.2 m]
theorem undr_app {rows : List URow} {r : URow} {x : Str} : undr (rows ++ [r]) x = (undr rows x).or (if r.1 = x then some r.2 else none) := by
  unfold undr
  rw [List.find?_append, Option.map_or]
  congr 1
  by_cases h : r.1 = x
  · rw [List.find?_cons_of_pos (by simpa using h), if_pos h]; rfl
  · rw [List.find?_cons_of_neg (by simpa using h), if_neg h]; rfl
theorem look_at : ∀ {kvs : List (Key × V)} {rows : List URow} {F : Hp} {x : Str}, kvs.map (·.1) = rows.map (fun r => (Sum.inr r.1 : Key)) → DqAll F (kvs.map (·.2)) (rows.map uD) →
    (∀ u, undr rows x = some u → ∃ l, valV kvs (.inr x) = some (.ref l) ∧ F l = some (.lst (u.map V.str))) ∧ (undr rows x = none → valV kvs (.inr x) = none)
  | [], [], _, _, _, _ => ⟨fun r h => (by cases h), fun _ => rfl⟩
  | p :: kvs, [], _, _, e, _ => by cases e
  | [], r :: rows, _, _, e, _ => by cases e
  | (q, v) :: kvs, r :: rows, F, x, e, d => by
    rw [List.map_cons, List.map_cons] at e
    injection e with e1 e2
    rw [List.map_cons, List.map_cons] at d
    cases d with
    | cons d1 d2 =>
      have e1 : q = .inr r.1 := e1
      subst e1
      obtain ⟨i1, i2⟩ := look_at (x := x) e2 d2
      rw [undr_cons]
      by_cases h : r.1 = x
      · subst h
        rw [if_pos rfl, valV_pos rfl]
        obtain ⟨l, el, hl⟩ := Dq.of_strs d1
        have el : v = .ref l := el
        refine ⟨fun u hu => ?_, fun z => by cases z⟩
        injection hu with hu
        subst hu
        exact ⟨l, by rw [el], hl⟩
      · rw [if_neg h, valV_neg (fun z => h (Sum.inr.inj z))]
        exact ⟨i1, i2⟩
theorem OrdOk.look {F : Hp} {nl : Addr} {kvs : List (Key × V)} {rows : List URow} {x : Str} {u : List Str} (h : OrdOk F nl kvs rows) (e : undr rows x = some u) : ∃ l, valV kvs (.inr x) = some (.ref l) ∧ F l = some (.lst (u.map V.str)) := (look_at h.keys h.vals).1 u e
theorem OrdOk.val {F : Hp} {nl : Addr} {kvs : List (Key × V)} {rows : List URow} (h : OrdOk F nl kvs rows) (x : Str) : (valV kvs (.inr x)).isSome = (undr rows x).isSome := by
  cases e : undr rows x with
  | none => rw [(look_at h.keys h.vals).2 e]; rfl
  | some u =>
    obtain ⟨l, el, _⟩ := h.look e
    rw [el]; rfl
theorem OrdOk.under_few {F : Hp} {nl : Addr} {kvs : List (Key × V)} {rows : List URow} (h : OrdOk F nl kvs rows) {x : Str} {u : List Str} (e : undr rows x = some u) : u.length ≤ 60 := by
  have m := undr_mem e
  have := length_le_of_nodup_of_subset u (rows.map (·.1)) (h.asc _ m).nodup (h.sub _ m)
  rw [List.length_map] at this
  have := h.few
  omega
/-- the first fault of a list of names -/
def chkE (kn : Str → Bool) : List Str → List Str → Option (Bool × Str)
  | _, [] => none
  | seen, x :: r => if kn x = true then if x ∈ seen then some (false, x) else chkE kn (seen ++ [x]) r else some (true, x)
def kn (rows : List URow) (x : Str) : Bool := (undr rows x).isSome
theorem inV_strs (x : Str) (ys : List Str) : inV (.str x) (ys.map V.str) = decide (x ∈ ys) := by
  unfold inV
  rw [List.any_map, Bool.eq_iff_iff]
  simp only [List.any_eq_true, Function.comp, decide_eq_true_eq]
  constructor
  · rintro ⟨y, hy, e⟩
    have e : (y == x) = true := e
    exact (beq_iff_eq.mp e) ▸ hy
  · exact fun h => ⟨x, h, (beq_iff_eq (a := x) (b := x)).mpr rfl⟩
theorem flat_strs (ys : List Str) : (ys.map V.str).all flatV = true := by
  rw [List.all_map]
  exact List.all_eq_true.mpr fun _ _ => rfl
section
variable {P : Program} {w : World} {K : PySem.W.Frag} {mg : Str → Option Value} {base : Heap}
def of_ (nl d : Addr) : List (Str × V) := [("_names", .ref nl), ("_under", .ref d)]
def OrdO (T : Txt K mg) (a dx d nl : Addr) (kvs : List (Key × V)) : Own := [(a, .ins T.C_Order dx (of_ nl d)), (dx, .own a), (d, .dK kvs)]
structure OrdAt (T : Txt K mg) (H : Hp) (a dx d nl : Addr) (kvs : List (Key × V)) : Prop where
  i : H a = some (.ins T.C_Order dx (of_ nl d))
  d : H d = some (.dK kvs)
theorem OrdAt.mono {T : Txt K mg} {H H' : Hp} {a dx d nl : Addr} {kvs : List (Key × V)} (h : OrdAt T H a dx d nl kvs) (s : Same H H') : OrdAt T H' a dx d nl kvs := ⟨s _ _ h.i, s _ _ h.d⟩
/-- an order that stands still -/
structure Ord (T : Txt K mg) (H : Hp) (a : Addr) (rows : List URow) : Prop where
  ex : ∃ dx d nl kvs, OrdAt T H a dx d nl kvs ∧ OrdOk H nl kvs rows
theorem Ord.mono {T : Txt K mg} {H H' : Hp} {a : Addr} {rows : List URow} (h : Ord T H a rows) (s : Same H H') : Ord T H' a rows := by
  obtain ⟨dx, d, nl, kvs, h1, h2⟩ := h.ex
  exact ⟨dx, d, nl, kvs, h1.mono s, h2.mono s⟩
def lost_nm (C : Addr) (H : Hp) (E : XK) (z : Str) : Prop := ∀ e H', Same H H' → H e = none → H' e = some (.xd [("name", .str z)]) → E (.ref C) (some e) H'
def sp_Order___init__ (T : Txt K mg) : Sp := fun vs H Q _ => ∃ (a dx : Addr) (F : Hp), vs = [.ref a] ∧ Has F [(a, .ins T.C_Order dx []), (dx, .own a)] H ∧
  ∀ d nl H' F', H d = none → ButA [(a, .ins T.C_Order dx []), (dx, .own a)] H H' → Grow F H F' → Has F' (OrdO T a dx d nl []) H' → F' nl = some (.lst []) → Q .non H'
theorem sp_Order___init___len {T : Txt K mg} {vs H Q E} (h : sp_Order___init__ T vs H Q E) : vs.length = 1 := by
  obtain ⟨_, _, _, rfl, _⟩ := h
  rfl
theorem ok_Order___init__ (T : Txt K mg) : FnOk P w K mg base CX0 1 T.f_Order___init__ T.fd_Order___init__ ["self"] (sp_Order___init__ T) := by
  refine T.F_Order___init__.ok sc_Order___init__ (fun vs H Q E h => sp_Order___init___len h) (fun cdv A outer s H vs Q E hr h => ?_)
  refine ⟨_, (pss_cons (k_sfld K (ps_fld (pv 0) (pe_lst pa_nil) rfl))
      (pss_one (k_sfld K (ps_fld (pv 0) pe_dnewK rfl)))), ?_⟩
  obtain ⟨a, dx, F, rfl, hH, q⟩ := h
  refine g_start (σ' := [some (.ref a)]) rfl ?_
  walk_at "gg"
  have hr := hH.re
  refine g_klstF (by walk_at "sz") hr (fun nl H0 F0 n0 s0 fnl h0 => ?_)
  walk_at "gg"
  refine g_ksfld (fs' := [("_names", .ref nl)]) h0 .hd rfl T.cl_Order T.nA_Order__names (by decide) (fun H1 h1 => ?_)
  walk_at "gg"
  refine g_dnewK h1 (fun d H2 n2 h2 => ?_)
  walk_at "gg"
  refine g_ksfld (fs' := of_ nl d) h2 (by walk_at "c") rfl T.cl_Order T.nA_Order__under (by show 1 < 1000; decide) (fun H3 h3 => ?_)
  have h3' : Has F0 (OrdO T a dx d nl []) H3 := h3.perm (List.perm_append_comm (l₁ := [(a, HO.ins T.C_Order dx (of_ nl d)), (dx, HO.own a)]) (l₂ := [(d, HO.dK [])]))
  have nd : H d = none := newp hH (mix_but hH s0 h1) h1 (fun q hq => by
    simp only [List.mem_cons, List.not_mem_nil, or_false] at hq
    rcases hq with rfl | rfl <;> simp) n2
  refine q d nl H3 (mixF F H F0) nd (mix_but hH s0 h3') (mix_grow hH s0) (mix_has hH s0 h3' (fun q hq => by
    simp only [OrdO, List.mem_cons, List.not_mem_nil, or_false] at hq
    rcases hq with rfl | rfl | rfl
    · exact .inl (by simp)
    · exact .inl (by simp)
    · exact .inr nd)) ?_
  rw [mix_at n0]
  exact fnl
def sp_Order_under (T : Txt K mg) : Sp := fun vs H Q E => ∃ (a : Addr) (rows : List URow) (x : Str), vs = [.ref a, .str x] ∧ Ord T H a rows ∧ (∀ u, undr rows x = some u → ∀ p H', Same H H' → H p = none → H' p = some (.lst (u.map V.str)) → Q (.ref p) H') ∧ (undr rows x = none → lost_nm T.C_Unknown H E x)
theorem sp_Order_under_len {T : Txt K mg} {vs H Q E} (h : sp_Order_under T vs H Q E) : vs.length = 2 := by
  obtain ⟨_, _, _, rfl, _⟩ := h
  rfl
theorem ok_Order_under (T : Txt K mg) : FnOk P w K mg base (L2N.CX P w) 3 T.f_Order_under T.fd_Order_under ["self", "name"] (sp_Order_under T) := by
  refine Fun.okN T.F_Order_under sc_Order_under (fun vs H Q E h => sp_Order_under_len h) (fun cdv A outer s H vs Q E hr h => ?_)
  refine ⟨_, (pss_cons (ps_if (pt_cmpR (op_notinM K P w hr.units (u65 hr)) (pv 1) (k_fld K (pe_fld (pv 0) rfl)) (by rfl)) (pss_one (k_raise rfl (L2N.takes_of rfl rfl rfl rfl) (pmk_oexN T.O_Unknown T.iC_Unknown T.tI_Unknown (ok_init_Unknown T) (hr.mono (by decide)) T.bi_Unknown pass0 (by rfl) T.g_Unknown (pa_cons (pv 1) pa_nil)))) pss_nil)
      (pss_one (ps_ret (pe_callTy (cr_listK K) (by rfl) T.m_list (by decide +kernel) (pa_cons (pe_ix (ix_K K (hu_of hr)) (k_fld K (pe_fld (pv 0) rfl)) (pv 1) (fun _ _ => rfl)) pa_nil))))), ?_⟩
  obtain ⟨a, rows, x, rfl, ho, q, qe⟩ := h
  obtain ⟨dx, d, nl, kvs, at_, ok⟩ := ho.ex
  have hH := Has.start H
  have ha := at_.i
  have hd := at_.d
  refine g_start (σ' := [some (.ref a), some (.str x)]) rfl ?_
  walk_at "gg"
  refine g_kfld (by walk_at "h") T.cl_Order T.nA_Order__under rfl ?_
  walk_at "gg"
  refine g_notinM (g_notinS hd ?_)
  rw [ok.val]
  cases hu : undr rows x with
  | none =>
    rw [Option.isSome_none]
    walk_at "gg"
    exact g_mk rfl (by decide) hH (fun e H' n' h' => qe hu e H' h'.same n' (h'.get (List.Mem.head _)))
  | some u =>
    obtain ⟨l, el, hl⟩ := ok.look hu
    rw [Option.isSome_some]
    walk_at "gg"
    refine g_kfld (by walk_at "h") T.cl_Order T.nA_Order__under rfl ?_
    walk_at "gg"
    refine g_ixDS hd el ?_
    walk_at "gg"
    refine g_listL hl hH (fun p H1 n1 h1 => ?_)
    exact q u hu p H1 h1.same n1 (h1.get (List.Mem.head _))
end

end K29

namespace K29
open PySem PySem.Spec PyProof.Rows L2 Qk
local macro_rules | `(tactic| walk_at "m") => `(tactic| ((repeat (first | exact List.Mem.head _ | apply List.Mem.tail)); done))
local macro_rules | `(tactic| walk_at "h") => `(tactic| first | assumption | exact Has.gF (by assumption) (by assumption) | exact Has.get (by assumption) (by walk_at "m"))
local macro_rules | `(tactic| walk_at "c") => `(tactic| ((repeat (first | exact Chg.hd | apply Chg.tl)); done))
local macro_rules | `(tactic| walk_at "is") => `(tactic| first
  | ((with_reducible refine' is2_non ?gh ?_); (case gh => walk_at "h"))
  | (with_reducible refine is_int_list ?_)
  | (with_reducible refine is_int_tuple ?_)
  | (with_reducible refine is_int_dict ?_)
  | (with_reducible refine is_int_int ?_)
  | (with_reducible refine is_int_bool ?_)
  | (with_reducible refine is_int_str ?_)
  | ((with_reducible refine' is2_int ?gh ?_); (case gh => walk_at "h"))
  | (with_reducible refine is_str_list ?_)
  | (with_reducible refine is_str_tuple ?_)
  | (with_reducible refine is_str_dict ?_)
  | (with_reducible refine is_str_int ?_)
  | (with_reducible refine is_str_bool ?_)
  | (with_reducible refine is_str_str ?_)
  | ((with_reducible refine' is2_str ?gh ?_); (case gh => walk_at "h"))
  | (with_reducible refine is_bool_list ?_)
  | (with_reducible refine is_bool_tuple ?_)
  | (with_reducible refine is_bool_dict ?_)
  | (with_reducible refine is_bool_int ?_)
  | (with_reducible refine is_bool_bool ?_)
  | (with_reducible refine is_bool_str ?_)
  | ((with_reducible refine' is2_bool ?gh ?_); (case gh => walk_at "h"))
  | ((with_reducible refine' is_list_list ?gh ?_); (case gh => walk_at "h"))
  | ((with_reducible refine' is_list_tuple ?gh ?_); (case gh => walk_at "h"))
  | ((with_reducible refine' is_list_dict ?gh ?_); (case gh => walk_at "h"))
  | ((with_reducible refine' is_list_int ?gh ?_); (case gh => walk_at "h"))
  | ((with_reducible refine' is_list_bool ?gh ?_); (case gh => walk_at "h"))
  | ((with_reducible refine' is_list_str ?gh ?_); (case gh => walk_at "h"))
  | ((with_reducible refine' is2_list ?ga ?gb ?_); (case ga => walk_at "h"); (case gb => walk_at "h"))
  | ((with_reducible refine' is_tuple_list ?gh ?_); (case gh => walk_at "h"))
  | ((with_reducible refine' is_tuple_tuple ?gh ?_); (case gh => walk_at "h"))
  | ((with_reducible refine' is_tuple_dict ?gh ?_); (case gh => walk_at "h"))
  | ((with_reducible refine' is_tuple_int ?gh ?_); (case gh => walk_at "h"))
  | ((with_reducible refine' is_tuple_bool ?gh ?_); (case gh => walk_at "h"))
  | ((with_reducible refine' is_tuple_str ?gh ?_); (case gh => walk_at "h"))
  | ((with_reducible refine' is2_tuple ?ga ?gb ?_); (case ga => walk_at "h"); (case gb => walk_at "h"))
  | ((with_reducible refine' is_dict_list ?gh ?_); (case gh => walk_at "h"))
  | ((with_reducible refine' is_dict_tuple ?gh ?_); (case gh => walk_at "h"))
  | ((with_reducible refine' is_dict_dict ?gh ?_); (case gh => walk_at "h"))
  | ((with_reducible refine' is_dict_int ?gh ?_); (case gh => walk_at "h"))
  | ((with_reducible refine' is_dict_bool ?gh ?_); (case gh => walk_at "h"))
  | ((with_reducible refine' is_dict_str ?gh ?_); (case gh => walk_at "h"))
  | ((with_reducible refine' is2_dict ?ga ?gb ?_); (case ga => walk_at "h"); (case gb => walk_at "h")))
local macro_rules | `(tactic| walk_at "g") => `(tactic| first
  | (with_reducible refine g_seq ?_)
  | (with_reducible refine g_asg ?_)
  | ((with_reducible refine g_name ?_); dsimp only [List.set, wipe, List.map])
  | ((with_reducible refine' g_var ?gv ?_); (case gv => exact rfl))
  | (with_reducible refine g_c ?_)
  | (with_reducible refine g_op ?_)
  | (with_reducible refine g_cons ?_)
  | (with_reducible refine g_nil ?_)
  | (with_reducible refine g_cb ?_)
  | (with_reducible refine g_call ?_)
  | (with_reducible refine g_tup ?_)
  | (with_reducible refine g_lst ?_)
  | (with_reducible refine g_bm ?_)
  | (with_reducible refine g_bm0 ?_)
  | ((with_reducible refine' g_kbm ?gh ?_); (case gh => walk_at "h"))
  | (with_reducible refine g_drop ?_)
  | (with_reducible refine g_ret ?_)
  | (with_reducible refine g_retN ?_)
  | (with_reducible refine g_next ?_)
  | (with_reducible refine g_brk ?_)
  | (with_reducible refine g_cont ?_)
  | (with_reducible refine g_if ?_)
  | ((with_reducible refine' g_aug ?gv ?_); (case gv => exact rfl))
  | (with_reducible refine g_ipI ?_)
  | (with_reducible refine g_test ?_)
  | (with_reducible refine g_tB ?_)
  | (with_reducible refine g_kB ?_)
  | (with_reducible refine g_not ?_)
  | (with_reducible refine g_and ?_)
  | (with_reducible refine g_or ?_)
  | (with_reducible refine g_andV ?_)
  | (with_reducible refine g_orV ?_)
  | (with_reducible refine g_notV ?_)
  | (with_reducible refine g_ifE ?_)
  | (with_reducible refine g_addI ?_)
  | (with_reducible refine g_rI0 ?_)
  | (with_reducible refine g_eqI ?_)
  | (with_reducible refine g_eqS ?_)
  | (with_reducible refine g_neI ?_)
  | (with_reducible refine g_neS ?_)
  | (with_reducible refine g_isN ?_)
  | (with_reducible refine g_notN ?_)
  | (with_reducible refine g_int ?_)
  | (with_reducible refine g_max2 ?_)
  | (with_reducible refine g_min2 ?_)
  | ((with_reducible refine' g_lenL ?gh ?_); (case gh => walk_at "h"))
  | (with_reducible refine g_sub ?_)
  | (with_reducible refine g_gcons ?_)
  | (with_reducible refine g_gnil ?_)
  | (with_reducible refine g_un ?_)
  | (with_reducible refine g_rU ?_)
  | (with_reducible refine g_forL ?_)
  | (with_reducible refine g_forS ?_)
  | (with_reducible refine g_forR1 ?_)
  | (with_reducible refine g_forR2 ?_)
  | (with_reducible refine g_forR3 ?_)
  | (with_reducible refine g_lcL ?_)
  | (with_reducible refine g_lcR1 ?_)
  | (with_reducible refine g_lcR2 ?_)
  | (with_reducible refine g_slice ?_)
  | (with_reducible refine g_part ?_)
  | (with_reducible refine g_kOI ?_)
  | (with_reducible refine g_nopart ?_)
  | (with_reducible refine g_yes ?_)
  | ((with_reducible refine' g_wipe ?gv ?_); (case gv => exact rfl))
  | (with_reducible refine iteT ?_)
  | (with_reducible refine iteF ?_)
  | (with_reducible refine i_nf ?_)
  | (with_reducible refine i_nt ?_)
  | ((with_reducible refine' g_gtup ?gh ?gl ?_); (case gh => walk_at "h"); (case gl => exact rfl))
  | ((with_reducible refine' g_notinI ?gh ?_); (case gh => walk_at "h"))
  | ((with_reducible refine' g_inI ?gh ?_); (case gh => walk_at "h"))
  | ((with_reducible refine' g_kget2 ?gh ?_); (case gh => walk_at "h"))
  | ((with_reducible refine' g_kgotI ?gh ?_); (case gh => walk_at "h"))
  | (with_reducible refine g_tRev ?_)
  | (with_reducible refine g_neB ?_)
  | (with_reducible refine g_eqB ?_)
  | ((with_reducible refine' g_lenT ?gh ?_); (case gh => walk_at "h"))
  | (with_reducible refine g_star ?_)
  | ((with_reducible refine' g_kstarL ?gh ?_); (case gh => walk_at "h"))
  | ((with_reducible refine' g_kstarT ?gh ?_); (case gh => walk_at "h"))
  | (with_reducible refine g_tru ?_)
  | ((with_reducible refine' g_truL ?gh ?_); (case gh => walk_at "h"))
  | (with_reducible refine g_get2 ?_)
  | (with_reducible refine g_try ?_)
  | (with_reducible refine g_fld ?_)
  | (with_reducible refine g_sfld ?_)
  | (with_reducible refine g_meth ?_)
  | (with_reducible refine g_make ?_)
  | (with_reducible refine g_del ?_)
  | (with_reducible refine g_callS ?_)
  | (with_reducible refine g_raise ?_)
  | (with_reducible refine g_xf ?_)
  | (with_reducible refine g_m0 ?_)
  | (with_reducible refine g_km0 ?_)
  | walk_at "is")
local macro_rules | `(tactic| walk_at "gg") => `(tactic| repeat walk_at "g")
local macro_rules | `(tactic| walk_at "sz") => `(tactic| (refine sz ?_; simp only [List.length_cons, List.length_nil, List.length_map, List.length_append, List.length_replicate]; omega))
local macro_rules | `(tactic| walk_at "sub") => `(tactic| ((repeat (first | exact List.Sublist.slnil | with_reducible apply List.Sublist.cons_cons | with_reducible apply List.Sublist.cons)); done))

/-! ### checked, put -/
theorem map_take1 {α β : Type} (f : α → β) {l : List α} {i : Nat} {x : α} (h : l[i]? = some x) : (l.take (i + 1)).map f = (l.take i).map f ++ [f x] := by
  rw [List.take_add_one, h, List.map_append]
  rfl
theorem drop_at {α : Type} {l : List α} {i : Nat} {x : α} (h : l[i]? = some x) : l.drop i = x :: l.drop (i + 1) := by
  obtain ⟨hlt, rfl⟩ := List.getElem?_eq_some_iff.mp h
  exact List.drop_eq_getElem_cons hlt
theorem str_at {xs : List Str} {i : Nat} {x : V} (h : (xs.map V.str)[i]? = some x) : ∃ z, xs[i]? = some z ∧ x = .str z := by
  rw [List.getElem?_map] at h
  obtain ⟨z, hz, rfl⟩ := Option.map_eq_some_iff.mp h
  exact ⟨z, hz, rfl⟩
section
variable {P : Program} {w : World} {K : PySem.W.Frag} {mg : Str → Option Value} {base : Heap}
def sp_Order_checked (T : Txt K mg) : Sp := fun vs H Q E => ∃ (a l : Addr) (rows : List URow) (xs : List Str), vs = [.ref a, .ref l] ∧ Ord T H a rows ∧ H l = some (.lst (xs.map V.str)) ∧ xs.length ≤ 200 ∧
  (chkE (kn rows) [] xs = none → ∀ p H', Same H H' → H p = none → H' p = some (.lst (xs.map V.str)) → Q (.ref p) H') ∧
  (∀ z, chkE (kn rows) [] xs = some (true, z) → lost_nm T.C_Unknown H E z) ∧ (∀ z, chkE (kn rows) [] xs = some (false, z) → lost_nm T.C_Repeated H E z)
theorem sp_Order_checked_len {T : Txt K mg} {vs H Q E} (h : sp_Order_checked T vs H Q E) : vs.length = 2 := by
  obtain ⟨_, _, _, _, rfl, _⟩ := h
  rfl
theorem ok_Order_checked (T : Txt K mg) : FnOk P w K mg base (L2N.CX P w) 3 T.f_Order_checked T.fd_Order_checked ["self", "names"] (sp_Order_checked T) := by
  refine Fun.okN T.F_Order_checked sc_Order_checked (fun vs H Q E h => sp_Order_checked_len h) (fun cdv A outer s H vs Q E hr h => ?_)
  refine ⟨_, (pss_cons (ps_set (i := 2) sc_Order_checked.nd rfl (.inl rfl) (pe_lst pa_nil))
      (pss_cons (ps_for (L2.passes_of rfl) rfl (k_il K (pi_list (pv 1))) (pg_name (i := 3) sc_Order_checked.nd rfl (.inl rfl)) (pss_cons (ps_if (pt_cmpR (op_notinM K P w hr.units (u65 hr)) (pv 3) (k_fld K (pe_fld (pv 0) rfl)) (by rfl)) (pss_one (k_raise rfl (L2N.takes_of rfl rfl rfl rfl) (pmk_oexN T.O_Unknown T.iC_Unknown T.tI_Unknown (ok_init_Unknown T) (hr.mono (by decide)) T.bi_Unknown pass0 (by rfl) T.g_Unknown (pa_cons (pv 3) pa_nil)))) pss_nil)
      (pss_cons (ps_if (pt_cmpR (op_inM K P w hr.units (u65 hr)) (pv 3) (pv 2) (by rfl)) (pss_one (k_raise rfl (L2N.takes_of rfl rfl rfl rfl) (pmk_oexN T.O_Repeated T.iC_Repeated T.tI_Repeated (ok_init_Repeated T) (hr.mono (by decide)) T.bi_Repeated pass0 (by rfl) T.g_Repeated (pa_cons (pv 3) pa_nil)))) pss_nil)
      (pss_one (ps_expr (k_bm K (pe_bm PySem.F.plainAttrs_list PySem.F.slot_list_append PySem.F.type_list_append mt_append (pv 2) (pa_cons (pv 3) pa_nil))))))))
      (pss_one (ps_ret (pv 2))))), ?_⟩
  obtain ⟨a, l, rows, xs, rfl, ho, hl, few, q, qu, qr⟩ := h
  obtain ⟨dx, d, nl, kvs, at_, ok⟩ := ho.ex
  have hH := Has.start H
  have ha := at_.i
  have hd := at_.d
  refine g_start (σ' := [some (.ref a), some (.ref l), none, none]) rfl ?_
  walk_at "gg"
  refine g_klst (by walk_at "sz") hH (fun p H1 n1 h1 => ?_)
  walk_at "gg"
  refine k_forL (h1.same _ _ hl) (fun t σ H' => ∃ y3, σ = [some (.ref a), some (.ref l), some (.ref p), y3] ∧ Has H [(p, .lst ((xs.take t).map V.str))] H' ∧ chkE (kn rows) [] xs = chkE (kn rows) (xs.take t) (xs.drop t)) ⟨_, rfl, h1, rfl⟩ ?_ ?_ ?_
  · rintro t σ H' _ ⟨y3, rfl, h2, _⟩
    exact h2.same _ _ hl
  · rintro t x σ H2 hx ⟨y3, rfl, h2, e2⟩
    obtain ⟨z, hz, rfl⟩ := str_at hx
    have htl : t < xs.length := (List.getElem?_eq_some_iff.mp hz).1
    rw [drop_at hz] at e2
    have e2 : chkE (kn rows) [] xs = if kn rows z = true then if z ∈ xs.take t then some (false, z) else chkE (kn rows) (xs.take t ++ [z]) (xs.drop (t + 1)) else some (true, z) := e2
    walk_at "gg"
    refine g_kfld (by walk_at "h") T.cl_Order T.nA_Order__under rfl ?_
    walk_at "gg"
    refine g_notinM (g_notinS (h2.same _ _ hd) ?_)
    rw [ok.val]
    cases hk : kn rows z with
    | false =>
      have hk' : (undr rows z).isSome = false := hk
      rw [hk']
      rw [hk, if_neg (fun z => by cases z)] at e2
      walk_at "gg"
      exact g_mk rfl (by decide) h2 (fun e H' n' h' => qu z e2 e H' h'.same (h2.same.free n') (h'.get (List.Mem.head _)))
    | true =>
      have hk' : (undr rows z).isSome = true := hk
      rw [hk']
      rw [hk, if_pos rfl] at e2
      walk_at "gg"
      refine g_inM (g_inFL (h2.get (List.Mem.head _)) rfl (flat_strs _) ?_)
      rw [inV_strs]
      walk_at "gg"
      refine i_d (fun m => ?_) (fun m => ?_)
      · rw [if_pos m] at e2
        walk_at "gg"
        exact g_mk rfl (by decide) h2 (fun e H' n' h' => qr z e2 e H' h'.same (h2.same.free n') (h'.get (List.Mem.head _)))
      · rw [if_neg m] at e2
        walk_at "gg"
        refine g_append h2 .hd (szl (by rw [List.length_map, List.length_take]; omega)) (fun H3 h3 => ?_)
        walk_at "gg"
        have t1 : xs.take (t + 1) = xs.take t ++ [z] := by rw [List.take_add_one, hz]; rfl
        exact ⟨_, rfl, by rw [map_take1 V.str hz]; exact h3, by rw [t1]; exact e2⟩
  · rintro σ H2 ⟨y3, rfl, h2, e2⟩
    rw [List.length_map, List.take_length] at h2
    rw [List.length_map, List.drop_length] at e2
    walk_at "gg"
    exact q e2 p H2 h2.same n1 (h2.get (List.Mem.head _))
end

end K29

namespace K29
open PySem PySem.Spec PyProof.Rows L2 Qk
local macro_rules | `(tactic| walk_at "m") => `(tactic| ((repeat (first | exact List.Mem.head _ | apply List.Mem.tail)); done))
local macro_rules | `(tactic| walk_at "h") => `(tactic| first | assumption | exact Has.gF (by assumption) (by assumption) | exact Has.get (by assumption) (by walk_at "m"))
local macro_rules | `(tactic| walk_at "c") => `(tactic| ((repeat (first | exact Chg.hd | apply Chg.tl)); done))
local macro_rules | `(tactic| walk_at "is") => `(tactic| first
  | ((with_reducible refine' is2_non ?gh ?_); (case gh => walk_at "h"))
  | (with_reducible refine is_int_list ?_)
  | (with_reducible refine is_int_tuple ?_)
  | (with_reducible refine is_int_dict ?_)
  | (with_reducible refine is_int_int ?_)
  | (with_reducible refine is_int_bool ?_)
  | (with_reducible refine is_int_str ?_)
  | ((with_reducible refine' is2_int ?gh ?_); (case gh => walk_at "h"))
  | (with_reducible refine is_str_list ?_)
  | (with_reducible refine is_str_tuple ?_)
  | (with_reducible refine is_str_dict ?_)
  | (with_reducible refine is_str_int ?_)
  | (with_reducible refine is_str_bool ?_)
  | (with_reducible refine is_str_str ?_)
  | ((with_reducible refine' is2_str ?gh ?_); (case gh => walk_at "h"))
  | (with_reducible refine is_bool_list ?_)
  | (with_reducible refine is_bool_tuple ?_)
  | (with_reducible refine is_bool_dict ?_)
  | (with_reducible refine is_bool_int ?_)
  | (with_reducible refine is_bool_bool ?_)
  | (with_reducible refine is_bool_str ?_)
  | ((with_reducible refine' is2_bool ?gh ?_); (case gh => walk_at "h"))
  | ((with_reducible refine' is_list_list ?gh ?_); (case gh => walk_at "h"))
  | ((with_reducible refine' is_list_tuple ?gh ?_); (case gh => walk_at "h"))
  | ((with_reducible refine' is_list_dict ?gh ?_); (case gh => walk_at "h"))
  | ((with_reducible refine' is_list_int ?gh ?_); (case gh => walk_at "h"))
  | ((with_reducible refine' is_list_bool ?gh ?_); (case gh => walk_at "h"))
  | ((with_reducible refine' is_list_str ?gh ?_); (case gh => walk_at "h"))
  | ((with_reducible refine' is2_list ?ga ?gb ?_); (case ga => walk_at "h"); (case gb => walk_at "h"))
  | ((with_reducible refine' is_tuple_list ?gh ?_); (case gh => walk_at "h"))
  | ((with_reducible refine' is_tuple_tuple ?gh ?_); (case gh => walk_at "h"))
  | ((with_reducible refine' is_tuple_dict ?gh ?_); (case gh => walk_at "h"))
  | ((with_reducible refine' is_tuple_int ?gh ?_); (case gh => walk_at "h"))
  | ((with_reducible refine' is_tuple_bool ?gh ?_); (case gh => walk_at "h"))
  | ((with_reducible refine' is_tuple_str ?gh ?_); (case gh => walk_at "h"))
  | ((with_reducible refine' is2_tuple ?ga ?gb ?_); (case ga => walk_at "h"); (case gb => walk_at "h"))
  | ((with_reducible refine' is_dict_list ?gh ?_); (case gh => walk_at "h"))
  | ((with_reducible refine' is_dict_tuple ?gh ?_); (case gh => walk_at "h"))
  | ((with_reducible refine' is_dict_dict ?gh ?_); (case gh => walk_at "h"))
  | ((with_reducible refine' is_dict_int ?gh ?_); (case gh => walk_at "h"))
  | ((with_reducible refine' is_dict_bool ?gh ?_); (case gh => walk_at "h"))
  | ((with_reducible refine' is_dict_str ?gh ?_); (case gh => walk_at "h"))
  | ((with_reducible refine' is2_dict ?ga ?gb ?_); (case ga => walk_at "h"); (case gb => walk_at "h")))
local macro_rules | `(tactic| walk_at "g") => `(tactic| first
  | (with_reducible refine g_seq ?_)
  | (with_reducible refine g_asg ?_)
  | ((with_reducible refine g_name ?_); dsimp only [List.set, wipe, List.map])
  | ((with_reducible refine' g_var ?gv ?_); (case gv => exact rfl))
  | (with_reducible refine g_c ?_)
  | (with_reducible refine g_op ?_)
  | (with_reducible refine g_cons ?_)
  | (with_reducible refine g_nil ?_)
  | (with_reducible refine g_cb ?_)
  | (with_reducible refine g_call ?_)
  | (with_reducible refine g_tup ?_)
  | (with_reducible refine g_lst ?_)
  | (with_reducible refine g_bm ?_)
  | (with_reducible refine g_bm0 ?_)
  | ((with_reducible refine' g_kbm ?gh ?_); (case gh => walk_at "h"))
  | (with_reducible refine g_drop ?_)
  | (with_reducible refine g_ret ?_)
  | (with_reducible refine g_retN ?_)
  | (with_reducible refine g_next ?_)
  | (with_reducible refine g_brk ?_)
  | (with_reducible refine g_cont ?_)
  | (with_reducible refine g_if ?_)
  | ((with_reducible refine' g_aug ?gv ?_); (case gv => exact rfl))
  | (with_reducible refine g_ipI ?_)
  | (with_reducible refine g_test ?_)
  | (with_reducible refine g_tB ?_)
  | (with_reducible refine g_kB ?_)
  | (with_reducible refine g_not ?_)
  | (with_reducible refine g_and ?_)
  | (with_reducible refine g_or ?_)
  | (with_reducible refine g_andV ?_)
  | (with_reducible refine g_orV ?_)
  | (with_reducible refine g_notV ?_)
  | (with_reducible refine g_ifE ?_)
  | (with_reducible refine g_addI ?_)
  | (with_reducible refine g_rI0 ?_)
  | (with_reducible refine g_eqI ?_)
  | (with_reducible refine g_eqS ?_)
  | (with_reducible refine g_neI ?_)
  | (with_reducible refine g_neS ?_)
  | (with_reducible refine g_isN ?_)
  | (with_reducible refine g_notN ?_)
  | (with_reducible refine g_int ?_)
  | (with_reducible refine g_max2 ?_)
  | (with_reducible refine g_min2 ?_)
  | ((with_reducible refine' g_lenL ?gh ?_); (case gh => walk_at "h"))
  | (with_reducible refine g_sub ?_)
  | (with_reducible refine g_gcons ?_)
  | (with_reducible refine g_gnil ?_)
  | (with_reducible refine g_un ?_)
  | (with_reducible refine g_rU ?_)
  | (with_reducible refine g_forL ?_)
  | (with_reducible refine g_forS ?_)
  | (with_reducible refine g_forR1 ?_)
  | (with_reducible refine g_forR2 ?_)
  | (with_reducible refine g_forR3 ?_)
  | (with_reducible refine g_lcL ?_)
  | (with_reducible refine g_lcR1 ?_)
  | (with_reducible refine g_lcR2 ?_)
  | (with_reducible refine g_slice ?_)
  | (with_reducible refine g_part ?_)
  | (with_reducible refine g_kOI ?_)
  | (with_reducible refine g_nopart ?_)
  | (with_reducible refine g_yes ?_)
  | ((with_reducible refine' g_wipe ?gv ?_); (case gv => exact rfl))
  | (with_reducible refine iteT ?_)
  | (with_reducible refine iteF ?_)
  | (with_reducible refine i_nf ?_)
  | (with_reducible refine i_nt ?_)
  | ((with_reducible refine' g_gtup ?gh ?gl ?_); (case gh => walk_at "h"); (case gl => exact rfl))
  | ((with_reducible refine' g_notinI ?gh ?_); (case gh => walk_at "h"))
  | ((with_reducible refine' g_inI ?gh ?_); (case gh => walk_at "h"))
  | ((with_reducible refine' g_kget2 ?gh ?_); (case gh => walk_at "h"))
  | ((with_reducible refine' g_kgotI ?gh ?_); (case gh => walk_at "h"))
  | (with_reducible refine g_tRev ?_)
  | (with_reducible refine g_neB ?_)
  | (with_reducible refine g_eqB ?_)
  | ((with_reducible refine' g_lenT ?gh ?_); (case gh => walk_at "h"))
  | (with_reducible refine g_star ?_)
  | ((with_reducible refine' g_kstarL ?gh ?_); (case gh => walk_at "h"))
  | ((with_reducible refine' g_kstarT ?gh ?_); (case gh => walk_at "h"))
  | (with_reducible refine g_tru ?_)
  | ((with_reducible refine' g_truL ?gh ?_); (case gh => walk_at "h"))
  | (with_reducible refine g_get2 ?_)
  | (with_reducible refine g_try ?_)
  | (with_reducible refine g_fld ?_)
  | (with_reducible refine g_sfld ?_)
  | (with_reducible refine g_meth ?_)
  | (with_reducible refine g_make ?_)
  | (with_reducible refine g_del ?_)
  | (with_reducible refine g_callS ?_)
  | (with_reducible refine g_raise ?_)
  | (with_reducible refine g_xf ?_)
  | (with_reducible refine g_m0 ?_)
  | (with_reducible refine g_km0 ?_)
  | walk_at "is")
local macro_rules | `(tactic| walk_at "gg") => `(tactic| repeat walk_at "g")
local macro_rules | `(tactic| walk_at "sz") => `(tactic| (refine sz ?_; simp only [List.length_cons, List.length_nil, List.length_map, List.length_append, List.length_replicate]; omega))
local macro_rules | `(tactic| walk_at "sub") => `(tactic| ((repeat (first | exact List.Sublist.slnil | with_reducible apply List.Sublist.cons_cons | with_reducible apply List.Sublist.cons)); done))

/-! ### put -/
theorem chkE_known {kn : Str → Bool} : ∀ {xs seen : List Str}, chkE kn seen xs = none → ∀ z ∈ xs, kn z = true
  | [], _, _, z, hz => by cases hz
  | x :: r, seen, h, z, hz => by
    have h : (if kn x = true then if x ∈ seen then some (false, x) else chkE kn (seen ++ [x]) r else some (true, x)) = none := h
    by_cases hk : kn x = true
    · rw [if_pos hk] at h
      by_cases m : x ∈ seen
      · rw [if_pos m] at h; cases h
      · rw [if_neg m] at h
        rcases List.mem_cons.mp hz with rfl | hz
        · exact hk
        · exact chkE_known h z hz
    · rw [if_neg hk] at h; cases h
def PutU (rows : List URow) (x : Str) (ps us : List Str) : Prop := Asc us ∧ ∀ y, y ∈ us ↔ y = x ∨ ∃ p ∈ ps, ∃ v, undr rows p = some v ∧ y ∈ v
theorem OrdOk.in_names {F : Hp} {nl : Addr} {kvs : List (Key × V)} {rows : List URow} (ok : OrdOk F nl kvs rows) {p y : Str} {v : List Str} (e : undr rows p = some v) (h : y ∈ v) : y ∈ rows.map (·.1) := ok.sub _ (undr_mem e) y h
theorem few_of {rows : List URow} {x : Str} {ys : List Str} (few : rows.length < 60) (n : ys.Nodup) (s : ∀ y ∈ ys, y = x ∨ y ∈ rows.map (·.1)) : ys.length ≤ 60 := by
  have := length_le_of_nodup_of_subset ys (x :: rows.map (·.1)) n fun y hy => List.mem_cons.mpr (s y hy)
  rw [List.length_cons, List.length_map] at this
  omega
section
variable {P : Program} {w : World} {K : PySem.W.Frag} {mg : Str → Option Value} {base : Heap}
def sp_Order_put (T : Txt K mg) : Sp := fun vs H Q _ => ∃ (a dx d nl l : Addr) (F : Hp) (kvs : List (Key × V)) (rows : List URow) (x : Str) (ps : List Str), vs = [.ref a, .str x, .ref l] ∧ Has F (OrdO T a dx d nl kvs) H ∧ OrdOk F nl kvs rows ∧ H l = some (.lst (ps.map V.str)) ∧ NmOk x ∧ undr rows x = none ∧
  chkE (kn rows) [] ps = none ∧ ps.length ≤ 200 ∧ rows.length < 60 ∧
  ∀ H' F' nl' kvs' us, ButA (OrdO T a dx d nl kvs) H H' → Grow F H F' → Has F' (OrdO T a dx d nl' kvs') H' → OrdOk F' nl' kvs' (rows ++ [(x, us)]) → PutU rows x ps us → Q .non H'
theorem sp_Order_put_len {T : Txt K mg} {vs H Q E} (h : sp_Order_put T vs H Q E) : vs.length = 3 := by
  obtain ⟨_, _, _, _, _, _, _, _, _, _, rfl, _⟩ := h
  rfl
theorem ordO_addr {T : Txt K mg} {H : Hp} {a dx d nl nl' : Addr} {kvs kvs' : List (Key × V)} : ∀ q ∈ OrdO T a dx d nl' kvs', q.1 ∈ (OrdO T a dx d nl kvs).map (·.1) ∨ H q.1 = none := fun q hq => by
  simp only [OrdO, List.mem_cons, List.not_mem_nil, or_false] at hq
  rcases hq with rfl | rfl | rfl <;> exact .inl (by simp [OrdO])
theorem ordO_in {T : Txt K mg} {a dx d nl nl' : Addr} {kvs kvs' : List (Key × V)} (X : Own) : ∀ q ∈ OrdO T a dx d nl kvs, q.1 ∈ (X ++ OrdO T a dx d nl' kvs').map (·.1) := fun q hq => by
  rw [List.map_append]
  simp only [OrdO, List.mem_cons, List.not_mem_nil, or_false] at hq
  rcases hq with rfl | rfl | rfl <;> exact List.mem_append_right _ (by simp [OrdO])
theorem ok_Order_put (T : Txt K mg) : FnOk P w K mg base CX0 4 T.f_Order_put T.fd_Order_put ["self", "name", "parents"] (sp_Order_put T) := by
  refine T.F_Order_put.ok sc_Order_put (fun vs H Q E h => sp_Order_put_len h) (fun cdv A outer s H vs Q E hr h => ?_)
  refine ⟨_, (pss_cons (ps_if (pt_not (pt_val (pe_call (ok_is_name T) (hr.mono (by decide)) (by rfl) T.g_is_name T.F_is_name.kp T.b_is_name .nil pass0 (pa_cons (pv 1) pa_nil)))) (pss_one ps_never) pss_nil)
      (pss_cons (ps_if (pt_cmpR (op_inM K P w hr.units (u65 hr)) (pv 1) (k_fld K (pe_fld (pv 0) rfl)) (by rfl)) (pss_one ps_never) pss_nil)
      (pss_cons (ps_set (i := 3) sc_Order_put.nd rfl (.inl rfl) (pe_methW (pv 0) T.cl_Order T.M_Order_checked (ok_Order_checked T) (hr.mono (by decide)) T.b_Order_checked passNS (pa_cons (pv 2) pa_nil)))
      (pss_cons (ps_set (i := 4) sc_Order_put.nd rfl (.inl rfl) (pe_disp (pps_cons (pv 1) pe_bl pps_nil) rfl rfl (fun h => nomatch h) (by decide)))
      (pss_cons (ps_for PassesOwn.never rfl (k_il K (pi_list (pv 3))) (pg_name (i := 5) sc_Order_put.nd rfl (.inl rfl)) (pss_one (ps_for PassesOwn.never rfl (k_il K (pi_list (pe_ix (ix_K K (hu_of hr)) (k_fld K (pe_fld (pv 0) rfl)) (pv 5) (fun _ _ => rfl)))) (pg_name (i := 6) sc_Order_put.nd rfl (.inl rfl)) (pss_one (ps_asg pe_bl (pg_sub (pv 4) (pv 6) (set_any (hu_of hr))))))))
      (pss_cons (ps_asg (pe_callB (cr_sortA K rfl) (by rfl) T.m_sorted (by decide +kernel) (pa_cons (pv 4) pa_nil)) (pg_sub (k_fld K (pe_fld (pv 0) rfl)) (pv 1) (set_any (hu_of hr))))
      (pss_one (k_sfld K (ps_fld (pv 0) (pe_callB (cr_sortA K rfl) (by rfl) T.m_sorted (by decide +kernel) (pa_cons (pe_lst (k_star K (StX.pa_star (k_fld K (pe_fld (pv 0) rfl)) (pa_cons (pv 1) pa_nil)))) pa_nil)) rfl))))))))), ?_⟩
  obtain ⟨a, dx, d, nl, l, F, kvs, rows, x, ps, rfl, hH, ok, hl, nm, hx, hc, lps, few, q⟩ := h
  refine g_start (σ' := [some (.ref a), some (.str x), some (.ref l), none, none, none, none]) rfl ?_
  have hr := hH.re
  have s0 : Same F (rmO (OrdO T a dx d nl kvs) H) := hH.reF
  have ok0 := ok.mono s0
  have ho : Ord T H a rows := ⟨dx, d, nl, kvs, ⟨hH.get (List.Mem.head _), hH.get (by unfold OrdO; walk_at "m")⟩, ok.mono hH.same⟩
  generalize hF0 : rmO (OrdO T a dx d nl kvs) H = F0 at hr s0 ok0
  walk_at "gg"
  refine ⟨x, rfl, nm, ?_⟩
  walk_at "gg"
  refine g_kfld (hr.get (List.Mem.head _)) T.cl_Order T.nA_Order__under rfl ?_
  walk_at "gg"
  refine g_inM (g_inS (hr.get (by unfold OrdO; walk_at "m")) ?_)
  rw [ok.val, hx, Option.isSome_none]
  walk_at "gg"
  refine g_kmeth (hr.get (List.Mem.head _)) rfl ?_
  walk_at "gg"
  refine ⟨a, l, rows, ps, rfl, ho, hl, lps, fun _ p H1 s1 np hp => ?_, (fun z e => by rw [hc] at e; cases e), (fun z e => by rw [hc] at e; cases e)⟩
  have h1 := hr.made np s1 hp
  have h1' := h1.frz
  have s01 := h1.grow
  have fp : upd F0 p (.lst (ps.map V.str)) p = some (.lst (ps.map V.str)) := upd_same
  generalize upd F0 p (.lst (ps.map V.str)) = F1 at h1' s01 fp
  have ok1 := ok0.mono s01
  walk_at "gg"
  refine g_disp1 h1' (fun fd H2 nfd h2 => ?_)
  walk_at "gg"
  refine g_kdisp1 (k := .inr x) h2 rfl (fun H3 h3 => ?_)
  walk_at "gg"
  refine k_forL (h3.same _ _ fp) (fun t σ H' => ∃ (ys : List Str) (y5 y6 : Option V), σ = [some (.ref a), some (.str x), some (.ref l), some (.ref p), some (.ref fd), y5, y6] ∧ Has F1 ((fd, .dK (tk ys)) :: OrdO T a dx d nl kvs) H' ∧ ys.Nodup ∧
    (∀ y, y ∈ ys ↔ y = x ∨ ∃ q ∈ ps.take t, ∃ v, undr rows q = some v ∧ y ∈ v)) ⟨[x], _, _, rfl, h3, List.nodup_cons.mpr ⟨fun h => (by cases h), List.nodup_nil⟩, fun y => by simp⟩ ?_ ?_ ?_
  · rintro t σ H' _ ⟨ys, y5, y6, rfl, h4, _⟩
    exact h4.same _ _ fp
  · rintro t xx σ H4 hxx ⟨ys, y5, y6, rfl, h4, n4, m4⟩
    obtain ⟨q', hq', rfl⟩ := str_at hxx
    have kq := chkE_known hc q' (List.mem_of_getElem? hq')
    obtain ⟨v, hv⟩ := Option.isSome_iff_exists.mp kq
    obtain ⟨lv, elv, hlv⟩ := ok1.look hv
    walk_at "gg"
    refine g_kfld (h4.get (by unfold OrdO; walk_at "m")) T.cl_Order T.nA_Order__under rfl ?_
    walk_at "gg"
    refine g_ixDS (h4.get (by unfold OrdO; walk_at "m")) elv ?_
    walk_at "gg"
    refine k_forL (h4.same _ _ hlv) (fun i σ H' => ∃ (ys : List Str) (y6 : Option V), σ = [some (.ref a), some (.str x), some (.ref l), some (.ref p), some (.ref fd), some (.str q'), y6] ∧ Has F1 ((fd, .dK (tk ys)) :: OrdO T a dx d nl kvs) H' ∧ ys.Nodup ∧
      (∀ y, y ∈ ys ↔ (y = x ∨ ∃ q ∈ ps.take t, ∃ v, undr rows q = some v ∧ y ∈ v) ∨ y ∈ v.take i)) ⟨ys, _, rfl, h4, n4, fun y => by rw [m4 y]; simp⟩ ?_ ?_ ?_
    · rintro i σ H' _ ⟨ys, y6, rfl, h5, _⟩
      exact h5.same _ _ hlv
    · rintro i xx σ H5 hxx ⟨ys, y6, rfl, h5, n5, m5⟩
      obtain ⟨z, hz, rfl⟩ := str_at hxx
      have ly : ys.length ≤ 60 := few_of few n5 fun y hy => by
        rcases (m5 y).mp hy with (h | ⟨q, hq, v', hv', hy'⟩) | h
        · exact .inl h
        · exact .inr (ok.in_names hv' hy')
        · exact .inr (ok.in_names hv (List.mem_of_mem_take h))
      walk_at "gg"
      refine g_stD (k := .inr z) rfl h5 .hd (szl (by rw [tk_len]; omega)) (fun H6 h6 => ?_)
      rw [tk_put] at h6
      refine ⟨addL ys z, _, rfl, h6, addL_nodup n5, fun y => ?_⟩
      rw [addL_mem, m5 y, List.take_add_one, hz]
      simp only [Option.toList_some, List.mem_append, List.mem_singleton]
      rw [or_assoc (b := y ∈ v.take i)]
    · rintro σ H5 ⟨ys, y6, rfl, h5, n5, m5⟩
      rw [List.length_map, List.take_length] at m5
      refine ⟨ys, _, _, rfl, h5, n5, fun y => ?_⟩
      rw [m5 y, List.take_add_one, hq']
      simp only [Option.toList_some, List.mem_append, List.mem_singleton]
      constructor
      · rintro ((h | ⟨q, hq, r⟩) | h)
        · exact .inl h
        · exact .inr ⟨q, .inl hq, r⟩
        · exact .inr ⟨q', .inr rfl, v, hv, h⟩
      · rintro (h | ⟨q, hq | rfl, v', hv', hy⟩)
        · exact .inl (.inl h)
        · exact .inl (.inr ⟨q, hq, v', hv', hy⟩)
        · rw [hv] at hv'
          injection hv' with hv'
          subst hv'
          exact .inr hy
  rintro σ H4 ⟨ys, y5, y6, rfl, h4, n4, m4⟩
  rw [List.length_map, List.take_length] at m4
  have ly : ys.length ≤ 60 := few_of few n4 fun y hy => by
    rcases (m4 y).mp hy with h | ⟨q, hq, v', hv', hy'⟩
    · exact .inl h
    · exact .inr (ok.in_names hv' hy')
  walk_at "gg"
  refine g_sortDS (h4.get (List.Mem.head _)) (tk_keys ys) (by omega) h4 (fun us u1 H5 pm srt n5 h5 => ?_)
  have nu1 : H u1 = none := newp hH (mix_but hH (by rw [hF0]; exact s01) h4) h4 (ordO_in [(fd, HO.dK (tk ys))]) n5
  have asc := asc_of srt (pm.nodup_iff.mpr n4)
  have h5' := h5.frz
  have s12 := h5.grow
  have fu1 : upd F1 u1 (.lst (us.map V.str)) u1 = some (.lst (us.map V.str)) := upd_same
  generalize upd F1 u1 (.lst (us.map V.str)) = F2 at h5' s12 fu1
  have ok2 := ok1.mono s12
  walk_at "gg"
  refine g_kfld (h5'.get (by unfold OrdO; walk_at "m")) T.cl_Order T.nA_Order__under rfl ?_
  walk_at "gg"
  have lk : kvs.length = rows.length := by
    have := congrArg List.length ok.keys
    rw [List.length_map, List.length_map] at this
    exact this
  refine g_stD (k := .inr x) rfl h5' (.tl (.tl (.tl .hd))) (szl (by omega)) (fun H6 h6 => ?_)
  have vn : valV kvs (.inr x) = none := (look_at ok.keys ok.vals).2 hx
  rw [putK_new _ vn] at h6
  obtain ⟨ns, fns, ascn, mns⟩ := ok2.names
  have lns : ns.length ≤ 60 := by
    have := length_le_of_nodup_of_subset ns (rows.map (·.1)) ascn.nodup fun z hz => (mns z).mp hz
    rw [List.length_map] at this
    omega
  walk_at "gg"
  refine g_kfld (h6.get (.tail _ (.head _))) T.cl_Order T.nA_Order__names rfl ?_
  walk_at "gg"
  refine g_klst (by walk_at "sz") h6 (fun n1 H7 n7 h7 => ?_)
  walk_at "gg"
  have e7 : ns.map V.str ++ [V.str x] = (ns ++ [x]).map V.str := by rw [List.map_append]; rfl
  rw [e7] at h7
  refine g_sortS (h7.get (List.Mem.head _)) (by rw [List.length_append]; show ns.length + 1 < 64; omega) h7 (fun ms n2 H8 pm2 srt2 n8 h8 => ?_)
  have xns : x ∉ ns := fun m => by
    have := (mns x).mp m
    have k := undr_known (rows := rows) (x := x)
    rw [hx, decide_eq_true this] at k
    cases k
  have nn2 : H n2 = none := newp hH (mix_but hH (by rw [hF0]; exact s01.trans s12) h7) h7 (ordO_in [(n1, HO.lst ((ns ++ [x]).map V.str)), (fd, HO.dK (tk ys))]) n8
  have ascm := asc_of srt2 (pm2.nodup_iff.mpr (by
    rw [List.nodup_append]
    refine ⟨ascn.nodup, List.nodup_cons.mpr ⟨fun h => (by cases h), List.nodup_nil⟩, fun a ha b hb e => ?_⟩
    rw [List.mem_singleton.mp hb] at e
    exact xns (e ▸ ha)))
  have h8' := h8.frz
  have s23 := h8.grow
  have fn2 : upd F2 n2 (.lst (ms.map V.str)) n2 = some (.lst (ms.map V.str)) := upd_same
  generalize upd F2 n2 (.lst (ms.map V.str)) = F3 at h8' s23 fn2
  walk_at "gg"
  refine g_ksfld (fs' := of_ n2 d) h8' (.tl (.tl .hd)) rfl T.cl_Order T.nA_Order__names (by show 2 < 1000; decide) (fun H9 h9 => ?_)
  walk_at "gg"
  have h9' : Has F3 (OrdO T a dx d n2 (kvs ++ [(.inr x, .ref u1)])) H9 := h9.drop.drop
  have sA : Same (rmO (OrdO T a dx d nl kvs) H) F3 := by
    rw [hF0]
    exact s01.trans (s12.trans s23)
  have gr := mix_grow hH sA
  refine q H9 (mixF F H F3) n2 _ us (mix_but hH sA h9') gr (mix_has hH sA h9' ordO_addr) ?_ ⟨asc, fun y => (pm.mem_iff (a := y)).trans (m4 y)⟩
  refine ⟨?_, ?_, ⟨ms, by rw [mix_at nn2]; exact fn2, ascm, fun z => ?_⟩, ?_, ?_, ?_, ?_⟩
  · rw [List.map_append, List.map_append, ok.keys]; rfl
  · rw [List.map_append, List.map_append]
    exact (ok.vals.up gr.1 _ _).snoc (Dq.strs (by rw [mix_at nu1]; exact s23 _ _ fu1))
  · rw [pm2.mem_iff, List.mem_append, List.map_append, List.mem_append, mns z]
    exact Iff.rfl
  · rw [List.length_append]; show rows.length + 1 ≤ 60; omega
  · rw [List.map_append, List.nodup_append]
    refine ⟨ok.nd, List.nodup_cons.mpr ⟨fun h => (by cases h), List.nodup_nil⟩, fun a ha b hb e => ?_⟩
    have hb : b ∈ [x] := hb
    rw [List.mem_singleton.mp hb] at e
    exact xns ((mns x).mpr (e ▸ ha))
  · intro r hr
    rcases List.mem_append.mp hr with hr | hr
    · exact ok.asc r hr
    · rw [List.mem_singleton.mp hr]; exact asc
  · intro r hr z hz
    rw [List.map_append, List.mem_append]
    rcases List.mem_append.mp hr with hr | hr
    · exact .inl (ok.sub r hr z hz)
    · rw [List.mem_singleton.mp hr] at hz
      rcases (m4 z).mp ((pm.mem_iff).mp hz) with h | ⟨q, hq, v', hv', hy'⟩
      · exact .inr (by rw [h]; exact List.mem_singleton.mpr rfl)
      · exact .inl (ok.in_names hv' hy')
end

end K29

namespace K29
open PySem PySem.Spec PyProof.Rows L2 Qk
local macro_rules | `(tactic| walk_at "m") => `(tactic| ((repeat (first | exact List.Mem.head _ | apply List.Mem.tail)); done))
local macro_rules | `(tactic| walk_at "h") => `(tactic| first | assumption | exact Has.gF (by assumption) (by assumption) | exact Has.get (by assumption) (by walk_at "m"))
local macro_rules | `(tactic| walk_at "c") => `(tactic| ((repeat (first | exact Chg.hd | apply Chg.tl)); done))
local macro_rules | `(tactic| walk_at "is") => `(tactic| first
  | ((with_reducible refine' is2_non ?gh ?_); (case gh => walk_at "h"))
  | (with_reducible refine is_int_list ?_)
  | (with_reducible refine is_int_tuple ?_)
  | (with_reducible refine is_int_dict ?_)
  | (with_reducible refine is_int_int ?_)
  | (with_reducible refine is_int_bool ?_)
  | (with_reducible refine is_int_str ?_)
  | ((with_reducible refine' is2_int ?gh ?_); (case gh => walk_at "h"))
  | (with_reducible refine is_str_list ?_)
  | (with_reducible refine is_str_tuple ?_)
  | (with_reducible refine is_str_dict ?_)
  | (with_reducible refine is_str_int ?_)
  | (with_reducible refine is_str_bool ?_)
  | (with_reducible refine is_str_str ?_)
  | ((with_reducible refine' is2_str ?gh ?_); (case gh => walk_at "h"))
  | (with_reducible refine is_bool_list ?_)
  | (with_reducible refine is_bool_tuple ?_)
  | (with_reducible refine is_bool_dict ?_)
  | (with_reducible refine is_bool_int ?_)
  | (with_reducible refine is_bool_bool ?_)
  | (with_reducible refine is_bool_str ?_)
  | ((with_reducible refine' is2_bool ?gh ?_); (case gh => walk_at "h"))
  | ((with_reducible refine' is_list_list ?gh ?_); (case gh => walk_at "h"))
  | ((with_reducible refine' is_list_tuple ?gh ?_); (case gh => walk_at "h"))
  | ((with_reducible refine' is_list_dict ?gh ?_); (case gh => walk_at "h"))
  | ((with_reducible refine' is_list_int ?gh ?_); (case gh => walk_at "h"))
  | ((with_reducible refine' is_list_bool ?gh ?_); (case gh => walk_at "h"))
  | ((with_reducible refine' is_list_str ?gh ?_); (case gh => walk_at "h"))
  | ((with_reducible refine' is2_list ?ga ?gb ?_); (case ga => walk_at "h"); (case gb => walk_at "h"))
  | ((with_reducible refine' is_tuple_list ?gh ?_); (case gh => walk_at "h"))
  | ((with_reducible refine' is_tuple_tuple ?gh ?_); (case gh => walk_at "h"))
  | ((with_reducible refine' is_tuple_dict ?gh ?_); (case gh => walk_at "h"))
  | ((with_reducible refine' is_tuple_int ?gh ?_); (case gh => walk_at "h"))
  | ((with_reducible refine' is_tuple_bool ?gh ?_); (case gh => walk_at "h"))
  | ((with_reducible refine' is_tuple_str ?gh ?_); (case gh => walk_at "h"))
  | ((with_reducible refine' is2_tuple ?ga ?gb ?_); (case ga => walk_at "h"); (case gb => walk_at "h"))
  | ((with_reducible refine' is_dict_list ?gh ?_); (case gh => walk_at "h"))
  | ((with_reducible refine' is_dict_tuple ?gh ?_); (case gh => walk_at "h"))
  | ((with_reducible refine' is_dict_dict ?gh ?_); (case gh => walk_at "h"))
  | ((with_reducible refine' is_dict_int ?gh ?_); (case gh => walk_at "h"))
  | ((with_reducible refine' is_dict_bool ?gh ?_); (case gh => walk_at "h"))
  | ((with_reducible refine' is_dict_str ?gh ?_); (case gh => walk_at "h"))
  | ((with_reducible refine' is2_dict ?ga ?gb ?_); (case ga => walk_at "h"); (case gb => walk_at "h")))
local macro_rules | `(tactic| walk_at "g") => `(tactic| first
  | (with_reducible refine g_seq ?_)
  | (with_reducible refine g_asg ?_)
  | ((with_reducible refine g_name ?_); dsimp only [List.set, wipe, List.map])
  | ((with_reducible refine' g_var ?gv ?_); (case gv => exact rfl))
  | (with_reducible refine g_c ?_)
  | (with_reducible refine g_op ?_)
  | (with_reducible refine g_cons ?_)
  | (with_reducible refine g_nil ?_)
  | (with_reducible refine g_cb ?_)
  | (with_reducible refine g_call ?_)
  | (with_reducible refine g_tup ?_)
  | (with_reducible refine g_lst ?_)
  | (with_reducible refine g_bm ?_)
  | (with_reducible refine g_bm0 ?_)
  | ((with_reducible refine' g_kbm ?gh ?_); (case gh => walk_at "h"))
  | (with_reducible refine g_drop ?_)
  | (with_reducible refine g_ret ?_)
  | (with_reducible refine g_retN ?_)
  | (with_reducible refine g_next ?_)
  | (with_reducible refine g_brk ?_)
  | (with_reducible refine g_cont ?_)
  | (with_reducible refine g_if ?_)
  | ((with_reducible refine' g_aug ?gv ?_); (case gv => exact rfl))
  | (with_reducible refine g_ipI ?_)
  | (with_reducible refine g_test ?_)
  | (with_reducible refine g_tB ?_)
  | (with_reducible refine g_kB ?_)
  | (with_reducible refine g_not ?_)
  | (with_reducible refine g_and ?_)
  | (with_reducible refine g_or ?_)
  | (with_reducible refine g_andV ?_)
  | (with_reducible refine g_orV ?_)
  | (with_reducible refine g_notV ?_)
  | (with_reducible refine g_ifE ?_)
  | (with_reducible refine g_addI ?_)
  | (with_reducible refine g_rI0 ?_)
  | (with_reducible refine g_eqI ?_)
  | (with_reducible refine g_eqS ?_)
  | (with_reducible refine g_neI ?_)
  | (with_reducible refine g_neS ?_)
  | (with_reducible refine g_isN ?_)
  | (with_reducible refine g_notN ?_)
  | (with_reducible refine g_int ?_)
  | (with_reducible refine g_max2 ?_)
  | (with_reducible refine g_min2 ?_)
  | ((with_reducible refine' g_lenL ?gh ?_); (case gh => walk_at "h"))
  | (with_reducible refine g_sub ?_)
  | (with_reducible refine g_gcons ?_)
  | (with_reducible refine g_gnil ?_)
  | (with_reducible refine g_un ?_)
  | (with_reducible refine g_rU ?_)
  | (with_reducible refine g_forL ?_)
  | (with_reducible refine g_forS ?_)
  | (with_reducible refine g_forR1 ?_)
  | (with_reducible refine g_forR2 ?_)
  | (with_reducible refine g_forR3 ?_)
  | (with_reducible refine g_lcL ?_)
  | (with_reducible refine g_lcR1 ?_)
  | (with_reducible refine g_lcR2 ?_)
  | (with_reducible refine g_slice ?_)
  | (with_reducible refine g_part ?_)
  | (with_reducible refine g_kOI ?_)
  | (with_reducible refine g_nopart ?_)
  | (with_reducible refine g_yes ?_)
  | ((with_reducible refine' g_wipe ?gv ?_); (case gv => exact rfl))
  | (with_reducible refine iteT ?_)
  | (with_reducible refine iteF ?_)
  | (with_reducible refine i_nf ?_)
  | (with_reducible refine i_nt ?_)
  | ((with_reducible refine' g_gtup ?gh ?gl ?_); (case gh => walk_at "h"); (case gl => exact rfl))
  | ((with_reducible refine' g_notinI ?gh ?_); (case gh => walk_at "h"))
  | ((with_reducible refine' g_inI ?gh ?_); (case gh => walk_at "h"))
  | ((with_reducible refine' g_kget2 ?gh ?_); (case gh => walk_at "h"))
  | ((with_reducible refine' g_kgotI ?gh ?_); (case gh => walk_at "h"))
  | (with_reducible refine g_tRev ?_)
  | (with_reducible refine g_neB ?_)
  | (with_reducible refine g_eqB ?_)
  | ((with_reducible refine' g_lenT ?gh ?_); (case gh => walk_at "h"))
  | (with_reducible refine g_star ?_)
  | ((with_reducible refine' g_kstarL ?gh ?_); (case gh => walk_at "h"))
  | ((with_reducible refine' g_kstarT ?gh ?_); (case gh => walk_at "h"))
  | (with_reducible refine g_tru ?_)
  | ((with_reducible refine' g_truL ?gh ?_); (case gh => walk_at "h"))
  | (with_reducible refine g_get2 ?_)
  | (with_reducible refine g_try ?_)
  | (with_reducible refine g_fld ?_)
  | (with_reducible refine g_sfld ?_)
  | (with_reducible refine g_meth ?_)
  | (with_reducible refine g_make ?_)
  | (with_reducible refine g_del ?_)
  | (with_reducible refine g_callS ?_)
  | (with_reducible refine g_raise ?_)
  | (with_reducible refine g_xf ?_)
  | (with_reducible refine g_m0 ?_)
  | (with_reducible refine g_km0 ?_)
  | walk_at "is")
local macro_rules | `(tactic| walk_at "gg") => `(tactic| repeat walk_at "g")
local macro_rules | `(tactic| walk_at "sz") => `(tactic| (refine sz ?_; simp only [List.length_cons, List.length_nil, List.length_map, List.length_append, List.length_replicate]; omega))
local macro_rules | `(tactic| walk_at "sub") => `(tactic| ((repeat (first | exact List.Sublist.slnil | with_reducible apply List.Sublist.cons_cons | with_reducible apply List.Sublist.cons)); done))

/-! ### bases -/
theorem lost_nm.later {C : Addr} {H H1 : Hp} {E : XK} {z : Str} (h : lost_nm C H E z) (s : Same H H1) : lost_nm C H1 E z := fun e H' s' n e' => h e H' (s.trans s') (s.free n) e'
/-- under one of gs -/
def Gu (rows : List URow) (gs : List Str) (y : Str) : Prop := ∃ g ∈ gs, ∃ v, undr rows g = some v ∧ y ∈ v
/-- under another one of vs -/
def Cov (rows : List URow) (vs : List Str) (y : Str) : Prop := ∃ g ∈ vs, ∃ u, undr rows g = some u ∧ y ∈ u ∧ y ≠ g
theorem few_in {rows : List URow} {ys : List Str} (few : rows.length ≤ 60) (n : ys.Nodup) (s : ∀ y ∈ ys, y ∈ rows.map (·.1)) : ys.length ≤ 60 := by
  have := length_le_of_nodup_of_subset ys (rows.map (·.1)) n s
  rw [List.length_map] at this
  omega
theorem chkE_nodup {kn : Str → Bool} : ∀ {xs seen : List Str}, chkE kn seen xs = none → xs.Nodup ∧ ∀ z ∈ xs, z ∉ seen
  | [], _, _ => ⟨List.nodup_nil, fun z hz => by cases hz⟩
  | x :: r, seen, h => by
    have h : (if kn x = true then if x ∈ seen then some (false, x) else chkE kn (seen ++ [x]) r else some (true, x)) = none := h
    by_cases hk : kn x = true
    · rw [if_pos hk] at h
      by_cases m : x ∈ seen
      · rw [if_pos m] at h; cases h
      · rw [if_neg m] at h
        obtain ⟨n, a⟩ := chkE_nodup h
        refine ⟨List.nodup_cons.mpr ⟨fun hx => a x hx (List.mem_append_right _ (List.mem_singleton.mpr rfl)), n⟩, fun z hz => ?_⟩
        rcases List.mem_cons.mp hz with rfl | hz
        · exact m
        · exact fun hs => a z hz (List.mem_append_left _ hs)
    · rw [if_neg hk] at h; cases h
theorem kn_mem {rows : List URow} {z : Str} : kn rows z = true ↔ z ∈ rows.map (·.1) := by
  unfold kn
  rw [undr_known, decide_eq_true_eq]
section
variable {P : Program} {w : World} {K : PySem.W.Frag} {mg : Str → Option Value} {base : Heap}
def sp_group_under (T : Txt K mg) : Sp := fun vs H Q _ => ∃ (a g : Addr) (rows : List URow) (gs : List Str), vs = [.ref a, .ref g] ∧ Ord T H a rows ∧ H g = some (.lst (gs.map V.str)) ∧ (∀ z ∈ gs, kn rows z = true) ∧
  ∀ p H' us, Same H H' → H p = none → H' p = some (.lst (us.map V.str)) → Asc us → (∀ y, y ∈ us ↔ Gu rows gs y) → Q (.ref p) H'
theorem sp_group_under_len {T : Txt K mg} {vs H Q E} (h : sp_group_under T vs H Q E) : vs.length = 2 := by
  obtain ⟨_, _, _, _, rfl, _⟩ := h
  rfl
theorem ok_group_under (T : Txt K mg) : FnOk P w K mg base CX0 4 T.f_group_under T.fd_group_under ["order", "group"] (sp_group_under T) := by
  refine T.F_group_under.ok sc_group_under (fun vs H Q E h => sp_group_under_len h) (fun cdv A outer s H vs Q E hr h => ?_)
  refine ⟨_, (pss_cons (ps_set (i := 2) sc_group_under.nd rfl (.inl rfl) pe_dnewK)
      (pss_cons (ps_for PassesOwn.never rfl (k_il K (pi_list (pv 1))) (pg_name (i := 3) sc_group_under.nd rfl (.inl rfl)) (pss_one (ps_for PassesOwn.never rfl (k_il K (pi_list (pe_methW (pv 0) T.cl_Order T.M_Order_under (ok_Order_under T) (hr.mono (by decide)) T.b_Order_under passNS (pa_cons (pv 3) pa_nil)))) (pg_name (i := 4) sc_group_under.nd rfl (.inl rfl)) (pss_one (ps_asg pe_bl (pg_sub (pv 2) (pv 4) (set_any (hu_of hr))))))))
      (pss_one (ps_ret (pe_callB (cr_sortA K rfl) (by rfl) T.m_sorted (by decide +kernel) (pa_cons (pv 2) pa_nil)))))), ?_⟩
  obtain ⟨a, g, rows, gs, rfl, ho, hg, kng, q⟩ := h
  have hH := Has.start H
  have fewr : rows.length ≤ 60 := by
    obtain ⟨_, _, _, _, _, ok⟩ := ho.ex
    exact ok.few
  have inn : ∀ {g v y}, undr rows g = some v → y ∈ v → y ∈ rows.map (·.1) := by
    obtain ⟨_, _, _, _, _, ok⟩ := ho.ex
    exact fun e h => ok.in_names e h
  refine g_start (σ' := [some (.ref a), some (.ref g), none, none, none]) rfl ?_
  walk_at "gg"
  refine g_dnewK hH (fun fd H1 n1 h1 => ?_)
  walk_at "gg"
  refine k_forL (h1.same _ _ hg) (fun t σ H' => ∃ (F : Hp) (ys : List Str) (y3 y4 : Option V), σ = [some (.ref a), some (.ref g), some (.ref fd), y3, y4] ∧ Same H F ∧ Has F [(fd, .dK (tk ys))] H' ∧ ys.Nodup ∧ (∀ y, y ∈ ys ↔ Gu rows (gs.take t) y)) ⟨H, [], _, _, rfl, Same.refl _, h1, List.nodup_nil, fun y => by simp [Gu]⟩ ?_ ?_ ?_
  · rintro t σ H' _ ⟨F, ys, y3, y4, rfl, sF, h2, _⟩
    exact h2.same _ _ (sF _ _ hg)
  · rintro t xx σ H2 hxx ⟨F, ys, y3, y4, rfl, sF, h2, n2, m2⟩
    obtain ⟨q', hq', rfl⟩ := str_at hxx
    have kq := kng q' (List.mem_of_getElem? hq')
    obtain ⟨v, hv⟩ := Option.isSome_iff_exists.mp kq
    have ho2 := ho.mono (sF.trans h2.same)
    obtain ⟨dx, d, nl, kvs, at_, ok⟩ := ho2.ex
    walk_at "gg"
    refine g_kmeth at_.i rfl ?_
    walk_at "gg"
    refine ⟨a, rows, q', rfl, ho2, fun v1 hv1 u1 H3 s3 nu1 hu1 => ?_, fun e => by rw [hv] at e; cases e⟩
    have ev1 : v1 = v := by rw [hv] at hv1; exact (Option.some.inj hv1).symm
    rw [ev1] at hu1
    have h3 := h2.made nu1 s3 hu1
    have h3' := h3.frz
    have s1' := h3.grow
    have fu1 : upd F u1 (.lst (v.map V.str)) u1 = some (.lst (v.map V.str)) := upd_same
    generalize upd F u1 (.lst (v.map V.str)) = F1 at h3' s1' fu1
    walk_at "gg"
    refine k_forL (h3'.same _ _ fu1) (fun i σ H' => ∃ (ys : List Str) (y4 : Option V), σ = [some (.ref a), some (.ref g), some (.ref fd), some (.str q'), y4] ∧ Has F1 [(fd, .dK (tk ys))] H' ∧ ys.Nodup ∧ (∀ y, y ∈ ys ↔ Gu rows (gs.take t) y ∨ y ∈ v.take i)) ⟨ys, _, rfl, h3', n2, fun y => by rw [m2 y]; simp⟩ ?_ ?_ ?_
    · rintro i σ H' _ ⟨ys, y4, rfl, h5, _⟩
      exact h5.same _ _ fu1
    · rintro i xx σ H5 hxx ⟨ys, y4, rfl, h5, n5, m5⟩
      obtain ⟨z, hz, rfl⟩ := str_at hxx
      have ly : ys.length ≤ 60 := few_in fewr n5 fun y hy => by
        rcases (m5 y).mp hy with ⟨q, hq, v', hv', hy'⟩ | h
        · exact inn hv' hy'
        · exact inn hv (List.mem_of_mem_take h)
      walk_at "gg"
      refine g_stD (k := .inr z) rfl h5 .hd (szl (by rw [tk_len]; omega)) (fun H6 h6 => ?_)
      rw [tk_put] at h6
      refine ⟨addL ys z, _, rfl, h6, addL_nodup n5, fun y => ?_⟩
      rw [addL_mem, m5 y, List.take_add_one, hz]
      simp only [Option.toList_some, List.mem_append, List.mem_singleton]
      rw [or_assoc]
    · rintro σ H5 ⟨ys, y4, rfl, h5, n5, m5⟩
      rw [List.length_map, List.take_length] at m5
      refine ⟨F1, ys, _, _, rfl, sF.trans s1', h5, n5, fun y => ?_⟩
      rw [m5 y, List.take_add_one, hq']
      unfold Gu
      simp only [Option.toList_some, List.mem_append, List.mem_singleton]
      constructor
      · rintro (⟨q, hq, r⟩ | h)
        · exact ⟨q, .inl hq, r⟩
        · exact ⟨q', .inr rfl, v, hv, h⟩
      · rintro ⟨q, hq | rfl, v', hv', hy⟩
        · exact .inl ⟨q, hq, v', hv', hy⟩
        · rw [hv] at hv'
          injection hv' with hv'
          subst hv'
          exact .inr hy
  rintro σ H2 ⟨F, ys, y3, y4, rfl, sF, h2, n2, m2⟩
  rw [List.length_map, List.take_length] at m2
  have ly : ys.length ≤ 60 := few_in fewr n2 fun y hy => by
    obtain ⟨q, hq, v', hv', hy'⟩ := (m2 y).mp hy
    exact inn hv' hy'
  walk_at "gg"
  refine g_sortDS (h2.get (List.Mem.head _)) (tk_keys ys) (by omega) h2 (fun us p H3 pm srt n3 h3 => ?_)
  exact q p H3 us (sF.trans h3.same) ((sF.trans h2.same).free n3) (h3.get (List.Mem.head _)) (asc_of srt (pm.nodup_iff.mpr n2)) (fun y => (pm.mem_iff).trans (m2 y))
def sp_top_versions (T : Txt K mg) : Sp := fun vs H Q _ => ∃ (a g : Addr) (rows : List URow) (gs : List Str), vs = [.ref a, .ref g] ∧ Ord T H a rows ∧ H g = some (.lst (gs.map V.str)) ∧ Asc gs ∧ (∀ z ∈ gs, kn rows z = true) ∧
  ∀ p H' us, Same H H' → H p = none → H' p = some (.lst (us.map V.str)) → Asc us → (∀ y, y ∈ us ↔ y ∈ gs ∧ ¬ Cov rows gs y) → Q (.ref p) H'
theorem sp_top_versions_len {T : Txt K mg} {vs H Q E} (h : sp_top_versions T vs H Q E) : vs.length = 2 := by
  obtain ⟨_, _, _, _, rfl, _⟩ := h
  rfl
theorem ok_top_versions (T : Txt K mg) : FnOk P w K mg base CX0 4 T.f_top_versions T.fd_top_versions ["order", "versions"] (sp_top_versions T) := by
  refine T.F_top_versions.ok sc_top_versions (fun vs H Q E h => sp_top_versions_len h) (fun cdv A outer s H vs Q E hr h => ?_)
  refine ⟨_, (pss_cons (ps_set (i := 2) sc_top_versions.nd rfl (.inr rfl) pe_dnewK)
      (pss_cons (ps_for PassesOwn.never rfl (k_il K (pi_list (pv 1))) (pg_name (i := 3) sc_top_versions.nd rfl (.inl rfl)) (pss_one (ps_for PassesOwn.never rfl (k_il K (pi_list (pe_methW (pv 0) T.cl_Order T.M_Order_under (ok_Order_under T) (hr.mono (by decide)) T.b_Order_under passNS (pa_cons (pv 3) pa_nil)))) (pg_name (i := 4) sc_top_versions.nd rfl (.inl rfl)) (pss_one (ps_if (pt_cmpR (op_neK K hr.units) (pv 4) (pv 3) (nomark _)) (pss_one (ps_asg pe_bl (pg_sub (pv 2) (pv 4) (set_any (hu_of hr))))) pss_nil)))))
      (pss_one (ps_ret (pe_lc (own := [("version", 3)]) (g := gName 3) rfl sc_top_versions.nd (k_il K (pi_list (pv 1))) (blkOk_by (N := n_top_versions) (sc := defScope s_top_versions) (by decide +kernel)) (fun _ _ _ _ _ => (pg_name (i := 3) sc_top_versions.nd rfl (.inl rfl))) (fun _ _ _ _ _ => (pts_one (pt_cmpR (op_notinM K P w hr.units (u65 hr)) (pv 3) (pv 2) (by rfl)))) (fun _ _ _ _ _ => (pv 3))))))), ?_⟩
  obtain ⟨a, g, rows, gs, rfl, ho, hg, ascg, kng, q⟩ := h
  have hH := Has.start H
  have fewr : rows.length ≤ 60 := by
    obtain ⟨_, _, _, _, _, ok⟩ := ho.ex
    exact ok.few
  have inn : ∀ {g v y}, undr rows g = some v → y ∈ v → y ∈ rows.map (·.1) := by
    obtain ⟨_, _, _, _, _, ok⟩ := ho.ex
    exact fun e h => ok.in_names e h
  refine g_start (σ' := [some (.ref a), some (.ref g), none, none, none]) rfl ?_
  walk_at "gg"
  refine g_dnewK hH (fun fd H1 n1 h1 => ?_)
  walk_at "gg"
  refine k_forL (h1.same _ _ hg) (fun t σ H' => ∃ (F : Hp) (ys : List Str) (y3 y4 : Option V), σ = [some (.ref a), some (.ref g), some (.ref fd), y3, y4] ∧ Same H F ∧ Has F [(fd, .dK (tk ys))] H' ∧ ys.Nodup ∧ (∀ y, y ∈ ys ↔ Cov rows (gs.take t) y)) ⟨H, [], _, _, rfl, Same.refl _, h1, List.nodup_nil, fun y => by simp [Cov]⟩ ?_ ?_ ?_
  · rintro t σ H' _ ⟨F, ys, y3, y4, rfl, sF, h2, _⟩
    exact h2.same _ _ (sF _ _ hg)
  · rintro t xx σ H2 hxx ⟨F, ys, y3, y4, rfl, sF, h2, n2, m2⟩
    obtain ⟨q', hq', rfl⟩ := str_at hxx
    have kq := kng q' (List.mem_of_getElem? hq')
    obtain ⟨v, hv⟩ := Option.isSome_iff_exists.mp kq
    have ho2 := ho.mono (sF.trans h2.same)
    obtain ⟨dx, d, nl, kvs, at_, ok⟩ := ho2.ex
    walk_at "gg"
    refine g_kmeth at_.i rfl ?_
    walk_at "gg"
    refine ⟨a, rows, q', rfl, ho2, fun v1 hv1 u1 H3 s3 nu1 hu1 => ?_, fun e => by rw [hv] at e; cases e⟩
    have ev1 : v1 = v := by rw [hv] at hv1; exact (Option.some.inj hv1).symm
    rw [ev1] at hu1
    have h3 := h2.made nu1 s3 hu1
    have h3' := h3.frz
    have s1' := h3.grow
    have fu1 : upd F u1 (.lst (v.map V.str)) u1 = some (.lst (v.map V.str)) := upd_same
    generalize upd F u1 (.lst (v.map V.str)) = F1 at h3' s1' fu1
    walk_at "gg"
    refine k_forL (h3'.same _ _ fu1) (fun i σ H' => ∃ (ys : List Str) (y4 : Option V), σ = [some (.ref a), some (.ref g), some (.ref fd), some (.str q'), y4] ∧ Has F1 [(fd, .dK (tk ys))] H' ∧ ys.Nodup ∧ (∀ y, y ∈ ys ↔ Cov rows (gs.take t) y ∨ (y ∈ v.take i ∧ y ≠ q'))) ⟨ys, _, rfl, h3', n2, fun y => by rw [m2 y]; simp⟩ ?_ ?_ ?_
    · rintro i σ H' _ ⟨ys, y4, rfl, h5, _⟩
      exact h5.same _ _ fu1
    · rintro i xx σ H5 hxx ⟨ys, y4, rfl, h5, n5, m5⟩
      obtain ⟨z, hz, rfl⟩ := str_at hxx
      have ly : ys.length ≤ 60 := few_in fewr n5 fun y hy => by
        rcases (m5 y).mp hy with ⟨q, hq, v', hv', hy', _⟩ | h
        · exact inn hv' hy'
        · exact inn hv (List.mem_of_mem_take h.1)
      walk_at "gg"
      refine i_n (fun ne => ?_) (fun e => ?_)
      · walk_at "gg"
        refine g_stD (k := .inr z) rfl h5 .hd (szl (by rw [tk_len]; omega)) (fun H6 h6 => ?_)
        rw [tk_put] at h6
        refine ⟨addL ys z, _, rfl, h6, addL_nodup n5, fun y => ?_⟩
        rw [addL_mem, m5 y, List.take_add_one, hz]
        simp only [Option.toList_some, List.mem_append, List.mem_singleton]
        constructor
        · rintro ((h | ⟨h1, h2⟩) | rfl)
          · exact .inl h
          · exact .inr ⟨.inl h1, h2⟩
          · exact .inr ⟨.inr rfl, ne⟩
        · rintro (h | ⟨h1 | rfl, h2⟩)
          · exact .inl (.inl h)
          · exact .inl (.inr ⟨h1, h2⟩)
          · exact .inr rfl
      · walk_at "gg"
        refine ⟨ys, _, rfl, h5, n5, fun y => ?_⟩
        rw [m5 y, List.take_add_one, hz]
        simp only [Option.toList_some, List.mem_append, List.mem_singleton]
        constructor
        · rintro (h | ⟨h1, h2⟩)
          · exact .inl h
          · exact .inr ⟨.inl h1, h2⟩
        · rintro (h | ⟨h1 | rfl, h2⟩)
          · exact .inl h
          · exact .inr ⟨h1, h2⟩
          · exact (h2 e).elim
    · rintro σ H5 ⟨ys, y4, rfl, h5, n5, m5⟩
      rw [List.length_map, List.take_length] at m5
      refine ⟨F1, ys, _, _, rfl, sF.trans s1', h5, n5, fun y => ?_⟩
      rw [m5 y, List.take_add_one, hq']
      unfold Cov
      simp only [Option.toList_some, List.mem_append, List.mem_singleton]
      constructor
      · rintro (⟨q, hq, r⟩ | ⟨h, ne⟩)
        · exact ⟨q, .inl hq, r⟩
        · exact ⟨q', .inr rfl, v, hv, h, ne⟩
      · rintro ⟨q, hq | rfl, v', hv', hy, ne⟩
        · exact .inl ⟨q, hq, v', hv', hy, ne⟩
        · rw [hv] at hv'
          injection hv' with hv'
          subst hv'
          exact .inr ⟨hy, ne⟩
  rintro σ H2 ⟨F, ys, y3, y4, rfl, sF, h2, n2, m2⟩
  rw [List.length_map, List.take_length] at m2
  walk_at "gg"
  refine k_lcL (h2.same _ _ (sF _ _ hg)) h2 (fun i acc F' O' => acc = ((gs.take i).filter fun z => !decide (z ∈ ys)).map V.str ∧ F' = F ∧ O' = [(fd, .dK (tk ys))]) ⟨rfl, rfl, rfl⟩ ?_ ?_ ?_
  · rintro i acc F' O' H3 ⟨_, rfl, rfl⟩ hh
    exact hh.same _ _ (sF _ _ hg)
  · rintro i xx acc F' O' D H3 hx ⟨rfl, rfl, rfl⟩ hh
    obtain ⟨z, hz, rfl⟩ := str_at hx
    walk_at "gg"
    refine g_notinM (g_notinS (hh.get (by walk_at "m")) ?_)
    rw [tk_val]
    walk_at "gg"
    have st : (gs.take (i + 1)).filter (fun z => !decide (z ∈ ys)) = (gs.take i).filter (fun z => !decide (z ∈ ys)) ++ [z].filter (fun z => !decide (z ∈ ys)) := by
      rw [List.take_add_one, hz, List.filter_append]
      rfl
    refine i_n (fun ne => ?_) (fun e => ?_)
    · walk_at "gg"
      refine k_turn hh ?_ ⟨?_, rfl, rfl⟩
      · rw [List.length_map]
        have := List.length_filter_le (fun z => !decide (z ∈ ys)) (gs.take i)
        have := length_le_of_nodup_of_subset gs (rows.map (·.1)) ascg.nodup fun z hz => kn_mem.mp (kng z hz)
        rw [List.length_map] at this
        rw [List.length_take] at *
        omega
      · rw [st, List.map_append, List.filter_cons_of_pos (by simpa using ne)]
        rfl
    · refine k_skip hh ⟨?_, rfl, rfl⟩
      rw [st, List.filter_cons_of_neg (by simpa using e)]
      rw [List.filter_nil, List.append_nil]
  rintro acc F' O' p H3 ⟨rfl, rfl, rfl⟩ h3
  rw [List.length_map, List.take_length] at h3
  refine q p H3 _ (sF.trans h3.same) (sF.free h3.free) (h3.get (List.Mem.head _)) (ascg.filter _) fun y => ?_
  rw [List.mem_filter, Bool.not_eq_true', decide_eq_false_iff_not, m2 y]
end

end K29

namespace K29
open PySem PySem.Spec PyProof.Rows L2 Qk
local macro_rules | `(tactic| walk_at "m") => `(tactic| ((repeat (first | exact List.Mem.head _ | apply List.Mem.tail)); done))
local macro_rules | `(tactic| walk_at "h") => `(tactic| first | assumption | exact Has.gF (by assumption) (by assumption) | exact Has.get (by assumption) (by walk_at "m"))
local macro_rules | `(tactic| walk_at "c") => `(tactic| ((repeat (first | exact Chg.hd | apply Chg.tl)); done))
local macro_rules | `(tactic| walk_at "is") => `(tactic| first
  | ((with_reducible refine' is2_non ?gh ?_); (case gh => walk_at "h"))
  | (with_reducible refine is_int_list ?_)
  | (with_reducible refine is_int_tuple ?_)
  | (with_reducible refine is_int_dict ?_)
  | (with_reducible refine is_int_int ?_)
  | (with_reducible refine is_int_bool ?_)
  | (with_reducible refine is_int_str ?_)
  | ((with_reducible refine' is2_int ?gh ?_); (case gh => walk_at "h"))
  | (with_reducible refine is_str_list ?_)
  | (with_reducible refine is_str_tuple ?_)
  | (with_reducible refine is_str_dict ?_)
  | (with_reducible refine is_str_int ?_)
  | (with_reducible refine is_str_bool ?_)
  | (with_reducible refine is_str_str ?_)
  | ((with_reducible refine' is2_str ?gh ?_); (case gh => walk_at "h"))
  | (with_reducible refine is_bool_list ?_)
  | (with_reducible refine is_bool_tuple ?_)
  | (with_reducible refine is_bool_dict ?_)
  | (with_reducible refine is_bool_int ?_)
  | (with_reducible refine is_bool_bool ?_)
  | (with_reducible refine is_bool_str ?_)
  | ((with_reducible refine' is2_bool ?gh ?_); (case gh => walk_at "h"))
  | ((with_reducible refine' is_list_list ?gh ?_); (case gh => walk_at "h"))
  | ((with_reducible refine' is_list_tuple ?gh ?_); (case gh => walk_at "h"))
  | ((with_reducible refine' is_list_dict ?gh ?_); (case gh => walk_at "h"))
  | ((with_reducible refine' is_list_int ?gh ?_); (case gh => walk_at "h"))
  | ((with_reducible refine' is_list_bool ?gh ?_); (case gh => walk_at "h"))
  | ((with_reducible refine' is_list_str ?gh ?_); (case gh => walk_at "h"))
  | ((with_reducible refine' is2_list ?ga ?gb ?_); (case ga => walk_at "h"); (case gb => walk_at "h"))
  | ((with_reducible refine' is_tuple_list ?gh ?_); (case gh => walk_at "h"))
  | ((with_reducible refine' is_tuple_tuple ?gh ?_); (case gh => walk_at "h"))
  | ((with_reducible refine' is_tuple_dict ?gh ?_); (case gh => walk_at "h"))
  | ((with_reducible refine' is_tuple_int ?gh ?_); (case gh => walk_at "h"))
  | ((with_reducible refine' is_tuple_bool ?gh ?_); (case gh => walk_at "h"))
  | ((with_reducible refine' is_tuple_str ?gh ?_); (case gh => walk_at "h"))
  | ((with_reducible refine' is2_tuple ?ga ?gb ?_); (case ga => walk_at "h"); (case gb => walk_at "h"))
  | ((with_reducible refine' is_dict_list ?gh ?_); (case gh => walk_at "h"))
  | ((with_reducible refine' is_dict_tuple ?gh ?_); (case gh => walk_at "h"))
  | ((with_reducible refine' is_dict_dict ?gh ?_); (case gh => walk_at "h"))
  | ((with_reducible refine' is_dict_int ?gh ?_); (case gh => walk_at "h"))
  | ((with_reducible refine' is_dict_bool ?gh ?_); (case gh => walk_at "h"))
  | ((with_reducible refine' is_dict_str ?gh ?_); (case gh => walk_at "h"))
  | ((with_reducible refine' is2_dict ?ga ?gb ?_); (case ga => walk_at "h"); (case gb => walk_at "h")))
local macro_rules | `(tactic| walk_at "g") => `(tactic| first
  | (with_reducible refine g_seq ?_)
  | (with_reducible refine g_asg ?_)
  | ((with_reducible refine g_name ?_); dsimp only [List.set, wipe, List.map])
  | ((with_reducible refine' g_var ?gv ?_); (case gv => exact rfl))
  | (with_reducible refine g_c ?_)
  | (with_reducible refine g_op ?_)
  | (with_reducible refine g_cons ?_)
  | (with_reducible refine g_nil ?_)
  | (with_reducible refine g_cb ?_)
  | (with_reducible refine g_call ?_)
  | (with_reducible refine g_tup ?_)
  | (with_reducible refine g_lst ?_)
  | (with_reducible refine g_bm ?_)
  | (with_reducible refine g_bm0 ?_)
  | ((with_reducible refine' g_kbm ?gh ?_); (case gh => walk_at "h"))
  | (with_reducible refine g_drop ?_)
  | (with_reducible refine g_ret ?_)
  | (with_reducible refine g_retN ?_)
  | (with_reducible refine g_next ?_)
  | (with_reducible refine g_brk ?_)
  | (with_reducible refine g_cont ?_)
  | (with_reducible refine g_if ?_)
  | ((with_reducible refine' g_aug ?gv ?_); (case gv => exact rfl))
  | (with_reducible refine g_ipI ?_)
  | (with_reducible refine g_test ?_)
  | (with_reducible refine g_tB ?_)
  | (with_reducible refine g_kB ?_)
  | (with_reducible refine g_not ?_)
  | (with_reducible refine g_and ?_)
  | (with_reducible refine g_or ?_)
  | (with_reducible refine g_andV ?_)
  | (with_reducible refine g_orV ?_)
  | (with_reducible refine g_notV ?_)
  | (with_reducible refine g_ifE ?_)
  | (with_reducible refine g_addI ?_)
  | (with_reducible refine g_rI0 ?_)
  | (with_reducible refine g_eqI ?_)
  | (with_reducible refine g_eqS ?_)
  | (with_reducible refine g_neI ?_)
  | (with_reducible refine g_neS ?_)
  | (with_reducible refine g_isN ?_)
  | (with_reducible refine g_notN ?_)
  | (with_reducible refine g_int ?_)
  | (with_reducible refine g_max2 ?_)
  | (with_reducible refine g_min2 ?_)
  | ((with_reducible refine' g_lenL ?gh ?_); (case gh => walk_at "h"))
  | (with_reducible refine g_sub ?_)
  | (with_reducible refine g_gcons ?_)
  | (with_reducible refine g_gnil ?_)
  | (with_reducible refine g_un ?_)
  | (with_reducible refine g_rU ?_)
  | (with_reducible refine g_forL ?_)
  | (with_reducible refine g_forS ?_)
  | (with_reducible refine g_forR1 ?_)
  | (with_reducible refine g_forR2 ?_)
  | (with_reducible refine g_forR3 ?_)
  | (with_reducible refine g_lcL ?_)
  | (with_reducible refine g_lcR1 ?_)
  | (with_reducible refine g_lcR2 ?_)
  | (with_reducible refine g_slice ?_)
  | (with_reducible refine g_part ?_)
  | (with_reducible refine g_kOI ?_)
  | (with_reducible refine g_nopart ?_)
  | (with_reducible refine g_yes ?_)
  | ((with_reducible refine' g_wipe ?gv ?_); (case gv => exact rfl))
  | (with_reducible refine iteT ?_)
  | (with_reducible refine iteF ?_)
  | (with_reducible refine i_nf ?_)
  | (with_reducible refine i_nt ?_)
  | ((with_reducible refine' g_gtup ?gh ?gl ?_); (case gh => walk_at "h"); (case gl => exact rfl))
  | ((with_reducible refine' g_notinI ?gh ?_); (case gh => walk_at "h"))
  | ((with_reducible refine' g_inI ?gh ?_); (case gh => walk_at "h"))
  | ((with_reducible refine' g_kget2 ?gh ?_); (case gh => walk_at "h"))
  | ((with_reducible refine' g_kgotI ?gh ?_); (case gh => walk_at "h"))
  | (with_reducible refine g_tRev ?_)
  | (with_reducible refine g_neB ?_)
  | (with_reducible refine g_eqB ?_)
  | ((with_reducible refine' g_lenT ?gh ?_); (case gh => walk_at "h"))
  | (with_reducible refine g_star ?_)
  | ((with_reducible refine' g_kstarL ?gh ?_); (case gh => walk_at "h"))
  | ((with_reducible refine' g_kstarT ?gh ?_); (case gh => walk_at "h"))
  | (with_reducible refine g_tru ?_)
  | ((with_reducible refine' g_truL ?gh ?_); (case gh => walk_at "h"))
  | (with_reducible refine g_get2 ?_)
  | (with_reducible refine g_try ?_)
  | (with_reducible refine g_fld ?_)
  | (with_reducible refine g_sfld ?_)
  | (with_reducible refine g_meth ?_)
  | (with_reducible refine g_make ?_)
  | (with_reducible refine g_del ?_)
  | (with_reducible refine g_callS ?_)
  | (with_reducible refine g_raise ?_)
  | (with_reducible refine g_xf ?_)
  | (with_reducible refine g_m0 ?_)
  | (with_reducible refine g_km0 ?_)
  | walk_at "is")
local macro_rules | `(tactic| walk_at "gg") => `(tactic| repeat walk_at "g")
local macro_rules | `(tactic| walk_at "sz") => `(tactic| (refine sz ?_; simp only [List.length_cons, List.length_nil, List.length_map, List.length_append, List.length_replicate]; omega))
local macro_rules | `(tactic| walk_at "sub") => `(tactic| ((repeat (first | exact List.Sublist.slnil | with_reducible apply List.Sublist.cons_cons | with_reducible apply List.Sublist.cons)); done))

/-! ### maximal, common, bases -/
def f2 (rows : List URow) (xs ys : List Str) : Option (Bool × Str) := match chkE (kn rows) [] xs with
  | some f => some f
  | none => chkE (kn rows) [] ys
def Cm (rows : List URow) (xs ys : List Str) (y : Str) : Prop := Gu rows xs y ∧ Gu rows ys y
def Bs (rows : List URow) (xs ys : List Str) (y : Str) : Prop := Cm rows xs ys y ∧ ¬ ∃ g, Cm rows xs ys g ∧ ∃ u, undr rows g = some u ∧ y ∈ u ∧ y ≠ g
theorem Cov.congr {rows : List URow} {xs ys : List Str} (h : ∀ z, z ∈ xs ↔ z ∈ ys) (y : Str) : Cov rows xs y ↔ Cov rows ys y := by
  unfold Cov
  constructor
  · rintro ⟨g, hg, r⟩
    exact ⟨g, (h g).mp hg, r⟩
  · rintro ⟨g, hg, r⟩
    exact ⟨g, (h g).mpr hg, r⟩
section
variable {P : Program} {w : World} {K : PySem.W.Frag} {mg : Str → Option Value} {base : Heap}
theorem Ord.few {T : Txt K mg} {H : Hp} {a : Addr} {rows : List URow} (h : Ord T H a rows) : rows.length ≤ 60 := by
  obtain ⟨_, _, _, _, _, ok⟩ := h.ex
  exact ok.few
theorem Ord.inn {T : Txt K mg} {H : Hp} {a : Addr} {rows : List URow} (h : Ord T H a rows) {g y : Str} {v : List Str} (e : undr rows g = some v) (m : y ∈ v) : y ∈ rows.map (·.1) := by
  obtain ⟨_, _, _, _, _, ok⟩ := h.ex
  exact ok.in_names e m
theorem Ord.chk_few {T : Txt K mg} {H : Hp} {a : Addr} {rows : List URow} (h : Ord T H a rows) {xs : List Str} (e : chkE (kn rows) [] xs = none) : xs.length ≤ 60 := few_in h.few (chkE_nodup e).1 fun y hy => kn_mem.mp (chkE_known e y hy)
def sp_common (T : Txt K mg) : Sp := fun vs H Q E => ∃ (a l m : Addr) (rows : List URow) (xs ys : List Str), vs = [.ref a, .ref l, .ref m] ∧ Ord T H a rows ∧ H l = some (.lst (xs.map V.str)) ∧ H m = some (.lst (ys.map V.str)) ∧ xs.length ≤ 200 ∧ ys.length ≤ 200 ∧
  (f2 rows xs ys = none → ∀ p H' us, Same H H' → H p = none → H' p = some (.lst (us.map V.str)) → Asc us → (∀ y, y ∈ us ↔ Cm rows xs ys y) → Q (.ref p) H') ∧
  (∀ z, f2 rows xs ys = some (true, z) → lost_nm T.C_Unknown H E z) ∧ (∀ z, f2 rows xs ys = some (false, z) → lost_nm T.C_Repeated H E z)
theorem sp_common_len {T : Txt K mg} {vs H Q E} (h : sp_common T vs H Q E) : vs.length = 3 := by
  obtain ⟨_, _, _, _, _, _, rfl, _⟩ := h
  rfl
theorem ok_common (T : Txt K mg) : FnOk P w K mg base (L2N.CX P w) 5 T.f_common T.fd_common ["order", "ones", "others"] (sp_common T) := by
  refine Fun.okN T.F_common sc_common (fun vs H Q E h => sp_common_len h) (fun cdv A outer s H vs Q E hr h => ?_)
  refine ⟨_, (pss_cons (ps_set (i := 3) sc_common.nd rfl (.inl rfl) (pe_methW (pv 0) T.cl_Order T.M_Order_checked (ok_Order_checked T) (hr.mono (by decide)) T.b_Order_checked (fun σ => L2N.passAt (L2N.takes_of rfl rfl rfl rfl) σ) (pa_cons (pv 1) pa_nil)))
      (pss_cons (ps_set (i := 4) sc_common.nd rfl (.inl rfl) (pe_methW (pv 0) T.cl_Order T.M_Order_checked (ok_Order_checked T) (hr.mono (by decide)) T.b_Order_checked (fun σ => L2N.passAt (L2N.takes_of rfl rfl rfl rfl) σ) (pa_cons (pv 2) pa_nil)))
      (pss_cons (ps_set (i := 5) sc_common.nd rfl (.inr rfl) (pe_callTy (cr_setTxK K P w rfl) (by rfl) T.m_set (by decide +kernel) (pa_cons (pe_call (ok_group_under T) (hr.mono (by decide)) (by rfl) T.g_group_under T.F_group_under.kp T.b_group_under .nil pass0 (pa_cons (pv 0) (pa_cons (pv 4) pa_nil))) pa_nil)))
      (pss_one (ps_ret (pe_lc (own := [("version", 6)]) (g := gName 6) rfl sc_common.nd (k_il K (pi_list (pe_call (ok_group_under T) (hr.mono (by decide)) (by rfl) T.g_group_under T.F_group_under.kp T.b_group_under .nil pass0 (pa_cons (pv 0) (pa_cons (pv 3) pa_nil))))) (blkOk_by (N := n_common) (sc := defScope s_common) (by decide +kernel)) (fun _ _ _ _ _ => (pg_name (i := 6) sc_common.nd rfl (.inl rfl))) (fun _ _ _ _ _ => (pts_one (pt_cmpR (op_inM K P w hr.units (u65 hr)) (pv 6) (pv 5) (by rfl)))) (fun _ _ _ _ _ => (pv 6)))))))), ?_⟩
  obtain ⟨a, l, m, rows, xs, ys, rfl, ho, hl, hm, few1, few2, q, qu, qr⟩ := h
  refine g_start (σ' := [some (.ref a), some (.ref l), some (.ref m), none, none, none, none]) rfl ?_
  obtain ⟨dx, d, nl, kvs, at_, ok⟩ := ho.ex
  walk_at "gg"
  refine g_kmeth at_.i rfl ?_
  walk_at "gg"
  have ff : ∀ f, chkE (kn rows) [] xs = some f → f2 rows xs ys = some f := fun f e => by unfold f2; rw [e]
  refine ⟨a, l, rows, xs, rfl, ho, hl, few1, fun hc p H1 s1 n1 h1 => ?_, fun z e => qu z (ff _ e), fun z e => qr z (ff _ e)⟩
  have fn : f2 rows xs ys = chkE (kn rows) [] ys := by unfold f2; rw [hc]
  have at1 := at_.mono s1
  walk_at "gg"
  refine g_kmeth at1.i rfl ?_
  walk_at "gg"
  refine ⟨a, m, rows, ys, rfl, ho.mono s1, s1 _ _ hm, few2, fun hc2 p2 H2 s2 n2 h2 => ?_, fun z e => (qu z (fn.trans e)).later s1, fun z e => (qr z (fn.trans e)).later s1⟩
  walk_at "gg"
  have s12 := s1.trans s2
  refine ⟨a, p2, rows, ys, rfl, ho.mono s12, h2, chkE_known hc2, fun p3 H3 gs s3 n3 h3 asc3 m3 => ?_⟩
  have hH3 := Has.start H3
  walk_at "gg"
  have inn : ∀ {zs y}, Gu rows zs y → y ∈ rows.map (·.1) := fun ⟨g, _, v, e, hy⟩ => ho.inn e hy
  refine g_setOf h3 (by have := few_in ho.few asc3.nodup fun y hy => inn ((m3 y).mp hy); omega) hH3 (fun p4 n4 T4 H4 np4 eT h4 => ?_)
  walk_at "gg"
  have s14 := s12.trans (s3.trans h4.same)
  refine ⟨a, p, rows, xs, rfl, ho.mono s14, h4.same _ _ (s3 _ _ (s2 _ _ h1)), chkE_known hc, fun p5 H5 us s5 n5 h5 asc5 m5 => ?_⟩
  have h4' := (h4.on s5).re
  have f5 : rmO [(p4, SetK P w p4 T4 n4)] H5 p5 = some (.lst (us.map V.str)) := by
    have ne : p5 ≠ p4 := fun e => by
      have := h4.get (List.Mem.head _)
      rw [← e, n5] at this
      cases this
    unfold rmO
    rw [if_neg (by simpa using ne)]
    exact h5
  have s05 := s14.trans s5
  have s5F : Same H (rmO [(p4, SetK P w p4 T4 n4)] H5) := fun b u e => by
    have ne : b ≠ p4 := fun z => by
      have := (s12.trans s3).free np4
      rw [← z, e] at this
      cases this
    unfold rmO
    rw [if_neg (by simpa using ne)]
    exact s05 _ _ e
  generalize rmO [(p4, SetK P w p4 T4 n4)] H5 = F5 at h4' f5 s5F
  walk_at "gg"
  refine k_lcL (h4'.same _ _ f5) h4' (fun i acc F' O' => acc = ((us.take i).filter fun z => decide (z ∈ gs)).map V.str ∧ F' = F5 ∧ O' = [(p4, SetK P w p4 T4 n4)]) ⟨rfl, rfl, rfl⟩ ?_ ?_ ?_
  · rintro i acc F' O' H6 ⟨_, rfl, rfl⟩ hh
    exact hh.same _ _ f5
  · rintro i xx acc F' O' D H6 hx ⟨rfl, rfl, rfl⟩ hh
    obtain ⟨z, hz, rfl⟩ := str_at hx
    walk_at "gg"
    refine g_inK (k := .inr z) rfl (hh.get (by walk_at "m")) ?_
    rw [eT z]
    walk_at "gg"
    have st : (us.take (i + 1)).filter (fun z => decide (z ∈ gs)) = (us.take i).filter (fun z => decide (z ∈ gs)) ++ [z].filter (fun z => decide (z ∈ gs)) := by
      rw [List.take_add_one, hz, List.filter_append]
      rfl
    refine i_d (fun e => ?_) (fun e => ?_)
    · walk_at "gg"
      refine k_turn hh ?_ ⟨?_, rfl, rfl⟩
      · rw [List.length_map]
        have := List.length_filter_le (fun z => decide (z ∈ gs)) (us.take i)
        have := few_in ho.few asc5.nodup fun y hy => inn ((m5 y).mp hy)
        rw [List.length_take] at *
        omega
      · rw [st, List.map_append, List.filter_cons_of_pos (by simpa using e)]
        rfl
    · refine k_skip hh ⟨?_, rfl, rfl⟩
      rw [st, List.filter_cons_of_neg (by simpa using e)]
      rw [List.filter_nil, List.append_nil]
  rintro acc F' O' p6 H6 ⟨rfl, rfl, rfl⟩ h6
  rw [List.length_map, List.take_length] at h6
  have fr6 : H p6 = none := s5F.free h6.free
  refine q (fn.trans hc2) p6 H6 _ (s5F.trans h6.same) fr6 (h6.get (List.Mem.head _)) (asc5.filter _) fun y => ?_
  rw [List.mem_filter, decide_eq_true_eq, m5 y, m3 y]
  exact Iff.rfl
def sp_group_bases (T : Txt K mg) : Sp := fun vs H Q E => ∃ (a l m : Addr) (rows : List URow) (xs ys : List Str), vs = [.ref a, .ref l, .ref m] ∧ Ord T H a rows ∧ H l = some (.lst (xs.map V.str)) ∧ H m = some (.lst (ys.map V.str)) ∧ xs.length ≤ 200 ∧ ys.length ≤ 200 ∧
  (f2 rows xs ys = none → ∀ p H' us, Same H H' → H p = none → H' p = some (.lst (us.map V.str)) → Asc us → (∀ y, y ∈ us ↔ Bs rows xs ys y) → Q (.ref p) H') ∧
  (∀ z, f2 rows xs ys = some (true, z) → lost_nm T.C_Unknown H E z) ∧ (∀ z, f2 rows xs ys = some (false, z) → lost_nm T.C_Repeated H E z)
theorem sp_group_bases_len {T : Txt K mg} {vs H Q E} (h : sp_group_bases T vs H Q E) : vs.length = 3 := by
  obtain ⟨_, _, _, _, _, _, rfl, _⟩ := h
  rfl
theorem ok_group_bases (T : Txt K mg) : FnOk P w K mg base (L2N.CX P w) 6 T.f_group_bases T.fd_group_bases ["order", "ones", "others"] (sp_group_bases T) := by
  refine Fun.okN T.F_group_bases sc_group_bases (fun vs H Q E h => sp_group_bases_len h) (fun cdv A outer s H vs Q E hr h => ?_)
  refine ⟨_, (pss_one (ps_ret (pe_call (ok_top_versions T) (hr.mono (by decide)) (by rfl) T.g_top_versions T.F_top_versions.kp T.b_top_versions .nil pass0 (pa_cons (pv 0) (pa_cons (pe_callS (ok_common T) (hr.mono (by decide)) (by rfl) T.g_common T.F_common.kp T.b_common (fun σ => L2N.passAt (L2N.takes_of rfl rfl rfl rfl) σ) (pa_cons (pv 0) (pa_cons (pv 1) (pa_cons (pv 2) pa_nil)))) pa_nil))))), ?_⟩
  obtain ⟨a, l, m, rows, xs, ys, rfl, ho, hl, hm, few1, few2, q, qu, qr⟩ := h
  refine g_start (σ' := [some (.ref a), some (.ref l), some (.ref m)]) rfl ?_
  walk_at "gg"
  refine ⟨a, l, m, rows, xs, ys, rfl, ho, hl, hm, few1, few2, fun hf p H1 gs s1 n1 h1 asc1 m1 => ?_, qu, qr⟩
  walk_at "gg"
  refine ⟨a, p, rows, gs, rfl, ho.mono s1, h1, asc1, (fun z hz => ?_), fun p2 H2 us s2 n2 h2 asc2 m2 => ?_⟩
  · obtain ⟨⟨g, _, v, e, hy⟩, _⟩ := (m1 z).mp hz
    exact kn_mem.mpr (ho.inn e hy)
  refine q hf p2 H2 us (s1.trans s2) (s1.free n2) h2 asc2 fun y => ?_
  rw [m2 y, m1 y]
  unfold Bs Cov
  constructor
  · rintro ⟨h, n⟩
    exact ⟨h, fun ⟨g, hg, r⟩ => n ⟨g, (m1 g).mpr hg, r⟩⟩
  · rintro ⟨h, n⟩
    exact ⟨h, fun ⟨g, hg, r⟩ => n ⟨g, (m1 g).mp hg, r⟩⟩
def sp_merge_bases (T : Txt K mg) : Sp := fun vs H Q E => ∃ (a : Addr) (rows : List URow) (x y : Str), vs = [.ref a, .str x, .str y] ∧ Ord T H a rows ∧
  (f2 rows [x] [y] = none → ∀ p H' us, Same H H' → H p = none → H' p = some (.lst (us.map V.str)) → Asc us → (∀ z, z ∈ us ↔ Bs rows [x] [y] z) → Q (.ref p) H') ∧
  (∀ z, f2 rows [x] [y] = some (true, z) → lost_nm T.C_Unknown H E z) ∧ (∀ z, f2 rows [x] [y] = some (false, z) → lost_nm T.C_Repeated H E z)
theorem sp_merge_bases_len {T : Txt K mg} {vs H Q E} (h : sp_merge_bases T vs H Q E) : vs.length = 3 := by
  obtain ⟨_, _, _, _, rfl, _⟩ := h
  rfl
theorem ok_merge_bases (T : Txt K mg) : FnOk P w K mg base (L2N.CX P w) 7 T.f_merge_bases T.fd_merge_bases ["order", "one", "other"] (sp_merge_bases T) := by
  refine Fun.okN T.F_merge_bases sc_merge_bases (fun vs H Q E h => sp_merge_bases_len h) (fun cdv A outer s H vs Q E hr h => ?_)
  refine ⟨_, (pss_one (ps_ret (pe_callS (ok_group_bases T) (hr.mono (by decide)) (by rfl) T.g_group_bases T.F_group_bases.kp T.b_group_bases (fun σ => L2N.passAt (L2N.takes_of rfl rfl rfl rfl) σ) (pa_cons (pv 0) (pa_cons (pe_lst (pa_cons (pv 1) pa_nil)) (pa_cons (pe_lst (pa_cons (pv 2) pa_nil)) pa_nil)))))), ?_⟩
  obtain ⟨a, rows, x, y, rfl, ho, q, qu, qr⟩ := h
  have hH := Has.start H
  refine g_start (σ' := [some (.ref a), some (.str x), some (.str y)]) rfl ?_
  walk_at "gg"
  refine g_klst (by walk_at "sz") hH (fun p1 H1 n1 h1 => ?_)
  walk_at "gg"
  refine g_klst (by walk_at "sz") h1 (fun p2 H2 n2 h2 => ?_)
  walk_at "gg"
  refine ⟨a, p1, p2, rows, [x], [y], rfl, ho.mono h2.same, h2.get (by walk_at "m"), h2.get (List.Mem.head _), by show 1 ≤ 200; decide, by show 1 ≤ 200; decide, fun hf p3 H3 us s3 n3 h3 asc m3 => ?_, fun z e => (qu z e).later h2.same, fun z e => (qr z e).later h2.same⟩
  exact q hf p3 H3 us (h2.same.trans s3) (h2.same.free n3) h3 asc m3
end

/-! ### names and places -/
theorem at_inj {names : List Str} (nd : names.Nodup) {i j : Nat} {z : Str} (h1 : names[i]? = some z) (h2 : names[j]? = some z) : i = j := by
  obtain ⟨l1, e1⟩ := List.getElem?_eq_some_iff.mp h1
  obtain ⟨l2, e2⟩ := List.getElem?_eq_some_iff.mp h2
  exact (List.getElem_inj nd).mp (e1.trans e2.symm)
theorem chkE_none {kn : Str → Bool} : ∀ {xs seen : List Str}, (∀ z ∈ xs, kn z = true) → xs.Nodup → (∀ z ∈ xs, z ∉ seen) → chkE kn seen xs = none
  | [], _, _, _, _ => rfl
  | x :: r, seen, hk, n, h => by
    have n' := List.nodup_cons.mp n
    show (if kn x = true then if x ∈ seen then some (false, x) else chkE kn (seen ++ [x]) r else some (true, x)) = none
    rw [if_pos (hk x List.mem_cons_self), if_neg (h x List.mem_cons_self)]
    refine chkE_none (fun z hz => hk z (List.mem_cons_of_mem _ hz)) n'.2 (fun z hz m => ?_)
    rcases List.mem_append.mp m with m | m
    · exact h z (List.mem_cons_of_mem _ hz) m
    · rw [List.mem_singleton.mp m] at hz
      exact n'.1 hz
def okL (xs : List Str) : Prop := ∀ x ∈ xs, PyData.strOk x = true
theorem okL_app {xs ys : List Str} (h1 : okL xs) (h2 : okL ys) : okL (xs ++ ys) := fun z hz => by
  rcases List.mem_append.mp hz with h | h
  · exact h1 z h
  · exact h2 z h
theorem okL_one {z : Str} (h : PyData.strOk z = true) : okL [z] := fun y hy => by rw [List.mem_singleton.mp hy]; exact h
def nmz (names : List Str) (a : Nat) : Str := names.getD a Str.empty
theorem nmz_at {names : List Str} {a : Nat} (h : a < names.length) : names[a]? = some (nmz names a) := by
  unfold nmz
  rw [List.getD_eq_getElem?_getD, List.getElem?_eq_getElem h]
  rfl
theorem nmz_mem {names : List Str} {r : List Nat} (h : ∀ a ∈ r, a < names.length) (p : Str) : p ∈ r.map (nmz names) ↔ ∃ a ∈ r, names[a]? = some p := by
  rw [List.mem_map]
  constructor
  · rintro ⟨a, ha, rfl⟩
    exact ⟨a, ha, nmz_at (h a ha)⟩
  · rintro ⟨a, ha, e⟩
    rw [nmz_at (h a ha)] at e
    injection e with e
    exact ⟨a, ha, e⟩
theorem nmz_nodup {names : List Str} (nd : names.Nodup) {r : List Nat} (n : r.Nodup) (h : ∀ a ∈ r, a < names.length) : (r.map (nmz names)).Nodup := by
  refine List.pairwise_map.mpr (List.Pairwise.imp_of_mem (R := fun a b => a ≠ b) ?_ n)
  intro a b ha hb ne e
  exact ne (at_inj nd (nmz_at (h a ha)) (by rw [e]; exact nmz_at (h b hb)))

end K29

namespace K29
open PySem PySem.Spec PyProof.Rows L2 Qk
local macro_rules | `(tactic| walk_at "m") => `(tactic| ((repeat (first | exact List.Mem.head _ | apply List.Mem.tail)); done))
local macro_rules | `(tactic| walk_at "h") => `(tactic| first | assumption | exact Has.gF (by assumption) (by assumption) | exact Has.get (by assumption) (by walk_at "m"))
local macro_rules | `(tactic| walk_at "c") => `(tactic| ((repeat (first | exact Chg.hd | apply Chg.tl)); done))
local macro_rules | `(tactic| walk_at "is") => `(tactic| first
  | ((with_reducible refine' is2_non ?gh ?_); (case gh => walk_at "h"))
  | (with_reducible refine is_int_list ?_)
  | (with_reducible refine is_int_tuple ?_)
  | (with_reducible refine is_int_dict ?_)
  | (with_reducible refine is_int_int ?_)
  | (with_reducible refine is_int_bool ?_)
  | (with_reducible refine is_int_str ?_)
  | ((with_reducible refine' is2_int ?gh ?_); (case gh => walk_at "h"))
  | (with_reducible refine is_str_list ?_)
  | (with_reducible refine is_str_tuple ?_)
  | (with_reducible refine is_str_dict ?_)
  | (with_reducible refine is_str_int ?_)
  | (with_reducible refine is_str_bool ?_)
  | (with_reducible refine is_str_str ?_)
  | ((with_reducible refine' is2_str ?gh ?_); (case gh => walk_at "h"))
  | (with_reducible refine is_bool_list ?_)
  | (with_reducible refine is_bool_tuple ?_)
  | (with_reducible refine is_bool_dict ?_)
  | (with_reducible refine is_bool_int ?_)
  | (with_reducible refine is_bool_bool ?_)
  | (with_reducible refine is_bool_str ?_)
  | ((with_reducible refine' is2_bool ?gh ?_); (case gh => walk_at "h"))
  | ((with_reducible refine' is_list_list ?gh ?_); (case gh => walk_at "h"))
  | ((with_reducible refine' is_list_tuple ?gh ?_); (case gh => walk_at "h"))
  | ((with_reducible refine' is_list_dict ?gh ?_); (case gh => walk_at "h"))
  | ((with_reducible refine' is_list_int ?gh ?_); (case gh => walk_at "h"))
  | ((with_reducible refine' is_list_bool ?gh ?_); (case gh => walk_at "h"))
  | ((with_reducible refine' is_list_str ?gh ?_); (case gh => walk_at "h"))
  | ((with_reducible refine' is2_list ?ga ?gb ?_); (case ga => walk_at "h"); (case gb => walk_at "h"))
  | ((with_reducible refine' is_tuple_list ?gh ?_); (case gh => walk_at "h"))
  | ((with_reducible refine' is_tuple_tuple ?gh ?_); (case gh => walk_at "h"))
  | ((with_reducible refine' is_tuple_dict ?gh ?_); (case gh => walk_at "h"))
  | ((with_reducible refine' is_tuple_int ?gh ?_); (case gh => walk_at "h"))
  | ((with_reducible refine' is_tuple_bool ?gh ?_); (case gh => walk_at "h"))
  | ((with_reducible refine' is_tuple_str ?gh ?_); (case gh => walk_at "h"))
  | ((with_reducible refine' is2_tuple ?ga ?gb ?_); (case ga => walk_at "h"); (case gb => walk_at "h"))
  | ((with_reducible refine' is_dict_list ?gh ?_); (case gh => walk_at "h"))
  | ((with_reducible refine' is_dict_tuple ?gh ?_); (case gh => walk_at "h"))
  | ((with_reducible refine' is_dict_dict ?gh ?_); (case gh => walk_at "h"))
  | ((with_reducible refine' is_dict_int ?gh ?_); (case gh => walk_at "h"))
  | ((with_reducible refine' is_dict_bool ?gh ?_); (case gh => walk_at "h"))
  | ((with_reducible refine' is_dict_str ?gh ?_); (case gh => walk_at "h"))
  | ((with_reducible refine' is2_dict ?ga ?gb ?_); (case ga => walk_at "h"); (case gb => walk_at "h")))
local macro_rules | `(tactic| walk_at "g") => `(tactic| first
  | (with_reducible refine g_seq ?_)
  | (with_reducible refine g_asg ?_)
  | ((with_reducible refine g_name ?_); dsimp only [List.set, wipe, List.map])
  | ((with_reducible refine' g_var ?gv ?_); (case gv => exact rfl))
  | (with_reducible refine g_c ?_)
  | (with_reducible refine g_op ?_)
  | (with_reducible refine g_cons ?_)
  | (with_reducible refine g_nil ?_)
  | (with_reducible refine g_cb ?_)
  | (with_reducible refine g_call ?_)
  | (with_reducible refine g_tup ?_)
  | (with_reducible refine g_lst ?_)
  | (with_reducible refine g_bm ?_)
  | (with_reducible refine g_bm0 ?_)
  | ((with_reducible refine' g_kbm ?gh ?_); (case gh => walk_at "h"))
  | (with_reducible refine g_drop ?_)
  | (with_reducible refine g_ret ?_)
  | (with_reducible refine g_retN ?_)
  | (with_reducible refine g_next ?_)
  | (with_reducible refine g_brk ?_)
  | (with_reducible refine g_cont ?_)
  | (with_reducible refine g_if ?_)
  | ((with_reducible refine' g_aug ?gv ?_); (case gv => exact rfl))
  | (with_reducible refine g_ipI ?_)
  | (with_reducible refine g_test ?_)
  | (with_reducible refine g_tB ?_)
  | (with_reducible refine g_kB ?_)
  | (with_reducible refine g_not ?_)
  | (with_reducible refine g_and ?_)
  | (with_reducible refine g_or ?_)
  | (with_reducible refine g_andV ?_)
  | (with_reducible refine g_orV ?_)
  | (with_reducible refine g_notV ?_)
  | (with_reducible refine g_ifE ?_)
  | (with_reducible refine g_addI ?_)
  | (with_reducible refine g_rI0 ?_)
  | (with_reducible refine g_eqI ?_)
  | (with_reducible refine g_eqS ?_)
  | (with_reducible refine g_neI ?_)
  | (with_reducible refine g_neS ?_)
  | (with_reducible refine g_isN ?_)
  | (with_reducible refine g_notN ?_)
  | (with_reducible refine g_int ?_)
  | (with_reducible refine g_max2 ?_)
  | (with_reducible refine g_min2 ?_)
  | ((with_reducible refine' g_lenL ?gh ?_); (case gh => walk_at "h"))
  | (with_reducible refine g_sub ?_)
  | (with_reducible refine g_gcons ?_)
  | (with_reducible refine g_gnil ?_)
  | (with_reducible refine g_un ?_)
  | (with_reducible refine g_rU ?_)
  | (with_reducible refine g_forL ?_)
  | (with_reducible refine g_forS ?_)
  | (with_reducible refine g_forR1 ?_)
  | (with_reducible refine g_forR2 ?_)
  | (with_reducible refine g_forR3 ?_)
  | (with_reducible refine g_lcL ?_)
  | (with_reducible refine g_lcR1 ?_)
  | (with_reducible refine g_lcR2 ?_)
  | (with_reducible refine g_slice ?_)
  | (with_reducible refine g_part ?_)
  | (with_reducible refine g_kOI ?_)
  | (with_reducible refine g_nopart ?_)
  | (with_reducible refine g_yes ?_)
  | ((with_reducible refine' g_wipe ?gv ?_); (case gv => exact rfl))
  | (with_reducible refine iteT ?_)
  | (with_reducible refine iteF ?_)
  | (with_reducible refine i_nf ?_)
  | (with_reducible refine i_nt ?_)
  | ((with_reducible refine' g_gtup ?gh ?gl ?_); (case gh => walk_at "h"); (case gl => exact rfl))
  | ((with_reducible refine' g_notinI ?gh ?_); (case gh => walk_at "h"))
  | ((with_reducible refine' g_inI ?gh ?_); (case gh => walk_at "h"))
  | ((with_reducible refine' g_kget2 ?gh ?_); (case gh => walk_at "h"))
  | ((with_reducible refine' g_kgotI ?gh ?_); (case gh => walk_at "h"))
  | (with_reducible refine g_tRev ?_)
  | (with_reducible refine g_neB ?_)
  | (with_reducible refine g_eqB ?_)
  | ((with_reducible refine' g_lenT ?gh ?_); (case gh => walk_at "h"))
  | (with_reducible refine g_star ?_)
  | ((with_reducible refine' g_kstarL ?gh ?_); (case gh => walk_at "h"))
  | ((with_reducible refine' g_kstarT ?gh ?_); (case gh => walk_at "h"))
  | (with_reducible refine g_tru ?_)
  | ((with_reducible refine' g_truL ?gh ?_); (case gh => walk_at "h"))
  | (with_reducible refine g_get2 ?_)
  | (with_reducible refine g_try ?_)
  | (with_reducible refine g_fld ?_)
  | (with_reducible refine g_sfld ?_)
  | (with_reducible refine g_meth ?_)
  | (with_reducible refine g_make ?_)
  | (with_reducible refine g_del ?_)
  | (with_reducible refine g_callS ?_)
  | (with_reducible refine g_raise ?_)
  | (with_reducible refine g_xf ?_)
  | (with_reducible refine g_m0 ?_)
  | (with_reducible refine g_km0 ?_)
  | walk_at "is")
local macro_rules | `(tactic| walk_at "gg") => `(tactic| repeat walk_at "g")
local macro_rules | `(tactic| walk_at "sz") => `(tactic| (refine sz ?_; simp only [List.length_cons, List.length_nil, List.length_map, List.length_append, List.length_replicate]; omega))
local macro_rules | `(tactic| walk_at "sub") => `(tactic| ((repeat (first | exact List.Sublist.slnil | with_reducible apply List.Sublist.cons_cons | with_reducible apply List.Sublist.cons)); done))

local macro_rules | `(tactic| walk_at "g") => `(tactic| first
  | ((with_reducible refine' g_lenNL ?gh ?_); (case gh => walk_at "h"))
  | ((with_reducible refine' g_lenND ?gh ?_); (case gh => walk_at "h"))
  | ((with_reducible refine' g_lenNT ?gh ?_); (case gh => walk_at "h"))
  | (with_reducible refine g_ltI ?_)
  | (with_reducible refine g_ltS ?_)
  | (with_reducible refine g_lstRg ?_)
  | (with_reducible refine g_forK ?_))

def kForE (K : PySem.W.Frag) (g : TG) (tb : TS) (D : Ends) (σ : L2.St) (vs : List V) (H : Hp) : Prop := ∃ a xs, vs = [.ref a] ∧ SqL K H a xs ∧ kW (Ite K a) g tb D σ H
theorem g_forE {K : PySem.W.Frag} {σ : L2.St} {H : Hp} {D : Ends} {ts : TS} {g : TG} {ta : TA} (q : ta σ H fun vs H1 => kForE K g ts D σ vs H1) : tFor (iEnum K ta) g ts D σ H := by
  have e : (tFor (iEnum K ta) g ts D σ H) = (ta σ H fun vs H1 => kForE K g ts D σ vs H1) := rfl
  rw [e]
  exact q
theorem k_forE {K : PySem.W.Frag} {σ : L2.St} {H : Hp} {D : Ends} {ts : TS} {g : TG} {a : Addr} {xs : List V} (h : H a = some (.lst xs)) (Pv : Nat → L2.St → Hp → Prop) (h0 : Pv 0 σ H) (hl : ∀ i σ H, Pv i σ H → H a = some (.lst xs))
    (hs : ∀ i x σ H T, xs[i]? = some x → Pv i σ H → H T = none → g (.ref T) σ (upd H T (.tup [.int (i : Nat), x])) fun σ2 H2 => ts { D with nx := Pv (i + 1), ct := Pv (i + 1), bk := D.nx } σ2 H2) (hd : ∀ σ H, Pv xs.length σ H → D.nx σ H) : kForE K g ts D σ [.ref a] H := by
  refine ⟨a, xs, rfl, SqL.of h, fun i m σ H => m = xs.length - i ∧ i ≤ xs.length ∧ Pv i σ H, ⟨_, rfl, Nat.zero_le _, h0⟩, ?_⟩
  rintro i m σ H1 ⟨rfl, hi, p⟩
  have hq : SqL K H1 a xs := SqL.of (hl i σ H1 p)
  by_cases hlt : i < xs.length
  · refine .inr ⟨⟨xs, xs[i], hq, List.getElem?_eq_getElem hlt⟩, Pv (i + 1), fun σ' H' p' => ⟨xs.length - (i + 1), by omega, rfl, hlt, p'⟩, ?_⟩
    rintro x H' ⟨T, y, rfl, n, rfl, e⟩
    exact hs i y σ H1 T (e xs hq) p n
  · have e : i = xs.length := by omega
    subst e
    exact .inl ⟨⟨xs, hq, Nat.le_refl _⟩, hd σ H1 p⟩
local macro_rules | `(tactic| walk_at "g") => `(tactic| (with_reducible refine g_forE ?_))

/-! ### merge bases and closures, by what is under what -/
def Un (rows : List URow) (x z : Str) : Prop := ∃ u, undr rows x = some u ∧ z ∈ u
def MB (U : Str → Str → Prop) (x y z : Str) : Prop := (U x z ∧ U y z) ∧ ¬ ∃ g, (U x g ∧ U y g) ∧ U g z ∧ z ≠ g
theorem un_one {rows : List URow} {x z : Str} : Gu rows [x] z ↔ Un rows x z := by
  unfold Gu Un
  constructor
  · rintro ⟨g, hg, r⟩
    rw [List.mem_singleton.mp hg] at r
    exact r
  · exact fun r => ⟨x, List.mem_singleton.mpr rfl, r⟩
theorem bs_mb {rows : List URow} {x y z : Str} : Bs rows [x] [y] z ↔ MB (Un rows) x y z := by
  unfold Bs MB Cm
  rw [un_one, un_one]
  constructor
  · rintro ⟨h, n⟩
    refine ⟨h, fun ⟨g, hg, ⟨u, eu, hz⟩, ne⟩ => n ⟨g, ?_, u, eu, hz, ne⟩⟩
    rw [un_one, un_one]
    exact hg
  · rintro ⟨h, n⟩
    refine ⟨h, fun ⟨g, hg, u, eu, hz, ne⟩ => n ⟨g, ?_, ⟨u, eu, hz⟩, ne⟩⟩
    rw [un_one, un_one] at hg
    exact hg
theorem MB.symm {U : Str → Str → Prop} {x y z : Str} (h : MB U x y z) : MB U y x z := ⟨⟨h.1.2, h.1.1⟩, fun ⟨g, hg, r⟩ => h.2 ⟨g, ⟨hg.2, hg.1⟩, r⟩⟩
theorem MB.self {U : Str → Str → Prop} {x z : Str} (r : U x x) (h : MB U x x z) : z = x := Decidable.byContradiction fun ne => h.2 ⟨x, ⟨r, r⟩, h.1.1, ne⟩
theorem MB.congr {U V : Str → Str → Prop} {x y z : Str} (hx : ∀ z, U x z ↔ V x z) (hy : ∀ z, U y z ↔ V y z) (hg : ∀ g, U x g → ∀ z, U g z ↔ V g z) : MB U x y z ↔ MB V x y z := by
  unfold MB
  rw [hx, hy]
  constructor
  · rintro ⟨h, n⟩
    exact ⟨h, fun ⟨g, hg', r, ne⟩ => n ⟨g, ⟨(hx g).mpr hg'.1, (hy g).mpr hg'.2⟩, (hg g ((hx g).mpr hg'.1) z).mpr r, ne⟩⟩
  · rintro ⟨h, n⟩
    exact ⟨h, fun ⟨g, hg', r, ne⟩ => n ⟨g, ⟨(hx g).mp hg'.1, (hy g).mp hg'.2⟩, (hg g hg'.1 z).mp r, ne⟩⟩
inductive Cl (M : Str → Str → Str → Prop) (S : Str → Prop) : Str → Prop
  | base {z : Str} : S z → Cl M S z
  | step {a b z : Str} : Cl M S a → Cl M S b → M a b z → Cl M S z
theorem Cl.least {M : Str → Str → Str → Prop} {S C : Str → Prop} (h0 : ∀ z, S z → C z) (h1 : ∀ a b z, C a → C b → M a b z → C z) {z : Str} (h : Cl M S z) : C z := by
  induction h with
  | base h => exact h0 _ h
  | step _ _ m ia ib => exact h1 _ _ _ ia ib m
theorem Cl.mono {M : Str → Str → Str → Prop} {S S' : Str → Prop} (h : ∀ z, S z → Cl M S' z) {z : Str} (c : Cl M S z) : Cl M S' z := c.least h fun _ _ _ a b m => .step a b m
theorem Cl.congr {M N : Str → Str → Str → Prop} {S D : Str → Prop} (hS : ∀ z, S z → D z) (hD : ∀ a b z, D a → D b → M a b z → D z) (h : ∀ a b z, D a → D b → (M a b z ↔ N a b z)) (z : Str) : Cl M S z ↔ Cl N S z := by
  have hD' : ∀ a b z, D a → D b → N a b z → D z := fun a b z ha hb n => hD a b z ha hb ((h a b z ha hb).mpr n)
  constructor
  · intro c
    have : D z ∧ Cl N S z := c.least (C := fun z => D z ∧ Cl N S z) (fun z s => ⟨hS z s, .base s⟩) (fun a b z ⟨da, ca⟩ ⟨db, cb⟩ m => ⟨hD a b z da db m, .step ca cb ((h a b z da db).mp m)⟩)
    exact this.2
  · intro c
    have : D z ∧ Cl M S z := c.least (C := fun z => D z ∧ Cl M S z) (fun z s => ⟨hS z s, .base s⟩) (fun a b z ⟨da, ca⟩ ⟨db, cb⟩ m => ⟨hD' a b z da db m, .step ca cb ((h a b z da db).mpr m)⟩)
    exact this.2
/-- what the next round adds for the i-th member -/
def NB (M : Str → Str → Str → Prop) (ms fs : List Str) (i : Nat) (z : Str) : Prop := ∃ x j y, ms[i]? = some x ∧ i < j ∧ ms[j]? = some y ∧ (x ∈ fs ∨ y ∈ fs) ∧ M x y z ∧ z ∉ ms
theorem nb_cover {M : Str → Str → Str → Prop} {ms fs fr : List Str} (hfr : ∀ z, z ∈ fr ↔ ∃ i, i < ms.length ∧ NB M ms fs i z) (sy : ∀ a b z, M a b z → M b a z) (se : ∀ a z, a ∈ ms → M a a z → z = a) {a b z : Str} (ha : a ∈ ms) (hb : b ∈ ms) (hab : a ∈ fs ∨ b ∈ fs) (mb : M a b z) : z ∈ ms ∨ z ∈ fr := by
  by_cases hz : z ∈ ms
  · exact .inl hz
  refine .inr ((hfr z).mpr ?_)
  obtain ⟨i, hi⟩ := List.mem_iff_getElem?.mp ha
  obtain ⟨j, hj⟩ := List.mem_iff_getElem?.mp hb
  rcases Nat.lt_trichotomy i j with h | h | h
  · exact ⟨i, (List.getElem?_eq_some_iff.mp hi).1, a, j, b, hi, h, hj, hab, mb, hz⟩
  · subst h
    rw [hi] at hj
    injection hj with hj
    subst hj
    exact (hz (by rw [se a z ha mb]; exact ha)).elim
  · exact ⟨j, (List.getElem?_eq_some_iff.mp hj).1, b, i, a, hj, h, hi, hab.symm, sy _ _ _ mb, hz⟩
/-- one that is known is under itself -/
def Rfl (rows : List URow) : Prop := ∀ x u, undr rows x = some u → x ∈ u
theorem Rfl.un {rows : List URow} (r : Rfl rows) {x : Str} (k : kn rows x = true) : Un rows x x := by
  obtain ⟨u, hu⟩ := Option.isSome_iff_exists.mp k
  exact ⟨u, hu, r x u hu⟩

section
variable {P : Program} {w : World} {K : PySem.W.Frag} {mg : Str → Option Value} {base : Heap}
theorem Ord.unk {T : Txt K mg} {H : Hp} {a : Addr} {rows : List URow} (h : Ord T H a rows) {x z : Str} (u : Un rows x z) : kn rows z = true := by
  obtain ⟨v, e, m⟩ := u
  exact kn_mem.mpr (h.inn e m)
theorem f2_none {rows : List URow} {x y : Str} (hx : kn rows x = true) (hy : kn rows y = true) : f2 rows [x] [y] = none := by
  have one : ∀ {z : Str}, kn rows z = true → chkE (kn rows) [] [z] = none := fun {z} h => by
    show (if kn rows z = true then if z ∈ [] then some (false, z) else none else some (true, z)) = none
    rw [if_pos h, if_neg (fun h => by cases h)]
  unfold f2
  rw [one hx]
  exact one hy
theorem cl_known {T : Txt K mg} {H : Hp} {a : Addr} {rows : List URow} (ho : Ord T H a rows) {xs : List Str} (kx : ∀ z ∈ xs, kn rows z = true) {z : Str} (c : Cl (MB (Un rows)) (fun z => z ∈ xs) z) : kn rows z = true :=
  c.least (C := fun z => kn rows z = true) kx fun _ _ _ _ _ mb => ho.unk mb.1.1
end

/-! ### rounds and closures -/
section
variable {P : Program} {w : World} {K : PySem.W.Frag} {mg : Str → Option Value} {base : Heap}
def sp_new_bases (T : Txt K mg) : Sp := fun vs H Q _ => ∃ (a m f : Addr) (rows : List URow) (ms fs : List Str), vs = [.ref a, .ref m, .ref f] ∧ Ord T H a rows ∧ H m = some (.lst (ms.map V.str)) ∧ H f = some (.lst (fs.map V.str)) ∧ (∀ z ∈ ms, kn rows z = true) ∧
  ∀ p H' us, Same H H' → H p = none → H' p = some (.lst (us.map V.str)) → Asc us → (∀ z, z ∈ us ↔ ∃ i, i < ms.length ∧ NB (MB (Un rows)) ms fs i z) → Q (.ref p) H'
theorem sp_new_bases_len {T : Txt K mg} {vs H Q E} (h : sp_new_bases T vs H Q E) : vs.length = 3 := by
  obtain ⟨_, _, _, _, _, _, rfl, _⟩ := h
  rfl
set_option maxHeartbeats 1000000 in
theorem ok_new_bases (T : Txt K mg) : FnOk P w K mg base CX0 8 T.f_new_bases T.fd_new_bases ["order", "members", "fresh"] (sp_new_bases T) := by
  refine T.F_new_bases.ok sc_new_bases (fun vs H Q E h => sp_new_bases_len h) (fun cdv A outer s H vs Q E hr h => ?_)
  refine ⟨_, (pss_cons (ps_set (i := 3) sc_new_bases.nd rfl (.inl rfl) pe_dnewK)
      (pss_cons (ps_for PassesOwn.never rfl (pi_enum (by rfl) T.m_enumerate (pa_cons (pv 1) pa_nil)) (k_gt K (pg_tup (by rfl) (pgs_cons (pg_name (i := 4) sc_new_bases.nd rfl (.inl rfl)) (pgs_cons (pg_name (i := 5) sc_new_bases.nd rfl (.inl rfl)) pgs_nil)))) (pss_one (ps_for PassesOwn.never rfl (k_il K (pi_list (pe_slice (sl_M K) (pv 1) (po_some (pe_op (op_addK K) (pv 4) pe_int)) po_none))) (pg_name (i := 6) sc_new_bases.nd rfl (.inl rfl)) (pss_one (ps_if (PW.pt (pw_or (pt_cmpR (op_inM K P w hr.units (u65 hr)) (pv 5) (pv 2) (by rfl)) (pw_or1 (pt_cmpR (op_inM K P w hr.units (u65 hr)) (pv 6) (pv 2) (by rfl))))) (pss_one (ps_for PassesOwn.never rfl (k_il K (pi_list (pe_call (ok_merge_bases T) (hr.mono (by decide)) (by rfl) T.g_merge_bases T.F_merge_bases.kp T.b_merge_bases .nil passN (pa_cons (pv 0) (pa_cons (pv 5) (pa_cons (pv 6) pa_nil)))))) (pg_name (i := 7) sc_new_bases.nd rfl (.inl rfl)) (pss_one (ps_if (pt_cmpR (op_notinM K P w hr.units (u65 hr)) (pv 7) (pv 1) (by rfl)) (pss_one (ps_asg pe_bl (pg_sub (pv 3) (pv 7) (set_any (hu_of hr))))) pss_nil)))) pss_nil)))))
      (pss_one (ps_ret (pe_callB (cr_sortA K rfl) (by rfl) T.m_sorted (by decide +kernel) (pa_cons (pv 3) pa_nil)))))), ?_⟩
  obtain ⟨a, m, f, rows, ms, fs, rfl, ho, hm, hf, km, q⟩ := h
  have hH := Has.start H
  have fewr := ho.few
  have nbk : ∀ {i z}, NB (MB (Un rows)) ms fs i z → z ∈ rows.map (·.1) := fun ⟨x, j, y, _, _, _, _, mb, _⟩ => kn_mem.mp (ho.unk mb.1.1)
  refine g_start (σ' := [some (.ref a), some (.ref m), some (.ref f), none, none, none, none, none]) rfl ?_
  walk_at "gg"
  refine g_dnewK hH (fun fd H1 n1 h1 => ?_)
  walk_at "gg"
  refine k_forE (h1.same _ _ hm) (fun t σ H' => ∃ (F : Hp) (ys : List Str) (y4 y5 y6 y7 : Option V), σ = [some (.ref a), some (.ref m), some (.ref f), some (.ref fd), y4, y5, y6, y7] ∧ Same H F ∧ Has F [(fd, .dK (tk ys))] H' ∧ ys.Nodup ∧ (∀ z, z ∈ ys ↔ ∃ i, i < t ∧ NB (MB (Un rows)) ms fs i z)) ⟨H, [], _, _, _, _, rfl, Same.refl _, h1, List.nodup_nil, fun z => by simp⟩ ?_ ?_ ?_
  · rintro t σ H' ⟨F, ys, y4, y5, y6, y7, rfl, sF, h2, _⟩
    exact h2.same _ _ (sF _ _ hm)
  · rintro t xx σ H2 T2 hxx ⟨F, ys, y4, y5, y6, y7, rfl, sF, h2, n2, m2⟩ nT2
    obtain ⟨x, hx, rfl⟩ := str_at hxx
    have h2 := h2.new (o := .tup [.int (t : Nat), .str x]) nT2
    refine g_gtup (h2.get (List.Mem.head _)) rfl ?_
    walk_at "gg"
    have h2 := h2.drop
    generalize upd H2 T2 _ = H2 at h2
    refine g_slM (g_slS (SqL.of (h2.same _ _ (sF _ _ hm))) h2 (fun ps H3 n3 h3 => ?_))
    have ec : cutV (ms.map V.str) (some ((t : Int) + 1)) none = (ms.drop (t + 1)).map V.str := by
      have := cutV_from (ms.map V.str) (t + 1)
      push_cast at this
      rw [this, List.map_drop]
    rw [ec] at h3
    have h3' := h3.frz
    have s3 := h3.grow
    have fps : upd F ps (.lst ((ms.drop (t + 1)).map V.str)) ps = some (.lst ((ms.drop (t + 1)).map V.str)) := upd_same
    generalize upd F ps (.lst ((ms.drop (t + 1)).map V.str)) = F3 at h3' s3 fps
    refine k_forL (h3'.same _ _ fps) (fun u σ H' => ∃ (F : Hp) (ys : List Str) (y6 y7 : Option V), σ = [some (.ref a), some (.ref m), some (.ref f), some (.ref fd), some (.int (t : Nat)), some (.str x), y6, y7] ∧ Same F3 F ∧ Has F [(fd, .dK (tk ys))] H' ∧ ys.Nodup ∧
      (∀ z, z ∈ ys ↔ (∃ i, i < t ∧ NB (MB (Un rows)) ms fs i z) ∨ ∃ j y, j < u ∧ ms[t + 1 + j]? = some y ∧ (x ∈ fs ∨ y ∈ fs) ∧ MB (Un rows) x y z ∧ z ∉ ms)) ⟨F3, ys, _, _, rfl, Same.refl _, h3', n2, fun z => by rw [m2 z]; simp⟩ ?_ ?_ ?_
    · rintro u σ H' _ ⟨F, ys, y6, y7, rfl, sF', h4, _⟩
      exact h4.same _ _ (sF' _ _ fps)
    · rintro u yy σ H4 hyy ⟨F, ys, y6, y7, rfl, sF4, h4, n4, m4⟩
      obtain ⟨y, hy, rfl⟩ := str_at hyy
      rw [List.getElem?_drop] at hy
      have sH := (sF.trans s3).trans sF4
      have step : ∀ (zs : List Str), (∀ z, z ∈ zs ↔ z ∈ ys ∨ ((x ∈ fs ∨ y ∈ fs) ∧ MB (Un rows) x y z ∧ z ∉ ms)) → ∀ z, z ∈ zs ↔ (∃ i, i < t ∧ NB (MB (Un rows)) ms fs i z) ∨ ∃ j y, j < u + 1 ∧ ms[t + 1 + j]? = some y ∧ (x ∈ fs ∨ y ∈ fs) ∧ MB (Un rows) x y z ∧ z ∉ ms := fun zs h z => by
        rw [h z, m4 z, or_assoc]
        refine or_congr Iff.rfl ?_
        constructor
        · rintro (⟨j, y', hj, r⟩ | r)
          · exact ⟨j, y', by omega, r⟩
          · exact ⟨u, y, by omega, hy, r⟩
        · rintro ⟨j, y', hj, ej, r⟩
          by_cases c : j < u
          · exact .inl ⟨j, y', c, ej, r⟩
          · have : j = u := by omega
            subst this
            rw [hy] at ej
            injection ej with ej
            subst ej
            exact .inr r
      walk_at "g"
      walk_at "g"
      refine g_fact (fun b => b = true ↔ (x ∈ fs ∨ y ∈ fs)) (fun R r => ?_) (fun b hb => ?_)
      · walk_at "gg"
        refine g_inM (g_inFL (h4.same _ _ (sH _ _ hf)) rfl (flat_strs _) ?_)
        rw [inV_strs]
        walk_at "gg"
        refine i_d (fun e => r _ ⟨fun _ => .inl e, fun _ => rfl⟩) (fun ne => ?_)
        walk_at "gg"
        refine g_inM (g_inFL (h4.same _ _ (sH _ _ hf)) rfl (flat_strs _) ?_)
        rw [inV_strs]
        walk_at "gg"
        exact r _ ⟨fun h => .inr (of_decide_eq_true h), fun h => h.elim (fun e => (ne e).elim) fun e => decide_eq_true e⟩
      cases b with
      | false =>
        have no : ¬ (x ∈ fs ∨ y ∈ fs) := fun h => by cases hb.mpr h
        walk_at "gg"
        exact ⟨F, ys, _, _, rfl, sF4, h4, n4, step ys fun z => ⟨.inl, fun h => h.elim id fun h => (no h.1).elim⟩⟩
      | true =>
        have yes := hb.mp rfl
        walk_at "gg"
        have ho4 := ho.mono (sH.trans h4.same)
        refine ⟨a, rows, x, y, rfl, ho4, fun _ pb H5 bs s5 n5 hbs _ mbs => ?_, ?_, ?_⟩
        · have h5 := h4.made n5 s5 hbs
          have h5' := h5.frz
          have s5' := h5.grow
          have fpb : upd F pb (.lst (bs.map V.str)) pb = some (.lst (bs.map V.str)) := upd_same
          generalize upd F pb (.lst (bs.map V.str)) = F5 at h5' s5' fpb
          walk_at "gg"
          refine k_forL (h5'.same _ _ fpb) (fun k σ H' => ∃ (ys' : List Str) (y7 : Option V), σ = [some (.ref a), some (.ref m), some (.ref f), some (.ref fd), some (.int (t : Nat)), some (.str x), some (.str y), y7] ∧ Has F5 [(fd, .dK (tk ys'))] H' ∧ ys'.Nodup ∧ (∀ z, z ∈ ys' ↔ z ∈ ys ∨ (z ∈ bs.take k ∧ z ∉ ms))) ⟨ys, _, rfl, h5', n4, fun z => by simp⟩ ?_ ?_ ?_
          · rintro k σ H' _ ⟨ys', y7, rfl, h6, _⟩
            exact h6.same _ _ fpb
          · rintro k zz σ H6 hzz ⟨ys', y7, rfl, h6, n6, m6⟩
            obtain ⟨z, hz, rfl⟩ := str_at hzz
            walk_at "gg"
            refine g_notinM (g_notinFL (h6.same _ _ (s5' _ _ (sH _ _ hm))) rfl (flat_strs _) ?_)
            rw [inV_strs]
            walk_at "gg"
            refine i_n (fun ne => ?_) (fun e => ?_)
            · have ly : ys'.length ≤ 60 := few_in fewr n6 fun v hv => by
                rcases (m6 v).mp hv with h | h
                · rcases (m4 v).mp h with ⟨i, _, h⟩ | ⟨j, y', _, _, _, mb, _⟩
                  · exact nbk h
                  · exact kn_mem.mp (ho.unk mb.1.1)
                · exact kn_mem.mp (ho.unk (bs_mb.mp ((mbs v).mp (List.mem_of_mem_take h.1))).1.1)
              walk_at "gg"
              refine g_stD (k := .inr z) rfl h6 .hd (szl (by rw [tk_len]; omega)) (fun H7 h7 => ?_)
              rw [tk_put] at h7
              refine ⟨addL ys' z, _, rfl, h7, addL_nodup n6, fun v => ?_⟩
              rw [addL_mem, m6 v, List.take_add_one, hz]
              simp only [Option.toList_some, List.mem_append, List.mem_singleton]
              constructor
              · rintro ((h | ⟨h1, h2⟩) | rfl)
                · exact .inl h
                · exact .inr ⟨.inl h1, h2⟩
                · exact .inr ⟨.inr rfl, ne⟩
              · rintro (h | ⟨h1 | rfl, h2⟩)
                · exact .inl (.inl h)
                · exact .inl (.inr ⟨h1, h2⟩)
                · exact .inr rfl
            · walk_at "gg"
              refine ⟨ys', _, rfl, h6, n6, fun v => ?_⟩
              rw [m6 v, List.take_add_one, hz]
              simp only [Option.toList_some, List.mem_append, List.mem_singleton]
              constructor
              · rintro (h | ⟨h1, h2⟩)
                · exact .inl h
                · exact .inr ⟨.inl h1, h2⟩
              · rintro (h | ⟨h1 | rfl, h2⟩)
                · exact .inl h
                · exact .inr ⟨h1, h2⟩
                · exact (h2 e).elim
          · rintro σ H6 ⟨ys', y7, rfl, h6, n6, m6⟩
            rw [List.length_map, List.take_length] at m6
            refine ⟨F5, ys', _, _, rfl, sF4.trans s5', h6, n6, step ys' fun z => ?_⟩
            rw [m6 z, mbs z, bs_mb]
            exact or_congr Iff.rfl ⟨fun h => ⟨yes, h⟩, fun h => h.2⟩
        · intro z e
          have kx := km x (List.mem_of_getElem? hx)
          have ky := km y (List.mem_of_getElem? hy)
          rw [f2_none kx ky] at e
          cases e
        · intro z e
          have kx := km x (List.mem_of_getElem? hx)
          have ky := km y (List.mem_of_getElem? hy)
          rw [f2_none kx ky] at e
          cases e
    · rintro σ H4 ⟨F4, ys', y6, y7, rfl, sF4, h4, n4, m4⟩
      refine ⟨F4, ys', _, _, _, _, rfl, (sF.trans s3).trans sF4, h4, n4, fun z => ?_⟩
      rw [m4 z]
      constructor
      · rintro (⟨i, hi, h⟩ | ⟨j, y, hj, ej, h⟩)
        · exact ⟨i, by omega, h⟩
        · exact ⟨t, by omega, x, t + 1 + j, y, hx, by omega, ej, h⟩
      · rintro ⟨i, hi, h⟩
        by_cases c : i < t
        · exact .inl ⟨i, c, h⟩
        · have : i = t := by omega
          subst this
          obtain ⟨x', j, y, ex, hj, ej, r⟩ := h
          rw [hx] at ex
          injection ex with ex
          subst ex
          have lj := (List.getElem?_eq_some_iff.mp ej).1
          exact .inr ⟨j - (i + 1), y, by rw [List.length_map, List.length_drop]; omega, by rw [show i + 1 + (j - (i + 1)) = j by omega]; exact ej, r⟩
  rintro σ H2 ⟨F, ys, y4, y5, y6, y7, rfl, sF, h2, n2, m2⟩
  rw [List.length_map] at m2
  have ly : ys.length ≤ 60 := few_in fewr n2 fun y hy => by
    obtain ⟨i, _, h⟩ := (m2 y).mp hy
    exact nbk h
  walk_at "gg"
  refine g_sortDS (h2.get (List.Mem.head _)) (tk_keys ys) (by omega) h2 (fun us p H3 pm srt n3 h3 => ?_)
  exact q p H3 us (sF.trans h3.same) ((sF.trans h2.same).free n3) (h3.get (List.Mem.head _)) (asc_of srt (pm.nodup_iff.mpr n2)) (fun y => (pm.mem_iff).trans (m2 y))
end

end K29

namespace K29
open PySem PySem.Spec PyProof.Rows L2 Qk
local macro_rules | `(tactic| walk_at "m") => `(tactic| ((repeat (first | exact List.Mem.head _ | apply List.Mem.tail)); done))
local macro_rules | `(tactic| walk_at "h") => `(tactic| first | assumption | exact Has.gF (by assumption) (by assumption) | exact Has.get (by assumption) (by walk_at "m"))
local macro_rules | `(tactic| walk_at "c") => `(tactic| ((repeat (first | exact Chg.hd | apply Chg.tl)); done))
local macro_rules | `(tactic| walk_at "is") => `(tactic| first
  | ((with_reducible refine' is2_non ?gh ?_); (case gh => walk_at "h"))
  | (with_reducible refine is_int_list ?_)
  | (with_reducible refine is_int_tuple ?_)
  | (with_reducible refine is_int_dict ?_)
  | (with_reducible refine is_int_int ?_)
  | (with_reducible refine is_int_bool ?_)
  | (with_reducible refine is_int_str ?_)
  | ((with_reducible refine' is2_int ?gh ?_); (case gh => walk_at "h"))
  | (with_reducible refine is_str_list ?_)
  | (with_reducible refine is_str_tuple ?_)
  | (with_reducible refine is_str_dict ?_)
  | (with_reducible refine is_str_int ?_)
  | (with_reducible refine is_str_bool ?_)
  | (with_reducible refine is_str_str ?_)
  | ((with_reducible refine' is2_str ?gh ?_); (case gh => walk_at "h"))
  | (with_reducible refine is_bool_list ?_)
  | (with_reducible refine is_bool_tuple ?_)
  | (with_reducible refine is_bool_dict ?_)
  | (with_reducible refine is_bool_int ?_)
  | (with_reducible refine is_bool_bool ?_)
  | (with_reducible refine is_bool_str ?_)
  | ((with_reducible refine' is2_bool ?gh ?_); (case gh => walk_at "h"))
  | ((with_reducible refine' is_list_list ?gh ?_); (case gh => walk_at "h"))
  | ((with_reducible refine' is_list_tuple ?gh ?_); (case gh => walk_at "h"))
  | ((with_reducible refine' is_list_dict ?gh ?_); (case gh => walk_at "h"))
  | ((with_reducible refine' is_list_int ?gh ?_); (case gh => walk_at "h"))
  | ((with_reducible refine' is_list_bool ?gh ?_); (case gh => walk_at "h"))
  | ((with_reducible refine' is_list_str ?gh ?_); (case gh => walk_at "h"))
  | ((with_reducible refine' is2_list ?ga ?gb ?_); (case ga => walk_at "h"); (case gb => walk_at "h"))
  | ((with_reducible refine' is_tuple_list ?gh ?_); (case gh => walk_at "h"))
  | ((with_reducible refine' is_tuple_tuple ?gh ?_); (case gh => walk_at "h"))
  | ((with_reducible refine' is_tuple_dict ?gh ?_); (case gh => walk_at "h"))
  | ((with_reducible refine' is_tuple_int ?gh ?_); (case gh => walk_at "h"))
  | ((with_reducible refine' is_tuple_bool ?gh ?_); (case gh => walk_at "h"))
  | ((with_reducible refine' is_tuple_str ?gh ?_); (case gh => walk_at "h"))
  | ((with_reducible refine' is2_tuple ?ga ?gb ?_); (case ga => walk_at "h"); (case gb => walk_at "h"))
  | ((with_reducible refine' is_dict_list ?gh ?_); (case gh => walk_at "h"))
  | ((with_reducible refine' is_dict_tuple ?gh ?_); (case gh => walk_at "h"))
  | ((with_reducible refine' is_dict_dict ?gh ?_); (case gh => walk_at "h"))
  | ((with_reducible refine' is_dict_int ?gh ?_); (case gh => walk_at "h"))
  | ((with_reducible refine' is_dict_bool ?gh ?_); (case gh => walk_at "h"))
  | ((with_reducible refine' is_dict_str ?gh ?_); (case gh => walk_at "h"))
  | ((with_reducible refine' is2_dict ?ga ?gb ?_); (case ga => walk_at "h"); (case gb => walk_at "h")))
local macro_rules | `(tactic| walk_at "g") => `(tactic| first
  | (with_reducible refine g_seq ?_)
  | (with_reducible refine g_asg ?_)
  | ((with_reducible refine g_name ?_); dsimp only [List.set, wipe, List.map])
  | ((with_reducible refine' g_var ?gv ?_); (case gv => exact rfl))
  | (with_reducible refine g_c ?_)
  | (with_reducible refine g_op ?_)
  | (with_reducible refine g_cons ?_)
  | (with_reducible refine g_nil ?_)
  | (with_reducible refine g_cb ?_)
  | (with_reducible refine g_call ?_)
  | (with_reducible refine g_tup ?_)
  | (with_reducible refine g_lst ?_)
  | (with_reducible refine g_bm ?_)
  | (with_reducible refine g_bm0 ?_)
  | ((with_reducible refine' g_kbm ?gh ?_); (case gh => walk_at "h"))
  | (with_reducible refine g_drop ?_)
  | (with_reducible refine g_ret ?_)
  | (with_reducible refine g_retN ?_)
  | (with_reducible refine g_next ?_)
  | (with_reducible refine g_brk ?_)
  | (with_reducible refine g_cont ?_)
  | (with_reducible refine g_if ?_)
  | ((with_reducible refine' g_aug ?gv ?_); (case gv => exact rfl))
  | (with_reducible refine g_ipI ?_)
  | (with_reducible refine g_test ?_)
  | (with_reducible refine g_tB ?_)
  | (with_reducible refine g_kB ?_)
  | (with_reducible refine g_not ?_)
  | (with_reducible refine g_and ?_)
  | (with_reducible refine g_or ?_)
  | (with_reducible refine g_andV ?_)
  | (with_reducible refine g_orV ?_)
  | (with_reducible refine g_notV ?_)
  | (with_reducible refine g_ifE ?_)
  | (with_reducible refine g_addI ?_)
  | (with_reducible refine g_rI0 ?_)
  | (with_reducible refine g_eqI ?_)
  | (with_reducible refine g_eqS ?_)
  | (with_reducible refine g_neI ?_)
  | (with_reducible refine g_neS ?_)
  | (with_reducible refine g_isN ?_)
  | (with_reducible refine g_notN ?_)
  | (with_reducible refine g_int ?_)
  | (with_reducible refine g_max2 ?_)
  | (with_reducible refine g_min2 ?_)
  | ((with_reducible refine' g_lenL ?gh ?_); (case gh => walk_at "h"))
  | (with_reducible refine g_sub ?_)
  | (with_reducible refine g_gcons ?_)
  | (with_reducible refine g_gnil ?_)
  | (with_reducible refine g_un ?_)
  | (with_reducible refine g_rU ?_)
  | (with_reducible refine g_forL ?_)
  | (with_reducible refine g_forS ?_)
  | (with_reducible refine g_forR1 ?_)
  | (with_reducible refine g_forR2 ?_)
  | (with_reducible refine g_forR3 ?_)
  | (with_reducible refine g_lcL ?_)
  | (with_reducible refine g_lcR1 ?_)
  | (with_reducible refine g_lcR2 ?_)
  | (with_reducible refine g_slice ?_)
  | (with_reducible refine g_part ?_)
  | (with_reducible refine g_kOI ?_)
  | (with_reducible refine g_nopart ?_)
  | (with_reducible refine g_yes ?_)
  | ((with_reducible refine' g_wipe ?gv ?_); (case gv => exact rfl))
  | (with_reducible refine iteT ?_)
  | (with_reducible refine iteF ?_)
  | (with_reducible refine i_nf ?_)
  | (with_reducible refine i_nt ?_)
  | ((with_reducible refine' g_gtup ?gh ?gl ?_); (case gh => walk_at "h"); (case gl => exact rfl))
  | ((with_reducible refine' g_notinI ?gh ?_); (case gh => walk_at "h"))
  | ((with_reducible refine' g_inI ?gh ?_); (case gh => walk_at "h"))
  | ((with_reducible refine' g_kget2 ?gh ?_); (case gh => walk_at "h"))
  | ((with_reducible refine' g_kgotI ?gh ?_); (case gh => walk_at "h"))
  | (with_reducible refine g_tRev ?_)
  | (with_reducible refine g_neB ?_)
  | (with_reducible refine g_eqB ?_)
  | ((with_reducible refine' g_lenT ?gh ?_); (case gh => walk_at "h"))
  | (with_reducible refine g_star ?_)
  | ((with_reducible refine' g_kstarL ?gh ?_); (case gh => walk_at "h"))
  | ((with_reducible refine' g_kstarT ?gh ?_); (case gh => walk_at "h"))
  | (with_reducible refine g_tru ?_)
  | ((with_reducible refine' g_truL ?gh ?_); (case gh => walk_at "h"))
  | (with_reducible refine g_get2 ?_)
  | (with_reducible refine g_try ?_)
  | (with_reducible refine g_fld ?_)
  | (with_reducible refine g_sfld ?_)
  | (with_reducible refine g_meth ?_)
  | (with_reducible refine g_make ?_)
  | (with_reducible refine g_del ?_)
  | (with_reducible refine g_callS ?_)
  | (with_reducible refine g_raise ?_)
  | (with_reducible refine g_xf ?_)
  | (with_reducible refine g_m0 ?_)
  | (with_reducible refine g_km0 ?_)
  | walk_at "is")
local macro_rules | `(tactic| walk_at "gg") => `(tactic| repeat walk_at "g")
local macro_rules | `(tactic| walk_at "sz") => `(tactic| (refine sz ?_; simp only [List.length_cons, List.length_nil, List.length_map, List.length_append, List.length_replicate]; omega))
local macro_rules | `(tactic| walk_at "sub") => `(tactic| ((repeat (first | exact List.Sublist.slnil | with_reducible apply List.Sublist.cons_cons | with_reducible apply List.Sublist.cons)); done))

/-! ### the draws: a list of ints, the count first -/
section
variable {P : Program} {w : World} {K : PySem.W.Frag} {mg : Str → Option Value} {base : Heap}
def FeedO (c : Addr) (ns : List Int) : Own := [(c, .lst (ns.map V.int))]
def FeedOk (ns : List Int) : Prop := 1 ≤ ns.length ∧ ns.length ≤ 64
def sp_l_cells (T : Txt K mg) : Sp := fun vs H Q _ => ∃ (a : Addr) (ns : List Int), vs = [.ref a] ∧ SqL K H a (ns.map V.int) ∧ ns.length ≤ 63 ∧
  ∀ p H' (ns : List Int), H p = none → Has H (FeedO p ns) H' → FeedOk ns → Q (.ref p) H'
theorem sp_l_cells_len {T : Txt K mg} {vs H Q E} (h : sp_l_cells T vs H Q E) : vs.length = 1 := by
  obtain ⟨_, _, rfl, _⟩ := h
  rfl
theorem ok_l_cells (T : Txt K mg) : FnOk P w K mg base CX0 1 T.f_l_cells T.fd_l_cells ["script"] (sp_l_cells T) := by
  refine T.F_l_cells.ok sc_l_cells (fun vs H Q E h => sp_l_cells_len h) (fun cdv A outer s H vs Q E hr h => ?_)
  refine ⟨_, (pss_one (ps_ret (pe_op (op_addK K) (pe_lst (pa_cons pe_int pa_nil)) (pe_lc (own := [("cell", 1)]) (g := gName 1) (tt := tYes) rfl sc_l_cells.nd (k_il K (pi_list (pe_slice (sl_M K) (pv 0) po_none (po_some pe_int)))) (blkOk_by (N := n_l_cells) (sc := defScope s_l_cells) (by decide +kernel)) (fun _ _ _ _ _ => (pg_name (i := 1) sc_l_cells.nd rfl (.inl rfl))) (fun _ _ _ _ _ => pts_nil) (fun _ _ _ _ _ => (pe_callB cr_abs1 (by rfl) T.m_abs (by decide +kernel) (pa_cons (pv 1) pa_nil))))))), ?_⟩
  obtain ⟨a, ns, rfl, ha, hn, q⟩ := h
  have hH := Has.start H
  refine g_start (σ' := [some (.ref a), none]) rfl ?_
  walk_at "gg"
  refine g_klst (by walk_at "sz") hH (fun p1 H1 n1 h1 => ?_)
  walk_at "gg"
  refine g_slM (g_slS (h1.same.seq ha) h1 (fun p2 H2 n2 h2 => ?_))
  obtain ⟨ms, em, lm⟩ := cutV_ints ns none (some 63)
  rw [em] at h2
  refine k_lcL (by walk_at "h") h2 (fun i acc F' O' => ∃ ks : List Int, acc = ks.map V.int ∧ ks.length = i ∧ F' = H ∧ O' = [(p2, .lst (ms.map V.int)), (p1, .lst [.int 0])]) ⟨[], rfl, rfl, rfl, rfl⟩ ?_ ?_ ?_
  · rintro i acc F' O' H3 ⟨ks, rfl, rfl, rfl, rfl⟩ hh
    walk_at "h"
  · rintro i x acc F' O' D H3 hx ⟨ks, rfl, rfl, rfl, rfl⟩ hh
    rw [List.getElem?_map] at hx
    obtain ⟨z, hz, rfl⟩ := Option.map_eq_some_iff.mp hx
    have hl : ks.length < ms.length := (List.getElem?_eq_some_iff.mp hz).1
    walk_at "gg"
    refine g_abs (fun j hj => ?_)
    exact k_turn hh (by rw [List.length_map]; omega) ⟨ks ++ [j], by rw [List.map_append]; rfl, by rw [List.length_append]; rfl, rfl, rfl⟩
  rintro acc F' O' D H3 ⟨ks, rfl, hkl, rfl, rfl⟩ h3
  rw [List.length_map] at hkl
  refine g_addL (h3.get (by walk_at "m")) (h3.get (List.Mem.head _)) (sz (by rw [List.length_map]; show 1 + _ ≤ _; omega)) h3 (fun p H4 n4 h4 => ?_)
  have e : [V.int 0] ++ ks.map V.int = ((0 : Int) :: ks).map V.int := rfl
  rw [e] at h4
  exact q p H4 (0 :: ks) (h3.same.free n4) (h4.sub (by unfold FeedO; walk_at "sub")) ⟨by rw [List.length_cons]; omega, by rw [List.length_cons]; omega⟩
def sp_l_next (T : Txt K mg) : Sp := fun vs H Q _ => ∃ (a : Addr) (ns : List Int) (m : Int), vs = [.ref a, .int m] ∧ H a = some (.lst (ns.map V.int)) ∧ FeedOk ns ∧ 0 < m ∧ m < 10000000000000 ∧
  ∀ H' (ns' : List Int) (r : Int), But a H H' → H' a = some (.lst (ns'.map V.int)) → FeedOk ns' → 0 ≤ r → r < m → Q (.int r) H'
theorem sp_l_next_len {T : Txt K mg} {vs H Q E} (h : sp_l_next T vs H Q E) : vs.length = 2 := by
  obtain ⟨_, _, _, rfl, _⟩ := h
  rfl
theorem cdivw {m : Int} (h0 : 0 < m) (h1 : m < 10000000000000) (i : Int) : CDivW i m := by
  refine ⟨h0, ?_⟩
  have : m.natAbs < 2 ^ 64 := by
    have : m.natAbs < 10000000000000 := by omega
    exact Nat.lt_trans this (by decide)
  exact Nat.lt_trans ((Nat.log2_lt (by omega)).mpr this) (by decide)
theorem ok_l_next (T : Txt K mg) : FnOk P w K mg base CX0 1 T.f_l_next T.fd_l_next ["feed", "many"] (sp_l_next T) := by
  refine T.F_l_next.ok sc_l_next (fun vs H Q E h => sp_l_next_len h) (fun cdv A outer s H vs Q E hr h => ?_)
  refine ⟨_, (pss_cons (ps_if (pt_cmpR (op_eqK K hr.units) (pe_callB (cr_lenK K) (by rfl) T.m_len (by decide +kernel) (pa_cons (pv 0) pa_nil)) pe_int (nomark _)) (pss_one (ps_ret pe_int)) pss_nil)
      (pss_cons (ps_set (i := 2) sc_l_next.nd rfl (.inl rfl) (pe_op op_mod (pe_callTy cr_int1 (by rfl) T.m_int (by decide +kernel) (pa_cons (pe_ix (ix_K K (hu_of hr)) (pv 0) pe_int (fun _ _ => rfl)) pa_nil)) (pv 1)))
      (pss_cons (ps_asg (pe_op op_fdivW (pe_ix (ix_K K (hu_of hr)) (pv 0) pe_int (fun _ _ => rfl)) (pv 1)) (pg_sub (pv 0) pe_int (set_any (hu_of hr))))
      (pss_cons (ps_asg (pe_op (op_addK K) (pe_ix (ix_K K (hu_of hr)) (pv 0) pe_int (fun _ _ => rfl)) pe_int) (pg_sub (pv 0) pe_int (set_any (hu_of hr))))
      (pss_cons (ps_if (PW.pt (pw_or (pt_cmpR (op_eqK K hr.units) (pe_ix (ix_K K (hu_of hr)) (pv 0) pe_int (fun _ _ => rfl)) pe_int (nomark _)) (pw_or1 (pt_cmpR (op_eqK K hr.units) (pe_ix (ix_K K (hu_of hr)) (pv 0) pe_int (fun _ _ => rfl)) pe_int (nomark _))))) (pss_cons (ps_expr (k_bm K (pe_bm PySem.F.plainAttrs_list PySem.F.slot_list_pop PySem.F.type_list_pop mt_popAt (pv 0) (pa_cons pe_int pa_nil))))
      (pss_one (ps_asg pe_int (pg_sub (pv 0) pe_int (set_any (hu_of hr)))))) pss_nil)
      (pss_one (ps_ret (pv 2)))))))), ?_⟩
  obtain ⟨a, ns, m, rfl, ha, ⟨hn0, hn⟩, hm0, hm, q⟩ := h
  have hH := Has.arg ha
  refine g_start (σ' := [some (.ref a), some (.int m), none]) rfl ?_
  walk_at "gg"
  rw [List.length_map]
  refine i_d (fun l1 => ?_) (fun l1 => ?_)
  · walk_at "gg"
    exact q H ns 0 (But.of hH.same) (by walk_at "h") ⟨hn0, hn⟩ (by omega) hm0
  walk_at "gg"
  refine g_ixI (by walk_at "h") (by omega) (by omega) (fun z hz => ?_)
  walk_at "gg"
  refine g_rI hm0 ?_
  walk_at "gg"
  have r0 : 0 ≤ z % m := Int.emod_nonneg _ (by omega)
  have r1 : z % m < m := Int.emod_lt_of_pos _ hm0
  generalize z % m = r at r0 r1
  refine g_ixI (by walk_at "h") (by omega) (by omega) (fun z hz => ?_)
  walk_at "gg"
  refine g_rI (cdivw hm0 hm _) ?_
  walk_at "gg"
  refine g_stI hH (by walk_at "c") (by omega) (by omega) (fun H2 h2 => ?_)
  walk_at "gg"
  refine g_ixI (by walk_at "h") (by omega) (by rw [List.length_set]; omega) (fun z1 hz1 => ?_)
  walk_at "gg"
  refine g_stI h2 (by walk_at "c") (by omega) (by rw [List.length_set]; omega) (fun H3 h3 => ?_)
  have l3 : ((ns.set (1 : Int).toNat (z / m)).set (0 : Int).toNat (z1 + 1)).length = ns.length := by rw [List.length_set, List.length_set]
  generalize (ns.set (1 : Int).toNat (z / m)).set (0 : Int).toNat (z1 + 1) = ms at h3 l3
  with_reducible refine g_seq ?_
  with_reducible refine g_if ?_
  refine g_fact (fun _ => True) (fun R r => ?_) (fun b _ => ?_)
  · walk_at "gg"
    refine g_ixI (by walk_at "h") (by omega) (by omega) (fun z2 hz2 => ?_)
    walk_at "gg"
    refine i_d (fun _ => r _ True.intro) (fun _ => ?_)
    walk_at "gg"
    refine g_ixI (by walk_at "h") (by omega) (by omega) (fun z3 hz3 => ?_)
    walk_at "gg"
    exact r _ True.intro
  cases b with
  | true =>
    walk_at "gg"
    refine g_popAtI h3 (by walk_at "c") (by omega) (by omega) (by omega) (fun H4 z4 h4 => ?_)
    have l4 : (ms.eraseIdx (1 : Int).toNat).length = ms.length - 1 := List.length_eraseIdx_of_lt (by show 1 < ms.length; omega)
    walk_at "gg"
    refine g_stI h4 (by walk_at "c") (by omega) (by omega) (fun H5 h5 => ?_)
    walk_at "gg"
    exact q H5 _ r (But.of h5.same) (by walk_at "h") ⟨by rw [List.length_set]; omega, by rw [List.length_set]; omega⟩ r0 r1
  | false =>
    walk_at "gg"
    exact q H3 ms r (But.of h3.same) (by walk_at "h") ⟨by omega, by omega⟩ r0 r1
/-- a draw in a place where c is owned -/
theorem Has.draw {F H H' : Hp} {O O' : Own} {c : Addr} {ns ns' : List Int} (h : Has F O H) (c1 : Chg O c (.lst (ns.map V.int)) (.lst (ns'.map V.int)) O') (hb : But c H H') (e : H' c = some (.lst (ns'.map V.int))) : Has F O' H' := h.but c1 hb e
end

end K29

namespace K29
open PySem PySem.Spec PyProof.Rows L2 Qk
local macro_rules | `(tactic| walk_at "m") => `(tactic| ((repeat (first | exact List.Mem.head _ | apply List.Mem.tail)); done))
local macro_rules | `(tactic| walk_at "h") => `(tactic| first | assumption | exact Has.gF (by assumption) (by assumption) | exact Has.get (by assumption) (by walk_at "m"))
local macro_rules | `(tactic| walk_at "c") => `(tactic| ((repeat (first | exact Chg.hd | apply Chg.tl)); done))
local macro_rules | `(tactic| walk_at "is") => `(tactic| first
  | ((with_reducible refine' is2_non ?gh ?_); (case gh => walk_at "h"))
  | (with_reducible refine is_int_list ?_)
  | (with_reducible refine is_int_tuple ?_)
  | (with_reducible refine is_int_dict ?_)
  | (with_reducible refine is_int_int ?_)
  | (with_reducible refine is_int_bool ?_)
  | (with_reducible refine is_int_str ?_)
  | ((with_reducible refine' is2_int ?gh ?_); (case gh => walk_at "h"))
  | (with_reducible refine is_str_list ?_)
  | (with_reducible refine is_str_tuple ?_)
  | (with_reducible refine is_str_dict ?_)
  | (with_reducible refine is_str_int ?_)
  | (with_reducible refine is_str_bool ?_)
  | (with_reducible refine is_str_str ?_)
  | ((with_reducible refine' is2_str ?gh ?_); (case gh => walk_at "h"))
  | (with_reducible refine is_bool_list ?_)
  | (with_reducible refine is_bool_tuple ?_)
  | (with_reducible refine is_bool_dict ?_)
  | (with_reducible refine is_bool_int ?_)
  | (with_reducible refine is_bool_bool ?_)
  | (with_reducible refine is_bool_str ?_)
  | ((with_reducible refine' is2_bool ?gh ?_); (case gh => walk_at "h"))
  | ((with_reducible refine' is_list_list ?gh ?_); (case gh => walk_at "h"))
  | ((with_reducible refine' is_list_tuple ?gh ?_); (case gh => walk_at "h"))
  | ((with_reducible refine' is_list_dict ?gh ?_); (case gh => walk_at "h"))
  | ((with_reducible refine' is_list_int ?gh ?_); (case gh => walk_at "h"))
  | ((with_reducible refine' is_list_bool ?gh ?_); (case gh => walk_at "h"))
  | ((with_reducible refine' is_list_str ?gh ?_); (case gh => walk_at "h"))
  | ((with_reducible refine' is2_list ?ga ?gb ?_); (case ga => walk_at "h"); (case gb => walk_at "h"))
  | ((with_reducible refine' is_tuple_list ?gh ?_); (case gh => walk_at "h"))
  | ((with_reducible refine' is_tuple_tuple ?gh ?_); (case gh => walk_at "h"))
  | ((with_reducible refine' is_tuple_dict ?gh ?_); (case gh => walk_at "h"))
  | ((with_reducible refine' is_tuple_int ?gh ?_); (case gh => walk_at "h"))
  | ((with_reducible refine' is_tuple_bool ?gh ?_); (case gh => walk_at "h"))
  | ((with_reducible refine' is_tuple_str ?gh ?_); (case gh => walk_at "h"))
  | ((with_reducible refine' is2_tuple ?ga ?gb ?_); (case ga => walk_at "h"); (case gb => walk_at "h"))
  | ((with_reducible refine' is_dict_list ?gh ?_); (case gh => walk_at "h"))
  | ((with_reducible refine' is_dict_tuple ?gh ?_); (case gh => walk_at "h"))
  | ((with_reducible refine' is_dict_dict ?gh ?_); (case gh => walk_at "h"))
  | ((with_reducible refine' is_dict_int ?gh ?_); (case gh => walk_at "h"))
  | ((with_reducible refine' is_dict_bool ?gh ?_); (case gh => walk_at "h"))
  | ((with_reducible refine' is_dict_str ?gh ?_); (case gh => walk_at "h"))
  | ((with_reducible refine' is2_dict ?ga ?gb ?_); (case ga => walk_at "h"); (case gb => walk_at "h")))
local macro_rules | `(tactic| walk_at "g") => `(tactic| first
  | (with_reducible refine g_seq ?_)
  | (with_reducible refine g_asg ?_)
  | ((with_reducible refine g_name ?_); dsimp only [List.set, wipe, List.map])
  | ((with_reducible refine' g_var ?gv ?_); (case gv => exact rfl))
  | (with_reducible refine g_c ?_)
  | (with_reducible refine g_op ?_)
  | (with_reducible refine g_cons ?_)
  | (with_reducible refine g_nil ?_)
  | (with_reducible refine g_cb ?_)
  | (with_reducible refine g_call ?_)
  | (with_reducible refine g_tup ?_)
  | (with_reducible refine g_lst ?_)
  | (with_reducible refine g_bm ?_)
  | (with_reducible refine g_bm0 ?_)
  | ((with_reducible refine' g_kbm ?gh ?_); (case gh => walk_at "h"))
  | (with_reducible refine g_drop ?_)
  | (with_reducible refine g_ret ?_)
  | (with_reducible refine g_retN ?_)
  | (with_reducible refine g_next ?_)
  | (with_reducible refine g_brk ?_)
  | (with_reducible refine g_cont ?_)
  | (with_reducible refine g_if ?_)
  | ((with_reducible refine' g_aug ?gv ?_); (case gv => exact rfl))
  | (with_reducible refine g_ipI ?_)
  | (with_reducible refine g_test ?_)
  | (with_reducible refine g_tB ?_)
  | (with_reducible refine g_kB ?_)
  | (with_reducible refine g_not ?_)
  | (with_reducible refine g_and ?_)
  | (with_reducible refine g_or ?_)
  | (with_reducible refine g_andV ?_)
  | (with_reducible refine g_orV ?_)
  | (with_reducible refine g_notV ?_)
  | (with_reducible refine g_ifE ?_)
  | (with_reducible refine g_addI ?_)
  | (with_reducible refine g_rI0 ?_)
  | (with_reducible refine g_eqI ?_)
  | (with_reducible refine g_eqS ?_)
  | (with_reducible refine g_neI ?_)
  | (with_reducible refine g_neS ?_)
  | (with_reducible refine g_isN ?_)
  | (with_reducible refine g_notN ?_)
  | (with_reducible refine g_int ?_)
  | (with_reducible refine g_max2 ?_)
  | (with_reducible refine g_min2 ?_)
  | ((with_reducible refine' g_lenL ?gh ?_); (case gh => walk_at "h"))
  | (with_reducible refine g_sub ?_)
  | (with_reducible refine g_gcons ?_)
  | (with_reducible refine g_gnil ?_)
  | (with_reducible refine g_un ?_)
  | (with_reducible refine g_rU ?_)
  | (with_reducible refine g_forL ?_)
  | (with_reducible refine g_forS ?_)
  | (with_reducible refine g_forR1 ?_)
  | (with_reducible refine g_forR2 ?_)
  | (with_reducible refine g_forR3 ?_)
  | (with_reducible refine g_lcL ?_)
  | (with_reducible refine g_lcR1 ?_)
  | (with_reducible refine g_lcR2 ?_)
  | (with_reducible refine g_slice ?_)
  | (with_reducible refine g_part ?_)
  | (with_reducible refine g_kOI ?_)
  | (with_reducible refine g_nopart ?_)
  | (with_reducible refine g_yes ?_)
  | ((with_reducible refine' g_wipe ?gv ?_); (case gv => exact rfl))
  | (with_reducible refine iteT ?_)
  | (with_reducible refine iteF ?_)
  | (with_reducible refine i_nf ?_)
  | (with_reducible refine i_nt ?_)
  | ((with_reducible refine' g_gtup ?gh ?gl ?_); (case gh => walk_at "h"); (case gl => exact rfl))
  | ((with_reducible refine' g_notinI ?gh ?_); (case gh => walk_at "h"))
  | ((with_reducible refine' g_inI ?gh ?_); (case gh => walk_at "h"))
  | ((with_reducible refine' g_kget2 ?gh ?_); (case gh => walk_at "h"))
  | ((with_reducible refine' g_kgotI ?gh ?_); (case gh => walk_at "h"))
  | (with_reducible refine g_tRev ?_)
  | (with_reducible refine g_neB ?_)
  | (with_reducible refine g_eqB ?_)
  | ((with_reducible refine' g_lenT ?gh ?_); (case gh => walk_at "h"))
  | (with_reducible refine g_star ?_)
  | ((with_reducible refine' g_kstarL ?gh ?_); (case gh => walk_at "h"))
  | ((with_reducible refine' g_kstarT ?gh ?_); (case gh => walk_at "h"))
  | (with_reducible refine g_tru ?_)
  | ((with_reducible refine' g_truL ?gh ?_); (case gh => walk_at "h"))
  | (with_reducible refine g_get2 ?_)
  | (with_reducible refine g_try ?_)
  | (with_reducible refine g_fld ?_)
  | (with_reducible refine g_sfld ?_)
  | (with_reducible refine g_meth ?_)
  | (with_reducible refine g_make ?_)
  | (with_reducible refine g_del ?_)
  | (with_reducible refine g_callS ?_)
  | (with_reducible refine g_raise ?_)
  | (with_reducible refine g_xf ?_)
  | (with_reducible refine g_m0 ?_)
  | (with_reducible refine g_km0 ?_)
  | walk_at "is")
local macro_rules | `(tactic| walk_at "gg") => `(tactic| repeat walk_at "g")
local macro_rules | `(tactic| walk_at "sz") => `(tactic| (refine sz ?_; simp only [List.length_cons, List.length_nil, List.length_map, List.length_append, List.length_replicate]; omega))
local macro_rules | `(tactic| walk_at "sub") => `(tactic| ((repeat (first | exact List.Sublist.slnil | with_reducible apply List.Sublist.cons_cons | with_reducible apply List.Sublist.cons)); done))

/-! ### names spelt by numbers -/
def signL : List Nat := ("0123456789abcdefghijklmnopqrstuvwxyz" : Str).cps.toList
def sgnN (k : Nat) : Nat := signL.getD k 0
theorem sgn_at : ∀ k : Fin 36, atI ("0123456789abcdefghijklmnopqrstuvwxyz" : Str).cps.toList ((k : Nat) : Int) = some (sgnN k) := by decide +kernel
theorem sgn_inj : ∀ i j : Fin 36, sgnN i = sgnN j → i = j := by decide +kernel
theorem sgn_let : ∀ k : Fin 36, 10 ≤ (k : Nat) → sgnN k ∈ lettersL := by decide +kernel
theorem sgn_ok : ∀ k : Fin 36, sgnN k ∈ lettersL ∨ sgnN k ∈ digitsL := by decide +kernel
/-- the signs behind the first one -/
def spT : Nat → Nat → List Nat
  | 0, _ => []
  | n + 1, r => if 0 < r then sgnN ((r - 1) % 36) :: spT n ((r - 1) / 36) else []
def spB : Nat → Nat
  | 0 => 1
  | n + 1 => 36 * spB n + 1
theorem spT_zero : ∀ n, spT n 0 = []
  | 0 => rfl
  | n + 1 => by unfold spT; rw [if_neg (by omega)]
theorem spT_len : ∀ n r, (spT n r).length ≤ n
  | 0, _ => Nat.le_refl _
  | n + 1, r => by
    unfold spT
    split
    · rw [List.length_cons]
      have := spT_len n ((r - 1) / 36)
      omega
    · exact Nat.zero_le _
theorem spT_ok : ∀ n r, ∀ c ∈ spT n r, c ∈ lettersL ∨ c ∈ digitsL
  | 0, _, c, h => by cases h
  | n + 1, r, c, h => by
    unfold spT at h
    split at h
    · rcases List.mem_cons.mp h with rfl | h
      · exact sgn_ok ⟨(r - 1) % 36, Nat.mod_lt _ (by decide)⟩
      · exact spT_ok n _ c h
    · cases h
theorem spT_inj : ∀ n a b, a < spB n → b < spB n → spT n a = spT n b → a = b
  | 0, a, b, ha, hb, _ => by
    have : spB 0 = 1 := rfl
    omega
  | n + 1, a, b, ha, hb, h => by
    have e : spB (n + 1) = 36 * spB n + 1 := rfl
    rw [e] at ha hb
    unfold spT at h
    split at h
    · next pa =>
      split at h
      · next pb =>
        injection h with h1 h2
        have i1 := spT_inj n _ _ (by omega) (by omega) h2
        have i2 := congrArg Fin.val (sgn_inj ⟨(a - 1) % 36, Nat.mod_lt _ (by decide)⟩ ⟨(b - 1) % 36, Nat.mod_lt _ (by decide)⟩ h1)
        have i2 : (a - 1) % 36 = (b - 1) % 36 := i2
        omega
      · cases h
    · split at h
      · cases h
      · omega
/-- one more turn of the loop -/
theorem spT_step : ∀ (n r : Nat) (i : Nat), i < n → ∃ q, spT n r = spT i r ++ spT (n - i) q ∧ (∀ m, spT (i + m) r = spT i r ++ spT m q)
  | n, r, 0, _ => ⟨r, rfl, fun m => by rw [Nat.zero_add]; rfl⟩
  | 0, _, i + 1, h => absurd h (Nat.not_lt_zero _)
  | n + 1, r, i + 1, h => by
    by_cases c : 0 < r
    · obtain ⟨q, e1, e2⟩ := spT_step n ((r - 1) / 36) i (by omega)
      refine ⟨q, ?_, fun m => ?_⟩
      · rw [show n + 1 - (i + 1) = n - i by omega]
        show (if 0 < r then sgnN ((r - 1) % 36) :: spT n ((r - 1) / 36) else []) = (if 0 < r then sgnN ((r - 1) % 36) :: spT i ((r - 1) / 36) else []) ++ _
        rw [if_pos c, if_pos c, e1]
        rfl
      · rw [show i + 1 + m = (i + m) + 1 by omega]
        show (if 0 < r then sgnN ((r - 1) % 36) :: spT (i + m) ((r - 1) / 36) else []) = (if 0 < r then sgnN ((r - 1) % 36) :: spT i ((r - 1) / 36) else []) ++ _
        rw [if_pos c, if_pos c, e2]
        rfl
    · have : r = 0 := by omega
      subst this
      exact ⟨0, by rw [spT_zero, spT_zero, spT_zero]; rfl, fun m => by rw [spT_zero, spT_zero, spT_zero]; rfl⟩
def spL (code : Nat) : List Nat := sgnN (10 + code % 26) :: spT 5 (code / 26)
theorem spL_inj {a b : Nat} (ha : a < 1617038306) (hb : b < 1617038306) (h : spL a = spL b) : a = b := by
  unfold spL at h
  injection h with h1 h2
  have e : spB 5 = 62193781 := by decide
  have i1 := spT_inj 5 _ _ (by omega) (by omega) h2
  have i2 := congrArg Fin.val (sgn_inj ⟨10 + a % 26, by omega⟩ ⟨10 + b % 26, by omega⟩ h1)
  have i2 : 10 + a % 26 = 10 + b % 26 := i2
  omega
theorem spL_ok {z : Str} {code : Nat} (h : kk z = spL code) : NmOk z := by
  have hl : (kk z).length = z.length := Array.length_toList
  have sl := spT_len 5 (code / 26)
  have fl : sgnN (10 + code % 26) ∈ lettersL := sgn_let ⟨10 + code % 26, by omega⟩ (by show 10 ≤ 10 + code % 26; omega)
  have len : (kk z).length = (spT 5 (code / 26)).length + 1 := by rw [h]; rfl
  refine ⟨by omega, by omega, fun c hc => ?_, fun c hc => ?_⟩
  · rw [← Array.getElem?_toList] at hc
    have hc : (kk z)[0]? = some c := hc
    rw [h] at hc
    have hc : some (sgnN (10 + code % 26)) = some c := hc
    injection hc with hc
    rw [← hc]
    exact fl
  · have hc : c ∈ kk z := hc
    rw [h] at hc
    rcases List.mem_cons.mp hc with rfl | hc
    · exact .inl fl
    · exact spT_ok 5 _ c hc
def menuL : List Str := ["m", "b2", "zz9z9z", "a", "k0", "ab", "q7", "c", "n1", "aa", "z", "b10", "a0"]
theorem menu_ok : ∀ k : Fin 13, (let z := menuL.getD k ""; decide (1 ≤ z.length) && decide (z.length ≤ 6) && decide (z.cps.toList.getD 0 0 ∈ lettersL) && z.cps.toList.all fun c => decide (c ∈ lettersL) || decide (c ∈ digitsL)) = true := by decide +kernel
theorem menu_inj : ∀ i j : Fin 13, menuL.getD i "" = menuL.getD j "" → i = j := by decide +kernel
theorem menu_nm (k : Nat) (hk : k < 13) : NmOk (menuL.getD k "") := by
  have h := menu_ok ⟨k, hk⟩
  simp only [Bool.and_eq_true, decide_eq_true_eq, List.all_eq_true, Bool.or_eq_true] at h
  obtain ⟨⟨⟨l1, l2⟩, hd⟩, all⟩ := h
  refine ⟨l1, l2, fun c hc => ?_, all⟩
  rw [← Array.getElem?_toList] at hc
  rw [List.getD_eq_getElem?_getD, hc] at hd
  exact hd
theorem rank13 : ∀ b : Fin 13, ∀ i j : Fin 13, ∀ s : Fin 13, 0 < (b : Nat) → (s + b * i : Nat) % 13 = (s + b * j : Nat) % 13 → i = j := by decide +kernel
/-- the names of a law -/
structure NmC (names : List Str) : Prop where
  ok : ∀ z ∈ names, NmOk z
  nd : names.Nodup
theorem let_range {c : Nat} (h : c ∈ lettersL ∨ c ∈ digitsL) : c < 1114112 := by
  have e : (lettersL ++ digitsL).all (fun c => decide (c < 1114112)) = true := by decide +kernel
  exact of_decide_eq_true (List.all_eq_true.mp e c (List.mem_append.mpr h))
theorem NmOk.strOk {z : Str} (h : NmOk z) : PyData.strOk z = true := by
  show z.cps.all (· < 0x110000) = true
  rw [← Array.all_toList, List.all_eq_true]
  intro c hc
  exact decide_eq_true (let_range (h.all c hc))
theorem NmC.okL {names : List Str} (h : NmC names) : okL names := fun z hz => (h.ok z hz).strOk
theorem nodup_of_inj {α : Type} {f : Nat → α} {n : Nat} (h : ∀ i j, i < n → j < n → f i = f j → i = j) : ((List.range n).map f).Nodup := by
  refine List.pairwise_map.mpr (List.Pairwise.imp_of_mem (R := fun a b => a ≠ b) ?_ List.nodup_range)
  intro a b ha hb ne e
  exact ne (h a b (List.mem_range.mp ha) (List.mem_range.mp hb) e)
theorem kk_app (a b : Str) : kk (a ++ b) = kk a ++ kk b := Array.toList_append
theorem kk_len (z : Str) : (kk z).length = z.length := Array.length_toList
section
variable {P : Program} {w : World} {K : PySem.W.Frag} {mg : Str → Option Value} {base : Heap}
def sp_l_spelt (T : Txt K mg) : Sp := fun vs H Q _ => ∃ (code : Nat), vs = [.int code] ∧ code < 1617038306 ∧ ∀ z, kk z = spL code → Q (.str z) H
theorem sp_l_spelt_len {T : Txt K mg} {vs H Q E} (h : sp_l_spelt T vs H Q E) : vs.length = 1 := by
  obtain ⟨_, rfl, _⟩ := h
  rfl
theorem g_sign {K : PySem.W.Frag} {i : Int} {k : Nat} {H : Hp} {Q : VK} (e : i = (k : Int)) (h : k < 36) (q : Q (.str ⟨#[sgnN k]⟩) H) : rIxA K (.str "0123456789abcdefghijklmnopqrstuvwxyz") (.int i) H Q := by
  subst e
  exact g_ixS (sz (by decide +kernel)) (sgn_at ⟨k, h⟩) q
theorem ok_l_spelt (T : Txt K mg) : FnOk P w K mg base CX0 1 T.f_l_spelt T.fd_l_spelt ["code"] (sp_l_spelt T) := by
  refine T.F_l_spelt.ok sc_l_spelt (fun vs H Q E h => sp_l_spelt_len h) (fun cdv A outer s H vs Q E hr h => ?_)
  refine ⟨_, (pss_cons (ps_set (i := 1) sc_l_spelt.nd rfl (.inl rfl) pe_str)
      (pss_cons (ps_set (i := 2) sc_l_spelt.nd rfl (.inl rfl) (pe_ix (ix_K K (hu_of hr)) (pv 1) (pe_op (op_addK K) pe_int (pe_op op_mod (pe_callTy cr_int1 (by rfl) T.m_int (by decide +kernel) (pa_cons (pv 0) pa_nil)) pe_int)) (fun _ _ => rfl)))
      (pss_cons (ps_set (i := 3) sc_l_spelt.nd rfl (.inl rfl) (pe_op op_fdivW (pv 0) pe_int))
      (pss_cons (ps_for PassesOwn.never rfl (pi_range1 rfl T.m_range (pa_cons pe_int pa_nil)) (pg_name (i := 4) sc_l_spelt.nd rfl (.inl rfl)) (pss_one (ps_if (pt_cmpR op_gt (pv 3) pe_int (nomark _)) (pss_cons (ps_set (i := 2) sc_l_spelt.nd rfl (.inl rfl) (pe_op (op_addK K) (pv 2) (pe_ix (ix_K K (hu_of hr)) (pv 1) (pe_op op_mod (pe_callTy cr_int1 (by rfl) T.m_int (by decide +kernel) (pa_cons (pe_op op_sub (pv 3) pe_int) pa_nil)) pe_int) (fun _ _ => rfl))))
      (pss_one (ps_set (i := 3) sc_l_spelt.nd rfl (.inl rfl) (pe_op op_fdivW (pe_op op_sub (pv 3) pe_int) pe_int)))) pss_nil)))
      (pss_one (ps_ret (pv 2))))))), ?_⟩
  obtain ⟨code, rfl, hc, q⟩ := h
  refine g_start (σ' := [some (.int code), none, none, none, none]) rfl ?_
  walk_at "gg"
  refine g_rI (by show (0 : Int) < 26; decide) ?_
  walk_at "gg"
  refine g_sign (k := 10 + code % 26) (by push_cast; rfl) (by omega) ?_
  walk_at "gg"
  refine g_rI (cdivw (by decide) (by decide) _) ?_
  walk_at "gg"
  have e26 : (code : Int) / 26 = ((code / 26 : Nat) : Int) := by push_cast; rfl
  rw [e26]
  refine k_forR1 (fun t σ H' => ∃ (z : Str) (r : Nat) (y4 : Option V), σ = [some (.int (code : Nat)), some (.str "0123456789abcdefghijklmnopqrstuvwxyz"), some (.str z), some (.int (r : Nat)), y4] ∧ H' = H ∧ kk z = sgnN (10 + code % 26) :: spT t (code / 26) ∧ ∀ m, spT (t + m) (code / 26) = spT t (code / 26) ++ spT m r)
    (by decide) (by decide) ⟨⟨#[sgnN (10 + code % 26)]⟩, code / 26, _, rfl, rfl, rfl, fun m => by rw [Nat.zero_add]; rfl⟩ ?_ ?_
  · rintro t σ H' ht ⟨z, r, y4, rfl, rfl, ez, er⟩
    have ht : t < 5 := by simpa using ht
    have lz : z.length ≤ 6 := by
      rw [← kk_len, ez, List.length_cons]
      have := spT_len t (code / 26)
      omega
    walk_at "gg"
    refine i_d (fun c => ?_) (fun c => ?_)
    · have c : 0 < r := by omega
      have s1 := er 1
      have e1 : spT 1 r = [sgnN ((r - 1) % 36)] := by
        show (if 0 < r then sgnN ((r - 1) % 36) :: spT 0 ((r - 1) / 36) else []) = _
        rw [if_pos c]
        rfl
      have eI : (r : Int) - 1 = ((r - 1 : Nat) : Int) := by omega
      walk_at "gg"
      rw [eI]
      refine g_rI (by show (0 : Int) < 36; decide) ?_
      walk_at "gg"
      refine g_sign (k := (r - 1) % 36) (by push_cast; rfl) (Nat.mod_lt _ (by decide)) ?_
      refine g_addS (sz (by show z.length + 1 ≤ 100000; omega)) ?_
      walk_at "gg"
      rw [eI]
      refine g_rI (cdivw (by decide) (by decide) _) ?_
      walk_at "gg"
      refine ⟨_, (r - 1) / 36, _, by push_cast; rfl, rfl, ?_, fun m => ?_⟩
      · rw [kk_app, ez, s1, e1]
        rfl
      · have := er (1 + m)
        rw [← Nat.add_assoc] at this
        rw [this, s1, e1, List.append_assoc]
        congr 1
        show spT (1 + m) r = [sgnN ((r - 1) % 36)] ++ _
        rw [Nat.add_comm]
        show (if 0 < r then sgnN ((r - 1) % 36) :: spT m ((r - 1) / 36) else []) = _
        rw [if_pos c]
        rfl
    · have c : r = 0 := by omega
      subst c
      walk_at "gg"
      have s1 := er 1
      rw [spT_zero, List.append_nil] at s1
      refine ⟨z, 0, _, rfl, rfl, by rw [ez, s1], fun m => ?_⟩
      have := er (1 + m)
      rw [← Nat.add_assoc] at this
      rw [this, s1, spT_zero, spT_zero]
  · rintro σ H' ⟨z, r, y4, rfl, rfl, ez, er⟩
    walk_at "gg"
    exact q z (by rw [ez]; rfl)
def sp_l_draw_names (T : Txt K mg) : Sp := fun vs H Q _ => ∃ (c : Addr) (ns : List Int) (n : Nat), vs = [.ref c, .int n] ∧ H c = some (.lst (ns.map V.int)) ∧ FeedOk ns ∧ n ≤ 13 ∧
  ∀ l H' (ns' : List Int) (names : List Str), H l = none → But c H H' → H' c = some (.lst (ns'.map V.int)) → FeedOk ns' → H' l = some (.lst (names.map V.str)) → names.length = n → NmC names → Q (.ref l) H'
theorem sp_l_draw_names_len {T : Txt K mg} {vs H Q E} (h : sp_l_draw_names T vs H Q E) : vs.length = 2 := by
  obtain ⟨_, _, _, rfl, _⟩ := h
  rfl
theorem menu_at {k : Nat} (h : k < 13) : atI (menuL.map V.str) (k : Int) = some (.str (menuL.getD k "")) := by
  refine atI_nat ?_
  rw [List.getElem?_map, List.getD_eq_getElem?_getD]
  have : k < menuL.length := h
  rw [List.getElem?_eq_getElem this]
  rfl
set_option maxHeartbeats 1000000 in
theorem ok_l_draw_names (T : Txt K mg) : FnOk P w K mg base CX0 2 T.f_l_draw_names T.fd_l_draw_names ["feed", "many"] (sp_l_draw_names T) := by
  refine T.F_l_draw_names.ok sc_l_draw_names (fun vs H Q E h => sp_l_draw_names_len h) (fun cdv A outer s H vs Q E hr h => ?_)
  refine ⟨_, (pss_cons (ps_if (pt_cmpR (op_eqK K hr.units) (pe_call (ok_l_next T) (hr.mono (by decide)) (by rfl) T.g_l_next T.F_l_next.kp T.b_l_next .nil pass0 (pa_cons (pv 0) (pa_cons pe_int pa_nil))) pe_int (nomark _)) (pss_cons (ps_set (i := 2) sc_l_draw_names.nd rfl (.inr rfl) (pe_call (ok_l_next T) (hr.mono (by decide)) (by rfl) T.g_l_next T.F_l_next.kp T.b_l_next .nil pass0 (pa_cons (pv 0) (pa_cons pe_int pa_nil))))
      (pss_cons (ps_set (i := 3) sc_l_draw_names.nd rfl (.inr rfl) (pe_op (op_addK K) pe_int (pe_call (ok_l_next T) (hr.mono (by decide)) (by rfl) T.g_l_next T.F_l_next.kp T.b_l_next .nil pass0 (pa_cons (pv 0) (pa_cons pe_int pa_nil)))))
      (pss_cons (ps_set (i := 4) sc_l_draw_names.nd rfl (.inr rfl) (pe_lst (pa_cons pe_str (pa_cons pe_str (pa_cons pe_str (pa_cons pe_str (pa_cons pe_str (pa_cons pe_str (pa_cons pe_str (pa_cons pe_str (pa_cons pe_str (pa_cons pe_str (pa_cons pe_str (pa_cons pe_str (pa_cons pe_str pa_nil)))))))))))))))
      (pss_one (ps_ret (pe_lc (own := [("k", 5)]) (g := gName 5) (tt := tYes) rfl sc_l_draw_names.nd (pi_range1 rfl T.m_range (pa_cons (pv 1) pa_nil)) (blkOk_by (N := n_l_draw_names) (sc := defScope s_l_draw_names) (by decide +kernel)) (fun _ _ _ _ _ => (pg_name (i := 5) sc_l_draw_names.nd rfl (.inl rfl))) (fun _ _ _ _ _ => pts_nil) (fun _ _ _ _ _ => (pe_ix (ix_K K (hu_of hr)) (pv 4) (pe_op op_mod (pe_callTy cr_int1 (by rfl) T.m_int (by decide +kernel) (pa_cons (pe_op (op_addK K) (pv 2) (pe_op op_mulA (pv 3) (pv 5))) pa_nil)) pe_int) (fun _ _ => rfl))))))))) pss_nil)
      (pss_cons (ps_set (i := 2) sc_l_draw_names.nd rfl (.inr rfl) (pe_call (ok_l_next T) (hr.mono (by decide)) (by rfl) T.g_l_next T.F_l_next.kp T.b_l_next .nil pass0 (pa_cons (pv 0) (pa_cons pe_int pa_nil))))
      (pss_cons (ps_set (i := 3) sc_l_draw_names.nd rfl (.inr rfl) (pe_op op_mulA (pe_op (op_addK K) pe_int (pe_call (ok_l_next T) (hr.mono (by decide)) (by rfl) T.g_l_next T.F_l_next.kp T.b_l_next .nil pass0 (pa_cons (pv 0) (pa_cons pe_int pa_nil)))) (pe_ix (ix_K K (hu_of hr)) (pe_lst (pa_cons pe_int (pa_cons pe_int (pa_cons pe_int (pa_cons pe_int pa_nil))))) (pe_call (ok_l_next T) (hr.mono (by decide)) (by rfl) T.g_l_next T.F_l_next.kp T.b_l_next .nil pass0 (pa_cons (pv 0) (pa_cons pe_int pa_nil))) (fun _ _ => rfl))))
      (pss_one (ps_ret (pe_lc (own := [("k", 5)]) (g := gName 5) (tt := tYes) rfl sc_l_draw_names.nd (pi_range1 rfl T.m_range (pa_cons (pv 1) pa_nil)) (blkOk_by (N := n_l_draw_names) (sc := defScope s_l_draw_names) (by decide +kernel)) (fun _ _ _ _ _ => (pg_name (i := 5) sc_l_draw_names.nd rfl (.inl rfl))) (fun _ _ _ _ _ => pts_nil) (fun _ _ _ _ _ => (pe_call (ok_l_spelt T) (hr.mono (by decide)) (by rfl) T.g_l_spelt T.F_l_spelt.kp T.b_l_spelt .nil pass0 (pa_cons (pe_op op_mod (pe_callTy cr_int1 (by rfl) T.m_int (by decide +kernel) (pa_cons (pe_op (op_addK K) (pv 2) (pe_op op_mulA (pv 3) (pv 5))) pa_nil)) pe_int) pa_nil))))))))), ?_⟩
  obtain ⟨c, ns, n, rfl, hc, ok, hn, q⟩ := h
  have hH := Has.arg hc
  refine g_start (σ' := [some (.ref c), some (.int n), none, none, none, none]) rfl ?_
  walk_at "gg"
  refine ⟨c, ns, 2, rfl, by walk_at "h", ok, by decide, by decide, fun H1 ns1 kd hb e ok1 kd0 kd1 => ?_⟩
  have h1 := hH.but .hd hb e
  walk_at "gg"
  refine i_d (fun _ => ?_) (fun _ => ?_)
  · walk_at "gg"
    refine ⟨c, ns1, 13, rfl, by walk_at "h", ok1, by decide, by decide, fun H2 ns2 st hb e ok2 st0 st1 => ?_⟩
    have h2 := h1.but .hd hb e
    walk_at "gg"
    refine ⟨c, ns2, 12, rfl, by walk_at "h", ok2, by decide, by decide, fun H3 ns3 by_ hb e ok3 by0 by1 => ?_⟩
    have h3 := h2.but .hd hb e
    obtain ⟨st, rfl⟩ := Int.eq_ofNat_of_zero_le st0
    obtain ⟨by_, rfl⟩ := Int.eq_ofNat_of_zero_le by0
    walk_at "gg"
    refine g_klst (by walk_at "sz") h3 (fun mu H4 n4 h4 => ?_)
    have e4 : [V.str "m", V.str "b2", V.str "zz9z9z", V.str "a", V.str "k0", V.str "ab", V.str "q7", V.str "c", V.str "n1", V.str "aa", V.str "z", V.str "b10", V.str "a0"] = menuL.map V.str := rfl
    rw [e4] at h4
    walk_at "gg"
    refine k_lcR1 (by omega) (by omega) h4 (fun i acc F' O' => acc = ((List.range i).map fun k => menuL.getD ((st + (1 + by_) * k) % 13) "").map V.str ∧ F' = rm H c ∧ O' = [(mu, .lst (menuL.map V.str)), (c, .lst (ns3.map V.int))]) ⟨rfl, rfl, rfl⟩ ?_ ?_
    · rintro i acc F' O' D H5 hi ⟨rfl, rfl, rfl⟩ hh
      walk_at "gg"
      refine g_mulI (.inl ⟨by omega, by omega⟩) ?_
      walk_at "gg"
      refine g_rI (by show (0 : Int) < 13; decide) ?_
      have er : ((st : Int) + (1 + (by_ : Int)) * (i : Int)) % 13 = (((st + (1 + by_) * i) % 13 : Nat) : Int) := by push_cast; rfl
      walk_at "gg"
      rw [er]
      refine g_ixL (hh.get (by walk_at "m")) (menu_at (Nat.mod_lt _ (by decide))) ?_
      refine k_turn hh (by rw [List.length_map, List.length_map, List.length_range]; omega) ⟨?_, rfl, rfl⟩
      rw [List.range_succ, List.map_append, List.map_append]
      rfl
    rintro acc F' O' p H5 ⟨rfl, rfl, rfl⟩ h5
    have np : H p = none := h5.argFree (by simp)
    have e5 : (n : Int).toNat = n := by omega
    rw [e5] at h5
    refine q p H5 ns3 _ np (But.of h5.same) (h5.get (by walk_at "m")) ok3 (h5.get (List.Mem.head _)) (by rw [List.length_map, List.length_range]) ⟨fun z hz => ?_, nodup_of_inj fun i j hi hj e => ?_⟩
    · obtain ⟨k, _, rfl⟩ := List.mem_map.mp hz
      exact menu_nm _ (Nat.mod_lt _ (by decide))
    · have i1 := congrArg Fin.val (menu_inj ⟨(st + (1 + by_) * i) % 13, Nat.mod_lt _ (by decide)⟩ ⟨(st + (1 + by_) * j) % 13, Nat.mod_lt _ (by decide)⟩ e)
      exact congrArg Fin.val (rank13 ⟨1 + by_, by omega⟩ ⟨i, by omega⟩ ⟨j, by omega⟩ ⟨st, by omega⟩ (by show 0 < 1 + by_; omega) i1)
  · walk_at "gg"
    refine ⟨c, ns1, 1617038306, rfl, by walk_at "h", ok1, by decide, by decide, fun H2 ns2 st hb e ok2 st0 st1 => ?_⟩
    have h2 := h1.but .hd hb e
    walk_at "gg"
    refine ⟨c, ns2, 3000, rfl, by walk_at "h", ok2, by decide, by decide, fun H3 ns3 by_ hb e ok3 by0 by1 => ?_⟩
    have h3 := h2.but .hd hb e
    walk_at "gg"
    refine g_klst (by walk_at "sz") h3 (fun p3 H4 n4 h4 => ?_)
    walk_at "gg"
    refine ⟨c, ns3, 4, rfl, by walk_at "h", ok3, by decide, by decide, fun H5 ns5 r hb e ok5 r0 r1 => ?_⟩
    have h5 := h4.but (.tl .hd) hb e
    refine g_ixI (xs := [26, 1, 936, 33696]) (h5.get (List.Mem.head _)) r0 (by exact r1) (fun m hm => ?_)
    have hm' : 1 ≤ m ∧ m ≤ 33696 := by
      have := List.mem_of_getElem? hm
      simp only [List.mem_cons, List.not_mem_nil, or_false] at this
      omega
    have h5 := h5.drop
    obtain ⟨st, rfl⟩ := Int.eq_ofNat_of_zero_le st0
    obtain ⟨by_, rfl⟩ := Int.eq_ofNat_of_zero_le by0
    obtain ⟨m, rfl⟩ := Int.eq_ofNat_of_zero_le (show 0 ≤ m by omega)
    refine g_mulI (.inl ⟨by omega, by omega⟩) ?_
    have eb : (1 + (by_ : Int)) * (m : Int) = (((1 + by_) * m : Nat) : Int) := by push_cast; rfl
    have b1 : 1 ≤ (1 + by_) * m := Nat.mul_pos (by omega) (by omega)
    have b2 : (1 + by_) * m ≤ 3000 * 33696 := Nat.mul_le_mul (by omega) (by omega)
    rw [eb]
    generalize (1 + by_) * m = b at b1 b2
    walk_at "gg"
    refine k_lcR1 (by omega) (by omega) h5 (fun i acc F' O' => ∃ xs : List Str, acc = xs.map V.str ∧ xs.map kk = (List.range i).map (fun k => spL ((st + b * k) % 1617038306)) ∧ F' = rm H c ∧ O' = [(c, .lst (ns5.map V.int))]) ⟨[], rfl, rfl, rfl, rfl⟩ ?_ ?_
    · rintro i acc F' O' D H6 hi ⟨xs, rfl, ex, rfl, rfl⟩ hh
      have lx : xs.length = i := by
        have := congrArg List.length ex
        rw [List.length_map, List.length_map, List.length_range] at this
        exact this
      walk_at "gg"
      refine g_mulI (.inl ⟨by omega, by omega⟩) ?_
      walk_at "gg"
      refine g_rI (by show (0 : Int) < 1617038306; decide) ?_
      have er : ((st : Int) + (b : Int) * (i : Int)) % 1617038306 = (((st + b * i) % 1617038306 : Nat) : Int) := by
        have eN : (b : Int) * (i : Int) = ((b * i : Nat) : Int) := (Int.natCast_mul b i).symm
        rw [eN]
        generalize b * i = y
        omega
      walk_at "gg"
      rw [er]
      refine ⟨(st + b * i) % 1617038306, rfl, Nat.mod_lt _ (by decide), fun z ez => ?_⟩
      refine k_turn hh (by rw [List.length_map]; omega) ⟨xs ++ [z], by rw [List.map_append]; rfl, ?_, rfl, rfl⟩
      rw [List.map_append, ex, List.range_succ, List.map_append]
      show _ ++ [kk z] = _
      rw [ez]
      rfl
    rintro acc F' O' p H6 ⟨xs, rfl, ex, rfl, rfl⟩ h6
    have np : H p = none := h6.argFree (by simp)
    have e5 : (n : Int).toNat = n := by omega
    rw [e5] at ex
    have lx : xs.length = n := by
      have := congrArg List.length ex
      rw [List.length_map, List.length_map, List.length_range] at this
      exact this
    refine q p H6 ns5 xs np (But.of h6.same) (h6.get (by walk_at "m")) ok5 (h6.get (List.Mem.head _)) lx ⟨fun z hz => ?_, ?_⟩
    · have m : kk z ∈ xs.map kk := List.mem_map.mpr ⟨z, hz, rfl⟩
      rw [ex] at m
      obtain ⟨k, _, e⟩ := List.mem_map.mp m
      exact spL_ok e.symm
    · have nd : (xs.map kk).Nodup := by
        rw [ex]
        refine nodup_of_inj fun i j hi hj e => ?_
        have e := spL_inj (Nat.mod_lt _ (by decide)) (Nat.mod_lt _ (by decide)) e
        have key : ∀ i d : Nat, 0 < d → d ≤ 12 → (st + b * i) % 1617038306 ≠ (st + b * (i + d)) % 1617038306 := fun i d d0 d1 h => by
          rw [Nat.mul_add] at h
          have h1 : 1 ≤ b * d := Nat.mul_pos (by omega) d0
          have h2 : b * d ≤ (3000 * 33696) * 12 := Nat.mul_le_mul b2 d1
          generalize b * d = x at h h1 h2
          generalize b * i = y at h
          omega
        rcases Nat.lt_trichotomy i j with h | h | h
        · exact (key i (j - i) (by omega) (by omega) (by rw [show i + (j - i) = j by omega]; exact e)).elim
        · exact h
        · exact (key j (i - j) (by omega) (by omega) (by rw [show j + (i - j) = i by omega]; exact e.symm)).elim
      exact List.Pairwise.of_map kk (fun a b h e => h (by rw [e])) nd
end

end K29

namespace K29
open PySem PySem.Spec PyProof.Rows L2 Qk
local macro_rules | `(tactic| walk_at "m") => `(tactic| ((repeat (first | exact List.Mem.head _ | apply List.Mem.tail)); done))
local macro_rules | `(tactic| walk_at "h") => `(tactic| first | assumption | exact Has.gF (by assumption) (by assumption) | exact Has.get (by assumption) (by walk_at "m"))
local macro_rules | `(tactic| walk_at "c") => `(tactic| ((repeat (first | exact Chg.hd | apply Chg.tl)); done))
local macro_rules | `(tactic| walk_at "is") => `(tactic| first
  | ((with_reducible refine' is2_non ?gh ?_); (case gh => walk_at "h"))
  | (with_reducible refine is_int_list ?_)
  | (with_reducible refine is_int_tuple ?_)
  | (with_reducible refine is_int_dict ?_)
  | (with_reducible refine is_int_int ?_)
  | (with_reducible refine is_int_bool ?_)
  | (with_reducible refine is_int_str ?_)
  | ((with_reducible refine' is2_int ?gh ?_); (case gh => walk_at "h"))
  | (with_reducible refine is_str_list ?_)
  | (with_reducible refine is_str_tuple ?_)
  | (with_reducible refine is_str_dict ?_)
  | (with_reducible refine is_str_int ?_)
  | (with_reducible refine is_str_bool ?_)
  | (with_reducible refine is_str_str ?_)
  | ((with_reducible refine' is2_str ?gh ?_); (case gh => walk_at "h"))
  | (with_reducible refine is_bool_list ?_)
  | (with_reducible refine is_bool_tuple ?_)
  | (with_reducible refine is_bool_dict ?_)
  | (with_reducible refine is_bool_int ?_)
  | (with_reducible refine is_bool_bool ?_)
  | (with_reducible refine is_bool_str ?_)
  | ((with_reducible refine' is2_bool ?gh ?_); (case gh => walk_at "h"))
  | ((with_reducible refine' is_list_list ?gh ?_); (case gh => walk_at "h"))
  | ((with_reducible refine' is_list_tuple ?gh ?_); (case gh => walk_at "h"))
  | ((with_reducible refine' is_list_dict ?gh ?_); (case gh => walk_at "h"))
  | ((with_reducible refine' is_list_int ?gh ?_); (case gh => walk_at "h"))
  | ((with_reducible refine' is_list_bool ?gh ?_); (case gh => walk_at "h"))
  | ((with_reducible refine' is_list_str ?gh ?_); (case gh => walk_at "h"))
  | ((with_reducible refine' is2_list ?ga ?gb ?_); (case ga => walk_at "h"); (case gb => walk_at "h"))
  | ((with_reducible refine' is_tuple_list ?gh ?_); (case gh => walk_at "h"))
  | ((with_reducible refine' is_tuple_tuple ?gh ?_); (case gh => walk_at "h"))
  | ((with_reducible refine' is_tuple_dict ?gh ?_); (case gh => walk_at "h"))
  | ((with_reducible refine' is_tuple_int ?gh ?_); (case gh => walk_at "h"))
  | ((with_reducible refine' is_tuple_bool ?gh ?_); (case gh => walk_at "h"))
  | ((with_reducible refine' is_tuple_str ?gh ?_); (case gh => walk_at "h"))
  | ((with_reducible refine' is2_tuple ?ga ?gb ?_); (case ga => walk_at "h"); (case gb => walk_at "h"))
  | ((with_reducible refine' is_dict_list ?gh ?_); (case gh => walk_at "h"))
  | ((with_reducible refine' is_dict_tuple ?gh ?_); (case gh => walk_at "h"))
  | ((with_reducible refine' is_dict_dict ?gh ?_); (case gh => walk_at "h"))
  | ((with_reducible refine' is_dict_int ?gh ?_); (case gh => walk_at "h"))
  | ((with_reducible refine' is_dict_bool ?gh ?_); (case gh => walk_at "h"))
  | ((with_reducible refine' is_dict_str ?gh ?_); (case gh => walk_at "h"))
  | ((with_reducible refine' is2_dict ?ga ?gb ?_); (case ga => walk_at "h"); (case gb => walk_at "h")))
local macro_rules | `(tactic| walk_at "g") => `(tactic| first
  | (with_reducible refine g_seq ?_)
  | (with_reducible refine g_asg ?_)
  | ((with_reducible refine g_name ?_); dsimp only [List.set, wipe, List.map])
  | ((with_reducible refine' g_var ?gv ?_); (case gv => exact rfl))
  | (with_reducible refine g_c ?_)
  | (with_reducible refine g_op ?_)
  | (with_reducible refine g_cons ?_)
  | (with_reducible refine g_nil ?_)
  | (with_reducible refine g_cb ?_)
  | (with_reducible refine g_call ?_)
  | (with_reducible refine g_tup ?_)
  | (with_reducible refine g_lst ?_)
  | (with_reducible refine g_bm ?_)
  | (with_reducible refine g_bm0 ?_)
  | ((with_reducible refine' g_kbm ?gh ?_); (case gh => walk_at "h"))
  | (with_reducible refine g_drop ?_)
  | (with_reducible refine g_ret ?_)
  | (with_reducible refine g_retN ?_)
  | (with_reducible refine g_next ?_)
  | (with_reducible refine g_brk ?_)
  | (with_reducible refine g_cont ?_)
  | (with_reducible refine g_if ?_)
  | ((with_reducible refine' g_aug ?gv ?_); (case gv => exact rfl))
  | (with_reducible refine g_ipI ?_)
  | (with_reducible refine g_test ?_)
  | (with_reducible refine g_tB ?_)
  | (with_reducible refine g_kB ?_)
  | (with_reducible refine g_not ?_)
  | (with_reducible refine g_and ?_)
  | (with_reducible refine g_or ?_)
  | (with_reducible refine g_andV ?_)
  | (with_reducible refine g_orV ?_)
  | (with_reducible refine g_notV ?_)
  | (with_reducible refine g_ifE ?_)
  | (with_reducible refine g_addI ?_)
  | (with_reducible refine g_rI0 ?_)
  | (with_reducible refine g_eqI ?_)
  | (with_reducible refine g_eqS ?_)
  | (with_reducible refine g_neI ?_)
  | (with_reducible refine g_neS ?_)
  | (with_reducible refine g_isN ?_)
  | (with_reducible refine g_notN ?_)
  | (with_reducible refine g_int ?_)
  | (with_reducible refine g_max2 ?_)
  | (with_reducible refine g_min2 ?_)
  | ((with_reducible refine' g_lenL ?gh ?_); (case gh => walk_at "h"))
  | (with_reducible refine g_sub ?_)
  | (with_reducible refine g_gcons ?_)
  | (with_reducible refine g_gnil ?_)
  | (with_reducible refine g_un ?_)
  | (with_reducible refine g_rU ?_)
  | (with_reducible refine g_forL ?_)
  | (with_reducible refine g_forS ?_)
  | (with_reducible refine g_forR1 ?_)
  | (with_reducible refine g_forR2 ?_)
  | (with_reducible refine g_forR3 ?_)
  | (with_reducible refine g_lcL ?_)
  | (with_reducible refine g_lcR1 ?_)
  | (with_reducible refine g_lcR2 ?_)
  | (with_reducible refine g_slice ?_)
  | (with_reducible refine g_part ?_)
  | (with_reducible refine g_kOI ?_)
  | (with_reducible refine g_nopart ?_)
  | (with_reducible refine g_yes ?_)
  | ((with_reducible refine' g_wipe ?gv ?_); (case gv => exact rfl))
  | (with_reducible refine iteT ?_)
  | (with_reducible refine iteF ?_)
  | (with_reducible refine i_nf ?_)
  | (with_reducible refine i_nt ?_)
  | ((with_reducible refine' g_gtup ?gh ?gl ?_); (case gh => walk_at "h"); (case gl => exact rfl))
  | ((with_reducible refine' g_notinI ?gh ?_); (case gh => walk_at "h"))
  | ((with_reducible refine' g_inI ?gh ?_); (case gh => walk_at "h"))
  | ((with_reducible refine' g_kget2 ?gh ?_); (case gh => walk_at "h"))
  | ((with_reducible refine' g_kgotI ?gh ?_); (case gh => walk_at "h"))
  | (with_reducible refine g_tRev ?_)
  | (with_reducible refine g_neB ?_)
  | (with_reducible refine g_eqB ?_)
  | ((with_reducible refine' g_lenT ?gh ?_); (case gh => walk_at "h"))
  | (with_reducible refine g_star ?_)
  | ((with_reducible refine' g_kstarL ?gh ?_); (case gh => walk_at "h"))
  | ((with_reducible refine' g_kstarT ?gh ?_); (case gh => walk_at "h"))
  | (with_reducible refine g_tru ?_)
  | ((with_reducible refine' g_truL ?gh ?_); (case gh => walk_at "h"))
  | (with_reducible refine g_get2 ?_)
  | (with_reducible refine g_try ?_)
  | (with_reducible refine g_fld ?_)
  | (with_reducible refine g_sfld ?_)
  | (with_reducible refine g_meth ?_)
  | (with_reducible refine g_make ?_)
  | (with_reducible refine g_del ?_)
  | (with_reducible refine g_callS ?_)
  | (with_reducible refine g_raise ?_)
  | (with_reducible refine g_xf ?_)
  | (with_reducible refine g_m0 ?_)
  | (with_reducible refine g_km0 ?_)
  | walk_at "is")
local macro_rules | `(tactic| walk_at "gg") => `(tactic| repeat walk_at "g")
local macro_rules | `(tactic| walk_at "sz") => `(tactic| (refine sz ?_; simp only [List.length_cons, List.length_nil, List.length_map, List.length_append, List.length_replicate]; omega))
local macro_rules | `(tactic| walk_at "sub") => `(tactic| ((repeat (first | exact List.Sublist.slnil | with_reducible apply List.Sublist.cons_cons | with_reducible apply List.Sublist.cons)); done))

section
variable {P : Program} {w : World} {K : PySem.W.Frag} {mg : Str → Option Value} {base : Heap}
/-- where the rounds stand -/
structure Rnd (rows : List URow) (xs ms fr : List Str) : Prop where
  am : Asc ms
  af : Asc fr
  sub : ∀ z ∈ xs, z ∈ ms
  clm : ∀ z ∈ ms, Cl (MB (Un rows)) (fun z => z ∈ xs) z
  clf : ∀ z ∈ fr, Cl (MB (Un rows)) (fun z => z ∈ xs) z
  dis : ∀ z ∈ fr, z ∉ ms
  cov : ∀ a b z, a ∈ ms → b ∈ ms → MB (Un rows) a b z → z ∈ ms ∨ z ∈ fr
theorem Rnd.first {rows : List URow} {xs ms fr : List Str} (rf : Rfl rows) (kx : ∀ z ∈ xs, kn rows z = true) (am : Asc ms) (af : Asc fr) (hm : ∀ z, z ∈ ms ↔ z ∈ xs) (hfr : ∀ z, z ∈ fr ↔ ∃ i, i < ms.length ∧ NB (MB (Un rows)) ms ms i z) : Rnd rows xs ms fr := by
  refine ⟨am, af, fun z h => (hm z).mpr h, fun z h => .base ((hm z).mp h), fun z h => ?_, fun z h => ?_, fun a b z ha hb mb => ?_⟩
  · obtain ⟨i, _, x, j, y, ex, _, ey, _, mb, _⟩ := (hfr z).mp h
    exact .step (.base ((hm x).mp (List.mem_of_getElem? ex))) (.base ((hm y).mp (List.mem_of_getElem? ey))) mb
  · obtain ⟨i, _, x, j, y, _, _, _, _, _, no⟩ := (hfr z).mp h
    exact no
  · exact nb_cover hfr (fun _ _ _ m => m.symm) (fun a z ha m => m.self (rf.un (kx a ((hm a).mp ha)))) ha hb (.inl ha) mb
theorem Rnd.next {rows : List URow} {xs ms fr ms' fr' : List Str} (R : Rnd rows xs ms fr) (rf : Rfl rows) (kx : ∀ z ∈ ms', kn rows z = true) (am : Asc ms') (af : Asc fr') (hm : ∀ z, z ∈ ms' ↔ z ∈ ms ∨ z ∈ fr) (hfr : ∀ z, z ∈ fr' ↔ ∃ i, i < ms'.length ∧ NB (MB (Un rows)) ms' fr i z) : Rnd rows xs ms' fr' := by
  have cl : ∀ z ∈ ms', Cl (MB (Un rows)) (fun z => z ∈ xs) z := fun z h => ((hm z).mp h).elim (R.clm z) (R.clf z)
  refine ⟨am, af, fun z h => (hm z).mpr (.inl (R.sub z h)), cl, fun z h => ?_, fun z h => ?_, fun a b z ha hb mb => ?_⟩
  · obtain ⟨i, _, x, j, y, ex, _, ey, _, mb, _⟩ := (hfr z).mp h
    exact .step (cl x (List.mem_of_getElem? ex)) (cl y (List.mem_of_getElem? ey)) mb
  · obtain ⟨i, _, x, j, y, _, _, _, _, _, no⟩ := (hfr z).mp h
    exact no
  · by_cases h : a ∈ fr ∨ b ∈ fr
    · exact nb_cover hfr (fun _ _ _ m => m.symm) (fun a z ha m => m.self (rf.un (kx a ha))) ha hb h mb
    · have h1 : a ∈ ms := ((hm a).mp ha).elim id fun e => (h (.inl e)).elim
      have h2 : b ∈ ms := ((hm b).mp hb).elim id fun e => (h (.inr e)).elim
      exact .inl ((hm z).mpr (R.cov a b z h1 h2 mb))
theorem Rnd.last {rows : List URow} {xs ms : List Str} (R : Rnd rows xs ms []) (z : Str) : z ∈ ms ↔ Cl (MB (Un rows)) (fun z => z ∈ xs) z :=
  ⟨R.clm z, fun c => c.least (C := fun z => z ∈ ms) R.sub fun a b z ha hb mb => (R.cov a b z ha hb mb).elim id fun h => by cases h⟩
def sp_closure (T : Txt K mg) : Sp := fun vs H Q E => ∃ (a l : Addr) (rows : List URow) (xs : List Str), vs = [.ref a, .ref l] ∧ Ord T H a rows ∧ H l = some (.lst (xs.map V.str)) ∧ xs.length ≤ 200 ∧ Rfl rows ∧
  (chkE (kn rows) [] xs = none → ∀ p H' us, Same H H' → H p = none → H' p = some (.lst (us.map V.str)) → Asc us → (∀ z, z ∈ us ↔ Cl (MB (Un rows)) (fun z => z ∈ xs) z) → Q (.ref p) H') ∧
  (∀ z, chkE (kn rows) [] xs = some (true, z) → lost_nm T.C_Unknown H E z) ∧ (∀ z, chkE (kn rows) [] xs = some (false, z) → lost_nm T.C_Repeated H E z)
theorem sp_closure_len {T : Txt K mg} {vs H Q E} (h : sp_closure T vs H Q E) : vs.length = 2 := by
  obtain ⟨_, _, _, _, rfl, _⟩ := h
  rfl
theorem ok_closure (T : Txt K mg) : FnOk P w K mg base (L2N.CX P w) 9 T.f_closure T.fd_closure ["order", "names"] (sp_closure T) := by
  refine Fun.okN T.F_closure sc_closure (fun vs H Q E h => sp_closure_len h) (fun cdv A outer s H vs Q E hr h => ?_)
  refine ⟨_, (pss_cons (ps_set (i := 2) sc_closure.nd rfl (.inl rfl) (pe_callB (cr_sortA K rfl) (by rfl) T.m_sorted (by decide +kernel) (pa_cons (pe_methW (pv 0) T.cl_Order T.M_Order_checked (ok_Order_checked T) (hr.mono (by decide)) T.b_Order_checked (fun σ => L2N.passAt (L2N.takes_of rfl rfl rfl rfl) σ) (pa_cons (pv 1) pa_nil)) pa_nil)))
      (pss_cons (ps_set (i := 3) sc_closure.nd rfl (.inl rfl) (pe_call (ok_new_bases T) (hr.mono (by decide)) (by rfl) T.g_new_bases T.F_new_bases.kp T.b_new_bases .nil pass0 (pa_cons (pv 0) (pa_cons (pv 2) (pa_cons (pv 2) pa_nil)))))
      (pss_cons (ps_while (L2.passes_of rfl) (pt_cmpR op_gt (pe_callB (cr_lenK K) (by rfl) T.m_len (by decide +kernel) (pa_cons (pv 3) pa_nil)) pe_int (nomark _)) (pss_cons (ps_set (i := 2) sc_closure.nd rfl (.inl rfl) (pe_callB (cr_sortA K rfl) (by rfl) T.m_sorted (by decide +kernel) (pa_cons (pe_lst (k_star K (StX.pa_star (pv 2) (k_star K (StX.pa_star (pv 3) pa_nil))))) pa_nil)))
      (pss_one (ps_set (i := 3) sc_closure.nd rfl (.inl rfl) (pe_call (ok_new_bases T) (hr.mono (by decide)) (by rfl) T.g_new_bases T.F_new_bases.kp T.b_new_bases .nil pass0 (pa_cons (pv 0) (pa_cons (pv 2) (pa_cons (pv 3) pa_nil))))))))
      (pss_one (ps_ret (pv 2)))))), ?_⟩
  obtain ⟨a, l, rows, xs, rfl, ho, hl, few, rf, q, qu, qr⟩ := h
  refine g_start (σ' := [some (.ref a), some (.ref l), none, none]) rfl ?_
  obtain ⟨dx, d, nl, kvs, at_, ok⟩ := ho.ex
  walk_at "gg"
  refine g_kmeth at_.i rfl ?_
  walk_at "gg"
  refine ⟨a, l, rows, xs, rfl, ho, hl, few, fun hc p H1 s1 n1 h1 => ?_, qu, qr⟩
  have kx := chkE_known hc
  have lx := ho.chk_few hc
  have hH1 := Has.start H1
  walk_at "gg"
  refine g_sortS h1 (by omega) hH1 (fun ms pm H2 pmm srt n2 h2 => ?_)
  have am := asc_of srt (pmm.nodup_iff.mpr (chkE_nodup hc).1)
  have s2 := s1.trans h2.same
  have hm2 := h2.get (List.Mem.head _)
  have npm := s1.free n2
  walk_at "gg"
  refine ⟨a, pm, pm, rows, ms, ms, rfl, ho.mono s2, hm2, hm2, fun z hz => kx z (pmm.mem_iff.mp hz), fun pf H3 fr s3 n3 hf3 af mf => ?_⟩
  have R0 := Rnd.first rf kx am af (fun z => pmm.mem_iff) mf
  walk_at "gg"
  refine g_while (fun m σ H' => ∃ (ms fr : List Str) (pm pf : Addr), σ = [some (.ref a), some (.ref l), some (.ref pm), some (.ref pf)] ∧ Same H H' ∧ H' pm = some (.lst (ms.map V.str)) ∧ H' pf = some (.lst (fr.map V.str)) ∧ H pm = none ∧ Rnd rows xs ms fr ∧ m = 100 - ms.length) _ ⟨ms, fr, pm, pf, rfl, s2.trans s3, s3 _ _ hm2, hf3, npm, R0, rfl⟩ ?_
  rintro m σ H4 ⟨ms, fr, pm, pf, rfl, s4, hm4, hf4, npm, R, rfl⟩
  have km : ∀ z ∈ ms, kn rows z = true := fun z hz => cl_known ho kx (R.clm z hz)
  have kf : ∀ z ∈ fr, kn rows z = true := fun z hz => cl_known ho kx (R.clf z hz)
  have lm := few_in ho.few R.am.nodup fun z hz => kn_mem.mp (km z hz)
  have lf := few_in ho.few R.af.nodup fun z hz => kn_mem.mp (kf z hz)
  have hH4 := Has.start H4
  walk_at "gg"
  by_cases hz : fr = []
  · subst hz
    rw [decide_eq_false (by simp)]
    refine kwh_f ?_
    walk_at "gg"
    exact q hc pm H4 ms s4 npm hm4 R.am R.last
  have pos : 0 < fr.length := List.length_pos_iff.mpr hz
  rw [decide_eq_true (by rw [List.length_map]; omega)]
  refine kwh_t ?_
  walk_at "gg"
  have nd2 : (ms ++ fr).Nodup := by
    rw [List.nodup_append]
    exact ⟨R.am.nodup, R.af.nodup, fun x hx y hy e => R.dis y hy (e ▸ hx)⟩
  have kk2 : ∀ z ∈ ms ++ fr, kn rows z = true := fun z hz => (List.mem_append.mp hz).elim (km z) (kf z)
  have l2 := few_in ho.few nd2 fun z hz => kn_mem.mp (kk2 z hz)
  have ea : ms.map V.str ++ (fr.map V.str ++ []) = (ms ++ fr).map V.str := by rw [List.append_nil, List.map_append]
  rw [ea]
  refine g_klst (sz (by rw [List.length_map]; omega)) hH4 (fun p5 H5 n5 h5 => ?_)
  walk_at "gg"
  refine g_sortS (h5.get (List.Mem.head _)) (by omega) h5 (fun ms' pm' H6 pm6 srt6 n6 h6 => ?_)
  have am' := asc_of srt6 (pm6.nodup_iff.mpr nd2)
  have s46 := h6.same
  have hm6 := h6.get (List.Mem.head _)
  have npm' := s4.free (h5.same.free n6)
  walk_at "gg"
  refine ⟨a, pm', pf, rows, ms', fr, rfl, ho.mono (s4.trans s46), hm6, s46 _ _ hf4, fun z hz => kk2 z (pm6.mem_iff.mp hz), fun pf' H7 fr' s7 n7 hf7 af' mf' => ?_⟩
  have R' := R.next rf (fun z hz => kk2 z (pm6.mem_iff.mp hz)) am' af' (fun z => by rw [pm6.mem_iff, List.mem_append]) mf'
  have ll := pm6.length_eq
  rw [List.length_append] at ll l2
  walk_at "gg"
  exact ⟨_, by omega, ms', fr', pm', pf', rfl, (s4.trans s46).trans s7, s7 _ _ hm6, hf7, npm', R', rfl⟩
end

end K29

namespace K29
open PySem PySem.Spec PyProof.Rows L2 Qk
local macro_rules | `(tactic| walk_at "m") => `(tactic| ((repeat (first | exact List.Mem.head _ | apply List.Mem.tail)); done))
local macro_rules | `(tactic| walk_at "h") => `(tactic| first | assumption | exact Has.gF (by assumption) (by assumption) | exact Has.get (by assumption) (by walk_at "m"))
local macro_rules | `(tactic| walk_at "c") => `(tactic| ((repeat (first | exact Chg.hd | apply Chg.tl)); done))
local macro_rules | `(tactic| walk_at "is") => `(tactic| first
  | ((with_reducible refine' is2_non ?gh ?_); (case gh => walk_at "h"))
  | (with_reducible refine is_int_list ?_)
  | (with_reducible refine is_int_tuple ?_)
  | (with_reducible refine is_int_dict ?_)
  | (with_reducible refine is_int_int ?_)
  | (with_reducible refine is_int_bool ?_)
  | (with_reducible refine is_int_str ?_)
  | ((with_reducible refine' is2_int ?gh ?_); (case gh => walk_at "h"))
  | (with_reducible refine is_str_list ?_)
  | (with_reducible refine is_str_tuple ?_)
  | (with_reducible refine is_str_dict ?_)
  | (with_reducible refine is_str_int ?_)
  | (with_reducible refine is_str_bool ?_)
  | (with_reducible refine is_str_str ?_)
  | ((with_reducible refine' is2_str ?gh ?_); (case gh => walk_at "h"))
  | (with_reducible refine is_bool_list ?_)
  | (with_reducible refine is_bool_tuple ?_)
  | (with_reducible refine is_bool_dict ?_)
  | (with_reducible refine is_bool_int ?_)
  | (with_reducible refine is_bool_bool ?_)
  | (with_reducible refine is_bool_str ?_)
  | ((with_reducible refine' is2_bool ?gh ?_); (case gh => walk_at "h"))
  | ((with_reducible refine' is_list_list ?gh ?_); (case gh => walk_at "h"))
  | ((with_reducible refine' is_list_tuple ?gh ?_); (case gh => walk_at "h"))
  | ((with_reducible refine' is_list_dict ?gh ?_); (case gh => walk_at "h"))
  | ((with_reducible refine' is_list_int ?gh ?_); (case gh => walk_at "h"))
  | ((with_reducible refine' is_list_bool ?gh ?_); (case gh => walk_at "h"))
  | ((with_reducible refine' is_list_str ?gh ?_); (case gh => walk_at "h"))
  | ((with_reducible refine' is2_list ?ga ?gb ?_); (case ga => walk_at "h"); (case gb => walk_at "h"))
  | ((with_reducible refine' is_tuple_list ?gh ?_); (case gh => walk_at "h"))
  | ((with_reducible refine' is_tuple_tuple ?gh ?_); (case gh => walk_at "h"))
  | ((with_reducible refine' is_tuple_dict ?gh ?_); (case gh => walk_at "h"))
  | ((with_reducible refine' is_tuple_int ?gh ?_); (case gh => walk_at "h"))
  | ((with_reducible refine' is_tuple_bool ?gh ?_); (case gh => walk_at "h"))
  | ((with_reducible refine' is_tuple_str ?gh ?_); (case gh => walk_at "h"))
  | ((with_reducible refine' is2_tuple ?ga ?gb ?_); (case ga => walk_at "h"); (case gb => walk_at "h"))
  | ((with_reducible refine' is_dict_list ?gh ?_); (case gh => walk_at "h"))
  | ((with_reducible refine' is_dict_tuple ?gh ?_); (case gh => walk_at "h"))
  | ((with_reducible refine' is_dict_dict ?gh ?_); (case gh => walk_at "h"))
  | ((with_reducible refine' is_dict_int ?gh ?_); (case gh => walk_at "h"))
  | ((with_reducible refine' is_dict_bool ?gh ?_); (case gh => walk_at "h"))
  | ((with_reducible refine' is_dict_str ?gh ?_); (case gh => walk_at "h"))
  | ((with_reducible refine' is2_dict ?ga ?gb ?_); (case ga => walk_at "h"); (case gb => walk_at "h")))
local macro_rules | `(tactic| walk_at "g") => `(tactic| first
  | (with_reducible refine g_seq ?_)
  | (with_reducible refine g_asg ?_)
  | ((with_reducible refine g_name ?_); dsimp only [List.set, wipe, List.map])
  | ((with_reducible refine' g_var ?gv ?_); (case gv => exact rfl))
  | (with_reducible refine g_c ?_)
  | (with_reducible refine g_op ?_)
  | (with_reducible refine g_cons ?_)
  | (with_reducible refine g_nil ?_)
  | (with_reducible refine g_cb ?_)
  | (with_reducible refine g_call ?_)
  | (with_reducible refine g_tup ?_)
  | (with_reducible refine g_lst ?_)
  | (with_reducible refine g_bm ?_)
  | (with_reducible refine g_bm0 ?_)
  | ((with_reducible refine' g_kbm ?gh ?_); (case gh => walk_at "h"))
  | (with_reducible refine g_drop ?_)
  | (with_reducible refine g_ret ?_)
  | (with_reducible refine g_retN ?_)
  | (with_reducible refine g_next ?_)
  | (with_reducible refine g_brk ?_)
  | (with_reducible refine g_cont ?_)
  | (with_reducible refine g_if ?_)
  | ((with_reducible refine' g_aug ?gv ?_); (case gv => exact rfl))
  | (with_reducible refine g_ipI ?_)
  | (with_reducible refine g_test ?_)
  | (with_reducible refine g_tB ?_)
  | (with_reducible refine g_kB ?_)
  | (with_reducible refine g_not ?_)
  | (with_reducible refine g_and ?_)
  | (with_reducible refine g_or ?_)
  | (with_reducible refine g_andV ?_)
  | (with_reducible refine g_orV ?_)
  | (with_reducible refine g_notV ?_)
  | (with_reducible refine g_ifE ?_)
  | (with_reducible refine g_addI ?_)
  | (with_reducible refine g_rI0 ?_)
  | (with_reducible refine g_eqI ?_)
  | (with_reducible refine g_eqS ?_)
  | (with_reducible refine g_neI ?_)
  | (with_reducible refine g_neS ?_)
  | (with_reducible refine g_isN ?_)
  | (with_reducible refine g_notN ?_)
  | (with_reducible refine g_int ?_)
  | (with_reducible refine g_max2 ?_)
  | (with_reducible refine g_min2 ?_)
  | ((with_reducible refine' g_lenL ?gh ?_); (case gh => walk_at "h"))
  | (with_reducible refine g_sub ?_)
  | (with_reducible refine g_gcons ?_)
  | (with_reducible refine g_gnil ?_)
  | (with_reducible refine g_un ?_)
  | (with_reducible refine g_rU ?_)
  | (with_reducible refine g_forL ?_)
  | (with_reducible refine g_forS ?_)
  | (with_reducible refine g_forR1 ?_)
  | (with_reducible refine g_forR2 ?_)
  | (with_reducible refine g_forR3 ?_)
  | (with_reducible refine g_lcL ?_)
  | (with_reducible refine g_lcR1 ?_)
  | (with_reducible refine g_lcR2 ?_)
  | (with_reducible refine g_slice ?_)
  | (with_reducible refine g_part ?_)
  | (with_reducible refine g_kOI ?_)
  | (with_reducible refine g_nopart ?_)
  | (with_reducible refine g_yes ?_)
  | ((with_reducible refine' g_wipe ?gv ?_); (case gv => exact rfl))
  | (with_reducible refine iteT ?_)
  | (with_reducible refine iteF ?_)
  | (with_reducible refine i_nf ?_)
  | (with_reducible refine i_nt ?_)
  | ((with_reducible refine' g_gtup ?gh ?gl ?_); (case gh => walk_at "h"); (case gl => exact rfl))
  | ((with_reducible refine' g_notinI ?gh ?_); (case gh => walk_at "h"))
  | ((with_reducible refine' g_inI ?gh ?_); (case gh => walk_at "h"))
  | ((with_reducible refine' g_kget2 ?gh ?_); (case gh => walk_at "h"))
  | ((with_reducible refine' g_kgotI ?gh ?_); (case gh => walk_at "h"))
  | (with_reducible refine g_tRev ?_)
  | (with_reducible refine g_neB ?_)
  | (with_reducible refine g_eqB ?_)
  | ((with_reducible refine' g_lenT ?gh ?_); (case gh => walk_at "h"))
  | (with_reducible refine g_star ?_)
  | ((with_reducible refine' g_kstarL ?gh ?_); (case gh => walk_at "h"))
  | ((with_reducible refine' g_kstarT ?gh ?_); (case gh => walk_at "h"))
  | (with_reducible refine g_tru ?_)
  | ((with_reducible refine' g_truL ?gh ?_); (case gh => walk_at "h"))
  | (with_reducible refine g_get2 ?_)
  | (with_reducible refine g_try ?_)
  | (with_reducible refine g_fld ?_)
  | (with_reducible refine g_sfld ?_)
  | (with_reducible refine g_meth ?_)
  | (with_reducible refine g_make ?_)
  | (with_reducible refine g_del ?_)
  | (with_reducible refine g_callS ?_)
  | (with_reducible refine g_raise ?_)
  | (with_reducible refine g_xf ?_)
  | (with_reducible refine g_m0 ?_)
  | (with_reducible refine g_km0 ?_)
  | walk_at "is")
local macro_rules | `(tactic| walk_at "gg") => `(tactic| repeat walk_at "g")
local macro_rules | `(tactic| walk_at "sz") => `(tactic| (refine sz ?_; simp only [List.length_cons, List.length_nil, List.length_map, List.length_append, List.length_replicate]; omega))
local macro_rules | `(tactic| walk_at "sub") => `(tactic| ((repeat (first | exact List.Sublist.slnil | with_reducible apply List.Sublist.cons_cons | with_reducible apply List.Sublist.cons)); done))

local macro_rules | `(tactic| walk_at "g") => `(tactic| first
  | ((with_reducible refine' g_lenNL ?gh ?_); (case gh => walk_at "h"))
  | ((with_reducible refine' g_lenND ?gh ?_); (case gh => walk_at "h"))
  | ((with_reducible refine' g_lenNT ?gh ?_); (case gh => walk_at "h"))
  | (with_reducible refine g_ltI ?_)
  | (with_reducible refine g_ltS ?_)
  | (with_reducible refine g_lstRg ?_)
  | (with_reducible refine g_forK ?_))

/-! ### the web that a law draws -/
def rowI (row : List Nat) : List V := row.map fun (a : Nat) => V.int (a : Int)
def rowD (row : List Nat) : PyData := .list (row.map fun (a : Nat) => PyData.int (a : Int))
structure WebOk (web : List (List Nat)) : Prop where
  row : ∀ (i : Nat) (r : List Nat), web[i]? = some r → r.Nodup ∧ (∀ a ∈ r, a < i) ∧ r.length ≤ 6
theorem dq_row {H : Hp} {a : Addr} {row : List Nat} (h : H a = some (.lst (rowI row))) : Dq H (.ref a) (rowD row) := by
  refine .lst h ?_
  unfold rowI
  have := DqAll.ints (H := H) (row.map fun (a : Nat) => (a : Int))
  rw [List.map_map, List.map_map] at this
  exact this
theorem row_at {H : Hp} {v : V} {row : List Nat} (h : Dq H v (rowD row)) : ∃ a, v = .ref a ∧ H a = some (.lst (rowI row)) := by
  unfold rowD at h
  have e : (row.map fun (a : Nat) => PyData.int (a : Int)) = (row.map fun (a : Nat) => (a : Int)).map PyData.int := by rw [List.map_map]; rfl
  rw [e] at h
  cases h with
  | lst s d =>
    refine ⟨_, rfl, ?_⟩
    rw [s]
    congr 2
    have : ∀ {vs : List V} {xs : List Int}, DqAll H vs (xs.map PyData.int) → vs = xs.map V.int := by
      intro vs xs
      induction xs generalizing vs with
      | nil => intro d; cases d; rfl
      | cons x xs ih =>
        intro d
        rw [List.map_cons] at d
        cases d with
        | cons d1 d2 =>
          cases d1
          rw [ih d2]
          rfl
    rw [this d, List.map_map]
    rfl
theorem inV_row (x : Nat) (ys : List Nat) : inV (.int (x : Int)) (rowI ys) = decide (x ∈ ys) := by
  unfold inV rowI
  rw [List.any_map, Bool.eq_iff_iff]
  simp only [List.any_eq_true, Function.comp, decide_eq_true_eq]
  constructor
  · rintro ⟨y, hy, e⟩
    have e : ((y : Int) == (x : Int)) = true := e
    have e := beq_iff_eq.mp e
    have e : y = x := by omega
    exact e ▸ hy
  · exact fun h => ⟨x, h, (beq_iff_eq (a := (x : Int)) (b := (x : Int))).mpr rfl⟩
theorem flat_row (ys : List Nat) : (rowI ys).all flatV = true := by
  unfold rowI
  rw [List.all_map]
  exact List.all_eq_true.mpr fun _ _ => rfl
theorem WebOk.snoc {web : List (List Nat)} (h : WebOk web) {r : List Nat} (n : r.Nodup) (b : ∀ a ∈ r, a < web.length) (l : r.length ≤ 6) : WebOk (web ++ [r]) := ⟨fun i s e => by
  by_cases hi : i < web.length
  · rw [List.getElem?_append_left hi] at e
    exact h.row i s e
  · rw [List.getElem?_append_right (by omega)] at e
    by_cases z : i - web.length = 0
    · rw [z] at e
      have e : some r = some s := e
      injection e with e
      subst e
      exact ⟨n, fun a ha => by have := b a ha; omega, l⟩
    · obtain ⟨j, hj⟩ := Nat.exists_eq_succ_of_ne_zero z
      rw [hj] at e
      cases e⟩

/-! ### the web and the picks of a law -/
theorem perm_erase {l : List Nat} {k x : Nat} (h : l[k]? = some x) : (x :: l.eraseIdx k).Perm l := by
  have e : l.take k ++ x :: l.drop (k + 1) = l := by rw [← drop_at h, List.take_append_drop]
  rw [List.eraseIdx_eq_take_drop_succ]
  have p : (x :: (l.take k ++ l.drop (k + 1))).Perm (l.take k ++ x :: l.drop (k + 1)) := List.perm_middle.symm
  rw [e] at p
  exact p
section
variable {P : Program} {w : World} {K : PySem.W.Frag} {mg : Str → Option Value} {base : Heap}
def sp_l_draw_web (T : Txt K mg) : Sp := fun vs H Q _ => ∃ (c : Addr) (F : Hp) (ns : List Int) (n : Nat), vs = [.ref c, .int n] ∧ Has F [(c, .lst (ns.map V.int))] H ∧ FeedOk ns ∧ n ≤ 20 ∧
  ∀ l H' F' (ns' : List Int) us (web : List (List Nat)), Same F F' → Has F' [(c, .lst (ns'.map V.int))] H' → FeedOk ns' → F' l = some (.lst us) → DqAll F' us (web.map rowD) → WebOk web → web.length = n → Q (.ref l) H'
theorem sp_l_draw_web_len {T : Txt K mg} {vs H Q E} (h : sp_l_draw_web T vs H Q E) : vs.length = 2 := by
  obtain ⟨_, _, _, _, rfl, _⟩ := h
  rfl
set_option maxHeartbeats 1000000 in
theorem ok_l_draw_web (T : Txt K mg) : FnOk P w K mg base CX0 2 T.f_l_draw_web T.fd_l_draw_web ["feed", "many"] (sp_l_draw_web T) := by
  refine T.F_l_draw_web.ok sc_l_draw_web (fun vs H Q E h => sp_l_draw_web_len h) (fun cdv A outer s H vs Q E hr h => ?_)
  refine ⟨_, (pss_cons (ps_set (i := 2) sc_l_draw_web.nd rfl (.inl rfl) (pe_call (ok_l_next T) (hr.mono (by decide)) (by rfl) T.g_l_next T.F_l_next.kp T.b_l_next .nil pass0 (pa_cons (pv 0) (pa_cons pe_int pa_nil))))
      (pss_cons (ps_set (i := 3) sc_l_draw_web.nd rfl (.inl rfl) (pe_lst pa_nil))
      (pss_cons (ps_for PassesOwn.never rfl (pi_range1 rfl T.m_range (pa_cons (pv 1) pa_nil)) (pg_name (i := 4) sc_l_draw_web.nd rfl (.inl rfl)) (pss_cons (ps_set (i := 5) sc_l_draw_web.nd rfl (.inl rfl) (pe_lst pa_nil))
      (pss_cons (ps_if (pt_cmpR op_gt (pv 4) pe_int (nomark _)) (pss_one (ps_for PassesOwn.never rfl (pi_range1 rfl T.m_range (pa_cons (pe_ix (ix_K K (hu_of hr)) (pe_lst (pa_cons pe_int (pa_cons pe_int (pa_cons pe_int (pa_cons pe_int pa_nil))))) (pe_call (ok_l_next T) (hr.mono (by decide)) (by rfl) T.g_l_next T.F_l_next.kp T.b_l_next .nil pass0 (pa_cons (pv 0) (pa_cons pe_int pa_nil))) (fun _ _ => rfl)) pa_nil)) (pg_name (i := 6) sc_l_draw_web.nd rfl (.inl rfl)) (pss_cons (ps_set (i := 7) sc_l_draw_web.nd rfl (.inl rfl) (pe_callB (cr_max2 rfl) (by rfl) T.m_max (by decide +kernel) (pa_cons pe_int (pa_cons (pe_op op_sub (pe_op (op_addK K) (pe_op op_sub (pv 4) pe_int) (pe_op op_mod (pe_callTy cr_int1 (by rfl) T.m_int (by decide +kernel) (pa_cons (pv 4) pa_nil)) pe_int)) (pv 6)) pa_nil))))
      (pss_cons (ps_set (i := 8) sc_l_draw_web.nd rfl (.inl rfl) (pe_call (ok_l_next T) (hr.mono (by decide)) (by rfl) T.g_l_next T.F_l_next.kp T.b_l_next .nil pass0 (pa_cons (pv 0) (pa_cons (pe_ix (ix_K K (hu_of hr)) (pe_lst (pa_cons (pe_callB (cr_min2 rfl) (by rfl) T.m_min (by decide +kernel) (pa_cons (pv 4) (pa_cons pe_int pa_nil))) (pa_cons (pv 4) pa_nil))) (pv 2) (fun _ _ => rfl)) pa_nil))))
      (pss_cons (ps_set (i := 9) sc_l_draw_web.nd rfl (.inl rfl) (pe_op op_mod (pe_callTy cr_int1 (by rfl) T.m_int (by decide +kernel) (pa_cons (pe_op op_sub (pe_op (op_addK K) (pv 7) (pv 4)) (pv 8)) pa_nil)) (pv 4)))
      (pss_one (ps_if (pt_cmpR (op_notinM K P w hr.units (u65 hr)) (pv 9) (pv 5) (by rfl)) (pss_one (ps_expr (k_bm K (pe_bm PySem.F.plainAttrs_list PySem.F.slot_list_append PySem.F.type_list_append mt_append (pv 5) (pa_cons (pv 9) pa_nil))))) pss_nil))))))) pss_nil)
      (pss_one (ps_expr (k_bm K (pe_bm PySem.F.plainAttrs_list PySem.F.slot_list_append PySem.F.type_list_append mt_append (pv 3) (pa_cons (pv 5) pa_nil))))))))
      (pss_one (ps_ret (pv 3)))))), ?_⟩
  obtain ⟨c, F, ns0, n, rfl, hH, ok, hn, q⟩ := h
  refine g_start (σ' := [some (.ref c), some (.int n), none, none, none, none, none, none, none, none]) rfl ?_
  walk_at "gg"
  refine ⟨c, ns0, 2, rfl, by walk_at "h", ok, by decide, by decide, fun H1 ns1 wide hb e ok1 wi0 wi1 => ?_⟩
  have h1 := hH.but .hd hb e
  walk_at "gg"
  refine g_klst (by walk_at "sz") h1 (fun p H2 n2 h2 => ?_)
  walk_at "gg"
  refine k_forR1 (fun t σ H' => ∃ (F' : Hp) (us : List V) (web : List (List Nat)) (ns : List Int) (y4 y5 y6 y7 y8 y9 : Option V), σ = [some (.ref c), some (.int n), some (.int wide), some (.ref p), y4, y5, y6, y7, y8, y9] ∧ Same F F' ∧ Has F' [(p, .lst us), (c, .lst (ns.map V.int))] H' ∧ FeedOk ns ∧ DqAll F' us (web.map rowD) ∧ web.length = t ∧ WebOk web)
    (by omega) (by omega) ⟨F, [], [], ns1, _, _, _, _, _, _, rfl, Same.refl _, h2, ok1, .nil, rfl, ⟨fun i r e => by cases e⟩⟩ ?_ ?_
  · rintro t σ H4 ht ⟨F', us, web, ns, y4, y5, y6, y7, y8, y9, rfl, sF, h4, ok4, du, lw, wok⟩
    have ht : t < n := by omega
    have lu : us.length = web.length := by rw [du.len, List.length_map]
    walk_at "gg"
    refine g_klst (by walk_at "sz") h4 (fun rw_ H5 n5 h5 => ?_)
    walk_at "g"
    walk_at "g"
    refine g_joinD (fun σ' H' => ∃ (row : List Nat) (ns : List Int) (y6 y7 y8 y9 : Option V), σ' = [some (.ref c), some (.int n), some (.int wide), some (.ref p), some (.int (t : Int)), some (.ref rw_), y6, y7, y8, y9] ∧ Has F' [(rw_, .lst (rowI row)), (p, .lst us), (c, .lst (ns.map V.int))] H' ∧ FeedOk ns ∧ row.Nodup ∧ (∀ a ∈ row, a < t) ∧ row.length ≤ 6) ?_ (fun nx' key => ?_)
    · rintro σ' H6 ⟨row, ns, y6, y7, y8, y9, rfl, h6, ok6, nd, lt, l6⟩
      walk_at "gg"
      refine g_append h6 (.tl .hd) (szl (by omega)) (fun H7 h7 => ?_)
      have h8 := h7.frz
      have s8 := h7.grow
      have fr : upd F' rw_ (.lst (rowI row)) rw_ = some (.lst (rowI row)) := upd_same
      walk_at "gg"
      exact ⟨_, us ++ [.ref rw_], web ++ [row], ns, _, _, _, _, _, _, rfl, sF.trans s8, h8, ok6, by rw [List.map_append]; exact (du.up s8 _ _).snoc (dq_row fr), by rw [List.length_append]; show _ + 1 = _; omega, wok.snoc nd (by rw [lw]; exact lt) l6⟩
    walk_at "gg"
    refine i_d (fun z => ?_) (fun z => ?_)
    · walk_at "gg"
      refine g_klst (by walk_at "sz") h5 (fun p6 H6 n6 h6 => ?_)
      walk_at "gg"
      refine ⟨c, ns, 4, rfl, h6.get (by walk_at "m"), ok4, by decide, by decide, fun H7 ns7 r hb e ok7 r0 r1 => ?_⟩
      have h7 := h6.but (.tl (.tl (.tl .hd))) hb e
      refine g_ixI (xs := [2, 1, 3, 0]) (h7.get (List.Mem.head _)) r0 (by exact r1) (fun m2 hm2 => ?_)
      have hm2' : 0 ≤ m2 ∧ m2 ≤ 6 := by
        have := List.mem_of_getElem? hm2
        simp only [List.mem_cons, List.not_mem_nil, or_false] at this
        omega
      have h7 := h7.drop
      walk_at "gg"
      refine k_forR1 (fun u σ H' => ∃ (row : List Nat) (ns : List Int) (y6 y7 y8 y9 : Option V), σ = [some (.ref c), some (.int n), some (.int wide), some (.ref p), some (.int (t : Int)), some (.ref rw_), y6, y7, y8, y9] ∧ Has F' [(rw_, .lst (rowI row)), (p, .lst us), (c, .lst (ns.map V.int))] H' ∧ FeedOk ns ∧ row.Nodup ∧ (∀ a ∈ row, a < t) ∧ row.length ≤ u)
        (by omega) (by omega) ⟨[], ns7, _, _, _, _, rfl, h7, ok7, List.nodup_nil, fun a h => (by cases h), Nat.le_refl _⟩ ?_ ?_
      · rintro u σ H8 hu ⟨row, ns, y6, y7, y8, y9, rfl, h8, ok8, nd, lt, lr⟩
        walk_at "gg"
        refine g_rI (by show (0 : Int) < 2; decide) ?_
        walk_at "gg"
        have lo0 : ∃ lo : Int, max 0 ((t : Int) - 2 + (t : Int) % 2 - (u : Int)) = lo ∧ 0 ≤ lo ∧ lo ≤ t := ⟨_, rfl, by omega, by omega⟩
        obtain ⟨lo, elo, lo0, lo1⟩ := lo0
        rw [elo]
        refine g_klst (by walk_at "sz") h8 (fun p9 H9 n9 h9 => ?_)
        walk_at "gg"
        have key2 : ∀ v : Int, [V.int (min (t : Int) 3), V.int (t : Int)][wide.toNat]? = some (.int v) → 0 < v ∧ v ≤ t := fun v hv => by
          have := List.mem_of_getElem? hv
          simp only [List.mem_cons, List.not_mem_nil, or_false, V.int.injEq] at this
          omega
        refine g_ixI (xs := [min (t : Int) 3, (t : Int)]) (h9.get (List.Mem.head _)) wi0 (by exact wi1) (fun v hv => ?_)
        have hv' := key2 v (by
          have : [V.int (min (t : Int) 3), V.int (t : Int)] = [min (t : Int) 3, (t : Int)].map V.int := rfl
          rw [this, List.getElem?_map, hv]
          rfl)
        have h9 := h9.drop
        refine ⟨c, ns, v, rfl, h9.get (by walk_at "m"), ok8, by omega, by omega, fun H10 ns10 r10 hb e ok10 r100 r101 => ?_⟩
        have h10 := h9.but (.tl (.tl .hd)) hb e
        walk_at "gg"
        refine g_rI (by show (0 : Int) < (t : Int); omega) ?_
        walk_at "gg"
        have a0 : 0 ≤ ((lo + (t : Int) - r10) % (t : Int)) := Int.emod_nonneg _ (by omega)
        have a1 : ((lo + (t : Int) - r10) % (t : Int)) < t := Int.emod_lt_of_pos _ (by omega)
        generalize (lo + (t : Int) - r10) % (t : Int) = a at a0 a1
        obtain ⟨a, rfl⟩ := Int.eq_ofNat_of_zero_le a0
        refine g_notinM (g_notinFL (h10.get (List.Mem.head _)) rfl (flat_row _) ?_)
        rw [inV_row]
        walk_at "gg"
        refine i_n (fun m => ?_) (fun m => ?_)
        · walk_at "gg"
          refine g_append h10 .hd (szl (by unfold rowI; rw [List.length_map]; omega)) (fun H11 h11 => ?_)
          walk_at "gg"
          refine ⟨row ++ [a], ns10, _, _, _, _, rfl, by unfold rowI; rw [List.map_append]; exact h11, ok10, ?_, fun b hb => ?_, by rw [List.length_append]; show _ + 1 ≤ _; omega⟩
          · rw [List.nodup_append]
            refine ⟨nd, List.nodup_cons.mpr ⟨fun h => (by cases h), List.nodup_nil⟩, fun x hx y hy e => ?_⟩
            rw [List.mem_singleton.mp hy] at e
            exact m (e ▸ hx)
          · rcases List.mem_append.mp hb with hb | hb
            · exact lt b hb
            · rw [List.mem_singleton.mp hb]; omega
        · walk_at "gg"
          exact ⟨row, ns10, _, _, _, _, rfl, h10, ok10, nd, lt, by omega⟩
      · rintro σ H8 ⟨row, ns, y6, y7, y8, y9, rfl, h8, ok8, nd, lt, lr⟩
        exact key _ _ ⟨row, ns, _, _, _, _, rfl, h8, ok8, nd, lt, by omega⟩
    · walk_at "gg"
      exact key _ _ ⟨[], ns, _, _, _, _, rfl, h5, ok4, List.nodup_nil, fun a h => (by cases h), Nat.zero_le _⟩
  · rintro σ H4 ⟨F', us, web, ns, y4, y5, y6, y7, y8, y9, rfl, sF, h4, ok4, du, lw, wok⟩
    walk_at "gg"
    have h4' := h4.frz
    have s4 := h4.grow
    have fp : upd F' p (.lst us) p = some (.lst us) := upd_same
    generalize upd F' p (.lst us) = F5 at h4' s4 fp
    have du := du.up s4 _ _
    exact q p H4 F5 ns us web (sF.trans s4) h4' ok4 fp du wok (by omega)
/-- picks: different numbers -/
def sp_l_draw_picks (T : Txt K mg) : Sp := fun vs H Q _ => ∃ (c : Addr) (ns : List Int) (n : Nat), vs = [.ref c, .int n] ∧ H c = some (.lst (ns.map V.int)) ∧ FeedOk ns ∧ n ≤ 20 ∧
  ∀ l H' (ns' : List Int) (ps : List Nat), H l = none → But c H H' → H' c = some (.lst (ns'.map V.int)) → FeedOk ns' → H' l = some (.lst (rowI ps)) → ps.Nodup → (∀ a ∈ ps, a < n) → ps.length ≤ n → Q (.ref l) H'
theorem sp_l_draw_picks_len {T : Txt K mg} {vs H Q E} (h : sp_l_draw_picks T vs H Q E) : vs.length = 2 := by
  obtain ⟨_, _, _, rfl, _⟩ := h
  rfl
theorem ok_l_draw_picks (T : Txt K mg) : FnOk P w K mg base CX0 2 T.f_l_draw_picks T.fd_l_draw_picks ["feed", "many"] (sp_l_draw_picks T) := by
  refine T.F_l_draw_picks.ok sc_l_draw_picks (fun vs H Q E h => sp_l_draw_picks_len h) (fun cdv A outer s H vs Q E hr h => ?_)
  refine ⟨_, (pss_cons (ps_set (i := 2) sc_l_draw_picks.nd rfl (.inl rfl) (pe_listRg rfl (by rfl) T.m_list (prg_1 (by rfl) T.m_range (pv 1))))
      (pss_cons (ps_set (i := 3) sc_l_draw_picks.nd rfl (.inl rfl) (pe_lst pa_nil))
      (pss_cons (ps_set (i := 4) sc_l_draw_picks.nd rfl (.inl rfl) (pe_lst (pa_cons pe_int (pa_cons pe_int (pa_cons pe_int (pa_cons pe_int (pa_cons pe_int (pa_cons pe_int (pa_cons pe_int (pa_cons pe_int (pa_cons pe_int (pa_cons pe_int (pa_cons pe_int (pa_cons pe_int (pa_cons pe_int (pa_cons pe_int (pa_cons pe_int (pa_cons pe_int pa_nil))))))))))))))))))
      (pss_cons (ps_for PassesOwn.never rfl (pi_range1 rfl T.m_range (pa_cons (pe_ix (ix_K K (hu_of hr)) (pv 4) (pe_call (ok_l_next T) (hr.mono (by decide)) (by rfl) T.g_l_next T.F_l_next.kp T.b_l_next .nil pass0 (pa_cons (pv 0) (pa_cons pe_int pa_nil))) (fun _ _ => rfl)) pa_nil)) (pg_name (i := 5) sc_l_draw_picks.nd rfl (.inl rfl)) (pss_one (ps_if (pt_cmpR (op_neK K hr.units) (pv 2) (pe_lst pa_nil) (nomark _)) (pss_cons (ps_set (i := 6) sc_l_draw_picks.nd rfl (.inl rfl) (pe_op op_sub (pe_op op_sub (pe_callB (cr_lenN K) (by rfl) T.m_len (by decide +kernel) (pa_cons (pv 2) pa_nil)) pe_int) (pe_call (ok_l_next T) (hr.mono (by decide)) (by rfl) T.g_l_next T.F_l_next.kp T.b_l_next .nil pass0 (pa_cons (pv 0) (pa_cons (pe_callB (cr_lenN K) (by rfl) T.m_len (by decide +kernel) (pa_cons (pv 2) pa_nil)) pa_nil)))))
      (pss_one (ps_expr (k_bm K (pe_bm PySem.F.plainAttrs_list PySem.F.slot_list_append PySem.F.type_list_append mt_append (pv 3) (pa_cons (k_bm K (pe_bm PySem.F.plainAttrs_list PySem.F.slot_list_pop PySem.F.type_list_pop mt_popAt (pv 2) (pa_cons (pv 6) pa_nil))) pa_nil)))))) pss_nil)))
      (pss_one (ps_ret (pv 3))))))), ?_⟩
  obtain ⟨c, ns0, n, rfl, hc, ok, hn, q⟩ := h
  have hH := Has.arg hc
  refine g_start (σ' := [some (.ref c), some (.int n), none, none, none, none, none]) rfl ?_
  walk_at "gg"
  refine g_kLstRg (by omega) hH (fun re H1 n1 h1 => ?_)
  walk_at "gg"
  refine g_klst (by walk_at "sz") h1 (fun pk H2 n2 h2 => ?_)
  walk_at "gg"
  refine g_klst (by walk_at "sz") h2 (fun sz_ H3 n3 h3 => ?_)
  walk_at "gg"
  refine ⟨c, ns0, 16, rfl, h3.get (by walk_at "m"), ok, by decide, by decide, fun H4 ns4 r hb e ok4 r0 r1 => ?_⟩
  have h4 := h3.but (.tl (.tl (.tl .hd))) hb e
  refine g_ixI (xs := [2, 3, 4, 1, 2, 3, 5, 0, 2, 4, 3, 6, 7, 8, 9, 2]) (h4.get (List.Mem.head _)) r0 (by exact r1) (fun m hm => ?_)
  have hm' : 0 ≤ m ∧ m ≤ 9 := by
    have := List.mem_of_getElem? hm
    simp only [List.mem_cons, List.not_mem_nil, or_false] at this
    omega
  have h4 := h4.drop
  walk_at "gg"
  refine k_forR1 (fun t σ H' => ∃ (rs ps : List Nat) (ns : List Int) (y5 y6 : Option V), σ = [some (.ref c), some (.int n), some (.ref re), some (.ref pk), some (.ref sz_), y5, y6] ∧ Has (rm H c) [(pk, .lst (rowI ps)), (re, .lst (rowI rs)), (c, .lst (ns.map V.int))] H' ∧ FeedOk ns ∧ (rs ++ ps).Perm (List.range n)) (by omega) (by omega)
    ⟨List.range n, [], ns4, _, _, rfl, h4, ok4, by rw [List.append_nil]⟩ ?_ ?_
  · rintro t σ H5 ht ⟨rs, ps, ns, y5, y6, rfl, h5, ok5, pm⟩
    have lp := pm.length_eq
    rw [List.length_append, List.length_range] at lp
    walk_at "gg"
    refine g_klst (by walk_at "sz") h5 (fun p6 H6 n6 h6 => ?_)
    have er : rowI rs = (rs.map fun (a : Nat) => (a : Int)).map V.int := by unfold rowI; rw [List.map_map]; rfl
    have ep : rowI ps = (ps.map fun (a : Nat) => (a : Int)).map V.int := by unfold rowI; rw [List.map_map]; rfl
    refine g_neD (Dq.ints (xs := rs.map fun (a : Nat) => (a : Int)) (by rw [← er]; exact h6.get (by walk_at "m"))) (Dq.ints (xs := []) (h6.get (List.Mem.head _))) ((Sh.ints (n := 0)).ok (by decide)) ((Sh.ints (n := 0)).ok (by decide)) ?_
    rw [eqv_ints]
    have h6 := h6.drop
    walk_at "gg"
    refine i_n (fun ne => ?_) (fun _ => ?_)
    · have pos : 0 < rs.length := List.length_pos_iff.mpr fun e => ne (by rw [e]; rfl)
      have lr : (rowI rs).length = rs.length := by unfold rowI; rw [List.length_map]
      walk_at "gg"
      rw [lr]
      refine ⟨c, ns, rs.length, rfl, h6.get (by walk_at "m"), ok5, by omega, by omega, fun H7 ns7 r7 hb e ok7 r70 r71 => ?_⟩
      have h7 := h6.but (.tl (.tl .hd)) hb e
      walk_at "gg"
      have hk : ((rs.length : Int) - 1 - r7).toNat < rs.length := by omega
      have hx : rs[((rs.length : Int) - 1 - r7).toNat]? = some rs[((rs.length : Int) - 1 - r7).toNat] := List.getElem?_eq_getElem hk
      have pe := perm_erase hx
      generalize hK : ((rs.length : Int) - 1 - r7).toNat = k at hk hx pe
      have ek : (rs.length : Int) - 1 - r7 = (k : Int) := by omega
      rw [ek]
      generalize rs[k]'hk = x at hx pe
      refine g_popAt (xs := rowI rs) (k := k) (y := .int (x : Nat)) h7 (O' := [(pk, .lst (rowI ps)), (re, .lst (rowI (rs.eraseIdx k))), (c, .lst (ns7.map V.int))]) ?_ (by omega) (by omega) ?_ ?_ (fun H8 h8 => ?_)
      · have : (rowI rs).eraseIdx k = rowI (rs.eraseIdx k) := by
          unfold rowI
          rw [List.eraseIdx_eq_take_drop_succ, List.eraseIdx_eq_take_drop_succ, List.map_append, List.map_take, List.map_drop]
        rw [this]
        exact .tl .hd
      · exact (ixN_seq (n := (rowI rs).length) (i := (k : Int)) (j := k) (ixN_nat (by omega) (by rw [lr]; omega))).1
      · unfold rowI
        rw [List.getElem?_map, hx]
        rfl
      walk_at "gg"
      refine g_append h8 .hd (szl (by unfold rowI; rw [List.length_map]; omega)) (fun H9 h9 => ?_)
      walk_at "gg"
      refine ⟨rs.eraseIdx k, ps ++ [x], ns7, _, _, rfl, by unfold rowI; rw [List.map_append]; exact h9, ok7, ?_⟩
      refine List.Perm.trans ?_ pm
      have p1 : (rs.eraseIdx k ++ (ps ++ [x])).Perm (x :: (rs.eraseIdx k ++ ps)) := by
        rw [← List.append_assoc]
        exact List.perm_append_singleton _ _
      exact p1.trans (pe.append_right ps)
    · walk_at "gg"
      exact ⟨rs, ps, ns, _, _, rfl, h6, ok5, pm⟩
  · rintro σ H5 ⟨rs, ps, ns, y5, y6, rfl, h5, ok5, pm⟩
    walk_at "gg"
    have nd := pm.nodup_iff.mpr List.nodup_range
    rw [List.nodup_append] at nd
    refine q pk H5 ns ps (h5.argFree (by simp)) (But.of h5.same) (h5.get (by walk_at "m")) ok5 (h5.get (List.Mem.head _)) nd.2.1 (fun a ha => List.mem_range.mp (pm.mem_iff.mp (List.mem_append_right _ ha))) (by have := pm.length_eq; rw [List.length_append, List.length_range] at this; omega)
end

end K29

namespace K29
open PySem PySem.Spec PyProof.Rows L2 Qk
local macro_rules | `(tactic| walk_at "m") => `(tactic| ((repeat (first | exact List.Mem.head _ | apply List.Mem.tail)); done))
local macro_rules | `(tactic| walk_at "h") => `(tactic| first | assumption | exact Has.gF (by assumption) (by assumption) | exact Has.get (by assumption) (by walk_at "m"))
local macro_rules | `(tactic| walk_at "c") => `(tactic| ((repeat (first | exact Chg.hd | apply Chg.tl)); done))
local macro_rules | `(tactic| walk_at "is") => `(tactic| first
  | ((with_reducible refine' is2_non ?gh ?_); (case gh => walk_at "h"))
  | (with_reducible refine is_int_list ?_)
  | (with_reducible refine is_int_tuple ?_)
  | (with_reducible refine is_int_dict ?_)
  | (with_reducible refine is_int_int ?_)
  | (with_reducible refine is_int_bool ?_)
  | (with_reducible refine is_int_str ?_)
  | ((with_reducible refine' is2_int ?gh ?_); (case gh => walk_at "h"))
  | (with_reducible refine is_str_list ?_)
  | (with_reducible refine is_str_tuple ?_)
  | (with_reducible refine is_str_dict ?_)
  | (with_reducible refine is_str_int ?_)
  | (with_reducible refine is_str_bool ?_)
  | (with_reducible refine is_str_str ?_)
  | ((with_reducible refine' is2_str ?gh ?_); (case gh => walk_at "h"))
  | (with_reducible refine is_bool_list ?_)
  | (with_reducible refine is_bool_tuple ?_)
  | (with_reducible refine is_bool_dict ?_)
  | (with_reducible refine is_bool_int ?_)
  | (with_reducible refine is_bool_bool ?_)
  | (with_reducible refine is_bool_str ?_)
  | ((with_reducible refine' is2_bool ?gh ?_); (case gh => walk_at "h"))
  | ((with_reducible refine' is_list_list ?gh ?_); (case gh => walk_at "h"))
  | ((with_reducible refine' is_list_tuple ?gh ?_); (case gh => walk_at "h"))
  | ((with_reducible refine' is_list_dict ?gh ?_); (case gh => walk_at "h"))
  | ((with_reducible refine' is_list_int ?gh ?_); (case gh => walk_at "h"))
  | ((with_reducible refine' is_list_bool ?gh ?_); (case gh => walk_at "h"))
  | ((with_reducible refine' is_list_str ?gh ?_); (case gh => walk_at "h"))
  | ((with_reducible refine' is2_list ?ga ?gb ?_); (case ga => walk_at "h"); (case gb => walk_at "h"))
  | ((with_reducible refine' is_tuple_list ?gh ?_); (case gh => walk_at "h"))
  | ((with_reducible refine' is_tuple_tuple ?gh ?_); (case gh => walk_at "h"))
  | ((with_reducible refine' is_tuple_dict ?gh ?_); (case gh => walk_at "h"))
  | ((with_reducible refine' is_tuple_int ?gh ?_); (case gh => walk_at "h"))
  | ((with_reducible refine' is_tuple_bool ?gh ?_); (case gh => walk_at "h"))
  | ((with_reducible refine' is_tuple_str ?gh ?_); (case gh => walk_at "h"))
  | ((with_reducible refine' is2_tuple ?ga ?gb ?_); (case ga => walk_at "h"); (case gb => walk_at "h"))
  | ((with_reducible refine' is_dict_list ?gh ?_); (case gh => walk_at "h"))
  | ((with_reducible refine' is_dict_tuple ?gh ?_); (case gh => walk_at "h"))
  | ((with_reducible refine' is_dict_dict ?gh ?_); (case gh => walk_at "h"))
  | ((with_reducible refine' is_dict_int ?gh ?_); (case gh => walk_at "h"))
  | ((with_reducible refine' is_dict_bool ?gh ?_); (case gh => walk_at "h"))
  | ((with_reducible refine' is_dict_str ?gh ?_); (case gh => walk_at "h"))
  | ((with_reducible refine' is2_dict ?ga ?gb ?_); (case ga => walk_at "h"); (case gb => walk_at "h")))
local macro_rules | `(tactic| walk_at "g") => `(tactic| first
  | (with_reducible refine g_seq ?_)
  | (with_reducible refine g_asg ?_)
  | ((with_reducible refine g_name ?_); dsimp only [List.set, wipe, List.map])
  | ((with_reducible refine' g_var ?gv ?_); (case gv => exact rfl))
  | (with_reducible refine g_c ?_)
  | (with_reducible refine g_op ?_)
  | (with_reducible refine g_cons ?_)
  | (with_reducible refine g_nil ?_)
  | (with_reducible refine g_cb ?_)
  | (with_reducible refine g_call ?_)
  | (with_reducible refine g_tup ?_)
  | (with_reducible refine g_lst ?_)
  | (with_reducible refine g_bm ?_)
  | (with_reducible refine g_bm0 ?_)
  | ((with_reducible refine' g_kbm ?gh ?_); (case gh => walk_at "h"))
  | (with_reducible refine g_drop ?_)
  | (with_reducible refine g_ret ?_)
  | (with_reducible refine g_retN ?_)
  | (with_reducible refine g_next ?_)
  | (with_reducible refine g_brk ?_)
  | (with_reducible refine g_cont ?_)
  | (with_reducible refine g_if ?_)
  | ((with_reducible refine' g_aug ?gv ?_); (case gv => exact rfl))
  | (with_reducible refine g_ipI ?_)
  | (with_reducible refine g_test ?_)
  | (with_reducible refine g_tB ?_)
  | (with_reducible refine g_kB ?_)
  | (with_reducible refine g_not ?_)
  | (with_reducible refine g_and ?_)
  | (with_reducible refine g_or ?_)
  | (with_reducible refine g_andV ?_)
  | (with_reducible refine g_orV ?_)
  | (with_reducible refine g_notV ?_)
  | (with_reducible refine g_ifE ?_)
  | (with_reducible refine g_addI ?_)
  | (with_reducible refine g_rI0 ?_)
  | (with_reducible refine g_eqI ?_)
  | (with_reducible refine g_eqS ?_)
  | (with_reducible refine g_neI ?_)
  | (with_reducible refine g_neS ?_)
  | (with_reducible refine g_isN ?_)
  | (with_reducible refine g_notN ?_)
  | (with_reducible refine g_int ?_)
  | (with_reducible refine g_max2 ?_)
  | (with_reducible refine g_min2 ?_)
  | ((with_reducible refine' g_lenL ?gh ?_); (case gh => walk_at "h"))
  | (with_reducible refine g_sub ?_)
  | (with_reducible refine g_gcons ?_)
  | (with_reducible refine g_gnil ?_)
  | (with_reducible refine g_un ?_)
  | (with_reducible refine g_rU ?_)
  | (with_reducible refine g_forL ?_)
  | (with_reducible refine g_forS ?_)
  | (with_reducible refine g_forR1 ?_)
  | (with_reducible refine g_forR2 ?_)
  | (with_reducible refine g_forR3 ?_)
  | (with_reducible refine g_lcL ?_)
  | (with_reducible refine g_lcR1 ?_)
  | (with_reducible refine g_lcR2 ?_)
  | (with_reducible refine g_slice ?_)
  | (with_reducible refine g_part ?_)
  | (with_reducible refine g_kOI ?_)
  | (with_reducible refine g_nopart ?_)
  | (with_reducible refine g_yes ?_)
  | ((with_reducible refine' g_wipe ?gv ?_); (case gv => exact rfl))
  | (with_reducible refine iteT ?_)
  | (with_reducible refine iteF ?_)
  | (with_reducible refine i_nf ?_)
  | (with_reducible refine i_nt ?_)
  | ((with_reducible refine' g_gtup ?gh ?gl ?_); (case gh => walk_at "h"); (case gl => exact rfl))
  | ((with_reducible refine' g_notinI ?gh ?_); (case gh => walk_at "h"))
  | ((with_reducible refine' g_inI ?gh ?_); (case gh => walk_at "h"))
  | ((with_reducible refine' g_kget2 ?gh ?_); (case gh => walk_at "h"))
  | ((with_reducible refine' g_kgotI ?gh ?_); (case gh => walk_at "h"))
  | (with_reducible refine g_tRev ?_)
  | (with_reducible refine g_neB ?_)
  | (with_reducible refine g_eqB ?_)
  | ((with_reducible refine' g_lenT ?gh ?_); (case gh => walk_at "h"))
  | (with_reducible refine g_star ?_)
  | ((with_reducible refine' g_kstarL ?gh ?_); (case gh => walk_at "h"))
  | ((with_reducible refine' g_kstarT ?gh ?_); (case gh => walk_at "h"))
  | (with_reducible refine g_tru ?_)
  | ((with_reducible refine' g_truL ?gh ?_); (case gh => walk_at "h"))
  | (with_reducible refine g_get2 ?_)
  | (with_reducible refine g_try ?_)
  | (with_reducible refine g_fld ?_)
  | (with_reducible refine g_sfld ?_)
  | (with_reducible refine g_meth ?_)
  | (with_reducible refine g_make ?_)
  | (with_reducible refine g_del ?_)
  | (with_reducible refine g_callS ?_)
  | (with_reducible refine g_raise ?_)
  | (with_reducible refine g_xf ?_)
  | (with_reducible refine g_m0 ?_)
  | (with_reducible refine g_km0 ?_)
  | walk_at "is")
local macro_rules | `(tactic| walk_at "gg") => `(tactic| repeat walk_at "g")
local macro_rules | `(tactic| walk_at "sz") => `(tactic| (refine sz ?_; simp only [List.length_cons, List.length_nil, List.length_map, List.length_append, List.length_replicate]; omega))
local macro_rules | `(tactic| walk_at "sub") => `(tactic| ((repeat (first | exact List.Sublist.slnil | with_reducible apply List.Sublist.cons_cons | with_reducible apply List.Sublist.cons)); done))

/-! ### one order of a law -/
structure OA where
  a : Addr
  x : Addr
  d : Addr
section
variable {P : Program} {w : World} {K : PySem.W.Frag} {mg : Str → Option Value} {base : Heap}
def St1 (T : Txt K mg) (A : OA) (F H : Hp) (rows : List URow) : Prop := ∃ nl kvs, Has F (OrdO T A.a A.x A.d nl kvs) H ∧ OrdOk F nl kvs rows
variable {T : Txt K mg} {A : OA} {F H H' : Hp} {rows : List URow} {Q : VK} {E : XK}
theorem St1.on (st : St1 T A F H rows) (s : Same H H') : St1 T A F H' rows := by
  obtain ⟨nl, kvs, h, ok⟩ := st
  exact ⟨nl, kvs, h.on s, ok⟩
theorem St1.same (st : St1 T A F H rows) : Same F H := by
  obtain ⟨nl, kvs, h, ok⟩ := st
  exact h.same
theorem St1.ord (st : St1 T A F H rows) : Ord T H A.a rows := by
  obtain ⟨nl, kvs, h, ok⟩ := st
  exact ⟨A.x, A.d, nl, kvs, ⟨h.get (by unfold OrdO; walk_at "m"), h.get (by unfold OrdO; walk_at "m")⟩, ok.mono h.same⟩
theorem St1.ins (st : St1 T A F H rows) : ∃ nl, H A.a = some (.ins T.C_Order A.x (of_ nl A.d)) := by
  obtain ⟨nl, kvs, h, ok⟩ := st
  exact ⟨nl, h.get (by unfold OrdO; walk_at "m")⟩
theorem St1.lst {xs : List V} (st : St1 T A F H rows) (hl : xs.length ≤ 100000) (q : ∀ p H' F', Same F F' → F' p = some (.lst xs) → St1 T A F' H' rows → Q (.ref p) H') : kLst xs H Q := by
  obtain ⟨nl, kvs, h, ok⟩ := st
  exact g_klstF (sz hl) h fun p H' F' n s f h' => q p H' F' s f ⟨nl, kvs, h', ok.mono s⟩
/-- what a call gives, from now on still -/
theorem St1.made {p : Addr} {o : HO} (st : St1 T A F H rows) (n : H p = none) (s : Same H H') (e : H' p = some o) : ∃ F', Same F F' ∧ F' p = some o ∧ St1 T A F' H' rows := by
  obtain ⟨nl, kvs, h, ok⟩ := st
  have h := h.made n s e
  exact ⟨_, h.grow, upd_same, nl, kvs, h.frz, ok.mono h.grow⟩
theorem St1.put {x : Str} {ps : List Str} {l : Addr} (st : St1 T A F H rows) (hl : F l = some (.lst (ps.map V.str))) (nm : NmOk x) (fr : undr rows x = none) (hc : chkE (kn rows) [] ps = none) (lp : ps.length ≤ 200) (few : rows.length < 60)
    (q : ∀ H' F' us, Same F F' → St1 T A F' H' (rows ++ [(x, us)]) → PutU rows x ps us → Q .non H') : sp_Order_put T [.ref A.a, .str x, .ref l] H Q E := by
  obtain ⟨nl, kvs, h, ok⟩ := st
  refine ⟨A.a, A.x, A.d, nl, l, F, kvs, rows, x, ps, rfl, h, ok, h.same _ _ hl, nm, fr, hc, lp, few, fun H' F' nl' kvs' us hb g h' ok' pu => ?_⟩
  exact q H' F' us g.1 ⟨nl', kvs', h', ok'⟩ pu
end

/-! ### what is under what, by the web -/
inductive Dn (names : List Str) (web : List (List Nat)) : Nat → Str → Prop
  | self {k : Nat} {z : Str} : names[k]? = some z → Dn names web k z
  | step {k a : Nat} {r : List Nat} {z : Str} : web[k]? = some r → a ∈ r → Dn names web a z → Dn names web k z
theorem dn_iff {names : List Str} {web : List (List Nat)} {k : Nat} {r : List Nat} {x z : Str} (er : web[k]? = some r) (ex : names[k]? = some x) : Dn names web k z ↔ z = x ∨ ∃ a ∈ r, Dn names web a z := by
  constructor
  · intro h
    cases h with
    | self e =>
      rw [ex] at e
      injection e with e
      exact .inl e.symm
    | step e ha d =>
      rw [er] at e
      injection e with e
      subst e
      exact .inr ⟨_, ha, d⟩
  · rintro (rfl | ⟨a, ha, d⟩)
    · exact .self ex
    · exact .step er ha d
theorem Dn.mem {names : List Str} {web : List (List Nat)} {k : Nat} {z : Str} (h : Dn names web k z) : z ∈ names := by
  induction h with
  | self e => exact List.mem_of_getElem? e
  | step _ _ _ ih => exact ih
theorem Dn.low {names : List Str} {web : List (List Nat)} (wok : WebOk web) {k : Nat} {z : Str} (h : Dn names web k z) : ∃ j, j ≤ k ∧ names[j]? = some z := by
  induction h with
  | self e => exact ⟨_, Nat.le_refl _, e⟩
  | step e ha _ ih =>
    obtain ⟨j, hj, ej⟩ := ih
    have := (wok.row _ _ e).2.1 _ ha
    exact ⟨j, by omega, ej⟩
theorem take_at {web : List (List Nat)} {n k : Nat} {r : List Nat} (h : (web.take n)[k]? = some r) : web[k]? = some r := by
  have hk : k < n := by
    have := (List.getElem?_eq_some_iff.mp h).1
    rw [List.length_take] at this
    omega
  rw [List.getElem?_take_of_lt hk] at h
  exact h
theorem Dn.up {names : List Str} {web : List (List Nat)} {n k : Nat} {z : Str} (h : Dn names (web.take n) k z) : Dn names web k z := by
  induction h with
  | self e => exact .self e
  | step e ha _ ih => exact .step (take_at e) ha ih
theorem Dn.cut {names : List Str} {web : List (List Nat)} (wok : WebOk web) {n k : Nat} {z : Str} (h : Dn names web k z) (hk : k < n) : Dn names (web.take n) k z := by
  induction h with
  | self e => exact .self e
  | step e ha _ ih =>
    have := (wok.row _ _ e).2.1 _ ha
    exact .step (by rw [List.getElem?_take_of_lt hk]; exact e) ha (ih (by omega))
theorem WebOk.take {web : List (List Nat)} (h : WebOk web) (n : Nat) : WebOk (web.take n) := ⟨fun i r e => h.row i r (take_at e)⟩
/-- rows of the first n names -/
structure RowsW (names : List Str) (web : List (List Nat)) (n : Nat) (rows : List URow) : Prop where
  nms : rows.map (·.1) = names.take n
  und : ∀ (k : Nat) (x : Str), k < n → names[k]? = some x → ∃ u, undr rows x = some u ∧ ∀ z, z ∈ u ↔ Dn names web k z
theorem RowsW.zero {names : List Str} {web : List (List Nat)} : RowsW names web 0 [] := ⟨by simp, fun k x h => absurd h (Nat.not_lt_zero _)⟩
theorem RowsW.known {names : List Str} {web : List (List Nat)} {n : Nat} {rows : List URow} (R : RowsW names web n rows) {x : Str} : kn rows x = true ↔ ∃ k, k < n ∧ names[k]? = some x := by
  rw [kn_mem, R.nms, List.mem_iff_getElem?]
  constructor
  · rintro ⟨k, e⟩
    have hk : k < n := by
      have := (List.getElem?_eq_some_iff.mp e).1
      rw [List.length_take] at this
      omega
    rw [List.getElem?_take_of_lt hk] at e
    exact ⟨k, hk, e⟩
  · rintro ⟨k, hk, e⟩
    exact ⟨k, by rw [List.getElem?_take_of_lt hk]; exact e⟩
theorem RowsW.fresh {names : List Str} {web : List (List Nat)} {n : Nat} {rows : List URow} (R : RowsW names web n rows) (nd : names.Nodup) {x : Str} (ex : names[n]? = some x) : undr rows x = none := by
  cases e : undr rows x with
  | none => rfl
  | some u =>
    obtain ⟨k, hk, ek⟩ := (R.known (x := x)).mp (by unfold kn; rw [e]; rfl)
    have := at_inj nd ek ex
    omega
theorem RowsW.un {names : List Str} {web : List (List Nat)} {n : Nat} {rows : List URow} (R : RowsW names web n rows) {k : Nat} {x z : Str} (hk : k < n) (ex : names[k]? = some x) : Un rows x z ↔ Dn names web k z := by
  obtain ⟨u, eu, mu⟩ := R.und k x hk ex
  unfold Un
  rw [eu]
  constructor
  · rintro ⟨v, e, h⟩
    injection e with e
    rw [← e] at h
    exact (mu z).mp h
  · exact fun h => ⟨u, rfl, (mu z).mpr h⟩
theorem RowsW.refl {names : List Str} {web : List (List Nat)} {n : Nat} {rows : List URow} (R : RowsW names web n rows) : Rfl rows := fun x u e => by
  obtain ⟨k, hk, ek⟩ := (R.known (x := x)).mp (by unfold kn; rw [e]; rfl)
  obtain ⟨u', eu, mu⟩ := R.und k x hk ek
  rw [e] at eu
  injection eu with eu
  rw [eu]
  exact (mu x).mpr (.self ek)
theorem RowsW.step {names : List Str} {web : List (List Nat)} {n : Nat} {rows : List URow} {x : Str} {r : List Nat} {us : List Str} (R : RowsW names web n rows) (nd : names.Nodup) (wok : WebOk web) (ex : names[n]? = some x) (er : web[n]? = some r) (hu : ∀ z, z ∈ us ↔ z = x ∨ ∃ a ∈ r, Dn names web a z) : RowsW names web (n + 1) (rows ++ [(x, us)]) := by
  refine ⟨by rw [List.map_append, R.nms, List.take_add_one, ex]; rfl, fun k y hk ey => ?_⟩
  by_cases c : k < n
  · obtain ⟨u, eu, mu⟩ := R.und k y c ey
    exact ⟨u, by rw [undr_app, eu]; rfl, mu⟩
  · have : k = n := by omega
    subst this
    rw [ex] at ey
    injection ey with ey
    subst ey
    refine ⟨us, by rw [undr_app, R.fresh nd ex]; simp, fun z => ?_⟩
    rw [hu z, dn_iff er ex]
theorem RowsW.put {names : List Str} {web : List (List Nat)} {n : Nat} {rows : List URow} {x : Str} {r : List Nat} {us : List Str} (R : RowsW names web n rows) (nd : names.Nodup) (wok : WebOk web) (ex : names[n]? = some x) (er : web[n]? = some r) (pu : PutU rows x (r.map (nmz names)) us) : RowsW names web (n + 1) (rows ++ [(x, us)]) := by
  have ln := (List.getElem?_eq_some_iff.mp ex).1
  have lt := (wok.row n r er).2.1
  refine R.step nd wok ex er fun z => ?_
  rw [pu.2 z]
  refine or_congr Iff.rfl ?_
  constructor
  · rintro ⟨p, hp, v, ev, hz⟩
    obtain ⟨a, ha, rfl⟩ := List.mem_map.mp hp
    have la := lt a ha
    exact ⟨a, ha, (R.un la (nmz_at (by omega))).mp ⟨v, ev, hz⟩⟩
  · rintro ⟨a, ha, d⟩
    have la := lt a ha
    obtain ⟨v, ev, hz⟩ := (R.un la (nmz_at (by omega))).mpr d
    exact ⟨_, List.mem_map.mpr ⟨a, ha, rfl⟩, v, ev, hz⟩
theorem RowsW.up {names : List Str} {web : List (List Nat)} {n : Nat} {rows : List URow} (R : RowsW names (web.take n) n rows) (wok : WebOk web) : RowsW names web n rows := ⟨R.nms, fun k x hk ex => by
  obtain ⟨u, eu, mu⟩ := R.und k x hk ex
  exact ⟨u, eu, fun z => (mu z).trans ⟨Dn.up, fun d => d.cut wok hk⟩⟩⟩
theorem RowsW.same {names : List Str} {web : List (List Nat)} {n : Nat} {rows ls : List URow} (R : RowsW names web n rows) (L : RowsW names web n ls) {x : Str} (k : kn rows x = true) (z : Str) : Un ls x z ↔ Un rows x z := by
  obtain ⟨k, hk, ek⟩ := R.known.mp k
  rw [R.un hk ek, L.un hk ek]
theorem RowsW.kmem {names : List Str} {web : List (List Nat)} {n : Nat} {rows : List URow} (R : RowsW names web n rows) (wok : WebOk web) {x z : Str} (u : Un rows x z) : kn rows z = true := by
  obtain ⟨v, ev, hv⟩ := u
  obtain ⟨k, hk, ek⟩ := (R.known (x := x)).mp (by unfold kn; rw [ev]; rfl)
  obtain ⟨j, hj, ej⟩ := ((R.un hk ek).mp ⟨v, ev, hv⟩).low wok
  exact R.known.mpr ⟨j, by omega, ej⟩
theorem RowsW.mb {names : List Str} {web : List (List Nat)} {n : Nat} {rows ls : List URow} (R : RowsW names web n rows) (L : RowsW names web n ls) (wok : WebOk web) {x y : Str} (kx : kn rows x = true) (ky : kn rows y = true) (z : Str) : MB (Un ls) x y z ↔ MB (Un rows) x y z :=
  MB.congr (R.same L kx) (R.same L ky) fun g hg => R.same L (R.kmem wok ((R.same L kx g).mp hg))
theorem chk_row {names : List Str} {web : List (List Nat)} {n : Nat} {rows : List URow} {r : List Nat} (R : RowsW names web n rows) (nd : names.Nodup) (wok : WebOk web) (ln : n < names.length) (er : web[n]? = some r) : chkE (kn rows) [] (r.map (nmz names)) = none := by
  have wr := wok.row n r er
  refine chkE_none (fun z hz => ?_) (nmz_nodup nd wr.1 fun a ha => by have := wr.2.1 a ha; omega) (fun z _ h => by cases h)
  obtain ⟨a, ha, rfl⟩ := List.mem_map.mp hz
  have la := wr.2.1 a ha
  exact R.known.mpr ⟨a, la, nmz_at (by omega)⟩
theorem RowsW.len {names : List Str} {web : List (List Nat)} {n : Nat} {rows : List URow} (R : RowsW names web n rows) : rows.length ≤ n := by
  have := congrArg List.length R.nms
  rw [List.length_map, List.length_take] at this
  omega
/-- a row of a web, found in its list -/
theorem web_row {F : Hp} {us : List V} {web : List (List Nat)} {t : Nat} {r : List Nat} (du : DqAll F us (web.map rowD)) (er : web[t]? = some r) : ∃ rw_, us[t]? = some (.ref rw_) ∧ F rw_ = some (.lst (rowI r)) := by
  have lu : us.length = web.length := by rw [du.len, List.length_map]
  have lt := (List.getElem?_eq_some_iff.mp er).1
  have ev : us[t]? = some us[t] := List.getElem?_eq_getElem (by omega)
  obtain ⟨d', hd', dv⟩ := du.get ev
  rw [List.getElem?_map, er] at hd'
  injection hd' with hd'
  subst hd'
  obtain ⟨rw_, e, hrw⟩ := row_at dv
  exact ⟨rw_, by rw [ev, e], hrw⟩

/-! ### the order of a web -/
section
variable {P : Program} {w : World} {K : PySem.W.Frag} {mg : Str → Option Value} {base : Heap}
def sp_l_put_all (T : Txt K mg) : Sp := fun vs H Q _ => ∃ (wl nm : Addr) (us : List V) (web : List (List Nat)) (names : List Str), vs = [.ref wl, .ref nm] ∧ H wl = some (.lst us) ∧ DqAll H us (web.map rowD) ∧ WebOk web ∧ H nm = some (.lst (names.map V.str)) ∧ NmC names ∧ web.length ≤ names.length ∧ names.length ≤ 20 ∧
  ∀ A F' H' rows, Same H F' → St1 T A F' H' rows → RowsW names web web.length rows → Q (.ref A.a) H'
theorem sp_l_put_all_len {T : Txt K mg} {vs H Q E} (h : sp_l_put_all T vs H Q E) : vs.length = 2 := by
  obtain ⟨_, _, _, _, _, rfl, _⟩ := h
  rfl
theorem ok_l_put_all (T : Txt K mg) : FnOk P w K mg base CX0 5 T.f_l_put_all T.fd_l_put_all ["web", "names"] (sp_l_put_all T) := by
  refine T.F_l_put_all.ok sc_l_put_all (fun vs H Q E h => sp_l_put_all_len h) (fun cdv A outer s H vs Q E hr h => ?_)
  refine ⟨_, (pss_cons (ps_set (i := 2) sc_l_put_all.nd rfl (.inl rfl) (pe_make0 T.Mk_Order (ok_Order___init__ T) (hr.mono (by decide)) (by rfl) T.g_Order T.b_Order___init__ .nil pass0))
      (pss_cons (ps_for PassesOwn.never rfl (pi_range1 rfl T.m_range (pa_cons (pe_callB (cr_lenK K) (by rfl) T.m_len (by decide +kernel) (pa_cons (pv 0) pa_nil)) pa_nil)) (pg_name (i := 3) sc_l_put_all.nd rfl (.inl rfl)) (pss_cons (ps_setLc (i := 4) (own := [("one", 5)]) (g := gName 5) (tt := tYes) rfl sc_l_put_all.nd rfl rfl (sw_true rfl rfl rfl (by decide +kernel)) (k_il K (pi_list (pe_ix (ix_K K (hu_of hr)) (pv 0) (pv 3) (fun _ _ => rfl)))) (blkOk_by (N := n_l_put_all) (sc := defScope s_l_put_all) (by decide +kernel)) (fun _ _ _ _ _ => (pg_name (i := 5) sc_l_put_all.nd rfl (.inl rfl))) (fun _ _ _ _ _ => pts_nil) (fun _ _ _ _ _ => (pe_ix (ix_K K (hu_of hr)) (pv 1) (pv 5) (fun _ _ => rfl))))
      (pss_one (ps_expr (pe_methW (pv 2) T.cl_Order T.M_Order_put (ok_Order_put T) (hr.mono (by decide)) T.b_Order_put (pass0S (E := fun _ => E0)) (pa_cons (pe_ix (ix_K K (hu_of hr)) (pv 1) (pv 3) (fun _ _ => rfl)) (pa_cons (pv 4) pa_nil)))))))
      (pss_one (ps_ret (pv 2))))), ?_⟩
  obtain ⟨wl, nm, us, web, names, rfl, hwl, du, wok, hnm, nms, lw, ln, q⟩ := h
  have hH := Has.start H
  have lu : us.length = web.length := by rw [du.len, List.length_map]
  refine g_start (σ' := [some (.ref wl), some (.ref nm), none, none, none, none]) rfl ?_
  walk_at "gg"
  refine g_kmake hH (fun a1 x1 H8 n8 h8 => ?_)
  refine ⟨a1, x1, H, rfl, h8, fun e1 nl1 H9 F9 nd9 hb9 g9 h9 fnl1 => ⟨rfl, ?_⟩⟩
  have st : St1 T ⟨a1, x1, e1⟩ F9 H9 [] := ⟨nl1, [], h9, OrdOk.empty fnl1⟩
  have sF := g9.1
  generalize F9 = F at st sF
  clear h8 h9 fnl1 g9
  walk_at "gg"
  refine g_lenL (st.same _ _ (sF _ _ hwl)) ?_
  rw [lu]
  walk_at "gg"
  refine k_forR1 (fun t σ H' => ∃ (F : Hp) (rows : List URow) (y3 y4 : Option V), σ = [some (.ref wl), some (.ref nm), some (.ref a1), y3, y4, none] ∧ Same H F ∧ St1 T ⟨a1, x1, e1⟩ F H' rows ∧ RowsW names web t rows)
    (by omega) (by omega) ⟨F, [], _, _, rfl, sF, st, RowsW.zero⟩ ?_ ?_
  · rintro t σ H2 ht ⟨F, rows, y3, y4, rfl, sF, st, R⟩
    have ht : t < web.length := by omega
    have ex : names[t]? = some (nmz names t) := nmz_at (by omega)
    generalize nmz names t = x at ex
    have er : web[t]? = some web[t] := List.getElem?_eq_getElem ht
    generalize web[t] = r at er
    have wr := wok.row t r er
    obtain ⟨rw_, ev, hrw⟩ := web_row (du.up sF _ _) er
    have ltr : ∀ a ∈ r, a < names.length := fun a ha => by have := wr.2.1 a ha; omega
    have hnm2 := st.same _ _ (sF _ _ hnm)
    have hg := st.same _ _ hrw
    have hH2 := Has.start H2
    walk_at "gg"
    refine g_ixL (v := .ref rw_) (st.same _ _ (sF _ _ hwl)) (atI_nat ev) ?_
    refine k_lcL hg hH2 (fun j acc F' O' => acc = ((r.take j).map (nmz names)).map V.str ∧ F' = H2 ∧ O' = []) ⟨rfl, rfl, rfl⟩ ?_ ?_ ?_
    · rintro j acc F' O' H4 ⟨_, rfl, rfl⟩ hh
      exact hh.same _ _ hg
    · rintro j v acc F' O' D H4 hv ⟨rfl, rfl, rfl⟩ hh
      unfold rowI at hv
      rw [List.getElem?_map] at hv
      obtain ⟨b, hb, rfl⟩ := Option.map_eq_some_iff.mp hv
      have ez := nmz_at (ltr b (List.mem_of_getElem? hb))
      walk_at "gg"
      refine g_ixL (v := .str (nmz names b)) (hh.same _ _ hnm2) (atI_nat (by rw [List.getElem?_map, ez]; rfl)) ?_
      refine k_turn hh (by rw [List.length_map, List.length_map, List.length_take]; have := wr.2.2; omega) ⟨?_, rfl, rfl⟩
      rw [map_take1 (nmz names) hb, List.map_append]
      rfl
    rintro acc F' O' pl H4 ⟨rfl, rfl, rfl⟩ hh
    unfold rowI at hh
    rw [List.length_map, List.take_length] at hh
    obtain ⟨F4, sF4, f4, st⟩ := st.made hh.free hh.same (hh.get (List.Mem.head _))
    obtain ⟨nl, ins⟩ := st.ins
    walk_at "gg"
    refine g_kmeth ins rfl ?_
    walk_at "gg"
    refine g_ixL (v := .str x) (st.same _ _ (sF4 _ _ (sF _ _ hnm))) (atI_nat (by rw [List.getElem?_map, ex]; rfl)) ?_
    walk_at "gg"
    refine St1.put (A := ⟨a1, x1, e1⟩) st f4 (nms.ok x (List.mem_of_getElem? ex)) (R.fresh nms.nd ex) (chk_row R nms.nd wok (by omega) er) (by rw [List.length_map]; have := wr.2.2; omega) (by have := R.len; omega) (fun H5 F5 us s5 st pu => ?_)
    walk_at "gg"
    exact ⟨F5, _, _, _, rfl, (sF.trans sF4).trans s5, st, R.put nms.nd wok ex er pu⟩
  rintro σ H2 ⟨F, rows, y3, y4, rfl, sF, st, R⟩
  have e5 : (web.length : Int).toNat = web.length := by omega
  rw [e5] at R
  walk_at "gg"
  exact q ⟨a1, x1, e1⟩ F H2 rows sF st R
end

end K29

namespace K29
open PySem PySem.Spec PyProof.Rows L2 Qk
local macro_rules | `(tactic| walk_at "m") => `(tactic| ((repeat (first | exact List.Mem.head _ | apply List.Mem.tail)); done))
local macro_rules | `(tactic| walk_at "h") => `(tactic| first | assumption | exact Has.gF (by assumption) (by assumption) | exact Has.get (by assumption) (by walk_at "m"))
local macro_rules | `(tactic| walk_at "c") => `(tactic| ((repeat (first | exact Chg.hd | apply Chg.tl)); done))
local macro_rules | `(tactic| walk_at "is") => `(tactic| first
  | ((with_reducible refine' is2_non ?gh ?_); (case gh => walk_at "h"))
  | (with_reducible refine is_int_list ?_)
  | (with_reducible refine is_int_tuple ?_)
  | (with_reducible refine is_int_dict ?_)
  | (with_reducible refine is_int_int ?_)
  | (with_reducible refine is_int_bool ?_)
  | (with_reducible refine is_int_str ?_)
  | ((with_reducible refine' is2_int ?gh ?_); (case gh => walk_at "h"))
  | (with_reducible refine is_str_list ?_)
  | (with_reducible refine is_str_tuple ?_)
  | (with_reducible refine is_str_dict ?_)
  | (with_reducible refine is_str_int ?_)
  | (with_reducible refine is_str_bool ?_)
  | (with_reducible refine is_str_str ?_)
  | ((with_reducible refine' is2_str ?gh ?_); (case gh => walk_at "h"))
  | (with_reducible refine is_bool_list ?_)
  | (with_reducible refine is_bool_tuple ?_)
  | (with_reducible refine is_bool_dict ?_)
  | (with_reducible refine is_bool_int ?_)
  | (with_reducible refine is_bool_bool ?_)
  | (with_reducible refine is_bool_str ?_)
  | ((with_reducible refine' is2_bool ?gh ?_); (case gh => walk_at "h"))
  | ((with_reducible refine' is_list_list ?gh ?_); (case gh => walk_at "h"))
  | ((with_reducible refine' is_list_tuple ?gh ?_); (case gh => walk_at "h"))
  | ((with_reducible refine' is_list_dict ?gh ?_); (case gh => walk_at "h"))
  | ((with_reducible refine' is_list_int ?gh ?_); (case gh => walk_at "h"))
  | ((with_reducible refine' is_list_bool ?gh ?_); (case gh => walk_at "h"))
  | ((with_reducible refine' is_list_str ?gh ?_); (case gh => walk_at "h"))
  | ((with_reducible refine' is2_list ?ga ?gb ?_); (case ga => walk_at "h"); (case gb => walk_at "h"))
  | ((with_reducible refine' is_tuple_list ?gh ?_); (case gh => walk_at "h"))
  | ((with_reducible refine' is_tuple_tuple ?gh ?_); (case gh => walk_at "h"))
  | ((with_reducible refine' is_tuple_dict ?gh ?_); (case gh => walk_at "h"))
  | ((with_reducible refine' is_tuple_int ?gh ?_); (case gh => walk_at "h"))
  | ((with_reducible refine' is_tuple_bool ?gh ?_); (case gh => walk_at "h"))
  | ((with_reducible refine' is_tuple_str ?gh ?_); (case gh => walk_at "h"))
  | ((with_reducible refine' is2_tuple ?ga ?gb ?_); (case ga => walk_at "h"); (case gb => walk_at "h"))
  | ((with_reducible refine' is_dict_list ?gh ?_); (case gh => walk_at "h"))
  | ((with_reducible refine' is_dict_tuple ?gh ?_); (case gh => walk_at "h"))
  | ((with_reducible refine' is_dict_dict ?gh ?_); (case gh => walk_at "h"))
  | ((with_reducible refine' is_dict_int ?gh ?_); (case gh => walk_at "h"))
  | ((with_reducible refine' is_dict_bool ?gh ?_); (case gh => walk_at "h"))
  | ((with_reducible refine' is_dict_str ?gh ?_); (case gh => walk_at "h"))
  | ((with_reducible refine' is2_dict ?ga ?gb ?_); (case ga => walk_at "h"); (case gb => walk_at "h")))
local macro_rules | `(tactic| walk_at "g") => `(tactic| first
  | (with_reducible refine g_seq ?_)
  | (with_reducible refine g_asg ?_)
  | ((with_reducible refine g_name ?_); dsimp only [List.set, wipe, List.map])
  | ((with_reducible refine' g_var ?gv ?_); (case gv => exact rfl))
  | (with_reducible refine g_c ?_)
  | (with_reducible refine g_op ?_)
  | (with_reducible refine g_cons ?_)
  | (with_reducible refine g_nil ?_)
  | (with_reducible refine g_cb ?_)
  | (with_reducible refine g_call ?_)
  | (with_reducible refine g_tup ?_)
  | (with_reducible refine g_lst ?_)
  | (with_reducible refine g_bm ?_)
  | (with_reducible refine g_bm0 ?_)
  | ((with_reducible refine' g_kbm ?gh ?_); (case gh => walk_at "h"))
  | (with_reducible refine g_drop ?_)
  | (with_reducible refine g_ret ?_)
  | (with_reducible refine g_retN ?_)
  | (with_reducible refine g_next ?_)
  | (with_reducible refine g_brk ?_)
  | (with_reducible refine g_cont ?_)
  | (with_reducible refine g_if ?_)
  | ((with_reducible refine' g_aug ?gv ?_); (case gv => exact rfl))
  | (with_reducible refine g_ipI ?_)
  | (with_reducible refine g_test ?_)
  | (with_reducible refine g_tB ?_)
  | (with_reducible refine g_kB ?_)
  | (with_reducible refine g_not ?_)
  | (with_reducible refine g_and ?_)
  | (with_reducible refine g_or ?_)
  | (with_reducible refine g_andV ?_)
  | (with_reducible refine g_orV ?_)
  | (with_reducible refine g_notV ?_)
  | (with_reducible refine g_ifE ?_)
  | (with_reducible refine g_addI ?_)
  | (with_reducible refine g_rI0 ?_)
  | (with_reducible refine g_eqI ?_)
  | (with_reducible refine g_eqS ?_)
  | (with_reducible refine g_neI ?_)
  | (with_reducible refine g_neS ?_)
  | (with_reducible refine g_isN ?_)
  | (with_reducible refine g_notN ?_)
  | (with_reducible refine g_int ?_)
  | (with_reducible refine g_max2 ?_)
  | (with_reducible refine g_min2 ?_)
  | ((with_reducible refine' g_lenL ?gh ?_); (case gh => walk_at "h"))
  | (with_reducible refine g_sub ?_)
  | (with_reducible refine g_gcons ?_)
  | (with_reducible refine g_gnil ?_)
  | (with_reducible refine g_un ?_)
  | (with_reducible refine g_rU ?_)
  | (with_reducible refine g_forL ?_)
  | (with_reducible refine g_forS ?_)
  | (with_reducible refine g_forR1 ?_)
  | (with_reducible refine g_forR2 ?_)
  | (with_reducible refine g_forR3 ?_)
  | (with_reducible refine g_lcL ?_)
  | (with_reducible refine g_lcR1 ?_)
  | (with_reducible refine g_lcR2 ?_)
  | (with_reducible refine g_slice ?_)
  | (with_reducible refine g_part ?_)
  | (with_reducible refine g_kOI ?_)
  | (with_reducible refine g_nopart ?_)
  | (with_reducible refine g_yes ?_)
  | ((with_reducible refine' g_wipe ?gv ?_); (case gv => exact rfl))
  | (with_reducible refine iteT ?_)
  | (with_reducible refine iteF ?_)
  | (with_reducible refine i_nf ?_)
  | (with_reducible refine i_nt ?_)
  | ((with_reducible refine' g_gtup ?gh ?gl ?_); (case gh => walk_at "h"); (case gl => exact rfl))
  | ((with_reducible refine' g_notinI ?gh ?_); (case gh => walk_at "h"))
  | ((with_reducible refine' g_inI ?gh ?_); (case gh => walk_at "h"))
  | ((with_reducible refine' g_kget2 ?gh ?_); (case gh => walk_at "h"))
  | ((with_reducible refine' g_kgotI ?gh ?_); (case gh => walk_at "h"))
  | (with_reducible refine g_tRev ?_)
  | (with_reducible refine g_neB ?_)
  | (with_reducible refine g_eqB ?_)
  | ((with_reducible refine' g_lenT ?gh ?_); (case gh => walk_at "h"))
  | (with_reducible refine g_star ?_)
  | ((with_reducible refine' g_kstarL ?gh ?_); (case gh => walk_at "h"))
  | ((with_reducible refine' g_kstarT ?gh ?_); (case gh => walk_at "h"))
  | (with_reducible refine g_tru ?_)
  | ((with_reducible refine' g_truL ?gh ?_); (case gh => walk_at "h"))
  | (with_reducible refine g_get2 ?_)
  | (with_reducible refine g_try ?_)
  | (with_reducible refine g_fld ?_)
  | (with_reducible refine g_sfld ?_)
  | (with_reducible refine g_meth ?_)
  | (with_reducible refine g_make ?_)
  | (with_reducible refine g_del ?_)
  | (with_reducible refine g_callS ?_)
  | (with_reducible refine g_raise ?_)
  | (with_reducible refine g_xf ?_)
  | (with_reducible refine g_m0 ?_)
  | (with_reducible refine g_km0 ?_)
  | walk_at "is")
local macro_rules | `(tactic| walk_at "gg") => `(tactic| repeat walk_at "g")
local macro_rules | `(tactic| walk_at "sz") => `(tactic| (refine sz ?_; simp only [List.length_cons, List.length_nil, List.length_map, List.length_append, List.length_replicate]; omega))
local macro_rules | `(tactic| walk_at "sub") => `(tactic| ((repeat (first | exact List.Sublist.slnil | with_reducible apply List.Sublist.cons_cons | with_reducible apply List.Sublist.cons)); done))

/-! ### what is below each name, by the law's own walk -/
/-- a dict of lists of names -/
structure UdOk (F : Hp) (kvs : List (Key × V)) (ls : List URow) : Prop where
  keys : kvs.map (·.1) = ls.map fun r => (Sum.inr r.1 : Key)
  vals : DqAll F (kvs.map (·.2)) (ls.map uD)
  nd : ∀ r ∈ ls, r.2.Nodup
theorem UdOk.mono {F F' : Hp} {kvs : List (Key × V)} {ls : List URow} (h : UdOk F kvs ls) (s : Same F F') : UdOk F' kvs ls := ⟨h.keys, h.vals.up s _ _, h.nd⟩
theorem UdOk.look {F : Hp} {kvs : List (Key × V)} {ls : List URow} {x : Str} {u : List Str} (h : UdOk F kvs ls) (e : undr ls x = some u) : ∃ l, valV kvs (.inr x) = some (.ref l) ∧ F l = some (.lst (u.map V.str)) := (look_at h.keys h.vals).1 u e
theorem UdOk.len {F : Hp} {kvs : List (Key × V)} {ls : List URow} (h : UdOk F kvs ls) : kvs.length = ls.length := by
  have := congrArg List.length h.keys
  rw [List.length_map, List.length_map] at this
  exact this
theorem nodup_few {names us : List Str} (n : us.Nodup) (h : ∀ z ∈ us, z ∈ names) (l : names.length ≤ 20) : us.length ≤ 20 := by
  have := length_le_of_nodup_of_subset us names n h
  omega
section
variable {P : Program} {w : World} {K : PySem.W.Frag} {mg : Str → Option Value} {base : Heap}
def sp_l_below_all (T : Txt K mg) : Sp := fun vs H Q _ => ∃ (wl nm : Addr) (us : List V) (web : List (List Nat)) (names : List Str), vs = [.ref wl, .ref nm] ∧ H wl = some (.lst us) ∧ DqAll H us (web.map rowD) ∧ WebOk web ∧ H nm = some (.lst (names.map V.str)) ∧ NmC names ∧ web.length ≤ names.length ∧ names.length ≤ 20 ∧
  ∀ u H' kvs ls, Same H H' → H u = none → H' u = some (.dK kvs) → UdOk H' kvs ls → RowsW names web web.length ls → Q (.ref u) H'
theorem sp_l_below_all_len {T : Txt K mg} {vs H Q E} (h : sp_l_below_all T vs H Q E) : vs.length = 2 := by
  obtain ⟨_, _, _, _, _, rfl, _⟩ := h
  rfl
set_option maxHeartbeats 1000000 in
theorem ok_l_below_all (T : Txt K mg) : FnOk P w K mg base CX0 1 T.f_l_below_all T.fd_l_below_all ["web", "names"] (sp_l_below_all T) := by
  refine T.F_l_below_all.ok sc_l_below_all (fun vs H Q E h => sp_l_below_all_len h) (fun cdv A outer s H vs Q E hr h => ?_)
  refine ⟨_, (pss_cons (ps_set (i := 2) sc_l_below_all.nd rfl (.inl rfl) pe_dnewK)
      (pss_cons (ps_for PassesOwn.never rfl (pi_range1 rfl T.m_range (pa_cons (pe_callB (cr_lenK K) (by rfl) T.m_len (by decide +kernel) (pa_cons (pv 0) pa_nil)) pa_nil)) (pg_name (i := 3) sc_l_below_all.nd rfl (.inl rfl)) (pss_cons (ps_set (i := 4) sc_l_below_all.nd rfl (.inr rfl) (pe_lst (pa_cons (pe_ix (ix_K K (hu_of hr)) (pv 1) (pv 3) (fun _ _ => rfl)) pa_nil)))
      (pss_cons (ps_for PassesOwn.never rfl (k_il K (pi_list (pe_ix (ix_K K (hu_of hr)) (pv 0) (pv 3) (fun _ _ => rfl)))) (pg_name (i := 5) sc_l_below_all.nd rfl (.inl rfl)) (pss_cons (ps_set (i := 6) sc_l_below_all.nd rfl (.inl rfl) (pe_ix (ix_K K (hu_of hr)) (pv 2) (pe_ix (ix_K K (hu_of hr)) (pv 1) (pv 5) (fun _ _ => rfl)) (fun _ _ => rfl)))
      (pss_one (ps_set (i := 4) sc_l_below_all.nd rfl (.inr rfl) (pe_op (op_addK K) (pv 4) (pe_lc (own := [("name", 7)]) (g := gName 7) rfl sc_l_below_all.nd (k_il K (pi_list (pv 6))) (blkOk_by (N := n_l_below_all) (sc := defScope s_l_below_all) (by decide +kernel)) (fun _ _ _ _ _ => (pg_name (i := 7) sc_l_below_all.nd rfl (.inl rfl))) (fun _ _ _ _ _ => (pts_one (pt_cmpR (op_notinM K P w hr.units (u65 hr)) (pv 7) (pv 4) (by rfl)))) (fun _ _ _ _ _ => (pv 7))))))))
      (pss_one (ps_asg (pv 4) (pg_sub (pv 2) (pe_ix (ix_K K (hu_of hr)) (pv 1) (pv 3) (fun _ _ => rfl)) (set_any (hu_of hr))))))))
      (pss_one (ps_ret (pv 2))))), ?_⟩
  obtain ⟨wl, nm, us, web, names, rfl, hwl, du, wok, hnm, nms, lw, ln, q⟩ := h
  have hH := Has.start H
  have lu : us.length = web.length := by rw [du.len, List.length_map]
  refine g_start (σ' := [some (.ref wl), some (.ref nm), none, none, none, none, none, none]) rfl ?_
  walk_at "gg"
  refine g_dnewK hH (fun u H1 n1 h1 => ?_)
  walk_at "gg"
  rw [lu]
  refine k_forR1 (fun t σ H' => ∃ (F : Hp) (kvs : List (Key × V)) (ls : List URow) (y3 y4 y5 y6 : Option V), σ = [some (.ref wl), some (.ref nm), some (.ref u), y3, y4, y5, y6, none] ∧ Same H F ∧ Has F [(u, .dK kvs)] H' ∧ UdOk F kvs ls ∧ RowsW names web t ls)
    (by omega) (by omega) ⟨H, [], [], _, _, _, _, rfl, Same.refl _, h1, ⟨rfl, .nil, fun r h => by cases h⟩, RowsW.zero⟩ ?_ ?_
  · rintro t σ H2 ht ⟨F, kvs, ls, y3, y4, y5, y6, rfl, sF, h2, ud, R⟩
    have ht : t < web.length := by omega
    have ex : names[t]? = some (nmz names t) := nmz_at (by omega)
    generalize nmz names t = x at ex
    have er : web[t]? = some web[t] := List.getElem?_eq_getElem ht
    generalize web[t] = r at er
    have wr := wok.row t r er
    obtain ⟨rw_, ev, hrw⟩ := web_row (du.up sF _ _) er
    walk_at "gg"
    refine g_ixL (v := .str x) (h2.same _ _ (sF _ _ hnm)) (atI_nat (by rw [List.getElem?_map, ex]; rfl)) ?_
    walk_at "gg"
    refine g_klstF (by walk_at "sz") h2 (fun lo H3 F3 n3 s3 flo h3 => ?_)
    walk_at "gg"
    refine g_ixL (v := .ref rw_) (h3.same _ _ (s3 _ _ (sF _ _ hwl))) (atI_nat ev) ?_
    have ud3 := ud.mono s3
    refine k_forL (h3.same _ _ (s3 _ _ hrw)) (fun i σ H' => ∃ (F : Hp) (lo : Addr) (low : List Str) (y5 y6 : Option V), σ = [some (.ref wl), some (.ref nm), some (.ref u), some (.int (t : Int)), some (.ref lo), y5, y6, none] ∧ Same F3 F ∧ Has F [(u, .dK kvs)] H' ∧ F lo = some (.lst (low.map V.str)) ∧ low.Nodup ∧ ∀ z, z ∈ low ↔ z = x ∨ ∃ a ∈ r.take i, Dn names web a z)
      ⟨F3, lo, [x], _, _, rfl, Same.refl _, h3, flo, List.nodup_cons.mpr ⟨fun h => (by cases h), List.nodup_nil⟩, fun z => by simp⟩ ?_ ?_ ?_
    · rintro i σ H' _ ⟨F, lo, low, y5, y6, rfl, sF', h4, _⟩
      exact h4.same _ _ (sF' _ _ (s3 _ _ hrw))
    · rintro i vv σ H4 hv ⟨F4, lo, low, y5, y6, rfl, sF4, h4, flo, ndl, ml⟩
      unfold rowI at hv
      rw [List.getElem?_map] at hv
      obtain ⟨b, hb, rfl⟩ := Option.map_eq_some_iff.mp hv
      have lb := wr.2.1 b (List.mem_of_getElem? hb)
      have ez := nmz_at (names := names) (a := b) (by omega)
      obtain ⟨more, em, mm⟩ := R.und b _ lb ez
      obtain ⟨l, el, hl⟩ := (ud3.mono sF4).look em
      have sH := sF.trans (s3.trans sF4)
      have ndm := ud.nd _ (undr_mem em)
      have lmo : more.length ≤ 20 := nodup_few ndm (fun z hz => ((mm z).mp hz).mem) ln
      have llo := nodup_few ndl (fun z hz => by
        rcases (ml z).mp hz with rfl | ⟨a, _, d⟩
        · exact List.mem_of_getElem? ex
        · exact d.mem) ln
      walk_at "gg"
      refine g_ixL (v := .str (nmz names b)) (h4.same _ _ (sH _ _ hnm)) (atI_nat (by rw [List.getElem?_map, ez]; rfl)) ?_
      refine g_ixDS (h4.get (List.Mem.head _)) el ?_
      walk_at "gg"
      refine k_lcL (h4.same _ _ hl) h4 (fun j acc F' O' => acc = ((more.take j).filter fun z => !decide (z ∈ low)).map V.str ∧ F' = F4 ∧ O' = [(u, .dK kvs)]) ⟨rfl, rfl, rfl⟩ ?_ ?_ ?_
      · rintro j acc F' O' H5 ⟨_, rfl, rfl⟩ hh
        exact hh.same _ _ hl
      · rintro j xx acc F' O' D H5 hx ⟨rfl, rfl, rfl⟩ hh
        obtain ⟨z, hz, rfl⟩ := str_at hx
        walk_at "gg"
        refine g_notinM (g_notinFL (hh.same _ _ flo) rfl (flat_strs _) ?_)
        rw [inV_strs]
        walk_at "gg"
        have st : (more.take (j + 1)).filter (fun z => !decide (z ∈ low)) = (more.take j).filter (fun z => !decide (z ∈ low)) ++ [z].filter (fun z => !decide (z ∈ low)) := by
          rw [List.take_add_one, hz, List.filter_append]
          rfl
        refine i_n (fun ne => ?_) (fun e => ?_)
        · walk_at "gg"
          refine k_turn hh ?_ ⟨?_, rfl, rfl⟩
          · rw [List.length_map]
            have := List.length_filter_le (fun z => !decide (z ∈ low)) (more.take j)
            rw [List.length_take] at this
            omega
          · rw [st, List.map_append, List.filter_cons_of_pos (by simpa using ne)]
            rfl
        · refine k_skip hh ⟨?_, rfl, rfl⟩
          rw [st, List.filter_cons_of_neg (by simpa using e)]
          rw [List.filter_nil, List.append_nil]
      rintro acc F' O' p H5 ⟨rfl, rfl, rfl⟩ h5
      rw [List.length_map, List.take_length] at h5
      have lf := List.length_filter_le (fun z => !decide (z ∈ low)) more
      refine g_addL (h5.same _ _ flo) (h5.get (List.Mem.head _)) (sz (by rw [List.length_map, List.length_map]; omega)) h5 (fun lo2 H6 n6 h6 => ?_)
      rw [← List.map_append] at h6
      have h6' := (h6.sub (O' := [(lo2, .lst ((low ++ more.filter fun z => !decide (z ∈ low)).map V.str)), (u, .dK kvs)]) (by walk_at "sub")).frz
      have s6 := (h6.sub (O' := [(lo2, .lst ((low ++ more.filter fun z => !decide (z ∈ low)).map V.str)), (u, .dK kvs)]) (by walk_at "sub")).grow
      have flo2 : upd F' lo2 (.lst ((low ++ more.filter fun z => !decide (z ∈ low)).map V.str)) lo2 = some (.lst ((low ++ more.filter fun z => !decide (z ∈ low)).map V.str)) := upd_same
      generalize upd F' lo2 (.lst ((low ++ more.filter fun z => !decide (z ∈ low)).map V.str)) = F6 at h6' s6 flo2
      walk_at "gg"
      refine ⟨F6, lo2, _, _, _, rfl, sF4.trans s6, h6', flo2, ?_, fun z => ?_⟩
      · rw [List.nodup_append]
        refine ⟨ndl, ndm.sublist List.filter_sublist, fun a ha b' hb' e => ?_⟩
        have := (List.mem_filter.mp hb').2
        rw [← e] at this
        simp [ha] at this
      · rw [List.mem_append, List.mem_filter, mm z, List.take_add_one, hb]
        simp only [Option.toList_some, List.mem_append, List.mem_singleton]
        constructor
        · rintro (h | ⟨d, _⟩)
          · rcases (ml z).mp h with h | ⟨a, ha, d⟩
            · exact .inl h
            · exact .inr ⟨a, .inl ha, d⟩
          · exact .inr ⟨b, .inr rfl, d⟩
        · intro h
          by_cases c : z ∈ low
          · exact .inl c
          · rcases h with h | ⟨a, ha | rfl, d⟩
            · exact .inl ((ml z).mpr (.inl h))
            · exact .inl ((ml z).mpr (.inr ⟨a, ha, d⟩))
            · exact .inr ⟨d, by simpa using c⟩
    · rintro σ H4 ⟨F4, lo, low, y5, y6, rfl, sF4, h4, flo, ndl, ml⟩
      unfold rowI at ml
      rw [List.length_map, List.take_length] at ml
      have sH := sF.trans (s3.trans sF4)
      walk_at "gg"
      refine g_ixL (v := .str x) (h4.same _ _ (sH _ _ hnm)) (atI_nat (by rw [List.getElem?_map, ex]; rfl)) ?_
      have lk := ud.len
      have ll := R.len
      refine g_stD (k := .inr x) rfl h4 .hd (szl (by omega)) (fun H5 h5 => ?_)
      have vn : valV kvs (.inr x) = none := (look_at ud.keys ud.vals).2 (R.fresh nms.nd ex)
      rw [putK_new _ vn] at h5
      refine ⟨F4, _, ls ++ [(x, low)], _, _, _, _, rfl, sH, h5, ⟨?_, ?_, fun r' hr' => ?_⟩, R.step nms.nd wok ex er ml⟩
      · rw [List.map_append, List.map_append, ud.keys]; rfl
      · rw [List.map_append, List.map_append]
        exact ((ud3.mono sF4).vals).snoc (Dq.strs flo)
      · rcases List.mem_append.mp hr' with h | h
        · exact ud.nd _ h
        · rw [List.mem_singleton.mp h]; exact ndl
  rintro σ H2 ⟨F, kvs, ls, y3, y4, y5, y6, rfl, sF, h2, ud, R⟩
  have e5 : (web.length : Int).toNat = web.length := by omega
  rw [e5] at R
  walk_at "gg"
  exact q u H2 kvs ls (sF.trans h2.same) n1 (h2.get (List.Mem.head _)) (ud.mono h2.same) R
end

end K29

namespace K29
open PySem PySem.Spec PyProof.Rows L2 Qk
local macro_rules | `(tactic| walk_at "m") => `(tactic| ((repeat (first | exact List.Mem.head _ | apply List.Mem.tail)); done))
local macro_rules | `(tactic| walk_at "h") => `(tactic| first | assumption | exact Has.gF (by assumption) (by assumption) | exact Has.get (by assumption) (by walk_at "m"))
local macro_rules | `(tactic| walk_at "c") => `(tactic| ((repeat (first | exact Chg.hd | apply Chg.tl)); done))
local macro_rules | `(tactic| walk_at "is") => `(tactic| first
  | ((with_reducible refine' is2_non ?gh ?_); (case gh => walk_at "h"))
  | (with_reducible refine is_int_list ?_)
  | (with_reducible refine is_int_tuple ?_)
  | (with_reducible refine is_int_dict ?_)
  | (with_reducible refine is_int_int ?_)
  | (with_reducible refine is_int_bool ?_)
  | (with_reducible refine is_int_str ?_)
  | ((with_reducible refine' is2_int ?gh ?_); (case gh => walk_at "h"))
  | (with_reducible refine is_str_list ?_)
  | (with_reducible refine is_str_tuple ?_)
  | (with_reducible refine is_str_dict ?_)
  | (with_reducible refine is_str_int ?_)
  | (with_reducible refine is_str_bool ?_)
  | (with_reducible refine is_str_str ?_)
  | ((with_reducible refine' is2_str ?gh ?_); (case gh => walk_at "h"))
  | (with_reducible refine is_bool_list ?_)
  | (with_reducible refine is_bool_tuple ?_)
  | (with_reducible refine is_bool_dict ?_)
  | (with_reducible refine is_bool_int ?_)
  | (with_reducible refine is_bool_bool ?_)
  | (with_reducible refine is_bool_str ?_)
  | ((with_reducible refine' is2_bool ?gh ?_); (case gh => walk_at "h"))
  | ((with_reducible refine' is_list_list ?gh ?_); (case gh => walk_at "h"))
  | ((with_reducible refine' is_list_tuple ?gh ?_); (case gh => walk_at "h"))
  | ((with_reducible refine' is_list_dict ?gh ?_); (case gh => walk_at "h"))
  | ((with_reducible refine' is_list_int ?gh ?_); (case gh => walk_at "h"))
  | ((with_reducible refine' is_list_bool ?gh ?_); (case gh => walk_at "h"))
  | ((with_reducible refine' is_list_str ?gh ?_); (case gh => walk_at "h"))
  | ((with_reducible refine' is2_list ?ga ?gb ?_); (case ga => walk_at "h"); (case gb => walk_at "h"))
  | ((with_reducible refine' is_tuple_list ?gh ?_); (case gh => walk_at "h"))
  | ((with_reducible refine' is_tuple_tuple ?gh ?_); (case gh => walk_at "h"))
  | ((with_reducible refine' is_tuple_dict ?gh ?_); (case gh => walk_at "h"))
  | ((with_reducible refine' is_tuple_int ?gh ?_); (case gh => walk_at "h"))
  | ((with_reducible refine' is_tuple_bool ?gh ?_); (case gh => walk_at "h"))
  | ((with_reducible refine' is_tuple_str ?gh ?_); (case gh => walk_at "h"))
  | ((with_reducible refine' is2_tuple ?ga ?gb ?_); (case ga => walk_at "h"); (case gb => walk_at "h"))
  | ((with_reducible refine' is_dict_list ?gh ?_); (case gh => walk_at "h"))
  | ((with_reducible refine' is_dict_tuple ?gh ?_); (case gh => walk_at "h"))
  | ((with_reducible refine' is_dict_dict ?gh ?_); (case gh => walk_at "h"))
  | ((with_reducible refine' is_dict_int ?gh ?_); (case gh => walk_at "h"))
  | ((with_reducible refine' is_dict_bool ?gh ?_); (case gh => walk_at "h"))
  | ((with_reducible refine' is_dict_str ?gh ?_); (case gh => walk_at "h"))
  | ((with_reducible refine' is2_dict ?ga ?gb ?_); (case ga => walk_at "h"); (case gb => walk_at "h")))
local macro_rules | `(tactic| walk_at "g") => `(tactic| first
  | (with_reducible refine g_seq ?_)
  | (with_reducible refine g_asg ?_)
  | ((with_reducible refine g_name ?_); dsimp only [List.set, wipe, List.map])
  | ((with_reducible refine' g_var ?gv ?_); (case gv => exact rfl))
  | (with_reducible refine g_c ?_)
  | (with_reducible refine g_op ?_)
  | (with_reducible refine g_cons ?_)
  | (with_reducible refine g_nil ?_)
  | (with_reducible refine g_cb ?_)
  | (with_reducible refine g_call ?_)
  | (with_reducible refine g_tup ?_)
  | (with_reducible refine g_lst ?_)
  | (with_reducible refine g_bm ?_)
  | (with_reducible refine g_bm0 ?_)
  | ((with_reducible refine' g_kbm ?gh ?_); (case gh => walk_at "h"))
  | (with_reducible refine g_drop ?_)
  | (with_reducible refine g_ret ?_)
  | (with_reducible refine g_retN ?_)
  | (with_reducible refine g_next ?_)
  | (with_reducible refine g_brk ?_)
  | (with_reducible refine g_cont ?_)
  | (with_reducible refine g_if ?_)
  | ((with_reducible refine' g_aug ?gv ?_); (case gv => exact rfl))
  | (with_reducible refine g_ipI ?_)
  | (with_reducible refine g_test ?_)
  | (with_reducible refine g_tB ?_)
  | (with_reducible refine g_kB ?_)
  | (with_reducible refine g_not ?_)
  | (with_reducible refine g_and ?_)
  | (with_reducible refine g_or ?_)
  | (with_reducible refine g_andV ?_)
  | (with_reducible refine g_orV ?_)
  | (with_reducible refine g_notV ?_)
  | (with_reducible refine g_ifE ?_)
  | (with_reducible refine g_addI ?_)
  | (with_reducible refine g_rI0 ?_)
  | (with_reducible refine g_eqI ?_)
  | (with_reducible refine g_eqS ?_)
  | (with_reducible refine g_neI ?_)
  | (with_reducible refine g_neS ?_)
  | (with_reducible refine g_isN ?_)
  | (with_reducible refine g_notN ?_)
  | (with_reducible refine g_int ?_)
  | (with_reducible refine g_max2 ?_)
  | (with_reducible refine g_min2 ?_)
  | ((with_reducible refine' g_lenL ?gh ?_); (case gh => walk_at "h"))
  | (with_reducible refine g_sub ?_)
  | (with_reducible refine g_gcons ?_)
  | (with_reducible refine g_gnil ?_)
  | (with_reducible refine g_un ?_)
  | (with_reducible refine g_rU ?_)
  | (with_reducible refine g_forL ?_)
  | (with_reducible refine g_forS ?_)
  | (with_reducible refine g_forR1 ?_)
  | (with_reducible refine g_forR2 ?_)
  | (with_reducible refine g_forR3 ?_)
  | (with_reducible refine g_lcL ?_)
  | (with_reducible refine g_lcR1 ?_)
  | (with_reducible refine g_lcR2 ?_)
  | (with_reducible refine g_slice ?_)
  | (with_reducible refine g_part ?_)
  | (with_reducible refine g_kOI ?_)
  | (with_reducible refine g_nopart ?_)
  | (with_reducible refine g_yes ?_)
  | ((with_reducible refine' g_wipe ?gv ?_); (case gv => exact rfl))
  | (with_reducible refine iteT ?_)
  | (with_reducible refine iteF ?_)
  | (with_reducible refine i_nf ?_)
  | (with_reducible refine i_nt ?_)
  | ((with_reducible refine' g_gtup ?gh ?gl ?_); (case gh => walk_at "h"); (case gl => exact rfl))
  | ((with_reducible refine' g_notinI ?gh ?_); (case gh => walk_at "h"))
  | ((with_reducible refine' g_inI ?gh ?_); (case gh => walk_at "h"))
  | ((with_reducible refine' g_kget2 ?gh ?_); (case gh => walk_at "h"))
  | ((with_reducible refine' g_kgotI ?gh ?_); (case gh => walk_at "h"))
  | (with_reducible refine g_tRev ?_)
  | (with_reducible refine g_neB ?_)
  | (with_reducible refine g_eqB ?_)
  | ((with_reducible refine' g_lenT ?gh ?_); (case gh => walk_at "h"))
  | (with_reducible refine g_star ?_)
  | ((with_reducible refine' g_kstarL ?gh ?_); (case gh => walk_at "h"))
  | ((with_reducible refine' g_kstarT ?gh ?_); (case gh => walk_at "h"))
  | (with_reducible refine g_tru ?_)
  | ((with_reducible refine' g_truL ?gh ?_); (case gh => walk_at "h"))
  | (with_reducible refine g_get2 ?_)
  | (with_reducible refine g_try ?_)
  | (with_reducible refine g_fld ?_)
  | (with_reducible refine g_sfld ?_)
  | (with_reducible refine g_meth ?_)
  | (with_reducible refine g_make ?_)
  | (with_reducible refine g_del ?_)
  | (with_reducible refine g_callS ?_)
  | (with_reducible refine g_raise ?_)
  | (with_reducible refine g_xf ?_)
  | (with_reducible refine g_m0 ?_)
  | (with_reducible refine g_km0 ?_)
  | walk_at "is")
local macro_rules | `(tactic| walk_at "gg") => `(tactic| repeat walk_at "g")
local macro_rules | `(tactic| walk_at "sz") => `(tactic| (refine sz ?_; simp only [List.length_cons, List.length_nil, List.length_map, List.length_append, List.length_replicate]; omega))
local macro_rules | `(tactic| walk_at "sub") => `(tactic| ((repeat (first | exact List.Sublist.slnil | with_reducible apply List.Sublist.cons_cons | with_reducible apply List.Sublist.cons)); done))

local macro_rules | `(tactic| walk_at "g") => `(tactic| first
  | ((with_reducible refine' g_lenNL ?gh ?_); (case gh => walk_at "h"))
  | ((with_reducible refine' g_lenND ?gh ?_); (case gh => walk_at "h"))
  | ((with_reducible refine' g_lenNT ?gh ?_); (case gh => walk_at "h"))
  | (with_reducible refine g_ltI ?_)
  | (with_reducible refine g_ltS ?_)
  | (with_reducible refine g_lstRg ?_)
  | (with_reducible refine g_forK ?_))

/-! ### merge bases by the law's own walk -/
theorem Rd.up {H H' : Hp} {a : Addr} {u : HO} (h : Rd H a u) (s : Same H H') : Rd H' a u := h.elim (fun e => .inl (s _ _ e)) fun ⟨o, e⟩ => .inr ⟨o, s _ _ e⟩
structure LsG (ls : List URow) : Prop where
  rf : Rfl ls
  cl : ∀ x z, Un ls x z → kn ls z = true
  ok : ∀ z, kn ls z = true → PyData.strOk z = true
  few : ls.length ≤ 20
  nd : (ls.map (·.1)).Nodup
theorem LsG.in_len {ls : List URow} (G : LsG ls) {us : List Str} (n : us.Nodup) (h : ∀ z ∈ us, kn ls z = true) : us.length ≤ 20 := by
  have := length_le_of_nodup_of_subset us (ls.map (·.1)) n fun z hz => kn_mem.mp (h z hz)
  rw [List.length_map] at this
  have := G.few
  omega
theorem one_of {z : Str} : ∀ {l : List Str}, l.Nodup → z ∈ l → (∀ g ∈ l, g = z) → l = [z]
  | [], _, h, _ => by cases h
  | [a], _, _, h => by rw [h a List.mem_cons_self]
  | a :: b :: r, n, _, h => by
    have n := (List.nodup_cons.mp n).1
    have e : a = b := (h a List.mem_cons_self).trans (h b (List.mem_cons_of_mem _ List.mem_cons_self)).symm
    exact (n (e ▸ List.mem_cons_self)).elim
def lowL (ls : List URow) (g : Str) : List Str := (undr ls g).getD []
theorem lowL_un {ls : List URow} {g z : Str} : z ∈ lowL ls g ↔ Un ls g z := by
  unfold lowL Un
  cases undr ls g with
  | none => exact ⟨fun h => (by cases h), fun ⟨u, e, _⟩ => by cases e⟩
  | some u => exact ⟨fun h => ⟨u, rfl, h⟩, fun ⟨v, e, h⟩ => by injection e with e; rw [← e] at h; exact h⟩
section
variable {P : Program} {w : World} {K : PySem.W.Frag} {mg : Str → Option Value} {base : Heap}
def sp_l_base_row (T : Txt K mg) : Sp := fun vs H Q _ => ∃ (u : Addr) (kvs : List (Key × V)) (ls : List URow) (x y : Str), vs = [.ref u, .str x, .str y] ∧ Rd H u (.dK kvs) ∧ UdOk H kvs ls ∧ LsG ls ∧ kn ls x = true ∧ kn ls y = true ∧
  ∀ p H' us, Same H H' → H p = none → H' p = some (.lst (us.map V.str)) → Asc us → (∀ z, z ∈ us ↔ MB (Un ls) x y z) → Q (.ref p) H'
theorem sp_l_base_row_len {T : Txt K mg} {vs H Q E} (h : sp_l_base_row T vs H Q E) : vs.length = 3 := by
  obtain ⟨_, _, _, _, _, rfl, _⟩ := h
  rfl
set_option maxHeartbeats 1000000 in
theorem ok_l_base_row (T : Txt K mg) : FnOk P w K mg base CX0 1 T.f_l_base_row T.fd_l_base_row ["under", "one", "other"] (sp_l_base_row T) := by
  refine T.F_l_base_row.ok sc_l_base_row (fun vs H Q E h => sp_l_base_row_len h) (fun cdv A outer s H vs Q E hr h => ?_)
  refine ⟨_, (pss_cons (ps_set (i := 3) sc_l_base_row.nd rfl (.inr rfl) (pe_ix (ix_K K (hu_of hr)) (pv 0) (pv 2) (fun _ _ => rfl)))
      (pss_cons (ps_set (i := 4) sc_l_base_row.nd rfl (.inr rfl) (pe_lc (own := [("name", 5)]) (g := gName 5) rfl sc_l_base_row.nd (k_il K (pi_list (pe_ix (ix_K K (hu_of hr)) (pv 0) (pv 1) (fun _ _ => rfl)))) (blkOk_by (N := n_l_base_row) (sc := defScope s_l_base_row) (by decide +kernel)) (fun _ _ _ _ _ => (pg_name (i := 5) sc_l_base_row.nd rfl (.inl rfl))) (fun _ _ _ _ _ => (pts_one (pt_cmpR (op_inM K P w hr.units (u65 hr)) (pv 5) (pv 3) (by rfl)))) (fun _ _ _ _ _ => (pv 5))))
      (pss_one (ps_ret (pe_callB (cr_sortA K rfl) (by rfl) T.m_sorted (by decide +kernel) (pa_cons (pe_lc (own := [("name", 5)]) (g := gName 5) rfl sc_l_base_row.nd (k_il K (pi_list (pv 4))) (blkOk_by (N := n_l_base_row) (sc := defScope s_l_base_row) (by decide +kernel)) (fun _ _ _ _ _ => (pg_name (i := 5) sc_l_base_row.nd rfl (.inr rfl))) (fun _ _ _ _ _ => (pts_one (pt_cmpR (op_eqK K hr.units) (pe_lc (own := [("high", 6)]) (g := gName 6) rfl sc_l_base_row.nd (k_il K (pi_list (pv 4))) (blkOk_by (N := n_l_base_row) (sc := ({ kind := .function, names := [(PySem.Str.ofString ".0", PySem.NameKind.local), (PySem.Str.ofString "name", PySem.NameKind.cell), (PySem.Str.ofString "both", PySem.NameKind.cell), (PySem.Str.ofString "under", PySem.NameKind.cell)], isGenerator := false, isCoroutine := false, more := [] } : Scope)) (by decide +kernel)) (fun _ _ _ _ _ => (pg_name (i := 6) sc_l_base_row.nd rfl (.inl rfl))) (fun _ _ _ _ _ => (pts_one (pt_cmpR (op_inM K P w hr.units (u65 hr)) (pv 5) (pe_ix (ix_K K (hu_of hr)) (pv 0) (pv 6) (fun _ _ => rfl)) (by rfl)))) (fun _ _ _ _ _ => (pv 6))) (pe_lst (pa_cons (pv 5) pa_nil)) (nomark _)))) (fun _ _ _ _ _ => (pv 5))) pa_nil)))))), ?_⟩
  obtain ⟨u, kvs, ls, x, y, rfl, hu, ud, G, kx, ky, q⟩ := h
  obtain ⟨lx, ex⟩ := Option.isSome_iff_exists.mp kx
  obtain ⟨ly, ey⟩ := Option.isSome_iff_exists.mp ky
  obtain ⟨ax, vx, hx⟩ := ud.look ex
  obtain ⟨ay, vy, hy⟩ := ud.look ey
  have nx := ud.nd _ (undr_mem ex)
  have kin : ∀ {g v z}, undr ls g = some v → z ∈ v → kn ls z = true := fun e h => G.cl _ _ ⟨_, e, h⟩
  have lxl : lx.length ≤ 20 := G.in_len nx fun z hz => kin ex hz
  have hH := Has.start H
  refine g_start (σ' := [some (.ref u), some (.str x), some (.str y), none, none, none, none]) rfl ?_
  walk_at "gg"
  refine g_ixDR hu vy ?_
  walk_at "gg"
  refine g_ixDR hu vx ?_
  refine k_lcL hx hH (fun j acc F' O' => acc = ((lx.take j).filter fun z => decide (z ∈ ly)).map V.str ∧ F' = H ∧ O' = []) ⟨rfl, rfl, rfl⟩ ?_ ?_ ?_
  · rintro j acc F' O' H1 ⟨_, rfl, rfl⟩ hh
    exact hh.same _ _ hx
  · rintro j xx acc F' O' D H1 hxx ⟨rfl, rfl, rfl⟩ hh
    obtain ⟨z, hz, rfl⟩ := str_at hxx
    walk_at "gg"
    refine g_inM (g_inFL (hh.same _ _ hy) rfl (flat_strs _) ?_)
    rw [inV_strs]
    walk_at "gg"
    have st : (lx.take (j + 1)).filter (fun z => decide (z ∈ ly)) = (lx.take j).filter (fun z => decide (z ∈ ly)) ++ [z].filter (fun z => decide (z ∈ ly)) := by
      rw [List.take_add_one, hz, List.filter_append]
      rfl
    refine i_d (fun e => ?_) (fun e => ?_)
    · walk_at "gg"
      refine k_turn hh ?_ ⟨?_, rfl, rfl⟩
      · rw [List.length_map]
        have := List.length_filter_le (fun z => decide (z ∈ ly)) (lx.take j)
        rw [List.length_take] at this
        omega
      · rw [st, List.map_append, List.filter_cons_of_pos (by simpa using e)]
        rfl
    · refine k_skip hh ⟨?_, rfl, rfl⟩
      rw [st, List.filter_cons_of_neg (by simpa using e)]
      rw [List.filter_nil, List.append_nil]
  rintro acc F' O' pb H1 ⟨rfl, eF, rfl⟩ h1
  rw [eF] at h1
  rw [List.length_map, List.take_length] at h1
  have bmem : ∀ z, z ∈ lx.filter (fun z => decide (z ∈ ly)) ↔ Un ls x z ∧ Un ls y z := fun z => by
    rw [List.mem_filter, decide_eq_true_eq]
    unfold Un
    rw [ex, ey]
    exact ⟨fun h => ⟨⟨_, rfl, h.1⟩, ⟨_, rfl, h.2⟩⟩, fun ⟨⟨v, e, h⟩, v', e', h'⟩ => by
      injection e with e
      injection e' with e'
      rw [e, e']
      exact ⟨h, h'⟩⟩
  have nb : (lx.filter fun z => decide (z ∈ ly)).Nodup := nx.sublist List.filter_sublist
  have lbl : (lx.filter fun z => decide (z ∈ ly)).length ≤ 20 := Nat.le_trans (List.length_filter_le _ _) lxl
  generalize (lx.filter fun z => decide (z ∈ ly)) = bo at h1 bmem nb lbl
  have kbo : ∀ z ∈ bo, kn ls z = true := fun z hz => G.cl x z ((bmem z).mp hz).1
  walk_at "gg"
  refine k_lcL (h1.get (List.Mem.head _)) h1 (fun j acc F' O' => acc = ((bo.take j).filter fun z => decide (bo.filter (fun g => decide (z ∈ lowL ls g)) = [z])).map V.str ∧ H = F' ∧ O' = [(pb, .lst (bo.map V.str))]) ⟨rfl, rfl, rfl⟩ ?_ ?_ ?_
  · rintro j acc F' O' H2 ⟨_, rfl, rfl⟩ hh
    exact hh.get (List.Mem.head _)
  · rintro j xx acc F' O' D H2 hxx ⟨rfl, rfl, rfl⟩ hh
    obtain ⟨z, hz, rfl⟩ := str_at hxx
    have zb := List.mem_of_getElem? hz
    have st : (bo.take (j + 1)).filter (fun z => decide (bo.filter (fun g => decide (z ∈ lowL ls g)) = [z])) = (bo.take j).filter (fun z => decide (bo.filter (fun g => decide (z ∈ lowL ls g)) = [z])) ++ [z].filter (fun z => decide (bo.filter (fun g => decide (z ∈ lowL ls g)) = [z])) := by
      rw [List.take_add_one, hz, List.filter_append]
      rfl
    have lac := List.length_filter_le (fun z => decide (bo.filter (fun g => decide (z ∈ lowL ls g)) = [z])) (bo.take j)
    rw [List.length_take] at lac
    generalize hA : (bo.take j).filter (fun z => decide (bo.filter (fun g => decide (z ∈ lowL ls g)) = [z])) = A at hh st lac
    walk_at "gg"
    refine k_lcL (hh.get (by walk_at "m")) hh (fun i acc2 F' O' => acc2 = ((bo.take i).filter fun g => decide (z ∈ lowL ls g)).map V.str ∧ H = F' ∧ O' = [(D, .lst (A.map V.str)), (pb, .lst (bo.map V.str))]) ⟨rfl, rfl, rfl⟩ ?_ ?_ ?_
    · rintro i acc2 F' O' H3 ⟨_, rfl, rfl⟩ h3
      exact h3.get (by walk_at "m")
    · rintro i xx acc2 F' O' D2 H3 hxx ⟨rfl, rfl, rfl⟩ h3
      obtain ⟨g, hg, rfl⟩ := str_at hxx
      obtain ⟨v, ev⟩ := Option.isSome_iff_exists.mp (kbo g (List.mem_of_getElem? hg))
      obtain ⟨av, vv, hv⟩ := ud.look ev
      have lg : lowL ls g = v := by unfold lowL; rw [ev]; rfl
      walk_at "gg"
      refine g_ixDR (Rd.up hu h3.same) vv ?_
      refine g_inM (g_inFL (h3.same _ _ hv) rfl (flat_strs _) ?_)
      rw [inV_strs]
      walk_at "gg"
      have st2 : (bo.take (i + 1)).filter (fun g => decide (z ∈ lowL ls g)) = (bo.take i).filter (fun g => decide (z ∈ lowL ls g)) ++ [g].filter (fun g => decide (z ∈ lowL ls g)) := by
        rw [List.take_add_one, hg, List.filter_append]
        rfl
      refine i_d (fun e => ?_) (fun e => ?_)
      · walk_at "gg"
        refine k_turn h3 ?_ ⟨?_, rfl, rfl⟩
        · rw [List.length_map]
          have := List.length_filter_le (fun g => decide (z ∈ lowL ls g)) (bo.take i)
          rw [List.length_take] at this
          omega
        · rw [st2, List.map_append, List.filter_cons_of_pos (by rw [lg]; simpa using e)]
          rfl
      · refine k_skip h3 ⟨?_, rfl, rfl⟩
        rw [st2, List.filter_cons_of_neg (by rw [lg]; simpa using e)]
        rw [List.filter_nil, List.append_nil]
    rintro acc2 F2 O2 p2 H3 ⟨rfl, rfl, rfl⟩ h3
    rw [List.length_map, List.take_length] at h3
    have ok1 : okL (bo.filter fun g => decide (z ∈ lowL ls g)) := fun g hg => G.ok g (kbo g (List.mem_filter.mp hg).1)
    have ok2 : okL [z] := okL_one (G.ok z (kbo z zb))
    walk_at "gg"
    refine g_klst (by walk_at "sz") h3 (fun p3 H4 n4 h4 => ?_)
    refine g_eqD (Dq.strs (xs := bo.filter fun g => decide (z ∈ lowL ls g)) (h4.get (by walk_at "m"))) (Dq.strs (xs := [z]) (h4.get (List.Mem.head _))) ((Sh.strs (n := 0) ok1).ok (by decide)) ((Sh.strs (n := 0) ok2).ok (by decide)) ?_
    rw [eqv_strs]
    have h4 := h4.drop.drop
    walk_at "gg"
    refine i_d (fun e => ?_) (fun e => ?_)
    · walk_at "gg"
      refine k_turn h4 (by rw [List.length_map]; omega) ⟨?_, rfl, rfl⟩
      rw [st, List.map_append, List.filter_cons_of_pos (by simpa using e)]
      rfl
    · refine k_skip h4 ⟨?_, rfl, rfl⟩
      rw [st, List.filter_cons_of_neg (by simpa using e)]
      rw [List.filter_nil, List.append_nil]
  rintro acc F' O' p2 H2 ⟨rfl, rfl, rfl⟩ h2
  rw [List.length_map, List.take_length] at h2
  have lf := List.length_filter_le (fun z => decide (bo.filter (fun g => decide (z ∈ lowL ls g)) = [z])) bo
  have nf := nb.sublist (List.filter_sublist (p := fun z => decide (bo.filter (fun g => decide (z ∈ lowL ls g)) = [z])))
  refine g_sortS (h2.get (List.Mem.head _)) (by omega) h2 (fun us p H3 pm srt n3 h3 => ?_)
  refine q p H3 us h3.same (h2.same.free n3) (h3.get (List.Mem.head _)) (asc_of srt (pm.nodup_iff.mpr nf)) fun z => ?_
  rw [pm.mem_iff, List.mem_filter, decide_eq_true_eq]
  unfold MB
  constructor
  · rintro ⟨hz, e⟩
    refine ⟨(bmem z).mp hz, ?_⟩
    rintro ⟨g, hg, hu, ne⟩
    have m : g ∈ bo.filter fun g => decide (z ∈ lowL ls g) := List.mem_filter.mpr ⟨(bmem g).mpr hg, decide_eq_true (lowL_un.mpr hu)⟩
    rw [e] at m
    exact ne (List.mem_singleton.mp m).symm
  · rintro ⟨h, no⟩
    have hz := (bmem z).mpr h
    refine ⟨hz, one_of (nb.sublist List.filter_sublist) (List.mem_filter.mpr ⟨hz, decide_eq_true (lowL_un.mpr (G.rf.un (kbo z hz)))⟩) fun g hg => ?_⟩
    have m := List.mem_filter.mp hg
    exact Decidable.byContradiction fun ne => no ⟨g, (bmem g).mp m.1, lowL_un.mp (of_decide_eq_true m.2), fun e => ne e.symm⟩
/-! ### the table of all merge bases -/
def RowB (F : Hp) (kv2 : List (Key × V)) (ys : List Str) (M : Str → Str → Str → Prop) (x : Str) : Prop := ∀ y ∈ ys, ∃ l us, valV kv2 (.inr y) = some (.ref l) ∧ F l = some (.lst (us.map V.str)) ∧ Asc us ∧ ∀ z, z ∈ us ↔ M x y z
def BaIn (F : Hp) (kb : List (Key × V)) (xs ks : List Str) (M : Str → Str → Str → Prop) : Prop := ∀ x ∈ xs, ∃ d kv2, valV kb (.inr x) = some (.ref d) ∧ F d = some (.dK kv2) ∧ RowB F kv2 ks M x
def BaAt (F : Hp) (b : Addr) (ks : List Str) (M : Str → Str → Str → Prop) : Prop := ∃ kb, F b = some (.dK kb) ∧ kb.map (·.1) = ks.map (fun z => (Sum.inr z : Key)) ∧ BaIn F kb ks ks M
theorem RowB.up {F F' : Hp} {kv2 : List (Key × V)} {ys : List Str} {M : Str → Str → Str → Prop} {x : Str} (h : RowB F kv2 ys M x) (s : ∀ a xs, F a = some (.lst xs) → F' a = some (.lst xs)) : RowB F' kv2 ys M x := fun y hy => by
  obtain ⟨l, us, e, hl, r⟩ := h y hy
  exact ⟨l, us, e, s _ _ hl, r⟩
theorem BaIn.up {F F' : Hp} {kb : List (Key × V)} {xs ks : List Str} {M : Str → Str → Str → Prop} (h : BaIn F kb xs ks M) (s1 : ∀ a xs, F a = some (.lst xs) → F' a = some (.lst xs)) (s2 : ∀ a kvs, F a = some (.dK kvs) → F' a = some (.dK kvs)) : BaIn F' kb xs ks M := fun x hx => by
  obtain ⟨d, kv2, e, hd, r⟩ := h x hx
  exact ⟨d, kv2, e, s2 _ _ hd, r.up s1⟩
theorem BaAt.up {F F' : Hp} {b : Addr} {ks : List Str} {M : Str → Str → Str → Prop} (h : BaAt F b ks M) (s1 : ∀ a xs, F a = some (.lst xs) → F' a = some (.lst xs)) (s2 : ∀ a kvs, F a = some (.dK kvs) → F' a = some (.dK kvs)) : BaAt F' b ks M := by
  obtain ⟨kb, e, k, r⟩ := h
  exact ⟨kb, s2 _ _ e, k, r.up s1 s2⟩
theorem BaAt.mono {F F' : Hp} {b : Addr} {ks : List Str} {M : Str → Str → Str → Prop} (h : BaAt F b ks M) (s : Same F F') : BaAt F' b ks M := h.up (fun a xs e => s _ _ e) (fun a xs e => s _ _ e)
theorem key_at {kvs : List (Key × V)} {ks : List Str} (h : kvs.map (·.1) = ks.map (fun z => (Sum.inr z : Key))) {t : Nat} {k : Key} {v : V} (e : kvs[t]? = some (k, v)) : ∃ x, ks[t]? = some x ∧ k = .inr x := by
  have e2 : (kvs.map (·.1))[t]? = some k := by rw [List.getElem?_map, e]; rfl
  rw [h, List.getElem?_map] at e2
  obtain ⟨x, ex, e3⟩ := Option.map_eq_some_iff.mp e2
  exact ⟨x, ex, e3.symm⟩
theorem keys_none {kvs : List (Key × V)} {ks : List Str} (h : kvs.map (·.1) = ks.map (fun z => (Sum.inr z : Key))) {x : Str} (n : x ∉ ks) : valV kvs (.inr x) = none := by
  unfold valV
  have : kvs.find? (fun kv => decide (kv.1 = .inr x)) = none := by
    rw [List.find?_eq_none]
    intro p hp
    have m : p.1 ∈ kvs.map (·.1) := List.mem_map.mpr ⟨p, hp, rfl⟩
    rw [h] at m
    obtain ⟨z, hz, e⟩ := List.mem_map.mp m
    simp only [decide_eq_true_eq]
    intro e2
    rw [← e] at e2
    exact n (Sum.inr.inj e2 ▸ hz)
  rw [this]
  rfl
theorem take_new {ks : List Str} (n : ks.Nodup) {t : Nat} {x : Str} (e : ks[t]? = some x) : x ∉ ks.take t := fun m => by
  obtain ⟨j, hj⟩ := List.mem_iff_getElem?.mp m
  have lt : j < t := by
    have := (List.getElem?_eq_some_iff.mp hj).1
    rw [List.length_take] at this
    omega
  rw [List.getElem?_take_of_lt lt] at hj
  have := at_inj n hj e
  omega
def sp_l_base_rows (T : Txt K mg) : Sp := fun vs H Q _ => ∃ (u : Addr) (kvs : List (Key × V)) (ls : List URow), vs = [.ref u] ∧ H u = some (.dK kvs) ∧ UdOk H kvs ls ∧ LsG ls ∧
  ∀ b H', Same H H' → H b = none → BaAt H' b (ls.map (·.1)) (MB (Un ls)) → Q (.ref b) H'
theorem sp_l_base_rows_len {T : Txt K mg} {vs H Q E} (h : sp_l_base_rows T vs H Q E) : vs.length = 1 := by
  obtain ⟨_, _, _, rfl, _⟩ := h
  rfl
set_option maxHeartbeats 1000000 in
theorem ok_l_base_rows (T : Txt K mg) : FnOk P w K mg base CX0 2 T.f_l_base_rows T.fd_l_base_rows ["under"] (sp_l_base_rows T) := by
  refine T.F_l_base_rows.ok sc_l_base_rows (fun vs H Q E h => sp_l_base_rows_len h) (fun cdv A outer s H vs Q E hr h => ?_)
  refine ⟨_, (pss_cons (ps_set (i := 1) sc_l_base_rows.nd rfl (.inl rfl) pe_dnewK)
      (pss_cons (ps_lock (ps_for PassesOwn.never rfl (pi_keys (pv 0)) (pg_name (i := 2) sc_l_base_rows.nd rfl (.inl rfl)) (pss_cons (ps_asg pe_dnewK (pg_sub (pv 1) (pv 2) (set_any (hu_of hr))))
      (pss_one (ps_for PassesOwn.never rfl (pi_keys (pv 0)) (pg_name (i := 3) sc_l_base_rows.nd rfl (.inl rfl)) (pss_one (ps_asg (pe_call (ok_l_base_row T) (hr.mono (by decide)) (by rfl) T.g_l_base_row T.F_l_base_row.kp T.b_l_base_row .nil pass0 (pa_cons (pv 0) (pa_cons (pv 2) (pa_cons (pv 3) pa_nil)))) (pg_sub (pe_ix (ix_K K (hu_of hr)) (pv 1) (pv 2) (fun _ _ => rfl)) (pv 3) (set_any (hu_of hr))))))))))
      (pss_one (ps_ret (pv 1))))), ?_⟩
  obtain ⟨u, kvs, ls, rfl, hu, ud, G, q⟩ := h
  have hH := Has.start H
  have ek : kvs.map (·.1) = (ls.map (·.1)).map (fun z => (Sum.inr z : Key)) := by rw [ud.keys, List.map_map]; rfl
  have lk := ud.len
  have nd := G.nd
  have few := G.few
  refine g_start (σ' := [some (.ref u), none, none, none]) rfl ?_
  walk_at "gg"
  refine g_dnewK hH (fun b H1 n1 h1 => ?_)
  walk_at "gg"
  refine g_lockK rfl (h1.same _ _ hu) (fun od => ?_)
  have hL := Has.lock (od := od) h1 hu
  have udL : UdOk (upd H u (.frz od (.dK kvs))) kvs ls := ⟨ud.keys, ud.vals.lockK hu, ud.nd⟩
  have huL : upd H u (.frz od (.dK kvs)) u = some (.frz od (.dK kvs)) := upd_same
  have sL : ∀ H', Same (upd H u (.frz od (.dK kvs))) H' → Same H (upd H' u (.dK kvs)) := fun H' s => unlock_same hu s
  have sk : ∀ kb : List (Key × V), kb.map (·.1) = ((ls.map (·.1)).take kvs.length).map (fun z => (Sum.inr z : Key)) → kb.map (·.1) = (ls.map (·.1)).map (fun z => (Sum.inr z : Key)) := fun kb h => by
    rw [List.take_of_length_le (by rw [List.length_map]; omega)] at h
    exact h
  have lks : (ls.map (·.1)).length = ls.length := List.length_map ..
  generalize hks : ls.map (·.1) = ks at ek nd sk lks
  generalize upd H u (.frz od (.dK kvs)) = FL at hL udL huL sL
  refine k_forK (fun t σ H' => ∃ (F : Hp) (kb : List (Key × V)) (y2 y3 : Option V), σ = [some (.ref u), some (.ref b), y2, y3] ∧ Same FL F ∧ Has F [(b, .dK kb)] H' ∧ kb.map (·.1) = (ks.take t).map (fun z => (Sum.inr z : Key)) ∧ BaIn F kb (ks.take t) ks (MB (Un ls)))
    ⟨FL, [], _, _, rfl, Same.refl _, hL, rfl, fun x hx => by simp at hx⟩ ?_ ?_ ?_
  · rintro t σ H' ⟨F, kb, y2, y3, rfl, sF, h2, _⟩
    exact h2.same _ _ (sF _ _ huL)
  · rintro t k v σ H2 ekv ⟨F, kb, y2, y3, rfl, sF, h2, ekb, bi⟩
    obtain ⟨x, ex, rfl⟩ := key_at ek ekv
    have kb_ : kb.length ≤ 20 := by
      have := congrArg List.length ekb
      rw [List.length_map, List.length_map, List.length_take] at this
      omega
    have xk : kn ls x = true := by
      have m : (Sum.inr x : Key) ∈ kvs.map (·.1) := by rw [ek]; exact List.mem_map.mpr ⟨x, List.mem_of_getElem? ex, rfl⟩
      rw [ud.keys] at m
      obtain ⟨r, hr, e⟩ := List.mem_map.mp m
      exact kn_mem.mpr (List.mem_map.mpr ⟨r, hr, Sum.inr.inj e⟩)
    have vn := keys_none ekb (take_new nd ex)
    walk_at "gg"
    refine g_dnewK h2 (fun d H3 n3 h3 => ?_)
    walk_at "gg"
    refine g_stD (k := .inr x) rfl h3 (.tl .hd) (szl (by omega)) (fun H4 h4 => ?_)
    rw [putK_new _ vn] at h4
    walk_at "gg"
    refine g_kforKx (h4.same _ _ (sF _ _ huL)) ?_
    have vx : valV (kb ++ [((Sum.inr x : Key), V.ref d)]) (.inr x) = some (.ref d) := by rw [← putK_new _ vn, valV_put, if_pos rfl]
    refine k_forK (fun s σ H' => ∃ (F' : Hp) (kv2 : List (Key × V)) (y3 : Option V), σ = [some (.ref u), some (.ref b), some (.str x), y3] ∧ Same F F' ∧ Has F' [(d, .dK kv2), (b, .dK (kb ++ [((Sum.inr x : Key), V.ref d)]))] H' ∧ kv2.map (·.1) = (ks.take s).map (fun z => (Sum.inr z : Key)) ∧ RowB F' kv2 (ks.take s) (MB (Un ls)) x)
      ⟨F, [], _, rfl, Same.refl _, h4, rfl, fun y hy => by simp at hy⟩ ?_ ?_ ?_
    · rintro s σ H' ⟨F', kv2, y3, rfl, sF', h5, _⟩
      exact h5.same _ _ (sF' _ _ (sF _ _ huL))
    · rintro s k' v' σ H5 ekv' ⟨F', kv2, y3, rfl, sF', h5, ek2, rb⟩
      obtain ⟨y, ey, rfl⟩ := key_at ek ekv'
      have yk : kn ls y = true := by
        have m : (Sum.inr y : Key) ∈ kvs.map (·.1) := by rw [ek]; exact List.mem_map.mpr ⟨y, List.mem_of_getElem? ey, rfl⟩
        rw [ud.keys] at m
        obtain ⟨r, hr, e⟩ := List.mem_map.mp m
        exact kn_mem.mpr (List.mem_map.mpr ⟨r, hr, Sum.inr.inj e⟩)
      have l2 : kv2.length ≤ 20 := by
        have := congrArg List.length ek2
        rw [List.length_map, List.length_map, List.length_take] at this
        omega
      have vn2 := keys_none ek2 (take_new nd ey)
      have sA := sF.trans sF'
      walk_at "gg"
      refine ⟨u, kvs, ls, x, y, rfl, .inr ⟨od, h5.same _ _ (sA _ _ huL)⟩, (udL.mono sA).mono h5.same, G, xk, yk, fun p H6 us s6 n6 hp asc m6 => ?_⟩
      have h6 := h5.made n6 s6 hp
      have h6' := h6.frz
      have s6' := h6.grow
      have fp : upd F' p (.lst (us.map V.str)) p = some (.lst (us.map V.str)) := upd_same
      generalize upd F' p (.lst (us.map V.str)) = F6 at h6' s6' fp
      walk_at "gg"
      refine g_ixDS (h6'.get (by walk_at "m")) vx ?_
      walk_at "gg"
      refine g_stD (k := .inr y) rfl h6' .hd (szl (by omega)) (fun H7 h7 => ?_)
      refine ⟨F6, _, _, rfl, sF'.trans s6', h7, ?_, fun y' hy' => ?_⟩
      · rw [putK_new _ vn2, List.map_append, ek2, List.take_add_one, ey, List.map_append]
        rfl
      · rw [List.take_add_one, ey] at hy'
        by_cases c : y' = y
        · subst c
          exact ⟨p, us, by rw [valV_put, if_pos rfl], fp, asc, m6⟩
        · have hy' : y' ∈ ks.take s := by
            rcases List.mem_append.mp hy' with h | h
            · exact h
            · exact (c (by simpa using h)).elim
          obtain ⟨l, us', e, hl, r⟩ := rb y' hy'
          exact ⟨l, us', by rw [valV_put, if_neg (fun z => c (Sum.inr.inj z))]; exact e, s6' _ _ hl, r⟩
    · rintro σ H5 ⟨F', kv2, y3, rfl, sF', h5, ek2, rb⟩
      rw [List.take_of_length_le (by omega)] at rb
      have s5 := h5.grow
      have h5' := h5.frz
      have fd : upd F' d (.dK kv2) d = some (.dK kv2) := upd_same
      generalize upd F' d (.dK kv2) = F5 at h5' s5 fd
      refine ⟨F5, _, _, _, rfl, (sF.trans sF').trans s5, h5', ?_, fun x' hx' => ?_⟩
      · rw [List.map_append, ekb, List.take_add_one, ex, List.map_append]
        rfl
      · rw [List.take_add_one, ex] at hx'
        by_cases c : x' = x
        · subst c
          exact ⟨d, kv2, vx, fd, rb.up fun a xs e => s5 _ _ e⟩
        · have hx' : x' ∈ ks.take t := by
            rcases List.mem_append.mp hx' with h | h
            · exact h
            · exact (c (by simpa using h)).elim
          obtain ⟨d', kv3, e, hd', r⟩ := bi x' hx'
          refine ⟨d', kv3, ?_, s5 _ _ (sF' _ _ hd'), r.up fun a xs e => s5 _ _ (sF' _ _ e)⟩
          rw [← putK_new _ vn, valV_put, if_neg (fun z => c (Sum.inr.inj z))]
          exact e
  · rintro σ H2 ⟨F, kb, y2, y3, rfl, sF, h2, ekb, bi⟩
    have hu2 := h2.same _ _ (sF _ _ huL)
    have ekb := sk kb ekb
    rw [List.take_of_length_le (by omega)] at bi
    refine ⟨hu2, ?_⟩
    walk_at "gg"
    refine q b _ (sL H2 (sF.trans h2.same)) n1 ?_
    rw [hks]
    exact ⟨kb, unlock_at hu2 (h2.get (List.Mem.head _)) (fun z => by cases z), ekb, bi.up (fun a xs e => unlock_at hu2 (h2.same _ _ e) (fun z => by cases z)) (fun a xs e => unlock_at hu2 (h2.same _ _ e) (fun z => by cases z))⟩
end

end K29

namespace K29
open PySem PySem.Spec PyProof.Rows L2 Qk
local macro_rules | `(tactic| walk_at "m") => `(tactic| ((repeat (first | exact List.Mem.head _ | apply List.Mem.tail)); done))
local macro_rules | `(tactic| walk_at "h") => `(tactic| first | assumption | exact Has.gF (by assumption) (by assumption) | exact Has.get (by assumption) (by walk_at "m"))
local macro_rules | `(tactic| walk_at "c") => `(tactic| ((repeat (first | exact Chg.hd | apply Chg.tl)); done))
local macro_rules | `(tactic| walk_at "is") => `(tactic| first
  | ((with_reducible refine' is2_non ?gh ?_); (case gh => walk_at "h"))
  | (with_reducible refine is_int_list ?_)
  | (with_reducible refine is_int_tuple ?_)
  | (with_reducible refine is_int_dict ?_)
  | (with_reducible refine is_int_int ?_)
  | (with_reducible refine is_int_bool ?_)
  | (with_reducible refine is_int_str ?_)
  | ((with_reducible refine' is2_int ?gh ?_); (case gh => walk_at "h"))
  | (with_reducible refine is_str_list ?_)
  | (with_reducible refine is_str_tuple ?_)
  | (with_reducible refine is_str_dict ?_)
  | (with_reducible refine is_str_int ?_)
  | (with_reducible refine is_str_bool ?_)
  | (with_reducible refine is_str_str ?_)
  | ((with_reducible refine' is2_str ?gh ?_); (case gh => walk_at "h"))
  | (with_reducible refine is_bool_list ?_)
  | (with_reducible refine is_bool_tuple ?_)
  | (with_reducible refine is_bool_dict ?_)
  | (with_reducible refine is_bool_int ?_)
  | (with_reducible refine is_bool_bool ?_)
  | (with_reducible refine is_bool_str ?_)
  | ((with_reducible refine' is2_bool ?gh ?_); (case gh => walk_at "h"))
  | ((with_reducible refine' is_list_list ?gh ?_); (case gh => walk_at "h"))
  | ((with_reducible refine' is_list_tuple ?gh ?_); (case gh => walk_at "h"))
  | ((with_reducible refine' is_list_dict ?gh ?_); (case gh => walk_at "h"))
  | ((with_reducible refine' is_list_int ?gh ?_); (case gh => walk_at "h"))
  | ((with_reducible refine' is_list_bool ?gh ?_); (case gh => walk_at "h"))
  | ((with_reducible refine' is_list_str ?gh ?_); (case gh => walk_at "h"))
  | ((with_reducible refine' is2_list ?ga ?gb ?_); (case ga => walk_at "h"); (case gb => walk_at "h"))
  | ((with_reducible refine' is_tuple_list ?gh ?_); (case gh => walk_at "h"))
  | ((with_reducible refine' is_tuple_tuple ?gh ?_); (case gh => walk_at "h"))
  | ((with_reducible refine' is_tuple_dict ?gh ?_); (case gh => walk_at "h"))
  | ((with_reducible refine' is_tuple_int ?gh ?_); (case gh => walk_at "h"))
  | ((with_reducible refine' is_tuple_bool ?gh ?_); (case gh => walk_at "h"))
  | ((with_reducible refine' is_tuple_str ?gh ?_); (case gh => walk_at "h"))
  | ((with_reducible refine' is2_tuple ?ga ?gb ?_); (case ga => walk_at "h"); (case gb => walk_at "h"))
  | ((with_reducible refine' is_dict_list ?gh ?_); (case gh => walk_at "h"))
  | ((with_reducible refine' is_dict_tuple ?gh ?_); (case gh => walk_at "h"))
  | ((with_reducible refine' is_dict_dict ?gh ?_); (case gh => walk_at "h"))
  | ((with_reducible refine' is_dict_int ?gh ?_); (case gh => walk_at "h"))
  | ((with_reducible refine' is_dict_bool ?gh ?_); (case gh => walk_at "h"))
  | ((with_reducible refine' is_dict_str ?gh ?_); (case gh => walk_at "h"))
  | ((with_reducible refine' is2_dict ?ga ?gb ?_); (case ga => walk_at "h"); (case gb => walk_at "h")))
local macro_rules | `(tactic| walk_at "g") => `(tactic| first
  | (with_reducible refine g_seq ?_)
  | (with_reducible refine g_asg ?_)
  | ((with_reducible refine g_name ?_); dsimp only [List.set, wipe, List.map])
  | ((with_reducible refine' g_var ?gv ?_); (case gv => exact rfl))
  | (with_reducible refine g_c ?_)
  | (with_reducible refine g_op ?_)
  | (with_reducible refine g_cons ?_)
  | (with_reducible refine g_nil ?_)
  | (with_reducible refine g_cb ?_)
  | (with_reducible refine g_call ?_)
  | (with_reducible refine g_tup ?_)
  | (with_reducible refine g_lst ?_)
  | (with_reducible refine g_bm ?_)
  | (with_reducible refine g_bm0 ?_)
  | ((with_reducible refine' g_kbm ?gh ?_); (case gh => walk_at "h"))
  | (with_reducible refine g_drop ?_)
  | (with_reducible refine g_ret ?_)
  | (with_reducible refine g_retN ?_)
  | (with_reducible refine g_next ?_)
  | (with_reducible refine g_brk ?_)
  | (with_reducible refine g_cont ?_)
  | (with_reducible refine g_if ?_)
  | ((with_reducible refine' g_aug ?gv ?_); (case gv => exact rfl))
  | (with_reducible refine g_ipI ?_)
  | (with_reducible refine g_test ?_)
  | (with_reducible refine g_tB ?_)
  | (with_reducible refine g_kB ?_)
  | (with_reducible refine g_not ?_)
  | (with_reducible refine g_and ?_)
  | (with_reducible refine g_or ?_)
  | (with_reducible refine g_andV ?_)
  | (with_reducible refine g_orV ?_)
  | (with_reducible refine g_notV ?_)
  | (with_reducible refine g_ifE ?_)
  | (with_reducible refine g_addI ?_)
  | (with_reducible refine g_rI0 ?_)
  | (with_reducible refine g_eqI ?_)
  | (with_reducible refine g_eqS ?_)
  | (with_reducible refine g_neI ?_)
  | (with_reducible refine g_neS ?_)
  | (with_reducible refine g_isN ?_)
  | (with_reducible refine g_notN ?_)
  | (with_reducible refine g_int ?_)
  | (with_reducible refine g_max2 ?_)
  | (with_reducible refine g_min2 ?_)
  | ((with_reducible refine' g_lenL ?gh ?_); (case gh => walk_at "h"))
  | (with_reducible refine g_sub ?_)
  | (with_reducible refine g_gcons ?_)
  | (with_reducible refine g_gnil ?_)
  | (with_reducible refine g_un ?_)
  | (with_reducible refine g_rU ?_)
  | (with_reducible refine g_forL ?_)
  | (with_reducible refine g_forS ?_)
  | (with_reducible refine g_forR1 ?_)
  | (with_reducible refine g_forR2 ?_)
  | (with_reducible refine g_forR3 ?_)
  | (with_reducible refine g_lcL ?_)
  | (with_reducible refine g_lcR1 ?_)
  | (with_reducible refine g_lcR2 ?_)
  | (with_reducible refine g_slice ?_)
  | (with_reducible refine g_part ?_)
  | (with_reducible refine g_kOI ?_)
  | (with_reducible refine g_nopart ?_)
  | (with_reducible refine g_yes ?_)
  | ((with_reducible refine' g_wipe ?gv ?_); (case gv => exact rfl))
  | (with_reducible refine iteT ?_)
  | (with_reducible refine iteF ?_)
  | (with_reducible refine i_nf ?_)
  | (with_reducible refine i_nt ?_)
  | ((with_reducible refine' g_gtup ?gh ?gl ?_); (case gh => walk_at "h"); (case gl => exact rfl))
  | ((with_reducible refine' g_notinI ?gh ?_); (case gh => walk_at "h"))
  | ((with_reducible refine' g_inI ?gh ?_); (case gh => walk_at "h"))
  | ((with_reducible refine' g_kget2 ?gh ?_); (case gh => walk_at "h"))
  | ((with_reducible refine' g_kgotI ?gh ?_); (case gh => walk_at "h"))
  | (with_reducible refine g_tRev ?_)
  | (with_reducible refine g_neB ?_)
  | (with_reducible refine g_eqB ?_)
  | ((with_reducible refine' g_lenT ?gh ?_); (case gh => walk_at "h"))
  | (with_reducible refine g_star ?_)
  | ((with_reducible refine' g_kstarL ?gh ?_); (case gh => walk_at "h"))
  | ((with_reducible refine' g_kstarT ?gh ?_); (case gh => walk_at "h"))
  | (with_reducible refine g_tru ?_)
  | ((with_reducible refine' g_truL ?gh ?_); (case gh => walk_at "h"))
  | (with_reducible refine g_get2 ?_)
  | (with_reducible refine g_try ?_)
  | (with_reducible refine g_fld ?_)
  | (with_reducible refine g_sfld ?_)
  | (with_reducible refine g_meth ?_)
  | (with_reducible refine g_make ?_)
  | (with_reducible refine g_del ?_)
  | (with_reducible refine g_callS ?_)
  | (with_reducible refine g_raise ?_)
  | (with_reducible refine g_xf ?_)
  | (with_reducible refine g_m0 ?_)
  | (with_reducible refine g_km0 ?_)
  | walk_at "is")
local macro_rules | `(tactic| walk_at "gg") => `(tactic| repeat walk_at "g")
local macro_rules | `(tactic| walk_at "sz") => `(tactic| (refine sz ?_; simp only [List.length_cons, List.length_nil, List.length_map, List.length_append, List.length_replicate]; omega))
local macro_rules | `(tactic| walk_at "sub") => `(tactic| ((repeat (first | exact List.Sublist.slnil | with_reducible apply List.Sublist.cons_cons | with_reducible apply List.Sublist.cons)); done))

local macro_rules | `(tactic| walk_at "g") => `(tactic| first
  | ((with_reducible refine' g_lenNL ?gh ?_); (case gh => walk_at "h"))
  | ((with_reducible refine' g_lenND ?gh ?_); (case gh => walk_at "h"))
  | ((with_reducible refine' g_lenNT ?gh ?_); (case gh => walk_at "h"))
  | (with_reducible refine g_ltI ?_)
  | (with_reducible refine g_ltS ?_)
  | (with_reducible refine g_lstRg ?_)
  | (with_reducible refine g_forK ?_))

/-! ### gaps and closures by the law's own search -/
def tD (t : Str × Str × Str) : PyData := .tuple [.str t.1, .str t.2.1, .str t.2.2]
def Gp (M : Str → Str → Str → Prop) (so : List Str) (a b c : Str) : Prop := a ∈ so ∧ b ∈ so ∧ kk a < kk b ∧ M a b c ∧ c ∉ so
/-- the order of gaps -/
def Le3 (t u : Str × Str × Str) : Prop := kk t.1 < kk u.1 ∨ (t.1 = u.1 ∧ (kk t.2.1 < kk u.2.1 ∨ (t.2.1 = u.2.1 ∧ (kk t.2.2 < kk u.2.2 ∨ t.2.2 = u.2.2))))
theorem kk_as {a b : Str} (h : kk a < kk b) (h2 : kk b < kk a) : False := List.lt_irrefl _ (List.lt_trans h h2)
theorem kk_ir {a : Str} (h : kk a < kk a) : False := List.lt_irrefl _ h
theorem Le3.anti : ∀ {t u : Str × Str × Str}, Le3 t u → Le3 u t → t = u
  | (a, b, c), (a', b', c'), h, k => by
    unfold Le3 at h k
    simp only at h k
    rcases h with h | ⟨rfl, h⟩
    · rcases k with k | ⟨e, _⟩
      · exact (kk_as h k).elim
      · subst e; exact (kk_ir h).elim
    · rcases k with k | ⟨_, k⟩
      · exact (kk_ir k).elim
      · rcases h with h | ⟨rfl, h⟩
        · rcases k with k | ⟨e, _⟩
          · exact (kk_as h k).elim
          · subst e; exact (kk_ir h).elim
        · rcases k with k | ⟨_, k⟩
          · exact (kk_ir k).elim
          · rcases h with h | rfl
            · rcases k with k | e
              · exact (kk_as h k).elim
              · subst e; exact (kk_ir h).elim
            · rfl
def HdOk (M : Str → Str → Str → Prop) (so : List Str) (ts : List (Str × Str × Str)) : Prop := ∀ t, ts.head? = some t → ∀ a b c, Gp M so a b c → Le3 t (a, b, c)
/-- the first gap -/
def FstG (M : Str → Str → Str → Prop) (so : List Str) (t : Str × Str × Str) : Prop := Gp M so t.1 t.2.1 t.2.2 ∧ ∀ a b c, Gp M so a b c → Le3 t (a, b, c)
theorem FstG.uniq {M : Str → Str → Str → Prop} {so : List Str} {t u : Str × Str × Str} (h : FstG M so t) (k : FstG M so u) : t = u := (h.2 _ _ _ k.1).anti (k.2 _ _ _ h.1)
theorem asc_after {us : List Str} {t : Nat} {x a : Str} (h : Asc us) (hx : us[t]? = some x) (ha : a ∈ us) (n : a ∉ us.take t) : a = x ∨ kk x < kk a := by
  obtain ⟨i, hi⟩ := List.mem_iff_getElem?.mp ha
  obtain ⟨li, ei⟩ := List.getElem?_eq_some_iff.mp hi
  obtain ⟨lt, et⟩ := List.getElem?_eq_some_iff.mp hx
  rcases Nat.lt_trichotomy i t with l | l | l
  · refine (n (List.mem_iff_getElem?.mpr ⟨i, ?_⟩)).elim
    rw [List.getElem?_take_of_lt l]
    exact hi
  · subst l
    rw [hi] at hx
    exact .inl (Option.some.inj hx)
  · refine .inr ?_
    have := List.pairwise_iff_getElem.mp h t i lt li l
    rw [et, ei] at this
    exact this
theorem hd_add {M : Str → Str → Str → Prop} {so us us2 rw_ : List Str} {ts : List (Str × Str × Str)} {t u : Nat} {x y : Str} (a1 : Asc us) (a2 : Asc us2) (m1 : ∀ z, z ∈ so → z ∈ us) (m2 : ∀ z, z ∈ so → z ∈ us2) (hx : us[t]? = some x) (hy : us2[u]? = some y)
    (mt : ∀ a b c, (a, b, c) ∈ ts ↔ Gp M so a b c ∧ (a ∈ us.take t ∨ (a = x ∧ b ∈ us2.take u))) (mrw : ∀ z, z ∈ rw_ ↔ M x y z ∧ z ∉ so) (arw : Asc rw_) (h : HdOk M so ts) : HdOk M so (ts ++ rw_.map fun z => (x, y, z)) := by
  intro tt ht a b c g
  cases ts with
  | cons t0 ts' => exact h tt (by simpa using ht) a b c g
  | nil =>
    have no : ¬ (a ∈ us.take t ∨ (a = x ∧ b ∈ us2.take u)) := fun hh => by cases (mt a b c).mpr ⟨g, hh⟩
    cases rw_ with
    | nil => cases ht
    | cons z0 r =>
      have e : tt = (x, y, z0) := by simpa using ht.symm
      subst e
      rcases asc_after a1 hx (m1 a g.1) (fun h => no (.inl h)) with e | l
      · subst e
        refine .inr ⟨rfl, ?_⟩
        rcases asc_after a2 hy (m2 b g.2.1) (fun h => no (.inr ⟨rfl, h⟩)) with e | l
        · subst e
          refine .inr ⟨rfl, ?_⟩
          rcases List.mem_cons.mp ((mrw c).mpr ⟨g.2.2.2.1, g.2.2.2.2⟩) with e | hc
          · exact .inr e.symm
          · exact .inl ((List.pairwise_cons.mp arw).1 c hc)
        · exact .inl l
      · exact .inl l
theorem dq_trip {H : Hp} {p : Addr} {a b c : Str} (h : H p = some (.tup [.str a, .str b, .str c])) : Dq H (.ref p) (tD (a, b, c)) := .tup h (.cons (.str a) (.cons (.str b) (.cons (.str c) .nil)))
theorem trip_at {H : Hp} {v : V} {t : Str × Str × Str} (h : Dq H v (tD t)) : ∃ p, v = .ref p ∧ H p = some (.tup [.str t.1, .str t.2.1, .str t.2.2]) := by
  unfold tD at h
  cases h with
  | tup s d =>
    cases d with
    | cons d1 d => cases d with
      | cons d2 d => cases d with
        | cons d3 d =>
          cases d
          cases d1
          cases d2
          cases d3
          exact ⟨_, rfl, s⟩
theorem eqvAll_nil : ∀ {ds : List PyData}, PyData.eqvAll ds [] = ds.isEmpty
  | [] => rfl
  | d :: ds => rfl
section
variable {P : Program} {w : World} {K : PySem.W.Frag} {mg : Str → Option Value} {base : Heap}
def sp_l_gaps (T : Txt K mg) : Sp := fun vs H Q _ => ∃ (b s : Addr) (ks : List Str) (M : Str → Str → Str → Prop) (so : List Str), vs = [.ref b, .ref s] ∧ BaAt H b ks M ∧ H s = some (.lst (so.map V.str)) ∧ so.Nodup ∧ (∀ z ∈ so, z ∈ ks) ∧ ks.length ≤ 20 ∧ (∀ a b c, a ∈ ks → b ∈ ks → M a b c → c ∈ ks) ∧
  ∀ p H' (ws : List V) (ts : List (Str × Str × Str)), Same H H' → H p = none → H' p = some (.lst ws) → DqAll H' ws (ts.map tD) → (∀ a b c, (a, b, c) ∈ ts ↔ Gp M so a b c) → HdOk M so ts → Q (.ref p) H'
theorem sp_l_gaps_len {T : Txt K mg} {vs H Q E} (h : sp_l_gaps T vs H Q E) : vs.length = 2 := by
  obtain ⟨_, _, _, _, _, rfl, _⟩ := h
  rfl
set_option maxHeartbeats 1000000 in
theorem ok_l_gaps (T : Txt K mg) : FnOk P w K mg base CX0 1 T.f_l_gaps T.fd_l_gaps ["bases", "some"] (sp_l_gaps T) := by
  refine T.F_l_gaps.ok sc_l_gaps (fun vs H Q E h => sp_l_gaps_len h) (fun cdv A outer s H vs Q E hr h => ?_)
  refine ⟨_, (pss_cons (ps_set (i := 2) sc_l_gaps.nd rfl (.inl rfl) (pe_lst pa_nil))
      (pss_cons (ps_for PassesOwn.never rfl (k_il K (pi_list (pe_callB (cr_sortA K rfl) (by rfl) T.m_sorted (by decide +kernel) (pa_cons (pv 1) pa_nil)))) (pg_name (i := 3) sc_l_gaps.nd rfl (.inr rfl)) (pss_one (ps_for PassesOwn.never rfl (k_il K (pi_list (pe_callB (cr_sortA K rfl) (by rfl) T.m_sorted (by decide +kernel) (pa_cons (pv 1) pa_nil)))) (pg_name (i := 4) sc_l_gaps.nd rfl (.inr rfl)) (pss_one (ps_if (pt_cmpR op_ltA (pv 3) (pv 4) (nomark _)) (pss_cons (ps_set (i := 5) sc_l_gaps.nd rfl (.inl rfl) (pe_ix (ix_K K (hu_of hr)) (pe_ix (ix_K K (hu_of hr)) (pv 0) (pv 3) (fun _ _ => rfl)) (pv 4) (fun _ _ => rfl)))
      (pss_cons (ps_setLc (i := 5) (own := [("base", 6)]) (g := gName 6) rfl sc_l_gaps.nd rfl rfl (sw_true rfl rfl rfl (by decide +kernel)) (k_il K (pi_list (pv 5))) (blkOk_by (N := n_l_gaps) (sc := defScope s_l_gaps) (by decide +kernel)) (fun _ _ _ _ _ => (pg_name (i := 6) sc_l_gaps.nd rfl (.inl rfl))) (fun _ _ _ _ _ => (pts_one (pt_cmpR (op_notinM K P w hr.units (u65 hr)) (pv 6) (pv 1) (by rfl)))) (fun _ _ _ _ _ => (pv 6)))
      (pss_one (ps_set (i := 2) sc_l_gaps.nd rfl (.inl rfl) (pe_op (op_addK K) (pv 2) (pe_lc (own := [("base", 6)]) (g := gName 6) (tt := tYes) rfl sc_l_gaps.nd (k_il K (pi_list (pv 5))) (blkOk_by (N := n_l_gaps) (sc := defScope s_l_gaps) (by decide +kernel)) (fun _ _ _ _ _ => (pg_name (i := 6) sc_l_gaps.nd rfl (.inl rfl))) (fun _ _ _ _ _ => pts_nil) (fun _ _ _ _ _ => (pe_tup (pa_cons (pv 3) (pa_cons (pv 4) (pa_cons (pv 6) pa_nil))))))))))) pss_nil)))))
      (pss_one (ps_ret (pv 2))))), ?_⟩
  obtain ⟨b, s, ks, M, so, rfl, ba, hs, nd, sub, few, cl, q⟩ := h
  have hH := Has.start H
  have lso : so.length ≤ 20 := nodup_few nd sub few
  refine g_start (σ' := [some (.ref b), some (.ref s), none, none, none, none, none]) rfl ?_
  walk_at "gg"
  refine g_klstF (by walk_at "sz") hH (fun f0 H1 F1 n1 s1 ff0 h1 => ?_)
  walk_at "gg"
  refine g_sortS (h1.same _ _ (s1 _ _ hs)) (by omega) h1 (fun us p1 H2 pm1 srt1 n2 h2 => ?_)
  have s2 := h2.grow
  have h2' := h2.frz
  have fp1 : upd F1 p1 (.lst (us.map V.str)) p1 = some (.lst (us.map V.str)) := upd_same
  generalize upd F1 p1 (.lst (us.map V.str)) = F2 at h2' s2 fp1
  have l1 := pm1.length_eq
  have a1 := asc_of srt1 (pm1.nodup_iff.mpr nd)
  refine k_forL (h2'.same _ _ fp1) (fun t σ H' => ∃ (F : Hp) (f : Addr) (ws : List V) (ts : List (Str × Str × Str)) (y3 y4 y5 : Option V), σ = [some (.ref b), some (.ref s), some (.ref f), y3, y4, y5, none] ∧ Same F2 F ∧ Has F [] H' ∧ F f = some (.lst ws) ∧ H f = none ∧ DqAll F ws (ts.map tD) ∧
    (∀ a b c, (a, b, c) ∈ ts ↔ Gp M so a b c ∧ a ∈ us.take t) ∧ ts.length ≤ t * 400 ∧ HdOk M so ts) ⟨F2, f0, [], [], _, _, _, rfl, Same.refl _, h2', s2 _ _ ff0, n1, .nil, fun a b c => by simp, Nat.zero_le _, fun t e => by cases e⟩ ?_ ?_ ?_
  · rintro t σ H' _ ⟨F, f, ws, ts, y3, y4, y5, rfl, sF, h3, _⟩
    exact h3.same _ _ (sF _ _ fp1)
  · rintro t xx σ H3 hxx ⟨F, f, ws, ts, y3, y4, y5, rfl, sF, h3, hf, nf, dq, mt, lt, hd_⟩
    obtain ⟨x, hx, rfl⟩ := str_at hxx
    have xs : x ∈ so := pm1.mem_iff.mp (List.mem_of_getElem? hx)
    have tl : t < us.length := (List.getElem?_eq_some_iff.mp hx).1
    have sHF : Same H F := s1.trans (s2.trans sF)
    walk_at "gg"
    refine g_sortS (h3.same _ _ (sHF _ _ hs)) (by omega) h3 (fun us2 p2 H4 pm2 srt2 n4 h4 => ?_)
    have s4 := h4.grow
    have h4' := h4.frz
    have fp2 : upd F p2 (.lst (us2.map V.str)) p2 = some (.lst (us2.map V.str)) := upd_same
    generalize upd F p2 (.lst (us2.map V.str)) = F4 at h4' s4 fp2
    have l2 := pm2.length_eq
    have a2 := asc_of srt2 (pm2.nodup_iff.mpr nd)
    refine k_forL (h4'.same _ _ fp2) (fun u σ H' => ∃ (F : Hp) (f : Addr) (ws : List V) (ts : List (Str × Str × Str)) (y4 y5 : Option V), σ = [some (.ref b), some (.ref s), some (.ref f), some (.str x), y4, y5, none] ∧ Same F4 F ∧ Has F [] H' ∧ F f = some (.lst ws) ∧ H f = none ∧ DqAll F ws (ts.map tD) ∧
      (∀ a b c, (a, b, c) ∈ ts ↔ Gp M so a b c ∧ (a ∈ us.take t ∨ (a = x ∧ b ∈ us2.take u))) ∧ ts.length ≤ t * 400 + u * 20 ∧ HdOk M so ts) ⟨F4, f, ws, ts, _, _, rfl, Same.refl _, h4', s4 _ _ hf, nf, dq.up s4 _ _, fun a b c => by rw [mt]; simp, by omega, hd_⟩ ?_ ?_ ?_
    · rintro u σ H' _ ⟨F, f, ws, ts, y4, y5, rfl, sF', h5, _⟩
      exact h5.same _ _ (sF' _ _ fp2)
    · rintro u yy σ H5 hyy ⟨F5, f, ws, ts, y4, y5, rfl, sF5, h5, hf, nf, dq, mt, lt, hd_⟩
      obtain ⟨y, hy, rfl⟩ := str_at hyy
      have ys : y ∈ so := pm2.mem_iff.mp (List.mem_of_getElem? hy)
      have ul : u < us2.length := (List.getElem?_eq_some_iff.mp hy).1
      have sH5 : Same H F5 := sHF.trans (s4.trans sF5)
      walk_at "gg"
      refine i_d (fun lt_ => ?_) (fun nlt => ?_)
      · obtain ⟨kb, hkb, ekb, bi⟩ := ba.mono sH5
        obtain ⟨d, kv2, vd, hd, rb⟩ := bi x (sub x xs)
        obtain ⟨l, bs, vl, hl, ascb, mb⟩ := rb y (sub y ys)
        have lbs : bs.length ≤ 20 := nodup_few ascb.nodup (fun z hz => cl x y z (sub x xs) (sub y ys) ((mb z).mp hz)) few
        walk_at "gg"
        refine g_ixDS (h5.same _ _ hkb) vd ?_
        walk_at "gg"
        refine g_ixDS (h5.same _ _ hd) vl ?_
        walk_at "gg"
        refine k_lcL (h5.same _ _ hl) h5 (fun j acc F' O' => acc = ((bs.take j).filter fun z => !decide (z ∈ so)).map V.str ∧ F5 = F' ∧ O' = []) ⟨rfl, rfl, rfl⟩ ?_ ?_ ?_
        · rintro j acc F' O' H6 ⟨_, rfl, rfl⟩ hh
          exact hh.same _ _ hl
        · rintro j vv acc F' O' D H6 hv ⟨rfl, rfl, rfl⟩ hh
          obtain ⟨z, hz, rfl⟩ := str_at hv
          walk_at "gg"
          refine g_notinM (g_notinFL (hh.same _ _ (sH5 _ _ hs)) rfl (flat_strs _) ?_)
          rw [inV_strs]
          walk_at "gg"
          have st : (bs.take (j + 1)).filter (fun z => !decide (z ∈ so)) = (bs.take j).filter (fun z => !decide (z ∈ so)) ++ [z].filter (fun z => !decide (z ∈ so)) := by
            rw [List.take_add_one, hz, List.filter_append]
            rfl
          refine i_n (fun ne => ?_) (fun e => ?_)
          · walk_at "gg"
            refine k_turn hh ?_ ⟨?_, rfl, rfl⟩
            · rw [List.length_map]
              have := List.length_filter_le (fun z => !decide (z ∈ so)) (bs.take j)
              rw [List.length_take] at this
              omega
            · rw [st, List.map_append, List.filter_cons_of_pos (by simpa using ne)]
              rfl
          · refine k_skip hh ⟨?_, rfl, rfl⟩
            rw [st, List.filter_cons_of_neg (by simpa using e)]
            rw [List.filter_nil, List.append_nil]
        rintro acc F' O' p6 H6 ⟨rfl, rfl, rfl⟩ h6
        rw [List.length_map, List.take_length] at h6
        have mrw : ∀ z, z ∈ bs.filter (fun z => !decide (z ∈ so)) ↔ M x y z ∧ z ∉ so := fun z => by
          rw [List.mem_filter, mb z]
          simp
        have arw := ascb.filter (fun z => !decide (z ∈ so))
        have lrw := List.length_filter_le (fun z => !decide (z ∈ so)) bs
        generalize bs.filter (fun z => !decide (z ∈ so)) = rw_ at h6 mrw lrw arw
        walk_at "gg"
        refine k_lcL (h6.get (List.Mem.head _)) h6 (fun j acc F' O' => DqAll F' acc ((rw_.take j).map fun z => tD (x, y, z)) ∧ Same F5 F' ∧ O' = [(p6, .lst (rw_.map V.str))]) ⟨.nil, Same.refl _, rfl⟩ ?_ ?_ ?_
        · rintro j acc F' O' H7 ⟨_, _, rfl⟩ hh
          exact hh.get (List.Mem.head _)
        · rintro j vv acc F' O' D H7 hv ⟨da, sF', rfl⟩ hh
          obtain ⟨z, hz, rfl⟩ := str_at hv
          have la := da.len
          rw [List.length_map, List.length_take] at la
          walk_at "gg"
          refine g_ktupF (by walk_at "sz") hh (fun p H8 F8 n8 s8 f8 h8 => ?_)
          refine k_turn h8 (by omega) ⟨?_, sF'.trans s8, rfl⟩
          rw [map_take1 (fun z => tD (x, y, z)) hz]
          exact (da.up s8 _ _).snoc (dq_trip f8)
        rintro acc F7 O' p7 H7 ⟨da, sF7, rfl⟩ h7
        rw [List.length_map, List.take_length] at da
        have la := da.len
        rw [List.length_map] at la
        have lw := dq.len
        rw [List.length_map] at lw
        have tl2 : t * 400 ≤ 20 * 400 := Nat.mul_le_mul_right _ (by omega)
        refine g_addL (h7.same _ _ (sF7 _ _ hf)) (h7.get (List.Mem.head _)) (sz (by omega)) h7 (fun p8 H8 n8 h8 => ?_)
        have h8 := h8.sub (O' := [(p8, .lst (ws ++ acc))]) (by walk_at "sub")
        have s8 := h8.grow
        have h8' := h8.frz
        have f8 : upd F7 p8 (.lst (ws ++ acc)) p8 = some (.lst (ws ++ acc)) := upd_same
        have nf8 : H p8 = none := (sH5.trans sF7).free h8.free
        generalize upd F7 p8 (.lst (ws ++ acc)) = F8 at h8' s8 f8
        walk_at "gg"
        refine ⟨F8, p8, _, ts ++ rw_.map (fun z => (x, y, z)), _, _, rfl, (sF5.trans sF7).trans s8, h8', f8, nf8, ?_, fun a b c => ?_, ?_, hd_add a1 a2 (fun z hz => pm1.mem_iff.mpr hz) (fun z hz => pm2.mem_iff.mpr hz) hx hy mt mrw arw hd_⟩
        · rw [List.map_append, List.map_map]
          exact (dq.up (sF7.trans s8) _ _).app (da.up s8 _ _)
        · rw [List.mem_append, mt, List.mem_map, List.take_add_one, hy]
          simp only [Option.toList_some, List.mem_append, List.mem_singleton]
          constructor
          · rintro (⟨g, h | ⟨h1, h2⟩⟩ | ⟨z, hz, e⟩)
            · exact ⟨g, .inl h⟩
            · exact ⟨g, .inr ⟨h1, .inl h2⟩⟩
            · injection e with e1 e2
              injection e2 with e2 e3
              subst e1
              subst e2
              subst e3
              have := (mrw z).mp hz
              exact ⟨⟨xs, ys, lt_, this.1, this.2⟩, .inr ⟨rfl, .inr rfl⟩⟩
          · rintro ⟨g, h | ⟨h1, h2 | h2⟩⟩
            · exact .inl ⟨g, .inl h⟩
            · exact .inl ⟨g, .inr ⟨h1, h2⟩⟩
            · refine .inr ⟨c, (mrw c).mpr ⟨?_, g.2.2.2.2⟩, by rw [h1, h2]⟩
              rw [← h1, ← h2]
              exact g.2.2.2.1
        · rw [List.length_append, List.length_map]
          omega
      · walk_at "gg"
        refine ⟨F5, f, ws, ts, _, _, rfl, sF5, h5, hf, nf, dq, fun a b c => ?_, by omega, hd_⟩
        rw [mt, List.take_add_one, hy]
        simp only [Option.toList_some, List.mem_append, List.mem_singleton]
        constructor
        · rintro ⟨g, h | ⟨h1, h2⟩⟩
          · exact ⟨g, .inl h⟩
          · exact ⟨g, .inr ⟨h1, .inl h2⟩⟩
        · rintro ⟨g, h | ⟨h1, h2 | h2⟩⟩
          · exact ⟨g, .inl h⟩
          · exact ⟨g, .inr ⟨h1, h2⟩⟩
          · refine (nlt ?_).elim
            rw [← h1, ← h2]
            exact g.2.2.1
    · rintro σ H5 ⟨F5, f, ws, ts, y4, y5, rfl, sF5, h5, hf, nf, dq, mt, lt, hd_⟩
      rw [List.length_map] at lt mt
      refine ⟨F5, f, ws, ts, _, _, _, rfl, (sF.trans s4).trans sF5, h5, hf, nf, dq, fun a b c => ?_, by omega, hd_⟩
      rw [mt, List.take_length, List.take_add_one, hx]
      simp only [Option.toList_some, List.mem_append, List.mem_singleton]
      refine and_congr_right fun g => ?_
      exact or_congr Iff.rfl ⟨fun h => h.1, fun h => ⟨h, pm2.mem_iff.mpr g.2.1⟩⟩
  rintro σ H3 ⟨F, f, ws, ts, y3, y4, y5, rfl, sF, h3, hf, nf, dq, mt, lt, hd_⟩
  rw [List.length_map, List.take_length] at mt
  walk_at "gg"
  exact q f H3 ws ts ((s1.trans (s2.trans sF)).trans h3.same) nf (h3.same _ _ hf) (dq.up h3.same _ _) (fun a b c => (mt a b c).trans ⟨fun h => h.1, fun h => ⟨h, pm1.mem_iff.mpr h.1⟩⟩) hd_
end

end K29

namespace K29
open PySem PySem.Spec PyProof.Rows L2 Qk
local macro_rules | `(tactic| walk_at "m") => `(tactic| ((repeat (first | exact List.Mem.head _ | apply List.Mem.tail)); done))
local macro_rules | `(tactic| walk_at "h") => `(tactic| first | assumption | exact Has.gF (by assumption) (by assumption) | exact Has.get (by assumption) (by walk_at "m"))
local macro_rules | `(tactic| walk_at "c") => `(tactic| ((repeat (first | exact Chg.hd | apply Chg.tl)); done))
local macro_rules | `(tactic| walk_at "is") => `(tactic| first
  | ((with_reducible refine' is2_non ?gh ?_); (case gh => walk_at "h"))
  | (with_reducible refine is_int_list ?_)
  | (with_reducible refine is_int_tuple ?_)
  | (with_reducible refine is_int_dict ?_)
  | (with_reducible refine is_int_int ?_)
  | (with_reducible refine is_int_bool ?_)
  | (with_reducible refine is_int_str ?_)
  | ((with_reducible refine' is2_int ?gh ?_); (case gh => walk_at "h"))
  | (with_reducible refine is_str_list ?_)
  | (with_reducible refine is_str_tuple ?_)
  | (with_reducible refine is_str_dict ?_)
  | (with_reducible refine is_str_int ?_)
  | (with_reducible refine is_str_bool ?_)
  | (with_reducible refine is_str_str ?_)
  | ((with_reducible refine' is2_str ?gh ?_); (case gh => walk_at "h"))
  | (with_reducible refine is_bool_list ?_)
  | (with_reducible refine is_bool_tuple ?_)
  | (with_reducible refine is_bool_dict ?_)
  | (with_reducible refine is_bool_int ?_)
  | (with_reducible refine is_bool_bool ?_)
  | (with_reducible refine is_bool_str ?_)
  | ((with_reducible refine' is2_bool ?gh ?_); (case gh => walk_at "h"))
  | ((with_reducible refine' is_list_list ?gh ?_); (case gh => walk_at "h"))
  | ((with_reducible refine' is_list_tuple ?gh ?_); (case gh => walk_at "h"))
  | ((with_reducible refine' is_list_dict ?gh ?_); (case gh => walk_at "h"))
  | ((with_reducible refine' is_list_int ?gh ?_); (case gh => walk_at "h"))
  | ((with_reducible refine' is_list_bool ?gh ?_); (case gh => walk_at "h"))
  | ((with_reducible refine' is_list_str ?gh ?_); (case gh => walk_at "h"))
  | ((with_reducible refine' is2_list ?ga ?gb ?_); (case ga => walk_at "h"); (case gb => walk_at "h"))
  | ((with_reducible refine' is_tuple_list ?gh ?_); (case gh => walk_at "h"))
  | ((with_reducible refine' is_tuple_tuple ?gh ?_); (case gh => walk_at "h"))
  | ((with_reducible refine' is_tuple_dict ?gh ?_); (case gh => walk_at "h"))
  | ((with_reducible refine' is_tuple_int ?gh ?_); (case gh => walk_at "h"))
  | ((with_reducible refine' is_tuple_bool ?gh ?_); (case gh => walk_at "h"))
  | ((with_reducible refine' is_tuple_str ?gh ?_); (case gh => walk_at "h"))
  | ((with_reducible refine' is2_tuple ?ga ?gb ?_); (case ga => walk_at "h"); (case gb => walk_at "h"))
  | ((with_reducible refine' is_dict_list ?gh ?_); (case gh => walk_at "h"))
  | ((with_reducible refine' is_dict_tuple ?gh ?_); (case gh => walk_at "h"))
  | ((with_reducible refine' is_dict_dict ?gh ?_); (case gh => walk_at "h"))
  | ((with_reducible refine' is_dict_int ?gh ?_); (case gh => walk_at "h"))
  | ((with_reducible refine' is_dict_bool ?gh ?_); (case gh => walk_at "h"))
  | ((with_reducible refine' is_dict_str ?gh ?_); (case gh => walk_at "h"))
  | ((with_reducible refine' is2_dict ?ga ?gb ?_); (case ga => walk_at "h"); (case gb => walk_at "h")))
local macro_rules | `(tactic| walk_at "g") => `(tactic| first
  | (with_reducible refine g_seq ?_)
  | (with_reducible refine g_asg ?_)
  | ((with_reducible refine g_name ?_); dsimp only [List.set, wipe, List.map])
  | ((with_reducible refine' g_var ?gv ?_); (case gv => exact rfl))
  | (with_reducible refine g_c ?_)
  | (with_reducible refine g_op ?_)
  | (with_reducible refine g_cons ?_)
  | (with_reducible refine g_nil ?_)
  | (with_reducible refine g_cb ?_)
  | (with_reducible refine g_call ?_)
  | (with_reducible refine g_tup ?_)
  | (with_reducible refine g_lst ?_)
  | (with_reducible refine g_bm ?_)
  | (with_reducible refine g_bm0 ?_)
  | ((with_reducible refine' g_kbm ?gh ?_); (case gh => walk_at "h"))
  | (with_reducible refine g_drop ?_)
  | (with_reducible refine g_ret ?_)
  | (with_reducible refine g_retN ?_)
  | (with_reducible refine g_next ?_)
  | (with_reducible refine g_brk ?_)
  | (with_reducible refine g_cont ?_)
  | (with_reducible refine g_if ?_)
  | ((with_reducible refine' g_aug ?gv ?_); (case gv => exact rfl))
  | (with_reducible refine g_ipI ?_)
  | (with_reducible refine g_test ?_)
  | (with_reducible refine g_tB ?_)
  | (with_reducible refine g_kB ?_)
  | (with_reducible refine g_not ?_)
  | (with_reducible refine g_and ?_)
  | (with_reducible refine g_or ?_)
  | (with_reducible refine g_andV ?_)
  | (with_reducible refine g_orV ?_)
  | (with_reducible refine g_notV ?_)
  | (with_reducible refine g_ifE ?_)
  | (with_reducible refine g_addI ?_)
  | (with_reducible refine g_rI0 ?_)
  | (with_reducible refine g_eqI ?_)
  | (with_reducible refine g_eqS ?_)
  | (with_reducible refine g_neI ?_)
  | (with_reducible refine g_neS ?_)
  | (with_reducible refine g_isN ?_)
  | (with_reducible refine g_notN ?_)
  | (with_reducible refine g_int ?_)
  | (with_reducible refine g_max2 ?_)
  | (with_reducible refine g_min2 ?_)
  | ((with_reducible refine' g_lenL ?gh ?_); (case gh => walk_at "h"))
  | (with_reducible refine g_sub ?_)
  | (with_reducible refine g_gcons ?_)
  | (with_reducible refine g_gnil ?_)
  | (with_reducible refine g_un ?_)
  | (with_reducible refine g_rU ?_)
  | (with_reducible refine g_forL ?_)
  | (with_reducible refine g_forS ?_)
  | (with_reducible refine g_forR1 ?_)
  | (with_reducible refine g_forR2 ?_)
  | (with_reducible refine g_forR3 ?_)
  | (with_reducible refine g_lcL ?_)
  | (with_reducible refine g_lcR1 ?_)
  | (with_reducible refine g_lcR2 ?_)
  | (with_reducible refine g_slice ?_)
  | (with_reducible refine g_part ?_)
  | (with_reducible refine g_kOI ?_)
  | (with_reducible refine g_nopart ?_)
  | (with_reducible refine g_yes ?_)
  | ((with_reducible refine' g_wipe ?gv ?_); (case gv => exact rfl))
  | (with_reducible refine iteT ?_)
  | (with_reducible refine iteF ?_)
  | (with_reducible refine i_nf ?_)
  | (with_reducible refine i_nt ?_)
  | ((with_reducible refine' g_gtup ?gh ?gl ?_); (case gh => walk_at "h"); (case gl => exact rfl))
  | ((with_reducible refine' g_notinI ?gh ?_); (case gh => walk_at "h"))
  | ((with_reducible refine' g_inI ?gh ?_); (case gh => walk_at "h"))
  | ((with_reducible refine' g_kget2 ?gh ?_); (case gh => walk_at "h"))
  | ((with_reducible refine' g_kgotI ?gh ?_); (case gh => walk_at "h"))
  | (with_reducible refine g_tRev ?_)
  | (with_reducible refine g_neB ?_)
  | (with_reducible refine g_eqB ?_)
  | ((with_reducible refine' g_lenT ?gh ?_); (case gh => walk_at "h"))
  | (with_reducible refine g_star ?_)
  | ((with_reducible refine' g_kstarL ?gh ?_); (case gh => walk_at "h"))
  | ((with_reducible refine' g_kstarT ?gh ?_); (case gh => walk_at "h"))
  | (with_reducible refine g_tru ?_)
  | ((with_reducible refine' g_truL ?gh ?_); (case gh => walk_at "h"))
  | (with_reducible refine g_get2 ?_)
  | (with_reducible refine g_try ?_)
  | (with_reducible refine g_fld ?_)
  | (with_reducible refine g_sfld ?_)
  | (with_reducible refine g_meth ?_)
  | (with_reducible refine g_make ?_)
  | (with_reducible refine g_del ?_)
  | (with_reducible refine g_callS ?_)
  | (with_reducible refine g_raise ?_)
  | (with_reducible refine g_xf ?_)
  | (with_reducible refine g_m0 ?_)
  | (with_reducible refine g_km0 ?_)
  | walk_at "is")
local macro_rules | `(tactic| walk_at "gg") => `(tactic| repeat walk_at "g")
local macro_rules | `(tactic| walk_at "sz") => `(tactic| (refine sz ?_; simp only [List.length_cons, List.length_nil, List.length_map, List.length_append, List.length_replicate]; omega))
local macro_rules | `(tactic| walk_at "sub") => `(tactic| ((repeat (first | exact List.Sublist.slnil | with_reducible apply List.Sublist.cons_cons | with_reducible apply List.Sublist.cons)); done))

local macro_rules | `(tactic| walk_at "g") => `(tactic| first
  | ((with_reducible refine' g_lenNL ?gh ?_); (case gh => walk_at "h"))
  | ((with_reducible refine' g_lenND ?gh ?_); (case gh => walk_at "h"))
  | ((with_reducible refine' g_lenNT ?gh ?_); (case gh => walk_at "h"))
  | (with_reducible refine g_ltI ?_)
  | (with_reducible refine g_ltS ?_)
  | (with_reducible refine g_lstRg ?_)
  | (with_reducible refine g_forK ?_))

/-! ### what a law's search leans on -/
/-- what a law's search leans on -/
structure MG (ks : List Str) (M : Str → Str → Str → Prop) : Prop where
  few : ks.length ≤ 20
  nd : ks.Nodup
  ok : okL ks
  cl : ∀ a b c, a ∈ ks → b ∈ ks → M a b c → c ∈ ks
  sy : ∀ a b c, M a b c → M b a c
  se : ∀ a c, a ∈ ks → M a a c → c = a
theorem re_new {F H H' : Hp} {O : Own} {p : Addr} {u : HO} (h : Has F O H) (n : H p = none) (e : H' p = some u) : rmO O H' p = some u := by
  unfold rmO
  rw [if_neg]
  · exact e
  · intro m
    obtain ⟨q, hq, eq⟩ := List.mem_map.mp m
    have := (h.own q hq).2
    rw [eq, n] at this
    cases this

/-- without gaps: closed -/
theorem gp_closed {ks : List Str} {M : Str → Str → Str → Prop} (G : MG ks M) {so : List Str} (sub : ∀ z ∈ so, z ∈ ks) (no : ∀ a b c, ¬ Gp M so a b c) : ∀ a b c, a ∈ so → b ∈ so → M a b c → c ∈ so := fun a b c ha hb m => by
  refine Decidable.byContradiction fun hc => ?_
  by_cases e : a = b
  · subst e
    exact hc (by rw [G.se a c (sub a ha) m]; exact ha)
  · by_cases l : kk a < kk b
    · exact no a b c ⟨ha, hb, l, m, hc⟩
    · exact no b a c ⟨hb, ha, kk_cases l (fun z => e z.symm), G.sy _ _ _ m, hc⟩
section
variable {P : Program} {w : World} {K : PySem.W.Frag} {mg : Str → Option Value} {base : Heap}
def sp_l_closure (T : Txt K mg) : Sp := fun vs H Q _ => ∃ (b s : Addr) (ks : List Str) (M : Str → Str → Str → Prop) (so : List Str), vs = [.ref b, .ref s] ∧ BaAt H b ks M ∧ H s = some (.lst (so.map V.str)) ∧ so.Nodup ∧ (∀ z ∈ so, z ∈ ks) ∧ MG ks M ∧
  ∀ p H' us, Same H H' → H p = none → H' p = some (.lst (us.map V.str)) → Asc us → (∀ z, z ∈ us ↔ Cl M (fun z => z ∈ so) z) → Q (.ref p) H'
theorem sp_l_closure_len {T : Txt K mg} {vs H Q E} (h : sp_l_closure T vs H Q E) : vs.length = 2 := by
  obtain ⟨_, _, _, _, _, rfl, _⟩ := h
  rfl
set_option maxHeartbeats 1000000 in
theorem ok_l_closure (T : Txt K mg) : FnOk P w K mg base CX0 2 T.f_l_closure T.fd_l_closure ["bases", "some"] (sp_l_closure T) := by
  refine T.F_l_closure.ok sc_l_closure (fun vs H Q E h => sp_l_closure_len h) (fun cdv A outer s H vs Q E hr h => ?_)
  refine ⟨_, (pss_cons (ps_set (i := 2) sc_l_closure.nd rfl (.inl rfl) (pe_callTy (cr_listK K) (by rfl) T.m_list (by decide +kernel) (pa_cons (pv 1) pa_nil)))
      (pss_cons (ps_for PassesOwn.never rfl (pi_range1 rfl T.m_range (pa_cons (pe_callB (cr_lenN K) (by rfl) T.m_len (by decide +kernel) (pa_cons (pv 0) pa_nil)) pa_nil)) (pg_name (i := 3) sc_l_closure.nd rfl (.inl rfl)) (pss_cons (ps_set (i := 4) sc_l_closure.nd rfl (.inl rfl) (pe_call (ok_l_gaps T) (hr.mono (by decide)) (by rfl) T.g_l_gaps T.F_l_gaps.kp T.b_l_gaps .nil pass0 (pa_cons (pv 0) (pa_cons (pv 2) pa_nil))))
      (pss_cons (ps_if (pt_cmpR (op_eqK K hr.units) (pv 4) (pe_lst pa_nil) (nomark _)) (pss_one (ps_ret (pe_callB (cr_sortA K rfl) (by rfl) T.m_sorted (by decide +kernel) (pa_cons (pv 2) pa_nil)))) pss_nil)
      (pss_one (ps_expr (k_bm K (pe_bm PySem.F.plainAttrs_list PySem.F.slot_list_append PySem.F.type_list_append mt_append (pv 2) (pa_cons (pe_ix (ix_K K (hu_of hr)) (pe_ix (ix_K K (hu_of hr)) (pv 4) pe_int (fun _ _ => rfl)) pe_int (fun _ _ => rfl)) pa_nil))))))))
      (pss_one (ps_ret (pe_callB (cr_sortA K rfl) (by rfl) T.m_sorted (by decide +kernel) (pa_cons (pv 2) pa_nil)))))), ?_⟩
  obtain ⟨b, s, ks, M, so, rfl, ba, hs, nd, sub, G, q⟩ := h
  have hH := Has.start H
  have few := G.few
  have lso : so.length ≤ 20 := nodup_few nd sub few
  obtain ⟨kb, hkb, ekb, _⟩ := id ba
  have lkb : kb.length = ks.length := by
    have := congrArg List.length ekb
    rw [List.length_map, List.length_map] at this
    exact this
  refine g_start (σ' := [some (.ref b), some (.ref s), none, none, none]) rfl ?_
  walk_at "gg"
  refine g_listL hs hH (fun f H1 n1 h1 => ?_)
  walk_at "gg"
  rw [lkb]
  refine k_forR1 (fun t σ H' => ∃ (F : Hp) (fs : List Str) (y3 y4 : Option V), σ = [some (.ref b), some (.ref s), some (.ref f), y3, y4] ∧ Same H F ∧ Has F [(f, .lst (fs.map V.str))] H' ∧ fs.Nodup ∧ (∀ z ∈ fs, z ∈ ks) ∧ (∀ z ∈ so, z ∈ fs) ∧ (∀ z ∈ fs, Cl M (fun z => z ∈ so) z) ∧ fs.length = so.length + t)
    (by omega) (by omega) ⟨H, so, _, _, rfl, Same.refl _, h1, nd, sub, fun z h => h, fun z h => .base h, rfl⟩ ?_ ?_
  · rintro t σ H2 ht ⟨F, fs, y3, y4, rfl, sF, h2, ndf, subf, inf, clf, lf⟩
    have lfs : fs.length ≤ 20 := nodup_few ndf subf few
    walk_at "gg"
    refine ⟨b, f, ks, M, fs, rfl, (ba.mono sF).mono h2.same, h2.get (List.Mem.head _), ndf, subf, few, G.cl, fun p H3 ws ts s3 n3 hp dq mt _ => ?_⟩
    have fp := re_new h2 n3 hp
    have dq := (h2.on s3).keep (fun q hq xs => by rw [List.mem_singleton.mp hq]; exact fun z => by cases z) (fun d hd => by
      obtain ⟨t, _, rfl⟩ := List.mem_map.mp hd
      rfl) dq
    have sF3 := sF.trans (h2.on s3).reF
    have h3 := (h2.on s3).re
    generalize rmO [(f, .lst (fs.map V.str))] H3 = F3 at fp dq sF3 h3
    walk_at "gg"
    refine g_klst (by walk_at "sz") h3 (fun p4 H4 n4 h4 => ?_)
    have shp : SeqAt.shaped (.list (ts.map tD)) = true := Sh.ok (n := 2) (Sh.list fun d hd => by
      obtain ⟨⟨a, b', c⟩, hm, rfl⟩ := List.mem_map.mp hd
      have g := (mt a b' c).mp hm
      have ca := subf a g.1
      have cb := subf b' g.2.1
      exact Sh.tuple (n := 0) fun d hd => by
        simp only [List.mem_cons, List.not_mem_nil, or_false] at hd
        rcases hd with rfl | rfl | rfl
        · exact Sh.str (G.ok _ ca)
        · exact Sh.str (G.ok _ cb)
        · exact Sh.str (G.ok _ (G.cl _ _ _ ca cb g.2.2.2.1))) (by decide)
    refine g_eqD (.lst (h4.same _ _ fp) (dq.up h4.same _ _)) (.lst (h4.get (List.Mem.head _)) .nil) shp rfl ?_
    have h4 := h4.drop
    rw [show PyData.eqv (.list (ts.map tD)) (.list []) = decide (ts = []) by
      rw [PyData.eqv, eqvAll_nil]
      cases ts <;> rfl]
    walk_at "gg"
    refine i_d (fun e => ?_) (fun ne => ?_)
    · subst e
      walk_at "gg"
      refine g_sortS (h4.get (List.Mem.head _)) (by omega) h4 (fun us p5 H5 pm srt n5 h5 => ?_)
      refine q p5 H5 us (sF3.trans h5.same) (sF3.free (h4.same.free n5)) (h5.get (List.Mem.head _)) (asc_of srt (pm.nodup_iff.mpr ndf)) fun z => ?_
      rw [pm.mem_iff]
      exact ⟨clf z, fun c => c.least (C := fun z => z ∈ fs) inf fun a b c ha hb m => gp_closed G subf (fun a b c g => by cases (mt a b c).mpr g) a b c ha hb m⟩
    · match ts, ne, dq, mt with
      | (x, y, z) :: ts, _, dq, mt =>
        match ws, dq with
        | v :: ws, .cons d1 d2 =>
          obtain ⟨tp, rfl, htp⟩ := trip_at d1
          have g := (mt x y z).mp List.mem_cons_self
          walk_at "gg"
          refine g_ixL (v := .ref tp) (h4.same _ _ fp) (atI_nat (j := 0) rfl) ?_
          walk_at "gg"
          refine g_ixT (v := .str z) (h4.same _ _ htp) (atI_nat (j := 2) rfl) ?_
          walk_at "gg"
          refine g_append h4 .hd (szl (by rw [List.length_map]; omega)) (fun H5 h5 => ?_)
          walk_at "gg"
          refine ⟨F3, fs ++ [z], _, _, rfl, sF3, by rw [List.map_append]; exact h5, ?_, fun z' hz' => ?_, fun z' hz' => List.mem_append_left _ (inf z' hz'), fun z' hz' => ?_, by rw [List.length_append, lf]; rfl⟩
          · rw [List.nodup_append]
            refine ⟨ndf, List.nodup_cons.mpr ⟨fun h => (by cases h), List.nodup_nil⟩, fun a ha b' hb' e => ?_⟩
            rw [List.mem_singleton.mp hb'] at e
            exact g.2.2.2.2 (e ▸ ha)
          · rcases List.mem_append.mp hz' with h | h
            · exact subf z' h
            · rw [List.mem_singleton.mp h]
              exact G.cl _ _ _ (subf x g.1) (subf y g.2.1) g.2.2.2.1
          · rcases List.mem_append.mp hz' with h | h
            · exact clf z' h
            · rw [List.mem_singleton.mp h]
              exact .step (clf x g.1) (clf y g.2.1) g.2.2.2.1
  · rintro σ H2 ⟨F, fs, y3, y4, rfl, sF, h2, ndf, subf, inf, clf, lf⟩
    have e5 : (ks.length : Int).toNat = ks.length := by omega
    rw [e5] at lf
    have lfk := length_le_of_nodup_of_subset fs ks ndf subf
    have z0 : so = [] := List.length_eq_zero_iff.mp (by omega)
    subst z0
    have no : ∀ z, ¬ Cl M (fun z => z ∈ ([] : List Str)) z := fun z c => c.least (C := fun _ => False) (fun z h => by cases h) (fun _ _ _ h _ _ => h)
    walk_at "gg"
    refine g_sortS (h2.get (List.Mem.head _)) (by omega) h2 (fun us p5 H5 pm srt n5 h5 => ?_)
    refine q p5 H5 us (sF.trans h5.same) (sF.free (h2.same.free n5)) (h5.get (List.Mem.head _)) (asc_of srt (pm.nodup_iff.mpr ndf)) fun z => ?_
    rw [pm.mem_iff]
    exact ⟨clf z, fun c => (no z c).elim⟩
end

end K29

namespace K29
open PySem PySem.Spec PyProof.Rows L2 Qk
local macro_rules | `(tactic| walk_at "m") => `(tactic| ((repeat (first | exact List.Mem.head _ | apply List.Mem.tail)); done))
local macro_rules | `(tactic| walk_at "h") => `(tactic| first | assumption | exact Has.gF (by assumption) (by assumption) | exact Has.get (by assumption) (by walk_at "m"))
local macro_rules | `(tactic| walk_at "c") => `(tactic| ((repeat (first | exact Chg.hd | apply Chg.tl)); done))
local macro_rules | `(tactic| walk_at "is") => `(tactic| first
  | ((with_reducible refine' is2_non ?gh ?_); (case gh => walk_at "h"))
  | (with_reducible refine is_int_list ?_)
  | (with_reducible refine is_int_tuple ?_)
  | (with_reducible refine is_int_dict ?_)
  | (with_reducible refine is_int_int ?_)
  | (with_reducible refine is_int_bool ?_)
  | (with_reducible refine is_int_str ?_)
  | ((with_reducible refine' is2_int ?gh ?_); (case gh => walk_at "h"))
  | (with_reducible refine is_str_list ?_)
  | (with_reducible refine is_str_tuple ?_)
  | (with_reducible refine is_str_dict ?_)
  | (with_reducible refine is_str_int ?_)
  | (with_reducible refine is_str_bool ?_)
  | (with_reducible refine is_str_str ?_)
  | ((with_reducible refine' is2_str ?gh ?_); (case gh => walk_at "h"))
  | (with_reducible refine is_bool_list ?_)
  | (with_reducible refine is_bool_tuple ?_)
  | (with_reducible refine is_bool_dict ?_)
  | (with_reducible refine is_bool_int ?_)
  | (with_reducible refine is_bool_bool ?_)
  | (with_reducible refine is_bool_str ?_)
  | ((with_reducible refine' is2_bool ?gh ?_); (case gh => walk_at "h"))
  | ((with_reducible refine' is_list_list ?gh ?_); (case gh => walk_at "h"))
  | ((with_reducible refine' is_list_tuple ?gh ?_); (case gh => walk_at "h"))
  | ((with_reducible refine' is_list_dict ?gh ?_); (case gh => walk_at "h"))
  | ((with_reducible refine' is_list_int ?gh ?_); (case gh => walk_at "h"))
  | ((with_reducible refine' is_list_bool ?gh ?_); (case gh => walk_at "h"))
  | ((with_reducible refine' is_list_str ?gh ?_); (case gh => walk_at "h"))
  | ((with_reducible refine' is2_list ?ga ?gb ?_); (case ga => walk_at "h"); (case gb => walk_at "h"))
  | ((with_reducible refine' is_tuple_list ?gh ?_); (case gh => walk_at "h"))
  | ((with_reducible refine' is_tuple_tuple ?gh ?_); (case gh => walk_at "h"))
  | ((with_reducible refine' is_tuple_dict ?gh ?_); (case gh => walk_at "h"))
  | ((with_reducible refine' is_tuple_int ?gh ?_); (case gh => walk_at "h"))
  | ((with_reducible refine' is_tuple_bool ?gh ?_); (case gh => walk_at "h"))
  | ((with_reducible refine' is_tuple_str ?gh ?_); (case gh => walk_at "h"))
  | ((with_reducible refine' is2_tuple ?ga ?gb ?_); (case ga => walk_at "h"); (case gb => walk_at "h"))
  | ((with_reducible refine' is_dict_list ?gh ?_); (case gh => walk_at "h"))
  | ((with_reducible refine' is_dict_tuple ?gh ?_); (case gh => walk_at "h"))
  | ((with_reducible refine' is_dict_dict ?gh ?_); (case gh => walk_at "h"))
  | ((with_reducible refine' is_dict_int ?gh ?_); (case gh => walk_at "h"))
  | ((with_reducible refine' is_dict_bool ?gh ?_); (case gh => walk_at "h"))
  | ((with_reducible refine' is_dict_str ?gh ?_); (case gh => walk_at "h"))
  | ((with_reducible refine' is2_dict ?ga ?gb ?_); (case ga => walk_at "h"); (case gb => walk_at "h")))
local macro_rules | `(tactic| walk_at "g") => `(tactic| first
  | (with_reducible refine g_seq ?_)
  | (with_reducible refine g_asg ?_)
  | ((with_reducible refine g_name ?_); dsimp only [List.set, wipe, List.map])
  | ((with_reducible refine' g_var ?gv ?_); (case gv => exact rfl))
  | (with_reducible refine g_c ?_)
  | (with_reducible refine g_op ?_)
  | (with_reducible refine g_cons ?_)
  | (with_reducible refine g_nil ?_)
  | (with_reducible refine g_cb ?_)
  | (with_reducible refine g_call ?_)
  | (with_reducible refine g_tup ?_)
  | (with_reducible refine g_lst ?_)
  | (with_reducible refine g_bm ?_)
  | (with_reducible refine g_bm0 ?_)
  | ((with_reducible refine' g_kbm ?gh ?_); (case gh => walk_at "h"))
  | (with_reducible refine g_drop ?_)
  | (with_reducible refine g_ret ?_)
  | (with_reducible refine g_retN ?_)
  | (with_reducible refine g_next ?_)
  | (with_reducible refine g_brk ?_)
  | (with_reducible refine g_cont ?_)
  | (with_reducible refine g_if ?_)
  | ((with_reducible refine' g_aug ?gv ?_); (case gv => exact rfl))
  | (with_reducible refine g_ipI ?_)
  | (with_reducible refine g_test ?_)
  | (with_reducible refine g_tB ?_)
  | (with_reducible refine g_kB ?_)
  | (with_reducible refine g_not ?_)
  | (with_reducible refine g_and ?_)
  | (with_reducible refine g_or ?_)
  | (with_reducible refine g_andV ?_)
  | (with_reducible refine g_orV ?_)
  | (with_reducible refine g_notV ?_)
  | (with_reducible refine g_ifE ?_)
  | (with_reducible refine g_addI ?_)
  | (with_reducible refine g_rI0 ?_)
  | (with_reducible refine g_eqI ?_)
  | (with_reducible refine g_eqS ?_)
  | (with_reducible refine g_neI ?_)
  | (with_reducible refine g_neS ?_)
  | (with_reducible refine g_isN ?_)
  | (with_reducible refine g_notN ?_)
  | (with_reducible refine g_int ?_)
  | (with_reducible refine g_max2 ?_)
  | (with_reducible refine g_min2 ?_)
  | ((with_reducible refine' g_lenL ?gh ?_); (case gh => walk_at "h"))
  | (with_reducible refine g_sub ?_)
  | (with_reducible refine g_gcons ?_)
  | (with_reducible refine g_gnil ?_)
  | (with_reducible refine g_un ?_)
  | (with_reducible refine g_rU ?_)
  | (with_reducible refine g_forL ?_)
  | (with_reducible refine g_forS ?_)
  | (with_reducible refine g_forR1 ?_)
  | (with_reducible refine g_forR2 ?_)
  | (with_reducible refine g_forR3 ?_)
  | (with_reducible refine g_lcL ?_)
  | (with_reducible refine g_lcR1 ?_)
  | (with_reducible refine g_lcR2 ?_)
  | (with_reducible refine g_slice ?_)
  | (with_reducible refine g_part ?_)
  | (with_reducible refine g_kOI ?_)
  | (with_reducible refine g_nopart ?_)
  | (with_reducible refine g_yes ?_)
  | ((with_reducible refine' g_wipe ?gv ?_); (case gv => exact rfl))
  | (with_reducible refine iteT ?_)
  | (with_reducible refine iteF ?_)
  | (with_reducible refine i_nf ?_)
  | (with_reducible refine i_nt ?_)
  | ((with_reducible refine' g_gtup ?gh ?gl ?_); (case gh => walk_at "h"); (case gl => exact rfl))
  | ((with_reducible refine' g_notinI ?gh ?_); (case gh => walk_at "h"))
  | ((with_reducible refine' g_inI ?gh ?_); (case gh => walk_at "h"))
  | ((with_reducible refine' g_kget2 ?gh ?_); (case gh => walk_at "h"))
  | ((with_reducible refine' g_kgotI ?gh ?_); (case gh => walk_at "h"))
  | (with_reducible refine g_tRev ?_)
  | (with_reducible refine g_neB ?_)
  | (with_reducible refine g_eqB ?_)
  | ((with_reducible refine' g_lenT ?gh ?_); (case gh => walk_at "h"))
  | (with_reducible refine g_star ?_)
  | ((with_reducible refine' g_kstarL ?gh ?_); (case gh => walk_at "h"))
  | ((with_reducible refine' g_kstarT ?gh ?_); (case gh => walk_at "h"))
  | (with_reducible refine g_tru ?_)
  | ((with_reducible refine' g_truL ?gh ?_); (case gh => walk_at "h"))
  | (with_reducible refine g_get2 ?_)
  | (with_reducible refine g_try ?_)
  | (with_reducible refine g_fld ?_)
  | (with_reducible refine g_sfld ?_)
  | (with_reducible refine g_meth ?_)
  | (with_reducible refine g_make ?_)
  | (with_reducible refine g_del ?_)
  | (with_reducible refine g_callS ?_)
  | (with_reducible refine g_raise ?_)
  | (with_reducible refine g_xf ?_)
  | (with_reducible refine g_m0 ?_)
  | (with_reducible refine g_km0 ?_)
  | walk_at "is")
local macro_rules | `(tactic| walk_at "gg") => `(tactic| repeat walk_at "g")
local macro_rules | `(tactic| walk_at "sz") => `(tactic| (refine sz ?_; simp only [List.length_cons, List.length_nil, List.length_map, List.length_append, List.length_replicate]; omega))
local macro_rules | `(tactic| walk_at "sub") => `(tactic| ((repeat (first | exact List.Sublist.slnil | with_reducible apply List.Sublist.cons_cons | with_reducible apply List.Sublist.cons)); done))

local macro_rules | `(tactic| walk_at "g") => `(tactic| first
  | ((with_reducible refine' g_lenNL ?gh ?_); (case gh => walk_at "h"))
  | ((with_reducible refine' g_lenND ?gh ?_); (case gh => walk_at "h"))
  | ((with_reducible refine' g_lenNT ?gh ?_); (case gh => walk_at "h"))
  | (with_reducible refine g_ltI ?_)
  | (with_reducible refine g_ltS ?_)
  | (with_reducible refine g_lstRg ?_)
  | (with_reducible refine g_forK ?_))

local macro_rules | `(tactic| walk_at "g") => `(tactic| (with_reducible refine g_tryM ?_))

/-! ### what is told -/
theorem g_isYA {K : PySem.W.Frag} {a : Addr} {cls : Value} {d : Option Addr} {xs : List V} {H : Hp} {Q : VK} (q : rIsA K xs H Q) : rIsY K a cls d xs H Q := .inr q

section
variable {P : Program} {w : World} {K : PySem.W.Frag} {mg : Str → Option Value} {base : Heap}
def sp_l_same (T : Txt K mg) : Sp := fun vs H Q _ => ∃ (a b : Str), vs = [.str a, .str b] ∧ Q (.bl (decide (a = b))) H
theorem sp_l_same_len {T : Txt K mg} {vs H Q E} (h : sp_l_same T vs H Q E) : vs.length = 2 := by
  obtain ⟨_, _, rfl, _⟩ := h
  rfl
theorem ok_l_same (T : Txt K mg) : FnOk P w K mg base CX0 1 T.f_l_same T.fd_l_same ["told", "due"] (sp_l_same T) := by
  refine T.F_l_same.ok sc_l_same (fun vs H Q E h => sp_l_same_len h) (fun cdv A outer s H vs Q E hr h => ?_)
  refine ⟨_, (pss_one (ps_ret (pe_and (pe_callB (cr_isK K) (by rfl) T.m_isinstance (by decide +kernel) (pa_cons (pv 0) (pa_cons (pe_bltn (v := .ty "str") (by rfl) T.m_str (by decide +kernel) rfl) pa_nil))) (pe_one (pe_cmpR (op_eqK K hr.units) (pv 0) (pv 1) (nomark _)))))), ?_⟩
  obtain ⟨a, b, rfl, q⟩ := h
  refine g_start (σ' := [some (.str a), some (.str b)]) rfl ?_
  walk_at "gg"
  exact q
def sp_l_is_list (T : Txt K mg) : Sp := fun vs H Q _ => ∃ (p d : Addr) (xs : List Str), vs = [.ref p, .ref d] ∧ H p = some (.lst (xs.map V.str)) ∧ H d = some (.lst (xs.map V.str)) ∧ xs.length ≤ 1000 ∧ ∀ H', Same H H' → Q (.bl true) H'
theorem sp_l_is_list_len {T : Txt K mg} {vs H Q E} (h : sp_l_is_list T vs H Q E) : vs.length = 2 := by
  obtain ⟨_, _, _, rfl, _⟩ := h
  rfl
theorem ok_l_is_list (T : Txt K mg) : FnOk P w K mg base CX0 2 T.f_l_is_list T.fd_l_is_list ["told", "due"] (sp_l_is_list T) := by
  refine T.F_l_is_list.ok sc_l_is_list (fun vs H Q E h => sp_l_is_list_len h) (fun cdv A outer s H vs Q E hr h => ?_)
  refine ⟨_, (pss_cons (ps_if (PW.pt (pw_or (pt_not (pt_val (pe_callB (cr_isK K) (by rfl) T.m_isinstance (by decide +kernel) (pa_cons (pv 0) (pa_cons (pe_bltn (v := .ty "list") (by rfl) T.m_list (by decide +kernel) rfl) pa_nil))))) (pw_or1 (pt_cmpR (op_neK K hr.units) (pe_callB (cr_lenN K) (by rfl) T.m_len (by decide +kernel) (pa_cons (pv 0) pa_nil)) (pe_callB (cr_lenN K) (by rfl) T.m_len (by decide +kernel) (pa_cons (pv 1) pa_nil)) (nomark _))))) (pss_one (ps_ret pe_bl)) pss_nil)
      (pss_one (ps_ret (pe_callB (cr_allK K rfl) (by rfl) T.m_all (by decide +kernel) (pa_cons (pe_lc (own := [("k", 2)]) (g := gName 2) (tt := tYes) rfl sc_l_is_list.nd (pi_range1 rfl T.m_range (pa_cons (pe_callB (cr_lenN K) (by rfl) T.m_len (by decide +kernel) (pa_cons (pv 1) pa_nil)) pa_nil)) (blkOk_by (N := n_l_is_list) (sc := defScope s_l_is_list) (by decide +kernel)) (fun _ _ _ _ _ => (pg_name (i := 2) sc_l_is_list.nd rfl (.inl rfl))) (fun _ _ _ _ _ => pts_nil) (fun _ _ _ _ _ => (pe_call (ok_l_same T) (hr.mono (by decide)) (by rfl) T.g_l_same T.F_l_same.kp T.b_l_same .nil pass0 (pa_cons (pe_ix (ix_K K (hu_of hr)) (pv 0) (pv 2) (fun _ _ => rfl)) (pa_cons (pe_ix (ix_K K (hu_of hr)) (pv 1) (pv 2) (fun _ _ => rfl)) pa_nil))))) pa_nil))))), ?_⟩
  obtain ⟨p, d, xs, rfl, hp, hd, lx, q⟩ := h
  have hH := Has.start H
  refine g_start (σ' := [some (.ref p), some (.ref d), none]) rfl ?_
  walk_at "gg"
  refine i_n (fun c => (c rfl).elim) (fun _ => ?_)
  walk_at "gg"
  rw [List.length_map]
  refine k_lcR1 (by omega) (by omega) hH (fun i acc F' O' => acc = (List.replicate i true).map V.bl ∧ H = F' ∧ O' = []) ⟨rfl, rfl, rfl⟩ ?_ ?_
  · rintro i acc F' O' D H1 hi ⟨rfl, rfl, rfl⟩ hh
    have hi : i < xs.length := by omega
    have ex : xs[i]? = some xs[i] := List.getElem?_eq_getElem hi
    generalize xs[i] = x at ex
    walk_at "gg"
    refine g_ixL (v := .str x) (hh.same _ _ hp) (atI_nat (by rw [List.getElem?_map, ex]; rfl)) ?_
    walk_at "gg"
    refine g_ixL (v := .str x) (hh.same _ _ hd) (atI_nat (by rw [List.getElem?_map, ex]; rfl)) ?_
    walk_at "gg"
    refine ⟨x, x, rfl, ?_⟩
    rw [decide_eq_true rfl]
    refine k_turn hh (by rw [List.length_map, List.length_replicate]; omega) ⟨?_, rfl, rfl⟩
    rw [List.replicate_succ', List.map_append]
    rfl
  rintro acc F' O' p2 H2 ⟨rfl, rfl, rfl⟩ h2
  refine g_all (h2.get (List.Mem.head _)) ?_
  have e : (List.replicate (xs.length : Int).toNat true).all id = true := by
    rw [List.all_eq_true]
    intro b hb
    rw [(List.mem_replicate.mp hb).2]
    rfl
  rw [e]
  exact q H2 h2.same
end

section
variable {P : Program} {w : World} {K : PySem.W.Frag} {mg : Str → Option Value} {base : Heap}
def sp_l_lacks (T : Txt K mg) : Sp := fun vs H Q _ => ∃ (s r : Addr) (so ro : List Str), vs = [.ref s, .ref r] ∧ H s = some (.lst (so.map V.str)) ∧ H r = some (.lst (ro.map V.str)) ∧ so.length ≤ 1000 ∧
  ∀ p H', Same H H' → H p = none → H' p = some (.lst ((so.filter fun z => !decide (z ∈ ro)).map V.str)) → Q (.ref p) H'
theorem sp_l_lacks_len {T : Txt K mg} {vs H Q E} (h : sp_l_lacks T vs H Q E) : vs.length = 2 := by
  obtain ⟨_, _, _, _, rfl, _⟩ := h
  rfl
theorem ok_l_lacks (T : Txt K mg) : FnOk P w K mg base CX0 1 T.f_l_lacks T.fd_l_lacks ["some", "row"] (sp_l_lacks T) := by
  refine T.F_l_lacks.ok sc_l_lacks (fun vs H Q E h => sp_l_lacks_len h) (fun cdv A outer s H vs Q E hr h => ?_)
  refine ⟨_, (pss_one (ps_ret (pe_lc (own := [("name", 2)]) (g := gName 2) rfl sc_l_lacks.nd (k_il K (pi_list (pv 0))) (blkOk_by (N := n_l_lacks) (sc := defScope s_l_lacks) (by decide +kernel)) (fun _ _ _ _ _ => (pg_name (i := 2) sc_l_lacks.nd rfl (.inl rfl))) (fun _ _ _ _ _ => (pts_one (pt_cmpR (op_notinM K P w hr.units (u65 hr)) (pv 2) (pv 1) (by rfl)))) (fun _ _ _ _ _ => (pv 2))))), ?_⟩
  obtain ⟨s, r, so, ro, rfl, hs, hr_, ls, q⟩ := h
  have hH := Has.start H
  refine g_start (σ' := [some (.ref s), some (.ref r), none]) rfl ?_
  walk_at "gg"
  refine k_lcL hs hH (fun j acc F' O' => acc = ((so.take j).filter fun z => !decide (z ∈ ro)).map V.str ∧ H = F' ∧ O' = []) ⟨rfl, rfl, rfl⟩ ?_ ?_ ?_
  · rintro j acc F' O' H1 ⟨_, rfl, rfl⟩ hh
    exact hh.same _ _ hs
  · rintro j vv acc F' O' D H1 hv ⟨rfl, rfl, rfl⟩ hh
    obtain ⟨z, hz, rfl⟩ := str_at hv
    walk_at "gg"
    refine g_notinM (g_notinFL (hh.same _ _ hr_) rfl (flat_strs _) ?_)
    rw [inV_strs]
    walk_at "gg"
    have st : (so.take (j + 1)).filter (fun z => !decide (z ∈ ro)) = (so.take j).filter (fun z => !decide (z ∈ ro)) ++ [z].filter (fun z => !decide (z ∈ ro)) := by
      rw [List.take_add_one, hz, List.filter_append]
      rfl
    refine i_n (fun ne => ?_) (fun e => ?_)
    · walk_at "gg"
      refine k_turn hh ?_ ⟨?_, rfl, rfl⟩
      · rw [List.length_map]
        have := List.length_filter_le (fun z => !decide (z ∈ ro)) (so.take j)
        rw [List.length_take] at this
        omega
      · rw [st, List.map_append, List.filter_cons_of_pos (by simpa using ne)]
        rfl
    · refine k_skip hh ⟨?_, rfl, rfl⟩
      rw [st, List.filter_cons_of_neg (by simpa using e)]
      rw [List.filter_nil, List.append_nil]
  rintro acc F' O' p H1 ⟨rfl, rfl, rfl⟩ h1
  rw [List.length_map, List.take_length] at h1
  exact q p H1 h1.same h1.free (h1.get (List.Mem.head _))
end

/-! ### the law -/
theorem cl_eq {M : Str → Str → Str → Prop} {S S' : Str → Prop} (h1 : ∀ z, S z → Cl M S' z) (h2 : ∀ z, S' z → Cl M S z) (z : Str) : Cl M S z ↔ Cl M S' z := ⟨Cl.mono h1, Cl.mono h2⟩
theorem chkE_bad {kn : Str → Bool} {y : Str} (hy : kn y = false) : ∀ {xs seen : List Str}, (∀ z ∈ xs, kn z = true) → xs.Nodup → (∀ z ∈ xs, z ∉ seen) → chkE kn seen (xs ++ [y]) = some (true, y)
  | [], seen, _, _, _ => by
    show (if kn y = true then _ else some (true, y)) = some (true, y)
    rw [hy, if_neg Bool.false_ne_true]
  | x :: r, seen, hk, n, h => by
    have n' := List.nodup_cons.mp n
    show (if kn x = true then if x ∈ seen then some (false, x) else chkE kn (seen ++ [x]) (r ++ [y]) else some (true, x)) = _
    rw [if_pos (hk x List.mem_cons_self), if_neg (h x List.mem_cons_self)]
    refine chkE_bad hy (fun z hz => hk z (List.mem_cons_of_mem _ hz)) n'.2 (fun z hz m => ?_)
    rcases List.mem_append.mp m with m | m
    · exact h z (List.mem_cons_of_mem _ hz) m
    · rw [List.mem_singleton.mp m] at hz
      exact n'.1 hz
theorem dq_take {H : Hp} : ∀ {vs : List V} {ds : List PyData} (n : Nat), DqAll H vs ds → DqAll H (vs.take n) (ds.take n)
  | _, _, 0, _ => .nil
  | _, _, n + 1, .nil => .nil
  | _, _, n + 1, .cons h t => .cons h (dq_take n t)
theorem LsG.of {names : List Str} {web : List (List Nat)} {n : Nat} {ls : List URow} (L : RowsW names web n ls) (wok : WebOk web) (nms : NmC names) (ln : names.length ≤ 20) : LsG ls := by
  have inn : ∀ z, kn ls z = true → z ∈ names := fun z k => by
    obtain ⟨j, _, ej⟩ := L.known.mp k
    exact List.mem_of_getElem? ej
  refine ⟨L.refl, fun x z u => L.kmem wok u, fun z k => (nms.ok z (inn z k)).strOk, ?_, ?_⟩
  · have := congrArg List.length L.nms
    rw [List.length_map, List.length_take] at this
    omega
  · rw [L.nms]
    exact nms.nd.sublist (List.take_sublist _ _)
theorem LsG.mg {ls : List URow} (G : LsG ls) : MG (ls.map (·.1)) (MB (Un ls)) :=
  ⟨by rw [List.length_map]; exact G.few, G.nd, fun z hz => G.ok z (kn_mem.mpr hz), fun a b c _ _ m => kn_mem.mp (G.cl a c m.1.1), fun a b c m => m.symm, fun a c ha m => m.self (G.rf.un (kn_mem.mpr ha))⟩
/-- the closure among the law's own lists is that of the order -/
theorem cl_own {names : List Str} {web : List (List Nat)} {n : Nat} {rows ls : List URow} (R : RowsW names web n rows) (L : RowsW names web n ls) (wok : WebOk web) {xs : List Str} (kx : ∀ z ∈ xs, kn rows z = true) (z : Str) : Cl (MB (Un ls)) (fun z => z ∈ xs) z ↔ Cl (MB (Un rows)) (fun z => z ∈ xs) z :=
  Cl.congr (D := fun z => kn rows z = true) (fun z hz => kx z hz) (fun a b z ka kb m => R.kmem wok ((R.mb L wok ka kb z).mp m).1.1) (fun a b z ka kb => R.mb L wok ka kb z) z
theorem RowsW.kn_eq {names : List Str} {web : List (List Nat)} {n : Nat} {rows ls : List URow} (R : RowsW names web n rows) (L : RowsW names web n ls) (z : Str) : kn rows z = true ↔ z ∈ ls.map (·.1) := by rw [R.known, ← kn_mem, L.known]
section
variable {P : Program} {w : World} {K : PySem.W.Frag} {mg : Str → Option Value} {base : Heap}
def sp_law (K : PySem.W.Frag) : Sp := fun vs H Q _ => ∃ (a : Addr) (ns : List Int), vs = [.ref a] ∧ SqL K H a (ns.map V.int) ∧ ns.length ≤ 63 ∧ ∀ H', Q (.bl true) H'
theorem sp_law_len {vs H Q E} (h : sp_law K vs H Q E) : vs.length = 1 := by
  obtain ⟨_, _, rfl, _⟩ := h
  rfl
theorem sp_law_start {H : Hp} {a : Addr} {ns : List Int} (hl : ns.length ≤ 63) (hS : SqL K H a (ns.map V.int)) : sp_law K [.ref a] H (fun v _ => v = .bl true) (fun _ _ _ => False) := ⟨a, ns, rfl, hS, hl, fun _ => rfl⟩
end

/-! ### the first fault of a list, closed lists, by the law's own look -/
def fltL : Option (Bool × Str) → List Str
  | none => []
  | some (true, z) => ["unknown", z]
  | some (false, z) => ["repeated", z]
section
variable {P : Program} {w : World} {K : PySem.W.Frag} {mg : Str → Option Value} {base : Heap}
theorem BaAt.isin {F : Hp} {b : Addr} {ks : List Str} {M : Str → Str → Str → Prop} (h : BaAt F b ks M) : ∃ kb, F b = some (.dK kb) ∧ kb.length = ks.length ∧ ∀ x, (valV kb (.inr x)).isSome = decide (x ∈ ks) := by
  obtain ⟨kb, e, k, r⟩ := h
  have lk := congrArg List.length k
  rw [List.length_map, List.length_map] at lk
  refine ⟨kb, e, lk, fun x => ?_⟩
  by_cases c : x ∈ ks
  · obtain ⟨d, kv2, v, _⟩ := r x c
    rw [v, decide_eq_true c]
    rfl
  · rw [keys_none k c, decide_eq_false c]
    rfl
def sp_l_first_fault (T : Txt K mg) : Sp := fun vs H Q _ => ∃ (b l : Addr) (ks : List Str) (M : Str → Str → Str → Prop) (xs : List Str), vs = [.ref b, .ref l] ∧ BaAt H b ks M ∧ H l = some (.lst (xs.map V.str)) ∧ xs.length ≤ 100 ∧
  ∀ p H', Same H H' → H p = none → H' p = some (.lst ((fltL (chkE (fun z => decide (z ∈ ks)) [] xs)).map V.str)) → Q (.ref p) H'
theorem sp_l_first_fault_len {T : Txt K mg} {vs H Q E} (h : sp_l_first_fault T vs H Q E) : vs.length = 2 := by
  obtain ⟨_, _, _, _, _, rfl, _⟩ := h
  rfl
theorem ok_l_first_fault (T : Txt K mg) : FnOk P w K mg base CX0 1 T.f_l_first_fault T.fd_l_first_fault ["bases", "handed"] (sp_l_first_fault T) := by
  refine T.F_l_first_fault.ok sc_l_first_fault (fun vs H Q E h => sp_l_first_fault_len h) (fun cdv A outer s H vs Q E hr h => ?_)
  refine ⟨_, (pss_cons (ps_for PassesOwn.never rfl (pi_range1 rfl T.m_range (pa_cons (pe_callB (cr_lenN K) (by rfl) T.m_len (by decide +kernel) (pa_cons (pv 1) pa_nil)) pa_nil)) (pg_name (i := 2) sc_l_first_fault.nd rfl (.inl rfl)) (pss_cons (ps_if (pt_cmpR (op_notinM K P w hr.units (u65 hr)) (pe_ix (ix_K K (hu_of hr)) (pv 1) (pv 2) (fun _ _ => rfl)) (pv 0) (by rfl)) (pss_one (ps_ret (pe_lst (pa_cons pe_str (pa_cons (pe_ix (ix_K K (hu_of hr)) (pv 1) (pv 2) (fun _ _ => rfl)) pa_nil))))) pss_nil)
      (pss_one (ps_if (pt_cmpR (op_inM K P w hr.units (u65 hr)) (pe_ix (ix_K K (hu_of hr)) (pv 1) (pv 2) (fun _ _ => rfl)) (pe_slice (sl_M K) (pv 1) po_none (po_some (pv 2))) (by rfl)) (pss_one (ps_ret (pe_lst (pa_cons pe_str (pa_cons (pe_ix (ix_K K (hu_of hr)) (pv 1) (pv 2) (fun _ _ => rfl)) pa_nil))))) pss_nil))))
      (pss_one (ps_ret (pe_lst pa_nil)))), ?_⟩
  obtain ⟨b, l, ks, M, xs, rfl, ba, hl, lx, q⟩ := h
  obtain ⟨kb, hkb, _, isin⟩ := ba.isin
  have hH := Has.start H
  refine g_start (σ' := [some (.ref b), some (.ref l), none]) rfl ?_
  walk_at "gg"
  rw [List.length_map]
  refine k_forR1 (fun t σ H' => ∃ (y2 : Option V), σ = [some (.ref b), some (.ref l), y2] ∧ Has H [] H' ∧ chkE (fun z => decide (z ∈ ks)) [] xs = chkE (fun z => decide (z ∈ ks)) (xs.take t) (xs.drop t)) (by omega) (by omega) ⟨_, rfl, hH, rfl⟩ ?_ ?_
  · rintro t σ H2 ht ⟨y2, rfl, h2, e2⟩
    have ht : t < xs.length := by omega
    have ex : xs[t]? = some xs[t] := List.getElem?_eq_getElem ht
    generalize xs[t] = x at ex
    rw [drop_at ex] at e2
    have e2 : chkE (fun z => decide (z ∈ ks)) [] xs = if decide (x ∈ ks) = true then if x ∈ xs.take t then some (false, x) else chkE (fun z => decide (z ∈ ks)) (xs.take t ++ [x]) (xs.drop (t + 1)) else some (true, x) := e2
    walk_at "gg"
    refine g_ixL (v := .str x) (h2.same _ _ hl) (atI_nat (by rw [List.getElem?_map, ex]; rfl)) ?_
    walk_at "gg"
    refine g_notinM (g_notinS (h2.same _ _ hkb) ?_)
    rw [isin x]
    walk_at "gg"
    refine i_n (fun nk => ?_) (fun yk => ?_)
    · rw [if_neg (by simpa using nk)] at e2
      walk_at "gg"
      refine g_ixL (v := .str x) (h2.same _ _ hl) (atI_nat (by rw [List.getElem?_map, ex]; rfl)) ?_
      walk_at "gg"
      refine g_klst (by walk_at "sz") h2 (fun p H3 n3 h3 => ?_)
      refine q p H3 h3.same (h2.same.free n3) ?_
      rw [e2]
      exact h3.get (List.Mem.head _)
    · rw [if_pos (by simpa using yk)] at e2
      walk_at "gg"
      refine g_ixL (v := .str x) (h2.same _ _ hl) (atI_nat (by rw [List.getElem?_map, ex]; rfl)) ?_
      walk_at "gg"
      refine g_slM (g_slS (SqL.of (h2.same _ _ hl)) h2 (fun p3 H3 n3 h3 => ?_))
      rw [cutV_to, ← List.map_take] at h3
      refine g_inM (g_inFL (h3.get (List.Mem.head _)) rfl (flat_strs _) ?_)
      rw [inV_strs]
      have h3 := h3.drop
      walk_at "gg"
      refine i_d (fun m => ?_) (fun m => ?_)
      · rw [if_pos m] at e2
        walk_at "gg"
        refine g_ixL (v := .str x) (h3.same _ _ hl) (atI_nat (by rw [List.getElem?_map, ex]; rfl)) ?_
        walk_at "gg"
        refine g_klst (by walk_at "sz") h3 (fun p H4 n4 h4 => ?_)
        refine q p H4 h4.same (h3.same.free n4) ?_
        rw [e2]
        exact h4.get (List.Mem.head _)
      · rw [if_neg m] at e2
        walk_at "gg"
        have t1 : xs.take (t + 1) = xs.take t ++ [x] := by rw [List.take_add_one, ex]; rfl
        exact ⟨_, rfl, h3, by rw [t1]; exact e2⟩
  · rintro σ H2 ⟨y2, rfl, h2, e2⟩
    have e5 : (xs.length : Int).toNat = xs.length := by omega
    rw [e5, List.drop_length] at e2
    walk_at "gg"
    refine g_klst (by walk_at "sz") h2 (fun p H3 n3 h3 => ?_)
    refine q p H3 h3.same (h2.same.free n3) ?_
    rw [e2]
    exact h3.get (List.Mem.head _)
end

end K29

namespace K29
open PySem PySem.Spec PyProof.Rows L2 Qk
local macro_rules | `(tactic| walk_at "m") => `(tactic| ((repeat (first | exact List.Mem.head _ | apply List.Mem.tail)); done))
local macro_rules | `(tactic| walk_at "h") => `(tactic| first | assumption | exact Has.gF (by assumption) (by assumption) | exact Has.get (by assumption) (by walk_at "m"))
local macro_rules | `(tactic| walk_at "c") => `(tactic| ((repeat (first | exact Chg.hd | apply Chg.tl)); done))
local macro_rules | `(tactic| walk_at "is") => `(tactic| first
  | ((with_reducible refine' is2_non ?gh ?_); (case gh => walk_at "h"))
  | (with_reducible refine is_int_list ?_)
  | (with_reducible refine is_int_tuple ?_)
  | (with_reducible refine is_int_dict ?_)
  | (with_reducible refine is_int_int ?_)
  | (with_reducible refine is_int_bool ?_)
  | (with_reducible refine is_int_str ?_)
  | ((with_reducible refine' is2_int ?gh ?_); (case gh => walk_at "h"))
  | (with_reducible refine is_str_list ?_)
  | (with_reducible refine is_str_tuple ?_)
  | (with_reducible refine is_str_dict ?_)
  | (with_reducible refine is_str_int ?_)
  | (with_reducible refine is_str_bool ?_)
  | (with_reducible refine is_str_str ?_)
  | ((with_reducible refine' is2_str ?gh ?_); (case gh => walk_at "h"))
  | (with_reducible refine is_bool_list ?_)
  | (with_reducible refine is_bool_tuple ?_)
  | (with_reducible refine is_bool_dict ?_)
  | (with_reducible refine is_bool_int ?_)
  | (with_reducible refine is_bool_bool ?_)
  | (with_reducible refine is_bool_str ?_)
  | ((with_reducible refine' is2_bool ?gh ?_); (case gh => walk_at "h"))
  | ((with_reducible refine' is_list_list ?gh ?_); (case gh => walk_at "h"))
  | ((with_reducible refine' is_list_tuple ?gh ?_); (case gh => walk_at "h"))
  | ((with_reducible refine' is_list_dict ?gh ?_); (case gh => walk_at "h"))
  | ((with_reducible refine' is_list_int ?gh ?_); (case gh => walk_at "h"))
  | ((with_reducible refine' is_list_bool ?gh ?_); (case gh => walk_at "h"))
  | ((with_reducible refine' is_list_str ?gh ?_); (case gh => walk_at "h"))
  | ((with_reducible refine' is2_list ?ga ?gb ?_); (case ga => walk_at "h"); (case gb => walk_at "h"))
  | ((with_reducible refine' is_tuple_list ?gh ?_); (case gh => walk_at "h"))
  | ((with_reducible refine' is_tuple_tuple ?gh ?_); (case gh => walk_at "h"))
  | ((with_reducible refine' is_tuple_dict ?gh ?_); (case gh => walk_at "h"))
  | ((with_reducible refine' is_tuple_int ?gh ?_); (case gh => walk_at "h"))
  | ((with_reducible refine' is_tuple_bool ?gh ?_); (case gh => walk_at "h"))
  | ((with_reducible refine' is_tuple_str ?gh ?_); (case gh => walk_at "h"))
  | ((with_reducible refine' is2_tuple ?ga ?gb ?_); (case ga => walk_at "h"); (case gb => walk_at "h"))
  | ((with_reducible refine' is_dict_list ?gh ?_); (case gh => walk_at "h"))
  | ((with_reducible refine' is_dict_tuple ?gh ?_); (case gh => walk_at "h"))
  | ((with_reducible refine' is_dict_dict ?gh ?_); (case gh => walk_at "h"))
  | ((with_reducible refine' is_dict_int ?gh ?_); (case gh => walk_at "h"))
  | ((with_reducible refine' is_dict_bool ?gh ?_); (case gh => walk_at "h"))
  | ((with_reducible refine' is_dict_str ?gh ?_); (case gh => walk_at "h"))
  | ((with_reducible refine' is2_dict ?ga ?gb ?_); (case ga => walk_at "h"); (case gb => walk_at "h")))
local macro_rules | `(tactic| walk_at "g") => `(tactic| first
  | (with_reducible refine g_seq ?_)
  | (with_reducible refine g_asg ?_)
  | ((with_reducible refine g_name ?_); dsimp only [List.set, wipe, List.map])
  | ((with_reducible refine' g_var ?gv ?_); (case gv => exact rfl))
  | (with_reducible refine g_c ?_)
  | (with_reducible refine g_op ?_)
  | (with_reducible refine g_cons ?_)
  | (with_reducible refine g_nil ?_)
  | (with_reducible refine g_cb ?_)
  | (with_reducible refine g_call ?_)
  | (with_reducible refine g_tup ?_)
  | (with_reducible refine g_lst ?_)
  | (with_reducible refine g_bm ?_)
  | (with_reducible refine g_bm0 ?_)
  | ((with_reducible refine' g_kbm ?gh ?_); (case gh => walk_at "h"))
  | (with_reducible refine g_drop ?_)
  | (with_reducible refine g_ret ?_)
  | (with_reducible refine g_retN ?_)
  | (with_reducible refine g_next ?_)
  | (with_reducible refine g_brk ?_)
  | (with_reducible refine g_cont ?_)
  | (with_reducible refine g_if ?_)
  | ((with_reducible refine' g_aug ?gv ?_); (case gv => exact rfl))
  | (with_reducible refine g_ipI ?_)
  | (with_reducible refine g_test ?_)
  | (with_reducible refine g_tB ?_)
  | (with_reducible refine g_kB ?_)
  | (with_reducible refine g_not ?_)
  | (with_reducible refine g_and ?_)
  | (with_reducible refine g_or ?_)
  | (with_reducible refine g_andV ?_)
  | (with_reducible refine g_orV ?_)
  | (with_reducible refine g_notV ?_)
  | (with_reducible refine g_ifE ?_)
  | (with_reducible refine g_addI ?_)
  | (with_reducible refine g_rI0 ?_)
  | (with_reducible refine g_eqI ?_)
  | (with_reducible refine g_eqS ?_)
  | (with_reducible refine g_neI ?_)
  | (with_reducible refine g_neS ?_)
  | (with_reducible refine g_isN ?_)
  | (with_reducible refine g_notN ?_)
  | (with_reducible refine g_int ?_)
  | (with_reducible refine g_max2 ?_)
  | (with_reducible refine g_min2 ?_)
  | ((with_reducible refine' g_lenL ?gh ?_); (case gh => walk_at "h"))
  | (with_reducible refine g_sub ?_)
  | (with_reducible refine g_gcons ?_)
  | (with_reducible refine g_gnil ?_)
  | (with_reducible refine g_un ?_)
  | (with_reducible refine g_rU ?_)
  | (with_reducible refine g_forL ?_)
  | (with_reducible refine g_forS ?_)
  | (with_reducible refine g_forR1 ?_)
  | (with_reducible refine g_forR2 ?_)
  | (with_reducible refine g_forR3 ?_)
  | (with_reducible refine g_lcL ?_)
  | (with_reducible refine g_lcR1 ?_)
  | (with_reducible refine g_lcR2 ?_)
  | (with_reducible refine g_slice ?_)
  | (with_reducible refine g_part ?_)
  | (with_reducible refine g_kOI ?_)
  | (with_reducible refine g_nopart ?_)
  | (with_reducible refine g_yes ?_)
  | ((with_reducible refine' g_wipe ?gv ?_); (case gv => exact rfl))
  | (with_reducible refine iteT ?_)
  | (with_reducible refine iteF ?_)
  | (with_reducible refine i_nf ?_)
  | (with_reducible refine i_nt ?_)
  | ((with_reducible refine' g_gtup ?gh ?gl ?_); (case gh => walk_at "h"); (case gl => exact rfl))
  | ((with_reducible refine' g_notinI ?gh ?_); (case gh => walk_at "h"))
  | ((with_reducible refine' g_inI ?gh ?_); (case gh => walk_at "h"))
  | ((with_reducible refine' g_kget2 ?gh ?_); (case gh => walk_at "h"))
  | ((with_reducible refine' g_kgotI ?gh ?_); (case gh => walk_at "h"))
  | (with_reducible refine g_tRev ?_)
  | (with_reducible refine g_neB ?_)
  | (with_reducible refine g_eqB ?_)
  | ((with_reducible refine' g_lenT ?gh ?_); (case gh => walk_at "h"))
  | (with_reducible refine g_star ?_)
  | ((with_reducible refine' g_kstarL ?gh ?_); (case gh => walk_at "h"))
  | ((with_reducible refine' g_kstarT ?gh ?_); (case gh => walk_at "h"))
  | (with_reducible refine g_tru ?_)
  | ((with_reducible refine' g_truL ?gh ?_); (case gh => walk_at "h"))
  | (with_reducible refine g_get2 ?_)
  | (with_reducible refine g_try ?_)
  | (with_reducible refine g_fld ?_)
  | (with_reducible refine g_sfld ?_)
  | (with_reducible refine g_meth ?_)
  | (with_reducible refine g_make ?_)
  | (with_reducible refine g_del ?_)
  | (with_reducible refine g_callS ?_)
  | (with_reducible refine g_raise ?_)
  | (with_reducible refine g_xf ?_)
  | (with_reducible refine g_m0 ?_)
  | (with_reducible refine g_km0 ?_)
  | walk_at "is")
local macro_rules | `(tactic| walk_at "gg") => `(tactic| repeat walk_at "g")
local macro_rules | `(tactic| walk_at "sz") => `(tactic| (refine sz ?_; simp only [List.length_cons, List.length_nil, List.length_map, List.length_append, List.length_replicate]; omega))
local macro_rules | `(tactic| walk_at "sub") => `(tactic| ((repeat (first | exact List.Sublist.slnil | with_reducible apply List.Sublist.cons_cons | with_reducible apply List.Sublist.cons)); done))

/-! ### odd names -/
theorem nm_ascii {z : Str} (h : NmOk z) : ∀ c ∈ z.cps.toList, c < 128 := fun c hc => by
  have e : (lettersL ++ digitsL).all (fun c => decide (c < 128)) = true := by decide +kernel
  exact of_decide_eq_true (List.all_eq_true.mp e c (List.mem_append.mpr (h.all c hc)))
theorem upper_eq {z : Str} (h : NmOk z) : PySem.Txt.upper z = ⟨z.cps.map PyProof.Rows.up1⟩ := PyProof.Rows.upper_ascii (nm_ascii h)
theorem upper_bad {z : Str} (h : NmOk z) : ¬ NmOk (PySem.Txt.upper z) := fun u => by
  rw [upper_eq h] at u
  have l1 := h.l1
  have hlt : 0 < z.cps.size := l1
  have e0 : z.cps[0]? = some z.cps[0] := Array.getElem?_eq_getElem hlt
  generalize z.cps[0] = c at e0
  have hc := h.hd c e0
  have e1 : (z.cps.map PyProof.Rows.up1)[0]? = some (PyProof.Rows.up1 c) := by rw [Array.getElem?_map, e0]; rfl
  have hu := u.hd _ e1
  have e : lettersL.all (fun c => !decide (PyProof.Rows.up1 c ∈ lettersL)) = true := by decide +kernel
  have := List.all_eq_true.mp e c hc
  simp [hu] at this
theorem upper_ok {z : Str} (h : NmOk z) : PyData.strOk (PySem.Txt.upper z) = true := by
  rw [upper_eq h]
  show (z.cps.map PyProof.Rows.up1).all (· < 0x110000) = true
  rw [← Array.all_toList, List.all_eq_true]
  intro c hc
  rw [Array.toList_map, List.mem_map] at hc
  obtain ⟨b, hb, rfl⟩ := hc
  have := nm_ascii h b hb
  unfold PyProof.Rows.up1
  apply decide_eq_true
  split <;> omega
theorem empty_bad : ¬ NmOk ("" : Str) := fun u => absurd u.l1 (by decide +kernel)
theorem chkE_some_mem {kn : Str → Bool} : ∀ {xs seen : List Str} {f : Bool × Str}, chkE kn seen xs = some f → f.2 ∈ xs
  | [], _, _, h => by cases h
  | x :: r, seen, f, h => by
    have h : (if kn x = true then if x ∈ seen then some (false, x) else chkE kn (seen ++ [x]) r else some (true, x)) = some f := h
    by_cases k : kn x = true
    · rw [if_pos k] at h
      by_cases m : x ∈ seen
      · rw [if_pos m] at h
        injection h with h
        rw [← h]
        exact List.mem_cons_self
      · rw [if_neg m] at h
        exact List.mem_cons_of_mem _ (chkE_some_mem h)
    · rw [if_neg k] at h
      injection h with h
      rw [← h]
      exact List.mem_cons_self
theorem ins_mem {xs : List Str} {n : Nat} {x y : Str} : y ∈ xs.take n ++ [x] ++ xs.drop n ↔ y = x ∨ y ∈ xs := by
  have e : y ∈ xs ↔ y ∈ xs.take n ∨ y ∈ xs.drop n := by
    conv => lhs; rw [← List.take_append_drop n xs]
    exact List.mem_append
  rw [List.mem_append, List.mem_append, e, List.mem_singleton]
  constructor
  · rintro ((h | h) | h)
    · exact .inr (.inl h)
    · exact .inl h
    · exact .inr (.inr h)
  · rintro (h | h | h)
    · exact .inl (.inr h)
    · exact .inl (.inl h)
    · exact .inr h
/-- an odd one put in makes a fault -/
theorem ins_fault {kn : Str → Bool} {xs : List Str} {n : Nat} {x : Str} (h : x ∈ xs ∨ kn x = false) : ∃ f, chkE kn [] (xs.take n ++ [x] ++ xs.drop n) = some f := by
  cases e : chkE kn [] (xs.take n ++ [x] ++ xs.drop n) with
  | some f => exact ⟨f, rfl⟩
  | none =>
    exfalso
    have kx := chkE_known e x (ins_mem.mpr (.inl rfl))
    rcases h with h | h
    · have nd := (chkE_nodup e).1
      have h' : x ∈ xs.take n ∨ x ∈ xs.drop n := by
        rw [← List.take_append_drop n xs] at h
        exact List.mem_append.mp h
      rw [List.nodup_append, List.nodup_append] at nd
      rcases h' with h' | h'
      · exact nd.1.2.2 x h' x (List.mem_singleton.mpr rfl) rfl
      · exact nd.2.2 x (List.mem_append_right _ (List.mem_singleton.mpr rfl)) x h' rfl
    · rw [h] at kx
      cases kx
/-- later versions change nothing below -/
theorem RowsW.same2 {names : List Str} {web : List (List Nat)} {n n' : Nat} {rows rows2 : List URow} (R : RowsW names web n rows) (L : RowsW names web n' rows2) (h : n ≤ n') {x : Str} (k : kn rows x = true) (z : Str) : Un rows2 x z ↔ Un rows x z := by
  obtain ⟨k, hk, ek⟩ := R.known.mp k
  rw [R.un hk ek, L.un (by omega) ek]
theorem cl_later {names : List Str} {web : List (List Nat)} {n n' : Nat} {rows rows2 : List URow} (R : RowsW names web n rows) (L : RowsW names web n' rows2) (h : n ≤ n') (wok : WebOk web) {xs : List Str} (kx : ∀ z ∈ xs, kn rows z = true) (z : Str) : Cl (MB (Un rows2)) (fun z => z ∈ xs) z ↔ Cl (MB (Un rows)) (fun z => z ∈ xs) z := by
  have mb : ∀ a b z, kn rows a = true → kn rows b = true → (MB (Un rows2) a b z ↔ MB (Un rows) a b z) := fun a b z ka kb =>
    MB.congr (R.same2 L h ka) (R.same2 L h kb) fun g hg => R.same2 L h (R.kmem wok ((R.same2 L h ka g).mp hg))
  exact Cl.congr (D := fun z => kn rows z = true) (fun z hz => kx z hz) (fun a b z ka kb m => R.kmem wok ((mb a b z ka kb).mp m).1.1) (fun a b z ka kb => mb a b z ka kb) z
section
variable {P : Program} {w : World} {K : PySem.W.Frag} {mg : Str → Option Value} {base : Heap}
/-- all lists stand still -/
theorem St1.keep {T : Txt K mg} {A : OA} {F H : Hp} {rows : List URow} (st : St1 T A F H rows) : ∃ F', Same F F' ∧ St1 T A F' H rows ∧ ∀ p xs, H p = some (.lst xs) → F' p = some (.lst xs) := by
  obtain ⟨nl, kvs, h, ok⟩ := st
  refine ⟨_, h.reF, ⟨nl, kvs, h.re, ok.mono h.reF⟩, fun p xs e => h.re_of e fun q hq => ?_⟩
  simp only [OrdO, List.mem_cons, List.not_mem_nil, or_false] at hq
  rcases hq with rfl | rfl | rfl <;> exact fun z => by cases z
end

end K29

namespace K29
open PySem PySem.Spec PyProof.Rows L2 Qk
local macro_rules | `(tactic| walk_at "m") => `(tactic| ((repeat (first | exact List.Mem.head _ | apply List.Mem.tail)); done))
local macro_rules | `(tactic| walk_at "h") => `(tactic| first | assumption | exact Has.gF (by assumption) (by assumption) | exact Has.get (by assumption) (by walk_at "m"))
local macro_rules | `(tactic| walk_at "c") => `(tactic| ((repeat (first | exact Chg.hd | apply Chg.tl)); done))
local macro_rules | `(tactic| walk_at "is") => `(tactic| first
  | ((with_reducible refine' is2_non ?gh ?_); (case gh => walk_at "h"))
  | (with_reducible refine is_int_list ?_)
  | (with_reducible refine is_int_tuple ?_)
  | (with_reducible refine is_int_dict ?_)
  | (with_reducible refine is_int_int ?_)
  | (with_reducible refine is_int_bool ?_)
  | (with_reducible refine is_int_str ?_)
  | ((with_reducible refine' is2_int ?gh ?_); (case gh => walk_at "h"))
  | (with_reducible refine is_str_list ?_)
  | (with_reducible refine is_str_tuple ?_)
  | (with_reducible refine is_str_dict ?_)
  | (with_reducible refine is_str_int ?_)
  | (with_reducible refine is_str_bool ?_)
  | (with_reducible refine is_str_str ?_)
  | ((with_reducible refine' is2_str ?gh ?_); (case gh => walk_at "h"))
  | (with_reducible refine is_bool_list ?_)
  | (with_reducible refine is_bool_tuple ?_)
  | (with_reducible refine is_bool_dict ?_)
  | (with_reducible refine is_bool_int ?_)
  | (with_reducible refine is_bool_bool ?_)
  | (with_reducible refine is_bool_str ?_)
  | ((with_reducible refine' is2_bool ?gh ?_); (case gh => walk_at "h"))
  | ((with_reducible refine' is_list_list ?gh ?_); (case gh => walk_at "h"))
  | ((with_reducible refine' is_list_tuple ?gh ?_); (case gh => walk_at "h"))
  | ((with_reducible refine' is_list_dict ?gh ?_); (case gh => walk_at "h"))
  | ((with_reducible refine' is_list_int ?gh ?_); (case gh => walk_at "h"))
  | ((with_reducible refine' is_list_bool ?gh ?_); (case gh => walk_at "h"))
  | ((with_reducible refine' is_list_str ?gh ?_); (case gh => walk_at "h"))
  | ((with_reducible refine' is2_list ?ga ?gb ?_); (case ga => walk_at "h"); (case gb => walk_at "h"))
  | ((with_reducible refine' is_tuple_list ?gh ?_); (case gh => walk_at "h"))
  | ((with_reducible refine' is_tuple_tuple ?gh ?_); (case gh => walk_at "h"))
  | ((with_reducible refine' is_tuple_dict ?gh ?_); (case gh => walk_at "h"))
  | ((with_reducible refine' is_tuple_int ?gh ?_); (case gh => walk_at "h"))
  | ((with_reducible refine' is_tuple_bool ?gh ?_); (case gh => walk_at "h"))
  | ((with_reducible refine' is_tuple_str ?gh ?_); (case gh => walk_at "h"))
  | ((with_reducible refine' is2_tuple ?ga ?gb ?_); (case ga => walk_at "h"); (case gb => walk_at "h"))
  | ((with_reducible refine' is_dict_list ?gh ?_); (case gh => walk_at "h"))
  | ((with_reducible refine' is_dict_tuple ?gh ?_); (case gh => walk_at "h"))
  | ((with_reducible refine' is_dict_dict ?gh ?_); (case gh => walk_at "h"))
  | ((with_reducible refine' is_dict_int ?gh ?_); (case gh => walk_at "h"))
  | ((with_reducible refine' is_dict_bool ?gh ?_); (case gh => walk_at "h"))
  | ((with_reducible refine' is_dict_str ?gh ?_); (case gh => walk_at "h"))
  | ((with_reducible refine' is2_dict ?ga ?gb ?_); (case ga => walk_at "h"); (case gb => walk_at "h")))
local macro_rules | `(tactic| walk_at "g") => `(tactic| first
  | (with_reducible refine g_seq ?_)
  | (with_reducible refine g_asg ?_)
  | ((with_reducible refine g_name ?_); dsimp only [List.set, wipe, List.map])
  | ((with_reducible refine' g_var ?gv ?_); (case gv => exact rfl))
  | (with_reducible refine g_c ?_)
  | (with_reducible refine g_op ?_)
  | (with_reducible refine g_cons ?_)
  | (with_reducible refine g_nil ?_)
  | (with_reducible refine g_cb ?_)
  | (with_reducible refine g_call ?_)
  | (with_reducible refine g_tup ?_)
  | (with_reducible refine g_lst ?_)
  | (with_reducible refine g_bm ?_)
  | (with_reducible refine g_bm0 ?_)
  | ((with_reducible refine' g_kbm ?gh ?_); (case gh => walk_at "h"))
  | (with_reducible refine g_drop ?_)
  | (with_reducible refine g_ret ?_)
  | (with_reducible refine g_retN ?_)
  | (with_reducible refine g_next ?_)
  | (with_reducible refine g_brk ?_)
  | (with_reducible refine g_cont ?_)
  | (with_reducible refine g_if ?_)
  | ((with_reducible refine' g_aug ?gv ?_); (case gv => exact rfl))
  | (with_reducible refine g_ipI ?_)
  | (with_reducible refine g_test ?_)
  | (with_reducible refine g_tB ?_)
  | (with_reducible refine g_kB ?_)
  | (with_reducible refine g_not ?_)
  | (with_reducible refine g_and ?_)
  | (with_reducible refine g_or ?_)
  | (with_reducible refine g_andV ?_)
  | (with_reducible refine g_orV ?_)
  | (with_reducible refine g_notV ?_)
  | (with_reducible refine g_ifE ?_)
  | (with_reducible refine g_addI ?_)
  | (with_reducible refine g_rI0 ?_)
  | (with_reducible refine g_eqI ?_)
  | (with_reducible refine g_eqS ?_)
  | (with_reducible refine g_neI ?_)
  | (with_reducible refine g_neS ?_)
  | (with_reducible refine g_isN ?_)
  | (with_reducible refine g_notN ?_)
  | (with_reducible refine g_int ?_)
  | (with_reducible refine g_max2 ?_)
  | (with_reducible refine g_min2 ?_)
  | ((with_reducible refine' g_lenL ?gh ?_); (case gh => walk_at "h"))
  | (with_reducible refine g_sub ?_)
  | (with_reducible refine g_gcons ?_)
  | (with_reducible refine g_gnil ?_)
  | (with_reducible refine g_un ?_)
  | (with_reducible refine g_rU ?_)
  | (with_reducible refine g_forL ?_)
  | (with_reducible refine g_forS ?_)
  | (with_reducible refine g_forR1 ?_)
  | (with_reducible refine g_forR2 ?_)
  | (with_reducible refine g_forR3 ?_)
  | (with_reducible refine g_lcL ?_)
  | (with_reducible refine g_lcR1 ?_)
  | (with_reducible refine g_lcR2 ?_)
  | (with_reducible refine g_slice ?_)
  | (with_reducible refine g_part ?_)
  | (with_reducible refine g_kOI ?_)
  | (with_reducible refine g_nopart ?_)
  | (with_reducible refine g_yes ?_)
  | ((with_reducible refine' g_wipe ?gv ?_); (case gv => exact rfl))
  | (with_reducible refine iteT ?_)
  | (with_reducible refine iteF ?_)
  | (with_reducible refine i_nf ?_)
  | (with_reducible refine i_nt ?_)
  | ((with_reducible refine' g_gtup ?gh ?gl ?_); (case gh => walk_at "h"); (case gl => exact rfl))
  | ((with_reducible refine' g_notinI ?gh ?_); (case gh => walk_at "h"))
  | ((with_reducible refine' g_inI ?gh ?_); (case gh => walk_at "h"))
  | ((with_reducible refine' g_kget2 ?gh ?_); (case gh => walk_at "h"))
  | ((with_reducible refine' g_kgotI ?gh ?_); (case gh => walk_at "h"))
  | (with_reducible refine g_tRev ?_)
  | (with_reducible refine g_neB ?_)
  | (with_reducible refine g_eqB ?_)
  | ((with_reducible refine' g_lenT ?gh ?_); (case gh => walk_at "h"))
  | (with_reducible refine g_star ?_)
  | ((with_reducible refine' g_kstarL ?gh ?_); (case gh => walk_at "h"))
  | ((with_reducible refine' g_kstarT ?gh ?_); (case gh => walk_at "h"))
  | (with_reducible refine g_tru ?_)
  | ((with_reducible refine' g_truL ?gh ?_); (case gh => walk_at "h"))
  | (with_reducible refine g_get2 ?_)
  | (with_reducible refine g_try ?_)
  | (with_reducible refine g_fld ?_)
  | (with_reducible refine g_sfld ?_)
  | (with_reducible refine g_meth ?_)
  | (with_reducible refine g_make ?_)
  | (with_reducible refine g_del ?_)
  | (with_reducible refine g_callS ?_)
  | (with_reducible refine g_raise ?_)
  | (with_reducible refine g_xf ?_)
  | (with_reducible refine g_m0 ?_)
  | (with_reducible refine g_km0 ?_)
  | walk_at "is")
local macro_rules | `(tactic| walk_at "gg") => `(tactic| repeat walk_at "g")
local macro_rules | `(tactic| walk_at "sz") => `(tactic| (refine sz ?_; simp only [List.length_cons, List.length_nil, List.length_map, List.length_append, List.length_replicate]; omega))
local macro_rules | `(tactic| walk_at "sub") => `(tactic| ((repeat (first | exact List.Sublist.slnil | with_reducible apply List.Sublist.cons_cons | with_reducible apply List.Sublist.cons)); done))

local macro_rules | `(tactic| walk_at "g") => `(tactic| first
  | ((with_reducible refine' g_lenNL ?gh ?_); (case gh => walk_at "h"))
  | ((with_reducible refine' g_lenND ?gh ?_); (case gh => walk_at "h"))
  | ((with_reducible refine' g_lenNT ?gh ?_); (case gh => walk_at "h"))
  | (with_reducible refine g_ltI ?_)
  | (with_reducible refine g_ltS ?_)
  | (with_reducible refine g_lstRg ?_)
  | (with_reducible refine g_forK ?_))

local macro_rules | `(tactic| walk_at "g") => `(tactic| (with_reducible refine g_forE ?_))

/-! ### gaps of the program -/
def Nd (M : Str → Str → Str → Prop) (ms : List Str) (z : Str) : Prop := ∃ x y, x ∈ ms ∧ y ∈ ms ∧ x ≠ z ∧ y ≠ z ∧ x ≠ y ∧ M x y z
def lost_gap (C : Addr) (H : Hp) (E : XK) (t : Str × Str × Str) : Prop := ∀ e H', Same H H' → H e = none → H' e = some (.xd [("missing", .str t.2.2), ("second", .str t.2.1), ("first", .str t.1)]) → E (.ref C) (some e) H'
theorem gp_perm {M : Str → Str → Str → Prop} {so xs : List Str} (h : ∀ z, z ∈ so ↔ z ∈ xs) {a b c : Str} : Gp M so a b c ↔ Gp M xs a b c := by
  unfold Gp
  rw [h a, h b, h c]
theorem fst_perm {M : Str → Str → Str → Prop} {so xs : List Str} (h : ∀ z, z ∈ so ↔ z ∈ xs) {t : Str × Str × Str} : FstG M so t ↔ FstG M xs t := by
  unfold FstG
  rw [gp_perm h]
  exact and_congr_right fun _ => ⟨fun f a b c g => f a b c ((gp_perm h).mpr g), fun f a b c g => f a b c ((gp_perm h).mp g)⟩
theorem asc_drop {us : List Str} {t : Nat} {x y : Str} (h : Asc us) (hx : us[t]? = some x) : y ∈ us.drop (t + 1) ↔ y ∈ us ∧ kk x < kk y := by
  obtain ⟨lt, et⟩ := List.getElem?_eq_some_iff.mp hx
  constructor
  · intro hy
    obtain ⟨i, hi⟩ := List.mem_iff_getElem?.mp hy
    rw [List.getElem?_drop] at hi
    obtain ⟨li, ei⟩ := List.getElem?_eq_some_iff.mp hi
    refine ⟨List.mem_of_getElem? hi, ?_⟩
    have := List.pairwise_iff_getElem.mp h t (t + 1 + i) lt li (by omega)
    rw [et, ei] at this
    exact this
  · rintro ⟨hy, l⟩
    obtain ⟨i, hi⟩ := List.mem_iff_getElem?.mp hy
    obtain ⟨li, ei⟩ := List.getElem?_eq_some_iff.mp hi
    have : t < i := by
      rcases Nat.lt_trichotomy t i with c | c | c
      · exact c
      · subst c
        rw [hi] at hx
        injection hx with hx
        subst hx
        exact (List.lt_irrefl _ l).elim
      · have p := List.pairwise_iff_getElem.mp h i t li lt c
        rw [et, ei] at p
        exact (kk_as p l).elim
    refine List.mem_iff_getElem?.mpr ⟨i - (t + 1), ?_⟩
    rw [List.getElem?_drop, show t + 1 + (i - (t + 1)) = i by omega]
    exact hi
/-- no gap, or a first one -/
theorem first_at {M : Str → Str → Str → Prop} {ms us2 bs : List Str} {t u : Nat} {x y z0 : Str} {r : List Str} (am : Asc ms) (hx : ms[t]? = some x) (hy : (ms.drop (t + 1))[u]? = some y) (ab : Asc bs) (mb : ∀ z, z ∈ bs ↔ M x y z ∧ z ∉ ms) (e : bs = z0 :: r) (n1 : ∀ a b c, Gp M ms a b c → a ∉ ms.take t) (n2 : ∀ b c, Gp M ms x b c → b ∉ (ms.drop (t + 1)).take u) : FstG M ms (x, y, z0) := by
  have ad : Asc (ms.drop (t + 1)) := am.sublist (List.drop_sublist _ _)
  have yd := (asc_drop am hx).mp (List.mem_of_getElem? hy)
  have z0m := (mb z0).mp (by rw [e]; exact List.mem_cons_self)
  refine ⟨⟨List.mem_of_getElem? hx, yd.1, yd.2, z0m.1, z0m.2⟩, fun a b c g => ?_⟩
  rcases asc_after am hx g.1 (n1 a b c g) with h | l
  · subst h
    refine .inr ⟨rfl, ?_⟩
    rcases asc_after ad hy ((asc_drop am hx).mpr ⟨g.2.1, g.2.2.1⟩) (n2 b c g) with h | l
    · subst h
      refine .inr ⟨rfl, ?_⟩
      have hc := (mb c).mpr ⟨g.2.2.2.1, g.2.2.2.2⟩
      rw [e] at hc ab
      rcases List.mem_cons.mp hc with h | hc
      · exact .inr h.symm
      · exact .inl ((List.pairwise_cons.mp ab).1 c hc)
    · exact .inl l
  · exact .inl l
section
variable {P : Program} {w : World} {K : PySem.W.Frag} {mg : Str → Option Value} {base : Heap}
def sp_missing_bases (T : Txt K mg) : Sp := fun vs H Q _ => ∃ (a m : Addr) (rows : List URow) (ms : List Str) (x y : Str), vs = [.ref a, .ref m, .str x, .str y] ∧ Ord T H a rows ∧ H m = some (.lst (ms.map V.str)) ∧ kn rows x = true ∧ kn rows y = true ∧
  ∀ p H' us, Same H H' → H p = none → H' p = some (.lst (us.map V.str)) → Asc us → (∀ z, z ∈ us ↔ MB (Un rows) x y z ∧ z ∉ ms) → us.length ≤ 60 → Q (.ref p) H'
theorem sp_missing_bases_len {T : Txt K mg} {vs H Q E} (h : sp_missing_bases T vs H Q E) : vs.length = 4 := by
  obtain ⟨_, _, _, _, _, _, rfl, _⟩ := h
  rfl
theorem ok_missing_bases (T : Txt K mg) : FnOk P w K mg base CX0 8 T.f_missing_bases T.fd_missing_bases ["order", "members", "first", "second"] (sp_missing_bases T) := by
  refine T.F_missing_bases.ok sc_missing_bases (fun vs H Q E h => sp_missing_bases_len h) (fun cdv A outer s H vs Q E hr h => ?_)
  refine ⟨_, (pss_one (ps_ret (pe_lc (own := [("base", 4)]) (g := gName 4) rfl sc_missing_bases.nd (k_il K (pi_list (pe_call (ok_merge_bases T) (hr.mono (by decide)) (by rfl) T.g_merge_bases T.F_merge_bases.kp T.b_merge_bases .nil passN (pa_cons (pv 0) (pa_cons (pv 2) (pa_cons (pv 3) pa_nil)))))) (blkOk_by (N := n_missing_bases) (sc := defScope s_missing_bases) (by decide +kernel)) (fun _ _ _ _ _ => (pg_name (i := 4) sc_missing_bases.nd rfl (.inl rfl))) (fun _ _ _ _ _ => (pts_one (pt_cmpR (op_notinM K P w hr.units (u65 hr)) (pv 4) (pv 1) (by rfl)))) (fun _ _ _ _ _ => (pv 4))))), ?_⟩
  obtain ⟨a, m, rows, ms, x, y, rfl, ho, hm, kx, ky, q⟩ := h
  refine g_start (σ' := [some (.ref a), some (.ref m), some (.str x), some (.str y), none]) rfl ?_
  walk_at "gg"
  refine ⟨a, rows, x, y, rfl, ho, fun _ pb H1 bs s1 n1 hbs ascb mbs => ?_, ?_, ?_⟩
  · have hH1 := Has.start H1
    have lbs : bs.length ≤ 60 := few_in ho.few ascb.nodup fun z hz => kn_mem.mp (ho.unk (bs_mb.mp ((mbs z).mp hz)).1.1)
    walk_at "gg"
    refine k_lcL hbs hH1 (fun j acc F' O' => acc = ((bs.take j).filter fun z => !decide (z ∈ ms)).map V.str ∧ H1 = F' ∧ O' = []) ⟨rfl, rfl, rfl⟩ ?_ ?_ ?_
    · rintro j acc F' O' H2 ⟨_, rfl, rfl⟩ hh
      exact hh.same _ _ hbs
    · rintro j vv acc F' O' D H2 hv ⟨rfl, rfl, rfl⟩ hh
      obtain ⟨z, hz, rfl⟩ := str_at hv
      walk_at "gg"
      refine g_notinM (g_notinFL (hh.same _ _ (s1 _ _ hm)) rfl (flat_strs _) ?_)
      rw [inV_strs]
      walk_at "gg"
      have st : (bs.take (j + 1)).filter (fun z => !decide (z ∈ ms)) = (bs.take j).filter (fun z => !decide (z ∈ ms)) ++ [z].filter (fun z => !decide (z ∈ ms)) := by
        rw [List.take_add_one, hz, List.filter_append]
        rfl
      refine i_n (fun ne => ?_) (fun e => ?_)
      · walk_at "gg"
        refine k_turn hh ?_ ⟨?_, rfl, rfl⟩
        · rw [List.length_map]
          have := List.length_filter_le (fun z => !decide (z ∈ ms)) (bs.take j)
          rw [List.length_take] at this
          omega
        · rw [st, List.map_append, List.filter_cons_of_pos (by simpa using ne)]
          rfl
      · refine k_skip hh ⟨?_, rfl, rfl⟩
        rw [st, List.filter_cons_of_neg (by simpa using e)]
        rw [List.filter_nil, List.append_nil]
    rintro acc F' O' p2 H2 ⟨rfl, rfl, rfl⟩ h2
    rw [List.length_map, List.take_length] at h2
    refine q p2 H2 _ (s1.trans h2.same) (s1.free h2.free) (h2.get (List.Mem.head _)) (ascb.filter _) (fun z => ?_) ?_
    · rw [List.mem_filter, mbs z, bs_mb]
      simp
    · have := List.length_filter_le (fun z => !decide (z ∈ ms)) bs
      omega
  · intro z e
    rw [f2_none kx ky] at e
    cases e
  · intro z e
    rw [f2_none kx ky] at e
    cases e
def sp_first_gap (T : Txt K mg) : Sp := fun vs H Q _ => ∃ (a l : Addr) (rows : List URow) (xs : List Str), vs = [.ref a, .ref l] ∧ Ord T H a rows ∧ H l = some (.lst (xs.map V.str)) ∧ chkE (kn rows) [] xs = none ∧ xs.length ≤ 200 ∧
  ((∀ a b c, ¬ Gp (MB (Un rows)) xs a b c) → ∀ H', Same H H' → Q .non H') ∧ (∀ t, FstG (MB (Un rows)) xs t → ∀ p H', Same H H' → H p = none → H' p = some (.tup [.str t.1, .str t.2.1, .str t.2.2]) → Q (.ref p) H')
theorem sp_first_gap_len {T : Txt K mg} {vs H Q E} (h : sp_first_gap T vs H Q E) : vs.length = 2 := by
  obtain ⟨_, _, _, _, rfl, _⟩ := h
  rfl
set_option maxHeartbeats 1000000 in
theorem ok_first_gap (T : Txt K mg) : FnOk P w K mg base CX0 9 T.f_first_gap T.fd_first_gap ["order", "names"] (sp_first_gap T) := by
  refine T.F_first_gap.ok sc_first_gap (fun vs H Q E h => sp_first_gap_len h) (fun cdv A outer s H vs Q E hr h => ?_)
  refine ⟨_, (pss_cons (ps_set (i := 2) sc_first_gap.nd rfl (.inl rfl) (pe_callB (cr_sortA K rfl) (by rfl) T.m_sorted (by decide +kernel) (pa_cons (pe_methW (pv 0) T.cl_Order T.M_Order_checked (ok_Order_checked T) (hr.mono (by decide)) T.b_Order_checked passNS (pa_cons (pv 1) pa_nil)) pa_nil)))
      (pss_cons (ps_for PassesOwn.never rfl (pi_enum (by rfl) T.m_enumerate (pa_cons (pv 2) pa_nil)) (k_gt K (pg_tup (by rfl) (pgs_cons (pg_name (i := 3) sc_first_gap.nd rfl (.inl rfl)) (pgs_cons (pg_name (i := 4) sc_first_gap.nd rfl (.inl rfl)) pgs_nil)))) (pss_one (ps_for PassesOwn.never rfl (k_il K (pi_list (pe_slice (sl_M K) (pv 2) (po_some (pe_op (op_addK K) (pv 3) pe_int)) po_none))) (pg_name (i := 5) sc_first_gap.nd rfl (.inl rfl)) (pss_cons (ps_set (i := 6) sc_first_gap.nd rfl (.inl rfl) (pe_call (ok_missing_bases T) (hr.mono (by decide)) (by rfl) T.g_missing_bases T.F_missing_bases.kp T.b_missing_bases .nil pass0 (pa_cons (pv 0) (pa_cons (pv 2) (pa_cons (pv 4) (pa_cons (pv 5) pa_nil))))))
      (pss_one (ps_if (pt_cmpR op_gt (pe_callB (cr_lenN K) (by rfl) T.m_len (by decide +kernel) (pa_cons (pv 6) pa_nil)) pe_int (nomark _)) (pss_one (ps_ret (pe_tup (pa_cons (pv 4) (pa_cons (pv 5) (pa_cons (pe_ix (ix_K K (hu_of hr)) (pv 6) pe_int (fun _ _ => rfl)) pa_nil)))))) pss_nil))))))
      (pss_one (ps_ret pe_non)))), ?_⟩
  obtain ⟨a, l, rows, xs, rfl, ho, hl, hc, few, q1, q2⟩ := h
  refine g_start (σ' := [some (.ref a), some (.ref l), none, none, none, none, none]) rfl ?_
  obtain ⟨dx, d, nl, kvs, at_, ok⟩ := ho.ex
  walk_at "gg"
  refine g_kmeth at_.i rfl ?_
  walk_at "gg"
  refine ⟨a, l, rows, xs, rfl, ho, hl, few, fun _ p H1 s1 n1 h1 => ?_, (fun z e => by rw [hc] at e; cases e), (fun z e => by rw [hc] at e; cases e)⟩
  have kx := chkE_known hc
  have lx := ho.chk_few hc
  have hH1 := Has.start H1
  walk_at "gg"
  refine g_sortS h1 (by omega) hH1 (fun ms pm H2 pmm srt n2 h2 => ?_)
  have am := asc_of srt (pmm.nodup_iff.mpr (chkE_nodup hc).1)
  have s2 := s1.trans h2.same
  have hm2 := h2.get (List.Mem.head _)
  have npm := s1.free n2
  have mem : ∀ z, z ∈ ms ↔ z ∈ xs := fun z => pmm.mem_iff
  have km : ∀ z ∈ ms, kn rows z = true := fun z hz => kx z ((mem z).mp hz)
  have lms := pmm.length_eq
  walk_at "gg"
  refine k_forE hm2 (fun t σ H' => ∃ (y3 y4 y5 y6 : Option V), σ = [some (.ref a), some (.ref l), some (.ref pm), y3, y4, y5, y6] ∧ Same H H' ∧ H' pm = some (.lst (ms.map V.str)) ∧ ∀ a b c, Gp (MB (Un rows)) ms a b c → a ∉ ms.take t) ⟨_, _, _, _, rfl, s2, hm2, fun a b c _ h => by simp at h⟩ ?_ ?_ ?_
  · rintro t σ H' ⟨y3, y4, y5, y6, rfl, s3, hm3, _⟩
    exact hm3
  · rintro t xx σ H3 T3 hxx ⟨y3, y4, y5, y6, rfl, s3, hm3, m3⟩ nT3
    obtain ⟨x, hx, rfl⟩ := str_at hxx
    have h3 := (Has.start H3).new (o := .tup [.int (t : Nat), .str x]) nT3
    refine g_gtup (h3.get (List.Mem.head _)) rfl ?_
    walk_at "gg"
    have h3 := h3.drop
    generalize upd H3 T3 _ = H3' at h3
    refine g_slM (g_slS (SqL.of (h3.same _ _ hm3)) h3 (fun ps H4 n4 h4 => ?_))
    have ec : cutV (ms.map V.str) (some ((t : Int) + 1)) none = (ms.drop (t + 1)).map V.str := by
      have := cutV_from (ms.map V.str) (t + 1)
      push_cast at this
      rw [this, List.map_drop]
    rw [ec] at h4
    have hps := h4.get (List.Mem.head _)
    have s4 := s3.trans h4.same
    have hm4 := h4.same _ _ hm3
    refine k_forL hps (fun u σ H' => ∃ (y5 y6 : Option V), σ = [some (.ref a), some (.ref l), some (.ref pm), some (.int (t : Nat)), some (.str x), y5, y6] ∧ Same H H' ∧ H' pm = some (.lst (ms.map V.str)) ∧ H' ps = some (.lst ((ms.drop (t + 1)).map V.str)) ∧ ∀ b c, Gp (MB (Un rows)) ms x b c → b ∉ (ms.drop (t + 1)).take u) ⟨_, _, rfl, s4, hm4, hps, fun b c _ h => by simp at h⟩ ?_ ?_ ?_
    · rintro u σ H' _ ⟨y5, y6, rfl, s5, hm5, hps5, _⟩
      exact hps5
    · rintro u yy σ H5 hyy ⟨y5, y6, rfl, s5, hm5, hps5, m5⟩
      obtain ⟨y, hy, rfl⟩ := str_at hyy
      have yd := (asc_drop am hx).mp (List.mem_of_getElem? hy)
      walk_at "gg"
      refine ⟨a, pm, rows, ms, x, y, rfl, ho.mono s5, hm5, km x (List.mem_of_getElem? hx), km y yd.1, fun p6 H6 us s6 n6 h6 asc6 m6 l6 => ?_⟩
      have hH6 := Has.start H6
      walk_at "gg"
      cases us with
      | nil =>
        rw [decide_eq_false (by simp)]
        walk_at "gg"
        refine ⟨_, _, rfl, s5.trans s6, s6 _ _ hm5, s6 _ _ hps5, fun b c g h => ?_⟩
        rw [List.take_add_one, hy] at h
        rcases List.mem_append.mp h with h | h
        · exact m5 b c g h
        · have e : b = y := by simpa using h
          subst e
          have := (m6 c).mpr ⟨g.2.2.2.1, g.2.2.2.2⟩
          cases this
      | cons z0 r =>
        rw [decide_eq_true (by rw [List.length_map, List.length_cons]; omega)]
        walk_at "gg"
        refine g_ixL (v := .str z0) h6 (atI_nat (j := 0) rfl) ?_
        walk_at "gg"
        refine g_ktup (by walk_at "sz") hH6 (fun p7 H7 n7 h7 => ?_)
        exact q2 (x, y, z0) ((fst_perm mem).mp (first_at (us2 := []) am hx hy asc6 m6 rfl m3 m5)) p7 H7 ((s5.trans s6).trans h7.same) ((s5.trans s6).free n7) (h7.get (List.Mem.head _))
    · rintro σ H5 ⟨y5, y6, rfl, s5, hm5, hps5, m5⟩
      rw [List.length_map, List.take_length] at m5
      refine ⟨_, _, _, _, rfl, s5, hm5, fun a' b c g h => ?_⟩
      rw [List.take_add_one, hx] at h
      rcases List.mem_append.mp h with h | h
      · exact m3 a' b c g h
      · have e : a' = x := by simpa using h
        subst e
        exact m5 b c g ((asc_drop am hx).mpr ⟨g.2.1, g.2.2.1⟩)
  rintro σ H3 ⟨y3, y4, y5, y6, rfl, s3, hm3, m3⟩
  rw [List.length_map, List.take_length] at m3
  walk_at "gg"
  exact q1 (fun a b c g => m3 a b c ((gp_perm mem).mpr g) ((mem a).mpr g.1)) H3 s3
end

section
variable {P : Program} {w : World} {K : PySem.W.Frag} {mg : Str → Option Value} {base : Heap}
def sp_is_needed (T : Txt K mg) : Sp := fun vs H Q _ => ∃ (a m : Addr) (rows : List URow) (ms : List Str) (z : Str), vs = [.ref a, .ref m, .str z] ∧ Ord T H a rows ∧ H m = some (.lst (ms.map V.str)) ∧ ms.Nodup ∧ (∀ x ∈ ms, kn rows x = true) ∧
  ∀ r H', Same H H' → (r = true ↔ Nd (MB (Un rows)) ms z) → Q (.bl r) H'
theorem sp_is_needed_len {T : Txt K mg} {vs H Q E} (h : sp_is_needed T vs H Q E) : vs.length = 3 := by
  obtain ⟨_, _, _, _, _, rfl, _⟩ := h
  rfl
set_option maxHeartbeats 1000000 in
theorem ok_is_needed (T : Txt K mg) : FnOk P w K mg base CX0 8 T.f_is_needed T.fd_is_needed ["order", "members", "name"] (sp_is_needed T) := by
  refine T.F_is_needed.ok sc_is_needed (fun vs H Q E h => sp_is_needed_len h) (fun cdv A outer s H vs Q E hr h => ?_)
  refine ⟨_, (pss_cons (ps_setLc (i := 3) (own := [("member", 7)]) (g := gName 7) rfl sc_is_needed.nd rfl rfl (sw_true rfl rfl rfl (by decide +kernel)) (k_il K (pi_list (pv 1))) (blkOk_by (N := n_is_needed) (sc := defScope s_is_needed) (by decide +kernel)) (fun _ _ _ _ _ => (pg_name (i := 7) sc_is_needed.nd rfl (.inl rfl))) (fun _ _ _ _ _ => (pts_one (pt_cmpR (op_neK K hr.units) (pv 7) (pv 2) (nomark _)))) (fun _ _ _ _ _ => (pv 7)))
      (pss_cons (ps_for PassesOwn.never rfl (pi_enum (by rfl) T.m_enumerate (pa_cons (pv 3) pa_nil)) (k_gt K (pg_tup (by rfl) (pgs_cons (pg_name (i := 4) sc_is_needed.nd rfl (.inl rfl)) (pgs_cons (pg_name (i := 5) sc_is_needed.nd rfl (.inl rfl)) pgs_nil)))) (pss_one (ps_for PassesOwn.never rfl (k_il K (pi_list (pe_slice (sl_M K) (pv 3) (po_some (pe_op (op_addK K) (pv 4) pe_int)) po_none))) (pg_name (i := 6) sc_is_needed.nd rfl (.inl rfl)) (pss_one (ps_if (pt_cmpR (op_inM K P w hr.units (u65 hr)) (pv 2) (pe_call (ok_merge_bases T) (hr.mono (by decide)) (by rfl) T.g_merge_bases T.F_merge_bases.kp T.b_merge_bases .nil passN (pa_cons (pv 0) (pa_cons (pv 5) (pa_cons (pv 6) pa_nil)))) (by rfl)) (pss_one (ps_ret pe_bl)) pss_nil)))))
      (pss_one (ps_ret pe_bl)))), ?_⟩
  obtain ⟨a, m, rows, ms, z, rfl, ho, hm, nd, km, q⟩ := h
  have hH := Has.start H
  have lms : ms.length ≤ 60 := few_in ho.few nd fun z hz => kn_mem.mp (km z hz)
  refine g_start (σ' := [some (.ref a), some (.ref m), some (.str z), none, none, none, none, none]) rfl ?_
  walk_at "gg"
  refine k_lcL hm hH (fun j acc F' O' => acc = ((ms.take j).filter fun x => !decide (x = z)).map V.str ∧ H = F' ∧ O' = []) ⟨rfl, rfl, rfl⟩ ?_ ?_ ?_
  · rintro j acc F' O' H2 ⟨_, rfl, rfl⟩ hh
    exact hh.same _ _ hm
  · rintro j vv acc F' O' D H2 hv ⟨rfl, rfl, rfl⟩ hh
    obtain ⟨x, hx, rfl⟩ := str_at hv
    walk_at "gg"
    have st : (ms.take (j + 1)).filter (fun x => !decide (x = z)) = (ms.take j).filter (fun x => !decide (x = z)) ++ [x].filter (fun x => !decide (x = z)) := by
      rw [List.take_add_one, hx, List.filter_append]
      rfl
    refine i_n (fun ne => ?_) (fun e => ?_)
    · walk_at "gg"
      refine k_turn hh ?_ ⟨?_, rfl, rfl⟩
      · rw [List.length_map]
        have := List.length_filter_le (fun x => !decide (x = z)) (ms.take j)
        rw [List.length_take] at this
        omega
      · rw [st, List.map_append, List.filter_cons_of_pos (by simpa using ne)]
        rfl
    · refine k_skip hh ⟨?_, rfl, rfl⟩
      rw [st, List.filter_cons_of_neg (by simpa using e)]
      rw [List.filter_nil, List.append_nil]
  rintro acc F' O' p1 H1 ⟨rfl, rfl, rfl⟩ h1
  rw [List.length_map, List.take_length] at h1
  have mo : ∀ x, x ∈ ms.filter (fun x => !decide (x = z)) ↔ x ∈ ms ∧ x ≠ z := fun x => by
    rw [List.mem_filter]
    simp
  have no := nd.sublist (List.filter_sublist (l := ms) (p := fun x => !decide (x = z)))
  generalize ms.filter (fun x => !decide (x = z)) = os at h1 mo no
  have ho1 := ho.mono h1.same
  have hp1 := h1.get (List.Mem.head _)
  have s1 := h1.same
  have hi : ∀ {i j : Nat} {x y : Str}, os[i]? = some x → os[j]? = some y → i ≠ j → x ≠ y := fun h1 h2 ne e => ne (at_inj no h1 (by rw [e]; exact h2))
  walk_at "gg"
  refine k_forE hp1 (fun t σ H' => ∃ (y4 y5 y6 : Option V), σ = [some (.ref a), some (.ref m), some (.str z), some (.ref p1), y4, y5, y6, none] ∧ Same H1 H' ∧ ∀ i j x y, i < t → i < j → os[i]? = some x → os[j]? = some y → ¬ MB (Un rows) x y z) ⟨_, _, _, rfl, Same.refl _, fun i j x y h => by omega⟩ ?_ ?_ ?_
  · rintro t σ H' ⟨y4, y5, y6, rfl, s3, _⟩
    exact s3 _ _ hp1
  · rintro t xx σ H3 T3 hxx ⟨y4, y5, y6, rfl, s3, m3⟩ nT3
    obtain ⟨x, hx, rfl⟩ := str_at hxx
    have h3 := (Has.start H3).new (o := .tup [.int (t : Nat), .str x]) nT3
    refine g_gtup (h3.get (List.Mem.head _)) rfl ?_
    walk_at "gg"
    have h3 := h3.drop
    generalize upd H3 T3 _ = H3' at h3
    refine g_slM (g_slS (SqL.of (h3.same _ _ (s3 _ _ hp1))) h3 (fun ps H4 n4 h4 => ?_))
    have ec : cutV (os.map V.str) (some ((t : Int) + 1)) none = (os.drop (t + 1)).map V.str := by
      have := cutV_from (os.map V.str) (t + 1)
      push_cast at this
      rw [this, List.map_drop]
    rw [ec] at h4
    have hps := h4.get (List.Mem.head _)
    have s4 := s3.trans h4.same
    refine k_forL hps (fun u σ H' => ∃ (y6 : Option V), σ = [some (.ref a), some (.ref m), some (.str z), some (.ref p1), some (.int (t : Nat)), some (.str x), y6, none] ∧ Same H1 H' ∧ H' ps = some (.lst ((os.drop (t + 1)).map V.str)) ∧ ∀ j y, j < u → os[t + 1 + j]? = some y → ¬ MB (Un rows) x y z) ⟨_, rfl, s4, hps, fun j y h => by omega⟩ ?_ ?_ ?_
    · rintro u σ H' _ ⟨y6, rfl, s5, hps5, _⟩
      exact hps5
    · rintro u yy σ H5 hyy ⟨y6, rfl, s5, hps5, m5⟩
      obtain ⟨y, hy, rfl⟩ := str_at hyy
      rw [List.getElem?_drop] at hy
      have kx := km x ((mo x).mp (List.mem_of_getElem? hx)).1
      have ky := km y ((mo y).mp (List.mem_of_getElem? hy)).1
      walk_at "gg"
      refine ⟨a, rows, x, y, rfl, ho1.mono s5, fun _ pb H6 bs s6 n6 hbs ascb mbs => ?_, ?_, ?_⟩
      · have hH6 := Has.start H6
        refine g_inM (g_inFL hbs rfl (flat_strs _) ?_)
        rw [inV_strs]
        walk_at "gg"
        refine i_d (fun e => ?_) (fun ne => ?_)
        · walk_at "gg"
          have mx := (mo x).mp (List.mem_of_getElem? hx)
          have my := (mo y).mp (List.mem_of_getElem? hy)
          exact q true H6 (s1.trans (s5.trans s6)) ⟨fun _ => ⟨x, y, mx.1, my.1, mx.2, my.2, hi hx hy (by omega), bs_mb.mp ((mbs z).mp e)⟩, fun _ => rfl⟩
        · walk_at "gg"
          refine ⟨_, rfl, s5.trans s6, s6 _ _ hps5, fun j y' hj ej => ?_⟩
          by_cases c : j < u
          · exact m5 j y' c ej
          · have : j = u := by omega
            subst this
            rw [hy] at ej
            injection ej with ej
            subst ej
            exact fun h => ne ((mbs z).mpr (bs_mb.mpr h))
      · intro z' e
        rw [f2_none kx ky] at e
        cases e
      · intro z' e
        rw [f2_none kx ky] at e
        cases e
    · rintro σ H5 ⟨y6, rfl, s5, hps5, m5⟩
      rw [List.length_map, List.length_drop] at m5
      refine ⟨_, _, _, rfl, s5, fun i j x' y hi' hj ei ej => ?_⟩
      by_cases c : i < t
      · exact m3 i j x' y c hj ei ej
      · have : i = t := by omega
        subst this
        rw [hx] at ei
        injection ei with ei
        subst ei
        have lj := (List.getElem?_eq_some_iff.mp ej).1
        exact m5 (j - (i + 1)) y (by omega) (by rw [show i + 1 + (j - (i + 1)) = j by omega]; exact ej)
  rintro σ H3 ⟨y4, y5, y6, rfl, s3, m3⟩
  rw [List.length_map] at m3
  walk_at "gg"
  refine q false H3 (s1.trans s3) ⟨fun h => (by cases h), ?_⟩
  rintro ⟨x, y, hx, hy, nx, ny, nxy, mb⟩
  obtain ⟨i, ei⟩ := List.mem_iff_getElem?.mp ((mo x).mpr ⟨hx, nx⟩)
  obtain ⟨j, ej⟩ := List.mem_iff_getElem?.mp ((mo y).mpr ⟨hy, ny⟩)
  have li := (List.getElem?_eq_some_iff.mp ei).1
  have lj := (List.getElem?_eq_some_iff.mp ej).1
  rcases Nat.lt_trichotomy i j with c | c | c
  · exact (m3 i j x y li c ei ej mb).elim
  · subst c
    rw [ei] at ej
    exact (nxy (Option.some.inj ej)).elim
  · exact (m3 j i y x lj c ej ei mb.symm).elim
end

end K29

namespace K29
open PySem PySem.Spec PyProof.Rows L2 Qk
local macro_rules | `(tactic| walk_at "m") => `(tactic| ((repeat (first | exact List.Mem.head _ | apply List.Mem.tail)); done))
local macro_rules | `(tactic| walk_at "h") => `(tactic| first | assumption | exact Has.gF (by assumption) (by assumption) | exact Has.get (by assumption) (by walk_at "m"))
local macro_rules | `(tactic| walk_at "c") => `(tactic| ((repeat (first | exact Chg.hd | apply Chg.tl)); done))
local macro_rules | `(tactic| walk_at "is") => `(tactic| first
  | ((with_reducible refine' is2_non ?gh ?_); (case gh => walk_at "h"))
  | (with_reducible refine is_int_list ?_)
  | (with_reducible refine is_int_tuple ?_)
  | (with_reducible refine is_int_dict ?_)
  | (with_reducible refine is_int_int ?_)
  | (with_reducible refine is_int_bool ?_)
  | (with_reducible refine is_int_str ?_)
  | ((with_reducible refine' is2_int ?gh ?_); (case gh => walk_at "h"))
  | (with_reducible refine is_str_list ?_)
  | (with_reducible refine is_str_tuple ?_)
  | (with_reducible refine is_str_dict ?_)
  | (with_reducible refine is_str_int ?_)
  | (with_reducible refine is_str_bool ?_)
  | (with_reducible refine is_str_str ?_)
  | ((with_reducible refine' is2_str ?gh ?_); (case gh => walk_at "h"))
  | (with_reducible refine is_bool_list ?_)
  | (with_reducible refine is_bool_tuple ?_)
  | (with_reducible refine is_bool_dict ?_)
  | (with_reducible refine is_bool_int ?_)
  | (with_reducible refine is_bool_bool ?_)
  | (with_reducible refine is_bool_str ?_)
  | ((with_reducible refine' is2_bool ?gh ?_); (case gh => walk_at "h"))
  | ((with_reducible refine' is_list_list ?gh ?_); (case gh => walk_at "h"))
  | ((with_reducible refine' is_list_tuple ?gh ?_); (case gh => walk_at "h"))
  | ((with_reducible refine' is_list_dict ?gh ?_); (case gh => walk_at "h"))
  | ((with_reducible refine' is_list_int ?gh ?_); (case gh => walk_at "h"))
  | ((with_reducible refine' is_list_bool ?gh ?_); (case gh => walk_at "h"))
  | ((with_reducible refine' is_list_str ?gh ?_); (case gh => walk_at "h"))
  | ((with_reducible refine' is2_list ?ga ?gb ?_); (case ga => walk_at "h"); (case gb => walk_at "h"))
  | ((with_reducible refine' is_tuple_list ?gh ?_); (case gh => walk_at "h"))
  | ((with_reducible refine' is_tuple_tuple ?gh ?_); (case gh => walk_at "h"))
  | ((with_reducible refine' is_tuple_dict ?gh ?_); (case gh => walk_at "h"))
  | ((with_reducible refine' is_tuple_int ?gh ?_); (case gh => walk_at "h"))
  | ((with_reducible refine' is_tuple_bool ?gh ?_); (case gh => walk_at "h"))
  | ((with_reducible refine' is_tuple_str ?gh ?_); (case gh => walk_at "h"))
  | ((with_reducible refine' is2_tuple ?ga ?gb ?_); (case ga => walk_at "h"); (case gb => walk_at "h"))
  | ((with_reducible refine' is_dict_list ?gh ?_); (case gh => walk_at "h"))
  | ((with_reducible refine' is_dict_tuple ?gh ?_); (case gh => walk_at "h"))
  | ((with_reducible refine' is_dict_dict ?gh ?_); (case gh => walk_at "h"))
  | ((with_reducible refine' is_dict_int ?gh ?_); (case gh => walk_at "h"))
  | ((with_reducible refine' is_dict_bool ?gh ?_); (case gh => walk_at "h"))
  | ((with_reducible refine' is_dict_str ?gh ?_); (case gh => walk_at "h"))
  | ((with_reducible refine' is2_dict ?ga ?gb ?_); (case ga => walk_at "h"); (case gb => walk_at "h")))
local macro_rules | `(tactic| walk_at "g") => `(tactic| first
  | (with_reducible refine g_seq ?_)
  | (with_reducible refine g_asg ?_)
  | ((with_reducible refine g_name ?_); dsimp only [List.set, wipe, List.map])
  | ((with_reducible refine' g_var ?gv ?_); (case gv => exact rfl))
  | (with_reducible refine g_c ?_)
  | (with_reducible refine g_op ?_)
  | (with_reducible refine g_cons ?_)
  | (with_reducible refine g_nil ?_)
  | (with_reducible refine g_cb ?_)
  | (with_reducible refine g_call ?_)
  | (with_reducible refine g_tup ?_)
  | (with_reducible refine g_lst ?_)
  | (with_reducible refine g_bm ?_)
  | (with_reducible refine g_bm0 ?_)
  | ((with_reducible refine' g_kbm ?gh ?_); (case gh => walk_at "h"))
  | (with_reducible refine g_drop ?_)
  | (with_reducible refine g_ret ?_)
  | (with_reducible refine g_retN ?_)
  | (with_reducible refine g_next ?_)
  | (with_reducible refine g_brk ?_)
  | (with_reducible refine g_cont ?_)
  | (with_reducible refine g_if ?_)
  | ((with_reducible refine' g_aug ?gv ?_); (case gv => exact rfl))
  | (with_reducible refine g_ipI ?_)
  | (with_reducible refine g_test ?_)
  | (with_reducible refine g_tB ?_)
  | (with_reducible refine g_kB ?_)
  | (with_reducible refine g_not ?_)
  | (with_reducible refine g_and ?_)
  | (with_reducible refine g_or ?_)
  | (with_reducible refine g_andV ?_)
  | (with_reducible refine g_orV ?_)
  | (with_reducible refine g_notV ?_)
  | (with_reducible refine g_ifE ?_)
  | (with_reducible refine g_addI ?_)
  | (with_reducible refine g_rI0 ?_)
  | (with_reducible refine g_eqI ?_)
  | (with_reducible refine g_eqS ?_)
  | (with_reducible refine g_neI ?_)
  | (with_reducible refine g_neS ?_)
  | (with_reducible refine g_isN ?_)
  | (with_reducible refine g_notN ?_)
  | (with_reducible refine g_int ?_)
  | (with_reducible refine g_max2 ?_)
  | (with_reducible refine g_min2 ?_)
  | ((with_reducible refine' g_lenL ?gh ?_); (case gh => walk_at "h"))
  | (with_reducible refine g_sub ?_)
  | (with_reducible refine g_gcons ?_)
  | (with_reducible refine g_gnil ?_)
  | (with_reducible refine g_un ?_)
  | (with_reducible refine g_rU ?_)
  | (with_reducible refine g_forL ?_)
  | (with_reducible refine g_forS ?_)
  | (with_reducible refine g_forR1 ?_)
  | (with_reducible refine g_forR2 ?_)
  | (with_reducible refine g_forR3 ?_)
  | (with_reducible refine g_lcL ?_)
  | (with_reducible refine g_lcR1 ?_)
  | (with_reducible refine g_lcR2 ?_)
  | (with_reducible refine g_slice ?_)
  | (with_reducible refine g_part ?_)
  | (with_reducible refine g_kOI ?_)
  | (with_reducible refine g_nopart ?_)
  | (with_reducible refine g_yes ?_)
  | ((with_reducible refine' g_wipe ?gv ?_); (case gv => exact rfl))
  | (with_reducible refine iteT ?_)
  | (with_reducible refine iteF ?_)
  | (with_reducible refine i_nf ?_)
  | (with_reducible refine i_nt ?_)
  | ((with_reducible refine' g_gtup ?gh ?gl ?_); (case gh => walk_at "h"); (case gl => exact rfl))
  | ((with_reducible refine' g_notinI ?gh ?_); (case gh => walk_at "h"))
  | ((with_reducible refine' g_inI ?gh ?_); (case gh => walk_at "h"))
  | ((with_reducible refine' g_kget2 ?gh ?_); (case gh => walk_at "h"))
  | ((with_reducible refine' g_kgotI ?gh ?_); (case gh => walk_at "h"))
  | (with_reducible refine g_tRev ?_)
  | (with_reducible refine g_neB ?_)
  | (with_reducible refine g_eqB ?_)
  | ((with_reducible refine' g_lenT ?gh ?_); (case gh => walk_at "h"))
  | (with_reducible refine g_star ?_)
  | ((with_reducible refine' g_kstarL ?gh ?_); (case gh => walk_at "h"))
  | ((with_reducible refine' g_kstarT ?gh ?_); (case gh => walk_at "h"))
  | (with_reducible refine g_tru ?_)
  | ((with_reducible refine' g_truL ?gh ?_); (case gh => walk_at "h"))
  | (with_reducible refine g_get2 ?_)
  | (with_reducible refine g_try ?_)
  | (with_reducible refine g_fld ?_)
  | (with_reducible refine g_sfld ?_)
  | (with_reducible refine g_meth ?_)
  | (with_reducible refine g_make ?_)
  | (with_reducible refine g_del ?_)
  | (with_reducible refine g_callS ?_)
  | (with_reducible refine g_raise ?_)
  | (with_reducible refine g_xf ?_)
  | (with_reducible refine g_m0 ?_)
  | (with_reducible refine g_km0 ?_)
  | walk_at "is")
local macro_rules | `(tactic| walk_at "gg") => `(tactic| repeat walk_at "g")
local macro_rules | `(tactic| walk_at "sz") => `(tactic| (refine sz ?_; simp only [List.length_cons, List.length_nil, List.length_map, List.length_append, List.length_replicate]; omega))
local macro_rules | `(tactic| walk_at "sub") => `(tactic| ((repeat (first | exact List.Sublist.slnil | with_reducible apply List.Sublist.cons_cons | with_reducible apply List.Sublist.cons)); done))

section
variable {P : Program} {w : World} {K : PySem.W.Frag} {mg : Str → Option Value} {base : Heap}
def sp_Order_names (T : Txt K mg) : Sp := fun vs H Q _ => ∃ (a : Addr) (rows : List URow), vs = [.ref a] ∧ Ord T H a rows ∧ ∀ p H' ns, Same H H' → H p = none → H' p = some (.lst (ns.map V.str)) → Asc ns → (∀ z, z ∈ ns ↔ z ∈ rows.map (·.1)) → Q (.ref p) H'
theorem sp_Order_names_len {T : Txt K mg} {vs H Q E} (h : sp_Order_names T vs H Q E) : vs.length = 1 := by
  obtain ⟨_, _, rfl, _⟩ := h
  rfl
theorem ok_Order_names (T : Txt K mg) : FnOk P w K mg base CX0 1 T.f_Order_names T.fd_Order_names ["self"] (sp_Order_names T) := by
  refine T.F_Order_names.ok sc_Order_names (fun vs H Q E h => sp_Order_names_len h) (fun cdv A outer s H vs Q E hr h => ?_)
  refine ⟨_, (pss_one (ps_ret (pe_callTy (cr_listK K) (by rfl) T.m_list (by decide +kernel) (pa_cons (k_fld K (pe_fld (pv 0) rfl)) pa_nil)))), ?_⟩
  obtain ⟨a, rows, rfl, ho, q⟩ := h
  have hH := Has.start H
  refine g_start (σ' := [some (.ref a)]) rfl ?_
  obtain ⟨dx, d, nl, kvs, at_, ok⟩ := ho.ex
  obtain ⟨ns, hn, asc, mn⟩ := ok.names
  walk_at "gg"
  refine g_kfld at_.i T.cl_Order T.nA_Order__names rfl ?_
  walk_at "gg"
  refine g_listL hn hH (fun p H1 n1 h1 => ?_)
  exact q p H1 ns h1.same n1 (h1.get (List.Mem.head _)) asc mn
def sp_Order_has (T : Txt K mg) : Sp := fun vs H Q _ => ∃ (a : Addr) (rows : List URow) (x : Str), vs = [.ref a, .str x] ∧ Ord T H a rows ∧ Q (.bl (kn rows x)) H
theorem sp_Order_has_len {T : Txt K mg} {vs H Q E} (h : sp_Order_has T vs H Q E) : vs.length = 2 := by
  obtain ⟨_, _, _, rfl, _⟩ := h
  rfl
theorem ok_Order_has (T : Txt K mg) : FnOk P w K mg base CX0 1 T.f_Order_has T.fd_Order_has ["self", "name"] (sp_Order_has T) := by
  refine T.F_Order_has.ok sc_Order_has (fun vs H Q E h => sp_Order_has_len h) (fun cdv A outer s H vs Q E hr h => ?_)
  refine ⟨_, (pss_one (ps_ret (pe_cmpR (op_inM K P w hr.units (u65 hr)) (pv 1) (k_fld K (pe_fld (pv 0) rfl)) (by rfl)))), ?_⟩
  obtain ⟨a, rows, x, rfl, ho, q⟩ := h
  refine g_start (σ' := [some (.ref a), some (.str x)]) rfl ?_
  obtain ⟨dx, d, nl, kvs, at_, ok⟩ := ho.ex
  walk_at "gg"
  refine g_kfld at_.i T.cl_Order T.nA_Order__under rfl ?_
  walk_at "gg"
  refine g_inM (g_inS at_.d ?_)
  rw [ok.val]
  exact q
end

end K29

namespace K29
open PySem PySem.Spec PyProof.Rows L2 Qk
local macro_rules | `(tactic| walk_at "m") => `(tactic| ((repeat (first | exact List.Mem.head _ | apply List.Mem.tail)); done))
local macro_rules | `(tactic| walk_at "h") => `(tactic| first | assumption | exact Has.gF (by assumption) (by assumption) | exact Has.get (by assumption) (by walk_at "m"))
local macro_rules | `(tactic| walk_at "c") => `(tactic| ((repeat (first | exact Chg.hd | apply Chg.tl)); done))
local macro_rules | `(tactic| walk_at "is") => `(tactic| first
  | ((with_reducible refine' is2_non ?gh ?_); (case gh => walk_at "h"))
  | (with_reducible refine is_int_list ?_)
  | (with_reducible refine is_int_tuple ?_)
  | (with_reducible refine is_int_dict ?_)
  | (with_reducible refine is_int_int ?_)
  | (with_reducible refine is_int_bool ?_)
  | (with_reducible refine is_int_str ?_)
  | ((with_reducible refine' is2_int ?gh ?_); (case gh => walk_at "h"))
  | (with_reducible refine is_str_list ?_)
  | (with_reducible refine is_str_tuple ?_)
  | (with_reducible refine is_str_dict ?_)
  | (with_reducible refine is_str_int ?_)
  | (with_reducible refine is_str_bool ?_)
  | (with_reducible refine is_str_str ?_)
  | ((with_reducible refine' is2_str ?gh ?_); (case gh => walk_at "h"))
  | (with_reducible refine is_bool_list ?_)
  | (with_reducible refine is_bool_tuple ?_)
  | (with_reducible refine is_bool_dict ?_)
  | (with_reducible refine is_bool_int ?_)
  | (with_reducible refine is_bool_bool ?_)
  | (with_reducible refine is_bool_str ?_)
  | ((with_reducible refine' is2_bool ?gh ?_); (case gh => walk_at "h"))
  | ((with_reducible refine' is_list_list ?gh ?_); (case gh => walk_at "h"))
  | ((with_reducible refine' is_list_tuple ?gh ?_); (case gh => walk_at "h"))
  | ((with_reducible refine' is_list_dict ?gh ?_); (case gh => walk_at "h"))
  | ((with_reducible refine' is_list_int ?gh ?_); (case gh => walk_at "h"))
  | ((with_reducible refine' is_list_bool ?gh ?_); (case gh => walk_at "h"))
  | ((with_reducible refine' is_list_str ?gh ?_); (case gh => walk_at "h"))
  | ((with_reducible refine' is2_list ?ga ?gb ?_); (case ga => walk_at "h"); (case gb => walk_at "h"))
  | ((with_reducible refine' is_tuple_list ?gh ?_); (case gh => walk_at "h"))
  | ((with_reducible refine' is_tuple_tuple ?gh ?_); (case gh => walk_at "h"))
  | ((with_reducible refine' is_tuple_dict ?gh ?_); (case gh => walk_at "h"))
  | ((with_reducible refine' is_tuple_int ?gh ?_); (case gh => walk_at "h"))
  | ((with_reducible refine' is_tuple_bool ?gh ?_); (case gh => walk_at "h"))
  | ((with_reducible refine' is_tuple_str ?gh ?_); (case gh => walk_at "h"))
  | ((with_reducible refine' is2_tuple ?ga ?gb ?_); (case ga => walk_at "h"); (case gb => walk_at "h"))
  | ((with_reducible refine' is_dict_list ?gh ?_); (case gh => walk_at "h"))
  | ((with_reducible refine' is_dict_tuple ?gh ?_); (case gh => walk_at "h"))
  | ((with_reducible refine' is_dict_dict ?gh ?_); (case gh => walk_at "h"))
  | ((with_reducible refine' is_dict_int ?gh ?_); (case gh => walk_at "h"))
  | ((with_reducible refine' is_dict_bool ?gh ?_); (case gh => walk_at "h"))
  | ((with_reducible refine' is_dict_str ?gh ?_); (case gh => walk_at "h"))
  | ((with_reducible refine' is2_dict ?ga ?gb ?_); (case ga => walk_at "h"); (case gb => walk_at "h")))
local macro_rules | `(tactic| walk_at "g") => `(tactic| first
  | (with_reducible refine g_seq ?_)
  | (with_reducible refine g_asg ?_)
  | ((with_reducible refine g_name ?_); dsimp only [List.set, wipe, List.map])
  | ((with_reducible refine' g_var ?gv ?_); (case gv => exact rfl))
  | (with_reducible refine g_c ?_)
  | (with_reducible refine g_op ?_)
  | (with_reducible refine g_cons ?_)
  | (with_reducible refine g_nil ?_)
  | (with_reducible refine g_cb ?_)
  | (with_reducible refine g_call ?_)
  | (with_reducible refine g_tup ?_)
  | (with_reducible refine g_lst ?_)
  | (with_reducible refine g_bm ?_)
  | (with_reducible refine g_bm0 ?_)
  | ((with_reducible refine' g_kbm ?gh ?_); (case gh => walk_at "h"))
  | (with_reducible refine g_drop ?_)
  | (with_reducible refine g_ret ?_)
  | (with_reducible refine g_retN ?_)
  | (with_reducible refine g_next ?_)
  | (with_reducible refine g_brk ?_)
  | (with_reducible refine g_cont ?_)
  | (with_reducible refine g_if ?_)
  | ((with_reducible refine' g_aug ?gv ?_); (case gv => exact rfl))
  | (with_reducible refine g_ipI ?_)
  | (with_reducible refine g_test ?_)
  | (with_reducible refine g_tB ?_)
  | (with_reducible refine g_kB ?_)
  | (with_reducible refine g_not ?_)
  | (with_reducible refine g_and ?_)
  | (with_reducible refine g_or ?_)
  | (with_reducible refine g_andV ?_)
  | (with_reducible refine g_orV ?_)
  | (with_reducible refine g_notV ?_)
  | (with_reducible refine g_ifE ?_)
  | (with_reducible refine g_addI ?_)
  | (with_reducible refine g_rI0 ?_)
  | (with_reducible refine g_eqI ?_)
  | (with_reducible refine g_eqS ?_)
  | (with_reducible refine g_neI ?_)
  | (with_reducible refine g_neS ?_)
  | (with_reducible refine g_isN ?_)
  | (with_reducible refine g_notN ?_)
  | (with_reducible refine g_int ?_)
  | (with_reducible refine g_max2 ?_)
  | (with_reducible refine g_min2 ?_)
  | ((with_reducible refine' g_lenL ?gh ?_); (case gh => walk_at "h"))
  | (with_reducible refine g_sub ?_)
  | (with_reducible refine g_gcons ?_)
  | (with_reducible refine g_gnil ?_)
  | (with_reducible refine g_un ?_)
  | (with_reducible refine g_rU ?_)
  | (with_reducible refine g_forL ?_)
  | (with_reducible refine g_forS ?_)
  | (with_reducible refine g_forR1 ?_)
  | (with_reducible refine g_forR2 ?_)
  | (with_reducible refine g_forR3 ?_)
  | (with_reducible refine g_lcL ?_)
  | (with_reducible refine g_lcR1 ?_)
  | (with_reducible refine g_lcR2 ?_)
  | (with_reducible refine g_slice ?_)
  | (with_reducible refine g_part ?_)
  | (with_reducible refine g_kOI ?_)
  | (with_reducible refine g_nopart ?_)
  | (with_reducible refine g_yes ?_)
  | ((with_reducible refine' g_wipe ?gv ?_); (case gv => exact rfl))
  | (with_reducible refine iteT ?_)
  | (with_reducible refine iteF ?_)
  | (with_reducible refine i_nf ?_)
  | (with_reducible refine i_nt ?_)
  | ((with_reducible refine' g_gtup ?gh ?gl ?_); (case gh => walk_at "h"); (case gl => exact rfl))
  | ((with_reducible refine' g_notinI ?gh ?_); (case gh => walk_at "h"))
  | ((with_reducible refine' g_inI ?gh ?_); (case gh => walk_at "h"))
  | ((with_reducible refine' g_kget2 ?gh ?_); (case gh => walk_at "h"))
  | ((with_reducible refine' g_kgotI ?gh ?_); (case gh => walk_at "h"))
  | (with_reducible refine g_tRev ?_)
  | (with_reducible refine g_neB ?_)
  | (with_reducible refine g_eqB ?_)
  | ((with_reducible refine' g_lenT ?gh ?_); (case gh => walk_at "h"))
  | (with_reducible refine g_star ?_)
  | ((with_reducible refine' g_kstarL ?gh ?_); (case gh => walk_at "h"))
  | ((with_reducible refine' g_kstarT ?gh ?_); (case gh => walk_at "h"))
  | (with_reducible refine g_tru ?_)
  | ((with_reducible refine' g_truL ?gh ?_); (case gh => walk_at "h"))
  | (with_reducible refine g_get2 ?_)
  | (with_reducible refine g_try ?_)
  | (with_reducible refine g_fld ?_)
  | (with_reducible refine g_sfld ?_)
  | (with_reducible refine g_meth ?_)
  | (with_reducible refine g_make ?_)
  | (with_reducible refine g_del ?_)
  | (with_reducible refine g_callS ?_)
  | (with_reducible refine g_raise ?_)
  | (with_reducible refine g_xf ?_)
  | (with_reducible refine g_m0 ?_)
  | (with_reducible refine g_km0 ?_)
  | walk_at "is")
local macro_rules | `(tactic| walk_at "gg") => `(tactic| repeat walk_at "g")
local macro_rules | `(tactic| walk_at "sz") => `(tactic| (refine sz ?_; simp only [List.length_cons, List.length_nil, List.length_map, List.length_append, List.length_replicate]; omega))
local macro_rules | `(tactic| walk_at "sub") => `(tactic| ((repeat (first | exact List.Sublist.slnil | with_reducible apply List.Sublist.cons_cons | with_reducible apply List.Sublist.cons)); done))

local macro_rules | `(tactic| walk_at "g") => `(tactic| first
  | ((with_reducible refine' g_lenNL ?gh ?_); (case gh => walk_at "h"))
  | ((with_reducible refine' g_lenND ?gh ?_); (case gh => walk_at "h"))
  | ((with_reducible refine' g_lenNT ?gh ?_); (case gh => walk_at "h"))
  | (with_reducible refine g_ltI ?_)
  | (with_reducible refine g_ltS ?_)
  | (with_reducible refine g_lstRg ?_)
  | (with_reducible refine g_forK ?_))

local macro_rules | `(tactic| walk_at "g") => `(tactic| first
  | (with_reducible refine g_lcT ?_)
  | (with_reducible refine g_forT ?_))

local macro_rules | `(tactic| walk_at "g") => `(tactic| first
  | (with_reducible refine g_makeS ?_)
  | ((with_reducible refine' g_makeV ?gv ?_); (case gv => exact rfl))
  | (with_reducible refine g_cmethS ?_))

local macro_rules | `(tactic| walk_at "g") => `(tactic| first
  | (with_reducible refine g_forO ?_))

/-! ### lots -/
theorem nodup_of_chk {kn : Str → Bool} {xs : List Str} (h : ∀ z ∈ xs, kn z = true) (n : xs.Nodup) : chkE kn [] xs = none := chkE_none h n (fun _ _ h => by cases h)
section
variable {P : Program} {w : World} {K : PySem.W.Frag} {mg : Str → Option Value} {base : Heap}
def lot_ (o nl : Addr) : List (Str × V) := [("_order", .ref o), ("_names", .ref nl)]
/-- a lot that stands still -/
structure LotA (T : Txt K mg) (H : Hp) (a dx nl o : Addr) (us : List Str) : Prop where
  i : H a = some (.ins T.C_Lot dx (lot_ o nl))
  x : H dx = some (.own a)
  n : H nl = some (.lst (us.map V.str))
def LotAt (T : Txt K mg) (H : Hp) (a o : Addr) (us : List Str) : Prop := ∃ dx nl, LotA T H a dx nl o us
/-- a lot that a call has made -/
def LotN (T : Txt K mg) (H H' : Hp) (a o : Addr) (us : List Str) : Prop := ∃ dx nl, LotA T H' a dx nl o us ∧ H a = none ∧ H dx = none ∧ H nl = none
theorem LotA.mono {T : Txt K mg} {H H' : Hp} {a dx nl o : Addr} {us : List Str} (h : LotA T H a dx nl o us) (s : Same H H') : LotA T H' a dx nl o us := ⟨s _ _ h.i, s _ _ h.x, s _ _ h.n⟩
theorem LotAt.mono {T : Txt K mg} {H H' : Hp} {a o : Addr} {us : List Str} (h : LotAt T H a o us) (s : Same H H') : LotAt T H' a o us := by
  obtain ⟨dx, nl, h⟩ := h
  exact ⟨dx, nl, h.mono s⟩
theorem LotN.at {T : Txt K mg} {H H' : Hp} {a o : Addr} {us : List Str} (h : LotN T H H' a o us) : LotAt T H' a o us := by
  obtain ⟨dx, nl, h, _⟩ := h
  exact ⟨dx, nl, h⟩
theorem LotN.pre {T : Txt K mg} {H H1 H' : Hp} {a o : Addr} {us : List Str} (s : Same H H1) (h : LotN T H1 H' a o us) : LotN T H H' a o us := by
  obtain ⟨dx, nl, h, n1, n2, n3⟩ := h
  exact ⟨dx, nl, h, s.free n1, s.free n2, s.free n3⟩
theorem LotN.post {T : Txt K mg} {H H1 H' : Hp} {a o : Addr} {us : List Str} (h : LotN T H H1 a o us) (s : Same H1 H') : LotN T H H' a o us := by
  obtain ⟨dx, nl, h, n⟩ := h
  exact ⟨dx, nl, h.mono s, n⟩
/-- what a lot's members are -/
structure LotOk (rows : List URow) (us : List Str) : Prop where
  asc : Asc us
  kn : ∀ z ∈ us, K29.kn rows z = true
  cl : ∀ a b c, a ∈ us → b ∈ us → MB (Un rows) a b c → c ∈ us
theorem LotOk.chk {rows : List URow} {us : List Str} (h : LotOk rows us) : chkE (K29.kn rows) [] us = none := nodup_of_chk h.kn h.asc.nodup
theorem LotOk.noGap {rows : List URow} {us : List Str} (h : LotOk rows us) (a b c : Str) : ¬ Gp (MB (Un rows)) us a b c := fun g => g.2.2.2.2 (h.cl a b c g.1 g.2.1 g.2.2.2.1)
def sp_Lot___init__ (T : Txt K mg) : Sp := fun vs H Q E => ∃ (a dx o l : Addr) (H0 : Hp) (rows : List URow) (xs : List Str), vs = [.ref a, .ref o, .ref l] ∧ H = upd (upd H0 dx (.own a)) a (.ins T.C_Lot dx []) ∧ H0 a = none ∧ H0 dx = none ∧ dx ≠ a ∧ Ord T H0 o rows ∧ H0 l = some (.lst (xs.map V.str)) ∧ xs.length ≤ 200 ∧
  (chkE (kn rows) [] xs = none → (∀ x y z, ¬ Gp (MB (Un rows)) xs x y z) → ∀ nl H' us, Same H0 H' → H0 nl = none → LotA T H' a dx nl o us → Asc us → (∀ z, z ∈ us ↔ z ∈ xs) → Q .non H') ∧
  (∀ z, chkE (kn rows) [] xs = some (true, z) → lost_nm T.C_Unknown H E z) ∧ (∀ z, chkE (kn rows) [] xs = some (false, z) → lost_nm T.C_Repeated H E z) ∧ (chkE (kn rows) [] xs = none → ∀ t, FstG (MB (Un rows)) xs t → lost_gap T.C_NotClosed H E t)
theorem sp_Lot___init___len {T : Txt K mg} {vs H Q E} (h : sp_Lot___init__ T vs H Q E) : vs.length = 3 := by
  obtain ⟨_, _, _, _, _, _, _, rfl, _⟩ := h
  rfl
set_option maxHeartbeats 1000000 in
theorem ok_Lot___init__ (T : Txt K mg) : FnOk P w K mg base (L2N.CX P w) 10 T.f_Lot___init__ T.fd_Lot___init__ ["self", "order", "names"] (sp_Lot___init__ T) := by
  refine Fun.okN T.F_Lot___init__ sc_Lot___init__ (fun vs H Q E h => sp_Lot___init___len h) (fun cdv A outer s H vs Q E hr h => ?_)
  refine ⟨_, (pss_cons (ps_set (i := 3) sc_Lot___init__.nd rfl (.inl rfl) (pe_methW (pv 1) T.cl_Order T.M_Order_checked (ok_Order_checked T) (hr.mono (by decide)) T.b_Order_checked (fun σ => L2N.passAt (L2N.takes_of rfl rfl rfl rfl) σ) (pa_cons (pv 2) pa_nil)))
      (pss_cons (ps_set (i := 4) sc_Lot___init__.nd rfl (.inl rfl) (pe_call (ok_first_gap T) (hr.mono (by decide)) (by rfl) T.g_first_gap T.F_first_gap.kp T.b_first_gap .nil pass0 (pa_cons (pv 1) (pa_cons (pv 3) pa_nil))))
      (pss_cons (ps_if (pt_cmpR op_notNA (pv 4) pe_non (nomark _)) (pss_cons (ps_asg (pv 4) (k_gt K (pg_tup (by rfl) (pgs_cons (pg_name (i := 5) sc_Lot___init__.nd rfl (.inl rfl)) (pgs_cons (pg_name (i := 6) sc_Lot___init__.nd rfl (.inl rfl)) (pgs_cons (pg_name (i := 7) sc_Lot___init__.nd rfl (.inl rfl)) pgs_nil))))))
      (pss_one (k_raise rfl (L2N.takes_of rfl rfl rfl rfl) (pmk_oexN T.O_NotClosed T.iC_NotClosed T.tI_NotClosed (ok_init_NotClosed T) (hr.mono (by decide)) T.bi_NotClosed pass0 (by rfl) T.g_NotClosed (pa_cons (pv 5) (pa_cons (pv 6) (pa_cons (pv 7) pa_nil))))))) pss_nil)
      (pss_cons (k_sfld K (ps_fld (pv 0) (pv 1) rfl))
      (pss_one (k_sfld K (ps_fld (pv 0) (pe_callB (cr_sortA K rfl) (by rfl) T.m_sorted (by decide +kernel) (pa_cons (pv 3) pa_nil)) rfl))))))), ?_⟩
  obtain ⟨a, dx, o, l, H0, rows, xs, rfl, rfl, na, ndx, nad, ho, hl, lx, q, qu, qr, qg⟩ := h
  refine g_start (σ' := [some (.ref a), some (.ref o), some (.ref l), none, none, none, none, none]) rfl ?_
  have s0 : Same H0 (upd (upd H0 dx (.own a)) a (.ins T.C_Lot dx [])) := fun b u e => by
    rw [upd_ne (fun c => by rw [c, na] at e; cases e), upd_ne (fun c => by rw [c, ndx] at e; cases e)]
    exact e
  have h : Has H0 [(a, .ins T.C_Lot dx []), (dx, .own a)] (upd (upd H0 dx (.own a)) a (.ins T.C_Lot dx [])) := ((Has.start H0).new ndx).new (by rw [upd_ne nad.symm]; exact na)
  generalize upd (upd H0 dx (.own a)) a (.ins T.C_Lot dx []) = H at h s0 qu qr qg
  have ho' := ho.mono s0
  obtain ⟨odx, od, onl, okvs, oat, ook⟩ := ho'.ex
  walk_at "gg"
  refine g_kmeth oat.i rfl ?_
  walk_at "gg"
  refine ⟨o, l, rows, xs, rfl, ho', s0 _ _ hl, lx, fun hc p H1 s1 n1 h1 => ?_, qu, qr⟩
  have h := h.made n1 s1 h1
  walk_at "gg"
  refine ⟨o, p, rows, xs, rfl, ho'.mono s1, h1, hc, lx, fun ng H2 s2 => ?_, fun t ft pg H2 s2 n2 h2 => ?_⟩
  · have h := h.on s2
    walk_at "gg"
    refine i_n (fun ne => (ne rfl).elim) (fun _ => ?_)
    walk_at "gg"
    refine g_ksfld (fs' := [("_order", .ref o)]) h (by walk_at "c") rfl T.cl_Lot T.nA_Lot__order (by decide) (fun H3 h => ?_)
    walk_at "gg"
    have l60 := ho.chk_few hc
    refine g_sortS (h.get (List.Mem.head _)) (by omega) h (fun us nl H4 pm srt n4 h => ?_)
    have au := asc_of srt (pm.nodup_iff.mpr (chkE_nodup hc).1)
    walk_at "gg"
    refine g_ksfld (fs' := lot_ o nl) h (by walk_at "c") rfl T.cl_Lot T.nA_Lot__names (by show 1 < 1000; decide) (fun H5 h => ?_)
    have nn : H0 nl = none := (h.own (nl, .lst (us.map V.str)) (by walk_at "m")).1
    exact q hc ng nl H5 us h.same nn ⟨h.get (by walk_at "m"), h.get (by walk_at "m"), h.get (by walk_at "m")⟩ au (fun z => pm.mem_iff)
  · have h := h.made n2 s2 h2
    walk_at "gg"
    refine i_n (fun _ => ?_) (fun e => by cases e)
    walk_at "gg"
    refine g_mk rfl (by decide) (Has.start H2) (fun e H4 n4 h4 => ?_)
    exact qg hc t ft e H4 ((s1.trans s2).trans h4.same) ((s1.trans s2).free n4) (h4.get (List.Mem.head _))
/-- a lot is made -/
theorem make_lot {T : Txt K mg} {H : Hp} {o l : Addr} {rows : List URow} {xs : List Str} {Q : VK} {E : XK} (ho : Ord T H o rows) (hl : H l = some (.lst (xs.map V.str))) (lx : xs.length ≤ 200)
    (q : chkE (kn rows) [] xs = none → (∀ x y z, ¬ Gp (MB (Un rows)) xs x y z) → ∀ a H' us, Same H H' → LotN T H H' a o us → Asc us → (∀ z, z ∈ us ↔ z ∈ xs) → Q (.ref a) H')
    (qu : ∀ z, chkE (kn rows) [] xs = some (true, z) → lost_nm T.C_Unknown H E z) (qr : ∀ z, chkE (kn rows) [] xs = some (false, z) → lost_nm T.C_Repeated H E z) (qg : chkE (kn rows) [] xs = none → ∀ t, FstG (MB (Un rows)) xs t → lost_gap T.C_NotClosed H E t) : kMake T.C_Lot (sp_Lot___init__ T) E [.ref o, .ref l] H Q := by
  intro a dx na ndx nad
  have s0 : Same H (upd (upd H dx (.own a)) a (.ins T.C_Lot dx [])) := fun b u e => by
    rw [upd_ne (fun c => by rw [c, na] at e; cases e), upd_ne (fun c => by rw [c, ndx] at e; cases e)]
    exact e
  refine ⟨a, dx, o, l, H, rows, xs, rfl, rfl, na, ndx, nad, ho, hl, lx, fun hc ng nl H' us s n h asc m => ⟨rfl, q hc ng a H' us s ⟨dx, nl, h, na, ndx, n⟩ asc m⟩, fun z e ex H' s n h => qu z e ex H' (s0.trans s) (s0.free n) h, fun z e ex H' s n h => qr z e ex H' (s0.trans s) (s0.free n) h, fun hc t ft ex H' s n h => qg hc t ft ex H' (s0.trans s) (s0.free n) h⟩
/-- .. of a closed list -/
theorem make_lotC {T : Txt K mg} {H : Hp} {o l : Addr} {rows : List URow} {xs : List Str} {Q : VK} {E : XK} (ho : Ord T H o rows) (hl : H l = some (.lst (xs.map V.str))) (lx : xs.length ≤ 200) (kx : ∀ z ∈ xs, kn rows z = true) (nd : xs.Nodup) (cl : ∀ a b c, a ∈ xs → b ∈ xs → MB (Un rows) a b c → c ∈ xs)
    (q : ∀ a H' us, Same H H' → LotN T H H' a o us → LotOk rows us → (∀ z, z ∈ us ↔ z ∈ xs) → Q (.ref a) H') : kMake T.C_Lot (sp_Lot___init__ T) E [.ref o, .ref l] H Q := by
  have hc := nodup_of_chk kx nd
  refine make_lot ho hl lx (fun _ _ a H' us s n asc m => q a H' us s n ⟨asc, fun z hz => kx z ((m z).mp hz), fun a b c ha hb g => (m c).mpr (cl a b c ((m a).mp ha) ((m b).mp hb) g)⟩ m) (fun z e => by rw [hc] at e; cases e) (fun z e => by rw [hc] at e; cases e) (fun _ t ft => (ft.1.2.2.2.2 (cl _ _ _ ft.1.1 ft.1.2.1 ft.1.2.2.2.1)).elim)
def sp_Lot_over (T : Txt K mg) : Sp := fun vs H Q E => ∃ (o l : Addr) (rows : List URow) (xs : List Str), vs = [.ref T.C_Lot, .ref o, .ref l] ∧ Ord T H o rows ∧ H l = some (.lst (xs.map V.str)) ∧ xs.length ≤ 200 ∧ Rfl rows ∧
  (chkE (kn rows) [] xs = none → ∀ a H' us, Same H H' → LotN T H H' a o us → LotOk rows us → (∀ z, z ∈ us ↔ Cl (MB (Un rows)) (fun z => z ∈ xs) z) → Q (.ref a) H') ∧
  (∀ z, chkE (kn rows) [] xs = some (true, z) → lost_nm T.C_Unknown H E z) ∧ (∀ z, chkE (kn rows) [] xs = some (false, z) → lost_nm T.C_Repeated H E z)
theorem sp_Lot_over_len {T : Txt K mg} {vs H Q E} (h : sp_Lot_over T vs H Q E) : vs.length = 3 := by
  obtain ⟨_, _, _, _, rfl, _⟩ := h
  rfl
theorem ok_Lot_over (T : Txt K mg) : FnOk P w K mg base (L2N.CX P w) 12 T.f_Lot_over T.fd_Lot_over ["cls", "order", "names"] (sp_Lot_over T) := by
  refine Fun.okN T.F_Lot_over sc_Lot_over (fun vs H Q E h => sp_Lot_over_len h) (fun cdv A outer s H vs Q E hr h => ?_)
  refine ⟨_, (pss_one (ps_ret (pe_makeV (i := 0) T.Mk_Lot (ok_Lot___init__ T) (hr.mono (by decide)) rfl (.inl rfl) T.b_Lot___init__ (fun σ => L2N.passAt (L2N.takes_of rfl rfl rfl rfl) σ) (pa_cons (pv 1) (pa_cons (pe_callS (ok_closure T) (hr.mono (by decide)) (by rfl) T.g_closure T.F_closure.kp T.b_closure (fun σ => L2N.passAt (L2N.takes_of rfl rfl rfl rfl) σ) (pa_cons (pv 1) (pa_cons (pv 2) pa_nil))) pa_nil))))), ?_⟩
  obtain ⟨o, l, rows, xs, rfl, ho, hl, lx, rf, q, qu, qr⟩ := h
  refine g_start (σ' := [some (.ref T.C_Lot), some (.ref o), some (.ref l)]) rfl ?_
  walk_at "gg"
  refine ⟨o, l, rows, xs, rfl, ho, hl, lx, rf, fun hc p H1 us s1 n1 h1 asc m => ?_, qu, qr⟩
  have ku : ∀ z ∈ us, kn rows z = true := fun z hz => ((m z).mp hz).least (C := fun z => kn rows z = true) (fun z h => chkE_known hc z h) fun a b c ka kb g => ho.unk g.1.1
  have lu := (ho.mono s1).chk_few (nodup_of_chk ku asc.nodup)
  walk_at "gg"
  refine make_lotC (ho.mono s1) h1 (by omega) ku asc.nodup (fun a b c ha hb g => (m c).mpr (.step ((m a).mp ha) ((m b).mp hb) g)) (fun a H2 vs s2 n2 lk m2 => ?_)
  exact q hc a H2 vs (s1.trans s2) (n2.pre s1) lk (fun z => (m2 z).trans (m z))
def sp_Lot___contains__ (T : Txt K mg) : Sp := fun vs H Q _ => ∃ (a o : Addr) (us : List Str) (z : Str), vs = [.ref a, .str z] ∧ LotAt T H a o us ∧ Q (.bl (decide (z ∈ us))) H
theorem sp_Lot___contains___len {T : Txt K mg} {vs H Q E} (h : sp_Lot___contains__ T vs H Q E) : vs.length = 2 := by
  obtain ⟨_, _, _, _, rfl, _⟩ := h
  rfl
theorem ok_Lot___contains__ (T : Txt K mg) : FnOk P w K mg base CX0 1 T.f_Lot___contains__ T.fd_Lot___contains__ ["self", "name"] (sp_Lot___contains__ T) := by
  refine T.F_Lot___contains__.ok sc_Lot___contains__ (fun vs H Q E h => sp_Lot___contains___len h) (fun cdv A outer s H vs Q E hr h => ?_)
  refine ⟨_, (pss_one (ps_ret (pe_cmpR (op_inM K P w hr.units (u65 hr)) (pv 1) (k_fld K (pe_fld (pv 0) rfl)) (by rfl)))), ?_⟩
  obtain ⟨a, o, us, z, rfl, ⟨dx, nl, L⟩, q⟩ := h
  refine g_start (σ' := [some (.ref a), some (.str z)]) rfl ?_
  walk_at "gg"
  refine g_kfld L.i T.cl_Lot T.nA_Lot__names rfl ?_
  walk_at "gg"
  refine g_inM (g_inFL L.n rfl (flat_strs _) ?_)
  rw [inV_strs]
  exact q
def sp_Lot___iter__ (T : Txt K mg) : Sp := spIt T.C_Lot "_names"
theorem sp_Lot___iter___len {T : Txt K mg} {vs H Q E} (h : sp_Lot___iter__ T vs H Q E) : vs.length = 1 := by
  obtain ⟨_, _, _, _, _, rfl, _⟩ := h
  rfl
theorem ok_Lot___iter__ (T : Txt K mg) : FnOk P w K mg base CX0 1 T.f_Lot___iter__ T.fd_Lot___iter__ ["self"] (sp_Lot___iter__ T) := by
  refine T.F_Lot___iter__.ok sc_Lot___iter__ (fun vs H Q E h => sp_Lot___iter___len h) (fun cdv A outer s H vs Q E hr h => ?_)
  refine ⟨_, (pss_one (ps_ret (pe_callB (cr_iterK K) (by rfl) T.m_iter (by decide +kernel) (pa_cons (k_fld K (pe_fld (pv 0) rfl)) pa_nil)))), ?_⟩
  obtain ⟨a, dx, fs, l, ys, rfl, ha, lk, hl, q⟩ := h
  refine g_start (σ' := [some (.ref a)]) rfl ?_
  walk_at "gg"
  refine g_kfld ha T.cl_Lot T.nA_Lot__names lk ?_
  walk_at "gg"
  exact g_iter hl q
/-- a list without the members that fail -/
theorem filt_step {f : Str → Bool} {us : List Str} {j : Nat} {z : Str} (hz : us[j]? = some z) : (us.take (j + 1)).filter f = (us.take j).filter f ++ [z].filter f := by
  rw [List.take_add_one, hz, List.filter_append]
  rfl
theorem filt_len {f : Str → Bool} {us : List Str} {j n : Nat} (h : us.length ≤ n) : (((us.take j).filter f).map V.str).length ≤ n := by
  rw [List.length_map]
  have := List.length_filter_le f (us.take j)
  rw [List.length_take] at this
  omega
def sp_Lot_plus (T : Txt K mg) : Sp := fun vs H Q E => ∃ (a o : Addr) (rows : List URow) (us : List Str) (z : Str), vs = [.ref a, .str z] ∧ Ord T H o rows ∧ Rfl rows ∧ LotAt T H a o us ∧ LotOk rows us ∧
  (kn rows z = true → ∀ p H' ws, Same H H' → LotN T H H' p o ws → LotOk rows ws → (∀ y, y ∈ ws ↔ Cl (MB (Un rows)) (fun y => y ∈ us ∨ y = z) y) → Q (.ref p) H') ∧ (kn rows z = false → lost_nm T.C_Unknown H E z)
theorem sp_Lot_plus_len {T : Txt K mg} {vs H Q E} (h : sp_Lot_plus T vs H Q E) : vs.length = 2 := by
  obtain ⟨_, _, _, _, _, rfl, _⟩ := h
  rfl
set_option maxHeartbeats 1000000 in
theorem ok_Lot_plus (T : Txt K mg) : FnOk P w K mg base (L2N.CX P w) 13 T.f_Lot_plus T.fd_Lot_plus ["self", "name"] (sp_Lot_plus T) := by
  refine Fun.okN T.F_Lot_plus sc_Lot_plus (fun vs H Q E h => sp_Lot_plus_len h) (fun cdv A outer s H vs Q E hr h => ?_)
  refine ⟨_, (pss_cons (ps_if (pt_not (pt_val (pe_methW (k_fld K (pe_fld (pv 0) rfl)) T.cl_Order T.M_Order_has (ok_Order_has T) (hr.mono (by decide)) T.b_Order_has (pass0S (E := fun _ => E0)) (pa_cons (pv 1) pa_nil)))) (pss_one (k_raise rfl (L2N.takes_of rfl rfl rfl rfl) (pmk_oexN T.O_Unknown T.iC_Unknown T.tI_Unknown (ok_init_Unknown T) (hr.mono (by decide)) T.bi_Unknown pass0 (by rfl) T.g_Unknown (pa_cons (pv 1) pa_nil)))) pss_nil)
      (pss_cons (ps_if (pt_cmpR (op_inM K P w hr.units (u65 hr)) (pv 1) (k_fld K (pe_fld (pv 0) rfl)) (by rfl)) (pss_one (ps_ret (pe_makeS T.Mk_Lot (ok_Lot___init__ T) (hr.mono (by decide)) (by rfl) T.g_Lot T.b_Lot___init__ (fun σ => L2N.passAt (L2N.takes_of rfl rfl rfl rfl) σ) (pa_cons (k_fld K (pe_fld (pv 0) rfl)) (pa_cons (k_fld K (pe_fld (pv 0) rfl)) pa_nil))))) pss_nil)
      (pss_one (ps_ret (pe_cmethS (pe_gc (v := .ref T.C_Lot) (by rfl) ⟨_, T.g_Lot, rfl⟩) T.CR_Lot T.CM_Lot_over (ok_Lot_over T) (hr.mono (by decide)) T.b_Lot_over (fun σ => L2N.passAt (L2N.takes_of rfl rfl rfl rfl) σ) (pa_cons (k_fld K (pe_fld (pv 0) rfl)) (pa_cons (pe_lst (k_star K (StX.pa_star (k_fld K (pe_fld (pv 0) rfl)) (pa_cons (pv 1) pa_nil)))) pa_nil))))))), ?_⟩
  obtain ⟨a, o, rows, us, z, rfl, ho, rf, ⟨dx, nl, L⟩, lu, q, qe⟩ := h
  refine g_start (σ' := [some (.ref a), some (.str z)]) rfl ?_
  have l61 := ho.chk_few lu.chk
  have h := Has.start H
  obtain ⟨odx, od, onl, okvs, oat, ook⟩ := ho.ex
  walk_at "gg"
  refine g_kfld L.i T.cl_Lot T.nA_Lot__order rfl ?_
  walk_at "gg"
  refine g_kmeth oat.i rfl ?_
  walk_at "gg"
  refine ⟨o, rows, z, rfl, ho, ?_⟩
  cases kz : kn rows z with
  | false =>
    walk_at "gg"
    exact g_mk rfl (by decide) h (fun e H' n' h' => qe kz e H' h'.same n' (h'.get (List.Mem.head _)))
  | true =>
    walk_at "gg"
    refine g_kfld L.i T.cl_Lot T.nA_Lot__names rfl ?_
    walk_at "gg"
    refine g_inM (g_inFL L.n rfl (flat_strs _) ?_)
    rw [inV_strs]
    walk_at "gg"
    refine i_d (fun m => ?_) (fun m => ?_)
    · walk_at "gg"
      refine g_kfld L.i T.cl_Lot T.nA_Lot__order rfl ?_
      walk_at "gg"
      refine g_kfld L.i T.cl_Lot T.nA_Lot__names rfl ?_
      walk_at "gg"
      refine make_lotC ho L.n (by omega) lu.kn lu.asc.nodup lu.cl (fun p H3 ws s3 n3 lk m3 => ?_)
      have e : ws = us := Asc.ext lk.asc lu.asc m3
      subst e
      refine q kz p H3 ws s3 n3 lk (fun y => ⟨fun hy => .base (.inl hy), fun hy => hy.least (fun y hy => ?_) fun a b c ha hb g => lu.cl a b c ha hb g⟩)
      rcases hy with hy | rfl
      · exact hy
      · exact m
    · walk_at "gg"
      refine ⟨rfl, ?_⟩
      walk_at "gg"
      refine g_kfld L.i T.cl_Lot T.nA_Lot__order rfl ?_
      walk_at "gg"
      refine g_kfld L.i T.cl_Lot T.nA_Lot__names rfl ?_
      refine g_kstarL L.n ?_
      walk_at "gg"
      have ea : us.map V.str ++ [V.str z] = (us ++ [z]).map V.str := by rw [List.map_append]; rfl
      rw [ea]
      refine g_klst (sz (by rw [List.length_map, List.length_append]; show _ + 1 ≤ _; omega)) h (fun p3 H3 n3 h3 => ?_)
      walk_at "gg"
      have kg : ∀ y ∈ us ++ [z], kn rows y = true := fun y hy => by
        rcases List.mem_append.mp hy with hy | hy
        · exact lu.kn y hy
        · rw [List.mem_singleton.mp hy]; exact kz
      have ndg : (us ++ [z]).Nodup := by
        rw [List.nodup_append]
        refine ⟨lu.asc.nodup, List.nodup_cons.mpr ⟨fun h => (by cases h), List.nodup_nil⟩, fun x hx y hy e => ?_⟩
        rw [List.mem_singleton.mp hy] at e
        exact m (e ▸ hx)
      have hc := nodup_of_chk kg ndg
      refine ⟨o, p3, rows, _, rfl, ho.mono h3.same, h3.get (List.Mem.head _), by rw [List.length_append]; show _ + 1 ≤ _; omega, rf, fun _ a H4 ws s4 n4 lk m4 => ?_, (fun z e => by rw [hc] at e; cases e), (fun z e => by rw [hc] at e; cases e)⟩
      refine q kz a H4 ws (h3.same.trans s4) (n4.pre h3.same) lk (fun z => (m4 z).trans ?_)
      constructor
      · exact Cl.mono fun y hy => .base ((List.mem_append.mp hy).imp id List.mem_singleton.mp)
      · exact Cl.mono fun y hy => .base (List.mem_append.mpr (hy.imp id List.mem_singleton.mpr))
def sp_Lot_minus (T : Txt K mg) : Sp := fun vs H Q E => ∃ (a o : Addr) (rows : List URow) (us : List Str) (z : Str), vs = [.ref a, .str z] ∧ Ord T H o rows ∧ Rfl rows ∧ LotAt T H a o us ∧ LotOk rows us ∧
  (z ∉ us → lost_nm T.C_Unknown H E z) ∧ (z ∈ us → Nd (MB (Un rows)) us z → lost_nm T.C_Needed H E z) ∧
  (z ∈ us → ¬ Nd (MB (Un rows)) us z → ∀ p H', Same H H' → LotN T H H' p o (us.filter fun x => !decide (x = z)) → LotOk rows (us.filter fun x => !decide (x = z)) → Q (.ref p) H')
theorem sp_Lot_minus_len {T : Txt K mg} {vs H Q E} (h : sp_Lot_minus T vs H Q E) : vs.length = 2 := by
  obtain ⟨_, _, _, _, _, rfl, _⟩ := h
  rfl
set_option maxHeartbeats 1000000 in
theorem ok_Lot_minus (T : Txt K mg) : FnOk P w K mg base (L2N.CX P w) 12 T.f_Lot_minus T.fd_Lot_minus ["self", "name"] (sp_Lot_minus T) := by
  refine Fun.okN T.F_Lot_minus sc_Lot_minus (fun vs H Q E h => sp_Lot_minus_len h) (fun cdv A outer s H vs Q E hr h => ?_)
  refine ⟨_, (pss_cons (ps_if (pt_cmpR (op_notinM K P w hr.units (u65 hr)) (pv 1) (k_fld K (pe_fld (pv 0) rfl)) (by rfl)) (pss_one (k_raise rfl (L2N.takes_of rfl rfl rfl rfl) (pmk_oexN T.O_Unknown T.iC_Unknown T.tI_Unknown (ok_init_Unknown T) (hr.mono (by decide)) T.bi_Unknown pass0 (by rfl) T.g_Unknown (pa_cons (pv 1) pa_nil)))) pss_nil)
      (pss_cons (ps_if (pt_val (pe_call (ok_is_needed T) (hr.mono (by decide)) (by rfl) T.g_is_needed T.F_is_needed.kp T.b_is_needed .nil pass0 (pa_cons (k_fld K (pe_fld (pv 0) rfl)) (pa_cons (k_fld K (pe_fld (pv 0) rfl)) (pa_cons (pv 1) pa_nil))))) (pss_one (k_raise rfl (L2N.takes_of rfl rfl rfl rfl) (pmk_oexN T.O_Needed T.iC_Needed T.tI_Needed (ok_init_Needed T) (hr.mono (by decide)) T.bi_Needed pass0 (by rfl) T.g_Needed (pa_cons (pv 1) pa_nil)))) pss_nil)
      (pss_one (ps_ret (pe_makeS T.Mk_Lot (ok_Lot___init__ T) (hr.mono (by decide)) (by rfl) T.g_Lot T.b_Lot___init__ (fun σ => L2N.passAt (L2N.takes_of rfl rfl rfl rfl) σ) (pa_cons (k_fld K (pe_fld (pv 0) rfl)) (pa_cons (pe_lc (own := [("member", 2)]) (g := gName 2) rfl sc_Lot_minus.nd (k_il K (pi_list (k_fld K (pe_fld (pv 0) rfl)))) (blkOk_by (N := n_Lot_minus) (sc := defScope s_Lot_minus) (by decide +kernel)) (fun _ _ _ _ _ => (pg_name (i := 2) sc_Lot_minus.nd rfl (.inl rfl))) (fun _ _ _ _ _ => (pts_one (pt_cmpR (op_neK K hr.units) (pv 2) (pv 1) (nomark _)))) (fun _ _ _ _ _ => (pv 2))) pa_nil))))))), ?_⟩
  obtain ⟨a, o, rows, us, z, rfl, ho, rf, ⟨dx, nl, L⟩, lu, qu, qn, q⟩ := h
  refine g_start (σ' := [some (.ref a), some (.str z), none]) rfl ?_
  have l60 := ho.chk_few lu.chk
  walk_at "gg"
  refine g_kfld L.i T.cl_Lot T.nA_Lot__names rfl ?_
  walk_at "gg"
  refine g_notinM (g_notinFL L.n rfl (flat_strs _) ?_)
  rw [inV_strs]
  walk_at "gg"
  refine i_n (fun ne => ?_) (fun m => ?_)
  · walk_at "gg"
    exact g_mk rfl (by decide) (Has.start H) (fun e H' n' h' => qu (by simpa using ne) e H' h'.same n' (h'.get (List.Mem.head _)))
  have mz : z ∈ us := by simpa using m
  walk_at "gg"
  refine g_kfld L.i T.cl_Lot T.nA_Lot__order rfl ?_
  walk_at "gg"
  refine g_kfld L.i T.cl_Lot T.nA_Lot__names rfl ?_
  walk_at "gg"
  refine ⟨o, nl, rows, us, z, rfl, ho, L.n, lu.asc.nodup, lu.kn, fun r H1 s1 hr => ?_⟩
  have h := Has.start H1
  walk_at "gg"
  cases r with
  | true =>
    walk_at "gg"
    exact g_mk rfl (by decide) h (fun e H' n' h' => qn mz (hr.mp rfl) e H' (s1.trans h'.same) (s1.free n') (h'.get (List.Mem.head _)))
  | false =>
    have nn : ¬ Nd (MB (Un rows)) us z := fun c => by have := hr.mpr c; cases this
    have L1 := L.mono s1
    walk_at "gg"
    refine g_kfld L1.i T.cl_Lot T.nA_Lot__order rfl ?_
    walk_at "gg"
    refine g_kfld L1.i T.cl_Lot T.nA_Lot__names rfl ?_
    walk_at "gg"
    refine k_lcL L1.n h (fun j acc F' O' => acc = ((us.take j).filter fun x => !decide (x = z)).map V.str ∧ H1 = F' ∧ O' = []) ⟨rfl, rfl, rfl⟩ ?_ ?_ ?_
    · rintro j acc F' O' H2 ⟨_, rfl, rfl⟩ hh
      exact hh.same _ _ L1.n
    · rintro j vv acc F' O' D H2 hv ⟨rfl, rfl, rfl⟩ hh
      obtain ⟨x, hx, rfl⟩ := str_at hv
      walk_at "gg"
      have st := filt_step (f := fun x => !decide (x = z)) hx
      refine i_n (fun ne => ?_) (fun e => ?_)
      · walk_at "gg"
        refine k_turn hh (Nat.le_trans (filt_len l60) (by decide : (60 : Nat) ≤ 100000)) ⟨?_, rfl, rfl⟩
        rw [st, List.map_append, List.filter_cons_of_pos (by simpa using ne)]
        rfl
      · refine k_skip hh ⟨?_, rfl, rfl⟩
        rw [st, List.filter_cons_of_neg (by simpa using e), List.filter_nil, List.append_nil]
    rintro acc F' O' p2 H2 ⟨rfl, rfl, rfl⟩ h2
    rw [List.length_map, List.take_length] at h2
    have mf : ∀ x, x ∈ us.filter (fun x => !decide (x = z)) ↔ x ∈ us ∧ x ≠ z := fun x => by rw [List.mem_filter]; simp
    have lf : LotOk rows (us.filter fun x => !decide (x = z)) := ⟨lu.asc.filter _, fun x hx => lu.kn x ((mf x).mp hx).1, fun a b c ha hb g => (mf c).mpr ⟨lu.cl a b c ((mf a).mp ha).1 ((mf b).mp hb).1 g, fun e => by
      subst e
      have pa := (mf a).mp ha
      have pb := (mf b).mp hb
      refine nn ⟨a, b, pa.1, pb.1, pa.2, pb.2, fun e => ?_, g⟩
      subst e
      exact pa.2 (g.self (rf.un (lu.kn a pa.1))).symm⟩⟩
    have l6 := ho.chk_few lf.chk
    walk_at "gg"
    refine make_lotC (ho.mono (s1.trans h2.same)) (h2.get (List.Mem.head _)) (by omega) lf.kn lf.asc.nodup lf.cl (fun p H3 ws s3 n3 lk m3 => ?_)
    have e : ws = us.filter fun x => !decide (x = z) := Asc.ext lk.asc lf.asc m3
    subst e
    exact q mz nn p H3 ((s1.trans h2.same).trans s3) (n3.pre (s1.trans h2.same)) lf
def sp_joined (T : Txt K mg) : Sp := fun vs H Q _ => ∃ (a p o : Addr) (rows : List URow) (us : List Str) (ls : List (Addr × List Str)), vs = [.ref a, .ref p] ∧ Ord T H o rows ∧ Rfl rows ∧ LotAt T H a o us ∧ LotOk rows us ∧ H p = some (.tup (ls.map fun l => V.ref l.1)) ∧ (∀ l ∈ ls, LotAt T H l.1 o l.2 ∧ LotOk rows l.2) ∧
  ∀ b H' ws, Same H H' → LotN T H H' b o ws → LotOk rows ws → (∀ z, z ∈ ws ↔ Cl (MB (Un rows)) (fun z => z ∈ us ∨ ∃ l ∈ ls, z ∈ l.2) z) → Q (.ref b) H'
theorem sp_joined_len {T : Txt K mg} {vs H Q E} (h : sp_joined T vs H Q E) : vs.length = 2 := by
  obtain ⟨_, _, _, _, _, _, rfl, _⟩ := h
  rfl
set_option maxHeartbeats 1000000 in
theorem ok_joined (T : Txt K mg) : FnR P w K mg base CX0 13 T.f_joined (spV (sp_joined T)) := by
  refine okV T.F_joined T.V_joined sc_joined (fun cdv A outer s H vs Q E hr h => ?_)
  refine ⟨_, (pss_cons (ps_set (i := 2) sc_joined.nd rfl (.inl rfl) (pe_callTy (call_listI (sp := sp_Lot___iter__ T) (EI := E0) ⟨T.M_Lot___iter__.at_, T.M_Lot___iter__.fn, T.nA_Lot___len__, T.nA_Lot___length_hint__⟩ (ok_Lot___iter__ T) T.b_Lot___iter__ pass0 (hr.mono (by decide))) (by rfl) T.m_list (by decide +kernel) (pa_cons (pv 0) pa_nil)))
      (pss_cons (ps_for PassesOwn.never rfl (k_it K (pi_tup (pv 1))) (pg_name (i := 3) sc_joined.nd rfl (.inl rfl)) (pss_one (ps_for PassesOwn.never rfl (k_oi K (pi_ownI (pv 3) ⟨T.M_Lot___iter__.at_, T.M_Lot___iter__.fn⟩ (ok_Lot___iter__ T) T.b_Lot___iter__ pass0 (hr.mono (by decide)))) (pg_name (i := 4) sc_joined.nd rfl (.inl rfl)) (pss_one (ps_if (pt_cmpR (op_notinM K P w hr.units (u65 hr)) (pv 4) (pv 2) (by rfl)) (pss_one (ps_expr (k_bm K (pe_bm PySem.F.plainAttrs_list PySem.F.slot_list_append PySem.F.type_list_append mt_append (pv 2) (pa_cons (pv 4) pa_nil))))) pss_nil)))))
      (pss_one (ps_ret (pe_cmethS (pe_gc (v := .ref T.C_Lot) (by rfl) ⟨_, T.g_Lot, rfl⟩) T.CR_Lot T.CM_Lot_over (ok_Lot_over T) (hr.mono (by decide)) T.b_Lot_over passNS (pa_cons (k_fld K (pe_fld (pv 0) rfl)) (pa_cons (pv 2) pa_nil))))))), ?_⟩
  obtain ⟨a, p, o, rows, us, ls, rfl, ho, rf, ⟨dx, nl, L⟩, lu, hp, al, q⟩ := h
  refine g_start (σ' := [some (.ref a), some (.ref p), none, none, none]) rfl ?_
  have l60 := ho.chk_few lu.chk
  walk_at "gg"
  refine g_listI L.i rfl L.n (by rw [List.length_map]; exact Nat.le_trans l60 (by decide)) (Has.start H) (fun mb H1 n1 h1 => ?_)
  walk_at "gg"
  have bound : ∀ {xs : List Str}, xs.Nodup → (∀ z ∈ xs, kn rows z = true) → xs.length ≤ 60 := fun n k => ho.chk_few (nodup_of_chk k n)
  refine k_forT (h1.same _ _ hp) (fun t σ H' => ∃ (xs : List Str) (y3 y4 : Option V), σ = [some (.ref a), some (.ref p), some (.ref mb), y3, y4] ∧ Has H [(mb, .lst (xs.map V.str))] H' ∧ xs.Nodup ∧ (∀ z ∈ xs, kn rows z = true) ∧ (∀ z, z ∈ xs ↔ z ∈ us ∨ ∃ l ∈ ls.take t, z ∈ l.2)) ⟨us, _, _, rfl, h1, lu.asc.nodup, lu.kn, fun z => by simp⟩ ?_ ?_ ?_
  · rintro t σ H' _ ⟨xs, y3, y4, rfl, h, _⟩
    exact h.same _ _ hp
  · rintro t v σ H2 hv ⟨xs, y3, y4, rfl, h, nd, kx, mx⟩
    rw [List.getElem?_map] at hv
    obtain ⟨l, hl, rfl⟩ := Option.map_eq_some_iff.mp hv
    obtain ⟨⟨dy, ml, M⟩, lm⟩ := al l (List.mem_of_getElem? hl)
    walk_at "gg"
    refine k_forO (M.mono h.same).i rfl (M.mono h.same).n (k_forL (h.same _ _ M.n) (fun j σ H' => ∃ (xs : List Str) (y4 : Option V), σ = [some (.ref a), some (.ref p), some (.ref mb), some (.ref l.1), y4] ∧ Has H [(mb, .lst (xs.map V.str))] H' ∧ xs.Nodup ∧ (∀ z ∈ xs, kn rows z = true) ∧ (∀ z, z ∈ xs ↔ (z ∈ us ∨ ∃ l ∈ ls.take t, z ∈ l.2) ∨ z ∈ l.2.take j)) ⟨xs, _, rfl, h, nd, kx, fun z => by rw [mx z]; simp⟩ ?_ ?_ ?_)
    · rintro j σ H' _ ⟨xs, y4, rfl, h, _⟩
      exact h.same _ _ M.n
    · rintro j v σ H3 hv ⟨xs, y4, rfl, h, nd, kx, mx⟩
      obtain ⟨z, hz, rfl⟩ := str_at hv
      have lx := bound nd kx
      have tk : ∀ y, y ∈ l.2.take (j + 1) ↔ y ∈ l.2.take j ∨ y = z := fun y => by
        rw [List.take_add_one, hz, List.mem_append]
        simp
      walk_at "gg"
      refine g_notinM (g_notinFL (h.get (List.Mem.head _)) rfl (flat_strs _) ?_)
      rw [inV_strs]
      walk_at "gg"
      refine i_n (fun ne => ?_) (fun m => ?_)
      · have nz : z ∉ xs := by simpa using ne
        walk_at "gg"
        refine g_append h .hd (szl (by rw [List.length_map]; omega)) (fun H4 h4 => ?_)
        have e4 : xs.map V.str ++ [V.str z] = (xs ++ [z]).map V.str := by rw [List.map_append]; rfl
        rw [e4] at h4
        refine ⟨xs ++ [z], _, rfl, h4, ?_, fun y hy => ?_, fun y => ?_⟩
        · rw [List.nodup_append]
          refine ⟨nd, List.nodup_cons.mpr ⟨fun h => (by cases h), List.nodup_nil⟩, fun x hx y hy e => ?_⟩
          rw [List.mem_singleton.mp hy] at e
          exact nz (e ▸ hx)
        · rcases List.mem_append.mp hy with hy | hy
          · exact kx y hy
          · rw [List.mem_singleton.mp hy]
            exact lm.kn z (List.mem_of_getElem? hz)
        · rw [List.mem_append, mx y, tk y, List.mem_singleton, or_assoc]
      · have mz : z ∈ xs := by simpa using m
        refine ⟨xs, _, rfl, h, nd, kx, fun y => ?_⟩
        rw [tk y]
        constructor
        · intro hy
          exact ((mx y).mp hy).imp id .inl
        · rintro (hy | hy | rfl)
          · exact (mx y).mpr (.inl hy)
          · exact (mx y).mpr (.inr hy)
          · exact mz
    · rintro σ H3 ⟨xs, y4, rfl, h, nd, kx, mx⟩
      rw [List.length_map, List.take_length] at mx
      refine ⟨xs, _, _, rfl, h, nd, kx, fun z => (mx z).trans ?_⟩
      rw [List.take_add_one, hl, or_assoc]
      refine or_congr_right ?_
      constructor
      · rintro (⟨k, hk, hz⟩ | hz)
        · exact ⟨k, List.mem_append_left _ hk, hz⟩
        · exact ⟨l, List.mem_append_right _ (by simp), hz⟩
      · rintro ⟨k, hk, hz⟩
        rcases List.mem_append.mp hk with hk | hk
        · exact .inl ⟨k, hk, hz⟩
        · have e : k = l := by simpa using hk
          subst e
          exact .inr hz
  · rintro σ H2 ⟨xs, y3, y4, rfl, h, nd, kx, mx⟩
    rw [List.length_map, List.take_length] at mx
    have lx := bound nd kx
    have L2 := L.mono h.same
    walk_at "gg"
    refine ⟨rfl, ?_⟩
    walk_at "gg"
    refine g_kfld L2.i T.cl_Lot T.nA_Lot__order rfl ?_
    walk_at "gg"
    have hc := nodup_of_chk kx nd
    refine ⟨o, mb, rows, xs, rfl, ho.mono h.same, h.get (List.Mem.head _), by omega, rf, fun _ b H3 ws s3 n3 lk m3 => ?_, (fun z e => by rw [hc] at e; cases e), (fun z e => by rw [hc] at e; cases e)⟩
    exact q b H3 ws (h.same.trans s3) (n3.pre h.same) lk (fun z => (m3 z).trans (cl_eq (fun z hz => .base ((mx z).mp hz)) (fun z hz => .base ((mx z).mpr hz)) z))
end

end K29

namespace K29
open PySem PySem.Spec PyProof.Rows L2 Qk
local macro_rules | `(tactic| walk_at "m") => `(tactic| ((repeat (first | exact List.Mem.head _ | apply List.Mem.tail)); done))
local macro_rules | `(tactic| walk_at "h") => `(tactic| first | assumption | exact Has.gF (by assumption) (by assumption) | exact Has.get (by assumption) (by walk_at "m"))
local macro_rules | `(tactic| walk_at "c") => `(tactic| ((repeat (first | exact Chg.hd | apply Chg.tl)); done))
local macro_rules | `(tactic| walk_at "is") => `(tactic| first
  | ((with_reducible refine' is2_non ?gh ?_); (case gh => walk_at "h"))
  | (with_reducible refine is_int_list ?_)
  | (with_reducible refine is_int_tuple ?_)
  | (with_reducible refine is_int_dict ?_)
  | (with_reducible refine is_int_int ?_)
  | (with_reducible refine is_int_bool ?_)
  | (with_reducible refine is_int_str ?_)
  | ((with_reducible refine' is2_int ?gh ?_); (case gh => walk_at "h"))
  | (with_reducible refine is_str_list ?_)
  | (with_reducible refine is_str_tuple ?_)
  | (with_reducible refine is_str_dict ?_)
  | (with_reducible refine is_str_int ?_)
  | (with_reducible refine is_str_bool ?_)
  | (with_reducible refine is_str_str ?_)
  | ((with_reducible refine' is2_str ?gh ?_); (case gh => walk_at "h"))
  | (with_reducible refine is_bool_list ?_)
  | (with_reducible refine is_bool_tuple ?_)
  | (with_reducible refine is_bool_dict ?_)
  | (with_reducible refine is_bool_int ?_)
  | (with_reducible refine is_bool_bool ?_)
  | (with_reducible refine is_bool_str ?_)
  | ((with_reducible refine' is2_bool ?gh ?_); (case gh => walk_at "h"))
  | ((with_reducible refine' is_list_list ?gh ?_); (case gh => walk_at "h"))
  | ((with_reducible refine' is_list_tuple ?gh ?_); (case gh => walk_at "h"))
  | ((with_reducible refine' is_list_dict ?gh ?_); (case gh => walk_at "h"))
  | ((with_reducible refine' is_list_int ?gh ?_); (case gh => walk_at "h"))
  | ((with_reducible refine' is_list_bool ?gh ?_); (case gh => walk_at "h"))
  | ((with_reducible refine' is_list_str ?gh ?_); (case gh => walk_at "h"))
  | ((with_reducible refine' is2_list ?ga ?gb ?_); (case ga => walk_at "h"); (case gb => walk_at "h"))
  | ((with_reducible refine' is_tuple_list ?gh ?_); (case gh => walk_at "h"))
  | ((with_reducible refine' is_tuple_tuple ?gh ?_); (case gh => walk_at "h"))
  | ((with_reducible refine' is_tuple_dict ?gh ?_); (case gh => walk_at "h"))
  | ((with_reducible refine' is_tuple_int ?gh ?_); (case gh => walk_at "h"))
  | ((with_reducible refine' is_tuple_bool ?gh ?_); (case gh => walk_at "h"))
  | ((with_reducible refine' is_tuple_str ?gh ?_); (case gh => walk_at "h"))
  | ((with_reducible refine' is2_tuple ?ga ?gb ?_); (case ga => walk_at "h"); (case gb => walk_at "h"))
  | ((with_reducible refine' is_dict_list ?gh ?_); (case gh => walk_at "h"))
  | ((with_reducible refine' is_dict_tuple ?gh ?_); (case gh => walk_at "h"))
  | ((with_reducible refine' is_dict_dict ?gh ?_); (case gh => walk_at "h"))
  | ((with_reducible refine' is_dict_int ?gh ?_); (case gh => walk_at "h"))
  | ((with_reducible refine' is_dict_bool ?gh ?_); (case gh => walk_at "h"))
  | ((with_reducible refine' is_dict_str ?gh ?_); (case gh => walk_at "h"))
  | ((with_reducible refine' is2_dict ?ga ?gb ?_); (case ga => walk_at "h"); (case gb => walk_at "h")))
local macro_rules | `(tactic| walk_at "g") => `(tactic| first
  | (with_reducible refine g_seq ?_)
  | (with_reducible refine g_asg ?_)
  | ((with_reducible refine g_name ?_); dsimp only [List.set, wipe, List.map])
  | ((with_reducible refine' g_var ?gv ?_); (case gv => exact rfl))
  | (with_reducible refine g_c ?_)
  | (with_reducible refine g_op ?_)
  | (with_reducible refine g_cons ?_)
  | (with_reducible refine g_nil ?_)
  | (with_reducible refine g_cb ?_)
  | (with_reducible refine g_call ?_)
  | (with_reducible refine g_tup ?_)
  | (with_reducible refine g_lst ?_)
  | (with_reducible refine g_bm ?_)
  | (with_reducible refine g_bm0 ?_)
  | ((with_reducible refine' g_kbm ?gh ?_); (case gh => walk_at "h"))
  | (with_reducible refine g_drop ?_)
  | (with_reducible refine g_ret ?_)
  | (with_reducible refine g_retN ?_)
  | (with_reducible refine g_next ?_)
  | (with_reducible refine g_brk ?_)
  | (with_reducible refine g_cont ?_)
  | (with_reducible refine g_if ?_)
  | ((with_reducible refine' g_aug ?gv ?_); (case gv => exact rfl))
  | (with_reducible refine g_ipI ?_)
  | (with_reducible refine g_test ?_)
  | (with_reducible refine g_tB ?_)
  | (with_reducible refine g_kB ?_)
  | (with_reducible refine g_not ?_)
  | (with_reducible refine g_and ?_)
  | (with_reducible refine g_or ?_)
  | (with_reducible refine g_andV ?_)
  | (with_reducible refine g_orV ?_)
  | (with_reducible refine g_notV ?_)
  | (with_reducible refine g_ifE ?_)
  | (with_reducible refine g_addI ?_)
  | (with_reducible refine g_rI0 ?_)
  | (with_reducible refine g_eqI ?_)
  | (with_reducible refine g_eqS ?_)
  | (with_reducible refine g_neI ?_)
  | (with_reducible refine g_neS ?_)
  | (with_reducible refine g_isN ?_)
  | (with_reducible refine g_notN ?_)
  | (with_reducible refine g_int ?_)
  | (with_reducible refine g_max2 ?_)
  | (with_reducible refine g_min2 ?_)
  | ((with_reducible refine' g_lenL ?gh ?_); (case gh => walk_at "h"))
  | (with_reducible refine g_sub ?_)
  | (with_reducible refine g_gcons ?_)
  | (with_reducible refine g_gnil ?_)
  | (with_reducible refine g_un ?_)
  | (with_reducible refine g_rU ?_)
  | (with_reducible refine g_forL ?_)
  | (with_reducible refine g_forS ?_)
  | (with_reducible refine g_forR1 ?_)
  | (with_reducible refine g_forR2 ?_)
  | (with_reducible refine g_forR3 ?_)
  | (with_reducible refine g_lcL ?_)
  | (with_reducible refine g_lcR1 ?_)
  | (with_reducible refine g_lcR2 ?_)
  | (with_reducible refine g_slice ?_)
  | (with_reducible refine g_part ?_)
  | (with_reducible refine g_kOI ?_)
  | (with_reducible refine g_nopart ?_)
  | (with_reducible refine g_yes ?_)
  | ((with_reducible refine' g_wipe ?gv ?_); (case gv => exact rfl))
  | (with_reducible refine iteT ?_)
  | (with_reducible refine iteF ?_)
  | (with_reducible refine i_nf ?_)
  | (with_reducible refine i_nt ?_)
  | ((with_reducible refine' g_gtup ?gh ?gl ?_); (case gh => walk_at "h"); (case gl => exact rfl))
  | ((with_reducible refine' g_notinI ?gh ?_); (case gh => walk_at "h"))
  | ((with_reducible refine' g_inI ?gh ?_); (case gh => walk_at "h"))
  | ((with_reducible refine' g_kget2 ?gh ?_); (case gh => walk_at "h"))
  | ((with_reducible refine' g_kgotI ?gh ?_); (case gh => walk_at "h"))
  | (with_reducible refine g_tRev ?_)
  | (with_reducible refine g_neB ?_)
  | (with_reducible refine g_eqB ?_)
  | ((with_reducible refine' g_lenT ?gh ?_); (case gh => walk_at "h"))
  | (with_reducible refine g_star ?_)
  | ((with_reducible refine' g_kstarL ?gh ?_); (case gh => walk_at "h"))
  | ((with_reducible refine' g_kstarT ?gh ?_); (case gh => walk_at "h"))
  | (with_reducible refine g_tru ?_)
  | ((with_reducible refine' g_truL ?gh ?_); (case gh => walk_at "h"))
  | (with_reducible refine g_get2 ?_)
  | (with_reducible refine g_try ?_)
  | (with_reducible refine g_fld ?_)
  | (with_reducible refine g_sfld ?_)
  | (with_reducible refine g_meth ?_)
  | (with_reducible refine g_make ?_)
  | (with_reducible refine g_del ?_)
  | (with_reducible refine g_callS ?_)
  | (with_reducible refine g_raise ?_)
  | (with_reducible refine g_xf ?_)
  | (with_reducible refine g_m0 ?_)
  | (with_reducible refine g_km0 ?_)
  | walk_at "is")
local macro_rules | `(tactic| walk_at "gg") => `(tactic| repeat walk_at "g")
local macro_rules | `(tactic| walk_at "sz") => `(tactic| (refine sz ?_; simp only [List.length_cons, List.length_nil, List.length_map, List.length_append, List.length_replicate]; omega))
local macro_rules | `(tactic| walk_at "sub") => `(tactic| ((repeat (first | exact List.Sublist.slnil | with_reducible apply List.Sublist.cons_cons | with_reducible apply List.Sublist.cons)); done))

local macro_rules | `(tactic| walk_at "g") => `(tactic| first
  | ((with_reducible refine' g_lenNL ?gh ?_); (case gh => walk_at "h"))
  | ((with_reducible refine' g_lenND ?gh ?_); (case gh => walk_at "h"))
  | ((with_reducible refine' g_lenNT ?gh ?_); (case gh => walk_at "h"))
  | (with_reducible refine g_ltI ?_)
  | (with_reducible refine g_ltS ?_)
  | (with_reducible refine g_lstRg ?_)
  | (with_reducible refine g_forK ?_))

local macro_rules | `(tactic| walk_at "g") => `(tactic| (with_reducible refine g_tryM ?_))

local macro_rules | `(tactic| walk_at "g") => `(tactic| first
  | (with_reducible refine g_lcT ?_)
  | (with_reducible refine g_forT ?_))

local macro_rules | `(tactic| walk_at "g") => `(tactic| first
  | (with_reducible refine g_makeS ?_)
  | ((with_reducible refine' g_makeV ?gv ?_); (case gv => exact rfl))
  | (with_reducible refine g_cmethS ?_))

local macro_rules | `(tactic| walk_at "g") => `(tactic| first
  | (with_reducible refine g_forO ?_))

section
variable {P : Program} {w : World} {K : PySem.W.Frag} {mg : Str → Option Value} {base : Heap}
def sp_l_same_h (K : PySem.W.Frag) : Sp := fun vs H Q _ => ∃ (a b : Str), vs = [.str a, .str b] ∧ Q (.bl (decide (a = b))) H
theorem sp_l_same_h_len {vs H Q E} (h : sp_l_same_h K vs H Q E) : vs.length = 2 := by
  obtain ⟨_, _, rfl, _⟩ := h
  rfl
theorem ok_l_same_h (T : Txt K mg) : L2H.FnH P w K mg base CX0 1 T.f_l_same T.fd_l_same ["told", "due"] (sp_l_same_h K) := by
  refine Fun.okH T.F_l_same sc_l_same (fun vs H Q E h => sp_l_same_h_len h) (fun cdv A outer s H vs Q E p hot hr h => ?_)
  refine ⟨_, (pss_one (ps_ret (pe_and (pe_callB (cr_isK K) (by rfl) T.m_isinstance (by decide +kernel) (pa_cons (pv 0) (pa_cons (pe_bltn (v := .ty "str") (by rfl) T.m_str (by decide +kernel) rfl) pa_nil))) (pe_one (pe_cmpR (op_eqK K hr.units) (pv 0) (pv 1) (nomark _)))))), ?_⟩
  obtain ⟨a, b, rfl, q⟩ := h
  refine g_start (σ' := [some (.str a), some (.str b)]) rfl ?_
  walk_at "gg"
  exact q
def sp_l_is_list_h (K : PySem.W.Frag) : Sp := fun vs H Q _ => ∃ (p d : Addr) (xs : List Str), vs = [.ref p, .ref d] ∧ H p = some (.lst (xs.map V.str)) ∧ H d = some (.lst (xs.map V.str)) ∧ xs.length ≤ 1000 ∧ ∀ H', Same H H' → Q (.bl true) H'
theorem sp_l_is_list_h_len {vs H Q E} (h : sp_l_is_list_h K vs H Q E) : vs.length = 2 := by
  obtain ⟨_, _, _, rfl, _⟩ := h
  rfl
theorem ok_l_is_list_h (T : Txt K mg) : L2H.FnH P w K mg base CX0 2 T.f_l_is_list T.fd_l_is_list ["told", "due"] (sp_l_is_list_h K) := by
  refine Fun.okH T.F_l_is_list sc_l_is_list (fun vs H Q E h => sp_l_is_list_h_len h) (fun cdv A outer s H vs Q E p hot hr h => ?_)
  refine ⟨_, (pss_cons (ps_if (PW.pt (pw_or (pt_not (pt_val (pe_callB (cr_isK K) (by rfl) T.m_isinstance (by decide +kernel) (pa_cons (pv 0) (pa_cons (pe_bltn (v := .ty "list") (by rfl) T.m_list (by decide +kernel) rfl) pa_nil))))) (pw_or1 (pt_cmpR (op_neK K hr.units) (pe_callB (cr_lenN K) (by rfl) T.m_len (by decide +kernel) (pa_cons (pv 0) pa_nil)) (pe_callB (cr_lenN K) (by rfl) T.m_len (by decide +kernel) (pa_cons (pv 1) pa_nil)) (nomark _))))) (pss_one (ps_ret pe_bl)) pss_nil)
      (pss_one (ps_ret (pe_callB (cr_allH K ⟨p, hot, List.mem_singleton.mpr rfl⟩) (by rfl) T.m_all (by decide +kernel) (pa_cons (pe_lcH (own := [("k", 2)]) (g := gName 2) (tt := tYes) ⟨p, hot, List.mem_singleton.mpr rfl⟩ sc_l_is_list.nd (L2H.pi_range1H rfl T.m_range (pa_cons (pe_callB (cr_lenN K) (by rfl) T.m_len (by decide +kernel) (pa_cons (pv 1) pa_nil)) pa_nil)) (blkOk_by (N := n_l_is_list) (sc := defScope s_l_is_list) (by decide +kernel)) (fun _ _ _ _ _ p_ hot_ => (pg_name (i := 2) sc_l_is_list.nd rfl (.inl rfl))) (fun _ _ _ _ _ p_ hot_ => pts_nil) (fun _ _ _ _ _ p_ hot_ => (L2H.pe_callH (E := fun _ => E0) (ok_l_same_h T) (hr.mono (by decide)) ⟨p_, hot_, List.mem_singleton.mpr rfl⟩ (by rfl) T.g_l_same T.F_l_same.kp T.b_l_same (fun _ _ _ _ _ _ _ h => h.elim) (pa_cons (pe_ix (ix_K K (huH hr)) (pv 0) (pv 2) (fun _ _ => rfl)) (pa_cons (pe_ix (ix_K K (huH hr)) (pv 1) (pv 2) (fun _ _ => rfl)) pa_nil))))) pa_nil))))), ?_⟩
  obtain ⟨p, d, xs, rfl, hp, hd, lx, q⟩ := h
  have hH := Has.start H
  refine g_start (σ' := [some (.ref p), some (.ref d), none]) rfl ?_
  walk_at "gg"
  refine i_n (fun c => (c rfl).elim) (fun _ => ?_)
  walk_at "gg"
  rw [List.length_map]
  refine k_lcR1 (by omega) (by omega) hH (fun i acc F' O' => acc = (List.replicate i true).map V.bl ∧ H = F' ∧ O' = []) ⟨rfl, rfl, rfl⟩ ?_ ?_
  · rintro i acc F' O' D H1 hi ⟨rfl, rfl, rfl⟩ hh
    have hi : i < xs.length := by omega
    have ex : xs[i]? = some xs[i] := List.getElem?_eq_getElem hi
    generalize xs[i] = x at ex
    walk_at "gg"
    refine g_ixL (v := .str x) (hh.same _ _ hp) (atI_nat (by rw [List.getElem?_map, ex]; rfl)) ?_
    walk_at "gg"
    refine g_ixL (v := .str x) (hh.same _ _ hd) (atI_nat (by rw [List.getElem?_map, ex]; rfl)) ?_
    walk_at "gg"
    refine ⟨x, x, rfl, ?_⟩
    rw [decide_eq_true rfl]
    refine k_turn hh (by rw [List.length_map, List.length_replicate]; omega) ⟨?_, rfl, rfl⟩
    rw [List.replicate_succ', List.map_append]
    rfl
  rintro acc F' O' p2 H2 ⟨rfl, rfl, rfl⟩ h2
  refine g_all (h2.get (List.Mem.head _)) ?_
  have e : (List.replicate (xs.length : Int).toNat true).all id = true := by
    rw [List.all_eq_true]
    intro b hb
    rw [(List.mem_replicate.mp hb).2]
    rfl
  rw [e]
  exact q H2 h2.same
end

section
variable {P : Program} {w : World} {K : PySem.W.Frag} {mg : Str → Option Value} {base : Heap}
def sp_l_is_needed (T : Txt K mg) : Sp := fun vs H Q _ => ∃ (b s : Addr) (ks : List Str) (M : Str → Str → Str → Prop) (so : List Str) (z : Str), vs = [.ref b, .ref s, .str z] ∧ BaAt H b ks M ∧ H s = some (.lst (so.map V.str)) ∧ (∀ x ∈ so, x ∈ ks) ∧ so.length ≤ 100 ∧
  ∀ r H', Same H H' → (r = true ↔ Nd M so z) → Q (.bl r) H'
theorem sp_l_is_needed_len {T : Txt K mg} {vs H Q E} (h : sp_l_is_needed T vs H Q E) : vs.length = 3 := by
  obtain ⟨_, _, _, _, _, _, rfl, _⟩ := h
  rfl
theorem ok_l_is_needed (T : Txt K mg) : FnOk P w K mg base CX0 1 T.f_l_is_needed T.fd_l_is_needed ["bases", "some", "name"] (sp_l_is_needed T) := by
  refine T.F_l_is_needed.ok sc_l_is_needed (fun vs H Q E h => sp_l_is_needed_len h) (fun cdv A outer s H vs Q E hr h => ?_)
  refine ⟨_, (pss_cons (ps_setLc (i := 3) (own := [("one", 4)]) (g := gName 4) rfl sc_l_is_needed.nd rfl rfl (sw_true rfl rfl rfl (by decide +kernel)) (k_il K (pi_list (pv 1))) (blkOk_by (N := n_l_is_needed) (sc := defScope s_l_is_needed) (by decide +kernel)) (fun _ _ _ _ _ => (pg_name (i := 4) sc_l_is_needed.nd rfl (.inl rfl))) (fun _ _ _ _ _ => (pts_one (pt_cmpR (op_neK K hr.units) (pv 4) (pv 2) (nomark _)))) (fun _ _ _ _ _ => (pv 4)))
      (pss_cons (ps_for PassesOwn.never rfl (k_il K (pi_list (pv 3))) (pg_name (i := 4) sc_l_is_needed.nd rfl (.inl rfl)) (pss_one (ps_for PassesOwn.never rfl (k_il K (pi_list (pv 3))) (pg_name (i := 5) sc_l_is_needed.nd rfl (.inl rfl)) (pss_one (ps_if (PW.pt (pw_and (pt_cmpR (op_neK K hr.units) (pv 4) (pv 5) (nomark _)) (pw_and1 (pt_cmpR (op_inM K P w hr.units (u65 hr)) (pv 2) (pe_ix (ix_K K (hu_of hr)) (pe_ix (ix_K K (hu_of hr)) (pv 0) (pv 4) (fun _ _ => rfl)) (pv 5) (fun _ _ => rfl)) (by rfl))))) (pss_one (ps_ret pe_bl)) pss_nil)))))
      (pss_one (ps_ret pe_bl)))), ?_⟩
  obtain ⟨b, s, ks, M, so, z, rfl, ba, hs, sub, lso, q⟩ := h
  have hH := Has.start H
  refine g_start (σ' := [some (.ref b), some (.ref s), some (.str z), none, none, none]) rfl ?_
  walk_at "gg"
  refine k_lcL hs hH (fun j acc F' O' => acc = ((so.take j).filter fun x => !decide (x = z)).map V.str ∧ H = F' ∧ O' = []) ⟨rfl, rfl, rfl⟩ ?_ ?_ ?_
  · rintro j acc F' O' H2 ⟨_, rfl, rfl⟩ hh
    exact hh.same _ _ hs
  · rintro j vv acc F' O' D H2 hv ⟨rfl, rfl, rfl⟩ hh
    obtain ⟨x, hx, rfl⟩ := str_at hv
    walk_at "gg"
    have st : (so.take (j + 1)).filter (fun x => !decide (x = z)) = (so.take j).filter (fun x => !decide (x = z)) ++ [x].filter (fun x => !decide (x = z)) := by
      rw [List.take_add_one, hx, List.filter_append]
      rfl
    refine i_n (fun ne => ?_) (fun e => ?_)
    · walk_at "gg"
      refine k_turn hh ?_ ⟨?_, rfl, rfl⟩
      · rw [List.length_map]
        have := List.length_filter_le (fun x => !decide (x = z)) (so.take j)
        rw [List.length_take] at this
        omega
      · rw [st, List.map_append, List.filter_cons_of_pos (by simpa using ne)]
        rfl
    · refine k_skip hh ⟨?_, rfl, rfl⟩
      rw [st, List.filter_cons_of_neg (by simpa using e)]
      rw [List.filter_nil, List.append_nil]
  rintro acc F' O' p1 H1 ⟨rfl, rfl, rfl⟩ h1
  rw [List.length_map, List.take_length] at h1
  have mo : ∀ x, x ∈ so.filter (fun x => !decide (x = z)) ↔ x ∈ so ∧ x ≠ z := fun x => by
    rw [List.mem_filter]
    simp
  generalize so.filter (fun x => !decide (x = z)) = os at h1 mo
  have ba1 := ba.mono h1.same
  have hp1 := h1.get (List.Mem.head _)
  have s1 := h1.same
  walk_at "gg"
  refine k_forL hp1 (fun t σ H' => ∃ (y4 y5 : Option V), σ = [some (.ref b), some (.ref s), some (.str z), some (.ref p1), y4, y5] ∧ Same H1 H' ∧ ∀ x y, x ∈ os.take t → y ∈ os → x ≠ y → ¬ M x y z) ⟨_, _, rfl, Same.refl _, fun x y h => by simp at h⟩ ?_ ?_ ?_
  · rintro t σ H' _ ⟨y4, y5, rfl, s2, _⟩
    exact s2 _ _ hp1
  · rintro t xx σ H2 hxx ⟨y4, y5, rfl, s2, m2⟩
    obtain ⟨x, hx, rfl⟩ := str_at hxx
    have xs := List.mem_of_getElem? hx
    walk_at "gg"
    refine k_forL (s2 _ _ hp1) (fun u σ H' => ∃ (y5 : Option V), σ = [some (.ref b), some (.ref s), some (.str z), some (.ref p1), some (.str x), y5] ∧ Same H1 H' ∧ ∀ y, y ∈ os.take u → x ≠ y → ¬ M x y z) ⟨_, rfl, s2, fun y h => by simp at h⟩ ?_ ?_ ?_
    · rintro u σ H' _ ⟨y5, rfl, s3, _⟩
      exact s3 _ _ hp1
    · rintro u yy σ H3 hyy ⟨y5, rfl, s3, m3⟩
      obtain ⟨y, hy, rfl⟩ := str_at hyy
      have ys := List.mem_of_getElem? hy
      have next : (x ≠ y → ¬ M x y z) → ∀ y', y' ∈ os.take (u + 1) → x ≠ y' → ¬ M x y' z := fun h y' hy' => by
        rw [List.take_add_one, hy] at hy'
        rcases List.mem_append.mp hy' with h' | h'
        · exact m3 y' h'
        · have e : y' = y := by simpa using h'
          subst e
          exact h
      obtain ⟨kb, hkb, ekb, bi⟩ := ba1.mono s3
      obtain ⟨d, kv2, vd, hd, rb⟩ := bi x (sub x ((mo x).mp xs).1)
      obtain ⟨l, bs, vl, hl, ascb, mb⟩ := rb y (sub y ((mo y).mp ys).1)
      walk_at "gg"
      refine i_n (fun ne => ?_) (fun e => ?_)
      · walk_at "gg"
        refine g_ixDS hkb vd ?_
        walk_at "gg"
        refine g_ixDS hd vl ?_
        walk_at "gg"
        refine g_inM (g_inFL hl rfl (flat_strs _) ?_)
        rw [inV_strs]
        walk_at "gg"
        refine i_d (fun e => ?_) (fun nm => ?_)
        · walk_at "gg"
          exact q true H3 (s1.trans s3) ⟨fun _ => ⟨x, y, ((mo x).mp xs).1, ((mo y).mp ys).1, ((mo x).mp xs).2, ((mo y).mp ys).2, ne, (mb z).mp e⟩, fun _ => rfl⟩
        · walk_at "gg"
          exact ⟨_, rfl, s3, next fun _ m => nm ((mb z).mpr m)⟩
      · walk_at "gg"
        exact ⟨_, rfl, s3, next fun n => (n e).elim⟩
    · rintro σ H3 ⟨y5, rfl, s3, m3⟩
      rw [List.length_map, List.take_length] at m3
      refine ⟨_, _, rfl, s3, fun x' y hx' hy ne => ?_⟩
      rw [List.take_add_one, hx] at hx'
      rcases List.mem_append.mp hx' with h' | h'
      · exact m2 x' y h' hy ne
      · have e : x' = x := by simpa using h'
        subst e
        exact m3 y hy ne
  rintro σ H2 ⟨y4, y5, rfl, s2, m2⟩
  rw [List.length_map, List.take_length] at m2
  walk_at "gg"
  refine q false H2 (s1.trans s2) ⟨fun h => (by cases h), ?_⟩
  rintro ⟨x, y, hx, hy, nx, ny, nxy, m⟩
  exact (m2 x y ((mo x).mpr ⟨hx, nx⟩) ((mo y).mpr ⟨hy, ny⟩) nxy m).elim
end

/-! ### the law's looks at lots -/
theorem nd_congr {M N : Str → Str → Str → Prop} {so : List Str} (h : ∀ x y z, x ∈ so → y ∈ so → (M x y z ↔ N x y z)) {z : Str} : Nd M so z ↔ Nd N so z := by
  unfold Nd
  constructor
  · rintro ⟨x, y, hx, hy, nx, ny, n, m⟩
    exact ⟨x, y, hx, hy, nx, ny, n, (h x y z hx hy).mp m⟩
  · rintro ⟨x, y, hx, hy, nx, ny, n, m⟩
    exact ⟨x, y, hx, hy, nx, ny, n, (h x y z hx hy).mpr m⟩
section
variable {P : Program} {w : World} {K : PySem.W.Frag} {mg : Str → Option Value} {base : Heap}
theorem eqS_ {K : PySem.W.Frag} {H : Hp} {Q : VK} {a b : Addr} {xs ys : List Str} (ha : H a = some (.lst (xs.map V.str))) (hb : H b = some (.lst (ys.map V.str))) (ox : okL xs) (oy : okL ys) (q : Q (.bl (decide (xs = ys))) H) : rEqA K (.ref a) (.ref b) H Q := by
  refine g_eqD (Dq.strs (xs := xs) ha) (Dq.strs (xs := ys) hb) ((Sh.strs (n := 0) ox).ok (by decide)) ((Sh.strs (n := 0) oy).ok (by decide)) ?_
  rw [eqv_strs]
  exact q
theorem okL_two {x y : Str} (hx : PyData.strOk x = true) (hy : PyData.strOk y = true) : okL [x, y] := okL_app (okL_one hx) (okL_one hy)
def sp_l_is_lot (T : Txt K mg) : Sp := fun vs H Q _ => ∃ (a d n o : Addr) (us ns : List Str), vs = [.ref a, .ref d, .ref n] ∧ LotAt T H a o us ∧ H d = some (.lst (us.map V.str)) ∧ H n = some (.lst (ns.map V.str)) ∧ us.length ≤ 60 ∧ ∀ H', Same H H' → Q (.bl true) H'
theorem sp_l_is_lot_len {T : Txt K mg} {vs H Q E} (h : sp_l_is_lot T vs H Q E) : vs.length = 3 := by
  obtain ⟨_, _, _, _, _, _, rfl, _⟩ := h
  rfl
set_option maxHeartbeats 1000000 in
theorem ok_l_is_lot (T : Txt K mg) : FnOk P w K mg base CX0 5 T.f_l_is_lot T.fd_l_is_lot ["lot", "due", "names"] (sp_l_is_lot T) := by
  refine T.F_l_is_lot.ok sc_l_is_lot (fun vs H Q E h => sp_l_is_lot_len h) (fun cdv A outer s H vs Q E hr h => ?_)
  refine ⟨_, (pss_cons (ps_if (pt_not (pt_val (pe_callB (cr_isI K) (by rfl) T.m_isinstance (by decide +kernel) (pa_cons (pv 0) (pa_cons (pe_gc (v := .ref T.C_Lot) (by rfl) ⟨_, T.g_Lot, rfl⟩) pa_nil))))) (pss_one (ps_ret pe_bl)) pss_nil)
      (pss_cons (ps_setLc (i := 3) (own := [("name", 4)]) (g := gName 4) (tt := tYes) rfl sc_l_is_lot.nd rfl rfl (sw_true rfl rfl rfl (by decide +kernel)) (k_oi K (pi_ownI (pv 0) ⟨T.M_Lot___iter__.at_, T.M_Lot___iter__.fn⟩ (ok_Lot___iter__ T) T.b_Lot___iter__ pass0 (hr.mono (by decide)))) (blkOk_by (N := n_l_is_lot) (sc := defScope s_l_is_lot) (by decide +kernel)) (fun _ _ _ _ _ => (pg_name (i := 4) sc_l_is_lot.nd rfl (.inl rfl))) (fun _ _ _ _ _ => pts_nil) (fun _ _ _ _ _ => (pv 4)))
      (pss_cons (ps_if (PW.pt (pw_or (pt_not (pt_val (pe_call (ok_l_is_list T) (hr.mono (by decide)) (by rfl) T.g_l_is_list T.F_l_is_list.kp T.b_l_is_list .nil pass0 (pa_cons (pv 3) (pa_cons (pv 1) pa_nil))))) (pw_or1 (pt_not (pt_val (pe_call (ok_l_is_list T) (hr.mono (by decide)) (by rfl) T.g_l_is_list T.F_l_is_list.kp T.b_l_is_list .nil pass0 (pa_cons (pe_callTy (call_listI (sp := sp_Lot___iter__ T) (EI := E0) ⟨T.M_Lot___iter__.at_, T.M_Lot___iter__.fn, T.nA_Lot___len__, T.nA_Lot___length_hint__⟩ (ok_Lot___iter__ T) T.b_Lot___iter__ pass0 (hr.mono (by decide))) (by rfl) T.m_list (by decide +kernel) (pa_cons (pv 0) pa_nil)) (pa_cons (pv 1) pa_nil)))))))) (pss_one (ps_ret pe_bl)) pss_nil)
      (pss_cons (ps_for PassesOwn.never rfl (k_il K (pi_list (pv 2))) (pg_name (i := 4) sc_l_is_lot.nd rfl (.inl rfl)) (pss_one (ps_if (pt_cmpR (op_neK K hr.units) (pe_cmpR (op_inD ⟨T.M_Lot___contains__.at_, T.M_Lot___contains__.fn⟩ (ok_Lot___contains__ T) T.b_Lot___contains__ (pass0 : Passes CX0 _ E0) (hr.mono (by decide))) (pv 4) (pv 0) (by rfl)) (pe_cmpR (op_inM K P w hr.units (u65 hr)) (pv 4) (pv 1) (by rfl)) (nomark _)) (pss_one (ps_ret pe_bl)) pss_nil)))
      (pss_one (ps_ret pe_bl)))))), ?_⟩
  obtain ⟨a, d, n, o, us, ns, rfl, ⟨dx, nl, L⟩, hd, hn, l60, q⟩ := h
  refine g_start (σ' := [some (.ref a), some (.ref d), some (.ref n), none, none]) rfl ?_
  have h := Has.start H
  walk_at "gg"
  refine g_isO L.i T.cl_Lot T.ic_Lot ?_
  walk_at "gg"
  refine g_lcO ?_
  walk_at "gg"
  refine k_lcO L.i rfl L.n (k_lcL L.n h (fun i acc F' O' => acc = (us.take i).map V.str ∧ H = F' ∧ O' = []) ⟨rfl, rfl, rfl⟩ ?_ ?_ ?_)
  · rintro i acc F' O' H5 ⟨_, rfl, rfl⟩ hh
    exact hh.same _ _ L.n
  · rintro i x acc F' O' D H5 hx ⟨rfl, rfl, rfl⟩ hh
    obtain ⟨z, hz, rfl⟩ := str_at hx
    walk_at "gg"
    refine k_turn hh (by rw [List.length_map, List.length_take]; omega) ⟨?_, rfl, rfl⟩
    rw [List.take_add_one, hz, List.map_append]
    rfl
  rintro acc F' O' pl H5 ⟨rfl, rfl, rfl⟩ h5
  rw [List.length_map, List.take_length] at h5
  walk_at "gg"
  refine ⟨pl, d, us, rfl, h5.get (List.Mem.head _), h5.same _ _ hd, by omega, fun H6 s6 => ?_⟩
  have h6 := h5.on s6
  have L6 := L.mono h6.same
  walk_at "gg"
  refine g_listI L6.i rfl L6.n (by rw [List.length_map]; exact Nat.le_trans l60 (by decide)) h6 (fun p7 H7 n7 h7 => ?_)
  walk_at "gg"
  refine ⟨p7, d, us, rfl, h7.get (List.Mem.head _), h7.same _ _ hd, by omega, fun H8 s8 => ?_⟩
  have h8 := h7.on s8
  walk_at "gg"
  refine k_forL (h8.same _ _ hn) (fun t σ H' => ∃ (y4 : Option V), σ = [some (.ref a), some (.ref d), some (.ref n), some (.ref pl), y4] ∧ Same H H') ⟨_, rfl, h8.same⟩ ?_ ?_ ?_
  · rintro t σ H' _ ⟨y4, rfl, s⟩
    exact s _ _ hn
  · rintro t x σ H9 hx ⟨y4, rfl, s9⟩
    obtain ⟨z, hz, rfl⟩ := str_at hx
    walk_at "gg"
    have L9 := L.mono s9
    refine ⟨a, dx, _, rfl, L9.i, a, o, us, z, rfl, ⟨dx, nl, L9⟩, _, rfl, ?_⟩
    walk_at "gg"
    refine g_inM (g_inFL (s9 _ _ hd) rfl (flat_strs _) ?_)
    rw [inV_strs]
    walk_at "gg"
    refine i_n (fun c => (c rfl).elim) (fun _ => ?_)
    walk_at "gg"
    exact ⟨_, rfl, s9⟩
  · rintro σ H9 ⟨y4, rfl, s9⟩
    walk_at "gg"
    exact q H9 s9
/-- what is due of a list with a fault -/
def Due29 (rows : List URow) (xs : List Str) (due : List Str) : Prop := ∃ f, chkE (kn rows) [] xs = some f ∧ due = fltL (some f)
theorem over_due {T : Txt K mg} {H : Hp} {Q : VK} {E : XK} {a l : Addr} {rows : List URow} {xs due : List Str} (ho : Ord T H a rows) (rf : Rfl rows) (hl : H l = some (.lst (xs.map V.str))) (few : xs.length ≤ 200) (D : Due29 rows xs due)
    (u : ∀ z' : Str, due = (["unknown", z'] : List Str) → lost_nm T.C_Unknown H E z') (r : ∀ z' : Str, due = (["repeated", z'] : List Str) → lost_nm T.C_Repeated H E z') : sp_Lot_over T [.ref T.C_Lot, .ref a, .ref l] H Q E := by
  obtain ⟨f, ef, ed⟩ := D
  refine ⟨a, l, rows, xs, rfl, ho, hl, few, rf, fun hc => by rw [hc] at ef; (cases ef), fun z e => ?_, fun z e => ?_⟩
  · rw [e] at ef
    injection ef with ef
    subst ef
    exact u z ed
  · rw [e] at ef
    injection ef with ef
    subst ef
    exact r z ed
def sp_l_over_refused (T : Txt K mg) : Sp := fun vs H Q _ => ∃ (a l ft : Addr) (rows : List URow) (xs : List Str) (due : List Str), vs = [.ref a, .ref l, .ref ft] ∧ Ord T H a rows ∧ Rfl rows ∧ H l = some (.lst (xs.map V.str)) ∧ xs.length ≤ 200 ∧ okL xs ∧ Due29 rows xs due ∧ okL due ∧ H ft = some (.lst (due.map V.str)) ∧ ∀ H', Same H H' → Q (.bl true) H'
theorem sp_l_over_refused_len {T : Txt K mg} {vs H Q E} (h : sp_l_over_refused T vs H Q E) : vs.length = 3 := by
  obtain ⟨_, _, _, _, _, _, rfl, _⟩ := h
  rfl
theorem ok_l_over_refused (T : Txt K mg) : FnOk P w K mg base CX0 13 T.f_l_over_refused T.fd_l_over_refused ["order", "handed", "fault"] (sp_l_over_refused T) := by
  refine T.F_l_over_refused.ok sc_l_over_refused (fun vs H Q E h => sp_l_over_refused_len h) (fun cdv A outer s H vs Q E hr h => ?_)
  refine ⟨_, (pss_cons (ps_set (i := 3) sc_l_over_refused.nd rfl (.inl rfl) (pe_callTy (cr_listK K) (by rfl) T.m_list (by decide +kernel) (pa_cons (pv 1) pa_nil)))
      (pss_cons (k_tryM K (i := 4) (Wout := fun _ _ _ _ => False) rfl rfl sc_l_over_refused.nd rfl rfl takesN (fun W pn xe tk hown => (pss_one (ps_expr (pe_cmethS (pe_gc (v := .ref T.C_Lot) (by rfl) ⟨_, T.g_Lot, rfl⟩) T.CR_Lot T.CM_Lot_over (ok_Lot_over T) (hr.mono (by decide)) T.b_Lot_over (fun σ => L2N.passAt tk σ) (pa_cons (pv 0) (pa_cons (pv 1) pa_nil)))))) (Clauses.cons ⟨rfl, by decide, Or.inl T.g_Unknown⟩ (fun a oe cls d pn hz hf => (pss_cons (ps_set (i := 5) sc_l_over_refused.nd rfl (.inl rfl) (pe_and (pe_callB (cr_isX K hz.zc hf) (by rfl) T.m_isinstance (by decide +kernel) (pa_cons (pv 4) (pa_cons (pe_gc (v := .ref T.C_PartError) (by rfl) ⟨_, T.g_PartError, rfl⟩) pa_nil))) (pe_one (pe_callB (cr_isX K hz.zc hf) (by rfl) T.m_isinstance (by decide +kernel) (pa_cons (pv 4) (pa_cons (pe_bltn (v := .ty "ValueError") (by rfl) T.m_ValueError (by decide +kernel) rfl) pa_nil))))))
      (pss_cons (ps_set (i := 5) sc_l_over_refused.nd rfl (.inl rfl) (pe_and (pv 5) (pe_and (pe_not (pe_callB (cr_isXU K hz.zc hf) (by rfl) T.m_isinstance (by decide +kernel) (pa_cons (pv 4) (pa_cons (pe_tup (pa_cons (pe_gc (v := .ref T.C_Repeated) (by rfl) ⟨_, T.g_Repeated, rfl⟩) (pa_cons (pe_gc (v := .ref T.C_Needed) (by rfl) ⟨_, T.g_Needed, rfl⟩) pa_nil))) pa_nil)))) (pe_one (pe_cmpR (op_eqK K hr.units) (pv 1) (pv 3) (nomark _))))))
      (pss_one (ps_ret (pe_and (pv 5) (pe_and (pe_callB (cr_isX K hz.zc hf) (by rfl) T.m_isinstance (by decide +kernel) (pa_cons (pe_xfA K hz.zc hf (pv 4)) (pa_cons (pe_bltn (v := .ty "str") (by rfl) T.m_str (by decide +kernel) rfl) pa_nil))) (pe_one (pe_cmpR (op_eqK K hr.units) (pv 2) (pe_lst (pa_cons pe_str (pa_cons (pe_xfA K hz.zc hf (pv 4)) pa_nil))) (nomark _)))))))))) (Clauses.cons ⟨rfl, by decide, Or.inl T.g_Repeated⟩ (fun a oe cls d pn hz hf => (pss_cons (ps_set (i := 5) sc_l_over_refused.nd rfl (.inl rfl) (pe_and (pe_callB (cr_isX K hz.zc hf) (by rfl) T.m_isinstance (by decide +kernel) (pa_cons (pv 4) (pa_cons (pe_gc (v := .ref T.C_PartError) (by rfl) ⟨_, T.g_PartError, rfl⟩) pa_nil))) (pe_and (pe_callB (cr_isX K hz.zc hf) (by rfl) T.m_isinstance (by decide +kernel) (pa_cons (pv 4) (pa_cons (pe_bltn (v := .ty "ValueError") (by rfl) T.m_ValueError (by decide +kernel) rfl) pa_nil))) (pe_one (pe_cmpR (op_eqK K hr.units) (pv 1) (pv 3) (nomark _))))))
      (pss_one (ps_ret (pe_and (pv 5) (pe_and (pe_callB (cr_isX K hz.zc hf) (by rfl) T.m_isinstance (by decide +kernel) (pa_cons (pe_xfA K hz.zc hf (pv 4)) (pa_cons (pe_bltn (v := .ty "str") (by rfl) T.m_str (by decide +kernel) rfl) pa_nil))) (pe_one (pe_cmpR (op_eqK K hr.units) (pv 2) (pe_lst (pa_cons pe_str (pa_cons (pe_xfA K hz.zc hf (pv 4)) pa_nil))) (nomark _))))))))) .nil)))
      (pss_one (ps_ret pe_bl)))), ?_⟩
  obtain ⟨a, l, ft, rows, xs, due, rfl, ho, rf, hl, lx, okx, D, okd, hft, q⟩ := h
  have hH := Has.start H
  refine g_start (σ' := [some (.ref a), some (.ref l), some (.ref ft), none, none, none]) rfl ?_
  walk_at "gg"
  refine g_listL hl hH (fun p1 H1 n1 h1 => ?_)
  walk_at "gg"
  refine ⟨rfl, ?_⟩
  walk_at "gg"
  refine over_due (ho.mono h1.same) rf (h1.same _ _ hl) (by omega) D ?_ ?_
  · intro z' ed ex H5 s5 nx hx
    subst ed
    refine g_caughtM T.M_Unknown_Unknown (fun exn nxn => ?_)
    have he_ := h1.made nx s5 hx
    walk_at "gg"
    refine g_isX T.IS_Unknown (by walk_at "h") T.K_Unknown_PartError ?_
    walk_at "gg"
    refine g_isXT T.IS_Unknown (by walk_at "h") T.K_Unknown_ValueError ?_
    walk_at "gg"
    refine g_ktup (by walk_at "sz") he_ (fun p5 H5' n5 h5 => ?_)
    walk_at "gg"
    refine g_isXU T.IS_Unknown (by walk_at "h") (h5.get (List.Mem.head _)) T.K_Unknown_Repeated T.K_Unknown_Needed ?_
    rw [show (false || false) = false from rfl]
    walk_at "gg"
    refine eqS_ (xs := xs) (ys := xs) (h5.same _ _ hl) (h5.get (by walk_at "m")) okx okx ?_
    rw [decide_eq_true rfl]
    walk_at "gg"
    refine g_kxf T.XF_Unknown T.N_Unknown_name (by walk_at "h") rfl ?_
    walk_at "gg"
    refine g_isYA (is_str_str ?_)
    walk_at "gg"
    refine g_kxf T.XF_Unknown T.N_Unknown_name (by walk_at "h") rfl ?_
    walk_at "gg"
    refine g_klst (by walk_at "sz") h5 (fun p6 H6 n6 h6 => ?_)
    refine eqS_ (xs := ["unknown", z']) (ys := ["unknown", z']) (h6.same _ _ hft) (h6.get (List.Mem.head _)) okd okd ?_
    rw [decide_eq_true rfl]
    exact q H6 h6.same
  · intro z' ed ex H5 s5 nx hx
    subst ed
    refine g_passM T.M_Repeated_Unknown (g_caughtM T.M_Repeated_Repeated (fun exn nxn => ?_))
    have he_ := h1.made nx s5 hx
    walk_at "gg"
    refine g_isX T.IS_Repeated (by walk_at "h") T.K_Repeated_PartError ?_
    walk_at "gg"
    refine g_isXT T.IS_Repeated (by walk_at "h") T.K_Repeated_ValueError ?_
    walk_at "gg"
    refine eqS_ (xs := xs) (ys := xs) (he_.same _ _ hl) (he_.get (by walk_at "m")) okx okx ?_
    rw [decide_eq_true rfl]
    walk_at "gg"
    refine g_kxf T.XF_Repeated T.N_Repeated_name (by walk_at "h") rfl ?_
    walk_at "gg"
    refine g_isYA (is_str_str ?_)
    walk_at "gg"
    refine g_kxf T.XF_Repeated T.N_Repeated_name (by walk_at "h") rfl ?_
    walk_at "gg"
    refine g_klst (by walk_at "sz") he_ (fun p6 H6 n6 h6 => ?_)
    refine eqS_ (xs := ["repeated", z']) (ys := ["repeated", z']) (h6.same _ _ hft) (h6.get (List.Mem.head _)) okd okd ?_
    rw [decide_eq_true rfl]
    exact q H6 h6.same
def sp_l_refused (T : Txt K mg) : Sp := fun vs H Q _ => ∃ (k : Nat) (a o : Addr) (rows : List URow) (us : List Str) (z wd : Str), vs = [.int (k : Nat), .ref a, .str z, .str wd] ∧ Ord T H o rows ∧ Rfl rows ∧ LotAt T H a o us ∧ LotOk rows us ∧ PyData.strOk z = true ∧
  ((k = 0 ∧ kn rows z = false ∧ wd = "unknown") ∨ (k = 1 ∧ z ∉ us ∧ wd = "unknown") ∨ (k = 1 ∧ z ∈ us ∧ Nd (MB (Un rows)) us z ∧ wd = "needed")) ∧ ∀ H', Same H H' → Q (.bl true) H'
theorem sp_l_refused_len {T : Txt K mg} {vs H Q E} (h : sp_l_refused T vs H Q E) : vs.length = 4 := by
  obtain ⟨_, _, _, _, _, _, _, rfl, _⟩ := h
  rfl
set_option maxHeartbeats 1000000 in
theorem ok_l_refused (T : Txt K mg) : FnOk P w K mg base CX0 14 T.f_l_refused T.fd_l_refused ["kind", "lot", "name", "word"] (sp_l_refused T) := by
  refine T.F_l_refused.ok sc_l_refused (fun vs H Q E h => sp_l_refused_len h) (fun cdv A outer s H vs Q E hr h => ?_)
  refine ⟨_, (pss_cons (k_tryM K (i := 4) (Wout := fun _ _ _ _ => False) rfl rfl sc_l_refused.nd rfl rfl takesN (fun W pn xe tk hown => (pss_one (ps_if (pt_cmpR (op_eqK K hr.units) (pv 0) pe_int (nomark _)) (pss_one (ps_expr (pe_methW (pv 1) T.cl_Lot T.M_Lot_plus (ok_Lot_plus T) (hr.mono (by decide)) T.b_Lot_plus (fun σ => L2N.passAt tk σ) (pa_cons (pv 2) pa_nil)))) (pss_one (ps_expr (pe_methW (pv 1) T.cl_Lot T.M_Lot_minus (ok_Lot_minus T) (hr.mono (by decide)) T.b_Lot_minus (fun σ => L2N.passAt tk σ) (pa_cons (pv 2) pa_nil))))))) (Clauses.cons ⟨rfl, by decide, Or.inl T.g_Unknown⟩ (fun a oe cls d pn hz hf => (pss_cons (ps_set (i := 5) sc_l_refused.nd rfl (.inl rfl) (pe_and (pe_callB (cr_isX K hz.zc hf) (by rfl) T.m_isinstance (by decide +kernel) (pa_cons (pv 4) (pa_cons (pe_gc (v := .ref T.C_PartError) (by rfl) ⟨_, T.g_PartError, rfl⟩) pa_nil))) (pe_one (pe_not (pe_callB (cr_isXU K hz.zc hf) (by rfl) T.m_isinstance (by decide +kernel) (pa_cons (pv 4) (pa_cons (pe_tup (pa_cons (pe_gc (v := .ref T.C_Repeated) (by rfl) ⟨_, T.g_Repeated, rfl⟩) (pa_cons (pe_gc (v := .ref T.C_Needed) (by rfl) ⟨_, T.g_Needed, rfl⟩) pa_nil))) pa_nil)))))))
      (pss_one (ps_ret (pe_and (pv 5) (pe_and (pe_callB (cr_isX K hz.zc hf) (by rfl) T.m_isinstance (by decide +kernel) (pa_cons (pe_xfA K hz.zc hf (pv 4)) (pa_cons (pe_bltn (v := .ty "str") (by rfl) T.m_str (by decide +kernel) rfl) pa_nil))) (pe_one (pe_cmpR (op_eqK K hr.units) (pe_lst (pa_cons (pv 3) (pa_cons (pv 2) pa_nil))) (pe_lst (pa_cons pe_str (pa_cons (pe_xfA K hz.zc hf (pv 4)) pa_nil))) (nomark _))))))))) (Clauses.cons ⟨rfl, by decide, Or.inl T.g_Needed⟩ (fun a oe cls d pn hz hf => (pss_cons (ps_set (i := 5) sc_l_refused.nd rfl (.inl rfl) (pe_and (pe_callB (cr_isX K hz.zc hf) (by rfl) T.m_isinstance (by decide +kernel) (pa_cons (pv 4) (pa_cons (pe_gc (v := .ref T.C_PartError) (by rfl) ⟨_, T.g_PartError, rfl⟩) pa_nil))) (pe_one (pe_callB (cr_isX K hz.zc hf) (by rfl) T.m_isinstance (by decide +kernel) (pa_cons (pv 4) (pa_cons (pe_bltn (v := .ty "ValueError") (by rfl) T.m_ValueError (by decide +kernel) rfl) pa_nil))))))
      (pss_one (ps_ret (pe_and (pv 5) (pe_and (pe_callB (cr_isX K hz.zc hf) (by rfl) T.m_isinstance (by decide +kernel) (pa_cons (pe_xfA K hz.zc hf (pv 4)) (pa_cons (pe_bltn (v := .ty "str") (by rfl) T.m_str (by decide +kernel) rfl) pa_nil))) (pe_one (pe_cmpR (op_eqK K hr.units) (pe_lst (pa_cons (pv 3) (pa_cons (pv 2) pa_nil))) (pe_lst (pa_cons pe_str (pa_cons (pe_xfA K hz.zc hf (pv 4)) pa_nil))) (nomark _))))))))) .nil)))
      (pss_one (ps_ret pe_bl))), ?_⟩
  obtain ⟨k, a, o, rows, us, z, wd, rfl, ho, rf, La, lu, okz, D, q⟩ := h
  refine g_start (σ' := [some (.int (k : Nat)), some (.ref a), some (.str z), some (.str wd), none, none]) rfl ?_
  walk_at "gg"
  obtain ⟨dx, nl, L⟩ := La
  rcases D with ⟨rfl, nk, rfl⟩ | ⟨rfl, nz, rfl⟩ | ⟨rfl, mz, nn, rfl⟩
  · refine i_d (fun _ => ?_) (fun c => (c rfl).elim)
    walk_at "gg"
    refine g_kmeth L.i rfl ?_
    walk_at "gg"
    refine ⟨a, o, rows, us, z, rfl, ho, rf, ⟨dx, nl, L⟩, lu, (fun k => by rw [nk] at k; cases k), fun _ ex H5 s5 nx hx => ?_⟩
    refine g_caughtM T.M_Unknown_Unknown (fun exn nxn => ?_)
    have he_ := (Has.start H).made nx s5 hx
    walk_at "gg"
    refine g_isX T.IS_Unknown (by walk_at "h") T.K_Unknown_PartError ?_
    walk_at "gg"
    refine g_ktup (by walk_at "sz") he_ (fun p5 H5' n5 h5 => ?_)
    walk_at "gg"
    refine g_isXU T.IS_Unknown (by walk_at "h") (h5.get (List.Mem.head _)) T.K_Unknown_Repeated T.K_Unknown_Needed ?_
    rw [show (false || false) = false from rfl]
    walk_at "gg"
    refine g_kxf T.XF_Unknown T.N_Unknown_name (by walk_at "h") rfl ?_
    walk_at "gg"
    refine g_isYA (is_str_str ?_)
    walk_at "gg"
    refine g_klst (by walk_at "sz") h5 (fun p6 H6 n6 h6 => ?_)
    walk_at "gg"
    refine g_kxf T.XF_Unknown T.N_Unknown_name (by walk_at "h") rfl ?_
    walk_at "gg"
    refine g_klst (by walk_at "sz") h6 (fun p7 H7 n7 h7 => ?_)
    refine eqS_ (xs := ["unknown", z]) (ys := ["unknown", z]) (h7.get (by walk_at "m")) (h7.get (List.Mem.head _)) (okL_two (by decide +kernel) okz) (okL_two (by decide +kernel) okz) ?_
    rw [decide_eq_true rfl]
    exact q H7 h7.same
  · refine i_d (fun c => by cases c) (fun _ => ?_)
    walk_at "gg"
    refine g_kmeth L.i rfl ?_
    walk_at "gg"
    refine ⟨a, o, rows, us, z, rfl, ho, rf, ⟨dx, nl, L⟩, lu, fun _ ex H5 s5 nx hx => ?_, fun m => (nz m).elim, fun m => (nz m).elim⟩
    refine g_caughtM T.M_Unknown_Unknown (fun exn nxn => ?_)
    have he_ := (Has.start H).made nx s5 hx
    walk_at "gg"
    refine g_isX T.IS_Unknown (by walk_at "h") T.K_Unknown_PartError ?_
    walk_at "gg"
    refine g_ktup (by walk_at "sz") he_ (fun p5 H5' n5 h5 => ?_)
    walk_at "gg"
    refine g_isXU T.IS_Unknown (by walk_at "h") (h5.get (List.Mem.head _)) T.K_Unknown_Repeated T.K_Unknown_Needed ?_
    rw [show (false || false) = false from rfl]
    walk_at "gg"
    refine g_kxf T.XF_Unknown T.N_Unknown_name (by walk_at "h") rfl ?_
    walk_at "gg"
    refine g_isYA (is_str_str ?_)
    walk_at "gg"
    refine g_klst (by walk_at "sz") h5 (fun p6 H6 n6 h6 => ?_)
    walk_at "gg"
    refine g_kxf T.XF_Unknown T.N_Unknown_name (by walk_at "h") rfl ?_
    walk_at "gg"
    refine g_klst (by walk_at "sz") h6 (fun p7 H7 n7 h7 => ?_)
    refine eqS_ (xs := ["unknown", z]) (ys := ["unknown", z]) (h7.get (by walk_at "m")) (h7.get (List.Mem.head _)) (okL_two (by decide +kernel) okz) (okL_two (by decide +kernel) okz) ?_
    rw [decide_eq_true rfl]
    exact q H7 h7.same
  · refine i_d (fun c => by cases c) (fun _ => ?_)
    walk_at "gg"
    refine g_kmeth L.i rfl ?_
    walk_at "gg"
    refine ⟨a, o, rows, us, z, rfl, ho, rf, ⟨dx, nl, L⟩, lu, fun n => (n mz).elim, fun _ _ ex H5 s5 nx hx => ?_, fun _ n => (n nn).elim⟩
    refine g_passM T.M_Needed_Unknown (g_caughtM T.M_Needed_Needed (fun exn nxn => ?_))
    have he_ := (Has.start H).made nx s5 hx
    walk_at "gg"
    refine g_isX T.IS_Needed (by walk_at "h") T.K_Needed_PartError ?_
    walk_at "gg"
    refine g_isXT T.IS_Needed (by walk_at "h") T.K_Needed_ValueError ?_
    walk_at "gg"
    refine g_kxf T.XF_Needed T.N_Needed_name (by walk_at "h") rfl ?_
    walk_at "gg"
    refine g_isYA (is_str_str ?_)
    walk_at "gg"
    refine g_klst (by walk_at "sz") he_ (fun p6 H6 n6 h6 => ?_)
    walk_at "gg"
    refine g_kxf T.XF_Needed T.N_Needed_name (by walk_at "h") rfl ?_
    walk_at "gg"
    refine g_klst (by walk_at "sz") h6 (fun p7 H7 n7 h7 => ?_)
    refine eqS_ (xs := ["needed", z]) (ys := ["needed", z]) (h7.get (by walk_at "m")) (h7.get (List.Mem.head _)) (okL_two (by decide +kernel) okz) (okL_two (by decide +kernel) okz) ?_
    rw [decide_eq_true rfl]
    exact q H7 h7.same
def sp_l_minus (T : Txt K mg) : Sp := fun vs H Q _ => ∃ (b a s n o : Addr) (rows : List URow) (ks : List Str) (M : Str → Str → Str → Prop) (us ns : List Str), vs = [.ref b, .ref a, .ref s, .ref n] ∧ Ord T H o rows ∧ Rfl rows ∧ BaAt H b ks M ∧ MG ks M ∧ (∀ x y z, x ∈ ks → y ∈ ks → (M x y z ↔ MB (Un rows) x y z)) ∧ (∀ z ∈ us, z ∈ ks) ∧
  LotAt T H a o us ∧ LotOk rows us ∧ H s = some (.lst (us.map V.str)) ∧ H n = some (.lst (ns.map V.str)) ∧ okL ns ∧ ∀ H', Same H H' → Q (.bl true) H'
theorem sp_l_minus_len {T : Txt K mg} {vs H Q E} (h : sp_l_minus T vs H Q E) : vs.length = 4 := by
  obtain ⟨_, _, _, _, _, _, _, _, _, _, rfl, _⟩ := h
  rfl
set_option maxHeartbeats 1000000 in
theorem ok_l_minus (T : Txt K mg) : FnOk P w K mg base CX0 15 T.f_l_minus T.fd_l_minus ["bases", "lot", "some", "names"] (sp_l_minus T) := by
  refine T.F_l_minus.ok sc_l_minus (fun vs H Q E h => sp_l_minus_len h) (fun cdv A outer s H vs Q E hr h => ?_)
  refine ⟨_, (pss_cons (ps_for PassesOwn.never rfl (k_il K (pi_list (pv 3))) (pg_name (i := 4) sc_l_minus.nd rfl (.inl rfl)) (pss_one (ps_if (pt_cmpR (op_notinM K P w hr.units (u65 hr)) (pv 4) (pv 2) (by rfl)) (pss_one (ps_if (pt_not (pt_val (pe_call (ok_l_refused T) (hr.mono (by decide)) (by rfl) T.g_l_refused T.F_l_refused.kp T.b_l_refused .nil pass0 (pa_cons pe_int (pa_cons (pv 1) (pa_cons (pv 4) (pa_cons pe_str pa_nil))))))) (pss_one (ps_ret pe_bl)) pss_nil)) (pss_one (ps_if (pt_val (pe_call (ok_l_is_needed T) (hr.mono (by decide)) (by rfl) T.g_l_is_needed T.F_l_is_needed.kp T.b_l_is_needed .nil pass0 (pa_cons (pv 0) (pa_cons (pv 2) (pa_cons (pv 4) pa_nil))))) (pss_one (ps_if (pt_not (pt_val (pe_call (ok_l_refused T) (hr.mono (by decide)) (by rfl) T.g_l_refused T.F_l_refused.kp T.b_l_refused .nil pass0 (pa_cons pe_int (pa_cons (pv 1) (pa_cons (pv 4) (pa_cons pe_str pa_nil))))))) (pss_one (ps_ret pe_bl)) pss_nil)) (pss_one (ps_if (pt_not (pt_val (pe_call (ok_l_is_lot T) (hr.mono (by decide)) (by rfl) T.g_l_is_lot T.F_l_is_lot.kp T.b_l_is_lot .nil pass0 (pa_cons (pe_methW (pv 1) T.cl_Lot T.M_Lot_minus (ok_Lot_minus T) (hr.mono (by decide)) T.b_Lot_minus passNS (pa_cons (pv 4) pa_nil)) (pa_cons (pe_call (ok_l_lacks T) (hr.mono (by decide)) (by rfl) T.g_l_lacks T.F_l_lacks.kp T.b_l_lacks .nil pass0 (pa_cons (pv 2) (pa_cons (pe_lst (pa_cons (pv 4) pa_nil)) pa_nil))) (pa_cons (pv 3) pa_nil)))))) (pss_one (ps_ret pe_bl)) pss_nil)))))))
      (pss_one (ps_ret pe_bl))), ?_⟩
  obtain ⟨b, a, s, n, o, rows, ks, M, us, ns, rfl, ho, rf, ba, G, hM, sub, La, lu, hs, hn, okn, q⟩ := h
  refine g_start (σ' := [some (.ref b), some (.ref a), some (.ref s), some (.ref n), none]) rfl ?_
  have l60 := ho.chk_few lu.chk
  have hMs : ∀ x y z, x ∈ us → y ∈ us → (M x y z ↔ MB (Un rows) x y z) := fun x y z hx hy => hM x y z (sub x hx) (sub y hy)
  walk_at "gg"
  refine k_forL hn (fun t σ H' => ∃ (y4 : Option V), σ = [some (.ref b), some (.ref a), some (.ref s), some (.ref n), y4] ∧ Same H H') ⟨_, rfl, Same.refl _⟩ ?_ ?_ ?_
  · rintro t σ H' _ ⟨y4, rfl, s1⟩
    exact s1 _ _ hn
  · rintro t x σ H1 hx ⟨y4, rfl, s1⟩
    obtain ⟨z, hz, rfl⟩ := str_at hx
    have okz := okn z (List.mem_of_getElem? hz)
    have hs1 := s1 _ _ hs
    have La1 := La.mono s1
    have ho1 := ho.mono s1
    walk_at "gg"
    refine g_notinM (g_notinFL hs1 rfl (flat_strs _) ?_)
    rw [inV_strs]
    walk_at "gg"
    refine i_n (fun ne => ?_) (fun m => ?_)
    · walk_at "gg"
      refine ⟨1, a, o, rows, us, z, "unknown", rfl, ho1, rf, La1, lu, okz, .inr (.inl ⟨rfl, by simpa using ne, rfl⟩), fun H2 s2 => ?_⟩
      walk_at "gg"
      exact ⟨_, rfl, s1.trans s2⟩
    have mz : z ∈ us := by simpa using m
    walk_at "gg"
    refine ⟨b, s, ks, M, us, z, rfl, ba.mono s1, hs1, sub, by omega, fun r H2 s2 hr => ?_⟩
    have ndi : r = true ↔ Nd (MB (Un rows)) us z := hr.trans (nd_congr hMs)
    have s12 := s1.trans s2
    walk_at "gg"
    cases r with
    | true =>
      walk_at "gg"
      refine ⟨1, a, o, rows, us, z, "needed", rfl, ho.mono s12, rf, La.mono s12, lu, okz, .inr (.inr ⟨rfl, mz, ndi.mp rfl, rfl⟩), fun H3 s3 => ?_⟩
      walk_at "gg"
      exact ⟨_, rfl, s12.trans s3⟩
    | false =>
      have nn : ¬ Nd (MB (Un rows)) us z := fun c => by have := ndi.mpr c; cases this
      obtain ⟨dx, nl, L⟩ := La.mono s12
      walk_at "gg"
      refine g_kmeth L.i rfl ?_
      walk_at "gg"
      refine ⟨a, o, rows, us, z, rfl, ho.mono s12, rf, ⟨dx, nl, L⟩, lu, fun c => (c mz).elim, fun _ c => (nn c).elim, fun _ _ p H3 s3 n3 lk => ?_⟩
      walk_at "gg"
      refine g_klst (by walk_at "sz") (Has.start H3) (fun p4 H4 n4 h4 => ?_)
      have s14 := s12.trans (s3.trans h4.same)
      walk_at "gg"
      refine ⟨s, p4, us, [z], rfl, s14 _ _ hs, h4.get (List.Mem.head _), by omega, fun p5 H5 s5 n5 h5 => ?_⟩
      have ef : us.filter (fun x => !decide (x ∈ [z])) = us.filter (fun x => !decide (x = z)) := by
        congr 1
        funext x
        simp
      rw [ef] at h5
      have l6 := List.length_filter_le (fun x => !decide (x = z)) us
      walk_at "gg"
      refine ⟨p, p5, n, o, _, ns, rfl, (n3.at.mono h4.same).mono s5, h5, (s14.trans s5) _ _ hn, by omega, fun H6 s6 => ?_⟩
      walk_at "gg"
      exact ⟨_, rfl, (s14.trans s5).trans s6⟩
  · rintro σ H1 ⟨y4, rfl, s1⟩
    walk_at "gg"
    exact q H1 s1
def sp_l_stay (T : Txt K mg) : Sp := fun vs H Q _ => ∃ (l d n o a0 a1 a2 d0 d1 d2 : Addr) (u0 u1 u2 ns : List Str), vs = [.ref l, .ref d, .ref n] ∧ H l = some (.lst [.ref a0, .ref a1, .ref a2]) ∧ H d = some (.lst [.ref d0, .ref d1, .ref d2]) ∧ H n = some (.lst (ns.map V.str)) ∧ LotAt T H a0 o u0 ∧ LotAt T H a1 o u1 ∧ LotAt T H a2 o u2 ∧
  H d0 = some (.lst (u0.map V.str)) ∧ H d1 = some (.lst (u1.map V.str)) ∧ H d2 = some (.lst (u2.map V.str)) ∧ u0.length ≤ 60 ∧ u1.length ≤ 60 ∧ u2.length ≤ 60 ∧ ∀ H', Same H H' → Q (.bl true) H'
theorem sp_l_stay_len {T : Txt K mg} {vs H Q E} (h : sp_l_stay T vs H Q E) : vs.length = 3 := by
  obtain ⟨_, _, _, _, _, _, _, _, _, _, _, _, _, _, rfl, _⟩ := h
  rfl
set_option maxHeartbeats 1000000 in
theorem ok_l_stay (T : Txt K mg) : FnOk P w K mg base CX0 6 T.f_l_stay T.fd_l_stay ["lots", "due", "names"] (sp_l_stay T) := by
  refine T.F_l_stay.ok sc_l_stay (fun vs H Q E h => sp_l_stay_len h) (fun cdv A outer s H vs Q E hr h => ?_)
  refine ⟨_, (pss_cons (ps_for PassesOwn.never rfl (pi_range1 rfl T.m_range (pa_cons pe_int pa_nil)) (pg_name (i := 3) sc_l_stay.nd rfl (.inl rfl)) (pss_one (ps_if (pt_not (pt_val (pe_call (ok_l_is_lot T) (hr.mono (by decide)) (by rfl) T.g_l_is_lot T.F_l_is_lot.kp T.b_l_is_lot .nil pass0 (pa_cons (pe_ix (ix_K K (hu_of hr)) (pv 0) (pv 3) (fun _ _ => rfl)) (pa_cons (pe_ix (ix_K K (hu_of hr)) (pv 1) (pv 3) (fun _ _ => rfl)) (pa_cons (pv 2) pa_nil)))))) (pss_one (ps_ret pe_bl)) pss_nil)))
      (pss_one (ps_ret pe_bl))), ?_⟩
  obtain ⟨l, d, n, o, a0, a1, a2, d0, d1, d2, u0, u1, u2, ns, rfl, hl, hd, hn, L0, L1, L2, h0, h1, h2, l0, l1, l2, q⟩ := h
  refine g_start (σ' := [some (.ref l), some (.ref d), some (.ref n), none]) rfl ?_
  walk_at "gg"
  refine k_forR1 (fun t σ H' => ∃ (y3 : Option V), σ = [some (.ref l), some (.ref d), some (.ref n), y3] ∧ Same H H') (by decide) (by decide) ⟨_, rfl, Same.refl _⟩ ?_ ?_
  · rintro t σ H1 ht ⟨y3, rfl, s1⟩
    have key : ∃ a p us, [V.ref a0, .ref a1, .ref a2][t]? = some (.ref a) ∧ [V.ref d0, .ref d1, .ref d2][t]? = some (.ref p) ∧ LotAt T H a o us ∧ H p = some (.lst (us.map V.str)) ∧ us.length ≤ 60 := by
      match t, ht with
      | 0, _ => exact ⟨a0, d0, u0, rfl, rfl, L0, h0, l0⟩
      | 1, _ => exact ⟨a1, d1, u1, rfl, rfl, L1, h1, l1⟩
      | 2, _ => exact ⟨a2, d2, u2, rfl, rfl, L2, h2, l2⟩
    obtain ⟨a, p, us, ea, ep, L, hp, l6⟩ := key
    walk_at "gg"
    refine g_ixL (v := .ref a) (s1 _ _ hl) (atI_nat ea) ?_
    walk_at "gg"
    refine g_ixL (v := .ref p) (s1 _ _ hd) (atI_nat ep) ?_
    walk_at "gg"
    refine ⟨a, p, n, o, us, ns, rfl, L.mono s1, s1 _ _ hp, s1 _ _ hn, l6, fun H2 s2 => ?_⟩
    walk_at "gg"
    exact ⟨_, rfl, s1.trans s2⟩
  · rintro σ H1 ⟨y3, rfl, s1⟩
    walk_at "gg"
    exact q H1 s1
end

end K29

namespace K29
open PySem PySem.Spec PyProof.Rows L2 Qk
local macro_rules | `(tactic| walk_at "m") => `(tactic| ((repeat (first | exact List.Mem.head _ | apply List.Mem.tail)); done))
local macro_rules | `(tactic| walk_at "h") => `(tactic| first | assumption | exact Has.gF (by assumption) (by assumption) | exact Has.get (by assumption) (by walk_at "m"))
local macro_rules | `(tactic| walk_at "c") => `(tactic| ((repeat (first | exact Chg.hd | apply Chg.tl)); done))
local macro_rules | `(tactic| walk_at "is") => `(tactic| first
  | ((with_reducible refine' is2_non ?gh ?_); (case gh => walk_at "h"))
  | (with_reducible refine is_int_list ?_)
  | (with_reducible refine is_int_tuple ?_)
  | (with_reducible refine is_int_dict ?_)
  | (with_reducible refine is_int_int ?_)
  | (with_reducible refine is_int_bool ?_)
  | (with_reducible refine is_int_str ?_)
  | ((with_reducible refine' is2_int ?gh ?_); (case gh => walk_at "h"))
  | (with_reducible refine is_str_list ?_)
  | (with_reducible refine is_str_tuple ?_)
  | (with_reducible refine is_str_dict ?_)
  | (with_reducible refine is_str_int ?_)
  | (with_reducible refine is_str_bool ?_)
  | (with_reducible refine is_str_str ?_)
  | ((with_reducible refine' is2_str ?gh ?_); (case gh => walk_at "h"))
  | (with_reducible refine is_bool_list ?_)
  | (with_reducible refine is_bool_tuple ?_)
  | (with_reducible refine is_bool_dict ?_)
  | (with_reducible refine is_bool_int ?_)
  | (with_reducible refine is_bool_bool ?_)
  | (with_reducible refine is_bool_str ?_)
  | ((with_reducible refine' is2_bool ?gh ?_); (case gh => walk_at "h"))
  | ((with_reducible refine' is_list_list ?gh ?_); (case gh => walk_at "h"))
  | ((with_reducible refine' is_list_tuple ?gh ?_); (case gh => walk_at "h"))
  | ((with_reducible refine' is_list_dict ?gh ?_); (case gh => walk_at "h"))
  | ((with_reducible refine' is_list_int ?gh ?_); (case gh => walk_at "h"))
  | ((with_reducible refine' is_list_bool ?gh ?_); (case gh => walk_at "h"))
  | ((with_reducible refine' is_list_str ?gh ?_); (case gh => walk_at "h"))
  | ((with_reducible refine' is2_list ?ga ?gb ?_); (case ga => walk_at "h"); (case gb => walk_at "h"))
  | ((with_reducible refine' is_tuple_list ?gh ?_); (case gh => walk_at "h"))
  | ((with_reducible refine' is_tuple_tuple ?gh ?_); (case gh => walk_at "h"))
  | ((with_reducible refine' is_tuple_dict ?gh ?_); (case gh => walk_at "h"))
  | ((with_reducible refine' is_tuple_int ?gh ?_); (case gh => walk_at "h"))
  | ((with_reducible refine' is_tuple_bool ?gh ?_); (case gh => walk_at "h"))
  | ((with_reducible refine' is_tuple_str ?gh ?_); (case gh => walk_at "h"))
  | ((with_reducible refine' is2_tuple ?ga ?gb ?_); (case ga => walk_at "h"); (case gb => walk_at "h"))
  | ((with_reducible refine' is_dict_list ?gh ?_); (case gh => walk_at "h"))
  | ((with_reducible refine' is_dict_tuple ?gh ?_); (case gh => walk_at "h"))
  | ((with_reducible refine' is_dict_dict ?gh ?_); (case gh => walk_at "h"))
  | ((with_reducible refine' is_dict_int ?gh ?_); (case gh => walk_at "h"))
  | ((with_reducible refine' is_dict_bool ?gh ?_); (case gh => walk_at "h"))
  | ((with_reducible refine' is_dict_str ?gh ?_); (case gh => walk_at "h"))
  | ((with_reducible refine' is2_dict ?ga ?gb ?_); (case ga => walk_at "h"); (case gb => walk_at "h")))
local macro_rules | `(tactic| walk_at "g") => `(tactic| first
  | (with_reducible refine g_seq ?_)
  | (with_reducible refine g_asg ?_)
  | ((with_reducible refine g_name ?_); dsimp only [List.set, wipe, List.map])
  | ((with_reducible refine' g_var ?gv ?_); (case gv => exact rfl))
  | (with_reducible refine g_c ?_)
  | (with_reducible refine g_op ?_)
  | (with_reducible refine g_cons ?_)
  | (with_reducible refine g_nil ?_)
  | (with_reducible refine g_cb ?_)
  | (with_reducible refine g_call ?_)
  | (with_reducible refine g_tup ?_)
  | (with_reducible refine g_lst ?_)
  | (with_reducible refine g_bm ?_)
  | (with_reducible refine g_bm0 ?_)
  | ((with_reducible refine' g_kbm ?gh ?_); (case gh => walk_at "h"))
  | (with_reducible refine g_drop ?_)
  | (with_reducible refine g_ret ?_)
  | (with_reducible refine g_retN ?_)
  | (with_reducible refine g_next ?_)
  | (with_reducible refine g_brk ?_)
  | (with_reducible refine g_cont ?_)
  | (with_reducible refine g_if ?_)
  | ((with_reducible refine' g_aug ?gv ?_); (case gv => exact rfl))
  | (with_reducible refine g_ipI ?_)
  | (with_reducible refine g_test ?_)
  | (with_reducible refine g_tB ?_)
  | (with_reducible refine g_kB ?_)
  | (with_reducible refine g_not ?_)
  | (with_reducible refine g_and ?_)
  | (with_reducible refine g_or ?_)
  | (with_reducible refine g_andV ?_)
  | (with_reducible refine g_orV ?_)
  | (with_reducible refine g_notV ?_)
  | (with_reducible refine g_ifE ?_)
  | (with_reducible refine g_addI ?_)
  | (with_reducible refine g_rI0 ?_)
  | (with_reducible refine g_eqI ?_)
  | (with_reducible refine g_eqS ?_)
  | (with_reducible refine g_neI ?_)
  | (with_reducible refine g_neS ?_)
  | (with_reducible refine g_isN ?_)
  | (with_reducible refine g_notN ?_)
  | (with_reducible refine g_int ?_)
  | (with_reducible refine g_max2 ?_)
  | (with_reducible refine g_min2 ?_)
  | ((with_reducible refine' g_lenL ?gh ?_); (case gh => walk_at "h"))
  | (with_reducible refine g_sub ?_)
  | (with_reducible refine g_gcons ?_)
  | (with_reducible refine g_gnil ?_)
  | (with_reducible refine g_un ?_)
  | (with_reducible refine g_rU ?_)
  | (with_reducible refine g_forL ?_)
  | (with_reducible refine g_forS ?_)
  | (with_reducible refine g_forR1 ?_)
  | (with_reducible refine g_forR2 ?_)
  | (with_reducible refine g_forR3 ?_)
  | (with_reducible refine g_lcL ?_)
  | (with_reducible refine g_lcR1 ?_)
  | (with_reducible refine g_lcR2 ?_)
  | (with_reducible refine g_slice ?_)
  | (with_reducible refine g_part ?_)
  | (with_reducible refine g_kOI ?_)
  | (with_reducible refine g_nopart ?_)
  | (with_reducible refine g_yes ?_)
  | ((with_reducible refine' g_wipe ?gv ?_); (case gv => exact rfl))
  | (with_reducible refine iteT ?_)
  | (with_reducible refine iteF ?_)
  | (with_reducible refine i_nf ?_)
  | (with_reducible refine i_nt ?_)
  | ((with_reducible refine' g_gtup ?gh ?gl ?_); (case gh => walk_at "h"); (case gl => exact rfl))
  | ((with_reducible refine' g_notinI ?gh ?_); (case gh => walk_at "h"))
  | ((with_reducible refine' g_inI ?gh ?_); (case gh => walk_at "h"))
  | ((with_reducible refine' g_kget2 ?gh ?_); (case gh => walk_at "h"))
  | ((with_reducible refine' g_kgotI ?gh ?_); (case gh => walk_at "h"))
  | (with_reducible refine g_tRev ?_)
  | (with_reducible refine g_neB ?_)
  | (with_reducible refine g_eqB ?_)
  | ((with_reducible refine' g_lenT ?gh ?_); (case gh => walk_at "h"))
  | (with_reducible refine g_star ?_)
  | ((with_reducible refine' g_kstarL ?gh ?_); (case gh => walk_at "h"))
  | ((with_reducible refine' g_kstarT ?gh ?_); (case gh => walk_at "h"))
  | (with_reducible refine g_tru ?_)
  | ((with_reducible refine' g_truL ?gh ?_); (case gh => walk_at "h"))
  | (with_reducible refine g_get2 ?_)
  | (with_reducible refine g_try ?_)
  | (with_reducible refine g_fld ?_)
  | (with_reducible refine g_sfld ?_)
  | (with_reducible refine g_meth ?_)
  | (with_reducible refine g_make ?_)
  | (with_reducible refine g_del ?_)
  | (with_reducible refine g_callS ?_)
  | (with_reducible refine g_raise ?_)
  | (with_reducible refine g_xf ?_)
  | (with_reducible refine g_m0 ?_)
  | (with_reducible refine g_km0 ?_)
  | walk_at "is")
local macro_rules | `(tactic| walk_at "gg") => `(tactic| repeat walk_at "g")
local macro_rules | `(tactic| walk_at "sz") => `(tactic| (refine sz ?_; simp only [List.length_cons, List.length_nil, List.length_map, List.length_append, List.length_replicate]; omega))
local macro_rules | `(tactic| walk_at "sub") => `(tactic| ((repeat (first | exact List.Sublist.slnil | with_reducible apply List.Sublist.cons_cons | with_reducible apply List.Sublist.cons)); done))

local macro_rules | `(tactic| walk_at "g") => `(tactic| first
  | ((with_reducible refine' g_lenNL ?gh ?_); (case gh => walk_at "h"))
  | ((with_reducible refine' g_lenND ?gh ?_); (case gh => walk_at "h"))
  | ((with_reducible refine' g_lenNT ?gh ?_); (case gh => walk_at "h"))
  | (with_reducible refine g_ltI ?_)
  | (with_reducible refine g_ltS ?_)
  | (with_reducible refine g_lstRg ?_)
  | (with_reducible refine g_forK ?_))

local macro_rules | `(tactic| walk_at "g") => `(tactic| (with_reducible refine g_tryM ?_))

local macro_rules | `(tactic| walk_at "g") => `(tactic| first
  | (with_reducible refine g_lcT ?_)
  | (with_reducible refine g_forT ?_))

local macro_rules | `(tactic| walk_at "g") => `(tactic| first
  | (with_reducible refine g_makeS ?_)
  | ((with_reducible refine' g_makeV ?gv ?_); (case gv => exact rfl))
  | (with_reducible refine g_cmethS ?_))

local macro_rules | `(tactic| walk_at "g") => `(tactic| first
  | (with_reducible refine g_forO ?_))

/-! ### the law's joins -/
theorem fill_mem {x u : List Str} : ∀ z, z ∈ x ++ u.filter (fun z => !decide (z ∈ x)) ↔ z ∈ x ∨ z ∈ u := fun z => by
  rw [List.mem_append, List.mem_filter]
  by_cases c : z ∈ x <;> simp [c]
theorem fill_nd {x u : List Str} (n : x.Nodup) (m : u.Nodup) : (x ++ u.filter (fun z => !decide (z ∈ x))).Nodup := by
  rw [List.nodup_append]
  refine ⟨n, m.sublist List.filter_sublist, fun a ha b hb e => ?_⟩
  have := (List.mem_filter.mp hb).2
  rw [← e] at this
  simp [ha] at this
theorem LotOk.self {rows : List URow} {us : List Str} (lk : LotOk rows us) (z : Str) : z ∈ us ↔ Cl (MB (Un rows)) (fun z => z ∈ us) z := ⟨fun h => .base h, fun h => h.least (C := fun z => z ∈ us) (fun _ h => h) lk.cl⟩
section
variable {P : Program} {w : World} {K : PySem.W.Frag} {mg : Str → Option Value} {base : Heap}
def sp_l_joined (T : Txt K mg) : Sp := fun vs H Q _ => ∃ (b l d n o a0 a1 a2 d0 d1 d2 : Addr) (rows : List URow) (ks : List Str) (M : Str → Str → Str → Prop) (u0 u1 u2 ns : List Str), vs = [.ref b, .ref l, .ref d, .ref n] ∧ Ord T H o rows ∧ Rfl rows ∧ BaAt H b ks M ∧ MG ks M ∧ (∀ x y z, x ∈ ks → y ∈ ks → (M x y z ↔ MB (Un rows) x y z)) ∧
  (∀ z ∈ u0, z ∈ ks) ∧ (∀ z ∈ u1, z ∈ ks) ∧ (∀ z ∈ u2, z ∈ ks) ∧ H l = some (.lst [.ref a0, .ref a1, .ref a2]) ∧ H d = some (.lst [.ref d0, .ref d1, .ref d2]) ∧ H n = some (.lst (ns.map V.str)) ∧ LotAt T H a0 o u0 ∧ LotAt T H a1 o u1 ∧ LotAt T H a2 o u2 ∧ LotOk rows u0 ∧ LotOk rows u1 ∧ LotOk rows u2 ∧
  H d0 = some (.lst (u0.map V.str)) ∧ H d1 = some (.lst (u1.map V.str)) ∧ H d2 = some (.lst (u2.map V.str)) ∧ ∀ H', Same H H' → Q (.bl true) H'
theorem sp_l_joined_len {T : Txt K mg} {vs H Q E} (h : sp_l_joined T vs H Q E) : vs.length = 4 := by
  obtain ⟨_, _, _, _, _, _, _, _, _, _, _, _, _, _, _, _, _, _, rfl, _⟩ := h
  rfl
/-- joined, as the law calls it -/
theorem join_ok {T : Txt K mg} {H : Hp} {Q : VK} {E : XK} {o a : Addr} {rows : List URow} {us : List Str} {ls : List (Addr × List Str)} (ho : Ord T H o rows) (rf : Rfl rows) (L : LotAt T H a o us) (lu : LotOk rows us) (al : ∀ l ∈ ls, LotAt T H l.1 o l.2 ∧ LotOk rows l.2) (n : (ls.map fun l => V.ref l.1).length ≤ 5)
    (q : ∀ b H' ws, Same H H' → LotN T H H' b o ws → LotOk rows ws → (∀ z, z ∈ ws ↔ Cl (MB (Un rows)) (fun z => z ∈ us ∨ ∃ l ∈ ls, z ∈ l.2) z) → Q (.ref b) H') : spV (sp_joined T) (.ref a :: ls.map fun l => V.ref l.1) H Q E := by
  refine ⟨.ref a, _, rfl, n, fun p np => ?_⟩
  have s := same_upd (o := HO.tup (ls.map fun l => V.ref l.1)) np
  exact ⟨a, p, o, rows, us, ls, rfl, ho.mono s, rf, L.mono s, lu, upd_same, fun l hl => ⟨(al l hl).1.mono s, (al l hl).2⟩, fun b H' ws s' n' lk m => q b H' ws (s.trans s') (n'.pre s) lk m⟩
set_option maxHeartbeats 2000000 in
theorem ok_l_joined (T : Txt K mg) : FnOk P w K mg base CX0 14 T.f_l_joined T.fd_l_joined ["bases", "lots", "some", "names"] (sp_l_joined T) := by
  refine T.F_l_joined.ok sc_l_joined (fun vs H Q E h => sp_l_joined_len h) (fun cdv A outer s H vs Q E hr h => ?_)
  refine ⟨_, (pss_cons (ps_asg (pv 1) (k_gu K (pg_unl (by rfl) (pgs_cons (pg_name (i := 4) sc_l_joined.nd rfl (.inl rfl)) (pgs_cons (pg_name (i := 5) sc_l_joined.nd rfl (.inl rfl)) (pgs_cons (pg_name (i := 6) sc_l_joined.nd rfl (.inl rfl)) pgs_nil))))))
      (pss_cons (ps_set (i := 7) sc_l_joined.nd rfl (.inl rfl) (pe_op (op_addK K) (pe_ix (ix_K K (hu_of hr)) (pv 2) pe_int (fun _ _ => rfl)) (pe_call (ok_l_lacks T) (hr.mono (by decide)) (by rfl) T.g_l_lacks T.F_l_lacks.kp T.b_l_lacks .nil pass0 (pa_cons (pe_ix (ix_K K (hu_of hr)) (pv 2) pe_int (fun _ _ => rfl)) (pa_cons (pe_ix (ix_K K (hu_of hr)) (pv 2) pe_int (fun _ _ => rfl)) pa_nil)))))
      (pss_cons (ps_set (i := 8) sc_l_joined.nd rfl (.inl rfl) (pe_call (ok_l_closure T) (hr.mono (by decide)) (by rfl) T.g_l_closure T.F_l_closure.kp T.b_l_closure .nil pass0 (pa_cons (pv 0) (pa_cons (pe_op (op_addK K) (pv 7) (pe_call (ok_l_lacks T) (hr.mono (by decide)) (by rfl) T.g_l_lacks T.F_l_lacks.kp T.b_l_lacks .nil pass0 (pa_cons (pe_ix (ix_K K (hu_of hr)) (pv 2) pe_int (fun _ _ => rfl)) (pa_cons (pv 7) pa_nil)))) pa_nil))))
      (pss_cons (ps_if (pt_not (pt_val (pe_call (ok_l_is_lot T) (hr.mono (by decide)) (by rfl) T.g_l_is_lot T.F_l_is_lot.kp T.b_l_is_lot .nil pass0 (pa_cons (pe_callFR (ok_joined T) (hr.mono (by decide)) (by rfl) T.g_joined T.F_joined.kp (pass0 : Passes CX0 _ E0) (pa_cons (pv 4) pa_nil)) (pa_cons (pe_ix (ix_K K (hu_of hr)) (pv 2) pe_int (fun _ _ => rfl)) (pa_cons (pv 3) pa_nil)))))) (pss_one (ps_ret pe_bl)) pss_nil)
      (pss_cons (ps_if (pt_not (pt_val (pe_call (ok_l_is_lot T) (hr.mono (by decide)) (by rfl) T.g_l_is_lot T.F_l_is_lot.kp T.b_l_is_lot .nil pass0 (pa_cons (pe_callFR (ok_joined T) (hr.mono (by decide)) (by rfl) T.g_joined T.F_joined.kp (pass0 : Passes CX0 _ E0) (pa_cons (pv 4) (pa_cons (pv 5) pa_nil))) (pa_cons (pe_call (ok_l_closure T) (hr.mono (by decide)) (by rfl) T.g_l_closure T.F_l_closure.kp T.b_l_closure .nil pass0 (pa_cons (pv 0) (pa_cons (pv 7) pa_nil))) (pa_cons (pv 3) pa_nil)))))) (pss_one (ps_ret pe_bl)) pss_nil)
      (pss_one (ps_ret (pe_call (ok_l_is_lot T) (hr.mono (by decide)) (by rfl) T.g_l_is_lot T.F_l_is_lot.kp T.b_l_is_lot .nil pass0 (pa_cons (pe_callFR (ok_joined T) (hr.mono (by decide)) (by rfl) T.g_joined T.F_joined.kp (pass0 : Passes CX0 _ E0) (pa_cons (pv 6) (pa_cons (pv 4) (pa_cons (pv 5) (pa_cons (pv 6) pa_nil))))) (pa_cons (pv 8) (pa_cons (pv 3) pa_nil))))))))))), ?_⟩
  obtain ⟨b, l, d, n, o, a0, a1, a2, d0, d1, d2, rows, ks, M, u0, u1, u2, ns, rfl, ho, rf, ba, G, hM, s0, s1, s2, hl, hd, hn, L0, L1, L2, k0, k1, k2, h0, h1, h2, q⟩ := h
  refine g_start (σ' := [some (.ref b), some (.ref l), some (.ref d), some (.ref n), none, none, none, none, none]) rfl ?_
  have few := G.few
  have l0 := nodup_few k0.asc.nodup s0 few
  have l1 := nodup_few k1.asc.nodup s1 few
  have l2 := nodup_few k2.asc.nodup s2 few
  have okM : ∀ {x : List Str}, (∀ z ∈ x, z ∈ ks) → ∀ z, Cl M (fun z => z ∈ x) z ↔ Cl (MB (Un rows)) (fun z => z ∈ x) z := fun {x} sb z => Cl.congr (D := fun z => z ∈ ks) (fun z hz => sb z hz) G.cl (fun a b z ha hb => hM a b z ha hb) z
  walk_at "gg"
  refine g_gunl hl rfl ?_
  walk_at "gg"
  refine g_ixL (v := .ref d0) hd (atI_nat (j := 0) rfl) ?_
  walk_at "gg"
  refine g_ixL (v := .ref d1) hd (atI_nat (j := 1) rfl) ?_
  walk_at "gg"
  refine g_ixL (v := .ref d0) hd (atI_nat (j := 0) rfl) ?_
  walk_at "gg"
  refine ⟨d1, d0, u1, u0, rfl, h1, h0, by omega, fun p1 H1 t1 n1 hp1 => ?_⟩
  have f1 := List.length_filter_le (fun z => !decide (z ∈ u0)) u1
  refine g_addL (t1 _ _ h0) hp1 (sz (by rw [List.length_map, List.length_map]; omega)) (Has.start H1) (fun p2 H2 n2 hh2 => ?_)
  rw [← List.map_append] at hh2
  have m2 := fill_mem (x := u0) (u := u1)
  have nd2 := fill_nd k0.asc.nodup k1.asc.nodup
  have lx2 : (u0 ++ u1.filter (fun z => !decide (z ∈ u0))).length ≤ 40 := by rw [List.length_append]; omega
  generalize u0 ++ u1.filter (fun z => !decide (z ∈ u0)) = x2 at hh2 m2 nd2 lx2
  have sx2 : ∀ z ∈ x2, z ∈ ks := fun z hz => ((m2 z).mp hz).elim (s0 z) (s1 z)
  have t2 := t1.trans hh2.same
  have hp2 := hh2.get (List.Mem.head _)
  walk_at "gg"
  refine g_ixL (v := .ref d2) (t2 _ _ hd) (atI_nat (j := 2) rfl) ?_
  walk_at "gg"
  refine ⟨d2, p2, u2, x2, rfl, t2 _ _ h2, hp2, by omega, fun p3 H3 t3 n3 hp3 => ?_⟩
  have f3 := List.length_filter_le (fun z => !decide (z ∈ x2)) u2
  refine g_addL (t3 _ _ hp2) hp3 (sz (by rw [List.length_map, List.length_map]; omega)) (Has.start H3) (fun p4 H4 n4 hh4 => ?_)
  rw [← List.map_append] at hh4
  have m4 := fill_mem (x := x2) (u := u2)
  have nd4 := fill_nd nd2 k2.asc.nodup
  generalize x2 ++ u2.filter (fun z => !decide (z ∈ x2)) = x4 at hh4 m4 nd4
  have sx4 : ∀ z ∈ x4, z ∈ ks := fun z hz => ((m4 z).mp hz).elim (sx2 z) (s2 z)
  have t4 := (t2.trans t3).trans hh4.same
  have hp2 := (t3.trans hh4.same) _ _ hp2
  walk_at "gg"
  refine ⟨b, p4, ks, M, x4, rfl, ba.mono t4, hh4.get (List.Mem.head _), nd4, sx4, G, fun p5 H5 w5 t5 n5 hp5 as5 mw5 => ?_⟩
  have t5 := t4.trans t5
  have hp2 := (by assumption : Same H4 H5) _ _ hp2
  clear hh2 hh4 hp1 hp3 n1 n2 n3 n4 t1 t2 t3 t4
  -- one alone
  walk_at "gg"
  refine join_ok (ls := []) (ho.mono t5) rf (L0.mono t5) k0 (fun l h => (List.not_mem_nil h).elim) (by decide) (fun c6 H6 w6 t6 n6 lk6 m6 => ?_)
  have e : w6 = u0 := Asc.ext lk6.asc k0.asc fun z => (m6 z).trans (Iff.trans (cl_eq (fun z hz => .base (hz.resolve_right (fun ⟨l, h, _⟩ => List.not_mem_nil h))) (fun z hz => .base (.inl hz)) z) (k0.self z).symm)
  subst e
  have t6 := t5.trans t6
  walk_at "gg"
  refine g_ixL (v := .ref d0) (t6 _ _ hd) (atI_nat (j := 0) rfl) ?_
  walk_at "gg"
  refine ⟨c6, d0, n, o, w6, ns, rfl, n6.at, t6 _ _ h0, t6 _ _ hn, by omega, fun H7 t7 => ?_⟩
  have t7' := t6.trans t7
  have hp2 := ((by assumption : Same H5 H6).trans t7) _ _ hp2
  have hp5 := ((by assumption : Same H5 H6).trans t7) _ _ hp5
  -- two
  walk_at "gg"
  refine join_ok (ls := [(a1, u1)]) (ho.mono t7') rf (L0.mono t7') k0 (fun l h => by rw [List.mem_singleton.mp h]; exact ⟨L1.mono t7', k1⟩) (by show 1 ≤ 5; decide) (fun c8 H8 w8 t8 n8 lk8 m8 => ?_)
  have hp2 := t8 _ _ hp2
  have hp5 := t8 _ _ hp5
  have t8' := t7'.trans t8
  walk_at "gg"
  refine ⟨b, p2, ks, M, x2, rfl, ba.mono t8', hp2, nd2, sx2, G, fun p9 H9 w9 t9 n9 hp9 as9 mw9 => ?_⟩
  have e : w8 = w9 := Asc.ext lk8.asc as9 fun z => (m8 z).trans (Iff.trans (cl_eq (fun z hz => .base ((m2 z).mpr (hz.imp id (fun ⟨l, h, hz⟩ => by rw [List.mem_singleton.mp h] at hz; exact hz)))) (fun z hz => .base (((m2 z).mp hz).imp id (fun hz => ⟨_, List.mem_singleton.mpr rfl, hz⟩))) z) ((mw9 z).trans (okM sx2 z)).symm)
  subst e
  have l8 := ho.chk_few lk8.chk
  have t9' := t8'.trans t9
  walk_at "gg"
  refine ⟨c8, p9, n, o, w8, ns, rfl, n8.at.mono t9, hp9, t9' _ _ hn, by omega, fun H10 t10 => ?_⟩
  have t10' := t9'.trans t10
  have hp5 := (t9.trans t10) _ _ hp5
  -- three, one of them twice
  walk_at "gg"
  refine join_ok (ls := [(a0, w6), (a1, u1), (a2, u2)]) (ho.mono t10') rf (L2.mono t10') k2 (fun l h => by
    simp only [List.mem_cons, List.not_mem_nil, or_false] at h
    rcases h with rfl | rfl | rfl
    · exact ⟨L0.mono t10', k0⟩
    · exact ⟨L1.mono t10', k1⟩
    · exact ⟨L2.mono t10', k2⟩) (by show 3 ≤ 5; decide) (fun c11 H11 w11 t11 n11 lk11 m11 => ?_)
  have m3 : ∀ z, (z ∈ u2 ∨ ∃ l ∈ [(a0, w6), (a1, u1), (a2, u2)], z ∈ l.2) ↔ z ∈ x4 := fun z => by
    rw [m4 z, m2 z]
    simp only [List.mem_cons, List.not_mem_nil, or_false, exists_eq_or_imp, exists_eq_left]
    constructor
    · rintro (h | h | h | h)
      · exact .inr h
      · exact .inl (.inl h)
      · exact .inl (.inr h)
      · exact .inr h
    · rintro ((h | h) | h)
      · exact .inr (.inl h)
      · exact .inr (.inr (.inl h))
      · exact .inl h
  have e : w11 = w5 := Asc.ext lk11.asc as5 fun z => (m11 z).trans (Iff.trans (cl_eq (fun z hz => .base ((m3 z).mp hz)) (fun z hz => .base ((m3 z).mpr hz)) z) ((mw5 z).trans (okM sx4 z)).symm)
  subst e
  have l11 := ho.chk_few lk11.chk
  have t11' := t10'.trans t11
  walk_at "gg"
  refine ⟨c11, p5, n, o, w11, ns, rfl, n11.at, t11 _ _ hp5, t11' _ _ hn, by omega, fun H12 t12 => ?_⟩
  exact q H12 (t11'.trans t12)
end

end K29

namespace K29
open PySem PySem.Spec PyProof.Rows L2 Qk
local macro_rules | `(tactic| walk_at "m") => `(tactic| ((repeat (first | exact List.Mem.head _ | apply List.Mem.tail)); done))
local macro_rules | `(tactic| walk_at "h") => `(tactic| first | assumption | exact Has.gF (by assumption) (by assumption) | exact Has.get (by assumption) (by walk_at "m"))
local macro_rules | `(tactic| walk_at "c") => `(tactic| ((repeat (first | exact Chg.hd | apply Chg.tl)); done))
local macro_rules | `(tactic| walk_at "is") => `(tactic| first
  | ((with_reducible refine' is2_non ?gh ?_); (case gh => walk_at "h"))
  | (with_reducible refine is_int_list ?_)
  | (with_reducible refine is_int_tuple ?_)
  | (with_reducible refine is_int_dict ?_)
  | (with_reducible refine is_int_int ?_)
  | (with_reducible refine is_int_bool ?_)
  | (with_reducible refine is_int_str ?_)
  | ((with_reducible refine' is2_int ?gh ?_); (case gh => walk_at "h"))
  | (with_reducible refine is_str_list ?_)
  | (with_reducible refine is_str_tuple ?_)
  | (with_reducible refine is_str_dict ?_)
  | (with_reducible refine is_str_int ?_)
  | (with_reducible refine is_str_bool ?_)
  | (with_reducible refine is_str_str ?_)
  | ((with_reducible refine' is2_str ?gh ?_); (case gh => walk_at "h"))
  | (with_reducible refine is_bool_list ?_)
  | (with_reducible refine is_bool_tuple ?_)
  | (with_reducible refine is_bool_dict ?_)
  | (with_reducible refine is_bool_int ?_)
  | (with_reducible refine is_bool_bool ?_)
  | (with_reducible refine is_bool_str ?_)
  | ((with_reducible refine' is2_bool ?gh ?_); (case gh => walk_at "h"))
  | ((with_reducible refine' is_list_list ?gh ?_); (case gh => walk_at "h"))
  | ((with_reducible refine' is_list_tuple ?gh ?_); (case gh => walk_at "h"))
  | ((with_reducible refine' is_list_dict ?gh ?_); (case gh => walk_at "h"))
  | ((with_reducible refine' is_list_int ?gh ?_); (case gh => walk_at "h"))
  | ((with_reducible refine' is_list_bool ?gh ?_); (case gh => walk_at "h"))
  | ((with_reducible refine' is_list_str ?gh ?_); (case gh => walk_at "h"))
  | ((with_reducible refine' is2_list ?ga ?gb ?_); (case ga => walk_at "h"); (case gb => walk_at "h"))
  | ((with_reducible refine' is_tuple_list ?gh ?_); (case gh => walk_at "h"))
  | ((with_reducible refine' is_tuple_tuple ?gh ?_); (case gh => walk_at "h"))
  | ((with_reducible refine' is_tuple_dict ?gh ?_); (case gh => walk_at "h"))
  | ((with_reducible refine' is_tuple_int ?gh ?_); (case gh => walk_at "h"))
  | ((with_reducible refine' is_tuple_bool ?gh ?_); (case gh => walk_at "h"))
  | ((with_reducible refine' is_tuple_str ?gh ?_); (case gh => walk_at "h"))
  | ((with_reducible refine' is2_tuple ?ga ?gb ?_); (case ga => walk_at "h"); (case gb => walk_at "h"))
  | ((with_reducible refine' is_dict_list ?gh ?_); (case gh => walk_at "h"))
  | ((with_reducible refine' is_dict_tuple ?gh ?_); (case gh => walk_at "h"))
  | ((with_reducible refine' is_dict_dict ?gh ?_); (case gh => walk_at "h"))
  | ((with_reducible refine' is_dict_int ?gh ?_); (case gh => walk_at "h"))
  | ((with_reducible refine' is_dict_bool ?gh ?_); (case gh => walk_at "h"))
  | ((with_reducible refine' is_dict_str ?gh ?_); (case gh => walk_at "h"))
  | ((with_reducible refine' is2_dict ?ga ?gb ?_); (case ga => walk_at "h"); (case gb => walk_at "h")))
local macro_rules | `(tactic| walk_at "g") => `(tactic| first
  | (with_reducible refine g_seq ?_)
  | (with_reducible refine g_asg ?_)
  | ((with_reducible refine g_name ?_); dsimp only [List.set, wipe, List.map])
  | ((with_reducible refine' g_var ?gv ?_); (case gv => exact rfl))
  | (with_reducible refine g_c ?_)
  | (with_reducible refine g_op ?_)
  | (with_reducible refine g_cons ?_)
  | (with_reducible refine g_nil ?_)
  | (with_reducible refine g_cb ?_)
  | (with_reducible refine g_call ?_)
  | (with_reducible refine g_tup ?_)
  | (with_reducible refine g_lst ?_)
  | (with_reducible refine g_bm ?_)
  | (with_reducible refine g_bm0 ?_)
  | ((with_reducible refine' g_kbm ?gh ?_); (case gh => walk_at "h"))
  | (with_reducible refine g_drop ?_)
  | (with_reducible refine g_ret ?_)
  | (with_reducible refine g_retN ?_)
  | (with_reducible refine g_next ?_)
  | (with_reducible refine g_brk ?_)
  | (with_reducible refine g_cont ?_)
  | (with_reducible refine g_if ?_)
  | ((with_reducible refine' g_aug ?gv ?_); (case gv => exact rfl))
  | (with_reducible refine g_ipI ?_)
  | (with_reducible refine g_test ?_)
  | (with_reducible refine g_tB ?_)
  | (with_reducible refine g_kB ?_)
  | (with_reducible refine g_not ?_)
  | (with_reducible refine g_and ?_)
  | (with_reducible refine g_or ?_)
  | (with_reducible refine g_andV ?_)
  | (with_reducible refine g_orV ?_)
  | (with_reducible refine g_notV ?_)
  | (with_reducible refine g_ifE ?_)
  | (with_reducible refine g_addI ?_)
  | (with_reducible refine g_rI0 ?_)
  | (with_reducible refine g_eqI ?_)
  | (with_reducible refine g_eqS ?_)
  | (with_reducible refine g_neI ?_)
  | (with_reducible refine g_neS ?_)
  | (with_reducible refine g_isN ?_)
  | (with_reducible refine g_notN ?_)
  | (with_reducible refine g_int ?_)
  | (with_reducible refine g_max2 ?_)
  | (with_reducible refine g_min2 ?_)
  | ((with_reducible refine' g_lenL ?gh ?_); (case gh => walk_at "h"))
  | (with_reducible refine g_sub ?_)
  | (with_reducible refine g_gcons ?_)
  | (with_reducible refine g_gnil ?_)
  | (with_reducible refine g_un ?_)
  | (with_reducible refine g_rU ?_)
  | (with_reducible refine g_forL ?_)
  | (with_reducible refine g_forS ?_)
  | (with_reducible refine g_forR1 ?_)
  | (with_reducible refine g_forR2 ?_)
  | (with_reducible refine g_forR3 ?_)
  | (with_reducible refine g_lcL ?_)
  | (with_reducible refine g_lcR1 ?_)
  | (with_reducible refine g_lcR2 ?_)
  | (with_reducible refine g_slice ?_)
  | (with_reducible refine g_part ?_)
  | (with_reducible refine g_kOI ?_)
  | (with_reducible refine g_nopart ?_)
  | (with_reducible refine g_yes ?_)
  | ((with_reducible refine' g_wipe ?gv ?_); (case gv => exact rfl))
  | (with_reducible refine iteT ?_)
  | (with_reducible refine iteF ?_)
  | (with_reducible refine i_nf ?_)
  | (with_reducible refine i_nt ?_)
  | ((with_reducible refine' g_gtup ?gh ?gl ?_); (case gh => walk_at "h"); (case gl => exact rfl))
  | ((with_reducible refine' g_notinI ?gh ?_); (case gh => walk_at "h"))
  | ((with_reducible refine' g_inI ?gh ?_); (case gh => walk_at "h"))
  | ((with_reducible refine' g_kget2 ?gh ?_); (case gh => walk_at "h"))
  | ((with_reducible refine' g_kgotI ?gh ?_); (case gh => walk_at "h"))
  | (with_reducible refine g_tRev ?_)
  | (with_reducible refine g_neB ?_)
  | (with_reducible refine g_eqB ?_)
  | ((with_reducible refine' g_lenT ?gh ?_); (case gh => walk_at "h"))
  | (with_reducible refine g_star ?_)
  | ((with_reducible refine' g_kstarL ?gh ?_); (case gh => walk_at "h"))
  | ((with_reducible refine' g_kstarT ?gh ?_); (case gh => walk_at "h"))
  | (with_reducible refine g_tru ?_)
  | ((with_reducible refine' g_truL ?gh ?_); (case gh => walk_at "h"))
  | (with_reducible refine g_get2 ?_)
  | (with_reducible refine g_try ?_)
  | (with_reducible refine g_fld ?_)
  | (with_reducible refine g_sfld ?_)
  | (with_reducible refine g_meth ?_)
  | (with_reducible refine g_make ?_)
  | (with_reducible refine g_del ?_)
  | (with_reducible refine g_callS ?_)
  | (with_reducible refine g_raise ?_)
  | (with_reducible refine g_xf ?_)
  | (with_reducible refine g_m0 ?_)
  | (with_reducible refine g_km0 ?_)
  | walk_at "is")
local macro_rules | `(tactic| walk_at "gg") => `(tactic| repeat walk_at "g")
local macro_rules | `(tactic| walk_at "sz") => `(tactic| (refine sz ?_; simp only [List.length_cons, List.length_nil, List.length_map, List.length_append, List.length_replicate]; omega))
local macro_rules | `(tactic| walk_at "sub") => `(tactic| ((repeat (first | exact List.Sublist.slnil | with_reducible apply List.Sublist.cons_cons | with_reducible apply List.Sublist.cons)); done))

local macro_rules | `(tactic| walk_at "g") => `(tactic| first
  | ((with_reducible refine' g_lenNL ?gh ?_); (case gh => walk_at "h"))
  | ((with_reducible refine' g_lenND ?gh ?_); (case gh => walk_at "h"))
  | ((with_reducible refine' g_lenNT ?gh ?_); (case gh => walk_at "h"))
  | (with_reducible refine g_ltI ?_)
  | (with_reducible refine g_ltS ?_)
  | (with_reducible refine g_lstRg ?_)
  | (with_reducible refine g_forK ?_))

local macro_rules | `(tactic| walk_at "g") => `(tactic| (with_reducible refine g_tryM ?_))

local macro_rules | `(tactic| walk_at "g") => `(tactic| first
  | (with_reducible refine g_lcT ?_)
  | (with_reducible refine g_forT ?_))

local macro_rules | `(tactic| walk_at "g") => `(tactic| first
  | (with_reducible refine g_makeS ?_)
  | ((with_reducible refine' g_makeV ?gv ?_); (case gv => exact rfl))
  | (with_reducible refine g_cmethS ?_))

local macro_rules | `(tactic| walk_at "g") => `(tactic| first
  | (with_reducible refine g_forO ?_))

/-! ### the law of lots that grow -/
def sD (xs : List Str) : PyData := .list (xs.map PyData.str)
theorem sd_at {F : Hp} {v : V} {xs : List Str} (h : Dq F v (sD xs)) : ∃ p, v = .ref p ∧ F p = some (.lst (xs.map V.str)) := by
  unfold sD at h
  cases h with
  | lst a d =>
    obtain rfl := DqAll.of_strs d
    exact ⟨_, rfl, a⟩
theorem dq_sd {F : Hp} {p : Addr} {xs : List Str} (h : F p = some (.lst (xs.map V.str))) : Dq F (.ref p) (sD xs) := Dq.strs h
/-- a lot behind a later put -/
theorem LotOk.later {names : List Str} {web : List (List Nat)} {n n' : Nat} {rows rows2 : List URow} {us : List Str} (lk : LotOk rows us) (R : RowsW names web n rows) (L : RowsW names web n' rows2) (h : n ≤ n') (wok : WebOk web) : LotOk rows2 us := by
  have mb : ∀ a b z, K29.kn rows a = true → K29.kn rows b = true → (MB (Un rows2) a b z ↔ MB (Un rows) a b z) := fun a b z ka kb =>
    MB.congr (R.same2 L h ka) (R.same2 L h kb) fun g hg => R.same2 L h (R.kmem wok ((R.same2 L h ka g).mp hg))
  refine ⟨lk.asc, fun z hz => ?_, fun a b c ha hb g => lk.cl a b c ha hb ((mb a b c (lk.kn a ha) (lk.kn b hb)).mp g)⟩
  obtain ⟨k, hk, ek⟩ := R.known.mp (lk.kn z hz)
  exact L.known.mpr ⟨k, by omega, ek⟩
section
variable {P : Program} {w : World} {K : PySem.W.Frag} {mg : Str → Option Value} {base : Heap}
/-- a lot beside the order -/
def LotF (T : Txt K mg) (A : OA) (H : Hp) (a : Addr) (us : List Str) : Prop := ∃ dx nl, LotA T H a dx nl A.a us ∧ (∀ q, q = A.a ∨ q = A.x ∨ q = A.d → q ≠ a ∧ q ≠ dx)
theorem LotF.mono {T : Txt K mg} {A : OA} {H H' : Hp} {a : Addr} {us : List Str} (h : LotF T A H a us) (s : Same H H') : LotF T A H' a us := by
  obtain ⟨dx, nl, h, n⟩ := h
  exact ⟨dx, nl, h.mono s, n⟩
theorem LotF.at {T : Txt K mg} {A : OA} {H : Hp} {a : Addr} {us : List Str} (h : LotF T A H a us) : LotAt T H a A.a us := by
  obtain ⟨dx, nl, h, n⟩ := h
  exact ⟨dx, nl, h⟩
theorem St1.here {T : Txt K mg} {A : OA} {F H : Hp} {rows : List URow} (st : St1 T A F H rows) : ∀ q, q = A.a ∨ q = A.x ∨ q = A.d → H q ≠ none := by
  obtain ⟨nl, kvs, h, ok⟩ := st
  rintro q (rfl | rfl | rfl)
  · rw [h.get (o := .ins T.C_Order A.x (of_ nl A.d)) (by unfold OrdO; walk_at "m")]; exact fun e => by cases e
  · rw [h.get (o := .own A.a) (by unfold OrdO; walk_at "m")]; exact fun e => by cases e
  · rw [h.get (o := .dK kvs) (by unfold OrdO; walk_at "m")]; exact fun e => by cases e
theorem St1.lot {T : Txt K mg} {A : OA} {F H H' : Hp} {rows : List URow} {a : Addr} {us : List Str} (st : St1 T A F H rows) (n : LotN T H H' a A.a us) : LotF T A H' a us := by
  obtain ⟨dx, nl, h, na, nx, nn⟩ := n
  exact ⟨dx, nl, h, fun q hq => ⟨fun e => st.here q hq (by rw [e]; exact na), fun e => st.here q hq (by rw [e]; exact nx)⟩⟩
/-- all lists and lots stand still -/
theorem St1.keepL {T : Txt K mg} {A : OA} {F H : Hp} {rows : List URow} (st : St1 T A F H rows) : ∃ F', Same F F' ∧ St1 T A F' H rows ∧ (∀ p xs, H p = some (.lst xs) → F' p = some (.lst xs)) ∧ (∀ a us, LotF T A H a us → LotF T A F' a us) := by
  obtain ⟨nl, kvs, h, ok⟩ := st
  have off : ∀ {p : Addr} {u : HO}, H p = some u → (∀ q, q = A.a ∨ q = A.x ∨ q = A.d → q ≠ p) → rmO (OrdO T A.a A.x A.d nl kvs) H p = some u := fun {p u} e n => by
    unfold rmO
    rw [if_neg]
    · exact e
    · intro m
      obtain ⟨q, hq, eq⟩ := List.mem_map.mp m
      simp only [OrdO, List.mem_cons, List.not_mem_nil, or_false] at hq
      rcases hq with rfl | rfl | rfl
      · exact n _ (.inl rfl) eq
      · exact n _ (.inr (.inl rfl)) eq
      · exact n _ (.inr (.inr rfl)) eq
  have lst : ∀ p xs, H p = some (.lst xs) → rmO (OrdO T A.a A.x A.d nl kvs) H p = some (.lst xs) := fun p xs e => h.re_of e fun q hq => by
    simp only [OrdO, List.mem_cons, List.not_mem_nil, or_false] at hq
    rcases hq with rfl | rfl | rfl <;> exact fun z => by cases z
  exact ⟨_, h.reF, ⟨nl, kvs, h.re, ok.mono h.reF⟩, lst, fun a us ⟨dx, nl', L, n⟩ => ⟨dx, nl', ⟨off L.i fun q hq => (n q hq).1, off L.x fun q hq => (n q hq).2, lst _ _ L.n⟩, n⟩⟩
/-- what stands in the heap -/
structure LJ (T : Txt K mg) (A : OA) (H : Hp) (b kl p0 p1 p2 dl d0 d1 d2 ll t0 t1 t2 ak nm : Addr) (ks : List Str) (M : Str → Str → Str → Prop) (x0 u0 u1 u2 asked names : List Str) : Prop where
  ba : BaAt H b ks M
  kl : H kl = some (.lst [.ref p0, .ref p1, .ref p2])
  k0 : H p0 = some (.lst (x0.map V.str))
  dl : H dl = some (.lst [.ref d0, .ref d1, .ref d2])
  d0 : H d0 = some (.lst (u0.map V.str))
  d1 : H d1 = some (.lst (u1.map V.str))
  d2 : H d2 = some (.lst (u2.map V.str))
  ll : H ll = some (.lst [.ref t0, .ref t1, .ref t2])
  t0 : LotF T A H t0 u0
  t1 : LotF T A H t1 u1
  t2 : LotF T A H t2 u2
  ak : H ak = some (.lst (asked.map V.str))
  nm : H nm = some (.lst (names.map V.str))
theorem LJ.mono {T : Txt K mg} {A : OA} {H H' : Hp} {b kl p0 p1 p2 dl d0 d1 d2 ll t0 t1 t2 ak nm : Addr} {ks : List Str} {M : Str → Str → Str → Prop} {x0 u0 u1 u2 asked names : List Str} (h : LJ T A H b kl p0 p1 p2 dl d0 d1 d2 ll t0 t1 t2 ak nm ks M x0 u0 u1 u2 asked names) (s : Same H H') : LJ T A H' b kl p0 p1 p2 dl d0 d1 d2 ll t0 t1 t2 ak nm ks M x0 u0 u1 u2 asked names :=
  ⟨h.ba.mono s, s _ _ h.kl, s _ _ h.k0, s _ _ h.dl, s _ _ h.d0, s _ _ h.d1, s _ _ h.d2, s _ _ h.ll, h.t0.mono s, h.t1.mono s, h.t2.mono s, s _ _ h.ak, s _ _ h.nm⟩
set_option maxHeartbeats 8000000 in
theorem ok_law (T : Txt K mg) : FnOk P w K mg base CX0 16 T.f_law T.fd_law ["script"] (sp_law K) := by
  refine T.F_law.ok sc_law (fun vs H Q E h => sp_law_len h) (fun cdv A outer s H vs Q E hr h => ?_)
  refine ⟨_, (pss_cons (ps_set (i := 1) sc_law.nd rfl (.inr rfl) (pe_call (ok_l_cells T) (hr.mono (by decide)) (by rfl) T.g_l_cells T.F_l_cells.kp T.b_l_cells .nil pass0 (pa_cons (pv 0) pa_nil)))
      (pss_cons (ps_set (i := 2) sc_law.nd rfl (.inr rfl) (pe_ix (ix_K K (hu_of hr)) (pe_lst (pa_cons pe_int (pa_cons pe_int (pa_cons pe_int (pa_cons pe_int (pa_cons pe_int (pa_cons pe_int (pa_cons pe_int (pa_cons pe_int pa_nil))))))))) (pe_call (ok_l_next T) (hr.mono (by decide)) (by rfl) T.g_l_next T.F_l_next.kp T.b_l_next .nil pass0 (pa_cons (pv 1) (pa_cons pe_int pa_nil))) (fun _ _ => rfl)))
      (pss_cons (ps_set (i := 3) sc_law.nd rfl (.inl rfl) (pe_call (ok_l_draw_web T) (hr.mono (by decide)) (by rfl) T.g_l_draw_web T.F_l_draw_web.kp T.b_l_draw_web .nil pass0 (pa_cons (pv 1) (pa_cons (pe_op (op_addK K) (pv 2) pe_int) pa_nil))))
      (pss_cons (ps_setLc (i := 4) (own := [("k", 22)]) (g := gName 22) (tt := tYes) rfl sc_law.nd rfl rfl (sw_true rfl rfl rfl (by decide +kernel)) (pi_range1 rfl T.m_range (pa_cons pe_int pa_nil)) (blkOk_by (N := n_law) (sc := defScope s_law) (by decide +kernel)) (fun _ _ _ _ _ => (pg_name (i := 22) sc_law.nd rfl (.inl rfl))) (fun _ _ _ _ _ => pts_nil) (fun _ _ _ _ _ => (pe_call (ok_l_draw_picks T) (hr.mono (by decide)) (by rfl) T.g_l_draw_picks T.F_l_draw_picks.kp T.b_l_draw_picks .nil pass0 (pa_cons (pv 1) (pa_cons (pv 2) pa_nil)))))
      (pss_cons (ps_set (i := 5) sc_law.nd rfl (.inl rfl) (pe_call (ok_l_next T) (hr.mono (by decide)) (by rfl) T.g_l_next T.F_l_next.kp T.b_l_next .nil pass0 (pa_cons (pv 1) (pa_cons pe_int pa_nil))))
      (pss_cons (ps_set (i := 6) sc_law.nd rfl (.inl rfl) (pe_call (ok_l_next T) (hr.mono (by decide)) (by rfl) T.g_l_next T.F_l_next.kp T.b_l_next .nil pass0 (pa_cons (pv 1) (pa_cons pe_int pa_nil))))
      (pss_cons (ps_set (i := 7) sc_law.nd rfl (.inl rfl) (pe_call (ok_l_next T) (hr.mono (by decide)) (by rfl) T.g_l_next T.F_l_next.kp T.b_l_next .nil pass0 (pa_cons (pv 1) (pa_cons pe_int pa_nil))))
      (pss_cons (ps_set (i := 8) sc_law.nd rfl (.inr rfl) (pe_call (ok_l_draw_names T) (hr.mono (by decide)) (by rfl) T.g_l_draw_names T.F_l_draw_names.kp T.b_l_draw_names .nil pass0 (pa_cons (pv 1) (pa_cons (pe_op (op_addK K) (pv 2) pe_int) pa_nil))))
      (pss_cons (ps_set (i := 9) sc_law.nd rfl (.inl rfl) (pe_ix (ix_K K (hu_of hr)) (pv 8) (pv 2) (fun _ _ => rfl)))
      (pss_cons (ps_set (i := 10) sc_law.nd rfl (.inl rfl) (pe_op (op_addK K) (pv 8) (pe_lst (pa_cons (pe_upper (pv 9)) (pa_cons pe_str pa_nil)))))
      (pss_cons (ps_set (i := 11) sc_law.nd rfl (.inr rfl) (pe_call (ok_l_put_all T) (hr.mono (by decide)) (by rfl) T.g_l_put_all T.F_l_put_all.kp T.b_l_put_all .nil pass0 (pa_cons (pe_slice (sl_M K) (pv 3) po_none (po_some (pv 2))) (pa_cons (pv 8) pa_nil))))
      (pss_cons (ps_set (i := 12) sc_law.nd rfl (.inr rfl) (pe_call (ok_l_base_rows T) (hr.mono (by decide)) (by rfl) T.g_l_base_rows T.F_l_base_rows.kp T.b_l_base_rows .nil pass0 (pa_cons (pe_call (ok_l_below_all T) (hr.mono (by decide)) (by rfl) T.g_l_below_all T.F_l_below_all.kp T.b_l_below_all .nil pass0 (pa_cons (pe_slice (sl_M K) (pv 3) po_none (po_some (pv 2))) (pa_cons (pv 8) pa_nil))) pa_nil)))
      (pss_cons (ps_setLc (i := 13) (own := [("row", 19)]) (g := gName 19) (tt := tYes) rfl sc_law.nd rfl rfl (sw_true rfl rfl rfl (by decide +kernel)) (k_il K (pi_list (pv 4))) (blkOk_by (N := n_law) (sc := defScope s_law) (by decide +kernel)) (fun _ _ _ _ _ => (pg_name (i := 19) sc_law.nd rfl (.inl rfl))) (fun _ _ _ _ _ => pts_nil) (fun _ _ _ _ _ => (pe_lc (own := [("k", 22)]) (g := gName 22) (tt := tYes) rfl sc_law.nd (k_il K (pi_list (pv 19))) (blkOk_by (N := n_law) (sc := ({ kind := .function, names := [(PySem.Str.ofString ".0", PySem.NameKind.local), (PySem.Str.ofString "row", PySem.NameKind.local), (PySem.Str.ofString "names", PySem.NameKind.cell)], isGenerator := false, isCoroutine := false, more := [] } : Scope)) (by decide +kernel)) (fun _ _ _ _ _ => (pg_name (i := 22) sc_law.nd rfl (.inl rfl))) (fun _ _ _ _ _ => pts_nil) (fun _ _ _ _ _ => (pe_ix (ix_K K (hu_of hr)) (pv 8) (pv 22) (fun _ _ => rfl))))))
      (pss_cons (ps_setLc (i := 14) (own := [("row", 19)]) (g := gName 19) (tt := tYes) rfl sc_law.nd rfl rfl (sw_true rfl rfl rfl (by decide +kernel)) (k_il K (pi_list (pv 13))) (blkOk_by (N := n_law) (sc := defScope s_law) (by decide +kernel)) (fun _ _ _ _ _ => (pg_name (i := 19) sc_law.nd rfl (.inl rfl))) (fun _ _ _ _ _ => pts_nil) (fun _ _ _ _ _ => (pe_callTy (cr_listK K) (by rfl) T.m_list (by decide +kernel) (pa_cons (pv 19) pa_nil))))
      (pss_cons (ps_setLc (i := 15) (own := [("row", 19)]) (g := gName 19) (tt := tYes) rfl sc_law.nd rfl rfl (sw_true rfl rfl rfl (by decide +kernel)) (k_il K (pi_list (pv 13))) (blkOk_by (N := n_law) (sc := defScope s_law) (by decide +kernel)) (fun _ _ _ _ _ => (pg_name (i := 19) sc_law.nd rfl (.inl rfl))) (fun _ _ _ _ _ => pts_nil) (fun _ _ _ _ _ => (pe_call (ok_l_closure T) (hr.mono (by decide)) (by rfl) T.g_l_closure T.F_l_closure.kp T.b_l_closure .nil pass0 (pa_cons (pv 12) (pa_cons (pv 19) pa_nil)))))
      (pss_cons (ps_setLc (i := 16) (own := [("row", 19)]) (g := gName 19) (tt := tYes) rfl sc_law.nd rfl rfl (sw_true rfl rfl rfl (by decide +kernel)) (k_il K (pi_list (pv 13))) (blkOk_by (N := n_law) (sc := defScope s_law) (by decide +kernel)) (fun _ _ _ _ _ => (pg_name (i := 19) sc_law.nd rfl (.inl rfl))) (fun _ _ _ _ _ => pts_nil) (fun _ _ _ _ _ => (pe_cmethS (pe_gc (v := .ref T.C_Lot) (by rfl) ⟨_, T.g_Lot, rfl⟩) T.CR_Lot T.CM_Lot_over (ok_Lot_over T) (hr.mono (by decide)) T.b_Lot_over passNS (pa_cons (pv 11) (pa_cons (pv 19) pa_nil)))))
      (pss_cons (ps_if (pt_cmpR (op_neK K hr.units) (pv 13) (pv 14) (nomark _)) (pss_one (ps_ret pe_bl)) pss_nil)
      (pss_cons (ps_expr (k_bm0 K (pe_bm0 PySem.F.plainAttrs_list PySem.F.slot_list_clear PySem.F.type_list_clear mt_clear (pe_ix (ix_K K (hu_of hr)) (pv 13) pe_int (fun _ _ => rfl)))))
      (pss_cons (ps_if (pt_not (pt_val (pe_call (ok_l_stay T) (hr.mono (by decide)) (by rfl) T.g_l_stay T.F_l_stay.kp T.b_l_stay .nil pass0 (pa_cons (pv 16) (pa_cons (pv 15) (pa_cons (pv 10) pa_nil)))))) (pss_one (ps_ret pe_bl)) pss_nil)
      (pss_cons (ps_set (i := 17) sc_law.nd rfl (.inl rfl) (pe_op (op_addK K) (pe_op (op_addK K) (pe_lst (pa_cons (pv 9) pa_nil)) (pe_ix (ix_K K (hu_of hr)) (pv 14) pe_int (fun _ _ => rfl))) (pe_lst (pa_cons (pe_upper (pv 9)) (pa_cons pe_str pa_nil)))))
      (pss_cons (ps_set (i := 18) sc_law.nd rfl (.inl rfl) (pe_callTy (cr_listK K) (by rfl) T.m_list (by decide +kernel) (pa_cons (pe_ix (ix_K K (hu_of hr)) (pv 14) pe_int (fun _ _ => rfl)) pa_nil)))
      (pss_cons (ps_expr (k_bm K (pe_bm PySem.F.plainAttrs_list PySem.F.slot_list_insert PySem.F.type_list_insert mt_insertA (pv 18) (pa_cons (pv 6) (pa_cons (pe_ix (ix_K K (hu_of hr)) (pv 17) (pe_op op_mod (pe_callTy cr_int1 (by rfl) T.m_int (by decide +kernel) (pa_cons (pv 7) pa_nil)) (pe_callB (cr_lenN K) (by rfl) T.m_len (by decide +kernel) (pa_cons (pv 17) pa_nil))) (fun _ _ => rfl)) pa_nil)))))
      (pss_cons (ps_if (pt_not (pt_val (pe_call (ok_l_over_refused T) (hr.mono (by decide)) (by rfl) T.g_l_over_refused T.F_l_over_refused.kp T.b_l_over_refused .nil pass0 (pa_cons (pv 11) (pa_cons (pe_callTy (cr_listK K) (by rfl) T.m_list (by decide +kernel) (pa_cons (pv 18) pa_nil)) (pa_cons (pe_call (ok_l_first_fault T) (hr.mono (by decide)) (by rfl) T.g_l_first_fault T.F_l_first_fault.kp T.b_l_first_fault .nil pass0 (pa_cons (pv 12) (pa_cons (pv 18) pa_nil))) pa_nil)))))) (pss_one (ps_ret pe_bl)) pss_nil)
      (pss_cons (ps_set (i := 19) sc_law.nd rfl (.inl rfl) (pe_slice (sl_M K) (pv 8) po_none (po_some (pv 2))))
      (pss_cons (ps_for PassesOwn.never rfl (k_il K (pi_list (pe_slice (sl_M K) (pe_op (op_addK K) (pe_slice (sl_M K) (pv 19) (po_some (pv 5)) po_none) (pe_slice (sl_M K) (pv 19) po_none (po_some (pv 5)))) po_none (po_some pe_int)))) (pg_name (i := 20) sc_law.nd rfl (.inl rfl)) (pss_cons (ps_set (i := 21) sc_law.nd rfl (.inl rfl) (pe_call (ok_l_closure T) (hr.mono (by decide)) (by rfl) T.g_l_closure T.F_l_closure.kp T.b_l_closure .nil pass0 (pa_cons (pv 12) (pa_cons (pe_op (op_addK K) (pe_ix (ix_K K (hu_of hr)) (pv 15) pe_int (fun _ _ => rfl)) (pe_call (ok_l_lacks T) (hr.mono (by decide)) (by rfl) T.g_l_lacks T.F_l_lacks.kp T.b_l_lacks .nil pass0 (pa_cons (pe_lst (pa_cons (pv 20) pa_nil)) (pa_cons (pe_ix (ix_K K (hu_of hr)) (pv 15) pe_int (fun _ _ => rfl)) pa_nil)))) pa_nil))))
      (pss_one (ps_if (pt_not (pt_val (pe_call (ok_l_is_lot T) (hr.mono (by decide)) (by rfl) T.g_l_is_lot T.F_l_is_lot.kp T.b_l_is_lot .nil pass0 (pa_cons (pe_methW (pe_ix (ix_K K (hu_of hr)) (pv 16) pe_int (fun _ _ => rfl)) T.cl_Lot T.M_Lot_plus (ok_Lot_plus T) (hr.mono (by decide)) T.b_Lot_plus passNS (pa_cons (pv 20) pa_nil)) (pa_cons (pv 21) (pa_cons (pv 10) pa_nil)))))) (pss_one (ps_ret pe_bl)) pss_nil))))
      (pss_cons (ps_if (pt_not (pt_val (pe_call (ok_l_minus T) (hr.mono (by decide)) (by rfl) T.g_l_minus T.F_l_minus.kp T.b_l_minus .nil pass0 (pa_cons (pv 12) (pa_cons (pe_ix (ix_K K (hu_of hr)) (pv 16) pe_int (fun _ _ => rfl)) (pa_cons (pe_ix (ix_K K (hu_of hr)) (pv 15) pe_int (fun _ _ => rfl)) (pa_cons (pv 10) pa_nil))))))) (pss_one (ps_ret pe_bl)) pss_nil)
      (pss_cons (ps_if (pt_not (pt_val (pe_call (ok_l_joined T) (hr.mono (by decide)) (by rfl) T.g_l_joined T.F_l_joined.kp T.b_l_joined .nil pass0 (pa_cons (pv 12) (pa_cons (pv 16) (pa_cons (pv 15) (pa_cons (pv 10) pa_nil))))))) (pss_one (ps_ret pe_bl)) pss_nil)
      (pss_cons (ps_for PassesOwn.never rfl (k_il K (pi_list (pe_lst (pa_cons (pv 9) (pa_cons (pe_upper (pv 9)) (pa_cons pe_str pa_nil)))))) (pg_name (i := 20) sc_law.nd rfl (.inl rfl)) (pss_one (ps_if (pt_not (pt_val (pe_call (ok_l_refused T) (hr.mono (by decide)) (by rfl) T.g_l_refused T.F_l_refused.kp T.b_l_refused .nil pass0 (pa_cons pe_int (pa_cons (pe_ix (ix_K K (hu_of hr)) (pv 16) pe_int (fun _ _ => rfl)) (pa_cons (pv 20) (pa_cons pe_str pa_nil))))))) (pss_one (ps_ret pe_bl)) pss_nil)))
      (pss_cons (ps_expr (pe_methW (pv 11) T.cl_Order T.M_Order_put (ok_Order_put T) (hr.mono (by decide)) T.b_Order_put (pass0S (E := fun _ => E0)) (pa_cons (pv 9) (pa_cons (pe_lc (own := [("k", 22)]) (g := gName 22) (tt := tYes) rfl sc_law.nd (k_il K (pi_list (pe_ix (ix_K K (hu_of hr)) (pv 3) (pv 2) (fun _ _ => rfl)))) (blkOk_by (N := n_law) (sc := defScope s_law) (by decide +kernel)) (fun _ _ _ _ _ => (pg_name (i := 22) sc_law.nd rfl (.inl rfl))) (fun _ _ _ _ _ => pts_nil) (fun _ _ _ _ _ => (pe_ix (ix_K K (hu_of hr)) (pv 8) (pv 22) (fun _ _ => rfl)))) pa_nil))))
      (pss_cons (ps_set (i := 12) sc_law.nd rfl (.inr rfl) (pe_call (ok_l_base_rows T) (hr.mono (by decide)) (by rfl) T.g_l_base_rows T.F_l_base_rows.kp T.b_l_base_rows .nil pass0 (pa_cons (pe_call (ok_l_below_all T) (hr.mono (by decide)) (by rfl) T.g_l_below_all T.F_l_below_all.kp T.b_l_below_all .nil pass0 (pa_cons (pv 3) (pa_cons (pv 8) pa_nil))) pa_nil)))
      (pss_cons (ps_set (i := 21) sc_law.nd rfl (.inl rfl) (pe_call (ok_l_closure T) (hr.mono (by decide)) (by rfl) T.g_l_closure T.F_l_closure.kp T.b_l_closure .nil pass0 (pa_cons (pv 12) (pa_cons (pe_op (op_addK K) (pe_ix (ix_K K (hu_of hr)) (pv 15) pe_int (fun _ _ => rfl)) (pe_lst (pa_cons (pv 9) pa_nil))) pa_nil))))
      (pss_cons (ps_if (pt_not (pt_val (pe_call (ok_l_is_lot T) (hr.mono (by decide)) (by rfl) T.g_l_is_lot T.F_l_is_lot.kp T.b_l_is_lot .nil pass0 (pa_cons (pe_methW (pe_ix (ix_K K (hu_of hr)) (pv 16) pe_int (fun _ _ => rfl)) T.cl_Lot T.M_Lot_plus (ok_Lot_plus T) (hr.mono (by decide)) T.b_Lot_plus passNS (pa_cons (pv 9) pa_nil)) (pa_cons (pv 21) (pa_cons (pv 10) pa_nil)))))) (pss_one (ps_ret pe_bl)) pss_nil)
      (pss_one (ps_ret (pe_and (pe_call (ok_l_refused T) (hr.mono (by decide)) (by rfl) T.g_l_refused T.F_l_refused.kp T.b_l_refused .nil pass0 (pa_cons pe_int (pa_cons (pe_ix (ix_K K (hu_of hr)) (pv 16) pe_int (fun _ _ => rfl)) (pa_cons (pv 9) (pa_cons pe_str pa_nil))))) (pe_one (pe_call (ok_l_stay T) (hr.mono (by decide)) (by rfl) T.g_l_stay T.F_l_stay.kp T.b_l_stay .nil pass0 (pa_cons (pv 16) (pa_cons (pv 15) (pa_cons (pv 10) pa_nil)))))))))))))))))))))))))))))))))))))))), ?_⟩
  obtain ⟨sc, ns, rfl, hS, hl, q⟩ := h
  refine g_start (σ' := [some (.ref sc), none, none, none, none, none, none, none, none, none, none, none, none, none, none, none, none, none, none, none, none, none, none]) rfl ?_
  walk_at "gg"
  refine ⟨sc, ns, rfl, hS, hl, fun c H1 ns1 n1 h1 ok1 => ?_⟩
  unfold FeedO at h1
  walk_at "gg"
  refine g_klst (by walk_at "sz") h1 (fun p0 H2 n2 h2 => ?_)
  walk_at "gg"
  refine ⟨c, ns1, 8, rfl, h2.get (by walk_at "m"), ok1, by decide, by decide, fun H3 ns3 r hb e ok3 r0 r1 => ?_⟩
  have h3 := h2.but (.tl .hd) hb e
  refine g_ixI (xs := [7, 8, 6, 5, 4, 3, 2, 1]) (h3.get (List.Mem.head _)) r0 (by exact r1) (fun m hm => ?_)
  have hm' : 1 ≤ m ∧ m ≤ 8 := by
    have := List.mem_of_getElem? hm
    simp only [List.mem_cons, List.not_mem_nil, or_false] at this
    omega
  have h := h3.drop
  obtain ⟨m, rfl⟩ := Int.eq_ofNat_of_zero_le (show 0 ≤ m by omega)
  clear h1 h2 h3 hm r0 r1 hb e n1 n2
  have em : (m : Int) + 1 = ((m + 1 : Nat) : Int) := by push_cast; rfl
  walk_at "gg"
  rw [em]
  refine ⟨c, H, ns3, m + 1, rfl, h, ok3, by omega, fun wl H4 F4 ns4 us web s4 h ok4 fwl du wok lw => ?_⟩
  walk_at "gg"
  refine k_lcR1 (by decide) (by decide) h (fun i acc F' O' => ∃ (rs : List (List Nat)) (ns : List Int), Same F4 F' ∧ DqAll F' acc (rs.map rowD) ∧ rs.length = i ∧ (∀ r ∈ rs, r.Nodup ∧ (∀ a ∈ r, a < m) ∧ r.length ≤ m) ∧ FeedOk ns ∧ O' = [(c, .lst (ns.map V.int))]) ⟨[], ns4, Same.refl _, .nil, rfl, fun r h => (List.not_mem_nil h).elim, ok4, rfl⟩ ?_ ?_
  · rintro i acc F' O' D H5 hi ⟨rs, ns, sF, dq, lr, all, okf, rfl⟩ hh
    have hi : i < 3 := hi
    walk_at "gg"
    refine ⟨c, ns, m, rfl, hh.get (by walk_at "m"), okf, by omega, fun pk H6 ns6 ps n6 hb e ok6 hpk ndp ltp lp => ?_⟩
    have h6 := hh.but2 (.tl .hd) hb e n6 hpk
    have s6 := h6.grow
    have h6' := h6.frz
    have fpk : upd F' pk (.lst (rowI ps)) pk = some (.lst (rowI ps)) := upd_same
    have la := dq.len
    rw [List.length_map] at la
    refine k_turn h6' (by omega) ⟨rs ++ [ps], ns6, sF.trans s6, ?_, by rw [List.length_append, lr]; rfl, fun r hr => ?_, ok6, rfl⟩
    · rw [List.map_append]
      exact (dq.up s6 _ _).snoc (dq_row fpk)
    · rcases List.mem_append.mp hr with hr | hr
      · exact all r hr
      · rw [List.mem_singleton.mp hr]
        exact ⟨ndp, ltp, lp⟩
  rintro acc F' O' rp H5 ⟨rs, ns5, s5, dq, lr, all, ok5, rfl⟩ h
  have lr : rs.length = 3 := lr
  obtain ⟨r0, r1, r2, rfl⟩ : ∃ a b c, rs = [a, b, c] := by
    match rs, lr with
    | [a, b, c], _ => exact ⟨a, b, c, rfl⟩
  have al0 := all r0 (by simp)
  have al1 := all r1 (by simp)
  have al2 := all r2 (by simp)
  cases dq with | cons q0 dq => cases dq with | cons q1 dq => cases dq with | cons q2 dq => cases dq with | nil =>
  obtain ⟨a0, rfl, fa0⟩ := row_at q0
  obtain ⟨a1, rfl, fa1⟩ := row_at q1
  obtain ⟨a2, rfl, fa2⟩ := row_at q2
  have sA := h.grow
  have h := h.frz
  have frp : upd F' rp (.lst [.ref a0, .ref a1, .ref a2]) rp = some (.lst [.ref a0, .ref a1, .ref a2]) := upd_same
  have fa0 := sA _ _ fa0
  have fa1 := sA _ _ fa1
  have fa2 := sA _ _ fa2
  have s45 := s5.trans sA
  generalize upd F' rp (.lst [.ref a0, .ref a1, .ref a2]) = F5 at h frp fa0 fa1 fa2 s45
  have fwl := s45 _ _ fwl
  have du := du.up s45 _ _
  clear q0 q1 q2 s5 sA s45 all
  walk_at "gg"
  refine ⟨c, ns5, 8, rfl, h.get (List.Mem.head _), ok5, by decide, by decide, fun H6 ns6 turn hb e ok6 tu0 tu1 => ?_⟩
  have h := h.but .hd hb e
  walk_at "gg"
  refine ⟨c, ns6, 9, rfl, h.get (List.Mem.head _), ok6, by decide, by decide, fun H7 ns7 place hb e ok7 pl0 pl1 => ?_⟩
  have h := h.but .hd hb e
  obtain ⟨turn, rfl⟩ := Int.eq_ofNat_of_zero_le tu0
  walk_at "gg"
  refine ⟨c, ns7, 11, rfl, h.get (List.Mem.head _), ok7, by decide, by decide, fun H8 ns8 pick_ hb e ok8 pi0 pi1 => ?_⟩
  have h := h.but .hd hb e
  obtain ⟨place, rfl⟩ := Int.eq_ofNat_of_zero_le pl0
  obtain ⟨pick_, rfl⟩ := Int.eq_ofNat_of_zero_le pi0
  walk_at "gg"
  rw [em]
  refine ⟨c, ns8, m + 1, rfl, h.get (List.Mem.head _), ok8, by omega, fun nm H9 ns9 names n9 hb e ok9 hnm lnm nms => ?_⟩
  have h := h.but2 .hd hb e n9 hnm
  have s8 := h.grow
  have h := h.frz
  have fnm : upd F5 nm (.lst (names.map V.str)) nm = some (.lst (names.map V.str)) := upd_same
  generalize upd F5 nm (.lst (names.map V.str)) = F8 at h s8 fnm
  have fwl := s8 _ _ fwl
  have du := du.up s8 _ _
  have frp := s8 _ _ frp
  have fa0 := s8 _ _ fa0
  have fa1 := s8 _ _ fa1
  have fa2 := s8 _ _ fa2
  have h : Has F8 [] H9 := h.drop
  clear hnm hb e n9 s4 s8
  generalize F8 = F at h fwl du frp fa0 fa1 fa2 fnm
  have ltn : ∀ {r : List Nat}, (∀ a ∈ r, a < m) → ∀ a ∈ r, a < names.length := fun l a ha => by have := l a ha; omega
  have el : names[m]? = some (nmz names m) := nmz_at (by omega)
  generalize nmz names m = late at el
  have nml := nms.ok late (List.mem_of_getElem? el)
  walk_at "gg"
  refine g_ixL (v := .str late) (h.same _ _ fnm) (atI_nat (by rw [List.getElem?_map, el]; rfl)) ?_
  walk_at "gg"
  refine ⟨late, rfl, rfl, by have := nml.l2; omega, ?_⟩
  walk_at "gg"
  refine g_klst (by walk_at "sz") h (fun sg H10 n10 h10 => ?_)
  refine g_addL (h10.same _ _ fnm) (h10.get (List.Mem.head _)) (sz (by rw [List.length_map]; show _ + 2 ≤ _; omega)) h10 (fun ak H11 n11 h11 => ?_)
  have e11 : names.map V.str ++ [V.str (PySem.Txt.upper late), V.str ""] = (names ++ [PySem.Txt.upper late, ""]).map V.str := by rw [List.map_append]; rfl
  rw [e11] at h11
  have h := h11.sub (O' := [(ak, .lst ((names ++ [PySem.Txt.upper late, ""]).map V.str))]) (by walk_at "sub")
  have s1 := h.grow
  have h := h.frz
  have fak : upd F ak (.lst ((names ++ [PySem.Txt.upper late, ""]).map V.str)) ak = some (.lst ((names ++ [PySem.Txt.upper late, ""]).map V.str)) := upd_same
  generalize upd F ak (.lst ((names ++ [PySem.Txt.upper late, ""]).map V.str)) = F1 at h s1 fak
  have okask : okL (names ++ [PySem.Txt.upper late, ""]) := fun z hz => by
    rcases List.mem_append.mp hz with h | h
    · exact (nms.ok z h).strOk
    · simp only [List.mem_cons, List.not_mem_nil, or_false] at h
      rcases h with rfl | rfl
      · exact upper_ok nml
      · decide +kernel
  generalize names ++ [PySem.Txt.upper late, ""] = asked at fak okask
  have fwl := s1 _ _ fwl
  have du := du.up s1 _ _
  have frp := s1 _ _ frp
  have fa0 := s1 _ _ fa0
  have fa1 := s1 _ _ fa1
  have fa2 := s1 _ _ fa2
  have fnm := s1 _ _ fnm
  clear s1 n10 n11 e11 h10 h11
  walk_at "gg"
  refine g_slM (g_slS (SqL.of (h.same _ _ fwl)) h (fun w2 H5 n5 h5 => ?_))
  rw [cutV_to] at h5
  have hw2 := h5.get (List.Mem.head _)
  have lwt : (web.take m).length = m := by rw [List.length_take]; omega
  have dut : DqAll F1 (us.take m) ((web.take m).map rowD) := by rw [List.map_take]; exact dq_take m du
  walk_at "gg"
  refine ⟨w2, nm, us.take m, web.take m, names, rfl, hw2, dut.up h5.same _ _, wok.take m, h5.same _ _ fnm, nms, by omega, by omega, fun A F H6 rows sF st R => ?_⟩
  rw [lwt] at R
  have R := R.up wok
  have sA := h5.same.trans sF
  have fwl := sA _ _ fwl
  have du := du.up sA _ _
  have dut := dut.up sA _ _
  have fnm := sA _ _ fnm
  have frp := sA _ _ frp
  have fa0 := sA _ _ fa0
  have fa1 := sA _ _ fa1
  have fa2 := sA _ _ fa2
  have fak := sA _ _ fak
  clear h h5 n5 hw2 sA sF
  have hH6 := Has.start H6
  walk_at "gg"
  refine g_slM (g_slS (SqL.of (st.same _ _ fwl)) hH6 (fun w3 H7 n7 h7 => ?_))
  rw [cutV_to] at h7
  walk_at "gg"
  refine ⟨w3, nm, us.take m, web.take m, names, rfl, h7.get (List.Mem.head _), (dut.up st.same _ _).up h7.same _ _, wok.take m, h7.same _ _ (st.same _ _ fnm), nms, by omega, by omega, fun u H8 kvs ls s8 n8 hu ud L => ?_⟩
  rw [lwt] at L
  have L := L.up wok
  have st := (st.on h7.same).on s8
  have G := LsG.of L wok nms (by omega)
  have MGk := G.mg
  clear hH6 h7
  walk_at "gg"
  refine ⟨u, kvs, ls, rfl, hu, ud, G, fun b H9 s9 n9 ba => ?_⟩
  have st := st.on s9
  have kin : ∀ {xs : List Str}, (∀ z ∈ xs, ∃ k, k < m ∧ names[k]? = some z) → ∀ z ∈ xs, kn rows z = true := fun h z hz => R.known.mpr (h z hz)
  have okx : ∀ {xs : List Str}, (∀ z ∈ xs, ∃ k, k < m ∧ names[k]? = some z) → okL xs := fun h z hz => by
    obtain ⟨k, _, ek⟩ := h z hz
    exact (nms.ok z (List.mem_of_getElem? ek)).strOk
  have lnk : ∀ z, ¬ (∃ k, k < m ∧ names[k]? = some z) → kn rows z = false := fun z h => by
    cases e : kn rows z with
    | false => rfl
    | true => exact (h (R.known.mp e)).elim
  have mks : ∀ z, z ∈ ls.map (·.1) ↔ kn rows z = true := fun z => (R.kn_eq L z).symm
  have mkn : ∀ z, z ∈ ls.map (·.1) ↔ ∃ k, k < m ∧ names[k]? = some z := fun z => by rw [mks z, R.known]
  have hM : ∀ x y z, x ∈ ls.map (·.1) → y ∈ ls.map (·.1) → (MB (Un ls) x y z ↔ MB (Un rows) x y z) := fun x y z hx hy => R.mb L wok ((mks x).mp hx) ((mks y).mp hy) z
  have clo : ∀ {xs : List Str}, (∀ z ∈ xs, kn rows z = true) → ∀ z, Cl (MB (Un ls)) (fun z => z ∈ xs) z ↔ Cl (MB (Un rows)) (fun z => z ∈ xs) z := fun kx z => cl_own R L wok kx z
  have ekn : (fun z => decide (z ∈ ls.map (·.1))) = kn rows := funext fun z => by
    rw [Bool.eq_iff_iff, decide_eq_true_eq, R.kn_eq L z]
  generalize MB (Un ls) = M at ba MGk hM clo
  generalize ls.map (·.1) = ks at ba MGk hM mks mkn ekn
  have few := MGk.few
  -- the three lists, the first of which will be emptied
  have ndn : ∀ {r : List Nat}, r.Nodup → (∀ a ∈ r, a < m) → (r.map (nmz names)).Nodup := fun n l => nmz_nodup nms.nd n (ltn l)
  have inn : ∀ {r : List Nat}, (∀ a ∈ r, a < m) → ∀ z ∈ r.map (nmz names), ∃ k, k < m ∧ names[k]? = some z := fun l z hz => by
    obtain ⟨a, ha, rfl⟩ := List.mem_map.mp hz
    exact ⟨a, l a ha, nmz_at (ltn l a ha)⟩
  have h := Has.start H9
  walk_at "gg"
  refine k_lcL (st.same _ _ frp) h (fun j acc F' O' => Same H9 F' ∧ ((j = 0 ∧ acc = [] ∧ O' = []) ∨ (1 ≤ j ∧ ∃ o0 acc', acc = .ref o0 :: acc' ∧ O' = [(o0, .lst ((r0.map (nmz names)).map V.str))] ∧ DqAll F' acc' ((([r1, r2].take (j - 1)).map fun r => r.map (nmz names)).map sD)))) ⟨Same.refl _, .inl ⟨rfl, rfl, rfl⟩⟩ ?_ ?_ ?_
  · rintro j acc F' O' D ⟨sF, _⟩ hh
    exact hh.same _ _ (sF _ _ (st.same _ _ frp))
  · rintro j v acc F' O' D H1 hv ⟨sF, cs⟩ hh
    have key : ∃ (a : Addr) (r : List Nat), v = .ref a ∧ F a = some (.lst (rowI r)) ∧ [r0, r1, r2][j]? = some r ∧ (∀ a ∈ r, a < m) ∧ r.length ≤ m := by
      match j, hv with
      | 0, hv => exact ⟨a0, r0, (Option.some.inj hv).symm, fa0, rfl, al0.2.1, al0.2.2⟩
      | 1, hv => exact ⟨a1, r1, (Option.some.inj hv).symm, fa1, rfl, al1.2.1, al1.2.2⟩
      | 2, hv => exact ⟨a2, r2, (Option.some.inj hv).symm, fa2, rfl, al2.2.1, al2.2.2⟩
    obtain ⟨a, r, rfl, far, ej, ltr, lr⟩ := key
    have sF9 := st.same.trans sF
    walk_at "gg"
    refine k_lcL (hh.same _ _ (sF9 _ _ far)) hh (fun i acc2 F2 O2 => acc2 = ((r.take i).map (nmz names)).map V.str ∧ F2 = F' ∧ O2 = (D, .lst acc) :: O') ⟨rfl, rfl, rfl⟩ ?_ ?_ ?_
    · rintro i acc2 F2 O2 D2 ⟨_, rfl, rfl⟩ h2
      exact h2.same _ _ (sF9 _ _ far)
    · rintro i v2 acc2 F2 O2 D2 H2 hv2 ⟨rfl, rfl, rfl⟩ h2
      unfold rowI at hv2
      rw [List.getElem?_map] at hv2
      obtain ⟨b', hb', rfl⟩ := Option.map_eq_some_iff.mp hv2
      have ez := nmz_at (ltn ltr b' (List.mem_of_getElem? hb'))
      walk_at "gg"
      refine g_ixL (v := .str (nmz names b')) (h2.same _ _ (sF9 _ _ fnm)) (atI_nat (by rw [List.getElem?_map, ez]; rfl)) ?_
      refine k_turn h2 (by rw [List.length_map, List.length_map, List.length_take]; omega) ⟨?_, rfl, rfl⟩
      rw [map_take1 (nmz names) hb', List.map_append]
      rfl
    rintro acc2 F2 O2 p2 H2 ⟨rfl, rfl, rfl⟩ h2
    unfold rowI at h2
    rw [List.length_map, List.take_length] at h2
    rcases cs with ⟨rfl, rfl, rfl⟩ | ⟨hj, o0, acc', rfl, rfl, dq⟩
    · have e : r0 = r := Option.some.inj ej
      subst e
      have h2 := h2.perm (O' := [(D, .lst []), (p2, .lst ((r0.map (nmz names)).map V.str))]) (List.Perm.swap _ _ _)
      exact k_turn h2 (by decide) ⟨sF, .inr ⟨Nat.le_refl 1, p2, [], rfl, rfl, .nil⟩⟩
    · have s2 := h2.grow
      have fp2 : upd F2 p2 (.lst ((r.map (nmz names)).map V.str)) p2 = some (.lst ((r.map (nmz names)).map V.str)) := upd_same
      have h2 := h2.frz
      have la := dq.len
      rw [List.length_map, List.length_map, List.length_take] at la
      have ej1 : [r1, r2][j - 1]? = some r := by
        match j, hj, ej with
        | j + 1, _, ej => exact ej
      have l2 : [r1, r2].length = 2 := rfl
      refine k_turn h2 (by rw [List.length_cons]; omega) ⟨sF.trans s2, .inr ⟨by omega, o0, acc' ++ [.ref p2], rfl, rfl, ?_⟩⟩
      rw [show j + 1 - 1 = (j - 1) + 1 by omega, List.take_add_one, ej1, List.map_append, List.map_append]
      exact (dq.up s2 _ _).snoc (dq_sd fp2)
  rintro acc G O' so HA ⟨sF, cs⟩ hA
  rcases cs with ⟨e, _⟩ | ⟨_, o0, acc', rfl, rfl, dq⟩
  · cases e
  have dq : DqAll G acc' [sD (r1.map (nmz names)), sD (r2.map (nmz names))] := dq
  cases dq with | cons q1 dq => cases dq with | cons q2 dq => cases dq with | nil =>
  obtain ⟨o1, rfl, ho1⟩ := sd_at q1
  obtain ⟨o2, rfl, ho2⟩ := sd_at q2
  have sA := hA.grow
  have h := hA.frz
  have hso : upd G so (.lst [.ref o0, .ref o1, .ref o2]) so = some (.lst [.ref o0, .ref o1, .ref o2]) := upd_same
  have ho1 := sA _ _ ho1
  have ho2 := sA _ _ ho2
  have s9 := sF.trans sA
  generalize upd G so (.lst [.ref o0, .ref o1, .ref o2]) = G at h hso ho1 ho2 s9
  clear q1 q2 hA sF sA frp fa0 fa1 fa2
  have nd0 := ndn al0.1 al0.2.1
  have nd1 := ndn al1.1 al1.2.1
  have nd2 := ndn al2.1 al2.2.1
  have in0 := inn al0.2.1
  have in1 := inn al1.2.1
  have in2 := inn al2.2.1
  have l0 : (r0.map (nmz names)).length ≤ 8 := by rw [List.length_map]; have := al0.2.2; omega
  have l1 : (r1.map (nmz names)).length ≤ 8 := by rw [List.length_map]; have := al1.2.2; omega
  have l2 : (r2.map (nmz names)).length ≤ 8 := by rw [List.length_map]; have := al2.2.2; omega
  generalize r0.map (nmz names) = x0 at h nd0 in0 l0
  generalize r1.map (nmz names) = x1 at ho1 nd1 in1 l1
  generalize r2.map (nmz names) = x2 at ho2 nd2 in2 l2
  have sub0 : ∀ z ∈ x0, z ∈ ks := fun z hz => (mkn z).mpr (in0 z hz)
  have sub1 : ∀ z ∈ x1, z ∈ ks := fun z hz => (mkn z).mpr (in1 z hz)
  have sub2 : ∀ z ∈ x2, z ∈ ks := fun z hz => (mkn z).mpr (in2 z hz)
  have row : ∀ {F' : Hp} {O : Own} {H : Hp} {j : Nat} {v : V}, Has F' O H → Same G F' → (∀ q ∈ [((o0, .lst (x0.map V.str)) : Addr × HO)], q ∈ O) → [V.ref o0, .ref o1, .ref o2][j]? = some v → ∃ o x, v = .ref o ∧ H o = some (.lst (x.map V.str)) ∧ [x0, x1, x2][j]? = some x ∧ x.Nodup ∧ (∀ z ∈ x, z ∈ ks) ∧ x.length ≤ 8 := fun {F' O H j v} hh sG mm hv => by
    match j, hv with
    | 0, hv => exact ⟨o0, x0, (Option.some.inj hv).symm, hh.get (mm _ (List.Mem.head _)), rfl, nd0, sub0, l0⟩
    | 1, hv => exact ⟨o1, x1, (Option.some.inj hv).symm, hh.same _ _ (sG _ _ ho1), rfl, nd1, sub1, l1⟩
    | 2, hv => exact ⟨o2, x2, (Option.some.inj hv).symm, hh.same _ _ (sG _ _ ho2), rfl, nd2, sub2, l2⟩
  -- kept
  walk_at "gg"
  refine k_lcL (h.same _ _ hso) h (fun j acc F' O' => Same G F' ∧ DqAll F' acc (([x0, x1, x2].take j).map sD) ∧ O' = [(o0, .lst (x0.map V.str))]) ⟨Same.refl _, .nil, rfl⟩ ?_ ?_ ?_
  · rintro j acc F' O' D ⟨sG, _, rfl⟩ hh
    exact hh.same _ _ (sG _ _ hso)
  · rintro j v acc F' O' D H1 hv ⟨sG, dq, rfl⟩ hh
    obtain ⟨o, x, rfl, hx, ej, _, _, lx⟩ := row hh sG (fun q hq => List.mem_cons_of_mem _ hq) hv
    walk_at "gg"
    refine g_listL hx hh (fun p H2 n2 h2 => ?_)
    have s2 := h2.grow
    have fp : upd F' p (.lst (x.map V.str)) p = some (.lst (x.map V.str)) := upd_same
    have h2 := h2.frz
    have la := dq.len
    rw [List.length_map, List.length_take] at la
    have l3 : [x0, x1, x2].length = 3 := rfl
    refine k_turn h2 (by omega) ⟨sG.trans s2, ?_, rfl⟩
    rw [List.take_add_one, ej, List.map_append]
    exact (dq.up s2 _ _).snoc (dq_sd fp)
  rintro acc G1 O' kl HB ⟨sG, dq, rfl⟩ hB
  have dq : DqAll G1 acc [sD x0, sD x1, sD x2] := dq
  have sB := hB.grow
  have h := hB.frz
  have hkl : upd G1 kl (.lst acc) kl = some (.lst acc) := upd_same
  have dqk := dq.up sB _ _
  have s9 := s9.trans (sG.trans sB)
  have sG := sG.trans sB
  generalize upd G1 kl (.lst acc) = G2 at h hkl dqk s9 sG
  have row2 : ∀ {F' : Hp} {O : Own} {H : Hp} {j : Nat} {v : V}, Has F' O H → Same G2 F' → (∀ q ∈ [((o0, .lst (x0.map V.str)) : Addr × HO)], q ∈ O) → [V.ref o0, .ref o1, .ref o2][j]? = some v → ∃ o x, v = .ref o ∧ H o = some (.lst (x.map V.str)) ∧ [x0, x1, x2][j]? = some x ∧ x.Nodup ∧ (∀ z ∈ x, z ∈ ks) ∧ x.length ≤ 8 := fun hh s => row hh (sG.trans s)
  have hso := sG _ _ hso
  clear row hB sB dq
  -- due
  have nil3 : ∀ (i : Nat) (x u : List Str), [x0, x1, x2][i]? = some x → ([] : List (List Str))[i]? = some u → Asc u ∧ ∀ z, z ∈ u ↔ Cl M (fun z => z ∈ x) z := fun i x u _ e => by
    rw [List.getElem?_nil] at e
    cases e
  walk_at "gg"
  refine k_lcL (h.same _ _ hso) h (fun j acc F' O' => Same G2 F' ∧ (∃ us : List (List Str), DqAll F' acc (us.map sD) ∧ us.length = j ∧ (∀ i x u, [x0, x1, x2][i]? = some x → us[i]? = some u → Asc u ∧ ∀ z, z ∈ u ↔ Cl M (fun z => z ∈ x) z)) ∧ O' = [(o0, .lst (x0.map V.str))]) ⟨Same.refl _, ⟨([] : List (List Str)), .nil, rfl, nil3⟩, rfl⟩ ?_ ?_ ?_
  · rintro j acc F' O' D ⟨sG, _, rfl⟩ hh
    exact hh.same _ _ (sG _ _ hso)
  · rintro j v acc F' O' D H1 hv ⟨sG2, ⟨us, dq, lu, all⟩, rfl⟩ hh
    obtain ⟨o, x, rfl, hx, ej, ndx, subx, lx⟩ := row2 hh sG2 (fun q hq => List.mem_cons_of_mem _ hq) hv
    have lj : j < 3 := (List.getElem?_eq_some_iff.mp ej).1
    walk_at "gg"
    refine ⟨b, o, ks, M, x, rfl, ((ba.mono s9).mono sG2).mono hh.same, hx, ndx, subx, MGk, fun p H2 u s2 n2 hp as_ mu => ?_⟩
    have h2 := hh.made n2 s2 hp
    have g2 := h2.grow
    have fp : upd F' p (.lst (u.map V.str)) p = some (.lst (u.map V.str)) := upd_same
    have h2 := h2.frz
    have la := dq.len
    rw [List.length_map] at la
    refine k_turn h2 (by omega) ⟨sG2.trans g2, ⟨us ++ [u], ?_, by rw [List.length_append, lu]; rfl, fun i x' u' ex eu => ?_⟩, rfl⟩
    · rw [List.map_append]
      exact (dq.up g2 _ _).snoc (dq_sd fp)
    · by_cases hi : i < us.length
      · rw [List.getElem?_append_left hi] at eu
        exact all i x' u' ex eu
      · rw [List.getElem?_append_right (by omega)] at eu
        have hi0 : i - us.length = 0 := by
          have := (List.getElem?_eq_some_iff.mp eu).1
          have l1 : [u].length = 1 := rfl
          omega
        rw [hi0] at eu
        have e1 : u = u' := Option.some.inj eu
        have e2 : i = j := by omega
        subst e1
        subst e2
        rw [ej] at ex
        have e3 : x = x' := Option.some.inj ex
        subst e3
        exact ⟨as_, mu⟩
  rintro accd G3 O' dl HC ⟨sG2, ⟨us_, dq, lu, all⟩, rfl⟩ hC
  have lu : us_.length = 3 := lu
  obtain ⟨u0, u1, u2, rfl⟩ : ∃ a b c, us_ = [a, b, c] := by
    match us_, lu with
    | [a, b, c], _ => exact ⟨a, b, c, rfl⟩
  obtain ⟨as0, mu0⟩ := all 0 x0 u0 rfl rfl
  obtain ⟨as1, mu1⟩ := all 1 x1 u1 rfl rfl
  obtain ⟨as2, mu2⟩ := all 2 x2 u2 rfl rfl
  have sC := hC.grow
  have h := hC.frz
  have dq := dq.up sC _ _
  cases dq with | cons q0 dq => cases dq with | cons q1 dq => cases dq with | cons q2 dq => cases dq with | nil =>
  obtain ⟨d0, rfl, hd0⟩ := sd_at q0
  obtain ⟨d1, rfl, hd1⟩ := sd_at q1
  obtain ⟨d2, rfl, hd2⟩ := sd_at q2
  have hdl : upd G3 dl (.lst [.ref d0, .ref d1, .ref d2]) dl = some (.lst [.ref d0, .ref d1, .ref d2]) := upd_same
  have sG3 := sG2.trans sC
  have s9 := s9.trans sG3
  generalize upd G3 dl (.lst [.ref d0, .ref d1, .ref d2]) = G4 at h hd0 hd1 hd2 hdl sG3 s9
  have row3 : ∀ {F' : Hp} {O : Own} {H : Hp} {j : Nat} {v : V}, Has F' O H → Same G4 F' → (∀ q ∈ [((o0, .lst (x0.map V.str)) : Addr × HO)], q ∈ O) → [V.ref o0, .ref o1, .ref o2][j]? = some v → ∃ o x, v = .ref o ∧ H o = some (.lst (x.map V.str)) ∧ [x0, x1, x2][j]? = some x ∧ x.Nodup ∧ (∀ z ∈ x, z ∈ ks) ∧ x.length ≤ 8 := fun hh s => row2 hh (sG3.trans s)
  have hso := sG3 _ _ hso
  have hkl := sG3 _ _ hkl
  have dqk := dqk.up sG3 _ _
  clear row2 hC sC q0 q1 q2 all sG2
  -- by the order
  have kks : ∀ {xs : List Str}, (∀ z ∈ xs, z ∈ ks) → ∀ z ∈ xs, kn rows z = true := fun h z hz => (mks z).mp (h z hz)
  have subu : ∀ {x u : List Str}, (∀ z ∈ x, z ∈ ks) → (∀ z, z ∈ u ↔ Cl M (fun z => z ∈ x) z) → ∀ z ∈ u, z ∈ ks := fun s mu z hz => ((mu z).mp hz).least (C := fun z => z ∈ ks) s MGk.cl
  have su0 := subu sub0 mu0
  have su1 := subu sub1 mu1
  have su2 := subu sub2 mu2
  have lot : ∀ {us xs : List Str}, Asc us → (∀ z ∈ us, z ∈ ks) → (∀ z, z ∈ us ↔ Cl M (fun z => z ∈ xs) z) → LotOk rows us := fun asc sb mu => ⟨asc, kks sb, fun a b c ha hb g => (mu c).mpr (.step ((mu a).mp ha) ((mu b).mp hb) ((hM a b c (sb a ha) (sb b hb)).mpr g))⟩
  have lk0 := lot as0 su0 mu0
  have lk1 := lot as1 su1 mu1
  have lk2 := lot as2 su2 mu2
  have rf := R.refl
  -- lots
  have nil4 : ∀ (i : Nat) (a : Addr) (u : List Str), ([] : List Addr)[i]? = some a → [u0, u1, u2][i]? = some u → LotF T A G4 a u := fun i a u e => by
    rw [List.getElem?_nil] at e
    cases e
  walk_at "gg"
  refine k_lcL (h.same _ _ hso) h (fun j acc F' O' => Same G4 F' ∧ (∃ as : List Addr, acc = as.map V.ref ∧ as.length = j ∧ ∀ i a u, as[i]? = some a → [u0, u1, u2][i]? = some u → LotF T A F' a u) ∧ O' = [(o0, .lst (x0.map V.str))]) ⟨Same.refl _, ⟨([] : List Addr), rfl, rfl, nil4⟩, rfl⟩ ?_ ?_ ?_
  · rintro j acc F' O' D ⟨sG, _, rfl⟩ hh
    exact hh.same _ _ (sG _ _ hso)
  · rintro j v acc F' O' D H1 hv ⟨sG4, ⟨as, rfl, la, all⟩, rfl⟩ hh
    obtain ⟨o, x, rfl, hx, ej, ndx, subx, lx⟩ := row3 hh sG4 (fun q hq => List.mem_cons_of_mem _ hq) hv
    have lj : j < 3 := (List.getElem?_eq_some_iff.mp ej).1
    obtain ⟨u, eu, asu, muu⟩ : ∃ u, [u0, u1, u2][j]? = some u ∧ Asc u ∧ ∀ z, z ∈ u ↔ Cl M (fun z => z ∈ x) z := by
      match j, ej with
      | 0, ej => exact ⟨u0, rfl, as0, by rw [← Option.some.inj ej]; exact mu0⟩
      | 1, ej => exact ⟨u1, rfl, as1, by rw [← Option.some.inj ej]; exact mu1⟩
      | 2, ej => exact ⟨u2, rfl, as2, by rw [← Option.some.inj ej]; exact mu2⟩
    have s9H : Same H9 H1 := (s9.trans sG4).trans hh.same
    have hc := nodup_of_chk (kks subx) ndx
    walk_at "gg"
    refine ⟨rfl, ?_⟩
    walk_at "gg"
    refine ⟨A.a, o, rows, x, rfl, st.ord.mono s9H, hx, by omega, rf, fun _ a H2 ws s2 n2 lk2_ m2 => ?_, (fun z e => by rw [hc] at e; cases e), (fun z e => by rw [hc] at e; cases e)⟩
    have e : ws = u := Asc.ext lk2_.asc asu fun z => (m2 z).trans ((muu z).trans (clo (kks subx) z)).symm
    subst e
    obtain ⟨dx, nl, L, na, nx, nn⟩ := n2
    have L3 : LotA T (rmO ((D, .lst (as.map V.ref)) :: [(o0, .lst (x0.map V.str))]) H2) a dx nl A.a ws := ⟨re_new hh na L.i, re_new hh nx L.x, re_new hh nn L.n⟩
    have h3 := (hh.on s2).re
    have s13 := (hh.on s2).reF
    have lf : LotF T A (rmO ((D, .lst (as.map V.ref)) :: [(o0, .lst (x0.map V.str))]) H2) a ws := st.lot ⟨dx, nl, L3, s9H.free na, s9H.free nx, s9H.free nn⟩
    generalize rmO ((D, HO.lst (as.map V.ref)) :: [(o0, HO.lst (x0.map V.str))]) H2 = F3 at h3 s13 lf
    refine k_turn h3 (by rw [List.length_map]; omega) ⟨sG4.trans s13, ⟨as ++ [a], by rw [List.map_append]; rfl, by rw [List.length_append, la]; rfl, fun i a' u' ea eu' => ?_⟩, rfl⟩
    by_cases hi : i < as.length
    · rw [List.getElem?_append_left hi] at ea
      exact (all i a' u' ea eu').mono s13
    · rw [List.getElem?_append_right (by omega)] at ea
      have hi0 : i - as.length = 0 := by
        have := (List.getElem?_eq_some_iff.mp ea).1
        have l1 : [a].length = 1 := rfl
        omega
      rw [hi0] at ea
      have e1 : a = a' := Option.some.inj ea
      have e2 : i = j := by omega
      subst e1
      subst e2
      rw [eu] at eu'
      have e3 : ws = u' := Option.some.inj eu'
      subst e3
      exact lf
  rintro accl G5 O' ll HD ⟨sG4, ⟨as, rfl, la, all⟩, rfl⟩ hD
  have la : as.length = 3 := la
  obtain ⟨t0, t1, t2, rfl⟩ : ∃ a b c, as = [a, b, c] := by
    match as, la with
    | [a, b, c], _ => exact ⟨a, b, c, rfl⟩
  have sD_ := hD.grow
  have T0 := (all 0 t0 u0 rfl rfl).mono sD_
  have T1 := (all 1 t1 u1 rfl rfl).mono sD_
  have T2 := (all 2 t2 u2 rfl rfl).mono sD_
  have h := hD.frz
  have hll : upd G5 ll (.lst ([t0, t1, t2].map V.ref)) ll = some (.lst [.ref t0, .ref t1, .ref t2]) := upd_same
  have sG5 := sG4.trans sD_
  have s9 := s9.trans sG5
  generalize upd G5 ll (.lst ([t0, t1, t2].map V.ref)) = G6 at h T0 T1 T2 hll sG5 s9
  have hso := sG5 _ _ hso
  have hkl := sG5 _ _ hkl
  have dqk := dqk.up sG5 _ _
  have hd0 := sG5 _ _ hd0
  have hd1 := sG5 _ _ hd1
  have hd2 := sG5 _ _ hd2
  have hdl := sG5 _ _ hdl
  clear hD sD_ all
  walk_at "gg"
  have okx0 : okL x0 := okx in0
  have okx1 : okL x1 := okx in1
  have okx2 : okL x2 := okx in2
  have shs : Sh 2 (.list [sD x0, sD x1, sD x2]) := Sh.list fun d hd => by
    simp only [List.mem_cons, List.not_mem_nil, or_false] at hd
    rcases hd with rfl | rfl | rfl
    · exact Sh.strs (n := 0) okx0
    · exact Sh.strs (n := 0) okx1
    · exact Sh.strs (n := 0) okx2
  have dqs : DqAll HD [V.ref o0, .ref o1, .ref o2] [sD x0, sD x1, sD x2] := by
    obtain ⟨_, _, e0, h0, ej0, _⟩ := row3 (j := 0) h sG5 (fun q hq => hq) rfl
    obtain ⟨_, _, e1, h1, ej1, _⟩ := row3 (j := 1) h sG5 (fun q hq => hq) rfl
    obtain ⟨_, _, e2, h2, ej2, _⟩ := row3 (j := 2) h sG5 (fun q hq => hq) rfl
    cases e0
    cases e1
    cases e2
    cases ej0
    cases ej1
    cases ej2
    exact .cons (dq_sd h0) (.cons (dq_sd h1) (.cons (dq_sd h2) .nil))
  refine g_neD (.lst (h.same _ _ hso) dqs) (.lst (h.same _ _ hkl) (dqk.up h.same _ _)) (shs.ok (by decide)) (shs.ok (by decide)) ?_
  rw [SeqAt.eqv_refl _ shs.1]
  walk_at "gg"
  refine g_ixL (v := .ref o0) (h.same _ _ hso) (atI_nat (j := 0) rfl) ?_
  walk_at "gg"
  refine g_clear h .hd (fun HE hE => ?_)
  have sE : Same G6 HE := hE.same
  cases dqk with | cons q0 dqk => cases dqk with | cons q1 dqk => cases dqk with | cons q2 dqk => cases dqk with | nil =>
  obtain ⟨p0, rfl, hp0⟩ := sd_at q0
  obtain ⟨p1, rfl, _⟩ := sd_at q1
  obtain ⟨p2, rfl, _⟩ := sd_at q2
  have lj : LJ T A G6 b kl p0 p1 p2 dl d0 d1 d2 ll t0 t1 t2 ak nm ks M x0 u0 u1 u2 asked names := ⟨ba.mono s9, hkl, hp0, hdl, hd0, hd1, hd2, hll, T0, T1, T2, (st.same.trans s9) _ _ fak, (st.same.trans s9) _ _ fnm⟩
  have lj := lj.mono sE
  have st := st.on (s9.trans sE)
  clear row3 h hE sE s9 q0 q1 q2 hp0 hkl hdl hd0 hd1 hd2 hll T0 T1 T2 hso dqs nil3 nil4 ba ho1 ho2 sG5
  have few0 := nodup_few as0.nodup su0 few
  have few1 := nodup_few as1.nodup su1 few
  have few2 := nodup_few as2.nodup su2 few
  walk_at "gg"
  refine ⟨ll, dl, ak, A.a, t0, t1, t2, d0, d1, d2, u0, u1, u2, asked, rfl, lj.ll, lj.dl, lj.ak, lj.t0.at, lj.t1.at, lj.t2.at, lj.d0, lj.d1, lj.d2, by omega, by omega, by omega, fun H10 s10 => ?_⟩
  have st := st.on s10
  have lj := lj.mono s10
  -- a list with an odd one
  walk_at "gg"
  refine g_klst (by walk_at "sz") (Has.start H10) (fun q1 H11 n11 h11 => ?_)
  walk_at "gg"
  refine g_ixL (v := .ref p0) (h11.same _ _ lj.kl) (atI_nat (j := 0) rfl) ?_
  refine g_addL (h11.get (List.Mem.head _)) (h11.same _ _ lj.k0) (sz (by rw [List.length_map]; show 1 + _ ≤ _; omega)) h11 (fun q2 H12 n12 h12 => ?_)
  have e12 : [V.str late] ++ x0.map V.str = ([late] ++ x0).map V.str := by rw [List.map_append]; rfl
  rw [e12] at h12
  walk_at "gg"
  refine ⟨late, rfl, rfl, by have := nml.l2; omega, ?_⟩
  walk_at "gg"
  refine g_klst (by walk_at "sz") h12 (fun q3 H13 n13 h13 => ?_)
  refine g_addL (h13.get (by walk_at "m")) (h13.get (List.Mem.head _)) (sz (by rw [List.length_map, List.length_append]; show 1 + _ + 2 ≤ _; omega)) h13 (fun q4 H14 n14 h14 => ?_)
  have e14 : ([late] ++ x0).map V.str ++ [V.str (PySem.Txt.upper late), V.str ""] = ([late] ++ x0 ++ [PySem.Txt.upper late, ""]).map V.str := by simp
  rw [e14] at h14
  have lkn : kn rows late = false := lnk _ (by
    rintro ⟨k, hk, ek⟩
    have := at_inj nms.nd ek el
    omega)
  have nnk : ∀ y, ¬ NmOk y → kn rows y = false := fun y hy => lnk y fun ⟨k, _, ek⟩ => hy (nms.ok y (List.mem_of_getElem? ek))
  have odd3 : ∀ z ∈ [late, PySem.Txt.upper late, ""], PyData.strOk z = true ∧ kn rows z = false := fun z h => by
    simp only [List.mem_cons, List.not_mem_nil, or_false] at h
    rcases h with rfl | rfl | rfl
    · exact ⟨nml.strOk, lkn⟩
    · exact ⟨upper_ok nml, nnk _ (upper_bad nml)⟩
    · exact ⟨by decide +kernel, nnk _ empty_bad⟩
  have okodd : ∀ z ∈ [late] ++ x0 ++ [PySem.Txt.upper late, ""], PyData.strOk z = true ∧ (z ∈ x0 ∨ kn rows z = false) := fun z hz => by
    rcases List.mem_append.mp hz with h | h
    · rcases List.mem_append.mp h with h | h
      · have := odd3 z (by rw [List.mem_singleton.mp h]; exact List.mem_cons_self)
        exact ⟨this.1, .inr this.2⟩
      · exact ⟨okx0 z h, .inl h⟩
    · have := odd3 z (List.mem_cons_of_mem _ h)
      exact ⟨this.1, .inr this.2⟩
  have lodd : ([late] ++ x0 ++ [PySem.Txt.upper late, ""]).length = x0.length + 3 := by
    rw [List.length_append, List.length_append]
    show 1 + x0.length + 2 = x0.length + 3
    omega
  have h20 := h14.sub (O' := [(q4, .lst (([late] ++ x0 ++ [PySem.Txt.upper late, ""]).map V.str))]) (by walk_at "sub")
  generalize [late] ++ x0 ++ [PySem.Txt.upper late, ""] = odd at h20 okodd lodd
  clear h11 h12 h13 h14 e12 e14
  walk_at "gg"
  refine g_ixL (v := .ref p0) (h20.same _ _ lj.kl) (atI_nat (j := 0) rfl) ?_
  walk_at "gg"
  refine g_listL (h20.same _ _ lj.k0) h20 (fun bd H21 n21 h21 => ?_)
  walk_at "gg"
  have lo2_ : (odd.map V.str).length = x0.length + 3 := by rw [List.length_map, lodd]
  rw [lo2_]
  refine g_rI (by show (0 : Int) < ((x0.length + 3 : Nat) : Int); omega) ?_
  have ei : (pick_ : Int) % ((x0.length + 3 : Nat) : Int) = ((pick_ % (x0.length + 3) : Nat) : Int) := by push_cast; rfl
  have hi : pick_ % (x0.length + 3) < odd.length := by rw [lodd]; exact Nat.mod_lt _ (by omega)
  rw [ei]
  have eo : odd[pick_ % (x0.length + 3)]? = some odd[pick_ % (x0.length + 3)] := List.getElem?_eq_getElem hi
  generalize odd[pick_ % (x0.length + 3)]'hi = o at eo
  have okO := okodd o (List.mem_of_getElem? eo)
  walk_at "gg"
  refine g_ixL (v := .str o) (h21.get (by walk_at "m")) (atI_nat (by rw [List.getElem?_map, eo]; rfl)) ?_
  walk_at "gg"
  refine g_insert h21 .hd (szl (by rw [List.length_map]; omega)) (by omega) (by omega) (fun H22 h22 => ?_)
  have e22 : (x0.map V.str).take ((place : Int)).toNat ++ [V.str o] ++ (x0.map V.str).drop ((place : Int)).toNat = (x0.take place ++ [o] ++ x0.drop place).map V.str := by
    rw [List.map_append, List.map_append, List.map_take, List.map_drop]
    rfl
  rw [e22] at h22
  obtain ⟨f, ef⟩ := ins_fault (kn := kn rows) (xs := x0) (n := place) (x := o) okO.2
  have lbd : (x0.take place ++ [o] ++ x0.drop place).length ≤ 20 := by
    rw [List.length_append, List.length_append, List.length_take, List.length_drop]
    show _ + 1 + _ ≤ 20
    omega
  have okb : okL (x0.take place ++ [o] ++ x0.drop place) := fun z hz => by
    rcases ins_mem.mp hz with rfl | h
    · exact okO.1
    · exact okx0 z h
  have okf := okb f.2 (chkE_some_mem ef)
  have h22 := h22.sub (O' := [(bd, .lst ((x0.take place ++ [o] ++ x0.drop place).map V.str))]) (by walk_at "sub")
  generalize x0.take place ++ [o] ++ x0.drop place = bad at h22 ef lbd okb
  have s22 := h22.same
  have st := st.on s22
  have lj := lj.mono s22
  have hbd := h22.get (List.Mem.head _)
  clear h20 h21 h22 s22 n21
  walk_at "gg"
  refine g_listL hbd (Has.start H22) (fun bd2 H23 n23 h23 => ?_)
  walk_at "gg"
  refine ⟨b, bd, ks, M, bad, rfl, lj.ba.mono h23.same, h23.same _ _ hbd, by omega, fun ft H24 s24 n24 h24 => ?_⟩
  rw [ekn, ef] at h24
  have okft : okL (fltL (some f)) := by
    obtain ⟨fb, fz⟩ := f
    cases fb
    · exact okL_two (by decide +kernel) okf
    · exact okL_two (by decide +kernel) okf
  have s224 := h23.same.trans s24
  have st := st.on s224
  have lj := lj.mono s224
  walk_at "gg"
  refine ⟨A.a, bd2, ft, rows, bad, fltL (some f), rfl, st.ord, rf, s24 _ _ (h23.get (List.Mem.head _)), by omega, okb, ⟨f, ef, rfl⟩, okft, h24, fun H25 s25 => ?_⟩
  have st := st.on s25
  have lj := lj.mono s25
  clear h23 n23 s24 n24 h24 s224 s25 hbd
  -- plus, version by version
  walk_at "gg"
  refine g_slM (g_slS (SqL.of lj.nm) (Has.start H25) (fun ro H26 n26 h26 => ?_))
  rw [cutV_to, ← List.map_take] at h26
  walk_at "gg"
  refine g_slM (g_slS (SqL.of (h26.get (List.Mem.head _))) h26 (fun ra H27 n27 h27 => ?_))
  rw [cutV_from, ← List.map_drop] at h27
  walk_at "gg"
  refine g_slM (g_slS (SqL.of (h27.get (by walk_at "m"))) h27 (fun rb H28 n28 h28 => ?_))
  rw [cutV_to, ← List.map_take] at h28
  walk_at "gg"
  have lnn : names.length ≤ 20 := by omega
  refine g_addL (h28.get (by walk_at "m")) (h28.get (List.Mem.head _)) (sz (by rw [List.length_map, List.length_map, List.length_drop, List.length_take, List.length_take]; omega)) h28 (fun rc H29 n29 h29 => ?_)
  rw [← List.map_append] at h29
  walk_at "gg"
  refine g_slM (g_slS (SqL.of (h29.get (List.Mem.head _))) h29 (fun rd H30 n30 h30 => ?_))
  rw [show cutV (List.map V.str (List.drop turn (List.take m names) ++ List.take turn (List.take m names))) none (some 4) = (List.take 4 (List.drop turn (List.take m names) ++ List.take turn (List.take m names))).map V.str by rw [List.map_take]; exact cutV_to _ 4] at h30
  have inr : ∀ z ∈ List.take 4 (List.drop turn (List.take m names) ++ List.take turn (List.take m names)), ∃ k, k < m ∧ names[k]? = some z := fun z hz => by
    have h1 : z ∈ names.take m := by
      rcases List.mem_append.mp (List.mem_of_mem_take hz) with h | h
      · exact List.mem_of_mem_drop h
      · exact List.mem_of_mem_take h
    obtain ⟨k, hk⟩ := List.mem_iff_getElem?.mp h1
    have lk := (List.getElem?_eq_some_iff.mp hk).1
    rw [List.length_take] at lk
    rw [List.getElem?_take_of_lt (by omega)] at hk
    exact ⟨k, by omega, hk⟩
  have s30 := h30.same
  have hrd := h30.get (List.Mem.head _)
  generalize List.take 4 (List.drop turn (List.take m names) ++ List.take turn (List.take m names)) = rl at hrd inr
  have st := st.on s30
  have lj := lj.mono s30
  clear h26 h27 h28 h29 h30 n26 n27 n28 n29 n30 s30
  refine k_forL hrd (fun t σ H' => ∃ (y20 y21 : Option V), σ = [some (.ref sc), some (.ref c), some (.int m), some (.ref wl), some (.ref rp), some (.int turn), some (.int place), some (.int pick_), some (.ref nm), some (.str late), some (.ref ak), some (.ref A.a), some (.ref b), some (.ref so), some (.ref kl), some (.ref dl), some (.ref ll), some (.ref q4), some (.ref bd), some (.ref ro), y20, y21, none] ∧ Same H30 H') ⟨_, _, rfl, Same.refl _⟩ ?_ ?_ ?_
  · rintro t σ H' _ ⟨y20, y21, rfl, s⟩
    exact s _ _ hrd
  · rintro t v σ H1 hv ⟨y20, y21, rfl, s1⟩
    obtain ⟨z, hz, rfl⟩ := str_at hv
    have kz := kin inr z (List.mem_of_getElem? hz)
    have lj := lj.mono s1
    have st := st.on s1
    walk_at "gg"
    refine g_ixL (v := .ref d0) lj.dl (atI_nat (j := 0) rfl) ?_
    walk_at "gg"
    refine g_klst (by walk_at "sz") (Has.start H1) (fun pa H2 n2 h2 => ?_)
    walk_at "gg"
    refine g_ixL (v := .ref d0) (h2.same _ _ lj.dl) (atI_nat (j := 0) rfl) ?_
    walk_at "gg"
    refine ⟨pa, d0, [z], u0, rfl, h2.get (List.Mem.head _), h2.same _ _ lj.d0, by show 1 ≤ 1000; decide, fun pb H3 s3 n3 hpb => ?_⟩
    have s13 := h2.same.trans s3
    have lf := List.length_filter_le (fun z => !decide (z ∈ u0)) [z]
    have lf1 : [z].length = 1 := rfl
    refine g_addL (s13 _ _ lj.d0) hpb (sz (by rw [List.length_map, List.length_map]; omega)) (Has.start H3) (fun pc H4 n4 h4 => ?_)
    rw [← List.map_append] at h4
    have m4 := fill_mem (x := u0) (u := [z])
    have nd4 := fill_nd as0.nodup (List.nodup_cons.mpr ⟨List.not_mem_nil, List.nodup_nil⟩ : [z].Nodup)
    generalize u0 ++ [z].filter (fun z => !decide (z ∈ u0)) = x4 at h4 m4 nd4
    have s14 := s13.trans h4.same
    have sx4 : ∀ y ∈ x4, y ∈ ks := fun y hy => ((m4 y).mp hy).elim (su0 y) (fun h => by rw [List.mem_singleton.mp h]; exact (mks z).mpr kz)
    walk_at "gg"
    refine ⟨b, pc, ks, M, x4, rfl, lj.ba.mono s14, h4.get (List.Mem.head _), nd4, sx4, MGk, fun wd H5 w5 s5 n5 hw5 as5 mw5 => ?_⟩
    have s15 := s14.trans s5
    have lj := lj.mono s15
    have st := st.on s15
    walk_at "gg"
    refine g_ixL (v := .ref t0) lj.ll (atI_nat (j := 0) rfl) ?_
    obtain ⟨dx, nl, L, _⟩ := lj.t0
    walk_at "gg"
    refine g_kmeth L.i rfl ?_
    walk_at "gg"
    refine ⟨t0, A.a, rows, u0, z, rfl, st.ord, rf, ⟨dx, nl, L⟩, lk0, fun _ p H6 w6 s6 n6 lk6 m6 => ?_, fun e => by rw [kz] at e; cases e⟩
    have e : w6 = w5 := Asc.ext lk6.asc as5 fun y => (m6 y).trans (Iff.trans (cl_eq (fun y hy => .base ((m4 y).mpr (hy.imp id List.mem_singleton.mpr))) (fun y hy => .base (((m4 y).mp hy).imp id List.mem_singleton.mp)) y) ((mw5 y).trans (clo (kks sx4) y)).symm)
    subst e
    have l6 := st.ord.chk_few lk6.chk
    walk_at "gg"
    refine ⟨p, wd, ak, A.a, w6, asked, rfl, n6.at, s6 _ _ hw5, s6 _ _ lj.ak, by omega, fun H7 s7 => ?_⟩
    walk_at "gg"
    exact ⟨_, _, rfl, s1.trans (s15.trans (s6.trans s7))⟩
  rintro σ H31 ⟨y20, y21, rfl, s31⟩
  have st := st.on s31
  have lj := lj.mono s31
  clear s31 hrd
  walk_at "gg"
  refine g_ixL (v := .ref t0) lj.ll (atI_nat (j := 0) rfl) ?_
  walk_at "gg"
  refine g_ixL (v := .ref d0) lj.dl (atI_nat (j := 0) rfl) ?_
  walk_at "gg"
  refine ⟨b, t0, d0, ak, A.a, rows, ks, M, u0, asked, rfl, st.ord, rf, lj.ba, MGk, hM, su0, lj.t0.at, lk0, lj.d0, lj.ak, okask, fun H32 s32 => ?_⟩
  have st := st.on s32
  have lj := lj.mono s32
  walk_at "gg"
  refine ⟨b, ll, dl, ak, A.a, t0, t1, t2, d0, d1, d2, rows, ks, M, u0, u1, u2, asked, rfl, st.ord, rf, lj.ba, MGk, hM, su0, su1, su2, lj.ll, lj.dl, lj.ak, lj.t0.at, lj.t1.at, lj.t2.at, lk0, lk1, lk2, lj.d0, lj.d1, lj.d2, fun H33 s33 => ?_⟩
  have st := st.on s33
  have lj := lj.mono s33
  clear s32 s33
  -- no versions
  walk_at "gg"
  refine ⟨late, rfl, rfl, by have := nml.l2; omega, ?_⟩
  walk_at "gg"
  refine g_klst (by walk_at "sz") (Has.start H33) (fun sg H34 n34 h34 => ?_)
  have e34 : [V.str late, V.str (PySem.Txt.upper late), V.str ""] = [late, PySem.Txt.upper late, ""].map V.str := rfl
  rw [e34] at h34
  have hsg := h34.get (List.Mem.head _)
  have st := st.on h34.same
  have lj := lj.mono h34.same
  generalize [late, PySem.Txt.upper late, ""] = sgl at hsg odd3
  clear h34 n34 e34
  refine k_forL hsg (fun t σ H' => ∃ (y20 : Option V), σ = [some (.ref sc), some (.ref c), some (.int m), some (.ref wl), some (.ref rp), some (.int turn), some (.int place), some (.int pick_), some (.ref nm), some (.str late), some (.ref ak), some (.ref A.a), some (.ref b), some (.ref so), some (.ref kl), some (.ref dl), some (.ref ll), some (.ref q4), some (.ref bd), some (.ref ro), y20, y21, none] ∧ Same H34 H') ⟨_, rfl, Same.refl _⟩ ?_ ?_ ?_
  · rintro t σ H' _ ⟨y20, rfl, s⟩
    exact s _ _ hsg
  · rintro t v σ H1 hv ⟨y20, rfl, s1⟩
    obtain ⟨z, hz, rfl⟩ := str_at hv
    have oz := odd3 z (List.mem_of_getElem? hz)
    have lj := lj.mono s1
    have st := st.on s1
    walk_at "gg"
    refine g_ixL (v := .ref t0) lj.ll (atI_nat (j := 0) rfl) ?_
    walk_at "gg"
    refine ⟨0, t0, A.a, rows, u0, z, "unknown", rfl, st.ord, rf, lj.t0.at, lk0, oz.1, .inl ⟨rfl, oz.2, rfl⟩, fun H2 s2 => ?_⟩
    walk_at "gg"
    exact ⟨_, rfl, s1.trans s2⟩
  rintro σ H35 ⟨y20', rfl, s35⟩
  have st := st.on s35
  have lj := lj.mono s35
  clear s35 hsg
  -- the later version
  obtain ⟨F7, sF7, st, keep, keepl⟩ := st.keepL
  have fdl := keep _ _ lj.dl
  have fd0 := keep _ _ lj.d0
  have fd1 := keep _ _ lj.d1
  have fd2 := keep _ _ lj.d2
  have fll := keep _ _ lj.ll
  have fak := keep _ _ lj.ak
  have ft0 := keepl _ _ lj.t0
  have ft1 := keepl _ _ lj.t1
  have ft2 := keepl _ _ lj.t2
  have fwl := sF7 _ _ fwl
  have du := du.up sF7 _ _
  have fnm := sF7 _ _ fnm
  clear lj keep keepl
  have er : web[m]? = some (web[m]'(by omega)) := List.getElem?_eq_getElem (by omega)
  generalize web[m]'(by omega) = r at er
  have wr := wok.row m r er
  obtain ⟨rw_, ev, hrw⟩ := web_row du er
  have ltr : ∀ a ∈ r, a < names.length := fun a ha => by have := wr.2.1 a ha; omega
  have h := Has.start H35
  have hrw2 := st.same _ _ hrw
  have hnm2 := st.same _ _ fnm
  obtain ⟨nl, ins⟩ := st.ins
  walk_at "gg"
  refine g_kmeth ins rfl ?_
  walk_at "gg"
  refine g_ixL (v := .ref rw_) (st.same _ _ fwl) (atI_nat ev) ?_
  refine k_lcL hrw2 h (fun j acc F' O' => acc = ((r.take j).map (nmz names)).map V.str ∧ H35 = F' ∧ O' = []) ⟨rfl, rfl, rfl⟩ ?_ ?_ ?_
  · rintro j acc F' O' D ⟨_, rfl, rfl⟩ hh
    exact hh.same _ _ hrw2
  · rintro j v acc F' O' D H1 hv ⟨rfl, rfl, rfl⟩ hh
    unfold rowI at hv
    rw [List.getElem?_map] at hv
    obtain ⟨b', hb', rfl⟩ := Option.map_eq_some_iff.mp hv
    have ez := nmz_at (ltr b' (List.mem_of_getElem? hb'))
    walk_at "gg"
    refine g_ixL (v := .str (nmz names b')) (hh.same _ _ hnm2) (atI_nat (by rw [List.getElem?_map, ez]; rfl)) ?_
    refine k_turn hh (by rw [List.length_map, List.length_map, List.length_take]; omega) ⟨?_, rfl, rfl⟩
    rw [map_take1 (nmz names) hb', List.map_append]
    rfl
  rintro acc F' O' pl H1 ⟨rfl, rfl, rfl⟩ h1
  unfold rowI at h1
  rw [List.length_map, List.take_length] at h1
  obtain ⟨F8, sF8, f8, st⟩ := st.made h1.free h1.same (h1.get (List.Mem.head _))
  clear h h1 hrw2 hnm2 hrw
  walk_at "gg"
  refine St1.put st f8 nml (R.fresh nms.nd el) (chk_row R nms.nd wok (by omega) er) (by rw [List.length_map]; omega) (by have := R.len; omega) (fun H40 F40 us_ s40 st pu => ?_)
  have R2 := R.put nms.nd wok el er pu
  have sF30 := (sF8.trans s40).trans st.same
  have fwl := sF30 _ _ fwl
  have du := du.up sF30 _ _
  have fnm := sF30 _ _ fnm
  have fdl := sF30 _ _ fdl
  have fd0 := sF30 _ _ fd0
  have fd1 := sF30 _ _ fd1
  have fd2 := sF30 _ _ fd2
  have fll := sF30 _ _ fll
  have fak := sF30 _ _ fak
  have ft0 := ft0.mono sF30
  have ft1 := ft1.mono sF30
  have ft2 := ft2.mono sF30
  have ho := st.ord
  have lk0o := lk0.kn
  have lk0 := lk0.later R R2 (by omega) wok
  clear st s40 sF30 sF8 f8 pu
  generalize rows ++ [(late, us_)] = rows2 at R2 ho lk0
  walk_at "gg"
  refine ⟨wl, nm, us, web, names, rfl, fwl, du, wok, fnm, nms, by omega, by omega, fun u2_ H43 kvs2 ls2 s43 n43 hu2 ud2 L2 => ?_⟩
  rw [lw] at L2
  have G2 := LsG.of L2 wok nms (by omega)
  have MG2 := G2.mg
  walk_at "gg"
  refine ⟨u2_, kvs2, ls2, rfl, hu2, ud2, G2, fun b2 H44 s44 n44 ba2 => ?_⟩
  have s312 := s43.trans s44
  have ho := ho.mono s312
  have fdl := s312 _ _ fdl
  have fd0 := s312 _ _ fd0
  have fd1 := s312 _ _ fd1
  have fd2 := s312 _ _ fd2
  have fll := s312 _ _ fll
  have fak := s312 _ _ fak
  have ft0 := ft0.mono s312
  have ft1 := ft1.mono s312
  have ft2 := ft2.mono s312
  have knl : kn rows2 late = true := R2.known.mpr ⟨m, by omega, el⟩
  have nl3 : late ∉ u0 := fun h => by
    obtain ⟨k, hk, ek⟩ := R.known.mp (lk0o late h)
    have := at_inj nms.nd ek el
    omega
  have nd5 : (u0 ++ [late]).Nodup := by
    rw [List.nodup_append]
    refine ⟨lk0.asc.nodup, List.nodup_cons.mpr ⟨fun h => (by cases h), List.nodup_nil⟩, fun a ha b hb e => ?_⟩
    rw [List.mem_singleton.mp hb] at e
    exact nl3 (e ▸ ha)
  have kin5 : ∀ z ∈ u0 ++ [late], kn rows2 z = true := fun z hz => by
    rcases List.mem_append.mp hz with h | h
    · exact lk0.kn z h
    · rw [List.mem_singleton.mp h]; exact knl
  walk_at "gg"
  refine g_ixL (v := .ref d0) fdl (atI_nat (j := 0) rfl) ?_
  walk_at "gg"
  refine g_klst (by walk_at "sz") (Has.start H44) (fun q5 H45 n45 h45 => ?_)
  refine g_addL (h45.same _ _ fd0) (h45.get (List.Mem.head _)) (sz (by rw [List.length_map]; show _ + 1 ≤ _; omega)) h45 (fun q6 H46 n46 h46 => ?_)
  have e46 : u0.map V.str ++ [V.str late] = (u0 ++ [late]).map V.str := by rw [List.map_append]; rfl
  rw [e46] at h46
  walk_at "gg"
  refine ⟨b2, q6, ls2.map (·.1), MB (Un ls2), u0 ++ [late], rfl, ba2.mono h46.same, h46.get (List.Mem.head _), nd5, fun z hz => (R2.kn_eq L2 z).mp (kin5 z hz), MG2, fun d5 H47 u5 s47 n47 hd5 asc5 mu5 => ?_⟩
  have s347 := h46.same.trans s47
  have ho := ho.mono s347
  have fdl := s347 _ _ fdl
  have fd0 := s347 _ _ fd0
  have fd1 := s347 _ _ fd1
  have fd2 := s347 _ _ fd2
  have fll := s347 _ _ fll
  have fak := s347 _ _ fak
  have ft0 := ft0.mono s347
  have ft1 := ft1.mono s347
  have ft2 := ft2.mono s347
  walk_at "gg"
  refine g_ixL (v := .ref t0) fll (atI_nat (j := 0) rfl) ?_
  obtain ⟨dx3, nl3_, L3, _⟩ := ft0
  walk_at "gg"
  refine g_kmeth L3.i rfl ?_
  walk_at "gg"
  refine ⟨t0, A.a, rows2, u0, late, rfl, ho, R2.refl, ⟨dx3, nl3_, L3⟩, lk0, fun _ p H48 ws' s48 n48 lk' m' => ?_, fun e => by rw [knl] at e; cases e⟩
  have e : ws' = u5 := Asc.ext lk'.asc asc5 fun z => (m' z).trans (Iff.trans (cl_eq (fun z hz => .base (List.mem_append.mpr (hz.imp id List.mem_singleton.mpr))) (fun z hz => .base ((List.mem_append.mp hz).imp id List.mem_singleton.mp)) z) ((mu5 z).trans (cl_own R2 L2 wok kin5 z)).symm)
  subst e
  have l5 := ho.chk_few lk'.chk
  walk_at "gg"
  refine ⟨p, d5, ak, A.a, ws', asked, rfl, n48.at, s48 _ _ hd5, s48 _ _ fak, by omega, fun H49 s49 => ?_⟩
  have s489 := s48.trans s49
  walk_at "gg"
  refine g_ixL (v := .ref t0) (s489 _ _ fll) (atI_nat (j := 0) rfl) ?_
  walk_at "gg"
  refine ⟨1, t0, A.a, rows2, u0, late, "unknown", rfl, ho.mono s489, R2.refl, ⟨dx3, nl3_, L3.mono s489⟩, lk0, nml.strOk, .inr (.inl ⟨rfl, nl3, rfl⟩), fun H50 s50 => ?_⟩
  have s50' := s489.trans s50
  walk_at "gg"
  refine ⟨ll, dl, ak, A.a, t0, t1, t2, d0, d1, d2, u0, u1, u2, asked, rfl, s50' _ _ fll, s50' _ _ fdl, s50' _ _ fak, ⟨dx3, nl3_, L3.mono s50'⟩, (ft1.mono s50').at, (ft2.mono s50').at, s50' _ _ fd0, s50' _ _ fd1, s50' _ _ fd2, by omega, by omega, by omega, fun H51 s51 => ?_⟩
  exact q _
end

end K29

namespace K29
open PySem PySem.Spec PyProof.Rows L2 Qk
local macro_rules | `(tactic| walk_at "m") => `(tactic| ((repeat (first | exact List.Mem.head _ | apply List.Mem.tail)); done))
local macro_rules | `(tactic| walk_at "h") => `(tactic| first | assumption | exact Has.gF (by assumption) (by assumption) | exact Has.get (by assumption) (by walk_at "m"))
local macro_rules | `(tactic| walk_at "c") => `(tactic| ((repeat (first | exact Chg.hd | apply Chg.tl)); done))
local macro_rules | `(tactic| walk_at "is") => `(tactic| first
  | ((with_reducible refine' is2_non ?gh ?_); (case gh => walk_at "h"))
  | (with_reducible refine is_int_list ?_)
  | (with_reducible refine is_int_tuple ?_)
  | (with_reducible refine is_int_dict ?_)
  | (with_reducible refine is_int_int ?_)
  | (with_reducible refine is_int_bool ?_)
  | (with_reducible refine is_int_str ?_)
  | ((with_reducible refine' is2_int ?gh ?_); (case gh => walk_at "h"))
  | (with_reducible refine is_str_list ?_)
  | (with_reducible refine is_str_tuple ?_)
  | (with_reducible refine is_str_dict ?_)
  | (with_reducible refine is_str_int ?_)
  | (with_reducible refine is_str_bool ?_)
  | (with_reducible refine is_str_str ?_)
  | ((with_reducible refine' is2_str ?gh ?_); (case gh => walk_at "h"))
  | (with_reducible refine is_bool_list ?_)
  | (with_reducible refine is_bool_tuple ?_)
  | (with_reducible refine is_bool_dict ?_)
  | (with_reducible refine is_bool_int ?_)
  | (with_reducible refine is_bool_bool ?_)
  | (with_reducible refine is_bool_str ?_)
  | ((with_reducible refine' is2_bool ?gh ?_); (case gh => walk_at "h"))
  | ((with_reducible refine' is_list_list ?gh ?_); (case gh => walk_at "h"))
  | ((with_reducible refine' is_list_tuple ?gh ?_); (case gh => walk_at "h"))
  | ((with_reducible refine' is_list_dict ?gh ?_); (case gh => walk_at "h"))
  | ((with_reducible refine' is_list_int ?gh ?_); (case gh => walk_at "h"))
  | ((with_reducible refine' is_list_bool ?gh ?_); (case gh => walk_at "h"))
  | ((with_reducible refine' is_list_str ?gh ?_); (case gh => walk_at "h"))
  | ((with_reducible refine' is2_list ?ga ?gb ?_); (case ga => walk_at "h"); (case gb => walk_at "h"))
  | ((with_reducible refine' is_tuple_list ?gh ?_); (case gh => walk_at "h"))
  | ((with_reducible refine' is_tuple_tuple ?gh ?_); (case gh => walk_at "h"))
  | ((with_reducible refine' is_tuple_dict ?gh ?_); (case gh => walk_at "h"))
  | ((with_reducible refine' is_tuple_int ?gh ?_); (case gh => walk_at "h"))
  | ((with_reducible refine' is_tuple_bool ?gh ?_); (case gh => walk_at "h"))
  | ((with_reducible refine' is_tuple_str ?gh ?_); (case gh => walk_at "h"))
  | ((with_reducible refine' is2_tuple ?ga ?gb ?_); (case ga => walk_at "h"); (case gb => walk_at "h"))
  | ((with_reducible refine' is_dict_list ?gh ?_); (case gh => walk_at "h"))
  | ((with_reducible refine' is_dict_tuple ?gh ?_); (case gh => walk_at "h"))
  | ((with_reducible refine' is_dict_dict ?gh ?_); (case gh => walk_at "h"))
  | ((with_reducible refine' is_dict_int ?gh ?_); (case gh => walk_at "h"))
  | ((with_reducible refine' is_dict_bool ?gh ?_); (case gh => walk_at "h"))
  | ((with_reducible refine' is_dict_str ?gh ?_); (case gh => walk_at "h"))
  | ((with_reducible refine' is2_dict ?ga ?gb ?_); (case ga => walk_at "h"); (case gb => walk_at "h")))
local macro_rules | `(tactic| walk_at "g") => `(tactic| first
  | (with_reducible refine g_seq ?_)
  | (with_reducible refine g_asg ?_)
  | ((with_reducible refine g_name ?_); dsimp only [List.set, wipe, List.map])
  | ((with_reducible refine' g_var ?gv ?_); (case gv => exact rfl))
  | (with_reducible refine g_c ?_)
  | (with_reducible refine g_op ?_)
  | (with_reducible refine g_cons ?_)
  | (with_reducible refine g_nil ?_)
  | (with_reducible refine g_cb ?_)
  | (with_reducible refine g_call ?_)
  | (with_reducible refine g_tup ?_)
  | (with_reducible refine g_lst ?_)
  | (with_reducible refine g_bm ?_)
  | (with_reducible refine g_bm0 ?_)
  | ((with_reducible refine' g_kbm ?gh ?_); (case gh => walk_at "h"))
  | (with_reducible refine g_drop ?_)
  | (with_reducible refine g_ret ?_)
  | (with_reducible refine g_retN ?_)
  | (with_reducible refine g_next ?_)
  | (with_reducible refine g_brk ?_)
  | (with_reducible refine g_cont ?_)
  | (with_reducible refine g_if ?_)
  | ((with_reducible refine' g_aug ?gv ?_); (case gv => exact rfl))
  | (with_reducible refine g_ipI ?_)
  | (with_reducible refine g_test ?_)
  | (with_reducible refine g_tB ?_)
  | (with_reducible refine g_kB ?_)
  | (with_reducible refine g_not ?_)
  | (with_reducible refine g_and ?_)
  | (with_reducible refine g_or ?_)
  | (with_reducible refine g_andV ?_)
  | (with_reducible refine g_orV ?_)
  | (with_reducible refine g_notV ?_)
  | (with_reducible refine g_ifE ?_)
  | (with_reducible refine g_addI ?_)
  | (with_reducible refine g_rI0 ?_)
  | (with_reducible refine g_eqI ?_)
  | (with_reducible refine g_eqS ?_)
  | (with_reducible refine g_neI ?_)
  | (with_reducible refine g_neS ?_)
  | (with_reducible refine g_isN ?_)
  | (with_reducible refine g_notN ?_)
  | (with_reducible refine g_int ?_)
  | (with_reducible refine g_max2 ?_)
  | (with_reducible refine g_min2 ?_)
  | ((with_reducible refine' g_lenL ?gh ?_); (case gh => walk_at "h"))
  | (with_reducible refine g_sub ?_)
  | (with_reducible refine g_gcons ?_)
  | (with_reducible refine g_gnil ?_)
  | (with_reducible refine g_un ?_)
  | (with_reducible refine g_rU ?_)
  | (with_reducible refine g_forL ?_)
  | (with_reducible refine g_forS ?_)
  | (with_reducible refine g_forR1 ?_)
  | (with_reducible refine g_forR2 ?_)
  | (with_reducible refine g_forR3 ?_)
  | (with_reducible refine g_lcL ?_)
  | (with_reducible refine g_lcR1 ?_)
  | (with_reducible refine g_lcR2 ?_)
  | (with_reducible refine g_slice ?_)
  | (with_reducible refine g_part ?_)
  | (with_reducible refine g_kOI ?_)
  | (with_reducible refine g_nopart ?_)
  | (with_reducible refine g_yes ?_)
  | ((with_reducible refine' g_wipe ?gv ?_); (case gv => exact rfl))
  | (with_reducible refine iteT ?_)
  | (with_reducible refine iteF ?_)
  | (with_reducible refine i_nf ?_)
  | (with_reducible refine i_nt ?_)
  | ((with_reducible refine' g_gtup ?gh ?gl ?_); (case gh => walk_at "h"); (case gl => exact rfl))
  | ((with_reducible refine' g_notinI ?gh ?_); (case gh => walk_at "h"))
  | ((with_reducible refine' g_inI ?gh ?_); (case gh => walk_at "h"))
  | ((with_reducible refine' g_kget2 ?gh ?_); (case gh => walk_at "h"))
  | ((with_reducible refine' g_kgotI ?gh ?_); (case gh => walk_at "h"))
  | (with_reducible refine g_tRev ?_)
  | (with_reducible refine g_neB ?_)
  | (with_reducible refine g_eqB ?_)
  | ((with_reducible refine' g_lenT ?gh ?_); (case gh => walk_at "h"))
  | (with_reducible refine g_star ?_)
  | ((with_reducible refine' g_kstarL ?gh ?_); (case gh => walk_at "h"))
  | ((with_reducible refine' g_kstarT ?gh ?_); (case gh => walk_at "h"))
  | (with_reducible refine g_tru ?_)
  | ((with_reducible refine' g_truL ?gh ?_); (case gh => walk_at "h"))
  | (with_reducible refine g_get2 ?_)
  | (with_reducible refine g_try ?_)
  | (with_reducible refine g_fld ?_)
  | (with_reducible refine g_sfld ?_)
  | (with_reducible refine g_meth ?_)
  | (with_reducible refine g_make ?_)
  | (with_reducible refine g_del ?_)
  | (with_reducible refine g_callS ?_)
  | (with_reducible refine g_raise ?_)
  | (with_reducible refine g_xf ?_)
  | (with_reducible refine g_m0 ?_)
  | (with_reducible refine g_km0 ?_)
  | walk_at "is")
local macro_rules | `(tactic| walk_at "gg") => `(tactic| repeat walk_at "g")
local macro_rules | `(tactic| walk_at "sz") => `(tactic| (refine sz ?_; simp only [List.length_cons, List.length_nil, List.length_map, List.length_append, List.length_replicate]; omega))
local macro_rules | `(tactic| walk_at "sub") => `(tactic| ((repeat (first | exact List.Sublist.slnil | with_reducible apply List.Sublist.cons_cons | with_reducible apply List.Sublist.cons)); done))

set_option maxHeartbeats 4000000
theorem all_mk {l : PySem.W.OpenLaw} {w : World} {K : PySem.W.Frag} {h : Heap} {mg : Str → Option Value} {fa f1 f2 f3 f4 f5 f6 f7 f8 f9 f10 f11 f12 f13 f14 f15 f16 f17 f18 f19 f20 f21 f22 f23 f24 f25 f26 f27 f28 f29 f30 f31 f32 f33 f34 f35 f36 f37 f38 f39 f40 f41 f42 f43 f44 f45 f46 f47 f48 f49 f50 f51 f52 f53 f54 f55 f56 c_Lot c_Order c_PartError c_Unknown c_Repeated c_NotClosed c_Needed fi_Unknown fi_Repeated fi_NotClosed fi_Needed : Addr} (X : K.In h) (G : h.Ns mainGlobals mg) (hfa : mg "law" = some (.ref fa))
    {od1 an1 od2 an2 od3 an3 od4 an4 od5 an5 od6 an6 od7 an7 od8 an8 od9 an9 od10 an10 od11 an11 od12 an12 od13 an13 od14 an14 od15 an15 od16 an16 od17 an17 od18 an18 od19 an19 od20 an20 od21 an21 od22 an22 od23 an23 od24 an24 od25 an25 od26 an26 od27 an27 od28 an28 od29 an29 od30 an30 od31 an31 od32 an32 od33 an33 od34 an34 od35 an35 od36 an36 od37 an37 od38 an38 od39 an39 od40 an40 od41 an41 od42 an42 od43 an43 od44 an44 od45 an45 od46 an46 od47 an47 od48 an48 od49 an49 od50 an50 od51 an51 od52 an52 od53 an53 od54 an54 od55 an55 od56 an56 : Option Addr} {sl1 sl2 sl3 sl4 sl5 sl6 sl7 sl8 sl9 sl10 sl11 sl12 sl13 sl14 sl15 sl16 sl17 sl18 sl19 sl20 sl21 sl22 sl23 sl24 sl25 sl26 sl27 sl28 sl29 sl30 sl31 sl32 sl33 sl34 sl35 sl36 sl37 sl38 sl39 sl40 sl41 sl42 sl43 sl44 sl45 sl46 sl47 sl48 sl49 sl50 sl51 sl52 sl53 sl54 sl55 sl56 : Array (Option Value)} {oc1 kV1 dc1 pm1 cd1 ct1 oc2 kV2 dc2 pm2 cd2 ct2 oc3 kV3 dc3 pm3 cd3 ct3 oc4 kV4 dc4 pm4 cd4 ct4 oc5 kV5 dc5 pm5 cd5 ct5 oc6 kV6 dc6 pm6 cd6 ct6 oc7 kV7 dc7 pm7 cd7 ct7 oc8 kV8 dc8 pm8 cd8 ct8 oc9 kV9 dc9 pm9 cd9 ct9 oc10 kV10 dc10 pm10 cd10 ct10 oc11 kV11 dc11 pm11 cd11 ct11 oc12 kV12 dc12 pm12 cd12 ct12 oc13 kV13 dc13 pm13 cd13 ct13 oc14 kV14 dc14 pm14 cd14 ct14 oc15 kV15 dc15 pm15 cd15 ct15 oc16 kV16 dc16 pm16 cd16 ct16 oc17 kV17 dc17 pm17 cd17 ct17 oc18 kV18 dc18 pm18 cd18 ct18 oc19 kV19 dc19 pm19 cd19 ct19 oc20 kV20 dc20 pm20 cd20 ct20 oc21 kV21 dc21 pm21 cd21 ct21 oc22 kV22 dc22 pm22 cd22 ct22 oc23 kV23 dc23 pm23 cd23 ct23 oc24 kV24 dc24 pm24 cd24 ct24 oc25 kV25 dc25 pm25 cd25 ct25 oc26 kV26 dc26 pm26 cd26 ct26 oc27 kV27 dc27 pm27 cd27 ct27 oc28 kV28 dc28 pm28 cd28 ct28 oc29 kV29 dc29 pm29 cd29 ct29 oc30 kV30 dc30 pm30 cd30 ct30 oc31 kV31 dc31 pm31 cd31 ct31 oc32 kV32 dc32 pm32 cd32 ct32 oc33 kV33 dc33 pm33 cd33 ct33 oc34 kV34 dc34 pm34 cd34 ct34 oc35 kV35 dc35 pm35 cd35 ct35 oc36 kV36 dc36 pm36 cd36 ct36 oc37 kV37 dc37 pm37 cd37 ct37 oc38 kV38 dc38 pm38 cd38 ct38 oc39 kV39 dc39 pm39 cd39 ct39 oc40 kV40 dc40 pm40 cd40 ct40 oc41 kV41 dc41 pm41 cd41 ct41 oc42 kV42 dc42 pm42 cd42 ct42 oc43 kV43 dc43 pm43 cd43 ct43 oc44 kV44 dc44 pm44 cd44 ct44 oc45 kV45 dc45 pm45 cd45 ct45 oc46 kV46 dc46 pm46 cd46 ct46 oc47 kV47 dc47 pm47 cd47 ct47 oc48 kV48 dc48 pm48 cd48 ct48 oc49 kV49 dc49 pm49 cd49 ct49 oc50 kV50 dc50 pm50 cd50 ct50 oc51 kV51 dc51 pm51 cd51 ct51 oc52 kV52 dc52 pm52 cd52 ct52 oc53 kV53 dc53 pm53 cd53 ct53 oc54 kV54 dc54 pm54 cd54 ct54 oc55 kV55 dc55 pm55 cd55 ct55 oc56 kV56 dc56 pm56 cd56 ct56 : Value}
    (ac_Lot : PySem.W.nsIn K mainGlobals "Lot" = some (some (.ref c_Lot)))
    (pg_Lot : PySem.W.plainGet K c_Lot Str.empty = true)
    (hd_Lot : PySem.W.hasDictIn K c_Lot = true)
    (po_Lot : PySem.W.plainOver K c_Lot = true)
    (sa_Lot : PySem.W.findIn K (.ref c_Lot) "__setattr__" = some (some (.builtin "object.__setattr__")))
    (mk_Lot : PySem.W.makesIn K c_Lot = true)
    (kc_Lot : PySem.W.keepIn K (.ref c_Lot) = true)
    (na__order_Lot : PySem.W.findIn K (.ref c_Lot) "_order" = some none)
    (na__names_Lot : PySem.W.findIn K (.ref c_Lot) "_names" = some none)
    (na___len___Lot : PySem.W.findIn K (.ref c_Lot) "__len__" = some none)
    (na___length_hint___Lot : PySem.W.findIn K (.ref c_Lot) "__length_hint__" = some none)
    (ica_Lot : PySem.W.findIn K (.ref c_Lot) "__class__" = some (some (.builtin "object.__class__")))
    (icn_Lot : PySem.W.specialIn K (.builtin "object.__class__") "__get__" = some (some (.builtin "getset_descriptor.__get__")))
    (ict_Lot : PySem.W.takesIn K (.builtin "object.__class__") = some true)
    (icm_Lot : PySem.W.mroIn K c_Lot (.type "object") = some true)
    (sf_Lot : PySem.W.selfFirst K c_Lot = true)
    (cr_Lot : PySem.W.readsIn K c_Lot (.type "type") = true)
    (cg_Lot : PySem.W.specialIn K (.ref c_Lot) "__getattribute__" = some (some (.builtin "type.__getattribute__")))
    (ac_Order : PySem.W.nsIn K mainGlobals "Order" = some (some (.ref c_Order)))
    (pg_Order : PySem.W.plainGet K c_Order Str.empty = true)
    (hd_Order : PySem.W.hasDictIn K c_Order = true)
    (po_Order : PySem.W.plainOver K c_Order = true)
    (sa_Order : PySem.W.findIn K (.ref c_Order) "__setattr__" = some (some (.builtin "object.__setattr__")))
    (mk_Order : PySem.W.makesIn K c_Order = true)
    (kc_Order : PySem.W.keepIn K (.ref c_Order) = true)
    (na__names_Order : PySem.W.findIn K (.ref c_Order) "_names" = some none)
    (na__under_Order : PySem.W.findIn K (.ref c_Order) "_under" = some none)
    (a1 : PySem.W.nsIn K mainGlobals "_wall" = some (some (.ref f1))) (l1 : K.lookup f1 = some ⟨oc1, od1, .func (PySem.W.fnOf "_wall" "_wall" (defArgs s_wall) (defBody s_wall) (defScope s_wall) .none kV1 dc1 pm1 an1 cd1 ct1), sl1⟩) (c1 : PySem.W.codeIn K cd1 "_wall" = true) (k1 : PySem.W.keepIn K (.ref f1) = true)
    (a2 : PySem.W.nsIn K mainGlobals "_group_under" = some (some (.ref f2))) (l2 : K.lookup f2 = some ⟨oc2, od2, .func (PySem.W.fnOf "_group_under" "_group_under" (defArgs s_group_under) (defBody s_group_under) (defScope s_group_under) .none kV2 dc2 pm2 an2 cd2 ct2), sl2⟩) (c2 : PySem.W.codeIn K cd2 "_group_under" = true) (k2 : PySem.W.keepIn K (.ref f2) = true)
    (a3 : PySem.W.nsIn K mainGlobals "_top_versions" = some (some (.ref f3))) (l3 : K.lookup f3 = some ⟨oc3, od3, .func (PySem.W.fnOf "_top_versions" "_top_versions" (defArgs s_top_versions) (defBody s_top_versions) (defScope s_top_versions) .none kV3 dc3 pm3 an3 cd3 ct3), sl3⟩) (c3 : PySem.W.codeIn K cd3 "_top_versions" = true) (k3 : PySem.W.keepIn K (.ref f3) = true)
    (a4 : PySem.W.nsIn K mainGlobals "common" = some (some (.ref f4))) (l4 : K.lookup f4 = some ⟨oc4, od4, .func (PySem.W.fnOf "common" "common" (defArgs s_common) (defBody s_common) (defScope s_common) .none kV4 dc4 pm4 an4 cd4 ct4), sl4⟩) (c4 : PySem.W.codeIn K cd4 "common" = true) (k4 : PySem.W.keepIn K (.ref f4) = true)
    (a5 : PySem.W.nsIn K mainGlobals "group_bases" = some (some (.ref f5))) (l5 : K.lookup f5 = some ⟨oc5, od5, .func (PySem.W.fnOf "group_bases" "group_bases" (defArgs s_group_bases) (defBody s_group_bases) (defScope s_group_bases) .none kV5 dc5 pm5 an5 cd5 ct5), sl5⟩) (c5 : PySem.W.codeIn K cd5 "group_bases" = true) (k5 : PySem.W.keepIn K (.ref f5) = true)
    (a6 : PySem.W.nsIn K mainGlobals "merge_bases" = some (some (.ref f6))) (l6 : K.lookup f6 = some ⟨oc6, od6, .func (PySem.W.fnOf "merge_bases" "merge_bases" (defArgs s_merge_bases) (defBody s_merge_bases) (defScope s_merge_bases) .none kV6 dc6 pm6 an6 cd6 ct6), sl6⟩) (c6 : PySem.W.codeIn K cd6 "merge_bases" = true) (k6 : PySem.W.keepIn K (.ref f6) = true)
    (a7 : PySem.W.nsIn K mainGlobals "_new_bases" = some (some (.ref f7))) (l7 : K.lookup f7 = some ⟨oc7, od7, .func (PySem.W.fnOf "_new_bases" "_new_bases" (defArgs s_new_bases) (defBody s_new_bases) (defScope s_new_bases) .none kV7 dc7 pm7 an7 cd7 ct7), sl7⟩) (c7 : PySem.W.codeIn K cd7 "_new_bases" = true) (k7 : PySem.W.keepIn K (.ref f7) = true)
    (a8 : PySem.W.nsIn K mainGlobals "closure" = some (some (.ref f8))) (l8 : K.lookup f8 = some ⟨oc8, od8, .func (PySem.W.fnOf "closure" "closure" (defArgs s_closure) (defBody s_closure) (defScope s_closure) .none kV8 dc8 pm8 an8 cd8 ct8), sl8⟩) (c8 : PySem.W.codeIn K cd8 "closure" = true) (k8 : PySem.W.keepIn K (.ref f8) = true)
    (a9 : PySem.W.nsIn K mainGlobals "_missing_bases" = some (some (.ref f9))) (l9 : K.lookup f9 = some ⟨oc9, od9, .func (PySem.W.fnOf "_missing_bases" "_missing_bases" (defArgs s_missing_bases) (defBody s_missing_bases) (defScope s_missing_bases) .none kV9 dc9 pm9 an9 cd9 ct9), sl9⟩) (c9 : PySem.W.codeIn K cd9 "_missing_bases" = true) (k9 : PySem.W.keepIn K (.ref f9) = true)
    (a10 : PySem.W.nsIn K mainGlobals "first_gap" = some (some (.ref f10))) (l10 : K.lookup f10 = some ⟨oc10, od10, .func (PySem.W.fnOf "first_gap" "first_gap" (defArgs s_first_gap) (defBody s_first_gap) (defScope s_first_gap) .none kV10 dc10 pm10 an10 cd10 ct10), sl10⟩) (c10 : PySem.W.codeIn K cd10 "first_gap" = true) (k10 : PySem.W.keepIn K (.ref f10) = true)
    (a11 : PySem.W.nsIn K mainGlobals "is_needed" = some (some (.ref f11))) (l11 : K.lookup f11 = some ⟨oc11, od11, .func (PySem.W.fnOf "is_needed" "is_needed" (defArgs s_is_needed) (defBody s_is_needed) (defScope s_is_needed) .none kV11 dc11 pm11 an11 cd11 ct11), sl11⟩) (c11 : PySem.W.codeIn K cd11 "is_needed" = true) (k11 : PySem.W.keepIn K (.ref f11) = true)
    (a12 : PySem.W.nsIn K mainGlobals "joined" = some (some (.ref f12))) (l12 : K.lookup f12 = some ⟨oc12, od12, .func (PySem.W.fnOf "joined" "joined" (defArgs s_joined) (defBody s_joined) (defScope s_joined) .none kV12 dc12 pm12 an12 cd12 ct12), sl12⟩) (c12 : PySem.W.codeIn K cd12 "joined" = true) (k12 : PySem.W.keepIn K (.ref f12) = true)
    (a13 : PySem.W.nsIn K mainGlobals "is_name" = some (some (.ref f13))) (l13 : K.lookup f13 = some ⟨oc13, od13, .func (PySem.W.fnOf "is_name" "is_name" (defArgs s_is_name) (defBody s_is_name) (defScope s_is_name) .none kV13 dc13 pm13 an13 cd13 ct13), sl13⟩) (c13 : PySem.W.codeIn K cd13 "is_name" = true) (k13 : PySem.W.keepIn K (.ref f13) = true)
    (a14 : PySem.W.nsIn K mainGlobals "_law_cells" = some (some (.ref f14))) (l14 : K.lookup f14 = some ⟨oc14, od14, .func (PySem.W.fnOf "_law_cells" "_law_cells" (defArgs s_l_cells) (defBody s_l_cells) (defScope s_l_cells) .none kV14 dc14 pm14 an14 cd14 ct14), sl14⟩) (c14 : PySem.W.codeIn K cd14 "_law_cells" = true) (k14 : PySem.W.keepIn K (.ref f14) = true)
    (a15 : PySem.W.nsIn K mainGlobals "_law_next" = some (some (.ref f15))) (l15 : K.lookup f15 = some ⟨oc15, od15, .func (PySem.W.fnOf "_law_next" "_law_next" (defArgs s_l_next) (defBody s_l_next) (defScope s_l_next) .none kV15 dc15 pm15 an15 cd15 ct15), sl15⟩) (c15 : PySem.W.codeIn K cd15 "_law_next" = true) (k15 : PySem.W.keepIn K (.ref f15) = true)
    (a16 : PySem.W.nsIn K mainGlobals "_law_draw_web" = some (some (.ref f16))) (l16 : K.lookup f16 = some ⟨oc16, od16, .func (PySem.W.fnOf "_law_draw_web" "_law_draw_web" (defArgs s_l_draw_web) (defBody s_l_draw_web) (defScope s_l_draw_web) .none kV16 dc16 pm16 an16 cd16 ct16), sl16⟩) (c16 : PySem.W.codeIn K cd16 "_law_draw_web" = true) (k16 : PySem.W.keepIn K (.ref f16) = true)
    (a17 : PySem.W.nsIn K mainGlobals "_law_draw_picks" = some (some (.ref f17))) (l17 : K.lookup f17 = some ⟨oc17, od17, .func (PySem.W.fnOf "_law_draw_picks" "_law_draw_picks" (defArgs s_l_draw_picks) (defBody s_l_draw_picks) (defScope s_l_draw_picks) .none kV17 dc17 pm17 an17 cd17 ct17), sl17⟩) (c17 : PySem.W.codeIn K cd17 "_law_draw_picks" = true) (k17 : PySem.W.keepIn K (.ref f17) = true)
    (a18 : PySem.W.nsIn K mainGlobals "_law_spelt" = some (some (.ref f18))) (l18 : K.lookup f18 = some ⟨oc18, od18, .func (PySem.W.fnOf "_law_spelt" "_law_spelt" (defArgs s_l_spelt) (defBody s_l_spelt) (defScope s_l_spelt) .none kV18 dc18 pm18 an18 cd18 ct18), sl18⟩) (c18 : PySem.W.codeIn K cd18 "_law_spelt" = true) (k18 : PySem.W.keepIn K (.ref f18) = true)
    (a19 : PySem.W.nsIn K mainGlobals "_law_draw_names" = some (some (.ref f19))) (l19 : K.lookup f19 = some ⟨oc19, od19, .func (PySem.W.fnOf "_law_draw_names" "_law_draw_names" (defArgs s_l_draw_names) (defBody s_l_draw_names) (defScope s_l_draw_names) .none kV19 dc19 pm19 an19 cd19 ct19), sl19⟩) (c19 : PySem.W.codeIn K cd19 "_law_draw_names" = true) (k19 : PySem.W.keepIn K (.ref f19) = true)
    (a20 : PySem.W.nsIn K mainGlobals "_law_put_all" = some (some (.ref f20))) (l20 : K.lookup f20 = some ⟨oc20, od20, .func (PySem.W.fnOf "_law_put_all" "_law_put_all" (defArgs s_l_put_all) (defBody s_l_put_all) (defScope s_l_put_all) .none kV20 dc20 pm20 an20 cd20 ct20), sl20⟩) (c20 : PySem.W.codeIn K cd20 "_law_put_all" = true) (k20 : PySem.W.keepIn K (.ref f20) = true)
    (a21 : PySem.W.nsIn K mainGlobals "_law_below_all" = some (some (.ref f21))) (l21 : K.lookup f21 = some ⟨oc21, od21, .func (PySem.W.fnOf "_law_below_all" "_law_below_all" (defArgs s_l_below_all) (defBody s_l_below_all) (defScope s_l_below_all) .none kV21 dc21 pm21 an21 cd21 ct21), sl21⟩) (c21 : PySem.W.codeIn K cd21 "_law_below_all" = true) (k21 : PySem.W.keepIn K (.ref f21) = true)
    (a22 : PySem.W.nsIn K mainGlobals "_law_base_row" = some (some (.ref f22))) (l22 : K.lookup f22 = some ⟨oc22, od22, .func (PySem.W.fnOf "_law_base_row" "_law_base_row" (defArgs s_l_base_row) (defBody s_l_base_row) (defScope s_l_base_row) .none kV22 dc22 pm22 an22 cd22 ct22), sl22⟩) (c22 : PySem.W.codeIn K cd22 "_law_base_row" = true) (k22 : PySem.W.keepIn K (.ref f22) = true)
    (a23 : PySem.W.nsIn K mainGlobals "_law_base_rows" = some (some (.ref f23))) (l23 : K.lookup f23 = some ⟨oc23, od23, .func (PySem.W.fnOf "_law_base_rows" "_law_base_rows" (defArgs s_l_base_rows) (defBody s_l_base_rows) (defScope s_l_base_rows) .none kV23 dc23 pm23 an23 cd23 ct23), sl23⟩) (c23 : PySem.W.codeIn K cd23 "_law_base_rows" = true) (k23 : PySem.W.keepIn K (.ref f23) = true)
    (a24 : PySem.W.nsIn K mainGlobals "_law_gaps" = some (some (.ref f24))) (l24 : K.lookup f24 = some ⟨oc24, od24, .func (PySem.W.fnOf "_law_gaps" "_law_gaps" (defArgs s_l_gaps) (defBody s_l_gaps) (defScope s_l_gaps) .none kV24 dc24 pm24 an24 cd24 ct24), sl24⟩) (c24 : PySem.W.codeIn K cd24 "_law_gaps" = true) (k24 : PySem.W.keepIn K (.ref f24) = true)
    (a25 : PySem.W.nsIn K mainGlobals "_law_closure" = some (some (.ref f25))) (l25 : K.lookup f25 = some ⟨oc25, od25, .func (PySem.W.fnOf "_law_closure" "_law_closure" (defArgs s_l_closure) (defBody s_l_closure) (defScope s_l_closure) .none kV25 dc25 pm25 an25 cd25 ct25), sl25⟩) (c25 : PySem.W.codeIn K cd25 "_law_closure" = true) (k25 : PySem.W.keepIn K (.ref f25) = true)
    (a26 : PySem.W.nsIn K mainGlobals "_law_is_needed" = some (some (.ref f26))) (l26 : K.lookup f26 = some ⟨oc26, od26, .func (PySem.W.fnOf "_law_is_needed" "_law_is_needed" (defArgs s_l_is_needed) (defBody s_l_is_needed) (defScope s_l_is_needed) .none kV26 dc26 pm26 an26 cd26 ct26), sl26⟩) (c26 : PySem.W.codeIn K cd26 "_law_is_needed" = true) (k26 : PySem.W.keepIn K (.ref f26) = true)
    (a27 : PySem.W.nsIn K mainGlobals "_law_first_fault" = some (some (.ref f27))) (l27 : K.lookup f27 = some ⟨oc27, od27, .func (PySem.W.fnOf "_law_first_fault" "_law_first_fault" (defArgs s_l_first_fault) (defBody s_l_first_fault) (defScope s_l_first_fault) .none kV27 dc27 pm27 an27 cd27 ct27), sl27⟩) (c27 : PySem.W.codeIn K cd27 "_law_first_fault" = true) (k27 : PySem.W.keepIn K (.ref f27) = true)
    (a28 : PySem.W.nsIn K mainGlobals "_law_same" = some (some (.ref f28))) (l28 : K.lookup f28 = some ⟨oc28, od28, .func (PySem.W.fnOf "_law_same" "_law_same" (defArgs s_l_same) (defBody s_l_same) (defScope s_l_same) .none kV28 dc28 pm28 an28 cd28 ct28), sl28⟩) (c28 : PySem.W.codeIn K cd28 "_law_same" = true) (k28 : PySem.W.keepIn K (.ref f28) = true)
    (a29 : PySem.W.nsIn K mainGlobals "_law_is_list" = some (some (.ref f29))) (l29 : K.lookup f29 = some ⟨oc29, od29, .func (PySem.W.fnOf "_law_is_list" "_law_is_list" (defArgs s_l_is_list) (defBody s_l_is_list) (defScope s_l_is_list) .none kV29 dc29 pm29 an29 cd29 ct29), sl29⟩) (c29 : PySem.W.codeIn K cd29 "_law_is_list" = true) (k29 : PySem.W.keepIn K (.ref f29) = true)
    (a30 : PySem.W.nsIn K mainGlobals "_law_lacks" = some (some (.ref f30))) (l30 : K.lookup f30 = some ⟨oc30, od30, .func (PySem.W.fnOf "_law_lacks" "_law_lacks" (defArgs s_l_lacks) (defBody s_l_lacks) (defScope s_l_lacks) .none kV30 dc30 pm30 an30 cd30 ct30), sl30⟩) (c30 : PySem.W.codeIn K cd30 "_law_lacks" = true) (k30 : PySem.W.keepIn K (.ref f30) = true)
    (a31 : PySem.W.nsIn K mainGlobals "_law_is_lot" = some (some (.ref f31))) (l31 : K.lookup f31 = some ⟨oc31, od31, .func (PySem.W.fnOf "_law_is_lot" "_law_is_lot" (defArgs s_l_is_lot) (defBody s_l_is_lot) (defScope s_l_is_lot) .none kV31 dc31 pm31 an31 cd31 ct31), sl31⟩) (c31 : PySem.W.codeIn K cd31 "_law_is_lot" = true) (k31 : PySem.W.keepIn K (.ref f31) = true)
    (a32 : PySem.W.nsIn K mainGlobals "_law_over_refused" = some (some (.ref f32))) (l32 : K.lookup f32 = some ⟨oc32, od32, .func (PySem.W.fnOf "_law_over_refused" "_law_over_refused" (defArgs s_l_over_refused) (defBody s_l_over_refused) (defScope s_l_over_refused) .none kV32 dc32 pm32 an32 cd32 ct32), sl32⟩) (c32 : PySem.W.codeIn K cd32 "_law_over_refused" = true) (k32 : PySem.W.keepIn K (.ref f32) = true)
    (a33 : PySem.W.nsIn K mainGlobals "_law_refused" = some (some (.ref f33))) (l33 : K.lookup f33 = some ⟨oc33, od33, .func (PySem.W.fnOf "_law_refused" "_law_refused" (defArgs s_l_refused) (defBody s_l_refused) (defScope s_l_refused) .none kV33 dc33 pm33 an33 cd33 ct33), sl33⟩) (c33 : PySem.W.codeIn K cd33 "_law_refused" = true) (k33 : PySem.W.keepIn K (.ref f33) = true)
    (a34 : PySem.W.nsIn K mainGlobals "_law_minus" = some (some (.ref f34))) (l34 : K.lookup f34 = some ⟨oc34, od34, .func (PySem.W.fnOf "_law_minus" "_law_minus" (defArgs s_l_minus) (defBody s_l_minus) (defScope s_l_minus) .none kV34 dc34 pm34 an34 cd34 ct34), sl34⟩) (c34 : PySem.W.codeIn K cd34 "_law_minus" = true) (k34 : PySem.W.keepIn K (.ref f34) = true)
    (a35 : PySem.W.nsIn K mainGlobals "_law_joined" = some (some (.ref f35))) (l35 : K.lookup f35 = some ⟨oc35, od35, .func (PySem.W.fnOf "_law_joined" "_law_joined" (defArgs s_l_joined) (defBody s_l_joined) (defScope s_l_joined) .none kV35 dc35 pm35 an35 cd35 ct35), sl35⟩) (c35 : PySem.W.codeIn K cd35 "_law_joined" = true) (k35 : PySem.W.keepIn K (.ref f35) = true)
    (a36 : PySem.W.nsIn K mainGlobals "_law_stay" = some (some (.ref f36))) (l36 : K.lookup f36 = some ⟨oc36, od36, .func (PySem.W.fnOf "_law_stay" "_law_stay" (defArgs s_l_stay) (defBody s_l_stay) (defScope s_l_stay) .none kV36 dc36 pm36 an36 cd36 ct36), sl36⟩) (c36 : PySem.W.codeIn K cd36 "_law_stay" = true) (k36 : PySem.W.keepIn K (.ref f36) = true)
    (a37 : PySem.W.nsIn K mainGlobals "law" = some (some (.ref f37))) (l37 : K.lookup f37 = some ⟨oc37, od37, .func (PySem.W.fnOf "law" "law" (defArgs s_law) (defBody s_law) (defScope s_law) .none kV37 dc37 pm37 an37 cd37 ct37), sl37⟩) (c37 : PySem.W.codeIn K cd37 "law" = true) (k37 : PySem.W.keepIn K (.ref f37) = true)
    (a38 : PySem.W.findIn K (.ref c_Lot) "__init__" = some (some (.ref f38))) (i38 : PySem.W.isFn K (.ref f38) = true) (l38 : K.lookup f38 = some ⟨oc38, od38, .func (PySem.W.fnOf "__init__" "Lot.__init__" (defArgs s_Lot___init__) (defBody s_Lot___init__) (defScope s_Lot___init__) .none kV38 dc38 pm38 an38 cd38 ct38), sl38⟩) (c38 : PySem.W.codeIn K cd38 "Lot.__init__" = true) (k38 : PySem.W.keepIn K (.ref f38) = true)
    {p39 : Addr} {rest39 : List Value}
    (a39 : PySem.W.findCls K (.ref c_Lot) (.type "type") "over" = some (.get (.builtin "classmethod.__get__") (.ref p39) .none (.ref c_Lot))) (r39 : PySem.W.recIn K p39 "classmethod" = some (.ref f39 :: rest39)) (i39 : PySem.W.fnIn K f39 = true) (l39 : K.lookup f39 = some ⟨oc39, od39, .func (PySem.W.fnOf "over" "Lot.over" (defArgs s_Lot_over) (defBody s_Lot_over) (defScope s_Lot_over) .none kV39 dc39 pm39 an39 cd39 ct39), sl39⟩) (c39 : PySem.W.codeIn K cd39 "Lot.over" = true) (k39 : PySem.W.keepIn K (.ref f39) = true)
    (a40 : PySem.W.findIn K (.ref c_Lot) "__contains__" = some (some (.ref f40))) (i40 : PySem.W.isFn K (.ref f40) = true) (l40 : K.lookup f40 = some ⟨oc40, od40, .func (PySem.W.fnOf "__contains__" "Lot.__contains__" (defArgs s_Lot___contains__) (defBody s_Lot___contains__) (defScope s_Lot___contains__) .none kV40 dc40 pm40 an40 cd40 ct40), sl40⟩) (c40 : PySem.W.codeIn K cd40 "Lot.__contains__" = true) (k40 : PySem.W.keepIn K (.ref f40) = true)
    (a41 : PySem.W.findIn K (.ref c_Lot) "__iter__" = some (some (.ref f41))) (i41 : PySem.W.isFn K (.ref f41) = true) (l41 : K.lookup f41 = some ⟨oc41, od41, .func (PySem.W.fnOf "__iter__" "Lot.__iter__" (defArgs s_Lot___iter__) (defBody s_Lot___iter__) (defScope s_Lot___iter__) .none kV41 dc41 pm41 an41 cd41 ct41), sl41⟩) (c41 : PySem.W.codeIn K cd41 "Lot.__iter__" = true) (k41 : PySem.W.keepIn K (.ref f41) = true)
    (a42 : PySem.W.findIn K (.ref c_Lot) "__eq__" = some (some (.ref f42))) (i42 : PySem.W.isFn K (.ref f42) = true) (l42 : K.lookup f42 = some ⟨oc42, od42, .func (PySem.W.fnOf "__eq__" "Lot.__eq__" (defArgs s_Lot___eq__) (defBody s_Lot___eq__) (defScope s_Lot___eq__) .none kV42 dc42 pm42 an42 cd42 ct42), sl42⟩) (c42 : PySem.W.codeIn K cd42 "Lot.__eq__" = true) (k42 : PySem.W.keepIn K (.ref f42) = true)
    (a43 : PySem.W.findIn K (.ref c_Lot) "__and__" = some (some (.ref f43))) (i43 : PySem.W.isFn K (.ref f43) = true) (l43 : K.lookup f43 = some ⟨oc43, od43, .func (PySem.W.fnOf "__and__" "Lot.__and__" (defArgs s_Lot___and__) (defBody s_Lot___and__) (defScope s_Lot___and__) .none kV43 dc43 pm43 an43 cd43 ct43), sl43⟩) (c43 : PySem.W.codeIn K cd43 "Lot.__and__" = true) (k43 : PySem.W.keepIn K (.ref f43) = true)
    (a44 : PySem.W.findIn K (.ref c_Lot) "__or__" = some (some (.ref f44))) (i44 : PySem.W.isFn K (.ref f44) = true) (l44 : K.lookup f44 = some ⟨oc44, od44, .func (PySem.W.fnOf "__or__" "Lot.__or__" (defArgs s_Lot___or__) (defBody s_Lot___or__) (defScope s_Lot___or__) .none kV44 dc44 pm44 an44 cd44 ct44), sl44⟩) (c44 : PySem.W.codeIn K cd44 "Lot.__or__" = true) (k44 : PySem.W.keepIn K (.ref f44) = true)
    (a45 : PySem.W.findIn K (.ref c_Lot) "within" = some (some (.ref f45))) (i45 : PySem.W.isFn K (.ref f45) = true) (l45 : K.lookup f45 = some ⟨oc45, od45, .func (PySem.W.fnOf "within" "Lot.within" (defArgs s_Lot_within) (defBody s_Lot_within) (defScope s_Lot_within) .none kV45 dc45 pm45 an45 cd45 ct45), sl45⟩) (c45 : PySem.W.codeIn K cd45 "Lot.within" = true) (k45 : PySem.W.keepIn K (.ref f45) = true)
    (a46 : PySem.W.findIn K (.ref c_Lot) "plus" = some (some (.ref f46))) (i46 : PySem.W.isFn K (.ref f46) = true) (l46 : K.lookup f46 = some ⟨oc46, od46, .func (PySem.W.fnOf "plus" "Lot.plus" (defArgs s_Lot_plus) (defBody s_Lot_plus) (defScope s_Lot_plus) .none kV46 dc46 pm46 an46 cd46 ct46), sl46⟩) (c46 : PySem.W.codeIn K cd46 "Lot.plus" = true) (k46 : PySem.W.keepIn K (.ref f46) = true)
    (a47 : PySem.W.findIn K (.ref c_Lot) "minus" = some (some (.ref f47))) (i47 : PySem.W.isFn K (.ref f47) = true) (l47 : K.lookup f47 = some ⟨oc47, od47, .func (PySem.W.fnOf "minus" "Lot.minus" (defArgs s_Lot_minus) (defBody s_Lot_minus) (defScope s_Lot_minus) .none kV47 dc47 pm47 an47 cd47 ct47), sl47⟩) (c47 : PySem.W.codeIn K cd47 "Lot.minus" = true) (k47 : PySem.W.keepIn K (.ref f47) = true)
    (a48 : PySem.W.findIn K (.ref c_Order) "__init__" = some (some (.ref f48))) (i48 : PySem.W.isFn K (.ref f48) = true) (l48 : K.lookup f48 = some ⟨oc48, od48, .func (PySem.W.fnOf "__init__" "Order.__init__" (defArgs s_Order___init__) (defBody s_Order___init__) (defScope s_Order___init__) .none kV48 dc48 pm48 an48 cd48 ct48), sl48⟩) (c48 : PySem.W.codeIn K cd48 "Order.__init__" = true) (k48 : PySem.W.keepIn K (.ref f48) = true)
    (a49 : PySem.W.findIn K (.ref c_Order) "put" = some (some (.ref f49))) (i49 : PySem.W.isFn K (.ref f49) = true) (l49 : K.lookup f49 = some ⟨oc49, od49, .func (PySem.W.fnOf "put" "Order.put" (defArgs s_Order_put) (defBody s_Order_put) (defScope s_Order_put) .none kV49 dc49 pm49 an49 cd49 ct49), sl49⟩) (c49 : PySem.W.codeIn K cd49 "Order.put" = true) (k49 : PySem.W.keepIn K (.ref f49) = true)
    (a50 : PySem.W.findIn K (.ref c_Order) "__iter__" = some (some (.ref f50))) (i50 : PySem.W.isFn K (.ref f50) = true) (l50 : K.lookup f50 = some ⟨oc50, od50, .func (PySem.W.fnOf "__iter__" "Order.__iter__" (defArgs s_Order___iter__) (defBody s_Order___iter__) (defScope s_Order___iter__) .none kV50 dc50 pm50 an50 cd50 ct50), sl50⟩) (c50 : PySem.W.codeIn K cd50 "Order.__iter__" = true) (k50 : PySem.W.keepIn K (.ref f50) = true)
    (a51 : PySem.W.findIn K (.ref c_Order) "names" = some (some (.ref f51))) (i51 : PySem.W.isFn K (.ref f51) = true) (l51 : K.lookup f51 = some ⟨oc51, od51, .func (PySem.W.fnOf "names" "Order.names" (defArgs s_Order_names) (defBody s_Order_names) (defScope s_Order_names) .none kV51 dc51 pm51 an51 cd51 ct51), sl51⟩) (c51 : PySem.W.codeIn K cd51 "Order.names" = true) (k51 : PySem.W.keepIn K (.ref f51) = true)
    (a52 : PySem.W.findIn K (.ref c_Order) "has" = some (some (.ref f52))) (i52 : PySem.W.isFn K (.ref f52) = true) (l52 : K.lookup f52 = some ⟨oc52, od52, .func (PySem.W.fnOf "has" "Order.has" (defArgs s_Order_has) (defBody s_Order_has) (defScope s_Order_has) .none kV52 dc52 pm52 an52 cd52 ct52), sl52⟩) (c52 : PySem.W.codeIn K cd52 "Order.has" = true) (k52 : PySem.W.keepIn K (.ref f52) = true)
    (a53 : PySem.W.findIn K (.ref c_Order) "under" = some (some (.ref f53))) (i53 : PySem.W.isFn K (.ref f53) = true) (l53 : K.lookup f53 = some ⟨oc53, od53, .func (PySem.W.fnOf "under" "Order.under" (defArgs s_Order_under) (defBody s_Order_under) (defScope s_Order_under) .none kV53 dc53 pm53 an53 cd53 ct53), sl53⟩) (c53 : PySem.W.codeIn K cd53 "Order.under" = true) (k53 : PySem.W.keepIn K (.ref f53) = true)
    (a54 : PySem.W.findIn K (.ref c_Order) "is_under" = some (some (.ref f54))) (i54 : PySem.W.isFn K (.ref f54) = true) (l54 : K.lookup f54 = some ⟨oc54, od54, .func (PySem.W.fnOf "is_under" "Order.is_under" (defArgs s_Order_is_under) (defBody s_Order_is_under) (defScope s_Order_is_under) .none kV54 dc54 pm54 an54 cd54 ct54), sl54⟩) (c54 : PySem.W.codeIn K cd54 "Order.is_under" = true) (k54 : PySem.W.keepIn K (.ref f54) = true)
    (a55 : PySem.W.findIn K (.ref c_Order) "nearest" = some (some (.ref f55))) (i55 : PySem.W.isFn K (.ref f55) = true) (l55 : K.lookup f55 = some ⟨oc55, od55, .func (PySem.W.fnOf "nearest" "Order.nearest" (defArgs s_Order_nearest) (defBody s_Order_nearest) (defScope s_Order_nearest) .none kV55 dc55 pm55 an55 cd55 ct55), sl55⟩) (c55 : PySem.W.codeIn K cd55 "Order.nearest" = true) (k55 : PySem.W.keepIn K (.ref f55) = true)
    (a56 : PySem.W.findIn K (.ref c_Order) "checked" = some (some (.ref f56))) (i56 : PySem.W.isFn K (.ref f56) = true) (l56 : K.lookup f56 = some ⟨oc56, od56, .func (PySem.W.fnOf "checked" "Order.checked" (defArgs s_Order_checked) (defBody s_Order_checked) (defScope s_Order_checked) .none kV56 dc56 pm56 an56 cd56 ct56), sl56⟩) (c56 : PySem.W.codeIn K cd56 "Order.checked" = true) (k56 : PySem.W.keepIn K (.ref f56) = true)
    (ac_PartError : PySem.W.nsIn K mainGlobals "PartError" = some (some (.ref c_PartError)))
    (ec_PartError : PySem.W.subIn K (.ref c_PartError) (.type "BaseException") = some true)
    (tc_PartError : PySem.W.typeIn K (.ref c_PartError) = some (.type "type"))
    (ic_PartError : PySem.W.isClsIn K c_PartError = true)
    (ac_Unknown : PySem.W.nsIn K mainGlobals "Unknown" = some (some (.ref c_Unknown)))
    (ec_Unknown : PySem.W.subIn K (.ref c_Unknown) (.type "BaseException") = some true)
    (tc_Unknown : PySem.W.typeIn K (.ref c_Unknown) = some (.type "type"))
    (ic_Unknown : PySem.W.isClsIn K c_Unknown = true)
    {nm_Unknown q_Unknown : Str} {ns_Unknown : Addr} {bs_Unknown : List Value} {sn_Unknown : List Str} {sub_Unknown : List Value} {ab_Unknown : Bool} {col_Unknown : Option Bool} {dd_Unknown : Option Addr} {m0_Unknown m1_Unknown m2_Unknown m3_Unknown m5_Unknown : Option Value}
    (xL_Unknown : K.lookup c_Unknown = some (excClassObj nm_Unknown q_Unknown c_Unknown ns_Unknown bs_Unknown [.ref c_PartError, .type "ValueError", .type "Exception", .type "BaseException", .type "object"] true sn_Unknown sub_Unknown ab_Unknown col_Unknown dd_Unknown m0_Unknown m1_Unknown m2_Unknown m3_Unknown m5_Unknown "ValueError.__new__"))
    (sa_Unknown : PySem.W.findIn K (.ref c_Unknown) "__setattr__" = some (some (.builtin "object.__setattr__")))
    (ga_Unknown : PySem.W.findIn K (.ref c_Unknown) "__getattribute__" = some (some (.builtin "BaseException.__getattribute__")))
    (gg_Unknown : PySem.W.findIn K (.ref c_Unknown) "__getattr__" = some none)
    (gk_Unknown : PySem.W.findIn K (.ref c_Unknown) "__class__" = some (some (.builtin "object.__class__")))
    (gm_Unknown : PySem.W.mroIn K c_Unknown (.type "object") = some true)
    (n_name_Unknown : PySem.W.findIn K (.ref c_Unknown) "name" = some none)
    (ai_Unknown : PySem.W.findIn K (.ref c_Unknown) "__init__" = some (some (.ref fi_Unknown)))
    (ti_Unknown : PySem.W.typeIn K (.ref fi_Unknown) = some (.type "function"))
    {odi_Unknown ani_Unknown : Option Addr} {sli_Unknown : Array (Option Value)} {oci_Unknown kVi_Unknown dci_Unknown pmi_Unknown cdi_Unknown cti_Unknown : Value}
    (li_Unknown : K.lookup fi_Unknown = some ⟨oci_Unknown, odi_Unknown, .func (PySem.W.fnOf "__init__" "Unknown.__init__" (defArgs (inClass (topS 18) 0)) (defBody (inClass (topS 18) 0)) (defScope (inClass (topS 18) 0)) .none kVi_Unknown dci_Unknown pmi_Unknown ani_Unknown cdi_Unknown cti_Unknown), sli_Unknown⟩)
    (ci_Unknown : PySem.W.codeIn K cdi_Unknown "Unknown.__init__" = true)
    (ki_Unknown : PySem.W.keepIn K (.ref fi_Unknown) = true)
    (kc_Unknown : PySem.W.keepIn K (.ref c_Unknown) = true)
    (hc_Unknown : PySem.W.hasDictIn K c_Unknown = true)
    (ac_Repeated : PySem.W.nsIn K mainGlobals "Repeated" = some (some (.ref c_Repeated)))
    (ec_Repeated : PySem.W.subIn K (.ref c_Repeated) (.type "BaseException") = some true)
    (tc_Repeated : PySem.W.typeIn K (.ref c_Repeated) = some (.type "type"))
    (ic_Repeated : PySem.W.isClsIn K c_Repeated = true)
    {nm_Repeated q_Repeated : Str} {ns_Repeated : Addr} {bs_Repeated : List Value} {sn_Repeated : List Str} {sub_Repeated : List Value} {ab_Repeated : Bool} {col_Repeated : Option Bool} {dd_Repeated : Option Addr} {m0_Repeated m1_Repeated m2_Repeated m3_Repeated m5_Repeated : Option Value}
    (xL_Repeated : K.lookup c_Repeated = some (excClassObj nm_Repeated q_Repeated c_Repeated ns_Repeated bs_Repeated [.ref c_PartError, .type "ValueError", .type "Exception", .type "BaseException", .type "object"] true sn_Repeated sub_Repeated ab_Repeated col_Repeated dd_Repeated m0_Repeated m1_Repeated m2_Repeated m3_Repeated m5_Repeated "ValueError.__new__"))
    (sa_Repeated : PySem.W.findIn K (.ref c_Repeated) "__setattr__" = some (some (.builtin "object.__setattr__")))
    (ga_Repeated : PySem.W.findIn K (.ref c_Repeated) "__getattribute__" = some (some (.builtin "BaseException.__getattribute__")))
    (gg_Repeated : PySem.W.findIn K (.ref c_Repeated) "__getattr__" = some none)
    (gk_Repeated : PySem.W.findIn K (.ref c_Repeated) "__class__" = some (some (.builtin "object.__class__")))
    (gm_Repeated : PySem.W.mroIn K c_Repeated (.type "object") = some true)
    (n_name_Repeated : PySem.W.findIn K (.ref c_Repeated) "name" = some none)
    (ai_Repeated : PySem.W.findIn K (.ref c_Repeated) "__init__" = some (some (.ref fi_Repeated)))
    (ti_Repeated : PySem.W.typeIn K (.ref fi_Repeated) = some (.type "function"))
    {odi_Repeated ani_Repeated : Option Addr} {sli_Repeated : Array (Option Value)} {oci_Repeated kVi_Repeated dci_Repeated pmi_Repeated cdi_Repeated cti_Repeated : Value}
    (li_Repeated : K.lookup fi_Repeated = some ⟨oci_Repeated, odi_Repeated, .func (PySem.W.fnOf "__init__" "Repeated.__init__" (defArgs (inClass (topS 19) 0)) (defBody (inClass (topS 19) 0)) (defScope (inClass (topS 19) 0)) .none kVi_Repeated dci_Repeated pmi_Repeated ani_Repeated cdi_Repeated cti_Repeated), sli_Repeated⟩)
    (ci_Repeated : PySem.W.codeIn K cdi_Repeated "Repeated.__init__" = true)
    (ki_Repeated : PySem.W.keepIn K (.ref fi_Repeated) = true)
    (kc_Repeated : PySem.W.keepIn K (.ref c_Repeated) = true)
    (hc_Repeated : PySem.W.hasDictIn K c_Repeated = true)
    (ac_NotClosed : PySem.W.nsIn K mainGlobals "NotClosed" = some (some (.ref c_NotClosed)))
    (ec_NotClosed : PySem.W.subIn K (.ref c_NotClosed) (.type "BaseException") = some true)
    (tc_NotClosed : PySem.W.typeIn K (.ref c_NotClosed) = some (.type "type"))
    (ic_NotClosed : PySem.W.isClsIn K c_NotClosed = true)
    {nm_NotClosed q_NotClosed : Str} {ns_NotClosed : Addr} {bs_NotClosed : List Value} {sn_NotClosed : List Str} {sub_NotClosed : List Value} {ab_NotClosed : Bool} {col_NotClosed : Option Bool} {dd_NotClosed : Option Addr} {m0_NotClosed m1_NotClosed m2_NotClosed m3_NotClosed m5_NotClosed : Option Value}
    (xL_NotClosed : K.lookup c_NotClosed = some (excClassObj nm_NotClosed q_NotClosed c_NotClosed ns_NotClosed bs_NotClosed [.ref c_PartError, .type "ValueError", .type "Exception", .type "BaseException", .type "object"] true sn_NotClosed sub_NotClosed ab_NotClosed col_NotClosed dd_NotClosed m0_NotClosed m1_NotClosed m2_NotClosed m3_NotClosed m5_NotClosed "ValueError.__new__"))
    (sa_NotClosed : PySem.W.findIn K (.ref c_NotClosed) "__setattr__" = some (some (.builtin "object.__setattr__")))
    (ga_NotClosed : PySem.W.findIn K (.ref c_NotClosed) "__getattribute__" = some (some (.builtin "BaseException.__getattribute__")))
    (gg_NotClosed : PySem.W.findIn K (.ref c_NotClosed) "__getattr__" = some none)
    (gk_NotClosed : PySem.W.findIn K (.ref c_NotClosed) "__class__" = some (some (.builtin "object.__class__")))
    (gm_NotClosed : PySem.W.mroIn K c_NotClosed (.type "object") = some true)
    (n_first_NotClosed : PySem.W.findIn K (.ref c_NotClosed) "first" = some none)
    (n_second_NotClosed : PySem.W.findIn K (.ref c_NotClosed) "second" = some none)
    (n_missing_NotClosed : PySem.W.findIn K (.ref c_NotClosed) "missing" = some none)
    (ai_NotClosed : PySem.W.findIn K (.ref c_NotClosed) "__init__" = some (some (.ref fi_NotClosed)))
    (ti_NotClosed : PySem.W.typeIn K (.ref fi_NotClosed) = some (.type "function"))
    {odi_NotClosed ani_NotClosed : Option Addr} {sli_NotClosed : Array (Option Value)} {oci_NotClosed kVi_NotClosed dci_NotClosed pmi_NotClosed cdi_NotClosed cti_NotClosed : Value}
    (li_NotClosed : K.lookup fi_NotClosed = some ⟨oci_NotClosed, odi_NotClosed, .func (PySem.W.fnOf "__init__" "NotClosed.__init__" (defArgs (inClass (topS 20) 0)) (defBody (inClass (topS 20) 0)) (defScope (inClass (topS 20) 0)) .none kVi_NotClosed dci_NotClosed pmi_NotClosed ani_NotClosed cdi_NotClosed cti_NotClosed), sli_NotClosed⟩)
    (ci_NotClosed : PySem.W.codeIn K cdi_NotClosed "NotClosed.__init__" = true)
    (ki_NotClosed : PySem.W.keepIn K (.ref fi_NotClosed) = true)
    (kc_NotClosed : PySem.W.keepIn K (.ref c_NotClosed) = true)
    (hc_NotClosed : PySem.W.hasDictIn K c_NotClosed = true)
    (ac_Needed : PySem.W.nsIn K mainGlobals "Needed" = some (some (.ref c_Needed)))
    (ec_Needed : PySem.W.subIn K (.ref c_Needed) (.type "BaseException") = some true)
    (tc_Needed : PySem.W.typeIn K (.ref c_Needed) = some (.type "type"))
    (ic_Needed : PySem.W.isClsIn K c_Needed = true)
    {nm_Needed q_Needed : Str} {ns_Needed : Addr} {bs_Needed : List Value} {sn_Needed : List Str} {sub_Needed : List Value} {ab_Needed : Bool} {col_Needed : Option Bool} {dd_Needed : Option Addr} {m0_Needed m1_Needed m2_Needed m3_Needed m5_Needed : Option Value}
    (xL_Needed : K.lookup c_Needed = some (excClassObj nm_Needed q_Needed c_Needed ns_Needed bs_Needed [.ref c_PartError, .type "ValueError", .type "Exception", .type "BaseException", .type "object"] true sn_Needed sub_Needed ab_Needed col_Needed dd_Needed m0_Needed m1_Needed m2_Needed m3_Needed m5_Needed "ValueError.__new__"))
    (sa_Needed : PySem.W.findIn K (.ref c_Needed) "__setattr__" = some (some (.builtin "object.__setattr__")))
    (ga_Needed : PySem.W.findIn K (.ref c_Needed) "__getattribute__" = some (some (.builtin "BaseException.__getattribute__")))
    (gg_Needed : PySem.W.findIn K (.ref c_Needed) "__getattr__" = some none)
    (gk_Needed : PySem.W.findIn K (.ref c_Needed) "__class__" = some (some (.builtin "object.__class__")))
    (gm_Needed : PySem.W.mroIn K c_Needed (.type "object") = some true)
    (n_name_Needed : PySem.W.findIn K (.ref c_Needed) "name" = some none)
    (ai_Needed : PySem.W.findIn K (.ref c_Needed) "__init__" = some (some (.ref fi_Needed)))
    (ti_Needed : PySem.W.typeIn K (.ref fi_Needed) = some (.type "function"))
    {odi_Needed ani_Needed : Option Addr} {sli_Needed : Array (Option Value)} {oci_Needed kVi_Needed dci_Needed pmi_Needed cdi_Needed cti_Needed : Value}
    (li_Needed : K.lookup fi_Needed = some ⟨oci_Needed, odi_Needed, .func (PySem.W.fnOf "__init__" "Needed.__init__" (defArgs (inClass (topS 21) 0)) (defBody (inClass (topS 21) 0)) (defScope (inClass (topS 21) 0)) .none kVi_Needed dci_Needed pmi_Needed ani_Needed cdi_Needed cti_Needed), sli_Needed⟩)
    (ci_Needed : PySem.W.codeIn K cdi_Needed "Needed.__init__" = true)
    (ki_Needed : PySem.W.keepIn K (.ref fi_Needed) = true)
    (kc_Needed : PySem.W.keepIn K (.ref c_Needed) = true)
    (hc_Needed : PySem.W.hasDictIn K c_Needed = true)
    (ss_Unknown_Needed : PySem.W.subIn K (.ref c_Unknown) (.ref c_Needed) = some false)
    (ss_Unknown_PartError : PySem.W.subIn K (.ref c_Unknown) (.ref c_PartError) = some true)
    (ss_Unknown_Repeated : PySem.W.subIn K (.ref c_Unknown) (.ref c_Repeated) = some false)
    (ss_Unknown_Unknown : PySem.W.subIn K (.ref c_Unknown) (.ref c_Unknown) = some true)
    (sv_Unknown : PySem.W.subIn K (.ref c_Unknown) (.type "ValueError") = some true)
    (ss_Repeated_Needed : PySem.W.subIn K (.ref c_Repeated) (.ref c_Needed) = some false)
    (ss_Repeated_PartError : PySem.W.subIn K (.ref c_Repeated) (.ref c_PartError) = some true)
    (ss_Repeated_Repeated : PySem.W.subIn K (.ref c_Repeated) (.ref c_Repeated) = some true)
    (ss_Repeated_Unknown : PySem.W.subIn K (.ref c_Repeated) (.ref c_Unknown) = some false)
    (sv_Repeated : PySem.W.subIn K (.ref c_Repeated) (.type "ValueError") = some true)
    (ss_NotClosed_Needed : PySem.W.subIn K (.ref c_NotClosed) (.ref c_Needed) = some false)
    (ss_NotClosed_NotClosed : PySem.W.subIn K (.ref c_NotClosed) (.ref c_NotClosed) = some true)
    (ss_NotClosed_PartError : PySem.W.subIn K (.ref c_NotClosed) (.ref c_PartError) = some true)
    (ss_NotClosed_Repeated : PySem.W.subIn K (.ref c_NotClosed) (.ref c_Repeated) = some false)
    (ss_NotClosed_Unknown : PySem.W.subIn K (.ref c_NotClosed) (.ref c_Unknown) = some false)
    (sv_NotClosed : PySem.W.subIn K (.ref c_NotClosed) (.type "ValueError") = some true)
    (ss_Needed_Needed : PySem.W.subIn K (.ref c_Needed) (.ref c_Needed) = some true)
    (ss_Needed_PartError : PySem.W.subIn K (.ref c_Needed) (.ref c_PartError) = some true)
    (ss_Needed_Repeated : PySem.W.subIn K (.ref c_Needed) (.ref c_Repeated) = some false)
    (ss_Needed_Unknown : PySem.W.subIn K (.ref c_Needed) (.ref c_Unknown) = some false)
    (sv_Needed : PySem.W.subIn K (.ref c_Needed) (.type "ValueError") = some true)
    (xn : PySem.W.specialIn K (.builtin "object.__class__") "__get__" = some (some (.builtin "getset_descriptor.__get__"))) (xt : PySem.W.takesIn K (.builtin "object.__class__") = some true)
    (z_ValueError : PySem.W.nsIn K mainGlobals "ValueError" = some none)
    (z_abs : PySem.W.nsIn K mainGlobals "abs" = some none)
    (z_all : PySem.W.nsIn K mainGlobals "all" = some none)
    (z_classmethod : PySem.W.nsIn K mainGlobals "classmethod" = some none)
    (z_enumerate : PySem.W.nsIn K mainGlobals "enumerate" = some none)
    (z_int : PySem.W.nsIn K mainGlobals "int" = some none)
    (z_isinstance : PySem.W.nsIn K mainGlobals "isinstance" = some none)
    (z_iter : PySem.W.nsIn K mainGlobals "iter" = some none)
    (z_len : PySem.W.nsIn K mainGlobals "len" = some none)
    (z_list : PySem.W.nsIn K mainGlobals "list" = some none)
    (z_max : PySem.W.nsIn K mainGlobals "max" = some none)
    (z_min : PySem.W.nsIn K mainGlobals "min" = some none)
    (z_range : PySem.W.nsIn K mainGlobals "range" = some none)
    (z_set : PySem.W.nsIn K mainGlobals "set" = some none)
    (z_sorted : PySem.W.nsIn K mainGlobals "sorted" = some none)
    (z_str : PySem.W.nsIn K mainGlobals "str" = some none)
    {ut_NAME_LETTERS : Tok} (y_NAME_LETTERS : PySem.W.nsIn K mainGlobals "NAME_LETTERS" = some (some (.str "abcdefghijklmnopqrstuvwxyz" ut_NAME_LETTERS)))
    {ut_NAME_DIGITS : Tok} (y_NAME_DIGITS : PySem.W.nsIn K mainGlobals "NAME_DIGITS" = some (some (.str "0123456789" ut_NAME_DIGITS)))
    {ut_NAME_LENGTH : Tok} (y_NAME_LENGTH : PySem.W.nsIn K mainGlobals "NAME_LENGTH" = some (some (.int 6 ut_NAME_LENGTH))) :
    ∃ fd : FuncData, (∀ (s : Shared) (v : Value), BindsTo s fd ⟨[v], []⟩ [("script", v)]) ∧ ∀ base : Heap, K.In base → base.Ns mainGlobals mg → FnOk l.prog w K mg base CX0 16 fa fd ["script"] (sp_law K) := by
  have e := hfa.symm.trans (PySem.W.mg_of X G a37)
  cases e
  have F1 := fun_mk (st := s_wall) l1 c1 k1
  have b1 := F1.binds (ps := ["k"]) fun _ _ _ _ _ _ us hl => match us, hl with | [_], _ => rfl
  have F2 := fun_mk (st := s_group_under) l2 c2 k2
  have b2 := F2.binds (ps := ["order", "group"]) fun _ _ _ _ _ _ us hl => match us, hl with | [_, _], _ => rfl
  have F3 := fun_mk (st := s_top_versions) l3 c3 k3
  have b3 := F3.binds (ps := ["order", "versions"]) fun _ _ _ _ _ _ us hl => match us, hl with | [_, _], _ => rfl
  have F4 := fun_mk (st := s_common) l4 c4 k4
  have b4 := F4.binds (ps := ["order", "ones", "others"]) fun _ _ _ _ _ _ us hl => match us, hl with | [_, _, _], _ => rfl
  have F5 := fun_mk (st := s_group_bases) l5 c5 k5
  have b5 := F5.binds (ps := ["order", "ones", "others"]) fun _ _ _ _ _ _ us hl => match us, hl with | [_, _, _], _ => rfl
  have F6 := fun_mk (st := s_merge_bases) l6 c6 k6
  have b6 := F6.binds (ps := ["order", "one", "other"]) fun _ _ _ _ _ _ us hl => match us, hl with | [_, _, _], _ => rfl
  have F7 := fun_mk (st := s_new_bases) l7 c7 k7
  have b7 := F7.binds (ps := ["order", "members", "fresh"]) fun _ _ _ _ _ _ us hl => match us, hl with | [_, _, _], _ => rfl
  have F8 := fun_mk (st := s_closure) l8 c8 k8
  have b8 := F8.binds (ps := ["order", "names"]) fun _ _ _ _ _ _ us hl => match us, hl with | [_, _], _ => rfl
  have F9 := fun_mk (st := s_missing_bases) l9 c9 k9
  have b9 := F9.binds (ps := ["order", "members", "first", "second"]) fun _ _ _ _ _ _ us hl => match us, hl with | [_, _, _, _], _ => rfl
  have F10 := fun_mk (st := s_first_gap) l10 c10 k10
  have b10 := F10.binds (ps := ["order", "names"]) fun _ _ _ _ _ _ us hl => match us, hl with | [_, _], _ => rfl
  have F11 := fun_mk (st := s_is_needed) l11 c11 k11
  have b11 := F11.binds (ps := ["order", "members", "name"]) fun _ _ _ _ _ _ us hl => match us, hl with | [_, _, _], _ => rfl
  have F12 := fun_mk (st := s_joined) l12 c12 k12
  have b12 := bindsV (pa := "first") (pv := "others") F12 fun _ _ _ _ _ _ => bindV_of (fun _ => rfl) (fun _ _ => rfl) (fun _ _ _ => rfl) (fun _ _ _ _ => rfl) (fun _ _ _ _ _ => rfl) (fun _ _ _ _ _ _ => rfl)
  have F13 := fun_mk (st := s_is_name) l13 c13 k13
  have b13 := F13.binds (ps := ["value"]) fun _ _ _ _ _ _ us hl => match us, hl with | [_], _ => rfl
  have F14 := fun_mk (st := s_l_cells) l14 c14 k14
  have b14 := F14.binds (ps := ["script"]) fun _ _ _ _ _ _ us hl => match us, hl with | [_], _ => rfl
  have F15 := fun_mk (st := s_l_next) l15 c15 k15
  have b15 := F15.binds (ps := ["feed", "many"]) fun _ _ _ _ _ _ us hl => match us, hl with | [_, _], _ => rfl
  have F16 := fun_mk (st := s_l_draw_web) l16 c16 k16
  have b16 := F16.binds (ps := ["feed", "many"]) fun _ _ _ _ _ _ us hl => match us, hl with | [_, _], _ => rfl
  have F17 := fun_mk (st := s_l_draw_picks) l17 c17 k17
  have b17 := F17.binds (ps := ["feed", "many"]) fun _ _ _ _ _ _ us hl => match us, hl with | [_, _], _ => rfl
  have F18 := fun_mk (st := s_l_spelt) l18 c18 k18
  have b18 := F18.binds (ps := ["code"]) fun _ _ _ _ _ _ us hl => match us, hl with | [_], _ => rfl
  have F19 := fun_mk (st := s_l_draw_names) l19 c19 k19
  have b19 := F19.binds (ps := ["feed", "many"]) fun _ _ _ _ _ _ us hl => match us, hl with | [_, _], _ => rfl
  have F20 := fun_mk (st := s_l_put_all) l20 c20 k20
  have b20 := F20.binds (ps := ["web", "names"]) fun _ _ _ _ _ _ us hl => match us, hl with | [_, _], _ => rfl
  have F21 := fun_mk (st := s_l_below_all) l21 c21 k21
  have b21 := F21.binds (ps := ["web", "names"]) fun _ _ _ _ _ _ us hl => match us, hl with | [_, _], _ => rfl
  have F22 := fun_mk (st := s_l_base_row) l22 c22 k22
  have b22 := F22.binds (ps := ["under", "one", "other"]) fun _ _ _ _ _ _ us hl => match us, hl with | [_, _, _], _ => rfl
  have F23 := fun_mk (st := s_l_base_rows) l23 c23 k23
  have b23 := F23.binds (ps := ["under"]) fun _ _ _ _ _ _ us hl => match us, hl with | [_], _ => rfl
  have F24 := fun_mk (st := s_l_gaps) l24 c24 k24
  have b24 := F24.binds (ps := ["bases", "some"]) fun _ _ _ _ _ _ us hl => match us, hl with | [_, _], _ => rfl
  have F25 := fun_mk (st := s_l_closure) l25 c25 k25
  have b25 := F25.binds (ps := ["bases", "some"]) fun _ _ _ _ _ _ us hl => match us, hl with | [_, _], _ => rfl
  have F26 := fun_mk (st := s_l_is_needed) l26 c26 k26
  have b26 := F26.binds (ps := ["bases", "some", "name"]) fun _ _ _ _ _ _ us hl => match us, hl with | [_, _, _], _ => rfl
  have F27 := fun_mk (st := s_l_first_fault) l27 c27 k27
  have b27 := F27.binds (ps := ["bases", "handed"]) fun _ _ _ _ _ _ us hl => match us, hl with | [_, _], _ => rfl
  have F28 := fun_mk (st := s_l_same) l28 c28 k28
  have b28 := F28.binds (ps := ["told", "due"]) fun _ _ _ _ _ _ us hl => match us, hl with | [_, _], _ => rfl
  have F29 := fun_mk (st := s_l_is_list) l29 c29 k29
  have b29 := F29.binds (ps := ["told", "due"]) fun _ _ _ _ _ _ us hl => match us, hl with | [_, _], _ => rfl
  have F30 := fun_mk (st := s_l_lacks) l30 c30 k30
  have b30 := F30.binds (ps := ["some", "row"]) fun _ _ _ _ _ _ us hl => match us, hl with | [_, _], _ => rfl
  have F31 := fun_mk (st := s_l_is_lot) l31 c31 k31
  have b31 := F31.binds (ps := ["lot", "due", "names"]) fun _ _ _ _ _ _ us hl => match us, hl with | [_, _, _], _ => rfl
  have F32 := fun_mk (st := s_l_over_refused) l32 c32 k32
  have b32 := F32.binds (ps := ["order", "handed", "fault"]) fun _ _ _ _ _ _ us hl => match us, hl with | [_, _, _], _ => rfl
  have F33 := fun_mk (st := s_l_refused) l33 c33 k33
  have b33 := F33.binds (ps := ["kind", "lot", "name", "word"]) fun _ _ _ _ _ _ us hl => match us, hl with | [_, _, _, _], _ => rfl
  have F34 := fun_mk (st := s_l_minus) l34 c34 k34
  have b34 := F34.binds (ps := ["bases", "lot", "some", "names"]) fun _ _ _ _ _ _ us hl => match us, hl with | [_, _, _, _], _ => rfl
  have F35 := fun_mk (st := s_l_joined) l35 c35 k35
  have b35 := F35.binds (ps := ["bases", "lots", "some", "names"]) fun _ _ _ _ _ _ us hl => match us, hl with | [_, _, _, _], _ => rfl
  have F36 := fun_mk (st := s_l_stay) l36 c36 k36
  have b36 := F36.binds (ps := ["lots", "due", "names"]) fun _ _ _ _ _ _ us hl => match us, hl with | [_, _, _], _ => rfl
  have F37 := fun_mk (st := s_law) l37 c37 k37
  have b37 := F37.binds (ps := ["script"]) fun _ _ _ _ _ _ us hl => match us, hl with | [_], _ => rfl
  have F38 := fun_mk (st := s_Lot___init__) l38 c38 k38
  have b38 := F38.binds (ps := ["self", "order", "names"]) fun _ _ _ _ _ _ us hl => match us, hl with | [_, _, _], _ => rfl
  have F39 := fun_mk (st := s_Lot_over) l39 c39 k39
  have b39 := F39.binds (ps := ["cls", "order", "names"]) fun _ _ _ _ _ _ us hl => match us, hl with | [_, _, _], _ => rfl
  have F40 := fun_mk (st := s_Lot___contains__) l40 c40 k40
  have b40 := F40.binds (ps := ["self", "name"]) fun _ _ _ _ _ _ us hl => match us, hl with | [_, _], _ => rfl
  have F41 := fun_mk (st := s_Lot___iter__) l41 c41 k41
  have b41 := F41.binds (ps := ["self"]) fun _ _ _ _ _ _ us hl => match us, hl with | [_], _ => rfl
  have F42 := fun_mk (st := s_Lot___eq__) l42 c42 k42
  have b42 := F42.binds (ps := ["self", "other"]) fun _ _ _ _ _ _ us hl => match us, hl with | [_, _], _ => rfl
  have F43 := fun_mk (st := s_Lot___and__) l43 c43 k43
  have b43 := F43.binds (ps := ["self", "other"]) fun _ _ _ _ _ _ us hl => match us, hl with | [_, _], _ => rfl
  have F44 := fun_mk (st := s_Lot___or__) l44 c44 k44
  have b44 := F44.binds (ps := ["self", "other"]) fun _ _ _ _ _ _ us hl => match us, hl with | [_, _], _ => rfl
  have F45 := fun_mk (st := s_Lot_within) l45 c45 k45
  have b45 := F45.binds (ps := ["self", "other"]) fun _ _ _ _ _ _ us hl => match us, hl with | [_, _], _ => rfl
  have F46 := fun_mk (st := s_Lot_plus) l46 c46 k46
  have b46 := F46.binds (ps := ["self", "name"]) fun _ _ _ _ _ _ us hl => match us, hl with | [_, _], _ => rfl
  have F47 := fun_mk (st := s_Lot_minus) l47 c47 k47
  have b47 := F47.binds (ps := ["self", "name"]) fun _ _ _ _ _ _ us hl => match us, hl with | [_, _], _ => rfl
  have F48 := fun_mk (st := s_Order___init__) l48 c48 k48
  have b48 := F48.binds (ps := ["self"]) fun _ _ _ _ _ _ us hl => match us, hl with | [_], _ => rfl
  have F49 := fun_mk (st := s_Order_put) l49 c49 k49
  have b49 := F49.binds (ps := ["self", "name", "parents"]) fun _ _ _ _ _ _ us hl => match us, hl with | [_, _, _], _ => rfl
  have F50 := fun_mk (st := s_Order___iter__) l50 c50 k50
  have b50 := F50.binds (ps := ["self"]) fun _ _ _ _ _ _ us hl => match us, hl with | [_], _ => rfl
  have F51 := fun_mk (st := s_Order_names) l51 c51 k51
  have b51 := F51.binds (ps := ["self"]) fun _ _ _ _ _ _ us hl => match us, hl with | [_], _ => rfl
  have F52 := fun_mk (st := s_Order_has) l52 c52 k52
  have b52 := F52.binds (ps := ["self", "name"]) fun _ _ _ _ _ _ us hl => match us, hl with | [_, _], _ => rfl
  have F53 := fun_mk (st := s_Order_under) l53 c53 k53
  have b53 := F53.binds (ps := ["self", "name"]) fun _ _ _ _ _ _ us hl => match us, hl with | [_, _], _ => rfl
  have F54 := fun_mk (st := s_Order_is_under) l54 c54 k54
  have b54 := F54.binds (ps := ["self", "low", "high"]) fun _ _ _ _ _ _ us hl => match us, hl with | [_, _, _], _ => rfl
  have F55 := fun_mk (st := s_Order_nearest) l55 c55 k55
  have b55 := F55.binds (ps := ["self", "name"]) fun _ _ _ _ _ _ us hl => match us, hl with | [_, _], _ => rfl
  have F56 := fun_mk (st := s_Order_checked) l56 c56 k56
  have b56 := F56.binds (ps := ["self", "names"]) fun _ _ _ _ _ _ us hl => match us, hl with | [_, _], _ => rfl
  have Fi_Unknown := fun_mk (st := inClass (topS 18) 0) li_Unknown ci_Unknown ki_Unknown
  have bi_Unknown := Fi_Unknown.binds (ps := ["self", "name"]) fun _ _ _ _ _ _ us hl => match us, hl with | [_, _], _ => rfl
  have Fi_Repeated := fun_mk (st := inClass (topS 19) 0) li_Repeated ci_Repeated ki_Repeated
  have bi_Repeated := Fi_Repeated.binds (ps := ["self", "name"]) fun _ _ _ _ _ _ us hl => match us, hl with | [_, _], _ => rfl
  have Fi_NotClosed := fun_mk (st := inClass (topS 20) 0) li_NotClosed ci_NotClosed ki_NotClosed
  have bi_NotClosed := Fi_NotClosed.binds (ps := ["self", "first", "second", "missing"]) fun _ _ _ _ _ _ us hl => match us, hl with | [_, _, _, _], _ => rfl
  have Fi_Needed := fun_mk (st := inClass (topS 21) 0) li_Needed ci_Needed ki_Needed
  have bi_Needed := Fi_Needed.binds (ps := ["self", "name"]) fun _ _ _ _ _ _ us hl => match us, hl with | [_, _], _ => rfl
  exact ⟨_, fun s v => .of_eq rfl, fun base _ _ => ok_law ⟨_, _, F1, PySem.W.mg_of X G a1, b1, _, _, F2, PySem.W.mg_of X G a2, b2, _, _, F3, PySem.W.mg_of X G a3, b3, _, _, F4, PySem.W.mg_of X G a4, b4, _, _, F5, PySem.W.mg_of X G a5, b5, _, _, F6, PySem.W.mg_of X G a6, b6, _, _, F7, PySem.W.mg_of X G a7, b7, _, _, F8, PySem.W.mg_of X G a8, b8, _, _, F9, PySem.W.mg_of X G a9, b9, _, _, F10, PySem.W.mg_of X G a10, b10, _, _, F11, PySem.W.mg_of X G a11, b11, _, _, F12, PySem.W.mg_of X G a12, b12, _, _, F13, PySem.W.mg_of X G a13, b13, _, _, F14, PySem.W.mg_of X G a14, b14, _, _, F15, PySem.W.mg_of X G a15, b15, _, _, F16, PySem.W.mg_of X G a16, b16, _, _, F17, PySem.W.mg_of X G a17, b17, _, _, F18, PySem.W.mg_of X G a18, b18, _, _, F19, PySem.W.mg_of X G a19, b19, _, _, F20, PySem.W.mg_of X G a20, b20, _, _, F21, PySem.W.mg_of X G a21, b21, _, _, F22, PySem.W.mg_of X G a22, b22, _, _, F23, PySem.W.mg_of X G a23, b23, _, _, F24, PySem.W.mg_of X G a24, b24, _, _, F25, PySem.W.mg_of X G a25, b25, _, _, F26, PySem.W.mg_of X G a26, b26, _, _, F27, PySem.W.mg_of X G a27, b27, _, _, F28, PySem.W.mg_of X G a28, b28, _, _, F29, PySem.W.mg_of X G a29, b29, _, _, F30, PySem.W.mg_of X G a30, b30, _, _, F31, PySem.W.mg_of X G a31, b31, _, _, F32, PySem.W.mg_of X G a32, b32, _, _, F33, PySem.W.mg_of X G a33, b33, _, _, F34, PySem.W.mg_of X G a34, b34, _, _, F35, PySem.W.mg_of X G a35, b35, _, _, F36, PySem.W.mg_of X G a36, b36, _, _, F37, PySem.W.mg_of X G a37, b37, _, _, F38, b38, _, _, F39, b39, _, _, F40, b40, _, _, F41, b41, _, _, F42, b42, _, _, F43, b43, _, _, F44, b44, _, _, F45, b45, _, _, F46, b46, _, _, F47, b47, _, _, F48, b48, _, _, F49, b49, _, _, F50, b50, _, _, F51, b51, _, _, F52, b52, _, _, F53, b53, _, _, F54, b54, _, _, F55, b55, _, _, F56, b56, c_Lot, PySem.W.mg_of X G ac_Lot, ⟨pg_Lot, hd_Lot, po_Lot, sa_Lot⟩, na__order_Lot, na__names_Lot, na___len___Lot, na___length_hint___Lot, ⟨ica_Lot, icn_Lot, ict_Lot, icm_Lot⟩, sf_Lot, ⟨mk_Lot, a38, i38, kc_Lot⟩, _, ⟨cr_Lot, cg_Lot⟩, ⟨a39, ⟨_, r39⟩, i39⟩, ⟨a40, i40, k40⟩, ⟨a41, i41, k41⟩, ⟨a42, i42, k42⟩, ⟨a43, i43, k43⟩, ⟨a44, i44, k44⟩, ⟨a45, i45, k45⟩, ⟨a46, i46, k46⟩, ⟨a47, i47, k47⟩, c_Order, PySem.W.mg_of X G ac_Order, ⟨pg_Order, hd_Order, po_Order, sa_Order⟩, na__names_Order, na__under_Order, ⟨mk_Order, a48, i48, kc_Order⟩, ⟨a49, i49, k49⟩, ⟨a50, i50, k50⟩, ⟨a51, i51, k51⟩, ⟨a52, i52, k52⟩, ⟨a53, i53, k53⟩, ⟨a54, i54, k54⟩, ⟨a55, i55, k55⟩, ⟨a56, i56, k56⟩, c_PartError, PySem.W.mg_of X G ac_PartError, c_Unknown, PySem.W.mg_of X G ac_Unknown, fi_Unknown, _, Fi_Unknown, bi_Unknown, ⟨⟨_, _, _, _, _, _, _, _, _, _, _, _, _, _, _, xL_Unknown, by rfl⟩, sa_Unknown, ec_Unknown, tc_Unknown, kc_Unknown⟩, ai_Unknown, ti_Unknown, n_name_Unknown, ⟨ga_Unknown, gg_Unknown, ec_Unknown, hc_Unknown⟩, ⟨by unfold PySem.W.clsIn; rw [xL_Unknown] <;> rfl, ga_Unknown, gg_Unknown, ec_Unknown, hc_Unknown, gk_Unknown, xn, xt, gm_Unknown⟩, c_Repeated, PySem.W.mg_of X G ac_Repeated, fi_Repeated, _, Fi_Repeated, bi_Repeated, ⟨⟨_, _, _, _, _, _, _, _, _, _, _, _, _, _, _, xL_Repeated, by rfl⟩, sa_Repeated, ec_Repeated, tc_Repeated, kc_Repeated⟩, ai_Repeated, ti_Repeated, n_name_Repeated, ⟨ga_Repeated, gg_Repeated, ec_Repeated, hc_Repeated⟩, ⟨by unfold PySem.W.clsIn; rw [xL_Repeated] <;> rfl, ga_Repeated, gg_Repeated, ec_Repeated, hc_Repeated, gk_Repeated, xn, xt, gm_Repeated⟩, c_NotClosed, PySem.W.mg_of X G ac_NotClosed, fi_NotClosed, _, Fi_NotClosed, bi_NotClosed, ⟨⟨_, _, _, _, _, _, _, _, _, _, _, _, _, _, _, xL_NotClosed, by rfl⟩, sa_NotClosed, ec_NotClosed, tc_NotClosed, kc_NotClosed⟩, ai_NotClosed, ti_NotClosed, n_first_NotClosed, n_second_NotClosed, n_missing_NotClosed, ⟨ga_NotClosed, gg_NotClosed, ec_NotClosed, hc_NotClosed⟩, ⟨by unfold PySem.W.clsIn; rw [xL_NotClosed] <;> rfl, ga_NotClosed, gg_NotClosed, ec_NotClosed, hc_NotClosed, gk_NotClosed, xn, xt, gm_NotClosed⟩, c_Needed, PySem.W.mg_of X G ac_Needed, fi_Needed, _, Fi_Needed, bi_Needed, ⟨⟨_, _, _, _, _, _, _, _, _, _, _, _, _, _, _, xL_Needed, by rfl⟩, sa_Needed, ec_Needed, tc_Needed, kc_Needed⟩, ai_Needed, ti_Needed, n_name_Needed, ⟨ga_Needed, gg_Needed, ec_Needed, hc_Needed⟩, ⟨by unfold PySem.W.clsIn; rw [xL_Needed] <;> rfl, ga_Needed, gg_Needed, ec_Needed, hc_Needed, gk_Needed, xn, xt, gm_Needed⟩, exm_own ec_Needed ic_Needed tc_Needed ss_Unknown_Needed, exm_own ec_Repeated ic_Repeated tc_Repeated ss_Unknown_Repeated, exm_own ec_Unknown ic_Unknown tc_Unknown ss_Unknown_Unknown, kit_own ss_Unknown_Unknown ss_Unknown_Needed ic_Needed tc_Needed, kit_own ss_Unknown_Unknown ss_Unknown_PartError ic_PartError tc_PartError, kit_own ss_Unknown_Unknown ss_Unknown_Repeated ic_Repeated tc_Repeated, kit_ve sv_Unknown, exm_own ec_Needed ic_Needed tc_Needed ss_Repeated_Needed, exm_own ec_Repeated ic_Repeated tc_Repeated ss_Repeated_Repeated, exm_own ec_Unknown ic_Unknown tc_Unknown ss_Repeated_Unknown, kit_own ss_Repeated_Repeated ss_Repeated_Needed ic_Needed tc_Needed, kit_own ss_Repeated_Repeated ss_Repeated_PartError ic_PartError tc_PartError, kit_own ss_Repeated_Repeated ss_Repeated_Repeated ic_Repeated tc_Repeated, kit_ve sv_Repeated, exm_own ec_Needed ic_Needed tc_Needed ss_NotClosed_Needed, exm_own ec_Repeated ic_Repeated tc_Repeated ss_NotClosed_Repeated, exm_own ec_Unknown ic_Unknown tc_Unknown ss_NotClosed_Unknown, kit_own ss_NotClosed_NotClosed ss_NotClosed_Needed ic_Needed tc_Needed, kit_own ss_NotClosed_NotClosed ss_NotClosed_PartError ic_PartError tc_PartError, kit_own ss_NotClosed_NotClosed ss_NotClosed_Repeated ic_Repeated tc_Repeated, kit_ve sv_NotClosed, exm_own ec_Needed ic_Needed tc_Needed ss_Needed_Needed, exm_own ec_Repeated ic_Repeated tc_Repeated ss_Needed_Repeated, exm_own ec_Unknown ic_Unknown tc_Unknown ss_Needed_Unknown, kit_own ss_Needed_Needed ss_Needed_Needed ic_Needed tc_Needed, kit_own ss_Needed_Needed ss_Needed_PartError ic_PartError tc_PartError, kit_own ss_Needed_Needed ss_Needed_Repeated ic_Repeated tc_Repeated, kit_ve sv_Needed, PySem.W.mg_none_of X G z_ValueError, PySem.W.mg_none_of X G z_abs, PySem.W.mg_none_of X G z_all, PySem.W.mg_none_of X G z_classmethod, PySem.W.mg_none_of X G z_enumerate, PySem.W.mg_none_of X G z_int, PySem.W.mg_none_of X G z_isinstance, PySem.W.mg_none_of X G z_iter, PySem.W.mg_none_of X G z_len, PySem.W.mg_none_of X G z_list, PySem.W.mg_none_of X G z_max, PySem.W.mg_none_of X G z_min, PySem.W.mg_none_of X G z_range, PySem.W.mg_none_of X G z_set, PySem.W.mg_none_of X G z_sorted, PySem.W.mg_none_of X G z_str, ⟨_, PySem.W.mg_of X G y_NAME_LETTERS, _, rfl⟩, ⟨_, PySem.W.mg_of X G y_NAME_DIGITS, _, rfl⟩, ⟨_, PySem.W.mg_of X G y_NAME_LENGTH, _, rfl⟩⟩⟩
end K29
open PySem PySem.W PyProof.Rows
set_option maxHeartbeats 0 in
theorem PySem.Challenge.cw_partclones_k29_lot_plus_minus_holds : PySem.Challenge.rw_partclones_k29_lot_plus_minus.Holds := by
  w_on; o_law; k_head; (case hw => w_witness2)
  k_fill
  refine L2.walk_of (l := PySem.Challenge.rw_partclones_k29_lot_plus_minus) (n := 63) (k := 16) (x := "script") (CX := fun _ => L2.CX0) (sp := fun w => K29.sp_law _) rfl (by decide) rfl ⟨rfl, by decide, by decide⟩ (fun w h Y => PySem.W.kIn_of Y) ?F (fun _ H a ns hl _ hS => K29.sp_law_start hl hS) (fun _ _ _ _ _ h => h)
  case F =>
    intro w mg fa h KX G hmg
    refine' K29.all_mk KX G hmg ?ac_Lot ?pg_Lot ?hd_Lot ?po_Lot ?sa_Lot ?mk_Lot ?kc_Lot ?na__order_Lot ?na__names_Lot ?na___len___Lot ?na___length_hint___Lot ?ica_Lot ?icn_Lot ?ict_Lot ?icm_Lot ?sf_Lot ?cr_Lot ?cg_Lot ?ac_Order ?pg_Order ?hd_Order ?po_Order ?sa_Order ?mk_Order ?kc_Order ?na__names_Order ?na__under_Order ?a1 ?l1 ?c1 ?k1 ?a2 ?l2 ?c2 ?k2 ?a3 ?l3 ?c3 ?k3 ?a4 ?l4 ?c4 ?k4 ?a5 ?l5 ?c5 ?k5 ?a6 ?l6 ?c6 ?k6 ?a7 ?l7 ?c7 ?k7 ?a8 ?l8 ?c8 ?k8 ?a9 ?l9 ?c9 ?k9 ?a10 ?l10 ?c10 ?k10 ?a11 ?l11 ?c11 ?k11 ?a12 ?l12 ?c12 ?k12 ?a13 ?l13 ?c13 ?k13 ?a14 ?l14 ?c14 ?k14 ?a15 ?l15 ?c15 ?k15 ?a16 ?l16 ?c16 ?k16 ?a17 ?l17 ?c17 ?k17 ?a18 ?l18 ?c18 ?k18 ?a19 ?l19 ?c19 ?k19 ?a20 ?l20 ?c20 ?k20 ?a21 ?l21 ?c21 ?k21 ?a22 ?l22 ?c22 ?k22 ?a23 ?l23 ?c23 ?k23 ?a24 ?l24 ?c24 ?k24 ?a25 ?l25 ?c25 ?k25 ?a26 ?l26 ?c26 ?k26 ?a27 ?l27 ?c27 ?k27 ?a28 ?l28 ?c28 ?k28 ?a29 ?l29 ?c29 ?k29 ?a30 ?l30 ?c30 ?k30 ?a31 ?l31 ?c31 ?k31 ?a32 ?l32 ?c32 ?k32 ?a33 ?l33 ?c33 ?k33 ?a34 ?l34 ?c34 ?k34 ?a35 ?l35 ?c35 ?k35 ?a36 ?l36 ?c36 ?k36 ?a37 ?l37 ?c37 ?k37 ?a38 ?i38 ?l38 ?c38 ?k38 ?a39 ?r39 ?i39 ?l39 ?c39 ?k39 ?a40 ?i40 ?l40 ?c40 ?k40 ?a41 ?i41 ?l41 ?c41 ?k41 ?a42 ?i42 ?l42 ?c42 ?k42 ?a43 ?i43 ?l43 ?c43 ?k43 ?a44 ?i44 ?l44 ?c44 ?k44 ?a45 ?i45 ?l45 ?c45 ?k45 ?a46 ?i46 ?l46 ?c46 ?k46 ?a47 ?i47 ?l47 ?c47 ?k47 ?a48 ?i48 ?l48 ?c48 ?k48 ?a49 ?i49 ?l49 ?c49 ?k49 ?a50 ?i50 ?l50 ?c50 ?k50 ?a51 ?i51 ?l51 ?c51 ?k51 ?a52 ?i52 ?l52 ?c52 ?k52 ?a53 ?i53 ?l53 ?c53 ?k53 ?a54 ?i54 ?l54 ?c54 ?k54 ?a55 ?i55 ?l55 ?c55 ?k55 ?a56 ?i56 ?l56 ?c56 ?k56 ?ac_PartError ?ec_PartError ?tc_PartError ?ic_PartError ?ac_Unknown ?ec_Unknown ?tc_Unknown ?ic_Unknown ?xL_Unknown ?sa_Unknown ?ga_Unknown ?gg_Unknown ?gk_Unknown ?gm_Unknown ?n_name_Unknown ?ai_Unknown ?ti_Unknown ?li_Unknown ?ci_Unknown ?ki_Unknown ?kc_Unknown ?hc_Unknown ?ac_Repeated ?ec_Repeated ?tc_Repeated ?ic_Repeated ?xL_Repeated ?sa_Repeated ?ga_Repeated ?gg_Repeated ?gk_Repeated ?gm_Repeated ?n_name_Repeated ?ai_Repeated ?ti_Repeated ?li_Repeated ?ci_Repeated ?ki_Repeated ?kc_Repeated ?hc_Repeated ?ac_NotClosed ?ec_NotClosed ?tc_NotClosed ?ic_NotClosed ?xL_NotClosed ?sa_NotClosed ?ga_NotClosed ?gg_NotClosed ?gk_NotClosed ?gm_NotClosed ?n_first_NotClosed ?n_second_NotClosed ?n_missing_NotClosed ?ai_NotClosed ?ti_NotClosed ?li_NotClosed ?ci_NotClosed ?ki_NotClosed ?kc_NotClosed ?hc_NotClosed ?ac_Needed ?ec_Needed ?tc_Needed ?ic_Needed ?xL_Needed ?sa_Needed ?ga_Needed ?gg_Needed ?gk_Needed ?gm_Needed ?n_name_Needed ?ai_Needed ?ti_Needed ?li_Needed ?ci_Needed ?ki_Needed ?kc_Needed ?hc_Needed ?ss_Unknown_Needed ?ss_Unknown_PartError ?ss_Unknown_Repeated ?ss_Unknown_Unknown ?sv_Unknown ?ss_Repeated_Needed ?ss_Repeated_PartError ?ss_Repeated_Repeated ?ss_Repeated_Unknown ?sv_Repeated ?ss_NotClosed_Needed ?ss_NotClosed_NotClosed ?ss_NotClosed_PartError ?ss_NotClosed_Repeated ?ss_NotClosed_Unknown ?sv_NotClosed ?ss_Needed_Needed ?ss_Needed_PartError ?ss_Needed_Repeated ?ss_Needed_Unknown ?sv_Needed ?xn ?xt ?z_ValueError ?z_abs ?z_all ?z_classmethod ?z_enumerate ?z_int ?z_isinstance ?z_iter ?z_len ?z_list ?z_max ?z_min ?z_range ?z_set ?z_sorted ?z_str ?y_NAME_LETTERS ?y_NAME_DIGITS ?y_NAME_LENGTH
    (case ac_Lot => k_is)
    (case pg_Lot => k_is)
    (case hd_Lot => k_is)
    (case po_Lot => k_is)
    (case sa_Lot => k_is)
    (case mk_Lot => k_is)
    (case kc_Lot => k_is)
    (case na__order_Lot => k_is)
    (case na__names_Lot => k_is)
    (case na___len___Lot => k_is)
    (case na___length_hint___Lot => k_is)
    (case ica_Lot => k_is)
    (case icn_Lot => k_is)
    (case ict_Lot => k_is)
    (case icm_Lot => k_is)
    (case sf_Lot => k_is)
    (case cr_Lot => k_is)
    (case cg_Lot => k_is)
    (case ac_Order => k_is)
    (case pg_Order => k_is)
    (case hd_Order => k_is)
    (case po_Order => k_is)
    (case sa_Order => k_is)
    (case mk_Order => k_is)
    (case kc_Order => k_is)
    (case na__names_Order => k_is)
    (case na__under_Order => k_is)
    (case a1 => k_is)
    (case l1 => k_is)
    (case c1 => k_is)
    (case k1 => k_is)
    (case a2 => k_is)
    (case l2 => k_is)
    (case c2 => k_is)
    (case k2 => k_is)
    (case a3 => k_is)
    (case l3 => k_is)
    (case c3 => k_is)
    (case k3 => k_is)
    (case a4 => k_is)
    (case l4 => k_is)
    (case c4 => k_is)
    (case k4 => k_is)
    (case a5 => k_is)
    (case l5 => k_is)
    (case c5 => k_is)
    (case k5 => k_is)
    (case a6 => k_is)
    (case l6 => k_is)
    (case c6 => k_is)
    (case k6 => k_is)
    (case a7 => k_is)
    (case l7 => k_is)
    (case c7 => k_is)
    (case k7 => k_is)
    (case a8 => k_is)
    (case l8 => k_is)
    (case c8 => k_is)
    (case k8 => k_is)
    (case a9 => k_is)
    (case l9 => k_is)
    (case c9 => k_is)
    (case k9 => k_is)
    (case a10 => k_is)
    (case l10 => k_is)
    (case c10 => k_is)
    (case k10 => k_is)
    (case a11 => k_is)
    (case l11 => k_is)
    (case c11 => k_is)
    (case k11 => k_is)
    (case a12 => k_is)
    (case l12 => k_is)
    (case c12 => k_is)
    (case k12 => k_is)
    (case a13 => k_is)
    (case l13 => k_is)
    (case c13 => k_is)
    (case k13 => k_is)
    (case a14 => k_is)
    (case l14 => k_is)
    (case c14 => k_is)
    (case k14 => k_is)
    (case a15 => k_is)
    (case l15 => k_is)
    (case c15 => k_is)
    (case k15 => k_is)
    (case a16 => k_is)
    (case l16 => k_is)
    (case c16 => k_is)
    (case k16 => k_is)
    (case a17 => k_is)
    (case l17 => k_is)
    (case c17 => k_is)
    (case k17 => k_is)
    (case a18 => k_is)
    (case l18 => k_is)
    (case c18 => k_is)
    (case k18 => k_is)
    (case a19 => k_is)
    (case l19 => k_is)
    (case c19 => k_is)
    (case k19 => k_is)
    (case a20 => k_is)
    (case l20 => k_is)
    (case c20 => k_is)
    (case k20 => k_is)
    (case a21 => k_is)
    (case l21 => k_is)
    (case c21 => k_is)
    (case k21 => k_is)
    (case a22 => k_is)
    (case l22 => k_is)
    (case c22 => k_is)
    (case k22 => k_is)
    (case a23 => k_is)
    (case l23 => k_is)
    (case c23 => k_is)
    (case k23 => k_is)
    (case a24 => k_is)
    (case l24 => k_is)
    (case c24 => k_is)
    (case k24 => k_is)
    (case a25 => k_is)
    (case l25 => k_is)
    (case c25 => k_is)
    (case k25 => k_is)
    (case a26 => k_is)
    (case l26 => k_is)
    (case c26 => k_is)
    (case k26 => k_is)
    (case a27 => k_is)
    (case l27 => k_is)
    (case c27 => k_is)
    (case k27 => k_is)
    (case a28 => k_is)
    (case l28 => k_is)
    (case c28 => k_is)
    (case k28 => k_is)
    (case a29 => k_is)
    (case l29 => k_is)
    (case c29 => k_is)
    (case k29 => k_is)
    (case a30 => k_is)
    (case l30 => k_is)
    (case c30 => k_is)
    (case k30 => k_is)
    (case a31 => k_is)
    (case l31 => k_is)
    (case c31 => k_is)
    (case k31 => k_is)
    (case a32 => k_is)
    (case l32 => k_is)
    (case c32 => k_is)
    (case k32 => k_is)
    (case a33 => k_is)
    (case l33 => k_is)
    (case c33 => k_is)
    (case k33 => k_is)
    (case a34 => k_is)
    (case l34 => k_is)
    (case c34 => k_is)
    (case k34 => k_is)
    (case a35 => k_is)
    (case l35 => k_is)
    (case c35 => k_is)
    (case k35 => k_is)
    (case a36 => k_is)
    (case l36 => k_is)
    (case c36 => k_is)
    (case k36 => k_is)
    (case a37 => k_is)
    (case l37 => k_is)
    (case c37 => k_is)
    (case k37 => k_is)
    (case a38 => k_is)
    (case i38 => k_is)
    (case l38 => k_is)
    (case c38 => k_is)
    (case k38 => k_is)
    (case a39 => k_is)
    (case r39 => k_is)
    (case i39 => k_is)
    (case l39 => k_is)
    (case c39 => k_is)
    (case k39 => k_is)
    (case a40 => k_is)
    (case i40 => k_is)
    (case l40 => k_is)
    (case c40 => k_is)
    (case k40 => k_is)
    (case a41 => k_is)
    (case i41 => k_is)
    (case l41 => k_is)
    (case c41 => k_is)
    (case k41 => k_is)
    (case a42 => k_is)
    (case i42 => k_is)
    (case l42 => k_is)
    (case c42 => k_is)
    (case k42 => k_is)
    (case a43 => k_is)
    (case i43 => k_is)
    (case l43 => k_is)
    (case c43 => k_is)
    (case k43 => k_is)
    (case a44 => k_is)
    (case i44 => k_is)
    (case l44 => k_is)
    (case c44 => k_is)
    (case k44 => k_is)
    (case a45 => k_is)
    (case i45 => k_is)
    (case l45 => k_is)
    (case c45 => k_is)
    (case k45 => k_is)
    (case a46 => k_is)
    (case i46 => k_is)
    (case l46 => k_is)
    (case c46 => k_is)
    (case k46 => k_is)
    (case a47 => k_is)
    (case i47 => k_is)
    (case l47 => k_is)
    (case c47 => k_is)
    (case k47 => k_is)
    (case a48 => k_is)
    (case i48 => k_is)
    (case l48 => k_is)
    (case c48 => k_is)
    (case k48 => k_is)
    (case a49 => k_is)
    (case i49 => k_is)
    (case l49 => k_is)
    (case c49 => k_is)
    (case k49 => k_is)
    (case a50 => k_is)
    (case i50 => k_is)
    (case l50 => k_is)
    (case c50 => k_is)
    (case k50 => k_is)
    (case a51 => k_is)
    (case i51 => k_is)
    (case l51 => k_is)
    (case c51 => k_is)
    (case k51 => k_is)
    (case a52 => k_is)
    (case i52 => k_is)
    (case l52 => k_is)
    (case c52 => k_is)
    (case k52 => k_is)
    (case a53 => k_is)
    (case i53 => k_is)
    (case l53 => k_is)
    (case c53 => k_is)
    (case k53 => k_is)
    (case a54 => k_is)
    (case i54 => k_is)
    (case l54 => k_is)
    (case c54 => k_is)
    (case k54 => k_is)
    (case a55 => k_is)
    (case i55 => k_is)
    (case l55 => k_is)
    (case c55 => k_is)
    (case k55 => k_is)
    (case a56 => k_is)
    (case i56 => k_is)
    (case l56 => k_is)
    (case c56 => k_is)
    (case k56 => k_is)
    (case ac_PartError => k_is)
    (case ec_PartError => k_is)
    (case tc_PartError => k_is)
    (case ic_PartError => k_is)
    (case ac_Unknown => k_is)
    (case ec_Unknown => k_is)
    (case tc_Unknown => k_is)
    (case ic_Unknown => k_is)
    (case xL_Unknown => k_is)
    (case sa_Unknown => k_is)
    (case ga_Unknown => k_is)
    (case gg_Unknown => k_is)
    (case gk_Unknown => k_is)
    (case gm_Unknown => k_is)
    (case n_name_Unknown => k_is)
    (case ai_Unknown => k_is)
    (case ti_Unknown => k_is)
    (case li_Unknown => k_is)
    (case ci_Unknown => k_is)
    (case ki_Unknown => k_is)
    (case kc_Unknown => k_is)
    (case hc_Unknown => k_is)
    (case ac_Repeated => k_is)
    (case ec_Repeated => k_is)
    (case tc_Repeated => k_is)
    (case ic_Repeated => k_is)
    (case xL_Repeated => k_is)
    (case sa_Repeated => k_is)
    (case ga_Repeated => k_is)
    (case gg_Repeated => k_is)
    (case gk_Repeated => k_is)
    (case gm_Repeated => k_is)
    (case n_name_Repeated => k_is)
    (case ai_Repeated => k_is)
    (case ti_Repeated => k_is)
    (case li_Repeated => k_is)
    (case ci_Repeated => k_is)
    (case ki_Repeated => k_is)
    (case kc_Repeated => k_is)
    (case hc_Repeated => k_is)
    (case ac_NotClosed => k_is)
    (case ec_NotClosed => k_is)
    (case tc_NotClosed => k_is)
    (case ic_NotClosed => k_is)
    (case xL_NotClosed => k_is)
    (case sa_NotClosed => k_is)
    (case ga_NotClosed => k_is)
    (case gg_NotClosed => k_is)
    (case gk_NotClosed => k_is)
    (case gm_NotClosed => k_is)
    (case n_first_NotClosed => k_is)
    (case n_second_NotClosed => k_is)
    (case n_missing_NotClosed => k_is)
    (case ai_NotClosed => k_is)
    (case ti_NotClosed => k_is)
    (case li_NotClosed => k_is)
    (case ci_NotClosed => k_is)
    (case ki_NotClosed => k_is)
    (case kc_NotClosed => k_is)
    (case hc_NotClosed => k_is)
    (case ac_Needed => k_is)
    (case ec_Needed => k_is)
    (case tc_Needed => k_is)
    (case ic_Needed => k_is)
    (case xL_Needed => k_is)
    (case sa_Needed => k_is)
    (case ga_Needed => k_is)
    (case gg_Needed => k_is)
    (case gk_Needed => k_is)
    (case gm_Needed => k_is)
    (case n_name_Needed => k_is)
    (case ai_Needed => k_is)
    (case ti_Needed => k_is)
    (case li_Needed => k_is)
    (case ci_Needed => k_is)
    (case ki_Needed => k_is)
    (case kc_Needed => k_is)
    (case hc_Needed => k_is)
    (case ss_Unknown_Needed => k_is)
    (case ss_Unknown_PartError => k_is)
    (case ss_Unknown_Repeated => k_is)
    (case ss_Unknown_Unknown => k_is)
    (case sv_Unknown => k_is)
    (case ss_Repeated_Needed => k_is)
    (case ss_Repeated_PartError => k_is)
    (case ss_Repeated_Repeated => k_is)
    (case ss_Repeated_Unknown => k_is)
    (case sv_Repeated => k_is)
    (case ss_NotClosed_Needed => k_is)
    (case ss_NotClosed_NotClosed => k_is)
    (case ss_NotClosed_PartError => k_is)
    (case ss_NotClosed_Repeated => k_is)
    (case ss_NotClosed_Unknown => k_is)
    (case sv_NotClosed => k_is)
    (case ss_Needed_Needed => k_is)
    (case ss_Needed_PartError => k_is)
    (case ss_Needed_Repeated => k_is)
    (case ss_Needed_Unknown => k_is)
    (case sv_Needed => k_is)
    (case xn => k_is)
    (case xt => k_is)
    (case z_ValueError => k_is)
    (case z_abs => k_is)
    (case z_all => k_is)
    (case z_classmethod => k_is)
    (case z_enumerate => k_is)
    (case z_int => k_is)
    (case z_isinstance => k_is)
    (case z_iter => k_is)
    (case z_len => k_is)
    (case z_list => k_is)
    (case z_max => k_is)
    (case z_min => k_is)
    (case z_range => k_is)
    (case z_set => k_is)
    (case z_sorted => k_is)
    (case z_str => k_is)
    (case y_NAME_LETTERS => k_is)
    (case y_NAME_DIGITS => k_is)
    (case y_NAME_LENGTH => k_is)

