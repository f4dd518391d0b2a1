import PyProof.Rows.All
import Wide.All
import OpenK.AllK
import Wide.FinOn
import HandS.ForMost
import HandS.Small
import HandS.Style
import HandS.Flow
import HandS.Deep
import HandS.IsInst
import HandS.More
import HandS.Star
import HandS.TupAny
import KE.KExcIs
import HandS.ExcCtx
import HandS.ExcInit
import HandS.ExcField
import HandS.HotCalls
import HandS.Wide
import HandS.Strs
import HandS.SetKeys
import HandS.Text
import HandS.Iter
import HandS.WideBits
import HandS.Dict
import HandS.WordsDict
import HandS.Conv
import HandS.List
import HandS.SetBool
import HandS.DictComp
import HandS.ListItems
import HandS.Ends
import HandS.GenList
import HandS.GenYield
import HandS.GenBody
import HandS.SuiteRaise
import KE.KAsSuite
import HandS.ExcInitHot
import HandS.RaiseFrom
import HandS.OwnIter
import HandS.IterNext
import HandS.GenOver
import KE.KOpsOwn
import HandS.Call
import HandS.SlotsOwn
import HandS.ClsMeth
import HandS.IterVal
import HandS.ExcOwn
import KE.KDictOf
import HandS.DeepEq
import HandS.SetFor
import PySem.Challenge.RW_partclones_k37_commit_shows
set_option Elab.async false
set_option linter.all false
set_option maxRecDepth 100000
namespace Qk
open PySem PySem.Spec PyProof.Rows L2
abbrev Own := List (Addr × HO)
structure Has (F : Hp) (O : Own) (H : Hp) : Prop where
  same : Same F H
  own : ∀ p ∈ O, F p.1 = none ∧ H p.1 = some p.2
  nd : (O.map (·.1)).Nodup
/-- O with the object at a changed from o to o' -/
inductive Chg : Own → Addr → HO → HO → Own → Prop
  | hd {a : Addr} {o o' : HO} {O : Own} : Chg ((a, o) :: O) a o o' ((a, o') :: O)
  | tl {a : Addr} {o o' : HO} {O O' : Own} {x : Addr × HO} : Chg O a o o' O' → Chg (x :: O) a o o' (x :: O')
theorem Chg.mem {O O' : Own} {a : Addr} {o o' : HO} (c : Chg O a o o' O') : (a, o) ∈ O := by
  induction c with
  | hd => exact List.Mem.head _
  | tl _ ih => exact List.Mem.tail _ ih
theorem Chg.fst {O O' : Own} {a : Addr} {o o' : HO} (c : Chg O a o o' O') : O'.map (·.1) = O.map (·.1) := by
  induction c with
  | hd => rfl
  | tl _ ih => rw [List.map_cons, List.map_cons, ih]
theorem Chg.own {O O' : Own} {a : Addr} {o o' : HO} (c : Chg O a o o' O') (nd : (O.map (·.1)).Nodup) : ∀ p ∈ O', p = (a, o') ∨ (p ∈ O ∧ p.1 ≠ a) := by
  induction c with
  | @hd a o o' O =>
    intro p hp
    rw [List.map_cons] at nd
    have nm := (List.nodup_cons.mp nd).1
    rcases List.mem_cons.mp hp with e | hp
    · exact .inl e
    · refine .inr ⟨List.mem_cons_of_mem _ hp, fun e => nm ?_⟩
      exact List.mem_map.mpr ⟨p, hp, e⟩
  | @tl a o o' O O' x c ih =>
    intro p hp
    rw [List.map_cons] at nd
    have nm := List.nodup_cons.mp nd
    rcases List.mem_cons.mp hp with e | hp
    · subst e
      refine .inr ⟨List.mem_cons_self, fun e => nm.1 ?_⟩
      rw [e]
      exact List.mem_map.mpr ⟨_, c.mem, rfl⟩
    · rcases ih nm.2 p hp with e | ⟨e, ne⟩
      · exact .inl e
      · exact .inr ⟨List.mem_cons_of_mem _ e, ne⟩
section
variable {F F' : Hp} {O O' : Own} {H H' : Hp} {a p : Addr} {o o' : HO} {K : PySem.W.Frag} {xs : List V}
theorem Has.start (H : Hp) : Has H [] H := ⟨Same.refl H, fun _ h => (List.not_mem_nil h).elim, List.nodup_nil⟩
theorem Has.get (h : Has F O H) (m : (a, o) ∈ O) : H a = some o := (h.own _ m).2
theorem Has.but (h : Has F O H) (c : Chg O a o o' O') (s : ∀ b u, b ≠ a → H b = some u → H' b = some u) (e : H' a = some o') : Has F O' H' := by
  have fa : F a = none := (h.own _ c.mem).1
  refine ⟨fun b u q => s b u (fun z => by rw [z, fa] at q; cases q) (h.same b u q), fun q hq => ?_, by rw [c.fst]; exact h.nd⟩
  rcases c.own h.nd q hq with rfl | ⟨m, ne⟩
  · exact ⟨fa, e⟩
  · exact ⟨(h.own _ m).1, s _ _ ne (h.own _ m).2⟩
theorem Has.put (h : Has F O H) (c : Chg O a o o' O') : Has F O' (upd H a o') := h.but c (fun b u ne q => by rw [upd_ne ne]; exact q) upd_same
theorem Has.on (h : Has F O H) (s : Same H H') : Has F O H' := ⟨h.same.trans s, fun q hq => ⟨(h.own q hq).1, s _ _ (h.own q hq).2⟩, h.nd⟩
theorem Has.made (h : Has F O H) (n : H p = none) (s : Same H H') (e : H' p = some o) : Has F ((p, o) :: O) H' := by
  refine ⟨h.same.trans s, fun q hq => ?_, ?_⟩
  · rcases List.mem_cons.mp hq with rfl | hq
    · exact ⟨h.same.free n, e⟩
    · exact ⟨(h.own q hq).1, s _ _ (h.own q hq).2⟩
  · rw [List.map_cons]
    refine List.nodup_cons.mpr ⟨fun m => ?_, h.nd⟩
    obtain ⟨q, hq, e'⟩ := List.mem_map.mp m
    have z := (h.own q hq).2
    rw [e', n] at z
    cases z
theorem same_upd (n : H p = none) : Same H (upd H p o) := fun b u q => by
  rw [upd_ne (ne_of_none q n)]
  exact q
theorem Has.new (h : Has F O H) (n : H p = none) : Has F ((p, o) :: O) (upd H p o) := h.made n (same_upd n) upd_same
theorem Has.drop {x : Addr × HO} (h : Has F (x :: O) H) : Has F O H := ⟨h.same, fun q hq => h.own q (List.mem_cons_of_mem _ hq), (List.nodup_cons.mp (by have := h.nd; rw [List.map_cons] at this; exact this)).2⟩
theorem Has.sub (h : Has F O H) (s : O'.Sublist O) : Has F O' H := ⟨h.same, fun q hq => h.own q (s.subset hq), (s.map _).nodup h.nd⟩
theorem Has.perm (h : Has F O H) (s : O'.Perm O) : Has F O' H := ⟨h.same, fun q hq => h.own q (s.subset hq), (s.map _).nodup_iff.mpr h.nd⟩
/-- the first owned object stands still from now on -/
theorem Has.frz (h : Has F ((p, o) :: O) H) : Has (upd F p o) O H := by
  have hp := h.own (p, o) List.mem_cons_self
  have nd : p ∉ O.map (·.1) ∧ (O.map (·.1)).Nodup := List.nodup_cons.mp (by have := h.nd; rw [List.map_cons] at this; exact this)
  refine ⟨fun b u q => ?_, fun q hq => ⟨?_, (h.own q (List.mem_cons_of_mem _ hq)).2⟩, nd.2⟩
  · by_cases e : b = p
    · subst e
      rw [upd_same] at q
      cases q
      exact hp.2
    · rw [upd_ne e] at q
      exact h.same b u q
  · rw [upd_ne (fun z => nd.1 (List.mem_map.mpr ⟨q, hq, z⟩))]
    exact (h.own q (List.mem_cons_of_mem _ hq)).1
theorem Has.free (h : Has F ((p, o) :: O) H) : F p = none := (h.own _ List.mem_cons_self).1
theorem Has.grow (h : Has F ((p, o) :: O) H) : Same F (upd F p o) := same_upd h.free
/-- all stands still from now on -/
theorem Has.all (h : Has F O H) : Has H [] H := Has.start H
/-- F grown by what O knows nothing of -/
theorem Has.up (h : Has F O H) (s2 : Same F' H') (s : Same H H') (d : ∀ p ∈ O, F' p.1 = none) : Has F' O H' :=
  ⟨s2, fun q hq => ⟨d q hq, s _ _ (h.own q hq).2⟩, h.nd⟩
theorem Same.tup {K : PySem.W.Frag} (e : Same H H') (h : SqT K H a xs) : SqT K H' a xs := by
  rcases h with (h | ⟨o, h⟩) | h
  · exact .inl (.inl (e _ _ h))
  · exact .inl (.inr ⟨o, e _ _ h⟩)
  · exact .inr h
end
mutual
inductive Dq (H : Hp) : V → PyData → Prop
  | non : Dq H .non .none
  | bl (b : Bool) : Dq H (.bl b) (.bool b)
  | int (i : Int) : Dq H (.int i) (.int i)
  | str (x : Str) : Dq H (.str x) (.str x)
  | lst {a : Addr} {xs : List V} {ds : List PyData} : H a = some (.lst xs) → DqAll H xs ds → Dq H (.ref a) (.list ds)
  | tup {a : Addr} {xs : List V} {ds : List PyData} : H a = some (.tup xs) → DqAll H xs ds → Dq H (.ref a) (.tuple ds)
inductive DqAll (H : Hp) : List V → List PyData → Prop
  | nil : DqAll H [] []
  | cons {v : V} {vs : List V} {d : PyData} {ds : List PyData} : Dq H v d → DqAll H vs ds → DqAll H (v :: vs) (d :: ds)
end
mutual
theorem Dq.up {H H' : Hp} (e : Same H H') : ∀ (d : PyData) (v : V), Dq H v d → Dq H' v d
  | _, _, .non => .non
  | _, _, .bl b => .bl b
  | _, _, .int i => .int i
  | _, _, .str x => .str x
  | .list ds, _, .lst s a => .lst (e _ _ s) (DqAll.up e ds _ a)
  | .tuple ds, _, .tup s a => .tup (e _ _ s) (DqAll.up e ds _ a)
theorem DqAll.up {H H' : Hp} (e : Same H H') : ∀ (ds : List PyData) (vs : List V), DqAll H vs ds → DqAll H' vs ds
  | _, _, .nil => .nil
  | d :: ds, _, .cons h t => .cons (Dq.up e d _ h) (DqAll.up e ds _ t)
end
mutual
theorem Dq.dp (K : PySem.W.Frag) {H : Hp} : ∀ (d : PyData) (v : V), Dq H v d → Dp K H v d
  | _, _, .non => .non
  | _, _, .bl b => .bl b
  | _, _, .int i => .int i
  | _, _, .str x => .str x
  | .list ds, _, .lst s a => .lst (SqL.of s) (DqAll.dp K ds _ a)
  | .tuple ds, _, .tup s a => .tup (SqT.of s) (DqAll.dp K ds _ a)
theorem DqAll.dp (K : PySem.W.Frag) {H : Hp} : ∀ (ds : List PyData) (vs : List V), DqAll H vs ds → DpAll K H vs ds
  | _, _, .nil => .nil
  | d :: ds, _, .cons h t => .cons (Dq.dp K d _ h) (DqAll.dp K ds _ t)
end
theorem DqAll.len {H : Hp} : ∀ {vs : List V} {ds : List PyData}, DqAll H vs ds → vs.length = ds.length
  | _, _, .nil => rfl
  | _, _, .cons _ t => by rw [List.length_cons, List.length_cons, t.len]
theorem DqAll.get {H : Hp} : ∀ {vs : List V} {ds : List PyData} {i : Nat} {v : V}, DqAll H vs ds → vs[i]? = some v → ∃ d, ds[i]? = some d ∧ Dq H v d
  | _, _, _, _, .nil, e => by simp at e
  | _, _, 0, _, .cons h _, e => ⟨_, rfl, by have e' := Option.some.inj e; rw [← e']; exact h⟩
  | _, _, i + 1, _, .cons _ t, e => t.get (i := i) e
theorem DqAll.snoc {H : Hp} : ∀ {vs : List V} {ds : List PyData} {v : V} {d : PyData}, DqAll H vs ds → Dq H v d → DqAll H (vs ++ [v]) (ds ++ [d])
  | _, _, _, _, .nil, h => .cons h .nil
  | _, _, _, _, .cons h t, h' => .cons h (t.snoc h')
theorem DqAll.app {H : Hp} : ∀ {vs ws : List V} {ds es : List PyData}, DqAll H vs ds → DqAll H ws es → DqAll H (vs ++ ws) (ds ++ es)
  | _, _, _, _, .nil, h => h
  | _, _, _, _, .cons h t, h' => .cons h (t.app h')
theorem DqAll.strs {H : Hp} : ∀ (xs : List Str), DqAll H (xs.map V.str) (xs.map PyData.str)
  | [] => .nil
  | x :: xs => .cons (.str x) (DqAll.strs xs)
theorem DqAll.of_strs {H : Hp} : ∀ {vs : List V} {xs : List Str}, DqAll H vs (xs.map PyData.str) → vs = xs.map V.str
  | _, [], .nil => rfl
  | _, x :: xs, .cons h t => by
    cases h
    rw [List.map_cons, t.of_strs]
theorem Dq.of_strs {H : Hp} {v : V} {xs : List Str} (h : Dq H v (.list (xs.map PyData.str))) : ∃ a, v = .ref a ∧ H a = some (.lst (xs.map V.str)) := by
  cases h with
  | lst s a =>
    rw [a.of_strs] at s
    exact ⟨_, rfl, s⟩
theorem Dq.strs {H : Hp} {a : Addr} {xs : List Str} (h : H a = some (.lst (xs.map V.str))) : Dq H (.ref a) (.list (xs.map PyData.str)) := .lst h (DqAll.strs xs)
theorem Has.gF {F : Hp} {O : Own} {H : Hp} {a : Addr} {o : HO} (h : Has F O H) (e : F a = some o) : H a = some o := h.same _ _ e
theorem eqvAll_strs : ∀ xs ys : List Str, PyData.eqvAll (xs.map PyData.str) (ys.map PyData.str) = decide (xs = ys)
  | [], [] => by simp [PyData.eqvAll]
  | [], y :: ys => by simp [PyData.eqvAll]
  | x :: xs, [] => by simp [PyData.eqvAll]
  | x :: xs, y :: ys => by
    rw [List.map_cons, List.map_cons, PyData.eqvAll, eqvAll_strs xs ys, PyData.eqv]
    by_cases h : x = y
    · subst h; simp
    · simp [h]
theorem eqv_strs (xs ys : List Str) : PyData.eqv (.list (xs.map PyData.str)) (.list (ys.map PyData.str)) = decide (xs = ys) := by
  rw [PyData.eqv, eqvAll_strs]
theorem canLayAll_mem : ∀ {ds : List PyData}, (∀ d ∈ ds, d.canLay0 = true) → PyData.canLayAll0 ds = true
  | [], _ => rfl
  | d :: ds, h => by
    rw [PyData.canLayAll0, h d List.mem_cons_self, canLayAll_mem fun x hx => h x (List.mem_cons_of_mem _ hx)]
    rfl
theorem depthAll_le {n : Nat} : ∀ {ds : List PyData}, (∀ d ∈ ds, d.depth ≤ n) → PyData.depthAll ds ≤ n
  | [], _ => Nat.zero_le _
  | d :: ds, h => by
    rw [PyData.depthAll]
    exact Nat.max_le.mpr ⟨h d List.mem_cons_self, depthAll_le fun x hx => h x (List.mem_cons_of_mem _ hx)⟩
/-- data of depth n that can be compared -/
def Sh (n : Nat) (d : PyData) : Prop := d.canLay0 = true ∧ d.depth ≤ n
theorem Sh.list {n : Nat} {ds : List PyData} (h : ∀ d ∈ ds, Sh n d) : Sh (n + 1) (.list ds) := by
  refine ⟨?_, ?_⟩
  · rw [PyData.canLay0]
    exact canLayAll_mem fun d hd => (h d hd).1
  · rw [PyData.depth]
    have := depthAll_le (n := n) fun d hd => (h d hd).2
    omega
theorem Sh.tuple {n : Nat} {ds : List PyData} (h : ∀ d ∈ ds, Sh n d) : Sh (n + 1) (.tuple ds) := by
  refine ⟨?_, ?_⟩
  · rw [PyData.canLay0]
    exact canLayAll_mem fun d hd => (h d hd).1
  · rw [PyData.depth]
    have := depthAll_le (n := n) fun d hd => (h d hd).2
    omega
theorem Sh.ok {n : Nat} {d : PyData} (h : Sh n d) (hn : n ≤ 64) : SeqAt.shaped d = true := by
  unfold SeqAt.shaped
  rw [h.1, Bool.true_and]
  exact decide_eq_true (Nat.le_trans h.2 hn)
theorem Sh.int {n : Nat} (i : Int) : Sh n (.int i) := ⟨rfl, Nat.zero_le _⟩
theorem Sh.non {n : Nat} : Sh n .none := ⟨rfl, Nat.zero_le _⟩
theorem Sh.bl {n : Nat} (b : Bool) : Sh n (.bool b) := ⟨rfl, Nat.zero_le _⟩
theorem Sh.str {n : Nat} {x : Str} (h : PyData.strOk x = true) : Sh n (.str x) := ⟨h, Nat.zero_le _⟩
theorem Sh.strs {n : Nat} {xs : List Str} (h : ∀ x ∈ xs, PyData.strOk x = true) : Sh (n + 1) (.list (xs.map PyData.str)) := Sh.list fun d hd => by
  obtain ⟨x, hx, rfl⟩ := List.mem_map.mp hd
  exact Sh.str (h x hx)
def kB (x : V) (H : Hp) (R : Bool → Hp → Prop) : Prop := ∃ k, x = .bl k ∧ R k H
def kTup (xs : List V) (H : Hp) (Q : VK) : Prop := xs.length ≤ sizeLine ∧ ∀ p, H p = none → Q (.ref p) (upd H p (.tup xs))
def kLst (xs : List V) (H : Hp) (Q : VK) : Prop := xs.length ≤ sizeLine ∧ ∀ p, H p = none → Q (.ref p) (upd H p (.lst xs))
def kBM (K : PySem.W.Frag) (T : String) (r : V → List V → Hp → VK → Prop) (t : TA) (σ : L2.St) (x : V) (H : Hp) (Q : VK) : Prop := tyV K T x H ∧ t σ H fun xs H2 => r x xs H2 Q
section
variable {K : PySem.W.Frag} {σ : L2.St} {F : Hp} {O O' : Own} {H : Hp} {Q : VK} {ta tb tc te : TE} {x y v : V} {D : Ends} {t1 t2 : TS}
theorem g_var {i : Nat} (h : σ[i]? = some (some v)) (q : Q v H) : tVar i σ H Q := ⟨v, h, q⟩
theorem g_c (q : Q v H) : tC v σ H Q := q
theorem g_op {r : R2} (q : ta σ H fun x H1 => tb σ H1 fun y H2 => r x y H2 Q) : tOp r ta tb σ H Q := q
theorem g_un {r : V → Hp → VK → Prop} (q : ta σ H fun x H1 => r x H1 Q) : tUn r ta σ H Q := q
theorem g_cons {tr : TA} {QA : List V → Hp → Prop} (q : ta σ H fun x H1 => tr σ H1 fun xs H2 => QA (x :: xs) H2) : tCons ta tr σ H QA := q
theorem g_nil {QA : List V → Hp → Prop} (q : QA [] H) : tNil σ H QA := q
theorem g_cb {r : List V → Hp → VK → Prop} {t : TA} (q : t σ H fun vs H1 => r vs H1 Q) : tCB r t σ H Q := q
theorem g_call {sp : Sp} {E : XK} {t : TA} (q : t σ H fun vs H1 => sp vs H1 Q E) : tCall sp [] E t σ H Q := by
  unfold tCall
  simp only [List.append_nil]
  exact q
theorem g_tup {t : TA} (q : t σ H fun xs H1 => kTup xs H1 Q) : tTup t σ H Q := q
theorem g_lst {t : TA} (q : t σ H fun xs H1 => kLst xs H1 Q) : tLst t σ H Q := q
theorem g_bm {T : String} {r : V → List V → Hp → VK → Prop} {t : TA} (q : ta σ H fun x H1 => kBM K T r t σ x H1 Q) : tBM K T r ta t σ H Q := q
theorem g_bm0 {T : String} {r : V → List V → Hp → VK → Prop} (q : ta σ H fun x H1 => kBM K T r tNil σ x H1 Q) : tBM0 K T r ta σ H Q := q
theorem g_kbm {r : V → List V → Hp → VK → Prop} {t : TA} {a : Addr} {xs : List V} (h : H a = some (.lst xs)) (q : t σ H fun vs H2 => r (.ref a) vs H2 Q) : kBM K "list" r t σ (.ref a) H Q := ⟨.inl ⟨rfl, _, SqL.of h⟩, q⟩
theorem g_ktup {xs : List V} (hl : xs.length ≤ sizeLine) (hH : Has F O H) (q : ∀ p H', H p = none → Has F ((p, .tup xs) :: O) H' → Q (.ref p) H') : kTup xs H Q := ⟨hl, fun p n => q p _ n (hH.new n)⟩
theorem g_klst {xs : List V} (hl : xs.length ≤ sizeLine) (hH : Has F O H) (q : ∀ p H', H p = none → Has F ((p, .lst xs) :: O) H' → Q (.ref p) H') : kLst xs H Q := ⟨hl, fun p n => q p _ n (hH.new n)⟩
/-- a tuple that stands still at once -/
theorem g_ktupF {xs : List V} (hl : xs.length ≤ sizeLine) (hH : Has F O H) (q : ∀ p H' F', H p = none → Same F F' → F' p = some (.tup xs) → Has F' O H' → Q (.ref p) H') : kTup xs H Q :=
  ⟨hl, fun p n => q p _ (upd F p (.tup xs)) n (same_upd (hH.same.free n)) upd_same (hH.new n).frz⟩
theorem g_klstF {xs : List V} (hl : xs.length ≤ sizeLine) (hH : Has F O H) (q : ∀ p H' F', H p = none → Same F F' → F' p = some (.lst xs) → Has F' O H' → Q (.ref p) H') : kLst xs H Q :=
  ⟨hl, fun p n => q p _ (upd F p (.lst xs)) n (same_upd (hH.same.free n)) upd_same (hH.new n).frz⟩
theorem g_seq (h : t1 { D with nx := t2 D } σ H) : tSeq t1 t2 D σ H := h
theorem g_asg {g : TG} (q : te σ H fun x H1 => g x σ H1 D.nx) : tAsg te g D σ H := q
theorem g_name {i : Nat} {R : L2.St → Hp → Prop} (q : R (σ.set i (some v)) H) : gName i v σ H R := q
theorem g_drop (q : te σ H fun _ H1 => D.nx σ H1) : tDrop te D σ H := q
theorem g_ret (q : te σ H fun x H1 => D.rt x H1) : tRet te D σ H := q
theorem g_retN (q : D.rt .non H) : tRetN D σ H := q
theorem g_next (q : D.nx σ H) : tNext D σ H := q
theorem g_brk (q : D.bk σ H) : tBreak D σ H := q
theorem g_cont (q : D.ct σ H) : tCont D σ H := q
theorem g_if {c : TT} (q : c σ H fun b H1 => if b = true then t1 D σ H1 else t2 D σ H1) : tIfS c t1 t2 D σ H := q
theorem g_aug {i : Nat} {ti : TIp} (h : σ[i]? = some (some x)) (q : te σ H fun y H1 => ti x y H1 fun z H2 => D.nx (σ.set i (some z)) H2) : tAug i te ti D σ H := ⟨x, h, q⟩
theorem g_ipI {f : Int → Int → Int} {i j : Int} (q : Q (.int (f i j)) H) : ipI f (.int i) (.int j) H Q := ⟨i, j, rfl, rfl, q⟩
theorem g_test {R : Bool → Hp → Prop} (q : te σ H fun x H1 => kB x H1 R) : tTest te σ H R := q
theorem g_tB {R : Bool → Hp → Prop} (q : te σ H fun x H1 => kB x H1 R) : tB te σ H R := q
theorem g_kB {b : Bool} {R : Bool → Hp → Prop} (q : R b H) : kB (.bl b) H R := ⟨b, rfl, q⟩
theorem g_not {t : TT} {R : Bool → Hp → Prop} (q : t σ H fun c H1 => R (!c) H1) : tNot t σ H R := q
theorem g_and {t u : TT} {R : Bool → Hp → Prop} (q : t σ H fun c H1 => if c = true then u σ H1 R else R false H1) : tAnd t u σ H R := q
theorem g_or {t u : TT} {R : Bool → Hp → Prop} (q : t σ H fun c H1 => if c = true then R true H1 else u σ H1 R) : tOr t u σ H R := q
theorem g_andV (q : ta σ H fun x H1 => kB x H1 fun c H2 => if c = true then tb σ H2 Q else Q (.bl false) H2) : tAndV ta tb σ H Q := q
theorem g_orV (q : ta σ H fun x H1 => kB x H1 fun c H2 => if c = true then Q (.bl true) H2 else tb σ H2 Q) : tOrV ta tb σ H Q := q
theorem g_notV (q : ta σ H fun x H1 => kB x H1 fun c H2 => Q (.bl (!c)) H2) : tNotV ta σ H Q := q
theorem g_ifE {t : TT} (q : t σ H fun c H1 => if c = true then ta σ H1 Q else tb σ H1 Q) : tIf t ta tb σ H Q := q
theorem i_d {c A B : Prop} [Decidable c] (h1 : c → A) (h2 : ¬ c → B) : if decide c = true then A else B := by
  by_cases h : c
  · rw [if_pos (decide_eq_true h)]
    exact h1 h
  · rw [if_neg (by rw [decide_eq_false h]; exact Bool.false_ne_true)]
    exact h2 h
theorem i_n {c A B : Prop} [Decidable c] (h1 : ¬ c → A) (h2 : c → B) : if (!decide c) = true then A else B := by
  by_cases h : c
  · rw [decide_eq_true h, if_neg (by decide)]
    exact h2 h
  · rw [decide_eq_false h, if_pos (by decide)]
    exact h1 h
theorem i_nb {b : Bool} {A B : Prop} (h1 : b = false → A) (h2 : b = true → B) : if (!b) = true then A else B := by
  cases b with
  | false =>
    show (if true = true then A else B)
    rw [if_pos rfl]
    exact h1 rfl
  | true =>
    show (if false = true then A else B)
    rw [if_neg Bool.false_ne_true]
    exact h2 rfl
def rAdd (K : PySem.W.Frag) : R2 := fun x y H Q => (rI0 (fun i j => .int (i + j)) x y H Q ∨ ∃ i j, x = .str i ∧ y = .str j ∧ i.length + j.length ≤ sizeLine ∧ Q (.str (i ++ j)) H) ∨ rCat x y H Q ∨ rCatA K x y H Q
theorem g_addI {i j : Int} (q : Q (.int (i + j)) H) : rAdd K (.int i) (.int j) H Q := .inl (.inl ⟨i, j, rfl, rfl, q⟩)
theorem g_addS {i j : Str} (hl : i.length + j.length ≤ sizeLine) (q : Q (.str (i ++ j)) H) : rAdd K (.str i) (.str j) H Q := .inl (.inr ⟨i, j, rfl, rfl, hl, q⟩)
theorem g_addL {a b : Addr} {xs ys : List V} (h1 : H a = some (.lst xs)) (h2 : H b = some (.lst ys)) (hl : xs.length + ys.length ≤ sizeLine) (hH : Has F O H) (q : ∀ p H', H p = none → Has F ((p, .lst (xs ++ ys)) :: O) H' → Q (.ref p) H') : rAdd K (.ref a) (.ref b) H Q :=
  .inr (.inl ⟨a, b, xs, ys, rfl, rfl, h1, h2, hl, fun p n => q p _ n (hH.new n)⟩)
theorem g_rI0 {g : Int → Int → V} {i j : Int} (q : Q (g i j) H) : rI0 g (.int i) (.int j) H Q := ⟨i, j, rfl, rfl, q⟩
theorem g_rI {C : Int → Int → Prop} {g : Int → Int → V} {i j : Int} (hc : C i j) (q : Q (g i j) H) : rI C g (.int i) (.int j) H Q := ⟨i, j, rfl, rfl, hc, q⟩
theorem g_rU {g : Int → V} {i : Int} (q : Q (g i) H) : rU g (.int i) H Q := ⟨i, rfl, q⟩
def rMul : R2 := fun x y H Q => rI CMul (fun i j => .int (i * j)) x y H Q ∨ rRep x y H Q
theorem g_mulI {i j : Int} (hc : CMul i j) (q : Q (.int (i * j)) H) : rMul (.int i) (.int j) H Q := .inl ⟨i, j, rfl, rfl, hc, q⟩
theorem g_mulL {a : Addr} {k : Int} {xs : List V} (h : H a = some (.lst xs)) (h1 : -(2 ^ 63) ≤ k) (h2 : k < 2 ^ 63) (hl : xs.length * k.toNat ≤ sizeLine) (hH : Has F O H)
    (q : ∀ p H', H p = none → Has F ((p, .lst (List.replicate k.toNat xs).flatten) :: O) H' → Q (.ref p) H') : rMul (.ref a) (.int k) H Q := .inr ⟨a, k, xs, rfl, rfl, h, h1, h2, hl, fun p n => q p _ n (hH.new n)⟩
def rEqA (K : PySem.W.Frag) : R2 := fun x y H Q => rEq x y H Q ∨ rEqD K x y H Q
def rNeA (K : PySem.W.Frag) : R2 := fun x y H Q => rNe x y H Q ∨ rNeD K x y H Q
theorem g_eqI {i j : Int} (q : Q (.bl (decide (i = j))) H) : rEqA K (.int i) (.int j) H Q := .inl ⟨rfl, by rw [dec_int, Bool.beq_eq_decide_eq]; exact q⟩
theorem g_eqS {i j : Str} (q : Q (.bl (decide (i = j))) H) : rEqA K (.str i) (.str j) H Q := .inl ⟨rfl, by rw [dec_str, Bool.beq_eq_decide_eq]; exact q⟩
theorem g_neI {i j : Int} (q : Q (.bl (!decide (i = j))) H) : rNeA K (.int i) (.int j) H Q := .inl ⟨rfl, by rw [dec_int, Bool.beq_eq_decide_eq]; exact q⟩
theorem g_neS {i j : Str} (q : Q (.bl (!decide (i = j))) H) : rNeA K (.str i) (.str j) H Q := .inl ⟨rfl, by rw [dec_str, Bool.beq_eq_decide_eq]; exact q⟩
theorem g_eqD {d e : PyData} (hx : Dq H x d) (hy : Dq H y e) (sd : SeqAt.shaped d = true) (se : SeqAt.shaped e = true) (q : Q (.bl (PyData.eqv d e)) H) : rEqA K x y H Q := .inr ⟨d, e, hx.dp K d x, hy.dp K e y, sd, se, q⟩
theorem g_neD {d e : PyData} (hx : Dq H x d) (hy : Dq H y e) (sd : SeqAt.shaped d = true) (se : SeqAt.shaped e = true) (q : Q (.bl (!PyData.eqv d e)) H) : rNeA K x y H Q := .inr ⟨d, e, hx.dp K d x, hy.dp K e y, sd, se, q⟩
def rIsN : R2 := fun x y H Q => y = .non ∧ Q (.bl (decide (x = .non))) H
def rNotN : R2 := fun x y H Q => y = .non ∧ Q (.bl (!decide (x = .non))) H
theorem g_isN (q : Q (.bl (decide (x = .non))) H) : rIsN x .non H Q := ⟨rfl, q⟩
theorem g_notN (q : Q (.bl (!decide (x = .non))) H) : rNotN x .non H Q := ⟨rfl, q⟩
def rIxD : R2 := fun x y H Q => ∃ a v, x = .ref a ∧ DGet H a y (some v) ∧ Q v H
def rIxA (K : PySem.W.Frag) : R2 := fun x y H Q => rIx K x y H Q ∨ rIxD x y H Q
theorem g_ixL {a : Addr} {xs : List V} {i : Int} (h : H a = some (.lst xs)) (ha : atI xs i = some v) (q : Q v H) : rIxA K (.ref a) (.int i) H Q := .inl <| .inl ⟨a, xs, i, v, rfl, rfl, SqL.of h, ha, q⟩
theorem g_ixT {a : Addr} {xs : List V} {i : Int} (h : H a = some (.tup xs)) (ha : atI xs i = some v) (q : Q v H) : rIxA K (.ref a) (.int i) H Q := .inl (.inr (.inl ⟨a, xs, i, v, rfl, rfl, SqT.of h, ha, q⟩))
theorem g_ixS {z : Str} {i : Int} {c : Nat} (hl : z.length ≤ sizeLine) (ha : atI z.cps.toList i = some c) (q : Q (.str ⟨#[c]⟩) H) : rIxA K (.str z) (.int i) H Q := .inl (.inr (.inr ⟨z, i, c, rfl, rfl, hl, ha, q⟩))
theorem at_n {xs : List V} {i : Int} (h0 : 0 ≤ i) (h : xs[i.toNat]? = some v) : atI xs i = some v := by
  have e : i = (i.toNat : Int) := by omega
  rw [e]
  exact atI_nat h
def rLen (K : PySem.W.Frag) : List V → Hp → VK → Prop := fun xs H Q => (∃ p ys, xs = [.ref p] ∧ (SqL K H p ys ∨ SqT K H p ys) ∧ Q (.int ys.length) H) ∨ ∃ z, xs = [.str z] ∧ z.length ≤ sizeLine ∧ Q (.int z.length) H
theorem g_lenL {a : Addr} {xs : List V} (h : H a = some (.lst xs)) (q : Q (.int (xs.length : Int)) H) : rLen K [.ref a] H Q := .inl ⟨a, xs, rfl, .inl (SqL.of h), q⟩
theorem g_lenT {a : Addr} {xs : List V} (h : H a = some (.tup xs)) (q : Q (.int (xs.length : Int)) H) : rLen K [.ref a] H Q := .inl ⟨a, xs, rfl, .inr (SqT.of h), q⟩
theorem g_lenS {z : Str} (h : z.length ≤ sizeLine) (q : Q (.int (z.length : Int)) H) : rLen K [.str z] H Q := .inr ⟨z, rfl, h, q⟩
def rInt1 : List V → Hp → VK → Prop := fun xs H Q => (∃ i, xs = [.int i] ∧ Q (.int i) H) ∨ ∃ k, xs = [.bl k] ∧ Q (.int (if k then 1 else 0)) H
theorem g_int {i : Int} (q : Q (.int i) H) : rInt1 [.int i] H Q := .inl ⟨i, rfl, q⟩
theorem g_intB {k : Bool} (q : Q (.int (if k then 1 else 0)) H) : rInt1 [.bl k] H Q := .inr ⟨k, rfl, q⟩
def rAbs1 : List V → Hp → VK → Prop := fun xs H Q => ∃ i, xs = [.int i] ∧ Q (.int (if i < 0 then -i else i)) H
theorem g_abs {i : Int} (q : ∀ j : Int, 0 ≤ j → Q (.int j) H) : rAbs1 [.int i] H Q := ⟨i, rfl, q _ (by split <;> omega)⟩
def rMax2 : List V → Hp → VK → Prop := fun xs H Q => ∃ i j, xs = [.int i, .int j] ∧ Q (.int (if j > i then j else i)) H
theorem g_max2 {i j : Int} (q : Q (.int (max i j)) H) : rMax2 [.int i, .int j] H Q := ⟨i, j, rfl, by
  have e : (if j > i then j else i) = max i j := by split <;> omega
  rw [e]
  exact q⟩
def rListOf (K : PySem.W.Frag) : List V → Hp → VK → Prop := fun xs H Q => ∃ p ys, xs = [.ref p] ∧ (SqL K H p ys ∨ SqT K H p ys) ∧ ∀ l, H l = none → Q (.ref l) (upd H l (.lst ys))
theorem g_listL {a : Addr} {xs : List V} (h : H a = some (.lst xs)) (hH : Has F O H) (q : ∀ p H', H p = none → Has F ((p, .lst xs) :: O) H' → Q (.ref p) H') : rListOf K [.ref a] H Q := ⟨a, xs, rfl, .inl (SqL.of h), fun p n => q p _ n (hH.new n)⟩
def rTupleOf (K : PySem.W.Frag) : List V → Hp → VK → Prop := fun xs H Q => ∃ p ys, xs = [.ref p] ∧ ((SqL K H p ys ∧ ∀ l, H l = none → Q (.ref l) (upd H l (.tup ys))) ∨ (SqT K H p ys ∧ Q (.ref p) H))
theorem g_tupleL {a : Addr} {xs : List V} (h : H a = some (.lst xs)) (hH : Has F O H) (q : ∀ p H' F', H p = none → Same F F' → F' p = some (.tup xs) → Has F' O H' → Q (.ref p) H') : rTupleOf K [.ref a] H Q :=
  ⟨a, xs, rfl, .inl ⟨SqL.of h, fun p n => q p _ (upd F p (.tup xs)) n (same_upd (hH.same.free n)) upd_same (hH.new n).frz⟩⟩
theorem g_append {a : Addr} {xs : List V} (hH : Has F O H) (c : Chg O a (.lst xs) (.lst (xs ++ [y])) O') (hl : xs.length < sizeLine) (q : ∀ H', Has F O' H' → Q .non H') : rAppend (.ref a) [y] H Q :=
  ⟨a, xs, y, rfl, rfl, hH.get c.mem, hl, q _ (hH.put c)⟩
theorem g_popAt {a : Addr} {xs : List V} {i : Int} {k : Nat} (hH : Has F O H) (c : Chg O a (.lst xs) (.lst (xs.eraseIdx k)) O') (h1 : -(2 ^ 63) ≤ i) (h2 : i < 2 ^ 63) (hk : seqIndex? i xs.length = some k) (hy : xs[k]? = some y)
    (q : ∀ H', Has F O' H' → Q y H') : rPopAt (.ref a) [.int i] H Q := ⟨a, xs, i, k, y, rfl, rfl, hH.get c.mem, h1, h2, hk, hy, q _ (hH.put c)⟩
/-- o[i] = v -/
def kSet (t : TSet) (R : L2.St → Hp → Prop) (σ : L2.St) (o i v : V) (H : Hp) : Prop := t o i v H fun H3 => R σ H3
theorem g_sub {to ti : TE} {t : TSet} {R : L2.St → Hp → Prop} (q : to σ H fun o H1 => ti σ H1 fun i H2 => kSet t R σ o i v H2) : gSub to ti t v σ H R := q
theorem ixN_nat {n : Nat} {k : Int} (h0 : 0 ≤ k) (h : k < n) : ixN n k = some k.toNat := by
  unfold ixN
  rw [if_pos h0, if_pos h]
/-- a, b = a tuple -/
theorem g_gtup {n : Nat} {t : TGs} {a : Addr} {xs : List V} {R : L2.St → Hp → Prop} (h : H a = some (.tup xs)) (hl : xs.length = n) (q : t xs σ H R) : gTup K n t (.ref a) σ H R := ⟨a, xs, rfl, SqT.of h, hl, q⟩
theorem g_gcons {t : TG} {u : TGs} {r : List V} {R : L2.St → Hp → Prop} (q : t v σ H fun σ' H' => u r σ' H' R) : gCons t u (v :: r) σ H R := ⟨v, r, rfl, q⟩
theorem g_gnil {R : L2.St → Hp → Prop} (q : R σ H) : gNil [] σ H R := ⟨rfl, q⟩
def rRevL (K : PySem.W.Frag) (x : V) (H : Hp) (Q : VK) : Prop := ∃ a xs, x = .ref a ∧ SqL K H a xs ∧ ∀ p, H p = none → Q (.ref p) (upd H p (.lst xs.reverse))
end
def kW (J : It) (g : TG) (tb : TS) (D : Ends) (σ : L2.St) (H : Hp) : Prop := ∃ W : Nat → Nat → L2.St → Hp → Prop, (∃ m, W 0 m σ H) ∧ ∀ i m σ H, W i m σ H →
  (J.stop i H ∧ D.nx σ H) ∨ (J.go i H ∧ ∃ N : L2.St → Hp → Prop, (∀ σ' H', N σ' H' → ∃ m', m' < m ∧ W (i + 1) m' σ' H') ∧ ∀ x H', J.yld i H x H' → g x σ H' fun σ2 H2 => tb { D with nx := N, ct := N, bk := D.nx } σ2 H2)
def kForL (K : PySem.W.Frag) (g : TG) (tb : TS) (D : Ends) (σ : L2.St) (x : V) (H : Hp) : Prop := ∃ a, x = .ref a ∧ (∃ xs, SqL K H a xs) ∧ kW (Itl K a) g tb D σ H
def kForR1 (g : TG) (tb : TS) (D : Ends) (σ : L2.St) (vs : List V) (H : Hp) : Prop := ∃ j : Int, vs = [.int j] ∧ -(2 ^ 62) ≤ j ∧ j < 2 ^ 62 ∧ kW (Itr 0 j.toNat) g tb D σ H
def kForR2 (g : TG) (tb : TS) (D : Ends) (σ : L2.St) (vs : List V) (H : Hp) : Prop := ∃ i j : Int, vs = [.int i, .int j] ∧ (-(2 ^ 62) ≤ i ∧ i < 2 ^ 62 ∧ -(2 ^ 62) ≤ j ∧ j < 2 ^ 62) ∧ kW (Itr i (j - i).toNat) g tb D σ H
def kForR3 (g : TG) (tb : TS) (D : Ends) (σ : L2.St) (vs : List V) (H : Hp) : Prop := ∃ (i j c : Int) (n : Nat), vs = [.int i, .int j, .int c] ∧ RgC i j c n ∧ kW (Itc i c n) g tb D σ H
section
variable {K : PySem.W.Frag} {σ : L2.St} {F : Hp} {O O' : Own} {H : Hp} {Q : VK} {ta tb tc te : TE} {x y v : V} {D : Ends} {t1 t2 ts : TS} {g : TG}
theorem g_forL (q : te σ H fun x H1 => kForL K g ts D σ x H1) : tFor (iList K te) g ts D σ H := q
theorem g_forR1 {ta : TA} (q : ta σ H fun vs H1 => kForR1 g ts D σ vs H1) : tFor (iRng1 ta) g ts D σ H := q
theorem g_forR2 {ta : TA} (q : ta σ H fun vs H1 => kForR2 g ts D σ vs H1) : tFor (iRng2 ta) g ts D σ H := q
theorem g_forR3 {ta : TA} (q : ta σ H fun vs H1 => kForR3 g ts D σ vs H1) : tFor (iRng3 ta) g ts D σ H := q
theorem k_forL {a : Addr} {xs : List V} (h : H a = some (.lst xs)) (Pv : Nat → L2.St → Hp → Prop) (h0 : Pv 0 σ H) (hl : ∀ i σ H, i ≤ xs.length → Pv i σ H → H a = some (.lst xs))
    (hs : ∀ i x σ H, xs[i]? = some x → Pv i σ H → g x σ H fun σ2 H2 => ts { D with nx := Pv (i + 1), ct := Pv (i + 1), bk := D.nx } σ2 H2) (hd : ∀ σ H, Pv xs.length σ H → D.nx σ H) : kForL K g ts D σ (.ref a) H :=
  ⟨a, rfl, ⟨xs, SqL.of h⟩, for_list Pv h0 (fun i σ H hi p => SqL.of (hl i σ H hi p)) hs hd⟩
theorem k_forR1 {j : Int} (Pv : Nat → L2.St → Hp → Prop) (h1 : -(2 ^ 62) ≤ j) (h2 : j < 2 ^ 62) (h0 : Pv 0 σ H)
    (hs : ∀ i σ H, i < j.toNat → Pv i σ H → g (.int (i : Int)) σ H fun σ2 H2 => ts { D with nx := Pv (i + 1), ct := Pv (i + 1), bk := D.nx } σ2 H2) (hd : ∀ σ H, Pv j.toNat σ H → D.nx σ H) : kForR1 g ts D σ [.int j] H :=
  ⟨j, rfl, h1, h2, for_range Pv h0 (fun i σ H hi p => by rw [Int.zero_add]; exact hs i σ H hi p) hd⟩
/-- n - 1 down to 0 -/
theorem k_forDown {n : Nat} {j : Int} (hj : j = (n : Int) - 1) (hn : n < 2 ^ 60) (Pv : Nat → L2.St → Hp → Prop) (h0 : Pv n σ H)
    (hs : ∀ i σ H, i < n → Pv (i + 1) σ H → g (.int (i : Int)) σ H fun σ2 H2 => ts { D with nx := Pv i, ct := Pv i, bk := D.nx } σ2 H2) (hd : ∀ σ H, Pv 0 σ H → D.nx σ H) : kForR3 g ts D σ [.int j, .int (-1), .int (-1)] H := by
  subst hj
  have e : (((n : Int) - 1) - (-1)).toNat = n := by omega
  have rg := RgC.neg (i := (n : Int) - 1) (j := -1) (by omega) (by omega) (by decide) (by decide)
  rw [e] at rg
  refine ⟨_, _, _, n, rfl, rg, for_rangeC (fun i => Pv (n - i)) h0 (fun i σ H hi p => ?_) (fun σ H p => ?_)⟩
  · have e1 : (n : Int) - 1 + (i : Nat) * (-1) = ((n - (i + 1) : Nat) : Int) := by omega
    have e2 : n - i = (n - (i + 1)) + 1 := by omega
    rw [e1]
    have p' : Pv ((n - (i + 1)) + 1) σ H := by rw [← e2]; exact p
    exact hs _ σ H (by omega) p'
  · have p' : Pv (n - n) σ H := p
    rw [Nat.sub_self] at p'
    exact hd σ H p'
/-- while -/
def kWh (Pv : Nat → L2.St → Hp → Prop) (m : Nat) (tb : TS) (D : Ends) (σ : L2.St) (b : Bool) (H : Hp) : Prop := if b = true then ∃ N : L2.St → Hp → Prop, (∀ σ' H', N σ' H' → ∃ m', m' < m ∧ Pv m' σ' H') ∧ tb { D with nx := N, ct := N, bk := D.nx } σ H else D.nx σ H
theorem g_while {c : TT} (Pv : Nat → L2.St → Hp → Prop) (m : Nat) (h0 : Pv m σ H) (hs : ∀ m σ H, Pv m σ H → c σ H fun b H1 => kWh Pv m ts D σ b H1) : tWhile c ts D σ H := ⟨Pv, ⟨m, h0⟩, hs⟩
theorem kwh_t {Pv : Nat → L2.St → Hp → Prop} {m : Nat} (q : ts { D with nx := fun σ' H' => ∃ m', m' < m ∧ Pv m' σ' H', ct := fun σ' H' => ∃ m', m' < m ∧ Pv m' σ' H', bk := D.nx } σ H) : kWh Pv m ts D σ true H := by
  unfold kWh
  rw [if_pos rfl]
  exact ⟨_, fun _ _ h => h, q⟩
theorem kwh_f {Pv : Nat → L2.St → Hp → Prop} {m : Nat} (q : D.nx σ H) : kWh Pv m ts D σ false H := by
  unfold kWh
  rw [if_neg Bool.false_ne_true]
  exact q
def kLc (J : It) (g : TG) (tt : TT) (te : TE) (vs : List Nat) (σ : L2.St) (H1 : Hp) (Q : VK) : Prop := ∀ D, H1 D = none → ∃ W : Nat → Nat → Hp → Prop, (∃ m, W 0 m (upd H1 D (.lst []))) ∧ ∀ i m H, W i m H →
  (J.stop i H ∧ Q (.ref D) H) ∨ (J.go i H ∧ ∃ Nx : Hp → Prop, (∀ H', Nx H' → ∃ m', m' < m ∧ W (i + 1) m' H') ∧ ∀ x H', J.yld i H x H' → g x (wipe σ vs) H' fun σ2 H2 => wipe σ2 vs = wipe σ vs ∧ tt σ2 H2 fun b H3 =>
    if b = true then te σ2 H3 fun y H4 => ∃ acc, H4 D = some (.lst acc) ∧ acc.length < sizeLine ∧ Nx (upd H4 D (.lst (acc ++ [y]))) else Nx H3)
def kLcL (K : PySem.W.Frag) (g : TG) (tt : TT) (te : TE) (vs : List Nat) (σ : L2.St) (x : V) (H : Hp) (Q : VK) : Prop := ∃ a, x = .ref a ∧ (∃ xs, SqL K H a xs) ∧ kLc (Itl K a) g tt te vs σ H Q
def kLcR1 (g : TG) (tt : TT) (te : TE) (ws : List Nat) (σ : L2.St) (vs : List V) (H : Hp) (Q : VK) : Prop := ∃ j : Int, vs = [.int j] ∧ -(2 ^ 62) ≤ j ∧ j < 2 ^ 62 ∧ kLc (Itr 0 j.toNat) g tt te ws σ H Q
theorem g_lcL {tt : TT} {vs : List Nat} (q : ta σ H fun x H1 => kLcL K g tt te vs σ x H1 Q) : tLc (iList K ta) g tt te vs σ H Q := q
theorem g_lcR1 {ta : TA} {tt : TT} {vs : List Nat} (q : ta σ H fun xs H1 => kLcR1 g tt te vs σ xs H1 Q) : tLc (iRng1 ta) g tt te vs σ H Q := q
/-- what a turn is to leave -/
def kNx (S : Nat → List V → Hp → Own → Prop) (i : Nat) (D : Addr) (H : Hp) : Prop := ∃ acc F' O', S (i + 1) acc F' O' ∧ Has F' ((D, .lst acc) :: O') H
def kTurn (D : Addr) (Nx : Hp → Prop) (y : V) (H : Hp) : Prop := ∃ acc, H D = some (.lst acc) ∧ acc.length < sizeLine ∧ Nx (upd H D (.lst (acc ++ [y])))
theorem k_turn {S : Nat → List V → Hp → Own → Prop} {i : Nat} {D : Addr} {acc : List V} {y : V} {H : Hp} {F : Hp} {O : Own} (h : Has F ((D, .lst acc) :: O) H) (hl : acc.length ≤ 100000) (s : S (i + 1) (acc ++ [y]) F O) : kTurn D (kNx S i D) y H :=
  ⟨acc, h.get (List.Mem.head _), by rw [sizeLine_eq]; omega, _, F, O, s, h.put .hd⟩
theorem k_skip {S : Nat → List V → Hp → Own → Prop} {i : Nat} {D : Addr} {acc : List V} {H : Hp} {F : Hp} {O : Own} (h : Has F ((D, .lst acc) :: O) H) (s : S (i + 1) acc F O) : kNx S i D H := ⟨acc, F, O, s, h⟩
theorem k_lc {J : It} {tt : TT} {vs : List Nat} (hH : Has F O H) (n : Nat) (S : Nat → List V → Hp → Own → Prop) (h0 : S 0 [] F O)
    (go : ∀ i acc F O D H, i < n → S i acc F O → Has F ((D, .lst acc) :: O) H → J.go i H) (stop : ∀ acc F O D H, S n acc F O → Has F ((D, .lst acc) :: O) H → J.stop n H)
    (hs : ∀ i x acc F O D H H', i < n → J.yld i H x H' → S i acc F O → Has F ((D, .lst acc) :: O) H → g x (wipe σ vs) H' fun σ2 H2 => wipe σ2 vs = wipe σ vs ∧ tt σ2 H2 fun b H3 => if b = true then te σ2 H3 fun y H4 => kTurn D (kNx S i D) y H4 else kNx S i D H3)
    (hd : ∀ acc F O D H, S n acc F O → Has F ((D, .lst acc) :: O) H → Q (.ref D) H) : kLc J g tt te vs σ H Q := by
  intro D hD
  refine ⟨fun i m H => m = n - i ∧ i ≤ n ∧ ∃ acc F O, S i acc F O ∧ Has F ((D, .lst acc) :: O) H, ⟨n, by simp, Nat.zero_le _, [], F, O, h0, hH.new hD⟩, ?_⟩
  rintro i m H1 ⟨rfl, hi, acc, F1, O1, s1, hH1⟩
  by_cases hlt : i < n
  · exact .inr ⟨go i acc F1 O1 D H1 hlt s1 hH1, kNx S i D, fun H' p => ⟨n - (i + 1), by omega, rfl, hlt, p⟩, fun x H' y => hs i x acc F1 O1 D H1 H' hlt y s1 hH1⟩
  · have e : i = n := by omega
    subst e
    exact .inl ⟨stop acc F1 O1 D H1 s1 hH1, hd acc F1 O1 D H1 s1 hH1⟩
/-- over a list that stands still -/
theorem k_lcL {a : Addr} {xs : List V} {tt : TT} {vs : List Nat} (h : H a = some (.lst xs)) (hH : Has F O H) (S : Nat → List V → Hp → Own → Prop) (h0 : S 0 [] F O) (hl : ∀ i acc F O H, S i acc F O → Has F O H → H a = some (.lst xs))
    (hs : ∀ i x acc F O D H, xs[i]? = some x → S i acc F O → Has F ((D, .lst acc) :: O) H → g x (wipe σ vs) H fun σ2 H2 => wipe σ2 vs = wipe σ vs ∧ tt σ2 H2 fun b H3 => if b = true then te σ2 H3 fun y H4 => kTurn D (kNx S i D) y H4 else kNx S i D H3)
    (hd : ∀ acc F O D H, S xs.length acc F O → Has F ((D, .lst acc) :: O) H → Q (.ref D) H) : kLcL K g tt te vs σ (.ref a) H Q := by
  refine ⟨a, rfl, ⟨xs, SqL.of h⟩, k_lc hH xs.length S h0 (fun i acc F O D H hi s hh => ?_) (fun acc F O D H s hh => ?_) (fun i x acc F O D H H' hi y s hh => ?_) hd⟩
  · exact ⟨xs, xs[i], SqL.of (hl i acc F O H s hh.drop), List.getElem?_eq_getElem hi⟩
  · exact ⟨xs, SqL.of (hl _ acc F O H s hh.drop), Nat.le_refl _⟩
  · obtain ⟨e, y⟩ := y
    subst e
    exact hs i x acc F O D _ (y xs (SqL.of (hl i acc F O _ s hh.drop))) s hh
theorem k_lcR1 {j : Int} {tt : TT} {vs : List Nat} (h1 : -(2 ^ 62) ≤ j) (h2 : j < 2 ^ 62) (hH : Has F O H) (S : Nat → List V → Hp → Own → Prop) (h0 : S 0 [] F O)
    (hs : ∀ i acc F O D H, i < j.toNat → S i acc F O → Has F ((D, .lst acc) :: O) H → g (.int (i : Int)) (wipe σ vs) H fun σ2 H2 => wipe σ2 vs = wipe σ vs ∧ tt σ2 H2 fun b H3 => if b = true then te σ2 H3 fun y H4 => kTurn D (kNx S i D) y H4 else kNx S i D H3)
    (hd : ∀ acc F O D H, S j.toNat acc F O → Has F ((D, .lst acc) :: O) H → Q (.ref D) H) : kLcR1 g tt te vs σ [.int j] H Q := by
  refine ⟨j, rfl, h1, h2, k_lc hH j.toNat S h0 (fun i acc F O D H hi s hh => hi) (fun acc F O D H s hh => Nat.le_refl _) (fun i x acc F O D H H' hi y s hh => ?_) hd⟩
  obtain ⟨e, y⟩ := y
  subst e y
  rw [Int.zero_add]
  exact hs i acc F O D _ hi s hh
end
section
variable {X : Cx}
theorem op_addA : OpR X (binaryOp .Add) (rAdd X.K) := by
  intro pins s σ H x y v u Q I rx ry h
  rcases h with (h | h) | h | h
  · exact op_add pins s σ H x y v u Q I rx ry h
  · exact op_add_str pins s σ H x y v u Q I rx ry h
  · exact op_cat pins s σ H x y v u Q I rx ry h
  · exact op_catA pins s σ H x y v u Q I rx ry h
theorem op_mulA : OpR X (binaryOp .Mult) rMul := by
  intro pins s σ H x y v u Q I rx ry h
  rcases h with h | h
  · exact op_mul pins s σ H x y v u Q I rx ry h
  · exact op_rep pins s σ H x y v u Q I rx ry h
theorem op_eqA (hu : X.A.units + 64 < cLine) : OpR X (compareOp .Eq) (rEqA X.K) := by
  intro pins s σ H x y v u Q I rx ry h
  rcases h with h | h
  · exact op_eq pins s σ H x y v u Q I rx ry h
  · exact op_eqD hu pins s σ H x y v u Q I rx ry h
theorem op_neA (hu : X.A.units + 64 < cLine) : OpR X (compareOp .NotEq) (rNeA X.K) := by
  intro pins s σ H x y v u Q I rx ry h
  rcases h with h | h
  · exact op_ne pins s σ H x y v u Q I rx ry h
  · exact op_neD hu pins s σ H x y v u Q I rx ry h
theorem op_notNA : OpR X (compareOp .IsNot) rNotN := op_notN
theorem cr_len : CallR X (.builtin "len") (rLen X.K) := by
  intro pins s σ H xs us Q I r h
  rcases h with h | h
  · exact call_len_seq pins s σ H xs us Q I r h
  · exact call_len_str pins s σ H xs us Q I r h
theorem cr_int1 : CallR X (.type "int") rInt1 := call_int1
theorem cr_abs1 : CallR X (.builtin "abs") rAbs1 := call_abs
theorem cr_max2 (hc : X.calm = true) : CallR X (.builtin "max") rMax2 := call_max2 hc
theorem cr_listOf : CallR X (.type "list") (rListOf X.K) := call_list_of
theorem cr_tupleOf : CallR X (.type "tuple") (rTupleOf X.K) := call_tuple_of
end
def rInDc : R2 := fun x y H Q => ∃ a o, y = .ref a ∧ DGet H a x o ∧ Q (.bl o.isSome) H
def rNotInDc : R2 := fun x y H Q => ∃ a o, y = .ref a ∧ DGet H a x o ∧ Q (.bl (!o.isSome)) H
section
variable {X : Cx}
theorem op_inDc (hu : X.A.units + 1 < cLine) : OpR X (compareOp .In) rInDc := by
  intro pins s σ H x y v u Q I rx ry h
  obtain ⟨a, o, rfl, g, q⟩ := h
  cases ry
  exact d_in hu I g rx fun s' I' => ⟨.bl _, H, I', rfl, q⟩
theorem op_notinDc (hu : X.A.units + 1 < cLine) : OpR X (compareOp .NotIn) rNotInDc := by
  intro pins s σ H x y v u Q I rx ry h
  obtain ⟨a, o, rfl, g, q⟩ := h
  cases ry
  exact d_notIn hu I g rx fun s' I' => ⟨.bl _, H, I', rfl, q⟩
end
def kGet2 (ty tx : TE) (σ : L2.St) (x : V) (H : Hp) (Q : VK) : Prop := ∃ a, x = .ref a ∧ IsD H a ∧ ty σ H fun y H2 => tx σ H2 fun z H3 => ∃ o, DGet H3 a y o ∧ Q (o.getD z) H3
def kGot (a : Addr) (y z : V) (H : Hp) (Q : VK) : Prop := ∃ o, DGet H a y o ∧ Q (o.getD z) H
section
variable {K : PySem.W.Frag} {σ : L2.St} {F : Hp} {O O' : Own} {H : Hp} {Q : VK} {ta tb tc te : TE} {x y v : V} {D : Ends} {t1 t2 ts : TS} {g : TG}
theorem g_dnew (hH : Has F O H) (q : ∀ p H', H p = none → Has F ((p, .dK []) :: O) H' → Q (.ref p) H') : tDNewK σ H Q := fun p n => q p _ n (hH.new n)
theorem g_get2 (q : ta σ H fun x H1 => kGet2 tb tc σ x H1 Q) : tDGet2 ta tb tc σ H Q := q
theorem g_kget2 {a : Addr} {kvs : List (Key × V)} (h : H a = some (.dK kvs)) (q : tb σ H fun y H2 => tc σ H2 fun z H3 => kGot a y z H3 Q) : kGet2 tb tc σ (.ref a) H Q := ⟨a, rfl, .inl ⟨kvs, .inl h⟩, q⟩
theorem g_kgotI {a : Addr} {kvs : List (Key × V)} {i : Int} {z : V} (h : H a = some (.dK kvs)) (q : Q ((valV kvs (.inl i)).getD z) H) : kGot a (.int i) z H Q := ⟨_, DGet.k (k := .inl i) h, q⟩
theorem g_kgotS {a : Addr} {kvs : List (Key × V)} {i : Str} {z : V} (h : H a = some (.dK kvs)) (q : Q ((valV kvs (.inr i)).getD z) H) : kGot a (.str i) z H Q := ⟨_, DGet.k (k := .inr i) h, q⟩
end
def rInA (K : PySem.W.Frag) : R2 := fun x y H Q => (rIn K false x y H Q ∨ rInDc x y H Q) ∨ (∃ i j, x = .str i ∧ y = .str j ∧ Q (.bl (!(Builtin.Str.occurrences j i 0 j.length 1).isEmpty)) H) ∨ rInD K x y H Q
def rNotInA (K : PySem.W.Frag) : R2 := fun x y H Q => (rIn K true x y H Q ∨ rNotInDc x y H Q) ∨ (∃ i j, x = .str i ∧ y = .str j ∧ Q (.bl (!(!(Builtin.Str.occurrences j i 0 j.length 1).isEmpty))) H) ∨ rNotInD K x y H Q
def rSetA : TSet := fun o i v H Q => rSetL o i v H Q ∨ rSetD o i v H Q
section
variable {X : Cx}
theorem op_inA (hu : X.A.units + 64 < cLine) (hu' : X.A.units + 65 < cLine) : OpR X (compareOp .In) (rInA X.K) := by
  intro pins s σ H x y v u Q I rx ry h
  rcases h with (h | h) | h | h
  · exact op_in_seq pins s σ H x y v u Q I rx ry h
  · exact op_inDc (by omega) pins s σ H x y v u Q I rx ry h
  · exact op_in_str pins s σ H x y v u Q I rx ry h
  · exact op_inD hu' pins s σ H x y v u Q I rx ry h
theorem op_notinA (hu : X.A.units + 64 < cLine) (hu' : X.A.units + 65 < cLine) : OpR X (compareOp .NotIn) (rNotInA X.K) := by
  intro pins s σ H x y v u Q I rx ry h
  rcases h with (h | h) | h | h
  · exact op_notIn_seq pins s σ H x y v u Q I rx ry h
  · exact op_notinDc (by omega) pins s σ H x y v u Q I rx ry h
  · exact L2.op_notIn_str pins s σ H x y v u Q I rx ry h
  · exact op_notInD hu' pins s σ H x y v u Q I rx ry h
theorem set_any (hu : X.A.units + 1 < cLine) : PSet X rSetA := by
  intro pins s σ H o i v ov iv u Q I ro ri rv h
  rcases h with h | h
  · exact set_list pins s σ H o i v ov iv u Q I ro ri rv h
  · exact set_dict hu pins s σ H o i v ov iv u Q I ro ri rv h
theorem u65 {k : Nat} {A : Around} (r : Room k A) : A.units + 65 < cLine := by have := r.un; omega
end
section
variable {K : PySem.W.Frag} {σ : L2.St} {F : Hp} {O O' : Own} {H : Hp} {Q : VK} {x y v : V}
theorem g_inFL {a : Addr} {xs : List V} (h : H a = some (.lst xs)) (hx : flatV x = true) (hf : xs.all flatV = true) (q : Q (.bl (inV x xs)) H) : rInA K x (.ref a) H Q := .inl (.inl ⟨a, xs, rfl, .inl (SqL.of h), hx, hf, q⟩)
theorem g_notinFL {a : Addr} {xs : List V} (h : H a = some (.lst xs)) (hx : flatV x = true) (hf : xs.all flatV = true) (q : Q (.bl (!inV x xs)) H) : rNotInA K x (.ref a) H Q := .inl (.inl ⟨a, xs, rfl, .inl (SqL.of h), hx, hf, q⟩)
theorem g_inI {a : Addr} {kvs : List (Key × V)} {i : Int} (h : H a = some (.dK kvs)) (q : Q (.bl (valV kvs (.inl i)).isSome) H) : rInA K (.int i) (.ref a) H Q := .inl (.inr ⟨a, _, rfl, DGet.k (k := .inl i) h, q⟩)
theorem g_notinI {a : Addr} {kvs : List (Key × V)} {i : Int} (h : H a = some (.dK kvs)) (q : Q (.bl (!(valV kvs (.inl i)).isSome)) H) : rNotInA K (.int i) (.ref a) H Q := .inl (.inr ⟨a, _, rfl, DGet.k (k := .inl i) h, q⟩)
theorem g_inS {a : Addr} {kvs : List (Key × V)} {i : Str} (h : H a = some (.dK kvs)) (q : Q (.bl (valV kvs (.inr i)).isSome) H) : rInA K (.str i) (.ref a) H Q := .inl (.inr ⟨a, _, rfl, DGet.k (k := .inr i) h, q⟩)
theorem g_notinS {a : Addr} {kvs : List (Key × V)} {i : Str} (h : H a = some (.dK kvs)) (q : Q (.bl (!(valV kvs (.inr i)).isSome)) H) : rNotInA K (.str i) (.ref a) H Q := .inl (.inr ⟨a, _, rfl, DGet.k (k := .inr i) h, q⟩)
theorem g_stL {R : L2.St → Hp → Prop} {a : Addr} {xs : List V} {k : Int} {j : Nat} (hH : Has F O H) (c : Chg O a (.lst xs) (.lst (xs.set j v)) O') (hj : ixN xs.length k = some j) (q : ∀ H', Has F O' H' → R σ H') : kSet rSetA R σ (.ref a) (.int k) v H :=
  .inl ⟨a, xs, k, j, rfl, rfl, hH.get c.mem, hj, q _ (hH.put c)⟩
theorem g_stD {R : L2.St → Hp → Prop} {a : Addr} {kvs : List (Key × V)} {k : Key} {z : V} (ez : z = kV k) (hH : Has F O H) (c : Chg O a (.dK kvs) (.dK (putK kvs k v)) O') (hl : kvs.length < sizeLine) (q : ∀ H', Has F O' H' → R σ H') : kSet rSetA R σ (.ref a) z v H := by
  subst ez
  exact .inr ⟨a, _, rfl, DPut.k (hH.get c.mem) hl, q _ (hH.put c)⟩
end
def rm (H : Hp) (a : Addr) : Hp := fun b => if b = a then none else H b
/-- all but a stands as it stood -/
def But (a : Addr) (H H' : Hp) : Prop := ∀ b u, b ≠ a → H b = some u → H' b = some u
theorem rm_at {H : Hp} {a : Addr} : rm H a a = none := if_pos rfl
theorem rm_ne {H : Hp} {a b : Addr} (h : b ≠ a) : rm H a b = H b := if_neg h
theorem Has.arg {H : Hp} {a : Addr} {o : HO} (h : H a = some o) : Has (rm H a) [(a, o)] H := by
  refine ⟨fun b u q => ?_, fun p hp => ?_, by simp⟩
  · by_cases e : b = a
    · subst e; rw [rm_at] at q; cases q
    · rw [rm_ne e] at q; exact q
  · have e : p = (a, o) := by simpa using hp
    subst e
    exact ⟨rm_at, h⟩
theorem But.of {H H' : Hp} {a : Addr} (h : Same (rm H a) H') : But a H H' := fun b u ne q => h b u (by rw [rm_ne ne]; exact q)
theorem But.trans {a : Addr} {H H1 H2 : Hp} (x : But a H H1) (y : But a H1 H2) : But a H H2 := fun b u ne q => y b u ne (x b u ne q)
theorem But.same {a : Addr} {H H1 H2 : Hp} (x : But a H H1) (y : Same H1 H2) : But a H H2 := fun b u ne q => y b u (x b u ne q)
section
variable {K : PySem.W.Frag} {σ : L2.St} {F : Hp} {O O' : Own} {H : Hp} {Q : VK} {x y v : V}
/-- a test by a fact about its answer -/
theorem g_fact {t : TT} {R : Bool → Hp → Prop} (C : Bool → Prop) (h : ∀ R : Bool → Hp → Prop, (∀ b, C b → R b H) → t σ H R) (q : ∀ b, C b → R b H) : t σ H R := h R q
theorem g_ixV {a : Addr} {xs : List V} {i : Int} (h : H a = some (.lst xs)) (h0 : 0 ≤ i) (hl : i < xs.length) (q : ∀ v, xs[i.toNat]? = some v → Q v H) : rIxA K (.ref a) (.int i) H Q := by
  have e : i.toNat < xs.length := by omega
  exact g_ixL h (at_n h0 (List.getElem?_eq_getElem e)) (q _ (List.getElem?_eq_getElem e))
theorem g_ixI {a : Addr} {xs : List Int} {i : Int} (h : H a = some (.lst (xs.map V.int))) (h0 : 0 ≤ i) (hl : i < xs.length) (q : ∀ z, xs[i.toNat]? = some z → Q (.int z) H) : rIxA K (.ref a) (.int i) H Q := by
  have e : i.toNat < xs.length := by omega
  refine g_ixL h (at_n h0 (v := .int xs[i.toNat]) ?_) (q _ (List.getElem?_eq_getElem e))
  rw [List.getElem?_map, List.getElem?_eq_getElem e]
  rfl
theorem g_ixZ {a : Addr} {xs : List Str} {i : Int} (h : H a = some (.lst (xs.map V.str))) (h0 : 0 ≤ i) (hl : i < xs.length) (q : ∀ z, xs[i.toNat]? = some z → Q (.str z) H) : rIxA K (.ref a) (.int i) H Q := by
  have e : i.toNat < xs.length := by omega
  refine g_ixL h (at_n h0 (v := .str xs[i.toNat]) ?_) (q _ (List.getElem?_eq_getElem e))
  rw [List.getElem?_map, List.getElem?_eq_getElem e]
  rfl
theorem g_stI {R : L2.St → Hp → Prop} {a : Addr} {xs : List Int} {k z : Int} (hH : Has F O H) (c : Chg O a (.lst (xs.map V.int)) (.lst ((xs.set k.toNat z).map V.int)) O') (h0 : 0 ≤ k) (hl : k < xs.length) (q : ∀ H', Has F O' H' → R σ H') : kSet rSetA R σ (.ref a) (.int k) (.int z) H := by
  refine g_stL (xs := xs.map V.int) (j := k.toNat) hH ?_ (ixN_nat h0 (by rw [List.length_map]; exact hl)) q
  rw [← List.map_set]
  exact c
theorem g_popAtI {a : Addr} {xs : List Int} {i : Int} (hH : Has F O H) (c : Chg O a (.lst (xs.map V.int)) (.lst ((xs.eraseIdx i.toNat).map V.int)) O') (h0 : 0 ≤ i) (hl : i < xs.length) (h2 : xs.length ≤ 1000) (q : ∀ H' z, Has F O' H' → Q (.int z) H') : rPopAt (.ref a) [.int i] H Q := by
  have e : i.toNat < xs.length := by omega
  refine g_popAt (xs := xs.map V.int) (k := i.toNat) (y := .int xs[i.toNat]) hH ?_ (by omega) (by omega) ?_ ?_ (fun H' h => q H' _ h)
  · have : (xs.map V.int).eraseIdx i.toNat = (xs.eraseIdx i.toNat).map V.int := by
      rw [List.eraseIdx_eq_take_drop_succ, List.eraseIdx_eq_take_drop_succ, List.map_append, List.map_take, List.map_drop]
    rw [this]
    exact c
  · have := (ixN_seq (n := (xs.map V.int).length) (i := i) (j := i.toNat) (ixN_nat h0 (by rw [List.length_map]; exact hl))).1
    exact this
  · rw [List.getElem?_map, List.getElem?_eq_getElem e]
    rfl
end
theorem sz {n : Nat} (h : n ≤ 100000) : n ≤ sizeLine := by rw [sizeLine_eq]; omega
theorem szl {n : Nat} (h : n < 100000) : n < sizeLine := by rw [sizeLine_eq]; omega
section
variable {K : PySem.W.Frag} {σ : L2.St} {F : Hp} {O O' : Own} {H : Hp} {Q : VK} {x y v : V} {te ta : TE}
theorem g_yes {R : Bool → Hp → Prop} (q : R true H) : tYes σ H R := q
theorem g_wipe {σ1 σ2 : L2.St} {B : Prop} (e : σ1 = σ2) (q : B) : σ1 = σ2 ∧ B := ⟨e, q⟩
def kOI (x : V) (H : Hp) (R : Option Int → Hp → Prop) : Prop := ∃ i, x = .int i ∧ R (some i) H
theorem g_part {R : Option Int → Hp → Prop} (q : te σ H fun x H1 => kOI x H1 R) : tPart te σ H R := q
theorem g_kOI {R : Option Int → Hp → Prop} {i : Int} (q : R (some i) H) : kOI (.int i) H R := ⟨i, rfl, q⟩
theorem g_nopart {R : Option Int → Hp → Prop} (q : R none H) : tNoPart σ H R := q
theorem g_slice {r : V → Option Int → Option Int → Hp → VK → Prop} {tl th : TO} (q : te σ H fun x H1 => tl σ H1 fun l H2 => th σ H2 fun u H3 => r x l u H3 Q) : tSl r te tl th σ H Q := q
def rSlB (K : PySem.W.Frag) : V → Option Int → Option Int → Hp → VK → Prop := fun x lo hi H Q => rSlL K x lo hi H Q ∨ rSlA K x lo hi H Q
theorem g_slS {a : Addr} {xs : List V} {lo hi : Option Int} (h : SqL K H a xs) (hH : Has F O H) (q : ∀ p H', H p = none → Has F ((p, .lst (cutV xs lo hi)) :: O) H' → Q (.ref p) H') : rSlB K (.ref a) lo hi H Q := .inl ⟨a, xs, rfl, h, fun p n => q p _ n (hH.new n)⟩
theorem g_slL {a : Addr} {xs : List V} {lo hi : Option Int} (h : H a = some (.lst xs)) (hH : Has F O H) (q : ∀ p H', H p = none → Has F ((p, .lst (cutV xs lo hi)) :: O) H' → Q (.ref p) H') : rSlB K (.ref a) lo hi H Q := g_slS (SqL.of h) hH q
theorem cutV_ints (ns : List Int) (lo hi : Option Int) : ∃ ms : List Int, cutV (ns.map V.int) lo hi = ms.map V.int ∧ ms.length ≤ ns.length := by
  refine ⟨(ns.drop (HT.sIx ns.length 0 lo)).take (HT.sIx ns.length ns.length hi - HT.sIx ns.length 0 lo), ?_, ?_⟩
  · unfold cutV
    rw [List.length_map, List.map_take, List.map_drop]
  · rw [List.length_take, List.length_drop]
    omega
theorem g_tRev (q : te σ H fun x H1 => rRevL K x H1 Q) : tRevL K te σ H Q := q
/-- an item of a list of texts that are in order, of ints from 0 to n -/
def okS : V → Bool
  | .str z => PyData.strOk z
  | _ => false
end
def rowO (r : Addr × List Int) : Addr × HO := (r.1, .lst (r.2.map V.int))
def tabO (t : Addr) (rows : List (Addr × List Int)) : Own := (t, .lst (rows.map fun r => V.ref r.1)) :: rows.map rowO
theorem Chg.row {r : Addr × List Int} {zs : List Int} {O : Own} : ∀ {rows : List (Addr × List Int)} {k : Nat}, rows[k]? = some r → Chg (rows.map rowO ++ O) r.1 (.lst (r.2.map V.int)) (.lst (zs.map V.int)) ((rows.set k (r.1, zs)).map rowO ++ O)
  | [], k, h => by simp at h
  | x :: rows, 0, h => by
    have e : x = r := Option.some.inj h
    subst e
    exact .hd
  | x :: rows, k + 1, h => .tl (Chg.row (rows := rows) (k := k) h)
theorem rows_ref {r : Addr × List Int} {zs : List Int} : ∀ {rows : List (Addr × List Int)} {k : Nat}, rows[k]? = some r → (rows.set k (r.1, zs)).map (fun r => V.ref r.1) = rows.map fun r => V.ref r.1
  | [], k, h => by simp at h
  | x :: rows, 0, h => by
    have e : x = r := Option.some.inj h
    subst e
    rfl
  | x :: rows, k + 1, h => by
    have := rows_ref (rows := rows) (k := k) (zs := zs) h
    show V.ref x.1 :: (rows.set k (r.1, zs)).map (fun r => V.ref r.1) = _
    rw [this]
    rfl
section
variable {K : PySem.W.Frag} {σ : L2.St} {F : Hp} {O O' : Own} {H : Hp} {Q : VK} {t : Addr} {rows : List (Addr × List Int)}
theorem Has.row {r : Addr × List Int} {k : Nat} (hH : Has F (tabO t rows ++ O) H) (hr : rows[k]? = some r) : H r.1 = some (.lst (r.2.map V.int)) :=
  hH.get (List.mem_append_left _ (List.mem_cons_of_mem _ (List.mem_map.mpr ⟨r, List.mem_of_getElem? hr, rfl⟩)))
theorem Has.tab (hH : Has F (tabO t rows ++ O) H) : H t = some (.lst (rows.map fun r => V.ref r.1)) := hH.get (List.mem_append_left _ List.mem_cons_self)
theorem g_ixRow {i : Int} (hH : Has F (tabO t rows ++ O) H) (h0 : 0 ≤ i) (hl : i < rows.length) (q : ∀ r, rows[i.toNat]? = some r → H r.1 = some (.lst (r.2.map V.int)) → Q (.ref r.1) H) : rIxA K (.ref t) (.int i) H Q := by
  have e : i.toNat < rows.length := by omega
  have hr := List.getElem?_eq_getElem e
  refine g_ixL hH.tab (at_n h0 (v := .ref rows[i.toNat].1) ?_) (q _ hr (hH.row hr))
  rw [List.getElem?_map, hr]
  rfl
theorem g_setRow {R : L2.St → Hp → Prop} {r : Addr × List Int} {k : Nat} {j z : Int} (hH : Has F (tabO t rows ++ O) H) (hr : rows[k]? = some r) (h0 : 0 ≤ j) (hl : j < r.2.length) (q : ∀ H', Has F (tabO t (rows.set k (r.1, r.2.set j.toNat z)) ++ O) H' → R σ H') :
    kSet rSetA R σ (.ref r.1) (.int j) (.int z) H := by
  refine g_stI hH (xs := r.2) ?_ h0 hl q
  have c := Chg.row (O := O) (zs := r.2.set j.toNat z) hr
  unfold tabO
  rw [List.cons_append, List.cons_append, rows_ref hr]
  exact .tl c
end
section
variable {X : Cx}
theorem op_addK (K : PySem.W.Frag) (e : X.K = K := by rfl) : OpR X (binaryOp .Add) (rAdd K) := by subst e; exact op_addA
theorem op_eqK (K : PySem.W.Frag) (hu : X.A.units + 64 < cLine) (e : X.K = K := by rfl) : OpR X (compareOp .Eq) (rEqA K) := by subst e; exact op_eqA hu
theorem op_neK (K : PySem.W.Frag) (hu : X.A.units + 64 < cLine) (e : X.K = K := by rfl) : OpR X (compareOp .NotEq) (rNeA K) := by subst e; exact op_neA hu
theorem op_notinK (K : PySem.W.Frag) (hu : X.A.units + 64 < cLine) (hu' : X.A.units + 65 < cLine) (e : X.K = K := by rfl) : OpR X (compareOp .NotIn) (rNotInA K) := by subst e; exact op_notinA hu hu'
theorem ix_dict (hu : X.A.units + 1 < cLine) : IxR X rIxD := by
  intro value slice pins s σ H x y v u Q I rx ry h hs
  obtain ⟨a, z, rfl, g, q⟩ := h
  cases rx
  have hT := dict_typeIs I g
  have fin : wpAny (model X.prog X.w) X.A (subscripted slice false (.ref a) u) (fun r s₃ => wpAny (model X.prog X.w) X.A (letTemporaryGo value (.ref a) r >>= fun _ => pure r) (EP X pins σ Q) X.xe s₃) X.xe s := by
    rw [hs]
    exact wpAny_operating (wpAny_mono (d_getItem hu I g ry (Q := fun r s' => EP X pins σ Q r s') fun w' s3 I3 rw' => ⟨z, H, I3, rw', q⟩) (fun r s₃ h₃ => wpAny_bind (wpAny_letTemporaryGo (wpAny_pure h₃))) fun _ _ x => x)
  unfold subscriptTail
  refine wpAny_bind ?_
  rw [getitemInPython_of_ne hT.not_modules]
  refine wpAny_bind (wpAny_specialOf hT PySem.F.slot_dict_getitem.lookup ?_)
  first
    | exact wpAny_pure (wpAny_bind fin)
    | exact wpAny_bind (wpAny_pure (wpAny_bind fin))
    | exact wpAny_bind fin
theorem ix_K (K : PySem.W.Frag) (hu : X.A.units + 1 < cLine) (e : X.K = K := by rfl) : IxR X (rIxA K) := by subst e; exact ix_seq.or (ix_dict hu)
theorem cr_lenK (K : PySem.W.Frag) (e : X.K = K := by rfl) : CallR X (.builtin "len") (rLen K) := by subst e; exact cr_len
theorem cr_listK (K : PySem.W.Frag) (e : X.K = K := by rfl) : CallR X (.type "list") (rListOf K) := by subst e; exact cr_listOf
theorem cr_tupleK (K : PySem.W.Frag) (e : X.K = K := by rfl) : CallR X (.type "tuple") (rTupleOf K) := by subst e; exact cr_tupleOf
theorem sl_all : SlR X (rSlB X.K) := by
  intro pins s σ H x v vl vu lo hi sl Q I rx hs pl pu h
  rcases h with h | h
  · exact sl_list pins s σ H x v vl vu lo hi sl Q I rx hs pl pu h
  · exact sl_tupA pins s σ H x v vl vu lo hi sl Q I rx hs pl pu h
theorem sl_K (K : PySem.W.Frag) (e : X.K = K := by rfl) : SlR X (rSlB K) := by subst e; exact sl_all
theorem k_bm {ex : Expr} {T : String} {r : V → List V → Hp → VK → Prop} {to : TE} {t : TA} (K : PySem.W.Frag) (h : PE X ex (tBM X.K T r to t)) (e : X.K = K := by rfl) : PE X ex (tBM K T r to t) := by subst e; exact h
theorem k_il {tg l : Expr} {tl : TE} (K : PySem.W.Frag) (h : PI X tg l (iList X.K tl)) (e : X.K = K := by rfl) : PI X tg l (iList K tl) := by subst e; exact h
theorem k_gt {tg : Expr} {n : Nat} {t : TGs} (K : PySem.W.Frag) (h : PG X tg (gTup X.K n t)) (e : X.K = K := by rfl) : PG X tg (gTup K n t) := by subst e; exact h
end
theorem g_start {t : TS} {D : Ends} {σ σ' : L2.St} {H : Hp} (e : σ = σ') (h : t D σ' H) : t D σ H := by subst e; exact h
theorem Has.mono {F F' H : Hp} {O : Own} (h : Has F O H) (s : Same F' F) : Has F' O H := ⟨s.trans h.same, fun q hq => ⟨s.free (h.own q hq).1, (h.own q hq).2⟩, h.nd⟩
theorem same_rm {F H : Hp} {a : Addr} (s : Same F H) (n : F a = none) : Same F (rm H a) := fun b u q => by
  rw [rm_ne (ne_of_none q n)]
  exact s b u q
theorem take_foldl {α β : Type} {f : β → α → β} {z : β} {l : List α} {i : Nat} {x : α} (h : l[i]? = some x) : (l.take (i + 1)).foldl f z = f ((l.take i).foldl f z) x := by
  rw [List.take_add_one, h, List.foldl_append]
  rfl
def rIsA (K : PySem.W.Frag) : List V → Hp → VK → Prop := fun xs H Q => rIsi K xs H Q ∨ rIsiT K xs H Q
theorem cr_isK {X : Cx} (K : PySem.W.Frag) (e : X.K = K := by rfl) : CallR X (.builtin "isinstance") (rIsA K) := by
  subst e
  intro pins s σ H xs us Q I r h
  rcases h with h | h
  · exact call_isi pins s σ H xs us Q I r h
  · exact call_isiT pins s σ H xs us Q I r h
theorem g_is {K : PySem.W.Frag} {H : Hp} {Q : VK} {x : V} {t n : String} {b : Bool} (ty : TyX K H x (.type t)) (e : kitB t n = some b) (q : Q (.bl b) H) : rIsA K [x, .ty n] H Q := .inl ⟨x, .ty n, _, _, b, rfl, .ty n, ty, kit_ty e, q⟩
theorem g_is2 {K : PySem.W.Frag} {H : Hp} {Q : VK} {x : V} {t n m : String} {a b : Bool} {tp : Addr} (h : H tp = some (.tup [.ty n, .ty m])) (ty : TyX K H x (.type t)) (ea : kitB t n = some a) (eb : kitB t m = some b) (q : Q (.bl (a || b)) H) : rIsA K [x, .ref tp] H Q := by
  refine .inr ⟨x, tp, _, _, _, a || b, rfl, h, .cons (.ty n) (.cons (.ty m) .nil), ty, ?_, q⟩
  refine kitAny_cons (kit_ty ea) (fun z => ?_) (fun z => by rw [z]; rfl)
  refine kitAny_cons (kit_ty eb) (fun y => ?_) (fun y => by rw [z, y]; rfl)
  rw [z, y]
  exact kitAny_nil
theorem kit_list_list : kitB "list" "list" = some true := by decide +kernel
theorem kit_list_tuple : kitB "list" "tuple" = some false := by decide +kernel
theorem kit_list_dict : kitB "list" "dict" = some false := by decide +kernel
theorem kit_list_int : kitB "list" "int" = some false := by decide +kernel
theorem kit_list_bool : kitB "list" "bool" = some false := by decide +kernel
theorem kit_list_str : kitB "list" "str" = some false := by decide +kernel
theorem kit_tuple_list : kitB "tuple" "list" = some false := by decide +kernel
theorem kit_tuple_tuple : kitB "tuple" "tuple" = some true := by decide +kernel
theorem kit_tuple_dict : kitB "tuple" "dict" = some false := by decide +kernel
theorem kit_tuple_int : kitB "tuple" "int" = some false := by decide +kernel
theorem kit_tuple_bool : kitB "tuple" "bool" = some false := by decide +kernel
theorem kit_tuple_str : kitB "tuple" "str" = some false := by decide +kernel
theorem kit_dict_list : kitB "dict" "list" = some false := by decide +kernel
theorem kit_dict_tuple : kitB "dict" "tuple" = some false := by decide +kernel
theorem kit_dict_dict : kitB "dict" "dict" = some true := by decide +kernel
theorem kit_dict_int : kitB "dict" "int" = some false := by decide +kernel
theorem kit_dict_bool : kitB "dict" "bool" = some false := by decide +kernel
theorem kit_dict_str : kitB "dict" "str" = some false := by decide +kernel
theorem kit_int_list : kitB "int" "list" = some false := by decide +kernel
theorem kit_int_tuple : kitB "int" "tuple" = some false := by decide +kernel
theorem kit_int_dict : kitB "int" "dict" = some false := by decide +kernel
theorem kit_int_int : kitB "int" "int" = some true := by decide +kernel
theorem kit_int_bool : kitB "int" "bool" = some false := by decide +kernel
theorem kit_int_str : kitB "int" "str" = some false := by decide +kernel
theorem kit_bool_list : kitB "bool" "list" = some false := by decide +kernel
theorem kit_bool_tuple : kitB "bool" "tuple" = some false := by decide +kernel
theorem kit_bool_dict : kitB "bool" "dict" = some false := by decide +kernel
theorem kit_bool_int : kitB "bool" "int" = some true := by decide +kernel
theorem kit_bool_bool : kitB "bool" "bool" = some true := by decide +kernel
theorem kit_bool_str : kitB "bool" "str" = some false := by decide +kernel
theorem kit_str_list : kitB "str" "list" = some false := by decide +kernel
theorem kit_str_tuple : kitB "str" "tuple" = some false := by decide +kernel
theorem kit_str_dict : kitB "str" "dict" = some false := by decide +kernel
theorem kit_str_int : kitB "str" "int" = some false := by decide +kernel
theorem kit_str_bool : kitB "str" "bool" = some false := by decide +kernel
theorem kit_str_str : kitB "str" "str" = some true := by decide +kernel
section
variable {K : PySem.W.Frag} {H : Hp} {Q : VK}
theorem is_list_list {a : Addr} {xs : List V} (h : H a = some (.lst xs)) (q : Q (.bl true) H) : rIsA K [.ref a, .ty "list"] H Q := g_is (.base (.lst h)) kit_list_list q
theorem is_list_tuple {a : Addr} {xs : List V} (h : H a = some (.lst xs)) (q : Q (.bl false) H) : rIsA K [.ref a, .ty "tuple"] H Q := g_is (.base (.lst h)) kit_list_tuple q
theorem is_list_dict {a : Addr} {xs : List V} (h : H a = some (.lst xs)) (q : Q (.bl false) H) : rIsA K [.ref a, .ty "dict"] H Q := g_is (.base (.lst h)) kit_list_dict q
theorem is_list_int {a : Addr} {xs : List V} (h : H a = some (.lst xs)) (q : Q (.bl false) H) : rIsA K [.ref a, .ty "int"] H Q := g_is (.base (.lst h)) kit_list_int q
theorem is_list_bool {a : Addr} {xs : List V} (h : H a = some (.lst xs)) (q : Q (.bl false) H) : rIsA K [.ref a, .ty "bool"] H Q := g_is (.base (.lst h)) kit_list_bool q
theorem is_list_str {a : Addr} {xs : List V} (h : H a = some (.lst xs)) (q : Q (.bl false) H) : rIsA K [.ref a, .ty "str"] H Q := g_is (.base (.lst h)) kit_list_str q
theorem is2_list {a : Addr} {xs : List V} (h : H a = some (.lst xs)) {tp : Addr} (hp : H tp = some (.tup [.ty "list", .ty "tuple"])) (q : Q (.bl true) H) : rIsA K [.ref a, .ref tp] H Q := g_is2 hp (.base (.lst h)) kit_list_list kit_list_tuple q
theorem is_tuple_list {a : Addr} {xs : List V} (h : H a = some (.tup xs)) (q : Q (.bl false) H) : rIsA K [.ref a, .ty "list"] H Q := g_is (.base (.tup h)) kit_tuple_list q
theorem is_tuple_tuple {a : Addr} {xs : List V} (h : H a = some (.tup xs)) (q : Q (.bl true) H) : rIsA K [.ref a, .ty "tuple"] H Q := g_is (.base (.tup h)) kit_tuple_tuple q
theorem is_tuple_dict {a : Addr} {xs : List V} (h : H a = some (.tup xs)) (q : Q (.bl false) H) : rIsA K [.ref a, .ty "dict"] H Q := g_is (.base (.tup h)) kit_tuple_dict q
theorem is_tuple_int {a : Addr} {xs : List V} (h : H a = some (.tup xs)) (q : Q (.bl false) H) : rIsA K [.ref a, .ty "int"] H Q := g_is (.base (.tup h)) kit_tuple_int q
theorem is_tuple_bool {a : Addr} {xs : List V} (h : H a = some (.tup xs)) (q : Q (.bl false) H) : rIsA K [.ref a, .ty "bool"] H Q := g_is (.base (.tup h)) kit_tuple_bool q
theorem is_tuple_str {a : Addr} {xs : List V} (h : H a = some (.tup xs)) (q : Q (.bl false) H) : rIsA K [.ref a, .ty "str"] H Q := g_is (.base (.tup h)) kit_tuple_str q
theorem is2_tuple {a : Addr} {xs : List V} (h : H a = some (.tup xs)) {tp : Addr} (hp : H tp = some (.tup [.ty "list", .ty "tuple"])) (q : Q (.bl true) H) : rIsA K [.ref a, .ref tp] H Q := g_is2 hp (.base (.tup h)) kit_tuple_list kit_tuple_tuple q
theorem is_dict_list {a : Addr} {kvs : List (Key × V)} (h : H a = some (.dK kvs)) (q : Q (.bl false) H) : rIsA K [.ref a, .ty "list"] H Q := g_is (.base (.dK h)) kit_dict_list q
theorem is_dict_tuple {a : Addr} {kvs : List (Key × V)} (h : H a = some (.dK kvs)) (q : Q (.bl false) H) : rIsA K [.ref a, .ty "tuple"] H Q := g_is (.base (.dK h)) kit_dict_tuple q
theorem is_dict_dict {a : Addr} {kvs : List (Key × V)} (h : H a = some (.dK kvs)) (q : Q (.bl true) H) : rIsA K [.ref a, .ty "dict"] H Q := g_is (.base (.dK h)) kit_dict_dict q
theorem is_dict_int {a : Addr} {kvs : List (Key × V)} (h : H a = some (.dK kvs)) (q : Q (.bl false) H) : rIsA K [.ref a, .ty "int"] H Q := g_is (.base (.dK h)) kit_dict_int q
theorem is_dict_bool {a : Addr} {kvs : List (Key × V)} (h : H a = some (.dK kvs)) (q : Q (.bl false) H) : rIsA K [.ref a, .ty "bool"] H Q := g_is (.base (.dK h)) kit_dict_bool q
theorem is_dict_str {a : Addr} {kvs : List (Key × V)} (h : H a = some (.dK kvs)) (q : Q (.bl false) H) : rIsA K [.ref a, .ty "str"] H Q := g_is (.base (.dK h)) kit_dict_str q
theorem is2_dict {a : Addr} {kvs : List (Key × V)} (h : H a = some (.dK kvs)) {tp : Addr} (hp : H tp = some (.tup [.ty "list", .ty "tuple"])) (q : Q (.bl false) H) : rIsA K [.ref a, .ref tp] H Q := g_is2 hp (.base (.dK h)) kit_dict_list kit_dict_tuple q
theorem is_int_list {i : Int} (q : Q (.bl false) H) : rIsA K [.int i, .ty "list"] H Q := g_is (.base (.int i)) kit_int_list q
theorem is_int_tuple {i : Int} (q : Q (.bl false) H) : rIsA K [.int i, .ty "tuple"] H Q := g_is (.base (.int i)) kit_int_tuple q
theorem is_int_dict {i : Int} (q : Q (.bl false) H) : rIsA K [.int i, .ty "dict"] H Q := g_is (.base (.int i)) kit_int_dict q
theorem is_int_int {i : Int} (q : Q (.bl true) H) : rIsA K [.int i, .ty "int"] H Q := g_is (.base (.int i)) kit_int_int q
theorem is_int_bool {i : Int} (q : Q (.bl false) H) : rIsA K [.int i, .ty "bool"] H Q := g_is (.base (.int i)) kit_int_bool q
theorem is_int_str {i : Int} (q : Q (.bl false) H) : rIsA K [.int i, .ty "str"] H Q := g_is (.base (.int i)) kit_int_str q
theorem is2_int {i : Int} {tp : Addr} (hp : H tp = some (.tup [.ty "list", .ty "tuple"])) (q : Q (.bl false) H) : rIsA K [.int i, .ref tp] H Q := g_is2 hp (.base (.int i)) kit_int_list kit_int_tuple q
theorem is_bool_list {b : Bool} (q : Q (.bl false) H) : rIsA K [.bl b, .ty "list"] H Q := g_is (.base (.bl b)) kit_bool_list q
theorem is_bool_tuple {b : Bool} (q : Q (.bl false) H) : rIsA K [.bl b, .ty "tuple"] H Q := g_is (.base (.bl b)) kit_bool_tuple q
theorem is_bool_dict {b : Bool} (q : Q (.bl false) H) : rIsA K [.bl b, .ty "dict"] H Q := g_is (.base (.bl b)) kit_bool_dict q
theorem is_bool_int {b : Bool} (q : Q (.bl true) H) : rIsA K [.bl b, .ty "int"] H Q := g_is (.base (.bl b)) kit_bool_int q
theorem is_bool_bool {b : Bool} (q : Q (.bl true) H) : rIsA K [.bl b, .ty "bool"] H Q := g_is (.base (.bl b)) kit_bool_bool q
theorem is_bool_str {b : Bool} (q : Q (.bl false) H) : rIsA K [.bl b, .ty "str"] H Q := g_is (.base (.bl b)) kit_bool_str q
theorem is2_bool {b : Bool} {tp : Addr} (hp : H tp = some (.tup [.ty "list", .ty "tuple"])) (q : Q (.bl false) H) : rIsA K [.bl b, .ref tp] H Q := g_is2 hp (.base (.bl b)) kit_bool_list kit_bool_tuple q
theorem is_str_list {z : Str} (q : Q (.bl false) H) : rIsA K [.str z, .ty "list"] H Q := g_is (.base (.str z)) kit_str_list q
theorem is_str_tuple {z : Str} (q : Q (.bl false) H) : rIsA K [.str z, .ty "tuple"] H Q := g_is (.base (.str z)) kit_str_tuple q
theorem is_str_dict {z : Str} (q : Q (.bl false) H) : rIsA K [.str z, .ty "dict"] H Q := g_is (.base (.str z)) kit_str_dict q
theorem is_str_int {z : Str} (q : Q (.bl false) H) : rIsA K [.str z, .ty "int"] H Q := g_is (.base (.str z)) kit_str_int q
theorem is_str_bool {z : Str} (q : Q (.bl false) H) : rIsA K [.str z, .ty "bool"] H Q := g_is (.base (.str z)) kit_str_bool q
theorem is_str_str {z : Str} (q : Q (.bl true) H) : rIsA K [.str z, .ty "str"] H Q := g_is (.base (.str z)) kit_str_str q
theorem is2_str {z : Str} {tp : Addr} (hp : H tp = some (.tup [.ty "list", .ty "tuple"])) (q : Q (.bl false) H) : rIsA K [.str z, .ref tp] H Q := g_is2 hp (.base (.str z)) kit_str_list kit_str_tuple q
end
section
variable {K : PySem.W.Frag} {σ : L2.St} {F : Hp} {O O' : Own} {H : Hp} {Q : VK} {x y v : V}
theorem g_neB {i j : Bool} (q : Q (.bl (!decide (i = j))) H) : rNeA K (.bl i) (.bl j) H Q := .inl ⟨rfl, by rw [dec_bl, Bool.beq_eq_decide_eq]; exact q⟩
theorem g_eqB {i j : Bool} (q : Q (.bl (decide (i = j))) H) : rEqA K (.bl i) (.bl j) H Q := .inl ⟨rfl, by rw [dec_bl, Bool.beq_eq_decide_eq]; exact q⟩
end
theorem cutV_to (xs : List V) (b : Nat) : cutV xs none (some (b : Int)) = xs.take b := by
  unfold cutV
  rw [HT.sIx_none, HT.sIx_nat, List.drop_zero, Nat.sub_zero]
  rcases Nat.le_total b xs.length with hb | hb
  · rw [Nat.min_eq_left hb]
  · rw [Nat.min_eq_right hb, List.take_length, List.take_of_length_le hb]
def Grow (F H F' : Hp) : Prop := Same F F' ∧ ∀ b, H b ≠ none → F' b = F b
theorem Has.grown {F F' H H' : Hp} {O O' : Own} {a : Addr} {o o' : HO} (h : Has F O H) (c : Chg O a o o' O') (hb : But a H H') (g : Grow F H F') (s : Same F' H') (e : H' a = some o') : Has F' O' H' := by
  have h' := h.but c hb e
  refine ⟨s, fun q hq => ⟨?_, (h'.own q hq).2⟩, h'.nd⟩
  rcases c.own h.nd q hq with rfl | ⟨m, _⟩
  · rw [g.2 a (by rw [h.get c.mem]; exact fun z => by cases z)]
    exact (h.own _ c.mem).1
  · rw [g.2 q.1 (by rw [(h.own q m).2]; exact fun z => by cases z)]
    exact (h.own q m).1
section
variable {K : PySem.W.Frag} {H : Hp} {Q : VK}
theorem is2_non {tp : Addr} (hp : H tp = some (.tup [.ty "list", .ty "tuple"])) (q : Q (.bl false) H) : rIsA K [.non, .ref tp] H Q := g_is2 hp (.base .non) (by decide +kernel : kitB "NoneType" "list" = some false) (by decide +kernel : kitB "NoneType" "tuple" = some false) q
end
theorem i_nf {A B : Prop} (h : A) : if (!false) = true then A else B := by
  show (if true = true then A else B)
  rw [if_pos rfl]
  exact h
theorem i_nt {A B : Prop} (h : B) : if (!true) = true then A else B := by
  show (if false = true then A else B)
  rw [if_neg Bool.false_ne_true]
  exact h
def rmO (O : Own) (H : Hp) : Hp := fun b => if b ∈ O.map (·.1) then none else H b
section
variable {F H : Hp} {O : Own}
theorem Has.re (h : Has F O H) : Has (rmO O H) O H := by
  refine ⟨fun b u e => ?_, fun p hp => ⟨if_pos (List.mem_map.mpr ⟨p, hp, rfl⟩), (h.own p hp).2⟩, h.nd⟩
  unfold rmO at e
  split at e
  · cases e
  · exact e
theorem Has.reF (h : Has F O H) : Same F (rmO O H) := fun b u e => by
  unfold rmO
  rw [if_neg]
  · exact h.same b u e
  · intro m
    obtain ⟨p, hp, rfl⟩ := List.mem_map.mp m
    rw [(h.own p hp).1] at e
    cases e
theorem Has.re_of (h : Has F O H) {b : Addr} {u : HO} (e : H b = some u) (ne : ∀ p ∈ O, p.2 ≠ u) : rmO O H b = some u := by
  unfold rmO
  rw [if_neg]
  · exact e
  · intro m
    obtain ⟨p, hp, rfl⟩ := List.mem_map.mp m
    rw [(h.own p hp).2] at e
    exact ne p hp (Option.some.inj e)
end
section
variable {K : PySem.W.Frag} {σ : L2.St} {F : Hp} {O O' : Own} {H : Hp} {Q : VK} {x y v : V} {ta te : TE}
theorem g_ixDS {a : Addr} {kvs : List (Key × V)} {i : Str} (h : H a = some (.dK kvs)) (hv : valV kvs (.inr i) = some v) (q : Q v H) : rIxA K (.ref a) (.str i) H Q := .inr ⟨a, v, rfl, hv ▸ DGet.k (k := .inr i) h, q⟩
def kStar (K : PySem.W.Frag) (t : TA) (σ : L2.St) (x : V) (H : Hp) (Q : List V → Hp → Prop) : Prop := ∃ p xs, x = V.ref p ∧ (SqT K H p xs ∨ SqL K H p xs) ∧ t σ H fun ys H2 => Q (xs ++ ys) H2
theorem g_star {t : TA} {QA : List V → Hp → Prop} (q : te σ H fun x H1 => kStar K t σ x H1 QA) : StX.tStar K te t σ H QA := q
theorem g_kstarL {t : TA} {QA : List V → Hp → Prop} {a : Addr} {xs : List V} (h : H a = some (.lst xs)) (q : t σ H fun ys H2 => QA (xs ++ ys) H2) : kStar K t σ (.ref a) H QA := ⟨a, xs, rfl, .inr (SqL.of h), q⟩
theorem g_kstarT {t : TA} {QA : List V → Hp → Prop} {a : Addr} {xs : List V} (h : H a = some (.tup xs)) (q : t σ H fun ys H2 => QA (xs ++ ys) H2) : kStar K t σ (.ref a) H QA := ⟨a, xs, rfl, .inl (SqT.of h), q⟩
theorem k_star {X : Cx} {es : List Expr} {t : TA} {ex : Expr} {p : Pos} (K : PySem.W.Frag) (h : PA X (.Starred ex p :: es) (StX.tStar X.K te t)) (e : X.K = K := by rfl) : PA X (.Starred ex p :: es) (StX.tStar K te t) := by subst e; exact h
def kTru (K : PySem.W.Frag) (x : V) (H : Hp) (R : Bool → Hp → Prop) : Prop := ∃ k, TruV K x H k ∧ R k H
def tTru (K : PySem.W.Frag) (te : TE) : TT := fun σ H R => te σ H fun x H1 => kTru K x H1 R
theorem pt_tru {X : Cx} {a : Expr} (K : PySem.W.Frag) (ha : PE X a ta) (he : ∀ whole, isTrue a X.env whole = (do let v ← whole; standAt a.pos; holding [v] (truthy v)) := by intro _; rfl) (e : X.K = K := by rfl) : PT X a (tTru K ta) := by subst e; exact pt_truth ha he
theorem g_tru {R : Bool → Hp → Prop} (q : te σ H fun x H1 => kTru K x H1 R) : tTru K te σ H R := q
theorem g_truL {R : Bool → Hp → Prop} {a : Addr} {xs : List V} (h : H a = some (.lst xs)) (q : R (!xs.isEmpty) H) : kTru K (.ref a) H R := ⟨_, .inl ⟨xs, SqL.of h, rfl⟩, q⟩
end
mutual
def noL : PyData → Bool
  | .list _ => false
  | .dict _ => false
  | .tuple ds => noLs ds
  | _ => true
def noLs : List PyData → Bool
  | [] => true
  | d :: ds => noL d && noLs ds
end
theorem noLs_mem : ∀ {ds : List PyData}, (∀ d ∈ ds, noL d = true) → noLs ds = true
  | [], _ => by rw [noLs]
  | d :: ds, h => by
    rw [noLs, h d List.mem_cons_self, noLs_mem fun x hx => h x (List.mem_cons_of_mem _ hx)]
    rfl
mutual
theorem Dq.keep {H H' : Hp} (e : ∀ b xs, H b = some (.tup xs) → H' b = some (.tup xs)) : ∀ (d : PyData) (v : V), noL d = true → Dq H v d → Dq H' v d
  | _, _, _, .non => .non
  | _, _, _, .bl b => .bl b
  | _, _, _, .int i => .int i
  | _, _, _, .str x => .str x
  | .list ds, _, n, .lst s a => by rw [noL] at n; cases n
  | .tuple ds, _, n, .tup s a => .tup (e _ _ s) (DqAll.keep e ds _ (by rw [noL] at n; exact n) a)
theorem DqAll.keep {H H' : Hp} (e : ∀ b xs, H b = some (.tup xs) → H' b = some (.tup xs)) : ∀ (ds : List PyData) (vs : List V), noLs ds = true → DqAll H vs ds → DqAll H' vs ds
  | _, _, _, .nil => .nil
  | d :: ds, _, n, .cons h t => by
    rw [noLs, Bool.and_eq_true] at n
    exact .cons (Dq.keep e d _ n.1 h) (DqAll.keep e ds _ n.2 t)
end
theorem Has.keep {F H : Hp} {O : Own} (h : Has F O H) (ho : ∀ p ∈ O, ∀ xs, p.2 ≠ .tup xs) {ds : List PyData} {vs : List V} (n : ∀ d ∈ ds, noL d = true) (d : DqAll H vs ds) : DqAll (rmO O H) vs ds :=
  d.keep (fun _ _ e => h.re_of e fun p hp => ho p hp _) _ _ (noLs_mem n)
def kLcR2 (g : TG) (tt : TT) (te : TE) (ws : List Nat) (σ : L2.St) (vs : List V) (H : Hp) (Q : VK) : Prop := ∃ i j : Int, vs = [.int i, .int j] ∧ (-(2 ^ 62) ≤ i ∧ i < 2 ^ 62 ∧ -(2 ^ 62) ≤ j ∧ j < 2 ^ 62) ∧ kLc (Itr i (j - i).toNat) g tt te ws σ H Q
section
variable {K : PySem.W.Frag} {σ : L2.St} {F : Hp} {O O' : Own} {H : Hp} {Q : VK} {x y v : V} {ta te : TE} {g : TG}
theorem g_lcR2 {ta : TA} {tt : TT} {vs : List Nat} (q : ta σ H fun xs H1 => kLcR2 g tt te vs σ xs H1 Q) : tLc (iRng2 ta) g tt te vs σ H Q := q
end
end Qk
namespace Qk
open PySem PySem.Spec PyProof.Rows L2
theorem g_isBl {H : Hp} {Q : VK} {a b : Bool} (q : Q (.bl (decide (a = b))) H) : rIsB (.bl a) (.bl b) H Q := ⟨a, b, rfl, rfl, q⟩
end Qk
namespace Qk
open PySem PySem.Spec PyProof.Rows L2
section
variable {P : Program} {w : World} {K : PySem.W.Frag} {mg : Str → Option Value} {base : Heap}
theorem Fun.okN {x qual : Str} {st : Stmt} {f : Addr} {fd : FuncData} {N ps : List Str} {k : Nat} {sp : Sp} (F : Fun K x qual st f fd) (S : FnScope N ps (defScope st)) (len : ∀ vs H Q E, sp vs H Q E → vs.length = ps.length)
    (hbody : ∀ (cdv : Value) (A : Around) (outer : List Env) (s : Shared) (H : Hp) (vs : List V) (Q : VK) (E : XK), Room k (A.deeper (envOfC qual (defScope st) s.heap.objs.size f cdv)) → sp vs H Q E →
      ∃ t, PSs (cxOf (L2N.CX P w) P w K mg base N qual (defScope st) f cdv A outer s H E) (defBody st) t ∧ t { nx := fun _ H' => Q .non H', rt := Q } (start N vs) H) : FnOk P w K mg base (L2N.CX P w) (k + 1) f fd ps sp := by
  obtain ⟨oc, od, kV, doc, pm, an, cdv, ct, osl, rfl, lk, hcd⟩ := F.ex
  exact fn_of lk hcd S len fun A outer s H vs Q E hr hsp => hbody cdv A outer s H vs Q E hr hsp
/-- a def that is called in a suite -/
theorem Fun.okH {x qual : Str} {st : Stmt} {f : Addr} {fd : FuncData} {N ps : List Str} {k : Nat} {sp : Sp} (F : Fun K x qual st f fd) (S : FnScope N ps (defScope st)) (len : ∀ vs H Q E, sp vs H Q E → vs.length = ps.length)
    (hbody : ∀ (cdv : Value) (A : Around) (outer : List Env) (s : Shared) (H : Hp) (vs : List V) (Q : VK) (E : XK) (p : Addr × Obj), L2H.Hot1 A p → L2H.RoomH k (A.deeper (envOfC qual (defScope st) s.heap.objs.size f cdv)) → sp vs H Q E →
      ∃ t, PSs (L2H.cxH CX0 P w K mg base N qual (defScope st) f cdv A outer s H E p) (defBody st) t ∧ t { nx := fun _ H' => Q .non H', rt := Q } (start N vs) H) : L2H.FnH P w K mg base CX0 (k + 1) f fd ps sp := by
  obtain ⟨oc, od, kV, doc, pm, an, cdv, ct, osl, rfl, lk, hcd⟩ := F.ex
  exact L2H.fn_ofH lk hcd S len fun A outer s H vs Q E p hot hr hsp => hbody cdv A outer s H vs Q E p hot hr hsp
end
theorem passN {X : Cx} : Passes (L2N.CX X.prog X.w) X E0 := fun _ _ _ _ _ _ _ h => by
  obtain ⟨_, _, _, _, _, _, _, _, _, _, _, _, z⟩ := h
  exact z.elim
theorem takesN {X : Cx} : L2N.Takes X (fun _ _ _ _ => False) := fun _ _ x => by
  obtain ⟨_, _, _, _, _, _, _, _, _, _, _, _, _, _, _, _, z⟩ := x
  exact z.elim
theorem _root_.L2H.RoomH.units {k : Nat} {A : Around} (r : L2H.RoomH k A) : A.units + 64 < cLine := by
  have := r.un
  omega
theorem roomS {k j : Nat} {A : Around} {h : Option Value} (r : Room k A) (e : j ≤ k) : L2H.RoomH j (A.mark h) := by
  have h1 := r.dp
  have h2 := r.un
  exact ⟨by show A.depth + 3 * j + 5 < _; omega, by show A.units + 16 * j + 200 < _; omega⟩
theorem huH {k : Nat} {A : Around} (r : L2H.RoomH k A) : A.units + 1 < cLine := by
  have := r.un
  omega
/-- a constant of the program's text -/
theorem pe_gc {X : Cx} {x : Str} {pos : Pos} {v : V} (hg : Gl X x) (h : ∃ u, X.mg x = some u ∧ RelV v u) (hd : (x == ("__debug__" : Str)) = false := by decide) : PE X (.Name x pos) (tC v) := by
  obtain ⟨u, hm, r⟩ := h
  exact pe_glob hg hm r hd
section
variable {X : Cx} {pins : List (Addr × Obj)} {σ : L2.St} {H : Hp} {hp : Heap} {g : Array GenState} {dr : Drawn} {tk : Nat} {os : OsState} {C : Addr}
/-- the tuple of the arguments and the bare exception laid behind the heap -/
abbrev barePut (hp : Heap) (C : Addr) (us : List Value) : Heap := (hp.push (PySem.W.kdv_tup us)).push (PySem.HandSPX.excO C hp.objs.size)
theorem barePut_keeps {us : List Value} (b : Addr) (o : Obj) (e : hp.get? b = some o) : (barePut hp C us).get? b = some o := Heap.get?_push_of_some _ (Heap.get?_push_of_some _ e)
theorem barePut_inv (I : Inv X pins σ H ⟨hp, g, dr, tk, os⟩) (us : List Value) : Inv X pins σ (upd H (hp.objs.size + 1) (exo (hp.objs.size + 1) C none)) ⟨barePut hp C us, g, dr, tk, os⟩ := by
  refine I.laid (t' := tk) barePut_keeps (Nat.le_succ _) (exo_ok (t1 := hp.objs.size) ?_)
  unfold barePut
  heap_get
/-- what an __init__ leaves, as an exception in hand -/
theorem in_hand {H2 : Hp} {Q : XK} {us : List Value} {s' : Shared} {d : Addr} {fs : List (Str × V)} (T : OexC X.K C) (I : Inv X pins σ H ⟨hp, g, dr, tk, os⟩) (un : Un (frs X.stack) [] (upd H (hp.objs.size + 1) (exo (hp.objs.size + 1) C none)) H2 (barePut hp C us) s'.heap)
    (ok : HOk X.prog X.w H2 s'.heap) (eo : s'.os = os) (bare : AllBare s'.gens) (ea : H2 (hp.objs.size + 1) = some (exo (hp.objs.size + 1) C (some d))) (ed : H2 d = some (exd d fs)) (nd : H d = none)
    (q : Q (.ref C) (some d) (upd (del H2 (hp.objs.size + 1)) d (.xd fs))) : L2N.MkP X pins σ Q (.ref (hp.objs.size + 1)) s' := by
  obtain ⟨h2, g2, d2, t2, o2⟩ := s'
  obtain ⟨tt, G, J, kG, gone, there, free⟩ := mk_end0 (t2 := t2) (d2 := d2) I (Nat.le_succ _) barePut_keeps un ok eo bare ea ed nd
  have zn : L2N.Zn (.ref C) (some d) ({ cls := .ref C, dict := some d, data := .fields #[.ref tt, .none, .none, .none, .bool false, .none] } : Obj) := ⟨rfl, rfl, fun vs hv => by cases hv; rfl⟩
  exact ⟨_, _, _, ⟨G, g2, d2, t2, o2⟩, _, _, some d, rfl, J, kG, gone, there, zn, rfl, rfl, free, rfl, bare, raises_own T.exC T.tyC, q⟩
end
theorem pmk_oexN {X : Cx} {e : Expr} {es : List Expr} {ta : TA} {p pos : Pos} {CX : CXT} {x : Str} {C fI : Addr} {k : Nat} {fd : FuncData} {ps : List Str} {sp : Sp} (T : OexC X.K C) (iC : PySem.W.findIn X.K (.ref C) "__init__" = some (some (.ref fI))) (tI : PySem.W.typeIn X.K (.ref fI) = some (.type "function"))
    (Fi : FnOk X.prog X.w X.K X.mg X.base CX k fI fd ps sp) (room : Room (k + 1) X.A) (binds : Binds X.K fd ps []) (pass : Passes CX X (fun _ _ _ => False)) (gl : Gl X x) (gm : X.mg x = some (.ref C)) (args : PA X (e :: es) ta)
    (dbg : (x == ("__debug__" : Str)) = false := by decide) (star : starEach (e :: es) X.env = (false, eval e X.env) :: starEach es X.env := by rfl) (plain : (backTo pos (starEach es X.env)).any (·.1) = false := by rfl) :
    L2N.PMk X (.Call (.Name x p) (e :: es) [] pos) (tMkO C sp [] ta) := fun pins s σ H Q I h => by
  obtain ⟨_, _, _, _, bm, _, _, _, _, _, _, _, _, _, _, cl, rf⟩ := T.cls
  refine wpAny_Call_Name_kw (ld_glob I gl gm (PySem.W.callWith_K (h₀ := X.base) I.ok.mod.kin T.kC (thn (args.run pos pins s σ H _ I h) fun us s1 hs => ?_) star plain) dbg)
  obtain ⟨vs, H1, J, rel, few, spq⟩ := hs
  refine ⟨J.kIn, ?_⟩
  obtain ⟨hp, g, dr, tk, os⟩ := s1
  have J2 := barePut_inv (C := C) J us
  have start := spq (hp.objs.size + 1) (J.hok.fresh (Nat.le_succ _))
  rw [List.append_nil] at start
  have vals : Vals (V.ref (hp.objs.size + 1) :: vs) (Value.ref (hp.objs.size + 1) :: us) := .cons rfl rel
  have many : (Value.ref (hp.objs.size + 1) :: us).length = ps.length := vals.length.symm.trans (Fi.len _ _ _ _ start)
  have bd := binds _ (Value.ref (hp.objs.size + 1) :: us) J2.kIn (by rw [List.append_nil]; exact many)
  rw [List.append_nil] at bd
  have room2 : us.length ≤ sizeLine := sz (by have := Paired.length rel; omega)
  have run := Fi.run _ X.stack _ _ ⟨Value.ref (hp.objs.size + 1) :: us, []⟩ (Value.ref (hp.objs.size + 1) :: us) _ _ (fun _ _ _ => False) (room.make C us []) (J2.env0.make C us []) bd vals start
  show wpAny (model X.prog X.w) X.A (call (.ref C) us) _ _ _
  refine wpAny_call (PySem.HandSPX.call_own F.excBase_ValueError (fun Y => PySem.HandSPX.refsVE_contains Y bm rf) (J.kIn _ _ cl) (PySem.W.looks_findIn J.kIn iC) (fun self => PySem.W.bind_fn J.kIn self tI) room2 (codeAny_mono run fun r s' end_ => ?_))
  match r, end_ with
  | .error er, end_ => exact pass pins σ _ _ er s' J2 end_
  | .ok (.ret u), ⟨v, H2, eo, bare, un, ok, ru, ev, d, fs, ea, ed, nd, q⟩ =>
    subst ev
    exact ⟨ru, in_hand T J un ok eo bare ea ed nd q⟩
  | .ok .next, end_ => exact end_.elim
  | .ok .brk, end_ => exact end_.elim
  | .ok .cont, end_ => exact end_.elim
/-- raise C(vs) -/
def kMk (C : Addr) (sp : Sp) (vs : List V) (H : Hp) (Q : XK) : Prop := vs.length ≤ 1000 ∧ ∀ a, H a = none → sp (.ref a :: (vs ++ [])) (upd H a (exo a C none))
  (fun v H2 => v = .non ∧ ∃ (d : Addr) (fs : List (Str × V)), H2 a = some (exo a C (some d)) ∧ H2 d = some (exd d fs) ∧ H d = none ∧ Q (.ref C) (some d) (upd (del H2 a) d (.xd fs))) (fun _ _ _ => False)
def tRaise (W : WX) (C : Addr) (sp : Sp) (ta : TA) : TS := fun _ σ H => tMkO C sp [] ta σ H fun cls d H' => W cls d σ H'
theorem k_raise {X : Cx} {W : WX} {e : Expr} {C : Addr} {sp : Sp} {ta : TA} {pos : Pos} (hc : X.calm = true) (tk : L2N.Takes X W) (he : L2N.PMk X e (tMkO C sp [] ta)) : PS X (.Raise (some e) none pos) (tRaise W C sp ta) := L2N.ps_raise hc tk he
theorem g_raise {W : WX} {C : Addr} {sp : Sp} {ta : TA} {D : Ends} {σ : L2.St} {H : Hp} (q : ta σ H fun vs H1 => kMk C sp vs H1 fun cls d H' => W cls d σ H') : tRaise W C sp ta D σ H := q
/-- try: body, except c as i: suite -/
def tTry (K : PySem.W.Frag) (c : Value) (i : Nat) (tb : WX → TS) (ts : Addr → Value → Option Addr → TS) (Wout : WX) : TS := fun D σ H => tb (wAs K c i ts Wout D) D σ H
theorem k_try {X : Cx} {x n : Str} {c : Value} {i : Nat} {body suite : List Stmt} {b₀ : Stmt} {np pos pos' : Pos} {tb : WX → TS} {ts : Addr → Value → Option Addr → TS} {Wout : WX} (K : PySem.W.Frag)
    (hs : X.stack = X.env :: X.outer) (hf : X.env.frame = some X.env.locals) (hN : X.N.Nodup) (hi : X.N[i]? = some n) (hln : X.env.kindOf n = some .local) (hc : Names X x c) (tk : L2N.Takes X Wout)
    (hb : ∀ (W : WX) (pn : List (Addr × Obj)) (xe : Value → Shared → Prop), L2N.Takes (X.tr pn xe) W → PassesOwn (model X.prog X.w) X.A X.env xe → PSs (X.tr pn xe) body (tb W))
    (hsu : ∀ (a : Addr) (oe : Obj) (cls : Value) (d : Option Addr) (pn : List (Addr × Obj)), L2N.Zn cls d oe → (∃ vs, oe.data = .fields vs) → PSs (X.suite a ((a, oe) :: pn)) (b₀ :: suite) (ts a cls d)) (e : X.K = K := by rfl) :
    PS X (.Try body [.ExceptHandler (some (.Name x np)) (some n) (b₀ :: suite) pos'] [] [] pos) (tTry K c i tb ts Wout) := by subst e; exact L2N.ps_try_as hs hf hN hi hln hc tk hb hsu
/-- the way into the suite -/
theorem g_caught {K : PySem.W.Frag} {c cls : Value} {i : Nat} {ts : Addr → Value → Option Addr → TS} {Wout : WX} {D : Ends} {d : Option Addr} {σ : L2.St} {H : Hp} (m : PySem.W.exmOne K cls c = some true)
    (q : ∀ a, H a = none → ts a cls d { nx := fun σ' H' => D.nx (σ'.set i none) H', rt := D.rt, bk := fun σ' H' => D.bk (σ'.set i none) H', ct := fun σ' H' => D.ct (σ'.set i none) H' } (σ.set i (some (.ref a))) H) : wAs K c i ts Wout D cls d σ H :=
  ⟨true, m, fun _ => q, fun z => by cases z⟩
theorem g_try {K : PySem.W.Frag} {c : Value} {i : Nat} {tb : WX → TS} {ts : Addr → Value → Option Addr → TS} {Wout : WX} {D : Ends} {σ : L2.St} {H : Hp} (q : tb (wAs K c i ts Wout D) D σ H) : tTry K c i tb ts Wout D σ H := q
theorem g_callS {sp : Sp} {E : L2.St → XK} {t : TA} {σ : L2.St} {H : Hp} {Q : VK} (q : t σ H fun vs H1 => sp vs H1 Q (E σ)) : tCallS sp E t σ H Q := q
theorem upd_over {H : Hp} {dx a : Addr} {e1 e2 x : HO} (ne : dx ≠ a) : upd (upd (upd H dx e1) a x) dx e2 = upd (upd H dx e2) a x := by
  funext b
  by_cases h1 : b = dx
  · subst h1
    rw [upd_same, upd_ne ne, upd_same]
  · rw [upd_ne h1]
    by_cases h2 : b = a
    · subst h2
      rw [upd_same, upd_same]
    · rw [upd_ne h2, upd_ne h2, upd_ne h1, upd_ne h1]
/-- __init__ that keeps each argument in a field of its name -/
def sp_oinit (C : Addr) (names : List Str) : Sp := fun vs H Q _ => ∃ (a : Addr) (ws : List V), vs = .ref a :: ws ∧ ws.length = names.length ∧ H a = some (exo a C none) ∧
  ∀ dx, H dx = none → dx ≠ a → Q .non (upd (upd H dx (exd dx (names.zip ws).reverse)) a (exo a C (some dx)))
theorem sp_oinit_len {C : Addr} {names : List Str} {vs H Q E} (h : sp_oinit C names vs H Q E) : vs.length = names.length + 1 := by
  obtain ⟨a, ws, rfl, hl, _⟩ := h
  rw [List.length_cons, hl]
theorem g_mk {C : Addr} {names : List Str} {vs : List V} {F H : Hp} {O : Own} {Q : XK} (hl : vs.length = names.length) (hs : names.length ≤ 1000) (hH : Has F O H) (q : ∀ d H', H d = none → Has F ((d, .xd (names.zip vs).reverse) :: O) H' → Q (.ref C) (some d) H') : kMk C (sp_oinit C names) vs H Q := by
  refine ⟨by omega, fun a n => ⟨a, vs ++ [], rfl, by rw [List.append_nil]; exact hl, upd_same, fun dx n1 ne => ⟨rfl, dx, (names.zip vs).reverse, upd_same, ?_, ?_, ?_⟩⟩⟩
  · rw [upd_ne ne, upd_same, List.append_nil]
  · rw [upd_ne ne] at n1
    exact n1
  · rw [upd_ne ne] at n1
    have e : upd (del (upd (upd (upd H a (exo a C none)) dx (exd dx (names.zip (vs ++ [])).reverse)) a (exo a C (some dx))) a) dx (.xd (names.zip vs).reverse) = upd H dx (.xd (names.zip vs).reverse) := by
      funext b
      by_cases h1 : b = dx
      · subst h1
        rw [upd_same, upd_same]
      · rw [upd_ne h1, upd_ne h1]
        by_cases h2 : b = a
        · subst h2
          rw [del_same, n]
        · rw [del_ne h2, upd_ne h2, upd_ne h1, upd_ne h2]
    rw [e]
    exact q dx _ n1 (hH.new n1)
structure IsC (K : PySem.W.Frag) (D : Addr) : Prop where
  cl : (PySem.W.clsIn K D).isSome = true
  hg : PySem.W.findIn K (.ref D) "__getattribute__" = some (some (.builtin "BaseException.__getattribute__"))
  hk : PySem.W.findIn K (.ref D) "__getattr__" = some none
  hs : PySem.W.subIn K (.ref D) (.type "BaseException") = some true
  hd : PySem.W.hasDictIn K D = true
  ha : PySem.W.findIn K (.ref D) "__class__" = some (some (.builtin "object.__class__"))
  hn : PySem.W.specialIn K (.builtin "object.__class__") "__get__" = some (some (.builtin "getset_descriptor.__get__"))
  ht : PySem.W.takesIn K (.builtin "object.__class__") = some true
  hm : PySem.W.mroIn K D (.type "object") = some true
/-- isinstance(e, c) for the caught e: a is where it stands -/
def rIsX (K : PySem.W.Frag) (a : Addr) (cls : Value) (d : Option Addr) : List V → Hp → VK → Prop := fun xs H Q => ∃ (D : Addr) (c : V) (cv : Value) (b : Bool), cls = .ref D ∧ IsC K D ∧ (d = none ∨ ∃ dd fs, d = some dd ∧ H dd = some (.xd fs)) ∧ xs = [.ref a, c] ∧ (∀ u, RelV c u → u = cv) ∧ PySem.W.kitOne K (.ref D) cv = some b ∧ Q (.bl b) H
def rIsY (K : PySem.W.Frag) (a : Addr) (cls : Value) (d : Option Addr) : List V → Hp → VK → Prop := fun xs H Q => rIsX K a cls d xs H Q ∨ rIsA K xs H Q
/-- e.f for the caught e -/
def tXfA (K : PySem.W.Frag) (a : Addr) (cls : Value) (d : Option Addr) (f : Str) (te : TE) : TE := fun σ H Q => te σ H fun x H1 => x = .ref a ∧ ∃ (C dd : Addr) (fs : List (Str × V)) (v : V), cls = .ref C ∧ XfC K C ∧ PySem.W.findIn K (.ref C) f = some none ∧ d = some dd ∧ H1 dd = some (.xd fs) ∧ fs.lookup f = some v ∧ Q v H1
theorem pe_xfA {X : Cx} {a : Addr} {oe : Obj} {cls : Value} {d : Option Addr} {pn : List (Addr × Obj)} {e : Expr} {te : TE} {pos : Pos} {n : Str} (K : PySem.W.Frag) (hz : L2.Zc cls d oe) (hf : ∃ vs, oe.data = .fields vs) (he : PE (X.suite a ((a, oe) :: pn)) e te) (ek : X.K = K := by rfl) (hb : attributeBase e n X.env (eval e X.env) = eval e X.env := by rfl) :
    PE (X.suite a ((a, oe) :: pn)) (.Attribute e n pos) (tXfA K a cls d n te) := by
  subst ek
  refine ⟨fun pins s σ H Q I h => ?_⟩
  refine attr_of hb (thn (he.run pins s σ H _ I h) fun u s1 hh => ?_)
  obtain ⟨x, H1, I1, rx, ex, C, dd, fs, v, ec, T, hno, ed, ea, l, q⟩ := hh
  subst ex
  obtain rfl : u = Value.ref a := rx
  subst ec
  subst ed
  obtain ⟨ha, _⟩ := I1.pin (a, oe) (List.mem_append_left _ List.mem_cons_self)
  obtain ⟨vs, hd⟩ := hf
  have hx : ObjOk X.prog X.w H1 s1.heap dd (.xd fs) := I1.hok dd _ ea
  obtain ⟨mA, hns, hr⟩ := hx
  obtain ⟨od, ho, hl⟩ := lookIn_ns hns
  obtain ⟨u, hu, ru⟩ := RelO.some_of (v := v) (o := mA n) (by rw [← l]; exact hr n)
  have J : PySem.W.InstAt s1.heap a oe C (some od) := ⟨ha, hz.1, by unfold PySem.W.notCls; rw [hd] <;> rfl, by rw [hz.2]; exact ho⟩
  exact HandSPX.exc_get I1.kIn J T.ga T.gg T.exC (PySem.W.findObj_own T.hdC hno rfl (by rw [hl, hu])) (handed_of ru) ⟨v, H1, I1.tok _, ru, q⟩
def kXf (K : PySem.W.Frag) (a : Addr) (cls : Value) (d : Option Addr) (f : Str) (x : V) (H1 : Hp) (Q : VK) : Prop := x = .ref a ∧ ∃ (C dd : Addr) (fs : List (Str × V)) (v : V), cls = .ref C ∧ XfC K C ∧ PySem.W.findIn K (.ref C) f = some none ∧ d = some dd ∧ H1 dd = some (.xd fs) ∧ fs.lookup f = some v ∧ Q v H1
theorem g_xf {K : PySem.W.Frag} {a : Addr} {cls : Value} {d : Option Addr} {f : Str} {te : TE} {σ : L2.St} {H : Hp} {Q : VK} (q : te σ H fun x H1 => kXf K a cls d f x H1 Q) : tXfA K a cls d f te σ H Q := q
theorem g_kxf {K : PySem.W.Frag} {a C dd : Addr} {f : Str} {fs : List (Str × V)} {v : V} {H : Hp} {Q : VK} (X : XfC K C) (n : PySem.W.findIn K (.ref C) f = some none) (hd : H dd = some (.xd fs)) (l : fs.lookup f = some v) (q : Q v H) : kXf K a (.ref C) (some dd) f (.ref a) H Q :=
  ⟨rfl, C, dd, fs, v, rfl, X, n, rfl, hd, l, q⟩
theorem g_isX {K : PySem.W.Frag} {a D C dd : Addr} {fs : List (Str × V)} {b : Bool} {H : Hp} {Q : VK} (I : IsC K D) (hd : H dd = some (.xd fs)) (k : PySem.W.kitOne K (.ref D) (.ref C) = some b) (q : Q (.bl b) H) : rIsY K a (.ref D) (some dd) [.ref a, .ref C] H Q :=
  .inl ⟨D, .ref C, .ref C, b, rfl, I, .inr ⟨dd, fs, rfl, hd⟩, rfl, fun u r => r, k, q⟩
theorem g_isXT {K : PySem.W.Frag} {a D dd : Addr} {n : String} {fs : List (Str × V)} {b : Bool} {H : Hp} {Q : VK} (I : IsC K D) (hd : H dd = some (.xd fs)) (k : PySem.W.kitOne K (.ref D) (.type n) = some b) (q : Q (.bl b) H) : rIsY K a (.ref D) (some dd) [.ref a, .ty n] H Q :=
  .inl ⟨D, .ty n, .type n, b, rfl, I, .inr ⟨dd, fs, rfl, hd⟩, rfl, fun u r => r, k, q⟩
theorem exm_own {K : PySem.W.Frag} {C : Addr} {cls : Value} {b : Bool} (h1 : PySem.W.subIn K (.ref C) (.type "BaseException") = some true) (hc : PySem.W.isClsIn K C = true) (ht : PySem.W.typeIn K (.ref C) = some (.type "type")) (h4 : PySem.W.subIn K cls (.ref C) = some b) : PySem.W.exmOne K cls (.ref C) = some b := by
  have hc' : (PySem.W.clsIn K C).isSome = true := hc
  have e1 : (PySem.W.subIn K (.ref C) (.type "BaseException") == some true) = true := by rw [h1] <;> rfl
  have e2 : ((PySem.W.clsIn K C).isSome && PySem.W.typeIn K (.ref C) == some (.type "type")) = true := by rw [hc', ht] <;> rfl
  show (if (PySem.W.subIn K (.ref C) (.type "BaseException") == some true) = true then (if ((PySem.W.clsIn K C).isSome && PySem.W.typeIn K (.ref C) == some (.type "type")) = true then PySem.W.subIn K cls (.ref C) else none) else none) = some b
  rw [if_pos e1, if_pos e2]
  exact h4
theorem kit_own {K : PySem.W.Frag} {D C : Addr} {b : Bool} (hs : PySem.W.subIn K (.ref D) (.ref D) = some true) (h4 : PySem.W.subIn K (.ref D) (.ref C) = some b) (hc : PySem.W.isClsIn K C = true) (ht : PySem.W.typeIn K (.ref C) = some (.type "type")) : PySem.W.kitOne K (.ref D) (.ref C) = some b := by
  have hc' : (PySem.W.clsIn K C).isSome = true := hc
  unfold PySem.W.kitOne
  by_cases e : (Value.ref D == Value.ref C) = true
  · rw [if_pos e]
    have e2 : D = C := Value.ref.inj (beq_iff_eq.mp e)
    subst e2
    rw [hs] at h4
    exact h4
  · rw [if_neg e]
    have e2 : ((PySem.W.clsIn K C).isSome && PySem.W.typeIn K (.ref C) == some (.type "type")) = true := by rw [hc', ht] <;> rfl
    show (if ((PySem.W.clsIn K C).isSome && PySem.W.typeIn K (.ref C) == some (.type "type")) = true then PySem.W.subIn K (.ref D) (.ref C) else none) = some b
    rw [if_pos e2]
    exact h4
theorem kit_ve {K : PySem.W.Frag} {D : Addr} (h : PySem.W.subIn K (.ref D) (.type "ValueError") = some true) : PySem.W.kitOne K (.ref D) (.type "ValueError") = some true := by
  have e : ¬ (Value.ref D == Value.type "ValueError") = true := by
    intro z
    cases (beq_iff_eq.mp z)
  unfold PySem.W.kitOne
  rw [if_neg e]
  show (if PySem.W.kitMeta "ValueError" = true then PySem.W.subIn K (.ref D) (.type "ValueError") else none) = some true
  rw [if_pos (by decide +kernel)]
  exact h
section
variable {X : Cx} {K : PySem.W.Frag} {σ : L2.St} {F : Hp} {O O' : Own} {H : Hp} {Q : VK} {ta te tv : TE} {x y v : V} {D : Ends}
theorem k_fld {ex : Expr} {f : Str} (K : PySem.W.Frag) (h : PE X ex (tFld X.K te f)) (e : X.K = K := by rfl) : PE X ex (tFld K te f) := by subst e; exact h
def kFld (K : PySem.W.Frag) (f : Str) (x : V) (H1 : Hp) (Q : VK) : Prop := ∃ a C dx fs v, x = .ref a ∧ H1 a = some (.ins C dx fs) ∧ Cls K C ∧ NoAttr K C f ∧ fs.lookup f = some v ∧ Q v H1
theorem g_fld {f : Str} (q : te σ H fun x H1 => kFld K f x H1 Q) : tFld K te f σ H Q := q
theorem g_kfld {a C dx : Addr} {fs : List (Str × V)} {f : Str} (h : H a = some (.ins C dx fs)) (c : Cls K C) (n : NoAttr K C f) (l : fs.lookup f = some v) (q : Q v H) : kFld K f (.ref a) H Q := ⟨a, C, dx, fs, v, rfl, h, c, n, l, q⟩
theorem k_sfld {st : Stmt} {f : Str} (K : PySem.W.Frag) (h : PS X st (sFld X.K ta tv f)) (e : X.K = K := by rfl) : PS X st (sFld K ta tv f) := by subst e; exact h
def kSFld (K : PySem.W.Frag) (f : Str) (x y : V) (D : Ends) (σ : L2.St) (H2 : Hp) : Prop := ∃ a C dx fs, x = .ref a ∧ H2 a = some (.ins C dx fs) ∧ Cls K C ∧ NoAttr K C f ∧ fs.length < 1000 ∧ D.nx σ (upd H2 a (.ins C dx (putF f y fs)))
theorem g_sfld {f : Str} (q : tv σ H fun y H1 => ta σ H1 fun x H2 => kSFld K f x y D σ H2) : sFld K ta tv f D σ H := q
theorem g_ksfld {a C dx : Addr} {fs fs' : List (Str × V)} {f : Str} (hH : Has F O H) (c : Chg O a (.ins C dx fs) (.ins C dx fs') O') (e : putF f y fs = fs') (cl : Cls K C) (n : NoAttr K C f) (hl : fs.length < 1000) (q : ∀ H', Has F O' H' → D.nx σ H') : kSFld K f (.ref a) y D σ H := by
  subst e
  exact ⟨a, C, dx, fs, rfl, hH.get c.mem, cl, n, hl, q _ (hH.put c)⟩
/-- o.m(..), what is let out told at the slots -/
def tMethS (C : Addr) (m : Str) (sp : Sp) (E : L2.St → XK) (ta : TE) (t : TA) : TE := fun σ H Q => ta σ H fun x H1 => ∃ a dx fs, x = .ref a ∧ H1 a = some (.ins C dx fs) ∧ fs.lookup m = none ∧ t σ H1 fun vs H2 => sp (x :: vs) H2 Q (E σ)
def kMeth (C : Addr) (m : Str) (sp : Sp) (E : L2.St → XK) (t : TA) (σ : L2.St) (x : V) (H1 : Hp) (Q : VK) : Prop := ∃ a dx fs, x = .ref a ∧ H1 a = some (.ins C dx fs) ∧ fs.lookup m = none ∧ t σ H1 fun vs H2 => sp (x :: vs) H2 Q (E σ)
theorem g_meth {C : Addr} {m : Str} {sp : Sp} {E : L2.St → XK} {t : TA} (q : ta σ H fun x H1 => kMeth C m sp E t σ x H1 Q) : tMethS C m sp E ta t σ H Q := q
theorem g_kmeth {C : Addr} {m : Str} {sp : Sp} {E : L2.St → XK} {t : TA} {a dx : Addr} {fs : List (Str × V)} (h : H a = some (.ins C dx fs)) (l : fs.lookup m = none) (q : t σ H fun vs H2 => sp (.ref a :: vs) H2 Q (E σ)) : kMeth C m sp E t σ (.ref a) H Q := ⟨a, dx, fs, rfl, h, l, q⟩
variable {CX : CXT} {k : Nat} {f C : Addr} {fd : FuncData} {ps : List Str} {sp : Sp} {E : L2.St → XK} {m : Str} {pos apos : Pos} {e o : Expr} {es : List Expr} {t : TA}
theorem pe_methW {pl : Sem Bool} (ho : PE X o ta) (cl : Cls X.K C) (me : Meth X.K C m f) (G : FnOk X.prog X.w X.K X.mg X.base CX k f fd ps sp) (room : Room k X.A) (bd : Binds X.K fd ps []) (pass : ∀ σ, PassesAt CX X σ (E σ)) (args : PA X (e :: es) t)
    (star : starEach (e :: es) X.env = (false, eval e X.env) :: starEach es X.env := by rfl) (plain : (backTo pos (starEach es X.env)).any (·.1) = false := by rfl)
    (tree : eval (.Call (.Attribute o m apos) (e :: es) [] pos) X.env = (do
      let ov ← eval o X.env
      standAt apos.atName
      let (f, first) ← holding [ov] (getMethod ov m pl)
      callWith pos f first (backTo pos (starEach (e :: es) X.env)) (backToKw pos (keywordEach [] X.env))) := by rfl) :
    PE X (.Call (.Attribute o m apos) (e :: es) [] pos) (tMethS C m sp E ta t) := ⟨fun pins s σ H Q I h => by
  refine PySem.W.methodCall_KW (pl := pl) (thn (ho.run pins s σ H _ I h) fun u s1 hu => ?_) tree
  obtain ⟨x, H1, J, rx, a, dx, fs, rfl, there, none_, go⟩ := hu
  cases (show u = Value.ref a from rx)
  refine getmeth_ok J there cl me none_ (PySem.W.callWith_K (first := [.ref a]) (h₀ := X.base) I.ok.mod.kin me.kp (thn (args.run pos pins s1 σ H1 _ J go) fun us s2 hs => ?_) star plain)
  obtain ⟨vs, H2, J2, rel, pr⟩ := hs
  exact ⟨J2.kIn, run_fnS (us := .ref a :: us) (vs := .ref a :: vs) G room bd (pass σ) J2 (.cons rfl rel) pr⟩⟩
theorem pe_methW0 {pl : Sem Bool} (ho : PE X o ta) (cl : Cls X.K C) (me : Meth X.K C m f) (G : FnOk X.prog X.w X.K X.mg X.base CX k f fd ps sp) (room : Room k X.A) (bd : Binds X.K fd ps []) (pass : ∀ σ, PassesAt CX X σ (E σ))
    (tree : eval (.Call (.Attribute o m apos) [] [] pos) X.env = (do
      let ov ← eval o X.env
      standAt apos.atName
      let (f, first) ← holding [ov] (getMethod ov m pl)
      callWith pos f first (backTo pos (starEach [] X.env)) (backToKw pos (keywordEach [] X.env))) := by rfl) :
    PE X (.Call (.Attribute o m apos) [] [] pos) (tMethS C m sp E ta tNil) := ⟨fun pins s σ H Q I h => by
  refine PySem.W.methodCall_KW (pl := pl) (thn (ho.run pins s σ H _ I h) fun u s1 hu => ?_) tree
  obtain ⟨x, H1, J, rx, a, dx, fs, rfl, there, none_, go⟩ := hu
  cases (show u = Value.ref a from rx)
  exact getmeth_ok J there cl me none_ (PySem.W.callWith_K0 (first := [.ref a]) J.kIn me.kp (run_fnS (us := [.ref a]) (vs := [.ref a]) G room bd (pass σ) J (.cons rfl .nil) go))⟩
theorem pass0S {X : Cx} {E : L2.St → XK} : ∀ σ, PassesAt CX0 X σ (E σ) := fun _ _ _ _ _ _ _ h => h.elim
theorem passNS {X : Cx} : ∀ σ, PassesAt (L2N.CX X.prog X.w) X σ ((fun _ => E0) σ) := fun _ _ _ _ _ _ _ h => by
  obtain ⟨_, _, _, _, _, _, _, _, _, _, _, _, z⟩ := h
  exact z.elim
/-- C(..) -/
def kMake (C : Addr) (sp : Sp) (E : XK) (vs : List V) (H1 : Hp) (Q : VK) : Prop := ∀ x dx, H1 x = none → H1 dx = none → dx ≠ x → sp (.ref x :: (vs ++ [])) (upd (upd H1 dx (.own x)) x (.ins C dx [])) (fun v H2 => v = .non ∧ Q (.ref x) H2) E
theorem g_make {E : XK} (q : t σ H fun vs H1 => kMake C sp E vs H1 Q) : tMake C sp [] E t σ H Q := q
theorem g_kmake {E : XK} {vs : List V} (hH : Has F O H) (q : ∀ x dx H', H x = none → Has F ((x, .ins C dx []) :: (dx, .own x) :: O) H' → sp (.ref x :: vs) H' (fun v H2 => v = .non ∧ Q (.ref x) H2) E) : kMake C sp E vs H Q := by
  intro x dx nx nd ne
  rw [List.append_nil]
  refine q x dx _ nx ((hH.new nd).new (by rw [upd_ne (Ne.symm ne)]; exact nx))
/-- del d[k] -/
def kDel (x y : V) (D : Ends) (σ : L2.St) (H2 : Hp) : Prop := ∃ a kvs k, x = .ref a ∧ H2 a = some (.dK kvs) ∧ y = kV k ∧ (valV kvs k).isSome = true ∧ D.nx σ (upd H2 a (.dK (dropK kvs k)))
end
section
variable {X : Cx} {K : PySem.W.Frag} {σ : L2.St} {F : Hp} {O O' : Own} {H : Hp} {Q : VK} {td ty : TE} {D : Ends}
theorem g_del (q : td σ H fun x H1 => ty σ H1 fun y H2 => kDel x y D σ H2) : sDDel td ty D σ H := q
theorem g_dnewK (hH : Has F O H) (q : ∀ p H', H p = none → Has F ((p, .dK []) :: O) H' → Q (.ref p) H') : tDNewK σ H Q := fun p n => q p _ n (hH.new n)
def rSortA (K : PySem.W.Frag) : List V → Hp → VK → Prop := fun vs H Q => (rSorted K vs H Q ∨ rSortedS K vs H Q) ∨
  (∃ (a : Addr) (kvs : List (Key × V)) (ks : List Str), vs = [.ref a] ∧ Rd H a (.dK kvs) ∧ kvs.map (·.1) = ks.map Sum.inr ∧ ks.length < 64 ∧ ∀ ys p, ys.Perm ks → sortedS ys = true → H p = none → Q (.ref p) (upd H p (.lst (ys.map V.str)))) ∨
  (∃ (a : Addr) (kvs : List (Key × V)) (ks : List Int), vs = [.ref a] ∧ Rd H a (.dK kvs) ∧ kvs.map (·.1) = ks.map Sum.inl ∧ ks.length < 64 ∧ ∀ (ys : List Int) (p : Addr), ys.Perm ks → ys.Pairwise (· ≤ ·) → H p = none → Q (.ref p) (upd H p (.lst (ys.map V.int))))
theorem cr_sortA (K : PySem.W.Frag) (hc : X.calm = true) (e : X.K = K := by rfl) : CallR X (.builtin "sorted") (rSortA K) := by
  subst e
  intro pins s σ H xs us Q I r h
  rcases h with (h | h) | h | h
  · exact cr_sorted pins s σ H xs us Q I r h
  · exact cr_sortedS pins s σ H xs us Q I r h
  · exact call_sortedD hc pins s σ H xs us Q I r h
  · exact call_sortedDI hc pins s σ H xs us Q I r h
theorem g_sortS {a : Addr} {ns : List Str} (h : H a = some (.lst (ns.map V.str))) (l : ns.length < 64) (hH : Has F O H) (q : ∀ (ys : List Str) p H', ys.Perm ns → sortedS ys = true → H p = none → Has F ((p, .lst (ys.map V.str)) :: O) H' → Q (.ref p) H') : rSortA K [.ref a] H Q :=
  .inl (.inr ⟨a, ns, rfl, SqL.of h, l, fun ys p e s n => q ys p _ e s n (hH.new n)⟩)
theorem g_sortDS {a : Addr} {kvs : List (Key × V)} {ks : List Str} (h : H a = some (.dK kvs)) (e : kvs.map (·.1) = ks.map Sum.inr) (l : ks.length < 64) (hH : Has F O H) (q : ∀ (ys : List Str) p H', ys.Perm ks → sortedS ys = true → H p = none → Has F ((p, .lst (ys.map V.str)) :: O) H' → Q (.ref p) H') : rSortA K [.ref a] H Q :=
  .inr (.inl ⟨a, kvs, ks, rfl, .inl h, e, l, fun ys p e s n => q ys p _ e s n (hH.new n)⟩)
end
section
variable {F F1 F' H H' H1 : Hp} {A A' R : Own}
def ButA (A : Own) (H H' : Hp) : Prop := ∀ b u, b ∉ A.map (·.1) → H b = some u → H' b = some u
theorem Has.grownA (h : Has F (A ++ R) H) (hb : ButA A H H') (g : Grow F H F') (hA : Has F' A' H') (ea : ∀ q ∈ A', q.1 ∈ A.map (·.1) ∨ H q.1 = none) : Has F' (A' ++ R) H' := by
  have nd := h.nd
  rw [List.map_append, List.nodup_append] at nd
  refine ⟨hA.same, fun q hq => ?_, ?_⟩
  · rcases List.mem_append.mp hq with hq | hq
    · exact hA.own q hq
    · obtain ⟨f0, h0⟩ := h.own q (List.mem_append_right _ hq)
      refine ⟨by rw [g.2 _ (by rw [h0]; exact fun z => by cases z)]; exact f0, hb _ _ (fun m => ?_) h0⟩
      exact nd.2.2 _ m _ (List.mem_map.mpr ⟨q, hq, rfl⟩) rfl
  · rw [List.map_append, List.nodup_append]
    refine ⟨hA.nd, nd.2.1, fun x hx y hy e => ?_⟩
    obtain ⟨q, hq, rfl⟩ := List.mem_map.mp hx
    obtain ⟨r, hr, rfl⟩ := List.mem_map.mp hy
    rcases ea q hq with m | n
    · exact nd.2.2 _ m _ (List.mem_map.mpr ⟨r, hr, rfl⟩) e
    · rw [e, (h.own r (List.mem_append_right _ hr)).2] at n
      cases n
theorem Grow.refl : Grow F H F := ⟨Same.refl F, fun _ _ => rfl⟩
/-- what stands still: of old what stood still, of new what stands still now -/
def mixF (F H F1 : Hp) : Hp := fun b => match H b with
  | none => F1 b
  | some _ => F b
theorem mix_at {b : Addr} (n : H b = none) : mixF F H F1 b = F1 b := by
  unfold mixF
  rw [n]
theorem mix_old {b : Addr} (n : H b ≠ none) : mixF F H F1 b = F b := by
  unfold mixF
  cases e : H b with
  | none => exact (n e).elim
  | some u => rfl
theorem mix_grow (h : Has F A H) (s : Same (rmO A H) F1) : Grow F H (mixF F H F1) := by
  refine ⟨fun b u e => ?_, fun b n => mix_old n⟩
  rw [mix_old (by rw [h.same _ _ e]; exact fun z => by cases z)]
  exact e
theorem mix_but (h : Has F A H) (s : Same (rmO A H) F1) (h1 : Has F1 A' H1) : ButA A H H1 := fun b u n e => h1.same _ _ (s _ _ (by
  unfold rmO
  rw [if_neg n]
  exact e))
theorem mix_has (h : Has F A H) (s : Same (rmO A H) F1) (h1 : Has F1 A' H1) (ea : ∀ q ∈ A', q.1 ∈ A.map (·.1) ∨ H q.1 = none) : Has (mixF F H F1) A' H1 := by
  refine ⟨fun b u e => ?_, fun q hq => ⟨?_, (h1.own q hq).2⟩, h1.nd⟩
  · cases eh : H b with
    | none =>
      rw [mix_at eh] at e
      exact h1.same _ _ e
    | some o =>
      rw [mix_old (by rw [eh]; exact fun z => by cases z)] at e
      have := h.same _ _ e
      refine mix_but h s h1 b u (fun m => ?_) this
      obtain ⟨q, hq, rfl⟩ := List.mem_map.mp m
      rw [(h.own q hq).1] at e
      cases e
  · rcases ea q hq with m | n
    · obtain ⟨p, hp, e⟩ := List.mem_map.mp m
      have o := h.own p hp
      rw [← e, mix_old (by rw [o.2]; exact fun z => by cases z)]
      exact o.1
    · rw [mix_at n]
      exact (h1.own q hq).1
end
/-- what is new now was new then -/
theorem newp {F F1 H H1 : Hp} {A O1 : Own} {p : Addr} (h : Has F A H) (hb : ButA A H H1) (h1 : Has F1 O1 H1) (ea : ∀ q ∈ A, q.1 ∈ O1.map (·.1)) (n : H1 p = none) : H p = none := by
  cases e : H p with
  | none => rfl
  | some u =>
    by_cases m : p ∈ A.map (·.1)
    · obtain ⟨q, hq, rfl⟩ := List.mem_map.mp m
      obtain ⟨x, hx, ex⟩ := List.mem_map.mp (ea q hq)
      have := (h1.own x hx).2
      rw [ex, n] at this
      cases this
    · rw [hb p u m e] at n
      cases n
end Qk
namespace Qk
open PySem PySem.Spec PyProof.Rows L2
/-- the keys of a list as values -/
theorem keys_vals {P : Program} {w : World} : ∀ {ks : List Key} {us : List Value}, Vals (ks.map kV) us → ∀ (i : Nat) (v : Value), us[i]? = some v → ∃ k, ks[i]? = some k ∧ (mixKind P w).is k v = true ∧ v.scannable = true
  | [], _, .nil, i, v, e => by simp at e
  | k :: ks, _, .cons r t, 0, v, e => by
    simp at e
    subst e
    exact ⟨k, rfl, kV_is r, key_scan r⟩
  | k :: ks, _, .cons r t, i + 1, v, e => by
    simp only [List.getElem?_cons_succ] at e ⊢
    exact keys_vals t i v e
end Qk
namespace Qk
open PySem PySem.Spec PyProof.Rows L2
def rInM (K : PySem.W.Frag) (P : Program) (w : World) : R2 := fun x y H Q => rInA K x y H Q ∨ rSInK P w false x y H Q
def rNotInM (K : PySem.W.Frag) (P : Program) (w : World) : R2 := fun x y H Q => rNotInA K x y H Q ∨ rSInK P w true x y H Q
section
variable {X : Cx}
theorem op_inM (K : PySem.W.Frag) (P : Program) (w : World) (hu : X.A.units + 64 < cLine) (hu' : X.A.units + 65 < cLine) (e : X.K = K := by rfl) (eP : X.prog = P := by rfl) (ew : X.w = w := by rfl) : OpR X (compareOp .In) (rInM K P w) := by
  subst e
  subst eP
  subst ew
  intro pins s σ H x y v u Q I rx ry h
  rcases h with h | h
  · exact op_inA hu hu' pins s σ H x y v u Q I rx ry h
  · exact or_sinK pins s σ H x y v u Q I rx ry h
theorem op_notinM (K : PySem.W.Frag) (P : Program) (w : World) (hu : X.A.units + 64 < cLine) (hu' : X.A.units + 65 < cLine) (e : X.K = K := by rfl) (eP : X.prog = P := by rfl) (ew : X.w = w := by rfl) : OpR X (compareOp .NotIn) (rNotInM K P w) := by
  subst e
  subst eP
  subst ew
  intro pins s σ H x y v u Q I rx ry h
  rcases h with h | h
  · exact op_notinA hu hu' pins s σ H x y v u Q I rx ry h
  · exact or_snotinK pins s σ H x y v u Q I rx ry h
/-- slices of lists, tuples, texts -/
def rSlM (K : PySem.W.Frag) : V → Option Int → Option Int → Hp → VK → Prop := fun x lo hi H Q => rSlB K x lo hi H Q ∨ rSlS x lo hi H Q
theorem sl_M (K : PySem.W.Frag) (e : X.K = K := by rfl) : SlR X (rSlM K) := by
  subst e
  intro pins s σ H x v vl vu lo hi sl Q I rx hs pl pu h
  rcases h with h | h
  · exact sl_all pins s σ H x v vl vu lo hi sl Q I rx hs pl pu h
  · exact sl_str pins s σ H x v vl vu lo hi sl Q I rx hs pl pu h
end
section
variable {K : PySem.W.Frag} {P : Program} {w : World} {σ : L2.St} {F : Hp} {O O' : Own} {H : Hp} {Q : VK} {x y v : V} {te ta tk tv : TE} {D : Ends} {ts : TS} {g : TG}
theorem g_inM (q : rInA K x y H Q) : rInM K P w x y H Q := .inl q
theorem g_notinM (q : rNotInA K x y H Q) : rNotInM K P w x y H Q := .inl q
theorem g_notinC {c : Nat} {z : Str} (q : Q (.bl (!decide (c ∈ z.cps.toList))) H) : rNotInA K (.str ⟨#[c]⟩) (.str z) H Q := .inr (.inl ⟨_, _, rfl, rfl, by rw [PySem.StrLaws.found_one z c]; exact q⟩)
theorem g_slM {lo hi : Option Int} (q : rSlB K x lo hi H Q) : rSlM K x lo hi H Q := .inl q
def kForS (g : TG) (tb : TS) (D : Ends) (σ : L2.St) (x : V) (H : Hp) : Prop := ∃ z, x = .str z ∧ kW (Its z) g tb D σ H
theorem g_forS (q : te σ H fun x H1 => kForS g ts D σ x H1) : tFor (iStr te) g ts D σ H := q
theorem k_forS {z : Str} (Pv : Nat → L2.St → Hp → Prop) (h0 : Pv 0 σ H)
    (hs : ∀ i c σ H, z.cps[i]? = some c → Pv i σ H → g (.str ⟨#[c]⟩) σ H fun σ2 H2 => ts { D with nx := Pv (i + 1), ct := Pv (i + 1), bk := D.nx } σ2 H2) (hd : ∀ σ H, Pv z.length σ H → D.nx σ H) : kForS g ts D σ (.str z) H := by
  refine ⟨z, rfl, fun i m σ H => m = z.length - i ∧ i ≤ z.length ∧ Pv i σ H, ⟨z.length, rfl, Nat.zero_le _, h0⟩, ?_⟩
  rintro i m σ H ⟨rfl, hi, p⟩
  by_cases hlt : i < z.length
  · refine .inr ⟨hlt, Pv (i + 1), fun σ' H' p' => ⟨z.length - (i + 1), by omega, rfl, hlt, p'⟩, fun x H' y => ?_⟩
    obtain ⟨e, c, hc, rfl⟩ := y
    subst e
    exact hs i c σ _ hc p
  · have e : i = z.length := by omega
    subst e
    exact .inl ⟨Nat.le_refl _, hd σ H p⟩
def kDisp1 (p : Addr) (x y : V) (H : Hp) (Q : VK) : Prop := H p = some (.dK []) ∧ ∃ kvs : List (Key × V), [(x, y)] = kvs.map (fun kv => (kV kv.1, kv.2)) ∧ kvs.length ≤ 15 ∧ Q (.ref p) (upd H p (.dK (mergeK [] kvs)))
theorem g_disp1 (hH : Has F O H) (q : ∀ p H1, H p = none → Has F ((p, .dK []) :: O) H1 → tk σ H1 fun x H2 => tv σ H2 fun y H3 => kDisp1 p x y H3 Q) : tDisp [(tk, tv)] σ H Q := fun p n => q p _ n (hH.new n)
theorem g_kdisp1 {p : Addr} {z : V} {k : Key} (h : Has F ((p, .dK []) :: O) H) (ez : z = kV k) (q : ∀ H', Has F ((p, .dK [(k, y)]) :: O) H' → Q (.ref p) H') : kDisp1 p z y H Q := by
  subst ez
  exact ⟨h.get (List.Mem.head _), [(k, y)], rfl, Nat.succ_le_succ (Nat.zero_le _), q _ (h.put .hd)⟩
def rStrI : List V → Hp → VK → Prop := fun xs H Q => ∃ i : Int, xs = [.int i] ∧ i.natAbs.log2 < 1920 ∧ Q (.str (toString i)) H
theorem cr_strI {X : Cx} : CallR X (.type "str") rStrI := call_str_int
theorem g_strI {i : Int} (h : i.natAbs.log2 < 1920) (q : Q (.str (toString i)) H) : rStrI [.int i] H Q := ⟨i, rfl, h, q⟩
def kM0 (r : V → List V → Hp → VK → Prop) (x : V) (H : Hp) (Q : VK) : Prop := (∃ a, x = .str a) ∧ r x [] H Q
theorem g_m0 {r : V → List V → Hp → VK → Prop} (q : ta σ H fun x H1 => kM0 r x H1 Q) : tM0 r ta σ H Q := q
theorem g_km0 {r : V → List V → Hp → VK → Prop} {z : Str} (q : r (.str z) [] H Q) : kM0 r (.str z) H Q := ⟨⟨z, rfl⟩, q⟩
end
theorem g_joinD {t : TS} {D : Ends} {σ : L2.St} {H : Hp} (M : L2.St → Hp → Prop) (h : ∀ σ' H', M σ' H' → D.nx σ' H') (q : ∀ nx' : L2.St → Hp → Prop, (∀ σ' H', M σ' H' → nx' σ' H') → t { D with nx := nx' } σ H) : t D σ H := q D.nx h
end Qk
namespace Qk
open PySem PySem.Spec PyProof.Rows L2
/-- the entries of a set and their keys -/
structure KE (P : Program) (w : World) (es : Array (Int × Value)) (ks : List Key) : Prop where
  ex : ∃ kes : List (Key × (Int × Value)), (kes.map (·.2)).Perm es.toList ∧ (∀ p ∈ kes, (mixKind P w).is p.1 p.2.2 = true) ∧ kes.map (·.1) = ks
  nd : ks.Nodup
def KR (P : Program) (w : World) (h : Heap) (a : Addr) (T : Key → Bool) (n : Nat) : Prop :=
  ∃ (o : Obj) (es : Array (Int × Value)) (ep : Nat) (t : SetTable) (ks : List Key), h.get? a = some o ∧ o.ExactSet ∧ o.data = .set es ep t ∧ ElemsOf (mixKind P w) es.toList ∧ KE P w es ks ∧ (∀ k, T k = true ↔ k ∈ ks) ∧
    es.size < scanBound ∧ t.fits es.size = true ∧ es.size = n ∧ Ris t.place.toList ∧ (w.params.followText "set-order" = true ∨ t.led = true)
section
variable {P : Program} {w : World} {h h' : Heap} {a : Addr} {T : Key → Bool} {n : Nat}
theorem KE.mem {es : Array (Int × Value)} {ks : List Key} (e : KE P w es ks) (k : Key) : k ∈ ks ↔ ∃ x, x ∈ es.toList ∧ (mixKind P w).is k x.2 = true := by
  obtain ⟨kes, pm, hi, rfl⟩ := e.ex
  rw [List.mem_map]
  constructor
  · rintro ⟨p, hp, rfl⟩
    exact ⟨p.2, pm.mem_iff.mp (List.mem_map.mpr ⟨p, hp, rfl⟩), hi p hp⟩
  · rintro ⟨x, hx, hk⟩
    obtain ⟨p, hp, rfl⟩ := List.mem_map.mp (pm.mem_iff.mpr hx)
    exact ⟨p, hp, (mixKind P w).inj _ _ _ (hi p hp) hk⟩
theorem KE.len {es : Array (Int × Value)} {ks : List Key} (e : KE P w es ks) : ks.length = es.size := by
  obtain ⟨kes, pm, _, rfl⟩ := e.ex
  rw [List.length_map, ← Array.length_toList, ← pm.length_eq, List.length_map]
theorem KR.setOf (r : KR P w h a T n) : h.SetOf (mixKind P w) a T n := by
  obtain ⟨o, es, ep, t, ks, h1, h2, h3, h4, h5, h6, h7, h8, h9, _⟩ := r
  exact ⟨o, es, ep, t, h1, h2, h3, h4, fun k => (h6 k).trans (h5.mem k), h7, h8, h9⟩
theorem KR.at_ (r : KR P w h a T n) (s : ∀ o, h.get? a = some o → h'.get? a = some o) : KR P w h' a T n := by
  obtain ⟨o, es, ep, t, ks, h1, rest⟩ := r
  exact ⟨o, es, ep, t, ks, s _ h1, rest⟩
theorem KR.congr {T' : Key → Bool} (r : KR P w h a T n) (e : ∀ k, T' k = T k) : KR P w h a T' n := by
  have : T' = T := funext e
  rw [this]
  exact r
end
def SetQ (P : Program) (w : World) (a : Addr) (T : Key → Bool) (n : Nat) : HO := HO.ext fun h => KR P w h a T n
theorem setQ_get {X : Cx} {pins : List (Addr × Obj)} {σ : L2.St} {H : Hp} {s : Shared} {a : Addr} {T : Key → Bool} {n : Nat} (I : L2.Inv X pins σ H s) (ha : H a = some (SetQ X.prog X.w a T n)) : KR X.prog X.w s.heap a T n := (I.hok a _ ha).1
theorem setQ_new {P : Program} {w : World} {H : Hp} {h : Heap} {a : Addr} {T : Key → Bool} {n : Nat} (r : KR P w h a T n) : ObjOk P w H h a (SetQ P w a T n) := by
  obtain ⟨o, _, _, _, _, ho, _⟩ := id r
  exact ⟨r, ⟨o, ho⟩, fun h1 h2 r1 s => KR.at_ r1 s⟩
section
variable {P : Program} {w : World} {A : Around} {E : Value → Shared → Prop} {s : Shared} {a : Addr}
theorem KE.push {es es1 : Array (Int × Value)} {ks : List Key} (e : KE P w es ks) {k : Key} {x : Value} {hx : Int} (hk : (mixKind P w).is k x = true) (nk : k ∉ ks) (pm : es1.toList.Perm (es.push (hx, x)).toList) : KE P w es1 (ks ++ [k]) := by
  obtain ⟨kes, p0, hi, rfl⟩ := e.ex
  refine ⟨⟨kes ++ [(k, (hx, x))], ?_, ?_, by rw [List.map_append]; rfl⟩, ?_⟩
  · rw [List.map_append]
    refine List.Perm.trans (List.Perm.append_right _ p0) ?_
    rw [Array.toList_push] at pm
    exact pm.symm
  · intro p hp
    rcases List.mem_append.mp hp with hp | hp
    · exact hi p hp
    · rw [List.mem_singleton.mp hp]; exact hk
  · rw [List.nodup_append]
    refine ⟨e.nd, List.nodup_cons.mpr ⟨fun h => (by cases h), List.nodup_nil⟩, fun x hx y hy e => ?_⟩
    rw [List.mem_singleton.mp hy] at e
    exact nk (e ▸ hx)
theorem KE.perm {es es1 : Array (Int × Value)} {ks : List Key} (e : KE P w es ks) (pm : es1.toList.Perm es.toList) : KE P w es1 ks := by
  obtain ⟨kes, p0, hi, ek⟩ := e.ex
  exact ⟨⟨kes, p0.trans pm.symm, hi, ek⟩, e.nd⟩
theorem kr_tail {g : Bool → Sem Unit} (hg : ∀ (b : Bool) (s₁ : Shared) (Q' : Unit → Shared → Prop), Q' () s₁ → wpAny (model P w) A (g b) Q' E s₁) {o : Obj} {es : Array (Int × Value)} {ep : Nat} {t : SetTable}
    (ho : s.heap.get? a = some o) (hx : o.ExactSet) (hd : o.data = .set es ep t) {es1 : Array (Int × Value)} {t2 : SetTable} {T' : Key → Bool} {ks : List Key}
    (he : ElemsOf (mixKind P w) es1.toList) (hk : KE P w es1 ks) (hT : ∀ k, T' k = true ↔ k ∈ ks) (hsz : es1.size < scanBound) (hf : t2.fits es1.size = true) (hr : Ris t2.place.toList) (hl : w.params.followText "set-order" = true ∨ t2.led = true)
    {wasDummy : Bool} {R : Option Bool → Shared → Prop} (q : ∀ h', Heap.SameBut a s.heap h' → KR P w h' a T' es1.size → R (some true) { s with heap := h' }) :
    wpAny (model P w) A (do
      storeSet a es1 t2
      if (!wasDummy && t2.tooFull) = true then do
          g (relayAll t2 es1 (SetTable.grown es1.size)).snd.snd
          storeSet a (relayAll t2 es1 (SetTable.grown es1.size)).fst (relayAll t2 es1 (SetTable.grown es1.size)).snd.fst
          pure (some true)
        else pure (some true)) R E s := by
  refine wpAny_bind (wpAny_storeSet_of ho hd ?_ (fits_of_scanBound hsz))
  have h1 := store_at (es' := es1) (t' := t2) ho hd
  have b1 := Heap.SameBut.update s.heap a (Obj.putSet es1 t2)
  split
  · refine wpAny_bind (hg _ _ _ ?_)
    have pm := relayAll_perm t2 es1 (SetTable.grown es1.size)
    have fit := relayAll_fits t2 es1 (SetTable.grown es1.size)
    have ris := relayAll_ris t2 es1 (SetTable.grown es1.size)
    have led := relayAll_led t2 es1 (SetTable.grown es1.size)
    generalize relayAll t2 es1 (SetTable.grown es1.size) = rl at pm fit ris led
    obtain ⟨es2, t3, gv⟩ := rl
    have es_sz : es2.size = es1.size := by
      have := pm.length_eq
      rwa [Array.length_toList, Array.length_toList] at this
    refine wpAny_bind (wpAny_storeSet_of h1 rfl ?_ (fits_of_scanBound (by show es2.size < _; omega)))
    refine wpAny_pure (q _ (b1.trans (Heap.SameBut.update _ a _)) ?_)
    refine ⟨_, es2, ep + 1 + 1, t3, ks, store_at (es' := es2) (t' := t3) h1 rfl, ⟨hx.1, hx.2.1, hx.2.2⟩, rfl, he.perm pm, hk.perm pm, hT, by omega, fit, es_sz, ris, ?_⟩
    rcases hl with hl | hl
    · exact .inl hl
    · exact .inr (led.trans hl)
  · exact wpAny_pure (q _ b1 ⟨_, es1, ep + 1, t2, ks, h1, ⟨hx.1, hx.2.1, hx.2.2⟩, rfl, he, hk, hT, hsz, hf, rfl, hr, hl⟩)
theorem kr_add {T : Key → Bool} {n : Nat} {k : Key} {x : Value} {Q : Bool → Shared → Prop} (his : (mixKind P w).is k x = true) (hsc : x.scannable = true) (hT : KR P w s.heap a T n) (hn : n + 1 < scanBound)
    (q : ∀ h', Heap.SameBut a s.heap h' → KR P w h' a (fun k' => T k' || decide (k' = k)) (if T k = true then n else n + 1) → Q (!T k) { s with heap := h' }) : wpAny (model P w) A (setAddHashed a x ((mixKind P w).hash k)) Q E s := by
  obtain ⟨o, es, ep, t, ks, ho, hx, hd, he, hk, hT', hsz, hf, hn', hr, hl⟩ := hT
  unfold setAddHashed
  refine wpAny_holding ?_
  rw [setAddHashedIn.eq_def]
  dsimp only
  refine wpAny_bind (wpAny_setState_of ho hd hf ?_)
  dsimp only
  rw [if_pos (byScan_of (knd := mixKind P w) hsc hsz he)]
  refine wpAny_bind ?_
  unfold setAddByScan
  refine wpAny_bind (wpAny_rule ?_)
  refine wpAny_bind (wpAny_setScan_of (knd := mixKind P w) his ho hd hf he ?_)
  cases hfi : List.findIdx? (fun e => (mixKind P w).is k e.2) es.toList with
  | some j =>
    have hk1 : T k = true := by
      rw [hT' k, hk.mem k]
      have h1 := List.findIdx?_eq_some_iff_getElem.mp hfi
      obtain ⟨hj, hp, _⟩ := h1
      exact ⟨_, List.getElem_mem hj, hp⟩
    dsimp only
    refine wpAny_pure ?_
    dsimp only
    refine wpAny_pure ?_
    have q' := q s.heap (Heap.SameBut.refl _ _) ?_
    · rw [hk1] at q'
      exact q'
    · rw [if_pos hk1]
      refine KR.congr ⟨o, es, ep, t, ks, ho, hx, hd, he, hk, hT', hsz, hf, hn', hr, hl⟩ fun k' => ?_
      by_cases e : k' = k
      · rw [e, hk1]; rfl
      · rw [decide_eq_false e, Bool.or_false]
  | none =>
    have hk0 : T k = false := by
      cases e : T k with
      | false => rfl
      | true =>
        obtain ⟨x', hx', hi'⟩ := (hk.mem k).mp ((hT' k).mp e)
        have := List.findIdx?_eq_none_iff.mp hfi x' hx'
        rw [hi'] at this
        cases this
    have nk : k ∉ ks := fun m => by
      have := (hT' k).mpr m
      rw [hk0] at this
      cases this
    dsimp only
    have pm := layNew_perm t es ((mixKind P w).hash k) x
    have fit := layNew_fits t es ((mixKind P w).hash k) x
    have ris := layNew_ris t es ((mixKind P w).hash k) x hr
    have led := layNew_led t es ((mixKind P w).hash k) x
    generalize layNew t es ((mixKind P w).hash k) x = ln at pm fit ris led
    obtain ⟨es1, t1, wd, gv⟩ := ln
    dsimp only at pm fit ris led ⊢
    have sz1 : es1.size = es.size + 1 := by
      have := pm.length_eq
      rwa [Array.length_toList, Array.length_toList, Array.size_push] at this
    have he1 : ElemsOf (mixKind P w) es1.toList := by
      have := he.push his hsc
      rw [← Array.toList_push] at this
      exact this.perm pm
    have hk1 := hk.push his nk pm
    have hT1 : ∀ k', (T k' || decide (k' = k)) = true ↔ k' ∈ ks ++ [k] := fun k' => by
      rw [Bool.or_eq_true, decide_eq_true_eq, hT' k', List.mem_append, List.mem_singleton]
    have hsz1 : es1.size < scanBound := by omega
    have led1 : w.params.followText "set-order" = true ∨ t1.led = true := by
      rcases hl with hl | hl
      · exact .inl hl
      · exact .inr (led.trans hl)
    rw [hk0] at q
    have fin : ∀ h', Heap.SameBut a s.heap h' → KR P w h' a (fun k' => T k' || decide (k' = k)) es1.size → Q true { s with heap := h' } := fun h' b r => q h' b (by rw [sz1, hn'] at r; exact r)
    have tl : ∀ b : Bool, (if b = true then t1 else { t1 with plain := false }).fits es1.size = true ∧ Ris (if b = true then t1 else { t1 with plain := false }).place.toList ∧ (w.params.followText "set-order" = true ∨ (if b = true then t1 else { t1 with plain := false }).led = true) := fun b => by
      cases b
      · exact ⟨SetTable.fits_plain_off fit, ris, led1⟩
      · exact ⟨fit, ris, led1⟩
    refine wpAny_bind ?_
    cases gv <;> (first | refine wpAny_pure ?_ | refine wpAny_rule ?_)
    all_goals
      split
      · rw [hashByValue_scannable _ hsc]
        refine wpAny_bind (wpAny_pure ?_)
        refine kr_tail ?_ ho hx hd he1 hk1 hT1 hsz1 (tl _).1 (tl _).2.1 (tl _).2.2 (fun h' sb r => ?_)
        · intro b s₁ Q' h
          cases b <;> (first | exact wpAny_pure h | exact wpAny_rule h)
        · exact wpAny_pure (fin h' sb r)
      · refine wpAny_bind (wpAny_pure ?_)
        refine kr_tail ?_ ho hx hd he1 hk1 hT1 hsz1 (tl true).1 (tl true).2.1 (tl true).2.2 (fun h' sb r => ?_)
        · intro b s₁ Q' h
          cases b <;> (first | exact wpAny_pure h | exact wpAny_rule h)
        · exact wpAny_pure (fin h' sb r)
end
theorem code_set_led1 {P : Program} {w : World} {A : Around} {E : Value → Shared → Prop} {s : Shared} (a : Value) {Q₁ : Value → Shared → Prop}
    (q : Q₁ (.ref s.heap.objs.size) { s with heap := s.heap.push { cls := .type "set", data := .set #[] 0 (.fresh 0 0 !w.params.followText "set-order") } }) :
    codeAny (model P w) A (.call (.builtin "set.__new__") ⟨[.type "set", a], []⟩) (wants Q₁ E) s := by
  refine codeAny_of_tree ?_
  show wpAny _ _ (_ >>= _) _ _ _
  refine wpAny_bind ?_
  refine wpAny_of_eq (PySem.F.newCall_set_1 a) ?_
  refine wpAny_pure ?_
  refine ⟨plainId_quiet F.plain_set_new _, codeAny_builtin F.entry_set_new ?_⟩
  rw [Around.under_plainId F.plain_set_new _]
  show wpAny _ _ (Builtin.«set.__new__» _) _ _ _
  unfold Builtin.«set.__new__» Builtin.Frozenset.newClass newSet
  dsimp only
  have hs := @PySem.sub_set_self
  repeat (any_goals (first | assumption | wp_step))
  refine wpAny_askSetting ?_
  refine wpAny_pure ?_
  dsimp only
  unfold newObj
  repeat (any_goals (first | assumption | wp_step))
section
variable {prog : Program} {w : World} {A : Around} {R : Result → Shared → Prop} {I : Addr} {fp wr : List Addr} {G : Array GenState → Array GenState → Prop} {n : Nat} {P : Nat → Value → Prop} {St : Nat → Shared → Prop}
/-- the loop puts in all keys from the i-th on -/
theorem loop_keysQ (W : WalksS prog w A.in1 I fp wr G n P St) (D : Addr) (hD : D ∉ fp) (ks : List Key) (hn : ks.length = n) (hb : n + 1 < scanBound)
    (hv : ∀ i v, P i v → ∃ k, ks[i]? = some k ∧ (mixKind prog w).is k v = true ∧ v.scannable = true) :
    ∀ (d i m : Nat) (T : Key → Bool) (s : Shared), i + d = n → m ≤ i → St i s → KR prog w s.heap D T m →
      (∀ s' T' m', Moved (D :: wr) G s s' → KR prog w s'.heap D T' m' → m' ≤ n → (∀ k, T' k = (T k || (ks.drop i).any fun j => decide (k = j))) → R (.ok (.ret .none)) s') →
      codeAny (model prog w) A (.builtin "set.update.loop" ⟨[.ref D, .ref I], []⟩) R s
  | 0, i, m, T, s, e, hm, st, hT, q => by
    refine codeAny_builtin F.entry_set_update_loop ?_
    rw [Around.under_plainId F.plain_set_update_loop _]
    show wpAny _ A.in1 (pyNext (.ref I) >>= _) _ _ s
    rw [Nat.add_zero] at e
    subst e
    refine wpAny_bind (W.done s _ _ st fun s1 mv => ?_)
    show wpAny _ A.in1 (ret Value.none) _ _ s1
    refine wpAny_pure (q s1 T m (mv.mono fun b hb => List.mem_cons_of_mem _ hb) (hT.at_ fun o ho => mv.heap D _ (fun z => hD (W.sub _ z)) ho) hm fun k => ?_)
    rw [← hn, List.drop_length]
    simp
  | d + 1, i, m, T, s, e, hm, st, hT, q => by
    refine codeAny_builtin F.entry_set_update_loop ?_
    rw [Around.under_plainId F.plain_set_update_loop _]
    show wpAny _ A.in1 (pyNext (.ref I) >>= _) _ _ s
    have hi : i < n := by omega
    refine wpAny_bind (W.item i s _ _ hi st fun v s1 pv st1 mv => ?_)
    obtain ⟨k, ek, his, hsc⟩ := hv i v pv
    have hT1 : KR prog w s1.heap D T m := hT.at_ fun o ho => mv.heap D _ (fun z => hD (W.sub _ z)) ho
    show wpAny _ A.in1 (holding [v] (setAdd D v) >>= _) _ _ s1
    refine wpAny_bind (wpAny_holding ?_)
    unfold setAdd
    refine wpAny_holding ?_
    refine wpAny_bind ((mixKind prog w).pyHash his ?_)
    refine kr_add (s := { s1 with toks := s1.toks + 1 }) his hsc hT1 (by omega) fun h2 sb hT2 => ?_
    refine wpAny_pure ⟨plainId_quiet F.plain_set_update_loop _, loop_keysQ W D hD ks hn hb hv d (i + 1) _ _ _ (by omega) ?_ (W.frame _ s1 _ _ st1 (Nat.le_succ _) fun b hb o e => ?_) hT2 fun s3 T3 m3 mv3 hT3 le eq => ?_⟩
    · split <;> omega
    · rw [sb.2 b (fun z => hD (by rw [← z]; exact hb))]
      exact e
    · refine q s3 T3 m3 (Moved.trans W.gtrans ((mv.mono fun b hb => List.mem_cons_of_mem _ hb).then_heap (Nat.le_succ _) fun b o hb e => ?_) mv3) hT3 le fun k' => ?_
      · rw [sb.2 b (fun z => hb (by rw [z]; exact List.mem_cons_self))]
        exact e
      · rw [eq k']
        have hlt : i < ks.length := by omega
        have ek' : ks[i] = k := by rw [List.getElem?_eq_getElem hlt] at ek; exact Option.some.inj ek
        rw [List.drop_eq_getElem_cons hlt, ek', Bool.or_assoc]
        congr 1
end
section
variable {prog : Program} {w : World} {A : Around} {E : Value → Shared → Prop} {s : Shared}
def newSetQ (w : World) : Obj := { cls := .type "set", dict := none, data := .set #[] 0 (.fresh 0 0 !w.params.followText "set-order") }
/-- what the filling of the new set leaves -/
def FilledQ (prog : Program) (w : World) (ks : List Key) (s s2 : Shared) : Prop := ∃ h' tk T m, s2 = { s with heap := h', toks := tk } ∧ KR prog w h' s.heap.objs.size T m ∧ m ≤ ks.length ∧
  (∀ k, T k = ks.any fun j => decide (k = j)) ∧ ∀ b o, b < s.heap.objs.size → s.heap.get? b = some o → h'.get? b = some o
set_option maxHeartbeats 4000000 in
theorem call_set_keysQ {l : Addr} {items : Array Value} {ks : List Key} {Q : Value → Shared → Prop} (hh : A.handled = none) (hl : s.heap.IsList l items) (hsz : items.size = ks.length)
    (hv : ∀ (i : Nat) (v : Value), items[i]? = some v → ∃ k, ks[i]? = some k ∧ (mixKind prog w).is k v = true ∧ v.scannable = true) (hb : ks.length + 1 < scanBound) (q : ∀ s2, FilledQ prog w ks s s2 → Q (.ref s.heap.objs.size) s2) :
    wpAny (model prog w) A (call (.type "set") [.ref l]) Q E s := by
  obtain ⟨c, tl, hmro⟩ := PySem.F.called_set.mro
  have hmade := PySem.F.called_set.made
  have hsub := PySem.F.called_set.sub
  have h1 := PySem.F.called_set.notType
  have h2 := PySem.F.called_set.canCreate
  have hct := PySem.F.typeCall_set_1 (.ref l)
  refine wpAny_call (codeAny_of_tree ?_)
  show wpAny _ _ (callAny (.type "set") _) _ _ _
  refine wpAny_pure ⟨Code.quiet_builtin _ (by decide +kernel), codeAny_builtin PySem.F.entry_type_call ?_⟩
  rw [Around.under_plain (weight_type_call_type "set" [.ref l] []) rfl]
  repeat (any_goals (first | assumption | wp_step))
  refine codeAny_mono (code_set_led1 (.ref l) (E := E) (Q₁ := fun obj s₁ => obj = .ref s.heap.objs.size ∧ s₁ = { s with heap := s.heap.push (newSetQ w) }) ⟨rfl, rfl⟩) fun r s₁ hr => ?_
  cases r with
  | error e => exact hr
  | ok fl =>
    cases fl with
    | ret obj =>
      obtain ⟨rfl, rfl⟩ := hr
      have hS : (s.heap.push (newSetQ w)).get? s.heap.objs.size = some (newSetQ w) := Heap.get?_push_size _ rfl
      have hT : Shared.TypeIs { s with heap := s.heap.push (newSetQ w) } (.ref s.heap.objs.size) "set" := ⟨_, hS, rfl⟩
      have hli := PySem.F.called_set.init.lookup
      have hbi := PySem.F.called_set.init.bind (.ref s.heap.objs.size)
      repeat (any_goals (first | assumption | wp_step))
      refine codeAny_mono (codeAny_call_builtin (R := wants (fun r s₂ => r = .none ∧ FilledQ prog w ks s s₂) E) PySem.F.called_set.init.plain PySem.F.entry_set_init (check_set_init_1 hT ?_)) fun r₂ s₂ hr₂ => ?_
      · obtain ⟨ol, hol, hcl, nl, hdl⟩ := hl
        obtain ⟨ocls, odict, odata, oslots⟩ := ol
        simp only at hcl hdl
        subst hcl
        subst hdl
        have hol' : (s.heap.push (newSetQ w)).get? l = some { cls := .type "list", dict := odict, data := .seq items nl, slots := oslots } := Heap.get?_push_of_some _ hol
        have hsls := PySem.F.sub_list_set
        have hslf := PySem.F.sub_list_frozenset
        have hne : (Value.type "list" == Value.type "dict") = false := by decide
        have hl1 : (s.heap.push (newSetQ w)).IsList l items := ⟨_, hol', rfl, nl, rfl⟩
        unfold Builtin.«set.__init__» noKeywords Builtin.Frozenset.updateFrom
        generalize hPI : pyIter = PI
        wp_walk
        subst hPI
        refine wpAny_pyIter_list hl1 ?_
        refine wpAny_bind (wpAny_runValue ?_)
        have hlS : l < s.heap.objs.size := Heap.lt_size hol
        have hh3 : A.in1.in1.in1.handled = none := by simp [hh]
        have nI : l ≠ (s.heap.push (newSetQ w)).objs.size := by
          rw [Heap.size_push]
          exact Nat.ne_of_lt (Nat.lt_succ_of_lt hlS)
        have nS : s.heap.objs.size ∉ [(s.heap.push (newSetQ w)).objs.size, l] := by
          rw [Heap.size_push]
          simp only [List.mem_cons, List.not_mem_nil, or_false, not_or]
          exact ⟨Nat.ne_of_lt (Nat.lt_succ_self _), Nat.ne_of_gt hlS⟩
        refine loop_keysQ ((Walks.list hh3 _ l nI items).toS) s.heap.objs.size nS ks hsz.symm (by rw [hsz]; exact hb) hv items.size 0 0 (fun _ => false) _ (Nat.zero_add _) (Nat.le_refl _)
          ⟨⟨_, Heap.get?_push_size _ rfl, rfl, rfl⟩, hl1.push _⟩ ?hA ?hB
        case hA =>
          have hg : ((s.heap.push (newSetQ w)).push { cls := .type "list_iterator", data := .fields #[.ref l, .int 0 0] }).get? s.heap.objs.size = some (newSetQ w) := Heap.get?_push_of_some _ hS
          refine ⟨_, #[], 0, _, [], hg, ⟨rfl, rfl, rfl⟩, rfl, (fun e he => by simp at he), ⟨⟨[], List.Perm.refl _, (fun p h => by cases h), rfl⟩, List.nodup_nil⟩, (fun k => by simp), (by decide), (by rfl), rfl, List.Pairwise.nil, ?_⟩
          show _ ∨ (!w.params.followText "set-order") = true
          cases w.params.followText "set-order" <;> simp
        case hB =>
          intro s' T' m' mv hT' le eq
          obtain ⟨h', g', d', tk', os'⟩ := s'
          have eg : g' = s.gens := mv.gens
          have ed : d' = s.drawn := mv.drawn
          have eo : os' = s.os := mv.os
          subst eg
          subst ed
          subst eo
          show wpAny _ _ _ _ _ _
          refine wpAny_pure ?_
          show wpAny _ _ (ret Value.none) _ _ _
          refine wpAny_pure ⟨rfl, h', tk', T', m', rfl, hT', by omega, fun k => by rw [eq k]; rfl, fun b o hb e => ?_⟩
          refine mv.heap b o ?_ (Heap.get?_push_of_some _ (Heap.get?_push_of_some _ e))
          simp only [List.mem_cons, List.not_mem_nil, or_false, not_or]
          exact ⟨Nat.ne_of_lt hb, by rw [Heap.size_push]; exact Nat.ne_of_lt (Nat.lt_succ_of_lt hb)⟩
      · cases r₂ with
        | error e => exact hr₂
        | ok fl₂ =>
          cases fl₂ with
          | ret r =>
            obtain ⟨rfl, hf⟩ := hr₂
            repeat (any_goals (first | assumption | wp_step))
            exact q _ hf
          | _ => exact hr₂.elim
    | _ => exact hr.elim
end
section
variable {X : Cx}
/-- set(a list of texts), to be gone through -/
def rSetTQ (K : PySem.W.Frag) (P : Program) (w : World) : List V → Hp → VK → Prop := fun xs H Q => ∃ (l : Addr) (zs : List Str), xs = [.ref l] ∧ SqL K H l (zs.map V.str) ∧ zs.length < 1000 ∧
  ∀ a n T, H a = none → n ≤ zs.length → (∀ k, T k = true ↔ ∃ z, k = Sum.inr z ∧ z ∈ zs) → Q (.ref a) (upd H a (SetQ P w a T n))
theorem cr_setTQ (K : PySem.W.Frag) (P : Program) (w : World) (hc : X.calm = true) (e : X.K = K := by rfl) (eP : X.prog = P := by rfl) (ew : X.w = w := by rfl) : CallR X (.type "set") (rSetTQ K P w) := by
  subst e
  subst eP
  subst ew
  intro pins s σ H xs us Q I r h
  obtain ⟨l, zs, rfl, hl, hf, q⟩ := h
  rw [Vals.ref1 r]
  obtain ⟨its, rv, pl, hz⟩ := I.list hl
  have rv : Vals ((zs.map Sum.inr).map kV) its := by
    rw [List.map_map]
    exact rv
  have hle : its.length = zs.length := by rw [← rv.length, List.length_map, List.length_map]
  have hn : H s.heap.objs.size = none := I.hok.fresh (Nat.le_refl _)
  refine call_set_keysQ (ks := zs.map Sum.inr) (I.ok.hd hc) pl.isList (by rw [List.size_toArray, hle, List.length_map]) (fun i v e => keys_vals rv i v (by simpa using e)) (by rw [List.length_map]; unfold scanBound; omega) fun s2 F => ?_
  obtain ⟨h', tk, T, m, rfl, hT, hm, eT, k⟩ := F
  rw [List.length_map] at hm
  refine ⟨.ref s.heap.objs.size, upd H s.heap.objs.size (SetQ X.prog X.w s.heap.objs.size T m), I.laid (t' := tk) (fun b o e => k b o (Heap.lt_size e) e) (Nat.le_refl _) (setQ_new hT), rfl, q _ m T hn hm fun z => ?_⟩
  rw [eT, List.any_eq_true]
  constructor
  · rintro ⟨x, hx, e⟩
    obtain ⟨z', hz', rfl⟩ := List.mem_map.mp hx
    exact ⟨z', of_decide_eq_true e, hz'⟩
  · rintro ⟨z', rfl, hz'⟩
    exact ⟨_, List.mem_map.mpr ⟨z', hz', rfl⟩, decide_eq_true rfl⟩
end
end Qk
namespace Qk
open PySem PySem.Spec PyProof.Rows L2
section
variable {P : Program} {w : World} {A : Around} {E : Value → Shared → Prop} {s : Shared} {a : Addr} {T : Key → Bool} {n : Nat} {Q : Value → Shared → Prop}
theorem strs_len {l : List Value} {zs : List Str} (h : StrsAre l zs) : zs.length = l.length := by
  induction h with
  | nil => rfl
  | cons y t r ih => simp [ih]
theorem is_text {z : Str} {v : Value} (h : (mixKind P w).is (Sum.inr z) v = true) : ∃ tk, v = .str z tk := by
  have h : keyIs (Sum.inr z) v = true := h
  have h : v.isStrOf z = true := h
  cases v <;> simp [Value.isStrOf] at h ⊢
  exact h
/-- the texts of values, found by their keys -/
theorem strs_keys : ∀ (l : List (Key × (Int × Value))), (∀ p ∈ l, (mixKind P w).is p.1 p.2.2 = true) → (∀ p ∈ l, ∃ z, p.1 = Sum.inr z) → ∃ zs, StrsAre (l.map (·.2.2)) zs ∧ l.map (·.1) = zs.map Sum.inr
  | [], _, _ => ⟨[], .nil, rfl⟩
  | p :: l, h1, h2 => by
    obtain ⟨z, ez⟩ := h2 p List.mem_cons_self
    have hi := h1 p List.mem_cons_self
    rw [ez] at hi
    obtain ⟨tk, ev⟩ := is_text hi
    obtain ⟨zs, hz, e⟩ := strs_keys l (fun q hq => h1 q (List.mem_cons_of_mem _ hq)) fun q hq => h2 q (List.mem_cons_of_mem _ hq)
    refine ⟨z :: zs, ?_, ?_⟩
    · rw [List.map_cons, ev]
      exact .cons z tk hz
    · rw [List.map_cons, ez, e]
      rfl
theorem StrsAre.perm {l l' : List Value} (pm : l.Perm l') : ∀ {zs : List Str}, StrsAre l zs → ∃ zs', StrsAre l' zs' ∧ zs.Perm zs' := by
  induction pm with
  | nil => intro zs h; exact ⟨zs, h, List.Perm.refl _⟩
  | cons x _ ih =>
    intro zs h
    cases h with
    | cons y t r =>
      obtain ⟨zs', h', p⟩ := ih r
      exact ⟨y :: zs', .cons y t h', p.cons y⟩
  | swap x y l =>
    intro zs h
    cases h with
    | cons a t r =>
      cases r with
      | cons b t' r => exact ⟨_, .cons b t' (.cons a t r), List.Perm.swap _ _ _⟩
  | trans _ _ ih1 ih2 =>
    intro zs h
    obtain ⟨z1, h1, p1⟩ := ih1 h
    obtain ⟨z2, h2, p2⟩ := ih2 h1
    exact ⟨z2, h2, p1.trans p2⟩
theorem sorted_setQ (R : KR P w s.heap a T n) (hh : A.handled = none) (hn : n < 64) (ht : ∀ k, T k = true → ∃ z, k = Sum.inr z)
    (q : ∀ (s' : Shared) (p : Nat) (out : Array Value) (c : Nat) (zs : List Str), (∀ (b : Addr) (o : Obj), s.heap.get? b = some o → s'.heap.get? b = some o) → s'.gens = s.gens → s'.os = s.os → s.heap.objs.size ≤ p →
      s'.heap.get? p = some (seqObj "list" out c) → StrsAre out.toList zs → sortedS zs = true → zs.Nodup → (∀ z, z ∈ zs ↔ T (Sum.inr z) = true) → zs.length = n → Q (.ref p) s') :
    wpAny (model P w) A (call (.builtin "sorted") [.ref a]) Q E s := by
  obtain ⟨o, es, ep, t, ks, ho, hx, hd, he, hk, hT, hsz, hf, hn', hr, hl⟩ := R
  obtain ⟨kes, pm, hi, ek⟩ := hk.ex
  refine Calls.call_function_entry kind_sorted plain_sorted entry_sorted (args_sorted1 _) ?_
  unfold Builtin.sorted
  refine wpAny_bind (wpAny_pure ?_)
  refine wpAny_bind (collect_set (by simpa using hh) ⟨o, ho, hx.1, hd⟩ hf hsz hr hl fun s1 out k1 z1 g1 o1 p1 => ?_)
  have hall : ∀ p ∈ kes, ∃ z, p.1 = Sum.inr z := fun p hp => ht _ ((hT _).mpr (by rw [← ek]; exact List.mem_map.mpr ⟨p, hp, rfl⟩))
  obtain ⟨zs, hz, ez⟩ := strs_keys kes hi hall
  have pv : (kes.map (·.2.2)).Perm out := by
    have := pm.map (·.2)
    rw [List.map_map] at this
    exact this.trans p1.symm
  obtain ⟨zs', hz', pz⟩ := StrsAre.perm pv hz
  have lo : out.length = n := by rw [p1.length_eq, List.length_map, Array.length_toList, hn']
  refine wpAny_bind (wpAny_newList ?_ (by rw [lo, sizeLine_eq]; omega))
  refine wpAny_bind (wpAny_holding ?_)
  have hp : (s1.heap.push { cls := Value.type "list", data := Data.seq out.toArray }).get? s1.heap.objs.size = some (seqObj "list" out.toArray 0) := Heap.get?_push_size _ rfl
  refine wpAny_call_entry slot_list_sort ⟨_, hp, rfl⟩ entry_list_sort ?_ (args_list_sort _)
  refine list_sort_treeK strKind_oneLt hp hz'.keysOf (fun v1 v2 rest e => by subst e; exact keyKind_strs hz') (by omega) fun st' pa so => ?_
  obtain ⟨ss, h1, h2, h3⟩ := sorted_out_str hz' pa so
  refine ⟨.none, rfl, ?_⟩
  refine wpAny_pure ⟨_, rfl, ?_⟩
  obtain ⟨c, hc⟩ := sortedHeap_at (out := Array.map (fun x => x.snd) (arrOf st')) hp
  have nds : ss.Nodup := by
    have nz : zs.Nodup := by
      have := hk.nd
      rw [← ek, ez] at this
      exact (List.pairwise_map.mp this).imp fun h e => h (by rw [e])
    exact (h2.trans pz.symm).nodup_iff.mpr nz
  refine q _ s1.heap.objs.size _ c ss (fun b u e => ?_) g1 o1 z1 hc h1 h3 nds (fun z => ?_) ?_
  · have e1 := k1 b u e
    have l1 := Heap.lt_size e1
    have e2 := sortedHeap_old (h := s1.heap.push { cls := Value.type "list", data := Data.seq out.toArray }) (vs := out) (out := Array.map (fun x => x.snd) (arrOf st')) (Nat.ne_of_lt l1) (by rw [size_push']; exact Nat.lt_succ_of_lt l1)
    exact e2.trans (Heap.get?_push_of_some _ e1)
  · rw [h2.mem_iff, ← pz.mem_iff, hT, ← ek, ez, List.mem_map]
    constructor
    · intro h
      exact ⟨z, h, rfl⟩
    · rintro ⟨z', h, e⟩
      injection e with e
      rw [← e]
      exact h
  · rw [h2.length_eq, strs_len hz', lo]
end
def rSortQ (P : Program) (w : World) : List V → Hp → VK → Prop := fun xs H Q => ∃ (a : Addr) (T : Key → Bool) (n : Nat), xs = [.ref a] ∧ H a = some (SetQ P w a T n) ∧ n < 64 ∧ (∀ k, T k = true → ∃ z, k = Sum.inr z) ∧
  ∀ (zs : List Str) (p : Addr), sortedS zs = true → zs.Nodup → (∀ z, z ∈ zs ↔ T (Sum.inr z) = true) → zs.length = n → H p = none → Q (.ref p) (upd H p (.lst (zs.map V.str)))
section
variable {X : Cx}
theorem cr_sortQ (P : Program) (w : World) (hc : X.calm = true) (eP : X.prog = P := by rfl) (ew : X.w = w := by rfl) : CallR X (.builtin "sorted") (rSortQ P w) := by
  subst eP
  subst ew
  intro pins s σ H xs us Q I r h
  obtain ⟨a, T, n, rfl, ha, hn, ht, q⟩ := h
  rw [Vals.ref1 r]
  refine sorted_setQ (setQ_get I ha) (I.ok.hd hc) hn ht fun s' p out c zs k g o hp hg hi hs nd hm hl => ?_
  have hl' : (zs.map V.str).length ≤ sizeLine := by rw [List.length_map, hl, sizeLine_eq]; omega
  have hn : H p = none := I.hok.fresh hp
  obtain ⟨heap, gens, drawn, toks, os⟩ := s'
  have g : gens = s.gens := g
  have o : os = s.os := o
  subst g
  subst o
  have hob : ObjOk X.prog X.w (upd H p (.lst (zs.map V.str))) heap p (.lst (zs.map V.str)) := ⟨hl', out.toList, c, vals_of_strs hi, hg⟩
  have J := I.call (ch := []) (d' := drawn) (t' := toks) (g' := s.gens) (Un.laid k hp hn) (HOk.laid I.hok k hp hob) I.bare (fun x z => (by cases z))
  exact ⟨.ref p, upd H p (.lst (zs.map V.str)), J, rfl, q zs p hs nd hm hl hn⟩
def rInQ (P : Program) (w : World) (neg : Bool) : R2 := fun x y H Q => ∃ (k : Key) (a : Addr) (T : Key → Bool) (n : Nat), x = kV k ∧ y = .ref a ∧ H a = some (SetQ P w a T n) ∧ Q (.bl (if neg = true then !T k else T k)) H
theorem or_inQ : OpR X (compareOp .In) (rInQ X.prog X.w false) := by
  intro pins s σ H x y v u Q I rx ry h
  obtain ⟨k, a, T, n, rfl, rfl, ha, q⟩ := h
  have eu : u = .ref a := ry
  subst eu
  refine wpAny_inSet_of (knd := mixKind X.prog X.w) (kV_is rx) (key_scan rx) (setQ_get I ha).setOf ?_
  exact ⟨.bl (T k), H, I.tok _, rfl, q⟩
end
def rInN (K : PySem.W.Frag) (P : Program) (w : World) : R2 := fun x y H Q => rInM K P w x y H Q ∨ rInQ P w false x y H Q
def rSortN (K : PySem.W.Frag) (P : Program) (w : World) : List V → Hp → VK → Prop := fun xs H Q => rSortA K xs H Q ∨ rSortQ P w xs H Q
section
variable {X : Cx}
theorem op_inN (K : PySem.W.Frag) (P : Program) (w : World) (hu : X.A.units + 64 < cLine) (hu' : X.A.units + 65 < cLine) (e : X.K = K := by rfl) (eP : X.prog = P := by rfl) (ew : X.w = w := by rfl) : OpR X (compareOp .In) (rInN K P w) := by
  subst e
  subst eP
  subst ew
  intro pins s σ H x y v u Q I rx ry h
  rcases h with h | h
  · exact op_inM _ _ _ hu hu' rfl rfl rfl pins s σ H x y v u Q I rx ry h
  · exact or_inQ pins s σ H x y v u Q I rx ry h
theorem cr_sortN (K : PySem.W.Frag) (P : Program) (w : World) (hc : X.calm = true) (c : CallR X (.builtin "sorted") (rSortA K)) (eP : X.prog = P := by rfl) (ew : X.w = w := by rfl) : CallR X (.builtin "sorted") (rSortN K P w) := by
  intro pins s σ H xs us Q I r h
  rcases h with h | h
  · exact c pins s σ H xs us Q I r h
  · exact cr_sortQ P w hc eP ew pins s σ H xs us Q I r h
end
section
variable {K : PySem.W.Frag} {P : Program} {w : World} {F : Hp} {O O' : Own} {H : Hp} {Q : VK} {x y v : V}
theorem g_inNQ {a : Addr} {T : Key → Bool} {n : Nat} {k : Key} (ek : x = kV k) (h : H a = some (SetQ P w a T n)) (q : Q (.bl (T k)) H) : rInN K P w x (.ref a) H Q := .inr ⟨k, a, T, n, ek, rfl, h, q⟩
theorem g_sortNQ {a : Addr} {T : Key → Bool} {n : Nat} (h : H a = some (SetQ P w a T n)) (hn : n < 64) (ht : ∀ k, T k = true → ∃ z, k = Sum.inr z) (hH : Has F O H)
    (q : ∀ (zs : List Str) p H', sortedS zs = true → zs.Nodup → (∀ z, z ∈ zs ↔ T (Sum.inr z) = true) → zs.length = n → H p = none → Has F ((p, .lst (zs.map V.str)) :: O) H' → Q (.ref p) H') : rSortN K P w [.ref a] H Q :=
  .inr ⟨a, T, n, rfl, h, hn, ht, fun zs p s nd m l np => q zs p _ s nd m l np (hH.new np)⟩
theorem g_setOfQ {a : Addr} {zs : List Str} (h : H a = some (.lst (zs.map V.str))) (hl : zs.length < 1000) (hH : Has F O H) (q : ∀ p n T H', H p = none → n ≤ zs.length → (∀ k, T k = true ↔ ∃ z, k = Sum.inr z ∧ z ∈ zs) → Has F ((p, SetQ P w p T n) :: O) H' → Q (.ref p) H') : rSetTQ K P w [.ref a] H Q :=
  ⟨a, zs, rfl, SqL.of h, hl, fun p n T np le eT => q p n T _ np le eT (hH.new np)⟩
end
def rMin2 : List V → Hp → VK → Prop := fun xs H Q => ∃ i j, xs = [.int i, .int j] ∧ Q (.int (if j < i then j else i)) H
theorem cr_min2 {X : Cx} (hc : X.calm = true) : CallR X (.builtin "min") rMin2 := call_min2 hc
theorem g_min2 {i j : Int} {H : Hp} {Q : VK} (q : Q (.int (min i j)) H) : rMin2 [.int i, .int j] H Q := ⟨i, j, rfl, by
  have e : (if j < i then j else i) = min i j := by split <;> omega
  rw [e]
  exact q⟩
end Qk
namespace Qk
open PySem PySem.Spec PyProof.Rows L2
def kForK (d : Addr) (od : Obj) (kvs : List (Key × V)) (g : TG) (tb : TS) (D : Ends) (σ : L2.St) (H : Hp) : Prop := kW (Itk d od kvs) g tb D σ H
/-- the ends of a statement under a lock -/
def lockD (d : Addr) (od : Obj) (u : HO) (D : Ends) : Ends := ⟨fun σ' H' => H' d = some (.frz od u) ∧ D.nx σ' (upd H' d u), fun v H' => H' d = some (.frz od u) ∧ D.rt v (upd H' d u), fun σ' H' => H' d = some (.frz od u) ∧ D.bk σ' (upd H' d u), fun σ' H' => H' d = some (.frz od u) ∧ D.ct σ' (upd H' d u)⟩
def kForKx (g : TG) (tb : TS) (D : Ends) (σ : L2.St) (x : V) (H1 : Hp) : Prop := ∃ d o, x = .ref d ∧ ((∃ kvs, H1 d = some (.frz o (.dK kvs)) ∧ kForK d o kvs g tb D σ H1) ∨ ∃ kvs, H1 d = some (.frz o (.dT kvs)) ∧ kW (Itkt d o kvs) g tb D σ H1)
section
variable {K : PySem.W.Frag} {σ : L2.St} {F : Hp} {O O' : Own} {H : Hp} {Q : VK} {te : TE} {x y v : V} {D : Ends} {ts : TS} {g : TG} {d : Addr} {od : Obj} {kvs : List (Key × V)}
theorem g_forK (q : te σ H fun x H1 => kForKx g ts D σ x H1) : tFor (iKeys te) g ts D σ H := q
theorem g_lockK {i : Nat} (hv : σ[i]? = some (some (.ref d))) (h : H d = some (.dK kvs)) (q : ∀ od, kForK d od kvs g ts (lockD d od (.dK kvs) D) σ (upd H d (.frz od (.dK kvs)))) : tLock (tFor (iKeys (tVar i)) g ts) D σ H :=
  ⟨d, .dK kvs, h, trivial, fun od => ⟨.ref d, hv, d, od, rfl, .inl ⟨kvs, upd_same, q od⟩⟩⟩
theorem k_forK (Pv : Nat → L2.St → Hp → Prop) (h0 : Pv 0 σ H) (hl : ∀ i σ H, Pv i σ H → H d = some (.frz od (.dK kvs)))
    (hs : ∀ i k v σ H, kvs[i]? = some (k, v) → Pv i σ H → g (kV k) σ H fun σ2 H2 => ts { D with nx := Pv (i + 1), ct := Pv (i + 1), bk := D.nx } σ2 H2) (hd : ∀ σ H, Pv kvs.length σ H → D.nx σ H) : kForK d od kvs g ts D σ H := by
  refine ⟨fun i m σ H => m = kvs.length - i ∧ i ≤ kvs.length ∧ Pv i σ H, ⟨_, rfl, Nat.zero_le _, h0⟩, ?_⟩
  rintro i m σ H1 ⟨rfl, hi, p⟩
  have hq := hl i σ H1 p
  by_cases hlt : i < kvs.length
  · refine .inr ⟨⟨hq, hlt⟩, Pv (i + 1), fun σ' H' p' => ⟨kvs.length - (i + 1), by omega, rfl, hlt, p'⟩, ?_⟩
    rintro x H' ⟨rfl, k, v, e, rfl⟩
    exact hs i k v σ _ e p
  · have e : i = kvs.length := by omega
    subst e
    exact .inl ⟨⟨hq, Nat.le_refl _⟩, hd σ H1 p⟩
end
section
variable {F H H' : Hp} {O : Own} {d a : Addr} {od : Obj} {u o : HO} {kvs : List (Key × V)}
theorem Has.lock (h : Has F O H) (e : F d = some u) : Has (upd F d (.frz od u)) O (upd H d (.frz od u)) := by
  refine ⟨fun b v q => ?_, fun p hp => ?_, h.nd⟩
  · by_cases c : b = d
    · subst c
      rw [upd_same] at q ⊢
      exact q
    · rw [upd_ne c] at q ⊢
      exact h.same b v q
  · have f := h.own p hp
    have ne : p.1 ≠ d := fun z => by
      rw [z, e] at f
      cases f.1
    rw [upd_ne ne, upd_ne ne]
    exact f
theorem lock_at (e : H d = some u) (h : H a = some o) (ne : o ≠ u) : upd H d (.frz od u) a = some o := by
  rw [upd_ne (fun z => ?_)]
  · exact h
  · subst z
    rw [e] at h
    exact ne (Option.some.inj h).symm
theorem Has.unlock (h : Has F O H) (e : F d = some (.frz od u)) : Has (upd F d u) O (upd H d u) := by
  refine ⟨fun b v q => ?_, fun p hp => ?_, h.nd⟩
  · by_cases c : b = d
    · subst c
      rw [upd_same] at q ⊢
      exact q
    · rw [upd_ne c] at q ⊢
      exact h.same b v q
  · have f := h.own p hp
    have ne : p.1 ≠ d := fun z => by
      rw [z, e] at f
      cases f.1
    rw [upd_ne ne, upd_ne ne]
    exact f
end
mutual
theorem Dq.upL {H H' : Hp} (e1 : ∀ a xs, H a = some (.lst xs) → H' a = some (.lst xs)) (e2 : ∀ a xs, H a = some (.tup xs) → H' a = some (.tup xs)) : ∀ (d : PyData) (v : V), Dq H v d → Dq H' v d
  | _, _, .non => .non
  | _, _, .bl b => .bl b
  | _, _, .int i => .int i
  | _, _, .str x => .str x
  | .list ds, _, .lst s a => .lst (e1 _ _ s) (DqAll.upL e1 e2 ds _ a)
  | .tuple ds, _, .tup s a => .tup (e2 _ _ s) (DqAll.upL e1 e2 ds _ a)
theorem DqAll.upL {H H' : Hp} (e1 : ∀ a xs, H a = some (.lst xs) → H' a = some (.lst xs)) (e2 : ∀ a xs, H a = some (.tup xs) → H' a = some (.tup xs)) : ∀ (ds : List PyData) (vs : List V), DqAll H vs ds → DqAll H' vs ds
  | _, _, .nil => .nil
  | d :: ds, _, .cons h t => .cons (Dq.upL e1 e2 d _ h) (DqAll.upL e1 e2 ds _ t)
end
theorem DqAll.lockK {H : Hp} {d : Addr} {od : Obj} {kvs : List (Key × V)} (e : H d = some (.dK kvs)) {ds : List PyData} {vs : List V} (h : DqAll H vs ds) : DqAll (upd H d (.frz od (.dK kvs))) vs ds :=
  h.upL (fun a xs q => lock_at e q (fun z => by cases z)) (fun a xs q => lock_at e q (fun z => by cases z)) ds vs
def rLenN (K : PySem.W.Frag) : List V → Hp → VK → Prop := fun xs H Q => rLen K xs H Q ∨ ∃ a kvs, xs = [V.ref a] ∧ H a = some (.dK kvs) ∧ Q (.int kvs.length) H
theorem cr_lenN {X : Cx} (K : PySem.W.Frag) (e : X.K = K := by rfl) : CallR X (.builtin "len") (rLenN K) := by
  subst e
  intro pins s σ H xs us Q I r h
  rcases h with h | h
  · exact cr_len pins s σ H xs us Q I r h
  · exact call_lenD pins s σ H xs us Q I r h
section
variable {K : PySem.W.Frag} {H : Hp} {Q : VK}
theorem g_lenNL {a : Addr} {xs : List V} (h : H a = some (.lst xs)) (q : Q (.int (xs.length : Int)) H) : rLenN K [.ref a] H Q := .inl (g_lenL h q)
theorem g_lenNT {a : Addr} {xs : List V} (h : H a = some (.tup xs)) (q : Q (.int (xs.length : Int)) H) : rLenN K [.ref a] H Q := .inl (g_lenT h q)
theorem g_lenND {a : Addr} {kvs : List (Key × V)} (h : H a = some (.dK kvs)) (q : Q (.int (kvs.length : Int)) H) : rLenN K [.ref a] H Q := .inr ⟨a, kvs, rfl, h, q⟩
end
def rLtA : R2 := fun x y H Q => (rI0 (fun i j => .bl (decide (i < j))) x y H Q) ∨ ∃ i j, x = .str i ∧ y = .str j ∧ Q (.bl (decide (i.cps.toList < j.cps.toList))) H
theorem g_ltI {i j : Int} {H : Hp} {Q : VK} (q : Q (.bl (decide (i < j))) H) : rLtA (.int i) (.int j) H Q := .inl ⟨i, j, rfl, rfl, q⟩
theorem g_ltS {i j : Str} {H : Hp} {Q : VK} (q : Q (.bl (decide (i.cps.toList < j.cps.toList))) H) : rLtA (.str i) (.str j) H Q := .inr ⟨i, j, rfl, rfl, q⟩
def kLstRg (x : V) (H1 : Hp) (Q : VK) : Prop := ∃ n, x = .int n ∧ (RgOk 0 n ∧ ∀ q, H1 q = none → Q (.ref q) (upd H1 q (.lst (rgV 0 n))))
section
variable {σ : L2.St} {F : Hp} {O : Own} {H : Hp} {Q : VK} {ta : TE}
theorem g_lstRg (q : ta σ H fun x H1 => kLstRg x H1 Q) : tLstRg (tRg1 ta) σ H Q := q
end
section
variable {K : PySem.W.Frag} {P : Program} {w : World} {H : Hp} {Q : VK} {a : Addr} {kvs : List (Key × V)} {i : Str} {v : V}
theorem g_ixDR (h : Rd H a (.dK kvs)) (hv : valV kvs (.inr i) = some v) (q : Q v H) : rIxA K (.ref a) (.str i) H Q := .inr ⟨a, v, rfl, .inl ⟨kvs, .inr i, h, rfl, hv.symm⟩, q⟩
theorem g_inSR (h : Rd H a (.dK kvs)) (q : Q (.bl (valV kvs (.inr i)).isSome) H) : rInA K (.str i) (.ref a) H Q := .inl (.inr ⟨a, _, rfl, .inl ⟨kvs, .inr i, h, rfl, rfl⟩, q⟩)
end
end Qk
namespace Qk
open PySem PySem.Spec PyProof.Rows L2
end Qk
namespace Qk
open PySem PySem.Spec PyProof.Rows L2
section
variable {K : PySem.W.Frag} {σ : L2.St} {F : Hp} {O O' : Own} {H : Hp} {Q : VK} {te ta tb : TE} {x y v : V}
def kGet1 (ty : TE) (σ : L2.St) (x : V) (H : Hp) (Q : VK) : Prop := ∃ a, x = .ref a ∧ IsD H a ∧ ty σ H fun y H2 => ∃ o, DGet H2 a y o ∧ Q (o.getD .non) H2
theorem g_get1 (q : ta σ H fun x H1 => kGet1 tb σ x H1 Q) : tDGet1 ta tb σ H Q := q
theorem g_kget1 {a : Addr} {kvs : List (Key × V)} (h : H a = some (.dK kvs)) (q : tb σ H fun y H2 => kGot a y .non H2 Q) : kGet1 tb σ (.ref a) H Q := ⟨a, rfl, .inl ⟨kvs, .inl h⟩, q⟩
theorem g_listItems (q : te σ H fun x H1 => LiI.rItemsL x H1 Q) : LiI.tListItems te σ H Q := q
theorem g_items {d : Addr} {kvs : List (Key × V)} (h : H d = some (.dK kvs)) (q : ∀ p H' ts, Same H H' → H p = none → H' p = some (.lst (ts.map V.ref)) → Paired (fun (t : Addr) (q : Key × V) => H' t = some (.tup [kV q.1, q.2])) ts kvs → Q (.ref p) H') : LiI.rItemsL (.ref d) H Q :=
  ⟨d, kvs, rfl, h, fun H' p ts s n _ _ e pd => q p H' ts s n e pd⟩
end
end Qk
namespace Qk
open PySem PySem.Spec PyProof.Rows L2
abbrev Tx := List Str
def txD (t : Tx) : PyData := .list (t.map PyData.str)
def oxD : Option Tx → PyData
  | none => .none
  | some t => txD t
def okX (t : Tx) : Prop := ∀ z ∈ t, PyData.strOk z = true
/-- none, or a new list -/
def Fr (H H' : Hp) (v : V) (o : Option Tx) : Prop := (v = .non ∧ o = none) ∨ ∃ p t, v = .ref p ∧ o = some t ∧ H p = none ∧ H' p = some (.lst (t.map V.str))
abbrev Tr := List (Str × Tx)
def kS (z : Str) : Key := Sum.inr z
def getT : Tr → Str → Option Tx
  | [], _ => none
  | p :: r, z => if p.1 = z then some p.2 else getT r z
theorem getT_mem : ∀ {A : Tr} {z : Str} {t : Tx}, getT A z = some t → (z, t) ∈ A
  | [], _, _, h => by cases h
  | p :: r, z, t, h => by
    unfold getT at h
    by_cases e : p.1 = z
    · rw [if_pos e] at h
      injection h with h
      subst e
      subst h
      exact List.mem_cons_self
    · rw [if_neg e] at h
      exact List.mem_cons_of_mem _ (getT_mem h)
theorem getT_of : ∀ {A : Tr} {z : Str} {t : Tx}, (A.map (·.1)).Nodup → (z, t) ∈ A → getT A z = some t
  | [], _, _, _, h => by cases h
  | p :: r, z, t, n, h => by
    rw [List.map_cons] at n
    have n' := List.nodup_cons.mp n
    unfold getT
    rcases List.mem_cons.mp h with e | m
    · subst e
      rw [if_pos rfl]
    · rw [if_neg (fun e => n'.1 ?_)]
      · exact getT_of n'.2 m
      · rw [e]
        exact List.mem_map.mpr ⟨_, m, rfl⟩
theorem getT_none : ∀ {A : Tr} {z : Str}, getT A z = none ↔ z ∉ A.map (·.1)
  | [], _ => by simp [getT]
  | p :: r, z => by
    unfold getT
    rw [List.map_cons, List.mem_cons]
    by_cases e : p.1 = z
    · rw [if_pos e]
      simp [e]
    · rw [if_neg e, getT_none]
      constructor
      · rintro h (k | k)
        · exact e k.symm
        · exact h k
      · exact fun h k => h (.inr k)
/-- a dict of lists, locked or not -/
def RT (H : Hp) (d : Addr) (A : Tr) : Prop := ∃ kvs : List (Key × V), Rd H d (.dK kvs) ∧ kvs.map (·.1) = A.map (fun p => kS p.1) ∧ (A.map (·.1)).Nodup ∧ DqAll H (kvs.map (·.2)) (A.map fun p => txD p.2)
def TrAt (H : Hp) (d : Addr) (A : Tr) : Prop := ∃ kvs : List (Key × V), H d = some (.dK kvs) ∧ kvs.map (·.1) = A.map (fun p => kS p.1) ∧ (A.map (·.1)).Nodup ∧ DqAll H (kvs.map (·.2)) (A.map fun p => txD p.2)
theorem TrAt.rt {H : Hp} {d : Addr} {A : Tr} (h : TrAt H d A) : RT H d A := by
  obtain ⟨kvs, e, r⟩ := h
  exact ⟨kvs, .inl e, r⟩
theorem TrAt.up {H H' : Hp} {d : Addr} {A : Tr} (h : TrAt H d A) (s : Same H H') : TrAt H' d A := by
  obtain ⟨kvs, e, k, n, q⟩ := h
  exact ⟨kvs, s _ _ e, k, n, q.up s _ _⟩
theorem RT.up {H H' : Hp} {d : Addr} {A : Tr} (h : RT H d A) (s : Same H H') : RT H' d A := by
  obtain ⟨kvs, e, k, n, q⟩ := h
  refine ⟨kvs, ?_, k, n, q.up s _ _⟩
  rcases e with e | ⟨o, e⟩
  · exact .inl (s _ _ e)
  · exact .inr ⟨o, s _ _ e⟩
theorem RT.lock {H : Hp} {d e : Addr} {od : Obj} {ks : List (Key × V)} {A : Tr} (he : H e = some (.dK ks)) (h : RT H d A) : RT (upd H e (.frz od (.dK ks))) d A := by
  obtain ⟨kvs, r, k, n, q⟩ := h
  refine ⟨kvs, ?_, k, n, q.lockK he⟩
  by_cases c : d = e
  · subst c
    rcases r with r | ⟨o, r⟩
    · rw [he] at r
      injection r with r
      injection r with r
      subst r
      exact .inr ⟨od, upd_same⟩
    · rw [he] at r
      cases r
  · rcases r with r | ⟨o, r⟩
    · exact .inl (by rw [upd_ne c]; exact r)
    · exact .inr ⟨o, by rw [upd_ne c]; exact r⟩
theorem tr_get {H : Hp} : ∀ {kvs : List (Key × V)} {A : Tr} (z : Str), kvs.map (·.1) = A.map (fun p => kS p.1) → DqAll H (kvs.map (·.2)) (A.map fun p => txD p.2) → Dq H ((valV kvs (.inr z)).getD .non) (oxD (getT A z)) ∧ (valV kvs (.inr z)).isSome = (getT A z).isSome
  | [], [], z, _, _ => ⟨.non, rfl⟩
  | [], _ :: _, _, e, _ => by cases e
  | _ :: _, [], _, e, _ => by cases e
  | kv :: kvs, p :: A, z, e, q => by
    rw [List.map_cons, List.map_cons] at e
    injection e with e1 e2
    rw [List.map_cons, List.map_cons] at q
    cases q with
    | cons q1 q2 =>
    unfold getT
    by_cases c : p.1 = z
    · rw [if_pos c, valV_pos (by rw [e1, c]; rfl)]
      exact ⟨q1, rfl⟩
    · rw [if_neg c, valV_neg (fun h => c (by rw [e1] at h; exact Sum.inr.inj h))]
      exact tr_get z e2 q2
theorem tr_at {H : Hp} {kvs : List (Key × V)} {A : Tr} {z : Str} {t : Tx} (k : kvs.map (·.1) = A.map (fun p => kS p.1)) (q : DqAll H (kvs.map (·.2)) (A.map fun p => txD p.2)) (e : getT A z = some t) : ∃ l, valV kvs (.inr z) = some (.ref l) ∧ H l = some (.lst (t.map V.str)) := by
  obtain ⟨h1, h2⟩ := tr_get z k q
  rw [e] at h1 h2
  cases c : valV kvs (.inr z) with
  | none => rw [c] at h2; cases h2
  | some v =>
    rw [c] at h1
    obtain ⟨l, rfl, hl⟩ := Dq.of_strs (xs := t) h1
    exact ⟨l, rfl, hl⟩
theorem tr_len {kvs : List (Key × V)} {A : Tr} (k : kvs.map (·.1) = A.map (fun p => kS p.1)) : kvs.length = A.length := by
  have := congrArg List.length k
  rw [List.length_map, List.length_map] at this
  exact this
theorem tr_key {kvs : List (Key × V)} {A : Tr} (k : kvs.map (·.1) = A.map (fun p => kS p.1)) {i : Nat} {x : Key} {v : V} (e : kvs[i]? = some (x, v)) : ∃ p, A[i]? = some p ∧ x = .inr p.1 := by
  have e2 : (kvs.map (·.1))[i]? = some x := by rw [List.getElem?_map, e]; rfl
  rw [k, List.getElem?_map] at e2
  obtain ⟨p, ep, e3⟩ := Option.map_eq_some_iff.mp e2
  exact ⟨p, ep, e3.symm⟩
abbrev Bt := List (Str × Addr × Tx)
def bK (B : Bt) : List (Key × V) := B.map fun b => (kS b.1, V.ref b.2.1)
def bO (B : Bt) : Own := B.map fun b => (b.2.1, HO.lst (b.2.2.map V.str))
def bA (B : Bt) : Tr := B.map fun b => (b.1, b.2.2)
theorem bA_keys (B : Bt) : (bA B).map (·.1) = B.map (·.1) := by
  unfold bA
  rw [List.map_map]
  rfl
theorem bK_keys (B : Bt) : (bK B).map (·.1) = (bA B).map (fun p => kS p.1) := by
  unfold bK bA
  rw [List.map_map, List.map_map]
  rfl
theorem bK_none {B : Bt} {z : Str} (h : z ∉ B.map (·.1)) : valV (bK B) (.inr z) = none := by
  have : ∀ C : Bt, z ∉ C.map (·.1) → valV (bK C) (.inr z) = none := by
    intro C
    induction C with
    | nil => intro _; rfl
    | cons b C ih =>
      intro n
      rw [List.map_cons, List.mem_cons] at n
      show valV ((kS b.1, V.ref b.2.1) :: bK C) (.inr z) = none
      rw [valV_neg (fun e => n (.inl (Sum.inr.inj e).symm))]
      exact ih fun m => n (.inr m)
  exact this B h
theorem bK_snoc (B : Bt) (z : Str) (p : Addr) (t : Tx) : bK (B ++ [(z, p, t)]) = bK B ++ [(kS z, V.ref p)] := by
  unfold bK
  rw [List.map_append]
  rfl
theorem bO_snoc (B : Bt) (z : Str) (p : Addr) (t : Tx) : bO (B ++ [(z, p, t)]) = bO B ++ [(p, HO.lst (t.map V.str))] := by
  unfold bO
  rw [List.map_append]
  rfl
theorem bA_snoc (B : Bt) (z : Str) (p : Addr) (t : Tx) : bA (B ++ [(z, p, t)]) = bA B ++ [(z, t)] := by
  unfold bA
  rw [List.map_append]
  rfl
theorem bK_dq {H : Hp} : ∀ {B : Bt}, (∀ b ∈ B, H b.2.1 = some (.lst (b.2.2.map V.str))) → DqAll H ((bK B).map (·.2)) ((bA B).map fun p => txD p.2)
  | [], _ => .nil
  | b :: B, h => .cons (Dq.strs (xs := b.2.2) (h b List.mem_cons_self)) (bK_dq fun c hc => h c (List.mem_cons_of_mem _ hc))
theorem Has.built {F H : Hp} {d : Addr} {B : Bt} {O : Own} (h : Has F ((d, .dK (bK B)) :: (bO B ++ O)) H) (n : (B.map (·.1)).Nodup) : TrAt H d (bA B) :=
  ⟨bK B, h.get List.mem_cons_self, bK_keys B, by rw [bA_keys]; exact n, bK_dq fun b hb => h.get (List.mem_cons_of_mem _ (List.mem_append_left _ (List.mem_map.mpr ⟨b, hb, rfl⟩)))⟩
/-- one more path, not there yet -/
theorem Has.bput {F H : Hp} {d p : Addr} {B : Bt} {O : Own} {z : Str} {t : Tx} (h : Has F ((p, .lst (t.map V.str)) :: (d, .dK (bK B ++ [(kS z, V.ref p)])) :: (bO B ++ O)) H) : Has F ((d, .dK (bK (B ++ [(z, p, t)]))) :: (bO (B ++ [(z, p, t)]) ++ O)) H := by
  refine h.perm ?_
  rw [bK_snoc, bO_snoc, List.append_assoc, List.singleton_append]
  exact List.perm_middle (a := (p, HO.lst (t.map V.str))) (l₁ := (d, HO.dK (bK B ++ [(kS z, V.ref p)])) :: bO B) (l₂ := O)
theorem k_forDK {i : Nat} {d : Addr} {kvs : List (Key × V)} {g : TG} {ts : TS} {D : Ends} {σ : L2.St} {F H : Hp} {O : Own} (hv : σ[i]? = some (some (.ref d))) (fd : F d = some (.dK kvs)) (hH : Has F O H) (S : Nat → L2.St → Own → Prop) (h0 : S 0 σ O)
    (hs : ∀ t k v σ O H od, kvs[t]? = some (k, v) → S t σ O → Has (upd F d (.frz od (.dK kvs))) O H → g (kV k) σ H fun σ2 H2 => ts { lockD d od (.dK kvs) D with nx := fun σ' H' => ∃ O', S (t + 1) σ' O' ∧ Has (upd F d (.frz od (.dK kvs))) O' H', ct := fun σ' H' => ∃ O', S (t + 1) σ' O' ∧ Has (upd F d (.frz od (.dK kvs))) O' H', bk := (lockD d od (.dK kvs) D).nx } σ2 H2)
    (hd : ∀ σ O H, S kvs.length σ O → Has F O H → D.nx σ H) : tLock (tFor (iKeys (tVar i)) g ts) D σ H := by
  refine g_lockK hv (hH.same _ _ fd) (fun od => ?_)
  refine k_forK (fun t σ H' => ∃ O', S t σ O' ∧ Has (upd F d (.frz od (.dK kvs))) O' H') ⟨O, h0, hH.lock fd⟩ ?_ ?_ ?_
  · rintro t σ H' ⟨O', _, h⟩
    exact h.same _ _ upd_same
  · rintro t k v σ H' e ⟨O', s, h⟩
    exact hs t k v σ O' H' od e s h
  · rintro σ H' ⟨O', s, h⟩
    have e : upd (upd F d (.frz od (.dK kvs))) d (.dK kvs) = F := by
      funext b
      by_cases c : b = d
      · subst c
        rw [upd_same, fd]
      · rw [upd_ne c, upd_ne c]
    have h2 := h.unlock (od := od) (u := .dK kvs) upd_same
    rw [e] at h2
    exact ⟨h.same _ _ upd_same, hd σ O' _ s h2⟩
theorem nd_inj {α : Type} {xs : List α} (nd : xs.Nodup) {i j : Nat} {z : α} (h1 : xs[i]? = some z) (h2 : xs[j]? = some z) : i = j := by
  obtain ⟨l1, e1⟩ := List.getElem?_eq_some_iff.mp h1
  obtain ⟨l2, e2⟩ := List.getElem?_eq_some_iff.mp h2
  have pw := List.pairwise_iff_getElem.mp nd
  rcases Nat.lt_trichotomy i j with c | c | c
  · exact (pw i j l1 l2 c (by rw [e1, e2])).elim
  · exact c
  · exact (pw j i l2 l1 c (by rw [e1, e2])).elim
theorem nd_new {α : Type} {xs : List α} (nd : xs.Nodup) {t : Nat} {z : α} (e : xs[t]? = some z) : z ∉ xs.take t := fun m => by
  obtain ⟨j, hj⟩ := List.mem_iff_getElem?.mp m
  have lj := (List.getElem?_eq_some_iff.mp hj).1
  rw [List.length_take] at lj
  rw [List.getElem?_take_of_lt (by omega)] at hj
  have := nd_inj nd hj e
  omega
theorem Has.b0 {F H : Hp} {d : Addr} {O : Own} (h : Has F ((d, .dK []) :: O) H) : Has F ((d, .dK (bK [])) :: (bO [] ++ O)) H := h
/-- what came out stands still from now on -/
theorem Has.fr {F H H' : Hp} {O : Own} {v : V} {o : Option Tx} (h : Has F O H) (s : Same H H') (f : Fr H H' v o) : ∃ F', Same F F' ∧ Has F' O H' ∧ Dq F' v (oxD o) := by
  rcases f with ⟨rfl, rfl⟩ | ⟨p, t, rfl, rfl, n, e⟩
  · exact ⟨F, Same.refl _, h.on s, .non⟩
  · have h2 := h.made n s e
    exact ⟨_, h2.grow, h2.frz, Dq.strs (xs := t) upd_same⟩
inductive Trs (H : Hp) : List Addr → List Tr → Prop
  | nil : Trs H [] []
  | cons {d : Addr} {A : Tr} {ds : List Addr} {As : List Tr} : TrAt H d A → Trs H ds As → Trs H (d :: ds) (A :: As)
theorem Trs.len {H : Hp} : ∀ {ds : List Addr} {As : List Tr}, Trs H ds As → ds.length = As.length
  | _, _, .nil => rfl
  | _, _, .cons _ t => by rw [List.length_cons, List.length_cons, t.len]
theorem Trs.up {H H' : Hp} (s : Same H H') : ∀ {ds : List Addr} {As : List Tr}, Trs H ds As → Trs H' ds As
  | _, _, .nil => .nil
  | _, _, .cons h t => .cons (h.up s) (t.up s)
theorem Trs.get {H : Hp} : ∀ {ds : List Addr} {As : List Tr} {i : Nat} {d : Addr}, Trs H ds As → ds[i]? = some d → ∃ A, As[i]? = some A ∧ TrAt H d A
  | _, _, _, _, .nil, e => by simp at e
  | _, _, 0, _, .cons h _, e => by
    have e := Option.some.inj e
    subst e
    exact ⟨_, rfl, h⟩
  | _, _, i + 1, _, .cons _ t, e => t.get (i := i) e
theorem Trs.app {H : Hp} : ∀ {ds es : List Addr} {As Bs : List Tr}, Trs H ds As → Trs H es Bs → Trs H (ds ++ es) (As ++ Bs)
  | _, _, _, _, .nil, h => h
  | _, _, _, _, .cons h t, h' => .cons h (t.app h')
theorem Trs.snoc {H : Hp} {ds : List Addr} {As : List Tr} {d : Addr} {A : Tr} (h : Trs H ds As) (t : TrAt H d A) : Trs H (ds ++ [d]) (As ++ [A]) := h.app (.cons t .nil)
/-- the entries of the dict at d -/
def kvOf (H : Hp) (d : Addr) : List (Key × V) := match H d with
  | some (.dK kvs) => kvs
  | _ => []
theorem kvOf_at {H : Hp} {d : Addr} {kvs : List (Key × V)} (h : H d = some (.dK kvs)) : kvOf H d = kvs := by
  unfold kvOf
  rw [h]
theorem Trs.at_ {H : Hp} : ∀ {ds : List Addr} {As : List Tr}, Trs H ds As → ∀ d ∈ ds, H d = some (.dK (kvOf H d))
  | _, _, .nil, _, h => by cases h
  | _, _, .cons h t, d, m => by
    rcases List.mem_cons.mp m with rfl | m
    · obtain ⟨kvs, e, _⟩ := h
      rw [kvOf_at e]
      exact e
    · exact t.at_ d m
theorem TrAt.keys {H : Hp} {d : Addr} {A : Tr} (h : TrAt H d A) {k : Key} : (∃ v, (k, v) ∈ kvOf H d) ↔ ∃ z, k = Sum.inr z ∧ z ∈ A.map (·.1) := by
  obtain ⟨kvs, e, ek, _, _⟩ := h
  rw [kvOf_at e]
  constructor
  · rintro ⟨v, m⟩
    have m2 : k ∈ kvs.map (·.1) := List.mem_map.mpr ⟨_, m, rfl⟩
    rw [ek] at m2
    obtain ⟨p, hp, e2⟩ := List.mem_map.mp m2
    exact ⟨p.1, e2.symm, List.mem_map.mpr ⟨p, hp, rfl⟩⟩
  · rintro ⟨z, rfl, m⟩
    obtain ⟨p, hp, rfl⟩ := List.mem_map.mp m
    have m2 : (Sum.inr p.1 : Key) ∈ kvs.map (·.1) := by
      rw [ek]
      exact List.mem_map.mpr ⟨p, hp, rfl⟩
    obtain ⟨q, hq, e2⟩ := List.mem_map.mp m2
    exact ⟨q.2, by rw [← e2]; exact hq⟩
theorem Trs.keys {H : Hp} : ∀ {ds : List Addr} {As : List Tr}, Trs H ds As → ∀ {k : Key}, (∃ d ∈ ds, ∃ v, (k, v) ∈ kvOf H d) ↔ ∃ z, k = Sum.inr z ∧ ∃ A ∈ As, z ∈ A.map (·.1)
  | _, _, .nil, k => by simp
  | _, _, .cons h t, k => by
    constructor
    · rintro ⟨d, hd, hv⟩
      rcases List.mem_cons.mp hd with rfl | hd
      · obtain ⟨z, e, m⟩ := h.keys.mp hv
        exact ⟨z, e, _, List.mem_cons_self, m⟩
      · obtain ⟨z, e, A, hA, m⟩ := t.keys.mp ⟨d, hd, hv⟩
        exact ⟨z, e, A, List.mem_cons_of_mem _ hA, m⟩
    · rintro ⟨z, e, A, hA, m⟩
      rcases List.mem_cons.mp hA with rfl | hA
      · exact ⟨_, List.mem_cons_self, h.keys.mpr ⟨z, e, m⟩⟩
      · obtain ⟨d, hd, hv⟩ := t.keys.mpr ⟨z, e, A, hA, m⟩
        exact ⟨d, List.mem_cons_of_mem _ hd, hv⟩
theorem Has.join {F H H' : Hp} {O N : Own} (h : Has F O H) (n : Has H N H') : ∃ F', Same F F' ∧ Has F' O H' ∧ ∀ p ∈ N, F' p.1 = some p.2 := by
  refine ⟨fun b => if b ∈ N.map (·.1) then H' b else F b, fun b u e => ?_, ⟨fun b u e => ?_, fun p hp => ⟨?_, ?_⟩, h.nd⟩, fun p hp => ?_⟩
  · have ne : b ∉ N.map (·.1) := fun m => by
      obtain ⟨p, hp, rfl⟩ := List.mem_map.mp m
      have := (n.own p hp).1
      rw [h.same _ _ e] at this
      cases this
    show (if b ∈ N.map (·.1) then H' b else F b) = some u
    rw [if_neg ne]
    exact e
  · have e : (if b ∈ N.map (·.1) then H' b else F b) = some u := e
    split at e
    · exact e
    · exact n.same _ _ (h.same _ _ e)
  · have ne : p.1 ∉ N.map (·.1) := fun m => by
      obtain ⟨q, hq, e⟩ := List.mem_map.mp m
      have := (n.own q hq).1
      rw [e, (h.own p hp).2] at this
      cases this
    show (if p.1 ∈ N.map (·.1) then H' p.1 else F p.1) = none
    rw [if_neg ne]
    exact (h.own p hp).1
  · exact n.same _ _ (h.own p hp).2
  · show (if p.1 ∈ N.map (·.1) then H' p.1 else F p.1) = some p.2
    rw [if_pos (List.mem_map.mpr ⟨p, hp, rfl⟩)]
    exact (n.own p hp).2
theorem Has.plus {F H H' : Hp} {O N : Own} (h : Has F O H) (n : Has H N H') : Has F (N ++ O) H' := by
  refine ⟨h.same.trans n.same, fun p hp => ?_, ?_⟩
  · rcases List.mem_append.mp hp with m | m
    · exact ⟨h.same.free (n.own p m).1, (n.own p m).2⟩
    · exact ⟨(h.own p m).1, n.same _ _ (h.own p m).2⟩
  · rw [List.map_append, List.nodup_append]
    refine ⟨n.nd, h.nd, fun a ha b hb e => ?_⟩
    subst e
    obtain ⟨p, hp, rfl⟩ := List.mem_map.mp ha
    obtain ⟨q, hq, e⟩ := List.mem_map.mp hb
    have := (n.own p hp).1
    rw [← e, (h.own q hq).2] at this
    cases this
/-- a call that changes what is owned ahead -/
theorem Has.swap {F H H' : Hp} {A A' R : Own} (h : Has F (A ++ R) H) (h' : Has (rmO A H) A' H') : Has F (A' ++ R) H' := by
  have nd := h.nd
  rw [List.map_append, List.nodup_append] at nd
  have inA : ∀ b, F b ≠ none → b ∉ A.map (·.1) := fun b e m => by
    obtain ⟨p, hp, rfl⟩ := List.mem_map.mp m
    exact e (h.own p (List.mem_append_left _ hp)).1
  have at_ : ∀ b, b ∉ A.map (·.1) → rmO A H b = H b := fun b n => if_neg n
  have sF : ∀ b u, F b = some u → rmO A H b = some u := fun b u e => by
    rw [at_ b (inA b (by rw [e]; exact fun z => by cases z))]
    exact h.same _ _ e
  have aR : ∀ p ∈ R, rmO A H p.1 = some p.2 := fun p hp => by
    rw [at_ p.1 (fun m => nd.2.2 _ m _ (List.mem_map.mpr ⟨p, hp, rfl⟩) rfl)]
    exact (h.own p (List.mem_append_right _ hp)).2
  refine ⟨fun b u e => h'.same _ _ (sF b u e), fun p hp => ?_, ?_⟩
  · rcases List.mem_append.mp hp with m | m
    · refine ⟨?_, (h'.own p m).2⟩
      cases e : F p.1 with
      | none => rfl
      | some u =>
        have := (h'.own p m).1
        rw [sF _ _ e] at this
        cases this
    · exact ⟨(h.own p (List.mem_append_right _ m)).1, h'.same _ _ (aR p m)⟩
  · rw [List.map_append, List.nodup_append]
    refine ⟨h'.nd, nd.2.1, fun a ha b hb e => ?_⟩
    subst e
    obtain ⟨p, hp, rfl⟩ := List.mem_map.mp ha
    obtain ⟨q, hq, e⟩ := List.mem_map.mp hb
    have := (h'.own p hp).1
    rw [← e, aR q hq] at this
    cases this
theorem Chg.right {O O' A : Own} {a : Addr} {o o' : HO} (c : Chg O a o o' O') : Chg (A ++ O) a o o' (A ++ O') := by
  induction A with
  | nil => exact c
  | cons x A ih => exact .tl ih
end Qk
namespace Qk
open PySem PySem.Spec PyProof.Rows L2
end Qk
namespace Qk
open PySem PySem.Spec PyProof.Rows L2
abbrev Cls3 := Addr → Value → Option Addr → TS
/-- the wish of the clauses, the first that fits takes it -/
def wAsM (K : PySem.W.Frag) (i : Nat) (Wout : WX) (D : Ends) : List (Value × Cls3) → WX
  | [] => Wout
  | p :: r => wAs K p.1 i p.2 (wAsM K i Wout D r) D
def tTryM (K : PySem.W.Frag) (i : Nat) (tb : WX → TS) (l : List (Value × Cls3)) (Wout : WX) : TS := fun D σ H => tb (wAsM K i Wout D l) D σ H
theorem g_tryM {K : PySem.W.Frag} {i : Nat} {tb : WX → TS} {l : List (Value × Cls3)} {Wout : WX} {D : Ends} {σ : L2.St} {H : Hp} (q : tb (wAsM K i Wout D l) D σ H) : tTryM K i tb l Wout D σ H := q
theorem g_caughtM {K : PySem.W.Frag} {c cls : Value} {i : Nat} {ts : Cls3} {r : List (Value × Cls3)} {Wout : WX} {D : Ends} {d : Option Addr} {σ : L2.St} {H : Hp} (m : PySem.W.exmOne K cls c = some true)
    (q : ∀ a, H a = none → ts a cls d { nx := fun σ' H' => D.nx (σ'.set i none) H', rt := D.rt, bk := fun σ' H' => D.bk (σ'.set i none) H', ct := fun σ' H' => D.ct (σ'.set i none) H' } (σ.set i (some (.ref a))) H) : wAsM K i Wout D ((c, ts) :: r) cls d σ H :=
  g_caught m q
end Qk
set_option maxHeartbeats 2000000
namespace Qk
open PySem PySem.Spec PyProof.Rows L2 HotX L2H
end Qk
set_option maxHeartbeats 2000000
namespace Qk
open PySem PySem.Spec PyProof.Rows GenW L2
theorem cxN_cx {P : Program} {w : World} {outer : List Env} {H : Hp} {s : Shared} {E : XK} {u : Value} {s' : Shared} (c : L2N.CX P w outer H s E u s') : L2.CX P w outer H s E u s' := by
  obtain ⟨a, B, H', cls, d, e, fl, r⟩ := c
  exact ⟨a, B, H', cls, d, e, L2H.flyingZ_imp (fun _ z => z.zc) fl, r⟩
theorem passAtG {X : Cx} {W : WX} (tk : L2.Takes X W) (σ : L2.St) : PassesAt (L2N.CX X.prog X.w) X σ (WE W σ) := fun p H s e s' I c => L2.passAt tk σ p H s e s' I (cxN_cx c)
end Qk
namespace Qk
open PySem PySem.Spec PyProof.Rows GenW L2
inductive ClausesC (X : Cx) (n : Str) : List ExceptHandler → List (Value × Cls3) → Prop
  | nil : ClausesC X n [] []
  | cons {x : Str} {c : Value} {ts : Cls3} {b : Stmt} {su : List Stmt} {q1 q2 : Pos} {hs : List ExceptHandler} {l : List (Value × Cls3)} (nm : Names X x c)
      (sp : ∀ (a : Addr) (o : Obj) (cls : Value) (d : Option Addr) (pn : List (Addr × Obj)), L2.Zc cls d o → (∃ vs, o.data = .fields vs) → PSs (X.suite a ((a, o) :: pn)) (b :: su) (ts a cls d)) (rest : ClausesC X n hs l) :
      ClausesC X n (.ExceptHandler (some (.Name x q1)) (some n) (b :: su) q2 :: hs) ((c, ts) :: l)
set_option maxHeartbeats 4000000 in
theorem ps_tryC {X : Cx} {n : Str} {i : Nat} {body : List Stmt} {h0 : ExceptHandler} {hds : List ExceptHandler} {l : List (Value × Cls3)} {pos : Pos} {tb : WX → TS} {Wout : WX}
    (st : X.stack = X.env :: X.outer) (fr : X.env.frame = some X.env.locals) (nd : X.N.Nodup) (ni : X.N[i]? = some n) (lo : X.env.kindOf n = some .local) (tk : L2.Takes X Wout)
    (hb : ∀ (W : WX) (pn : List (Addr × Obj)) (xe : Value → Shared → Prop), L2.Takes (X.tr pn xe) W → PassesOwn (model X.prog X.w) X.A X.env xe → PSs (X.tr pn xe) body (tb W))
    (cs : ClausesC X n (h0 :: hds) l) : PS X (.Try body (h0 :: hds) [] [] pos) (fun D σ H => tb (wAsM X.K i Wout D l) D σ H) := by
  refine ⟨fun pins s σ H D I want => ?_⟩
  have I0 := I.ok
  have frs0 : X.A.frames = some (X.env :: X.outer) := by rw [I0.frames, st]
  refine wpAny_Try_except ?_
  let caught : Value → Shared → Prop := fun e s1 => wpAny (model X.prog X.w) X.A (noteFrame e X.env) (fun _ s2 => wpAny (model X.prog X.w) X.A (setFlight e none) (fun _ s3 => wpAny (model X.prog X.w) X.A (handleBy e X.env (h0 :: hds)) (SP X pins D) X.xe s3) X.xe s2) X.xe s1
  have take : L2.Takes (X.tr (X.pn ++ pins) caught) (wAsM X.K i Wout D l) := fun u s' xx => by
    obtain ⟨a, B, sI, pins', σ1, H1, cls, d, rfl, J', nb, up, sky, na, os, ag, w⟩ := xx
    have J : Inv X pins σ1 H1 sI := J'.ofTry I0
    have sk : Sky B (X.env :: X.outer) a (L2.Zc cls d) X.env.locals s'.heap := by rw [← st]; exact sky
    show wpAny (model X.prog X.w) X.A (noteFrame (.ref a) X.env) _ _ _
    refine L2.Sky.land L2.Zc.steady frs0 fr sk fun h3 f3 u3 => ?_
    have J3 : Inv X pins σ1 H1 { s' with heap := h3 } := J.landed nb f3.1 (up.trans u3) os ag
    obtain ⟨o3, vs3, at3, z3, d3⟩ := f3.there
    have noFrame : a ∉ frs (X.env :: X.outer) := fun m => by
      obtain ⟨_, o', e', bad⟩ := f3.2.2.1.mem m
      rw [at3] at e'
      cases e'
      exact bad _ d3
    have nL : a ≠ X.env.locals := fun z => noFrame (List.mem_filterMap.mpr ⟨X.env, List.mem_cons_self, by rw [fr, z]⟩)
    have nF : a ∉ X.fs := fun m => by
      obtain ⟨e, he, q⟩ := List.mem_filterMap.mp m
      exact noFrame (List.mem_filterMap.mpr ⟨e, List.mem_cons_of_mem _ he, q⟩)
    have S3 := J3.suite at3 d3 na nL nF
    have step : ∀ {hs : List ExceptHandler} {l' : List (Value × Cls3)}, ClausesC X n hs l' → wAsM X.K i Wout D l' cls d σ1 H1 → wpAny (model X.prog X.w) X.A (handleBy (.ref a) X.env hs) (SP X pins D) X.xe { s' with heap := h3 } := by
      intro hs l' c
      induction c with
      | nil =>
        intro w0
        refine wpAny_handleBy_nil ?_
        obtain ⟨_, _, _, oe, vs, T, _, _, he, _, hd, h1, _⟩ := id f3
        unfold PySem.passOn
        refine wpAny_bind (wpAny_field he hd h1 ?_)
        have nn : ¬ (Value.ref T == Value.none) = true := by simp
        rw [if_neg nn]
        have off : wpAny (model X.prog X.w) X.A (setFlight (.ref a) X.env.frame) (fun _ s4 => wpAny (model X.prog X.w) X.A (throw (.ref a) : Sem Flow) (SP X pins D) X.xe s4) X.xe { s' with heap := h3 } := by
          rw [fr]
          refine HandSPX.setFlight_upZ f3 fun h4 g4 u4 => wpAny_throw (tk _ _ ?_)
          exact ⟨a, B, sI, pins, σ1, H1, cls, d, rfl, J, nb, (up.trans u3).trans u4, .inr (.inr (by rw [st]; exact g4)), na, os, ag, w0⟩
        first
          | exact wpAny_bind (wpAny_pure (wpAny_bind off))
          | exact wpAny_bind off
      | @cons x c ts b su q1 q2 hs2 l2 nm sp rest ih =>
        intro w0
        obtain ⟨yes, fits, inS, goOn⟩ := w0
        refine wpAny_handleBy_cons (codeAny_handlers_test ?_) (by intro q; cases q)
        have ty : PySem.W.Looks (model X.prog X.w) h3 (typeOf (.ref a)) cls := fun _ _ _ _ k q => wpAny_typeOf_ref (k _ _ at3) (by rw [z3.1]; exact q)
        have look := PySem.W.exm_one (M := model X.prog X.w) J3.kIn ty fits
        have named : ∀ {Q : Value → Shared → Prop} {E : Value → Shared → Prop}, Q c { s' with heap := h3 } → wpAny (model X.prog X.w) (X.A.mark (some (.ref a))) (eval (.Name x q1) X.env) Q E { s' with heap := h3 } := fun {Q E} q => by
          obtain ⟨g1, g2, g3 | ⟨g3, g4, g5⟩⟩ := nm
          · exact ld_glob (X := X.suite a ((a, o3) :: (X.pn ++ pins))) S3 g1 g3 q g2
          · exact ld_blt (X := X.suite a ((a, o3) :: (X.pn ++ pins))) S3 g1 g3 g4 q g5 g2
        refine named (look.here ?_)
        cases yes with
        | false =>
          show wpAny _ X.A (handleBy (.ref a) X.env hs2) _ _ _
          exact ih (goOn rfl)
        | true =>
          refine codeAny_handlers_suite_as ?_
          refine HandSPX.lands_againZ f3 fun h4 f4 u4 => ?_
          have J4 : Inv X pins σ1 H1 { s' with heap := h4 } := J.landed nb f4.1 ((up.trans u3).trans u4) os ag
          obtain ⟨o4, vs4, at4, z4, d4⟩ := f4.there
          have S4 := J4.suite at4 d4 na nL nF
          refine store_ok (X := X.suite a ((a, o4) :: (X.pn ++ pins))) (v := .ref a) S4 nd ni (.inl lo) rfl (fun s5 S5 => ?_) (.inr lo)
          refine wpAny_mono ((sp a o4 cls d (X.pn ++ pins) z4 ⟨_, d4⟩).run [] s5 _ H1 _ S5 (inS rfl a na)) (fun f s6 got => ?_) (fun _ _ z => z.elim)
          have done : ∀ {σ6 : L2.St} {H6 : Hp} {Q : Shared → Prop}, Inv (X.suite a ((a, o4) :: (X.pn ++ pins))) [] σ6 H6 s6 → (∀ s7, Inv X pins (σ6.set i none) H6 s7 → Q s7) → wpAny (model X.prog X.w) X.A (do bindName X.env n .none; unbindBehindTheSuite X.env n q2) (fun _ s7 => Q s7) X.xe s6 :=
            fun S6 hq => gone_ok (S6.unsuite I0) nd ni lo hq
          match f, got with
          | .next, ⟨_, _, S6, q6⟩ => exact done S6 fun s7 J7 => ⟨_, _, J7, q6⟩
          | .brk, ⟨_, _, S6, q6⟩ => exact done S6 fun s7 J7 => ⟨_, _, J7, q6⟩
          | .cont, ⟨_, _, S6, q6⟩ => exact done S6 fun s7 J7 => ⟨_, _, J7, q6⟩
          | .ret _, ⟨_, _, _, S6, r6, q6⟩ => exact done S6 fun s7 J7 => ⟨_, _, _, J7, r6, q6⟩
    exact step cs w
  refine wpAny_mono ((hb (wAsM X.K i Wout D l) (X.pn ++ pins) caught take PassesOwn.looking).run [] s σ H D (I.toTry _) want) (fun f s1 got => ?_) (fun e s1 he => he)
  match f, got with
  | .next, ⟨_, _, J', q⟩ => exact wpAny_execs_nil ⟨_, _, J'.ofTry I0, q⟩
  | .brk, ⟨_, _, J', q⟩ => exact ⟨_, _, J'.ofTry I0, q⟩
  | .cont, ⟨_, _, J', q⟩ => exact ⟨_, _, J'.ofTry I0, q⟩
  | .ret _, ⟨_, _, _, J', r, q⟩ => exact ⟨_, _, _, J'.ofTry I0, r, q⟩
theorem k_tryC {X : Cx} {n : Str} {i : Nat} {body : List Stmt} {h0 : ExceptHandler} {hds : List ExceptHandler} {l : List (Value × Cls3)} {pos : Pos} {tb : WX → TS} {Wout : WX} (K : PySem.W.Frag)
    (st : X.stack = X.env :: X.outer) (fr : X.env.frame = some X.env.locals) (nd : X.N.Nodup) (ni : X.N[i]? = some n) (lo : X.env.kindOf n = some .local) (tk : L2.Takes X Wout)
    (hb : ∀ (W : WX) (pn : List (Addr × Obj)) (xe : Value → Shared → Prop), L2.Takes (X.tr pn xe) W → PassesOwn (model X.prog X.w) X.A X.env xe → PSs (X.tr pn xe) body (tb W))
    (cs : ClausesC X n (h0 :: hds) l) (e : X.K = K := by rfl) : PS X (.Try body (h0 :: hds) [] [] pos) (tTryM K i tb l Wout) := by
  subst e
  exact ps_tryC st fr nd ni lo tk hb cs
theorem takesC {X : Cx} : L2.Takes X (fun _ _ _ _ => False) := fun _ _ x => by
  obtain ⟨_, _, _, _, _, _, _, _, _, _, _, _, _, _, _, _, z⟩ := x
  exact z.elim
theorem passC0S {X : Cx} : ∀ σ, PassesAt (L2.CX X.prog X.w) X σ ((fun _ => E0) σ) := fun _ _ _ _ _ _ _ h => by
  obtain ⟨_, _, _, _, _, _, _, _, _, _, _, _, z⟩ := h
  exact z.elim
section
variable {P : Program} {w : World} {K : PySem.W.Frag} {mg : Str → Option Value} {base : Heap}
theorem Fun.okC {x qual : Str} {st : Stmt} {f : Addr} {fd : FuncData} {N ps : List Str} {k : Nat} {sp : Sp} (F : Fun K x qual st f fd) (S : FnScope N ps (defScope st)) (len : ∀ vs H Q E, sp vs H Q E → vs.length = ps.length)
    (hbody : ∀ (cdv : Value) (A : Around) (outer : List Env) (s : Shared) (H : Hp) (vs : List V) (Q : VK) (E : XK), Room k (A.deeper (envOfC qual (defScope st) s.heap.objs.size f cdv)) → sp vs H Q E →
      ∃ t, PSs (cxOf (L2.CX P w) P w K mg base N qual (defScope st) f cdv A outer s H E) (defBody st) t ∧ t { nx := fun _ H' => Q .non H', rt := Q } (start N vs) H) : FnOk P w K mg base (L2.CX P w) (k + 1) f fd ps sp := by
  obtain ⟨oc, od, kV, doc, pm, an, cdv, ct, osl, rfl, lk, hcd⟩ := F.ex
  exact fn_of lk hcd S len fun A outer s H vs Q E hr hsp => hbody cdv A outer s H vs Q E hr hsp
end
end Qk
set_option maxHeartbeats 2000000
namespace Qk
open PySem PySem.Spec PyProof.Rows L2 HotX
def causeAt (hp : Heap) (n c : Addr) : Heap :=
  (hp.update n (Obj.mapFields (fun us => us.setIfInBounds 3 (.ref c)))).update n (Obj.mapFields (fun us => us.setIfInBounds 4 (.bool true)))
theorem causeAt_self {hp : Heap} {n c : Addr} {ob : Obj} {us : Array Value} (hn : hp.get? n = some ob) (hu : ob.data = .fields us) :
    (causeAt hp n c).get? n = some ((ob.mapFields (fun us => us.setIfInBounds 3 (.ref c))).mapFields (fun us => us.setIfInBounds 4 (.bool true))) ∧
    ((ob.mapFields (fun us => us.setIfInBounds 3 (.ref c))).mapFields (fun us => us.setIfInBounds 4 (.bool true))).data = .fields ((us.setIfInBounds 3 (.ref c)).setIfInBounds 4 (.bool true)) := by
  have d3 := Obj.data_mapFields hu (fun us => us.setIfInBounds 3 (.ref c))
  have g3 := Heap.get?_update_self (Obj.mapFields (fun us => us.setIfInBounds 3 (.ref c))) hn (Obj.isFreed_of_fields d3)
  have d4 := Obj.data_mapFields d3 (fun us => us.setIfInBounds 4 (.bool true))
  exact ⟨Heap.get?_update_self (Obj.mapFields (fun us => us.setIfInBounds 4 (.bool true))) g3 (Obj.isFreed_of_fields d4), d4⟩
theorem causeAt_ne {hp : Heap} {n c b : Addr} (ne : n ≠ b) : (causeAt hp n c).get? b = hp.get? b :=
  (Heap.get?_update_other _ _ ne).trans (Heap.get?_update_other _ _ ne)
theorem raise_from_hot {P : Program} {w : World} {B : Around} {Er : Value → Shared → Prop} {env : Env} {s0 : Shared} {mk cs : Sem Value} {QF : Flow → Shared → Prop} {c : Addr}
    (hmk : wpAny (model P w) B mk (fun u s1 => ∃ n ob us cl cl1, u = .ref n ∧ s1.heap.get? n = some ob ∧ ob.cls = cl ∧ ob.data = .fields us ∧ us[1]? = some .none ∧ 4 < us.size ∧ c ≠ n ∧ HotAt B c s1.heap ∧
      (∀ QC : Value → Shared → Prop, QC (.ref c) s1 → wpAny (model P w) B cs QC Er s1) ∧
      PySem.W.Looks (model P w) s1.heap (typeOf (.ref c)) cl1 ∧ PySem.W.Looks (model P w) s1.heap (isSubtype cl1 (.type "BaseException")) true ∧
      PySem.W.Looks (model P w) s1.heap (isSubtype cl (.type "BaseException")) true ∧ PySem.W.Looks (model P w) (causeAt s1.heap n c) (typeOf cl) (.type "type") ∧
      Er (.ref n) { s1 with heap := (causeAt s1.heap n c).update n (Obj.mapFields (·.setIfInBounds 2 (.ref c))) }) Er s0) :
    wpAny (model P w) B (raiseStmt env (some mk) (some cs)) QF Er s0 := by
  unfold raiseStmt
  dsimp only
  refine wpAny_bind (wpAny_mono hmk (fun u s1 hu => ?_) fun _ _ z => z)
  obtain ⟨n, ob, us, cl, cl1, rfl, gn, ec, du, u1, big, cn, hot, ev, lt1, ls1, lsn, ltn, fin⟩ := hu
  have tyN : PySem.W.Looks (model P w) s1.heap (typeOf (.ref n)) cl := fun _ _ _ s2 k q => wpAny_typeOf_ref (k _ _ gn) (by rw [ec]; exact q)
  have insN : PySem.W.Looks (model P w) s1.heap (isInstance (.ref n) (.type "BaseException")) true := tyN.andThen lsn
  have insC : PySem.W.Looks (model P w) s1.heap (isInstance (.ref c) (.type "BaseException")) true := lt1.andThen ls1
  have noTy : ∀ {b : Addr} {o : Obj} {vs : Array Value} {s2 : Shared} {QB : Bool → Shared → Prop}, s2.heap.get? b = some o → o.data = .fields vs → QB false s2 → wpAny (model P w) B (isType (.ref b)) QB Er s2 := by
    intro b o vs s2 QB hb hd hq
    simp only [isType, loadHead]
    refine wpAny_bind (wpAny_loadPart hb ?_)
    rw [hd]
    exact wpAny_pure hq
  obtain ⟨hh, oc, vc, gc, dc, ctx⟩ := id hot
  have d3 := Obj.data_mapFields du (fun us => us.setIfInBounds 3 (.ref c))
  have g3 := Heap.get?_update_self (Obj.mapFields (fun us => us.setIfInBounds 3 (.ref c))) gn (Obj.isFreed_of_fields d3)
  obtain ⟨g4, d4⟩ := causeAt_self (c := c) gn du
  have big4 : 4 < (us.setIfInBounds 3 (Value.ref c)).size := by
    rw [set_size]
    exact big
  have big2 : 2 < ((us.setIfInBounds 3 (Value.ref c)).setIfInBounds 4 (Value.bool true)).size := by
    rw [set_size, set_size]
    omega
  have tb4 : ((us.setIfInBounds 3 (Value.ref c)).setIfInBounds 4 (Value.bool true))[1]? = some Value.none := set_other (by decide) (set_other (by decide) u1)
  have ec4 : ((ob.mapFields (fun us => us.setIfInBounds 3 (.ref c))).mapFields (fun us => us.setIfInBounds 4 (.bool true))).cls = cl := by
    rw [Obj.cls_mapFields, Obj.cls_mapFields]
    exact ec
  have tyN4 : PySem.W.Looks (model P w) (causeAt s1.heap n c) (typeOf (.ref n)) cl := fun _ _ _ s2 k q => wpAny_typeOf_ref (k _ _ g4) (by rw [ec4]; exact q)
  have hot4 : HotAt B c (causeAt s1.heap n c) := ⟨hh, oc, vc, by rw [causeAt_ne (Ne.symm cn)]; exact gc, dc, ctx⟩
  -- behind the two stores
  have tail : wpAny (model P w) B (do
      let ty ← isType (.ref n)
      if ty = true then do
        let x ← holding [.ref n] (raisedFor (.ref n) (.ref n))
        setFlight x none
        raiseNew x
      else do
        let x ← raisedInstance (.ref n)
        setFlight x none
        raiseNew x : Sem Flow) QF Er { s1 with heap := causeAt s1.heap n c } := by
    refine wpAny_bind (noTy (s2 := { s1 with heap := causeAt s1.heap n c }) g4 d4 ?_)
    simp only [Bool.false_eq_true, if_false]
    unfold raisedInstance
    refine wpAny_bind (wpAny_bind (tyN4.here (wpAny_bind (ltn.here ?_))))
    rw [if_pos (beq_self_eq_true _)]
    refine wpAny_pure ?_
    unfold setFlight
    refine wpAny_bind (wpAny_bind (wpAny_field g4 d4 tb4 ?_))
    rw [if_neg (by decide)]
    refine wpAny_pure ?_
    exact raiseNew_hot hot4 cn g4 d4 big2 fin
  refine wpAny_bind (wpAny_holding (ev _ (wpAny_bind (wpAny_pure ?_))))
  dsimp only
  refine wpAny_bind (wpAny_holding ?_)
  unfold excFromValue isExcClass
  refine wpAny_bind (wpAny_bind (noTy gn du ?_))
  simp only [Bool.false_eq_true, if_false]
  refine wpAny_pure ?_
  simp only [Bool.false_eq_true, if_false]
  refine wpAny_bind (insN.here ?_)
  simp only [if_true]
  refine wpAny_pure ?_
  have nn : (Value.ref c == Value.none) = false := rfl
  rw [nn]
  simp only [Bool.false_eq_true, if_false]
  refine wpAny_bind (wpAny_holding (wpAny_bind (wpAny_bind (noTy gc dc ?_))))
  simp only [Bool.false_eq_true, if_false]
  refine wpAny_pure ?_
  simp only [Bool.false_eq_true, if_false]
  refine wpAny_bind (insC.here ?_)
  simp only [if_true]
  refine wpAny_pure ?_
  refine wpAny_bind (wpAny_setField gn du (by omega) ?_)
  refine wpAny_bind (wpAny_setField (s := { s1 with heap := s1.heap.update n (Obj.mapFields (fun us => us.setIfInBounds 3 (.ref c))) }) g3 d3 big4 ?_)
  exact tail
/-- the same state with another object for the frame -/
theorem frame_put {h h2 : Heap} {L : Addr} {o2 : Obj} {m2 : Str → Option Value} (lt : L < h.objs.size) (there : ∃ o, h.get? L = some o) (e2 : h2.get? L = some o2) (n2 : h2.Ns L m2) :
    Heap.SameBut L h (h.update L fun _ => o2) ∧ (h.update L fun _ => o2).Ns L m2 ∧ (h.update L fun _ => o2).get? L = some o2 := by
  obtain ⟨o, eo⟩ := there
  have nf : o2.isFreed = false := (Heap.get?_some_iff.mp e2).2
  have eL : (h.update L fun _ => o2).get? L = some o2 := Heap.get?_update_self (fun _ => o2) eo nf
  refine ⟨⟨?_, fun b hb => Heap.get?_update_other _ _ (Ne.symm hb)⟩, ?_, eL⟩
  · simp [Heap.update]
  · refine n2.at' fun u eu => ?_
    rw [e2] at eu
    rw [← eu]
    exact eL
theorem name_off {X : Cx} {pins : List (Addr × Obj)} {σ : L2.St} {H : Hp} {s : Shared} {i : Nat} {n : Str} {m : Str → Option Value} {h' : Heap} {v : Option Value} (I : Inv X pins σ H s) (nd : X.N.Nodup) (ni : X.N[i]? = some n) (hn : s.heap.Ns X.env.locals m)
    (lk : ∀ (j : Nat) (y : Str) (x : V), X.N[j]? = some y → σ[j]? = some (some x) → Vis X.env.scope y → ∃ u, RelV x u ∧ Look X.env s.heap m y u) (hn' : h'.Ns X.env.locals (fun y => if y = n then v else m y)) (hs : Heap.SameBut X.env.locals s.heap h') :
    Inv X pins (σ.set i none) H { s with heap := h' } := by
  have apart : ∀ b o, X.s_0.heap.get? b = some o → b ≠ X.env.locals := fun b o e => Nat.ne_of_lt (Nat.lt_of_lt_of_le (Heap.lt_size e) I.ok.above)
  have keepB := fun (b : Addr) (o : Obj) (e : X.s_0.heap.get? b = some o) => hs.2 b (apart b o e)
  refine ⟨I.ok, I.os, I.bare, ⟨fun b o e n hb hx => (keepB b o e).trans (I.base.keep b o e n hb hx), fun b o e n hb hx => ?_, I.base.free, fun b o e hx => ?_, I.base.tups, I.base.frzs, I.base.tbls⟩, ⟨_, hn', fun j y x e1 e2 e3 => ?_⟩, fun y c e => ?_, I.free, I.freeC, fun p hp => ?_, fun b ob e => ?_, ?_⟩
  · obtain ⟨sl, q⟩ := I.base.slot b o e n hb hx
    exact ⟨sl, (keepB b o e).trans q⟩
  · obtain ⟨o', q⟩ := I.base.there b o e hx
    exact ⟨o', (keepB b o e).trans q⟩
  · have ne : j ≠ i := fun z => by
      subst z
      by_cases lt : j < σ.length
      · rw [List.getElem?_set_self lt] at e2
        cases e2
      · rw [List.getElem?_eq_none (by simpa using lt)] at e2
        cases e2
    rw [List.getElem?_set_ne (Ne.symm ne)] at e2
    obtain ⟨u, r, q⟩ := lk j y x e1 e2 e3
    refine ⟨u, r, ?_⟩
    rcases q with ⟨k, q⟩ | ⟨k, c, q, z⟩
    · have ny : y ≠ n := fun z => ne (nodup_ix nd e1 (z ▸ ni))
      exact .inl ⟨k, (if_neg ny).trans q⟩
    · exact .inr ⟨k, c, q, z.sameBut hs (I.cne y c q)⟩
  · obtain ⟨x, z⟩ := I.cell y c e
    exact ⟨x, z.sameBut hs (I.cne y c e)⟩
  · obtain ⟨e, n0, ne, nf, dd⟩ := I.pin p hp
    exact ⟨(hs.2 p.1 ne).trans e, n0, ne, nf, dd⟩
  · refine (I.hok b ob e).stay (fun c x hc q => (hs.2 c fun z => ?_).trans q) (fun _ q => q) fun _ _ q => q
    subst z
    rcases hc with hc | hc
    · rw [← hc, I.free] at e
      cases e
    · rw [I.free] at hc
      cases hc
  · rw [List.length_set]
    exact I.len
theorem traced_off {h h' base : Heap} {e L : Addr} {Z : Obj → Prop} {fl : Value} {m : Str → Option Value} (x : HandSPX.TracedZ h base e Z fl) (hn : h.Ns L m) (hs : Heap.SameBut L h h') : HandSPX.TracedZ h' base e Z fl := by
  obtain ⟨oe, vs, T, oT, ts, he, hz, hd, h1, hnT, hTe, hT, hdT, h3⟩ := x
  obtain ⟨oL, es, ep, hoL, hdL, _⟩ := hn
  have noE : e ≠ L := fun q => by
    rw [q, hoL] at he
    injection he with he
    rw [← he, hdL] at hd
    cases hd
  have noT : T ≠ L := fun q => by
    rw [q, hoL] at hT
    injection hT with hT
    rw [← hT, hdL] at hdT
    cases hdT
  exact ⟨oe, vs, T, oT, ts, (hs.2 e noE).trans he, hz, hd, h1, hnT, hTe, (hs.2 T noT).trans hT, hdT, h3⟩
/-- what flies out of a named suite: the name goes, the exception goes on -/
theorem flies_off {X : Cx} {W : WX} {i : Nat} {n : Str} {q2 : Pos} {hd : Option Value} {u : Value} {s' : Shared} {E2 E3 : Value → Shared → Prop} (st : X.stack = X.env :: X.outer) (fr : X.env.frame = some X.env.locals) (nd : X.N.Nodup) (ni : X.N[i]? = some n) (lo : X.env.kindOf n = some .local)
    (tk : L2.Takes X W) (wk : ∀ cls d σ H, W cls d σ H → W cls d (σ.set i none) H) (x : L2.XE X W u s') :
    wpAny (model X.prog X.w) (X.A.mark hd) (noteFrame u X.env) (fun _ s3 => wpAny (model X.prog X.w) (X.A.mark hd) (do bindName X.env n .none; unbindBehindTheSuite X.env n q2)
      (fun _ s4 => wpAny (model X.prog X.w) (X.A.mark hd) (PySem.passOn "try.except-as" u X.env : Sem Flow) (fun _ _ => False) (notedBy (model X.prog X.w) (X.A.mark hd) X.env (cameBackBy (model X.prog X.w) X.A X.env X.xe)) s4) E2 s3) E3 s' := by
  obtain ⟨a, B, sI, pins, σ, H, cls, d, rfl, I, nb, up, sky, na, os, ag, w⟩ := x
  have ok := I.ok
  have frs0 : (X.A.mark hd).frames = some (X.env :: X.outer) := by
    show X.A.frames = _
    rw [ok.frames, st]
  have sk : Sky B (X.env :: X.outer) a (Zc cls d) X.env.locals s'.heap := by rw [← st]; exact sky
  have go : ∀ h1, HandSPX.HeldZ B (X.env :: X.outer) a (Zc cls d) X.env.locals h1 → s'.heap.UpToSlots h1 →
      wpAny (model X.prog X.w) (X.A.mark hd) (do bindName X.env n .none; unbindBehindTheSuite X.env n q2)
        (fun _ s4 => wpAny (model X.prog X.w) (X.A.mark hd) (PySem.passOn "try.except-as" (.ref a) X.env : Sem Flow) (fun _ _ => False) (notedBy (model X.prog X.w) (X.A.mark hd) X.env (cameBackBy (model X.prog X.w) X.A X.env X.xe)) s4) E2 { s' with heap := h1 } := by
    intro h1 held u1
    obtain ⟨b1, b0, f1, t1⟩ := held
    obtain ⟨m, hn, lk⟩ := id I.loc
    have up1 := up.trans u1
    have hn1 : h1.Ns X.env.locals m := up1.ns hn
    have kd : (X.env.scope.kind == .class || (X.env.scope.kind == .module && X.env.locals != X.env.globals)) = false := by rw [ok.kind]; rfl
    have bL : B.get? X.env.locals = none := by
      obtain ⟨_, ⟨L', _, q, z, _⟩, _⟩ := f1
      rw [fr] at q
      injection q with q
      rw [q]
      exact z
    refine wpAny_nameGoes_keeps lo hn1 kd fun h2 v hn2 hs2 => ?_
    have b2 : B.StaysIn h2 := fun b o hb => (hs2.2 b fun z => by rw [z, bL] at hb; cases hb).trans (b1 b o hb)
    have f2 : h2.FunFrames B (X.env :: X.outer) := Heap.FunFrames.sameBut hs2 hn2 f1
    have t2 := traced_off t1 hn1 hs2
    obtain ⟨o2, es2, ep2, eo2, dd2, rest2⟩ := id hn2
    obtain ⟨oI, esI, epI, eoI, ddI, restI⟩ := id hn
    obtain ⟨sb, nsG, atG⟩ := frame_put (h := sI.heap) (Heap.lt_size eoI) ⟨oI, eoI⟩ eo2 hn2
    have J := name_off (h' := sI.heap.update X.env.locals fun _ => o2) I nd ni hn lk nsG sb
    have upG : (sI.heap.update X.env.locals fun _ => o2).UpToSlots h2 := fun b o hb hnf => by
      by_cases c : b = X.env.locals
      · subst c
        rw [atG] at hb
        injection hb with hb
        subst hb
        exact ⟨o2.slots, eo2⟩
      · rw [sb.2 b c] at hb
        obtain ⟨sl, q⟩ := up1 b o hb hnf
        exact ⟨sl, (hs2.2 b c).trans q⟩
    obtain ⟨oe, vs, T, oT, ts, he, hz, hdd, h11, r⟩ := id t2
    unfold PySem.passOn
    refine wpAny_bind (wpAny_field he hdd h11 ?_)
    have nn : ¬ (Value.ref T == Value.none) = true := by simp
    rw [if_neg nn, fr]
    have fin : wpAny (model X.prog X.w) (X.A.mark hd) (setFlight (.ref a) (some X.env.locals)) (fun _ s5 => wpAny (model X.prog X.w) (X.A.mark hd) (throw (.ref a) : Sem Flow) (fun _ _ => False) (notedBy (model X.prog X.w) (X.A.mark hd) X.env (cameBackBy (model X.prog X.w) X.A X.env X.xe)) s5)
        (notedBy (model X.prog X.w) (X.A.mark hd) X.env (cameBackBy (model X.prog X.w) X.A X.env X.xe)) { s' with heap := h2, toks := s'.toks + 1 } := by
      refine HandSPX.setFlight_anyZ (s := { s' with heap := h2, toks := s'.toks + 1 }) b2 f2 t2 fun h3 b3 f3 t3 u3 => wpAny_throw ?_
      show wpAny (model X.prog X.w) (X.A.mark hd) (noteFrame (.ref a) X.env) _ _ _
      refine HandSPX.againZ fr t3 ?_
      obtain ⟨oe', vs', T', oT', ts', he', hz', hd', h1', r'⟩ := id t3
      show wpAny (model X.prog X.w) X.A (do
        if (← field (.ref a) 1) == .none then unsupported "frame.own-activation:exception-without-traceback"
        setFlight (.ref a) X.env.frame) _ _ _
      refine wpAny_bind (wpAny_field he' hd' h1' ?_)
      have nn' : ¬ (Value.ref T' == Value.none) = true := by simp
      rw [if_neg nn', fr]
      refine HandSPX.setFlight_anyZ (s := { s' with heap := h3, toks := s'.toks + 1 }) b3 f3 t3 fun h4 b4 f4 t4 u4 => ?_
      exact tk _ _ ⟨a, B, _, pins, σ.set i none, H, cls, d, rfl, J, fun b o hb hbf => nb b o (by
        rw [sb.2 b (fun z => hbf (by rw [z, st]; exact List.mem_filterMap.mpr ⟨X.env, List.mem_cons_self, fr⟩))] at hb
        exact hb) hbf, (upG.trans u3).trans u4, .inr (.inr (by rw [st]; exact ⟨b4, b0, f4, t4⟩)), na, os, ag, wk _ _ _ _ w⟩
    first
      | exact wpAny_bind (wpAny_pure (wpAny_bind fin))
      | exact wpAny_bind fin
  rcases sk with ⟨hB, hn0, hl, oe, vs, he, hz, hdd, h1⟩ | fl | held
  · exact HandSPX.look_newZ Zc.steady frs0 hl fr he hB hn0 hdd h1 hz go
  · exact HandSPX.looks_onZ Zc.steady frs0 fr fl go
  · exact HandSPX.againZ fr held.2.2.2 (go s'.heap held (Heap.UpToSlots.refl _))
/-- the context of a suite that may raise -/
abbrev sX (X : Cx) (a : Addr) (pn : List (Addr × Obj)) (xe : Value → Shared → Prop) : Cx := { X with A := X.A.mark (some (.ref a)), calm := false, pn := pn, xe := xe }
theorem sX_of {X : Cx} {a : Addr} {pn pins : List (Addr × Obj)} {xe : Value → Shared → Prop} {σ : L2.St} {H : Hp} {s : Shared} (I : Inv (X.suite a pn) pins σ H s) : Inv (sX X a pn xe) pins σ H s := Inv.unwish (X := sX X a pn xe) (E := fun _ _ => False) I
theorem sX_in {X : Cx} {a : Addr} {pn pins : List (Addr × Obj)} {xe : Value → Shared → Prop} {σ : L2.St} {H : Hp} {s : Shared} (I : Inv (sX X a pn xe) pins σ H s) : Inv (X.suite a pn) pins σ H s := I.wish fun _ _ => False
set_option maxHeartbeats 4000000 in
theorem ps_tryX {X : Cx} {n : Str} {i : Nat} {body : List Stmt} {x : Str} {c : Value} {b : Stmt} {su : List Stmt} {q1 q2 : Pos} {pos : Pos} {tb : WX → TS} {ts : Cls3} {Wout Ws : WX}
    (st : X.stack = X.env :: X.outer) (fr : X.env.frame = some X.env.locals) (nd : X.N.Nodup) (ni : X.N[i]? = some n) (lo : X.env.kindOf n = some .local) (tk : L2N.Takes X Wout) (tks : L2.Takes X Ws) (wk : ∀ cls d σ H, Ws cls d σ H → Ws cls d (σ.set i none) H)
    (hb : ∀ (W : WX) (pn : List (Addr × Obj)) (xe : Value → Shared → Prop), L2N.Takes (X.tr pn xe) W → PassesOwn (model X.prog X.w) X.A X.env xe → PSs (X.tr pn xe) body (tb W))
    (nm : Names X x c)
    (sp : ∀ (a : Addr) (o : Obj) (cls : Value) (d : Option Addr) (pn : List (Addr × Obj)) (xe : Value → Shared → Prop), L2N.Zn cls d o → (∃ vs, o.data = .fields vs) → L2.Takes (sX X a ((a, o) :: pn) xe) Ws → L2H.HotC (sX X a ((a, o) :: pn) xe) → PSs (sX X a ((a, o) :: pn) xe) (b :: su) (ts a cls d)) :
    PS X (.Try body [.ExceptHandler (some (.Name x q1)) (some n) (b :: su) q2] [] [] pos) (fun D σ H => tb (wAs X.K c i ts Wout D) D σ H) := by
  refine ⟨fun pins s σ H D I want => ?_⟩
  have I0 := I.ok
  have frs0 : X.A.frames = some (X.env :: X.outer) := by rw [I0.frames, st]
  refine wpAny_Try_except ?_
  let caught : Value → Shared → Prop := fun e s1 => wpAny (model X.prog X.w) X.A (noteFrame e X.env) (fun _ s2 => wpAny (model X.prog X.w) X.A (setFlight e none) (fun _ s3 => wpAny (model X.prog X.w) X.A (handleBy e X.env [.ExceptHandler (some (.Name x q1)) (some n) (b :: su) q2]) (SP X pins D) X.xe s3) X.xe s2) X.xe s1
  have take : L2N.Takes (X.tr (X.pn ++ pins) caught) (wAs X.K c i ts Wout D) := fun u s' xx => by
    obtain ⟨a, B, sI, pins', σ1, H1, cls, d, rfl, J', nb, up, sky, na, os, ag, w⟩ := xx
    have J : Inv X pins σ1 H1 sI := J'.ofTry I0
    have sk : Sky B (X.env :: X.outer) a (L2N.Zn cls d) X.env.locals s'.heap := by rw [← st]; exact sky
    show wpAny (model X.prog X.w) X.A (noteFrame (.ref a) X.env) _ _ _
    refine L2N.Sky.land L2N.Zn.steady frs0 fr sk fun h3 f3 u3 => ?_
    have J3 : Inv X pins σ1 H1 { s' with heap := h3 } := J.landed nb f3.1 (up.trans u3) os ag
    obtain ⟨o3, vs3, at3, z3, d3⟩ := f3.there
    have noFrame : a ∉ frs (X.env :: X.outer) := fun m => by
      obtain ⟨_, o', e', bad⟩ := f3.2.2.1.mem m
      rw [at3] at e'
      cases e'
      exact bad _ d3
    have nL : a ≠ X.env.locals := fun z => noFrame (List.mem_filterMap.mpr ⟨X.env, List.mem_cons_self, by rw [fr, z]⟩)
    have nF : a ∉ X.fs := fun m => by
      obtain ⟨e, he, q⟩ := List.mem_filterMap.mp m
      exact noFrame (List.mem_filterMap.mpr ⟨e, List.mem_cons_of_mem _ he, q⟩)
    have S3 := J3.suite at3 d3 na nL nF
    have none_fits : Wout cls d σ1 H1 → wpAny (model X.prog X.w) X.A (handleBy (.ref a) X.env []) (SP X pins D) X.xe { s' with heap := h3 } := fun w0 => by
      refine wpAny_handleBy_nil ?_
      obtain ⟨_, _, _, oe, vs, T, _, _, he, _, hd, h1, _⟩ := id f3
      unfold PySem.passOn
      refine wpAny_bind (wpAny_field he hd h1 ?_)
      have nn : ¬ (Value.ref T == Value.none) = true := by simp
      rw [if_neg nn]
      have off : wpAny (model X.prog X.w) X.A (setFlight (.ref a) X.env.frame) (fun _ s4 => wpAny (model X.prog X.w) X.A (throw (.ref a) : Sem Flow) (SP X pins D) X.xe s4) X.xe { s' with heap := h3 } := by
        rw [fr]
        refine HandSPX.setFlight_upZ f3 fun h4 g4 u4 => wpAny_throw (tk _ _ ?_)
        exact ⟨a, B, sI, pins, σ1, H1, cls, d, rfl, J, nb, (up.trans u3).trans u4, .inr (.inr (by rw [st]; exact g4)), na, os, ag, w0⟩
      first
        | exact wpAny_bind (wpAny_pure (wpAny_bind off))
        | exact wpAny_bind off
    obtain ⟨yes, fits, inS, goOn⟩ := w
    refine wpAny_handleBy_cons (codeAny_handlers_test ?_) (by intro q; cases q)
    have ty : PySem.W.Looks (model X.prog X.w) h3 (typeOf (.ref a)) cls := fun _ _ _ _ k q => wpAny_typeOf_ref (k _ _ at3) (by rw [z3.1]; exact q)
    have look := PySem.W.exm_one (M := model X.prog X.w) J3.kIn ty fits
    have named : ∀ {Q : Value → Shared → Prop} {E : Value → Shared → Prop}, Q c { s' with heap := h3 } → wpAny (model X.prog X.w) (X.A.mark (some (.ref a))) (eval (.Name x q1) X.env) Q E { s' with heap := h3 } := fun {Q E} q => by
      obtain ⟨g1, g2, g3 | ⟨g3, g4, g5⟩⟩ := nm
      · exact ld_glob (X := X.suite a ((a, o3) :: (X.pn ++ pins))) S3 g1 g3 q g2
      · exact ld_blt (X := X.suite a ((a, o3) :: (X.pn ++ pins))) S3 g1 g3 g4 q g5 g2
    refine named (look.here ?_)
    cases yes with
    | false =>
      show wpAny _ X.A (handleBy (.ref a) X.env []) _ _ _
      exact none_fits (goOn rfl)
    | true =>
      refine codeAny_handlers_suite_as ?_
      refine HandSPX.lands_againZ f3 fun h4 f4 u4 => ?_
      have J4 : Inv X pins σ1 H1 { s' with heap := h4 } := J.landed nb f4.1 ((up.trans u3).trans u4) os ag
      obtain ⟨o4, vs4, at4, z4, d4⟩ := f4.there
      have S4 := J4.suite at4 d4 na nL nF
      let xs : Value → Shared → Prop := fun u sx => wpAny (model X.prog X.w) (X.A.mark (some (.ref a))) (noteFrame u X.env) (fun _ s3 => wpAny (model X.prog X.w) (X.A.mark (some (.ref a))) (do bindName X.env n .none; unbindBehindTheSuite X.env n q2)
        (fun _ s4 => wpAny (model X.prog X.w) (X.A.mark (some (.ref a))) (PySem.passOn "try.except-as" u X.env : Sem Flow) (fun _ _ => False) (notedBy (model X.prog X.w) (X.A.mark (some (.ref a))) X.env (cameBackBy (model X.prog X.w) X.A X.env X.xe)) s4)
        (fun y s4 => wpAny (model X.prog X.w) (X.A.mark (some (.ref a))) (setFlight u none) (fun _ s5 => notedBy (model X.prog X.w) (X.A.mark (some (.ref a))) X.env (cameBackBy (model X.prog X.w) X.A X.env X.xe) y s5) (notedBy (model X.prog X.w) (X.A.mark (some (.ref a))) X.env (cameBackBy (model X.prog X.w) X.A X.env X.xe)) s4) s3)
        (notedBy (model X.prog X.w) (X.A.mark (some (.ref a))) X.env (cameBackBy (model X.prog X.w) X.A X.env X.xe)) sx
      have tkS : L2.Takes (sX X a ((a, o4) :: (X.pn ++ pins)) xs) Ws := fun u2 s2 x2 => by
        obtain ⟨a2, B2, sI2, pn2, σ2, H2, cls2, d2, e2, I2, r2⟩ := x2
        exact flies_off st fr nd ni lo tks wk ⟨a2, B2, sI2, pins, σ2, H2, cls2, d2, e2, (sX_in I2).unsuite I0, r2⟩
      have hot : L2H.HotC (sX X a ((a, o4) :: (X.pn ++ pins)) xs) := ⟨(a, o4), ⟨rfl, vs4, d4, z4.2.2 vs4 d4⟩, List.mem_cons_self⟩
      refine store_ok (X := X.suite a ((a, o4) :: (X.pn ++ pins))) (v := .ref a) S4 nd ni (.inl lo) rfl (fun s5 S5 => ?_) (.inr lo)
      refine wpAny_mono ((sp a o4 cls d (X.pn ++ pins) xs z4 ⟨_, d4⟩ tkS hot).run [] s5 _ H1 _ (sX_of S5) (inS rfl a na)) (fun f s6 got => ?_) (fun e6 s6 z => z)
      have done : ∀ {σ6 : L2.St} {H6 : Hp} {Q : Shared → Prop}, Inv (sX X a ((a, o4) :: (X.pn ++ pins)) xs) [] σ6 H6 s6 → (∀ s7, Inv X pins (σ6.set i none) H6 s7 → Q s7) → wpAny (model X.prog X.w) X.A (do bindName X.env n .none; unbindBehindTheSuite X.env n q2) (fun _ s7 => Q s7) X.xe s6 :=
        fun S6 hq => gone_ok ((sX_in S6).unsuite I0) nd ni lo hq
      match f, got with
      | .next, ⟨_, _, S6, q6⟩ => exact done S6 fun s7 J7 => ⟨_, _, J7, q6⟩
      | .brk, ⟨_, _, S6, q6⟩ => exact done S6 fun s7 J7 => ⟨_, _, J7, q6⟩
      | .cont, ⟨_, _, S6, q6⟩ => exact done S6 fun s7 J7 => ⟨_, _, J7, q6⟩
      | .ret _, ⟨_, _, _, S6, r6, q6⟩ => exact done S6 fun s7 J7 => ⟨_, _, _, J7, r6, q6⟩
  refine wpAny_mono ((hb (wAs X.K c i ts Wout D) (X.pn ++ pins) caught take PassesOwn.looking).run [] s σ H D (I.toTry _) want) (fun f s1 got => ?_) (fun e s1 he => he)
  match f, got with
  | .next, ⟨_, _, J', q⟩ => exact wpAny_execs_nil ⟨_, _, J'.ofTry I0, q⟩
  | .brk, ⟨_, _, J', q⟩ => exact ⟨_, _, J'.ofTry I0, q⟩
  | .cont, ⟨_, _, J', q⟩ => exact ⟨_, _, J'.ofTry I0, q⟩
  | .ret _, ⟨_, _, _, J', r, q⟩ => exact ⟨_, _, _, J'.ofTry I0, r, q⟩
end Qk
namespace Qk
open PySem PySem.Spec PyProof.Rows L2 HotX
/-- raise C(..) from e in the suite that caught e -/
theorem ps_raiseFE {X : Cx} {W : WX} {a : Addr} {oe : Obj} {cls : Value} {d : Option Addr} {pn : List (Addr × Obj)} {xe : Value → Shared → Prop} {e : Expr} {t : L2.St → Hp → XK → Prop} {i : Nat} {nm : Str} {cp pos : Pos}
    (hz : L2N.Zn cls d oe) (hf : ∃ vs, oe.data = .fields vs) (tk : L2.Takes (sX X a ((a, oe) :: pn) xe) W) (he : L2H.PMk5 (sX X a ((a, oe) :: pn) xe) e t) (hi : X.N[i]? = some nm) (hv : X.env.kindOf nm = some .local) (hd : (nm == ("__debug__" : Str)) = false := by decide) :
    PS (sX X a ((a, oe) :: pn) xe) (.Raise (some e) (some (.Name nm cp)) pos) (fun _ σ H => t σ H fun cls' d' H' => σ[i]? = some (some (.ref a)) ∧ PySem.W.subIn X.K cls (.type "BaseException") = some true ∧ W cls' d' σ H') := by
  refine ⟨fun pins s σ H D I want => ?_⟩
  obtain ⟨v1, e1⟩ := hf
  show wpAny _ _ (do standAt pos; raiseStmt X.env (some (do let v ← eval e X.env; standAt pos; pure v)) (some (do let v ← eval (.Name nm cp) X.env; standAt pos; pure v))) _ _ _
  refine wpAny_bind (wpAny_standAt (raise_from_hot (c := a) (wpAny_bind (wpAny_mono (he pins s σ H _ I want) (fun u s1 hu => wpAny_bind (wpAny_standAt (wpAny_pure ?_))) fun _ _ x => x))))
  obtain ⟨⟨n, ob, us, sI, H', cl, d2, rfl, J, k, hne, gn, zn, du, u1, na, os, ag, r, sl, sub, q⟩, six⟩ := hu
  have big : 4 < us.size := six n ob us rfl gn du
  have J1 : Inv (sX X a ((a, oe) :: pn) xe) pins σ H' s1 := by
    have J0 := J.kept (h' := s1.heap) (t' := s1.toks) k
    exact ⟨J0.ok, os.trans J.os, ag, J0.base, J0.loc, J0.cell, J0.free, J0.freeC, J0.pin, J0.hok, J0.len⟩
  have P1 := (J.pin (a, oe) (List.mem_append_left _ List.mem_cons_self)).1
  have apart : n ≠ a := fun z => by
    rw [z] at hne
    have P2 : sI.heap.get? a = some oe := P1
    rw [hne] at P2
    cases P2
  have P3 : s1.heap.get? a = some oe := k _ _ P1
  have keepN : ∀ b o, sI.heap.get? b = some o → (causeAt s1.heap n a).get? b = some o := fun b o z => by
    rw [causeAt_ne (fun y => by rw [← y, hne] at z; cases z)]
    exact k b o z
  obtain ⟨r1, _⟩ := r (model X.prog X.w) s1.heap (J.kIn.keeps k)
  obtain ⟨_, r2⟩ := r (model X.prog X.w) (causeAt s1.heap n a) (J.kIn.keeps keepN)
  obtain ⟨g4, d4⟩ := causeAt_self (c := a) gn du
  have tb : (((us.setIfInBounds 3 (Value.ref a)).setIfInBounds 4 (Value.bool true)).setIfInBounds 2 (Value.ref a))[1]? = some Value.none := set_other (by decide) (set_other (by decide) (set_other (by decide) u1))
  refine ⟨n, ob, us, cl, cls, rfl, gn, zn.1, du, u1, big, Ne.symm apart, ⟨rfl, oe, v1, P3, e1, hz.2.2 v1 e1⟩, fun QC qc => ?_, fun _ _ _ s2 kk qq => wpAny_typeOf_ref (kk _ _ P3) (by rw [hz.1]; exact qq), PySem.W.looks_subIn J1.kIn sub, r1, r2, tk _ _ (XE.new J (fun b u z => ?_) hne (Heap.get?_update_self _ g4 (Obj.isFreed_of_fields (Obj.data_mapFields d4 _)))
    ⟨by rw [Obj.cls_mapFields, Obj.cls_mapFields, Obj.cls_mapFields]; exact zn.1, by rw [HandSPX.dict_mapFields, HandSPX.dict_mapFields, HandSPX.dict_mapFields]; exact zn.2.1⟩ (Obj.data_mapFields d4 _) tb na os ag q)⟩
  · obtain ⟨m, hn, lk⟩ := J1.loc
    obtain ⟨u, ru, l⟩ := lk i nm (.ref a) hi sl (.inl hv)
    obtain rfl : u = Value.ref a := ru
    rcases l with ⟨hk, hm⟩ | ⟨hk, c, hc, hcell⟩
    · exact wpAny_bind (wpAny_Name (wpAny_loadName_local J1.ok.kind hk hn hm (wpAny_bind (wpAny_standAt (wpAny_pure qc)))) hd)
    · rcases hk with hk | hk
      · have hv' : X.env.kindOf nm = some .cell := hk
        rw [hv] at hv'
        cases hv'
      · have hv' : X.env.kindOf nm = some .free := hk
        rw [hv] at hv'
        cases hv'
  · have nab : n ≠ b := fun y => by
      rw [← y, hne] at z
      cases z
    show ((causeAt s1.heap n a).update n (Obj.mapFields (·.setIfInBounds 2 (.ref a)))).get? b = some u
    rw [Heap.get?_update_other _ _ nab]
    exact keepN b u z
end Qk
namespace Qk
open PySem PySem.Spec PyProof.Rows L2
section
variable {X : Cx} {a : Addr} {pn : List (Addr × Obj)} {xe : Value → Shared → Prop}
theorem pe_sX {e : Expr} {te : TE} (h : PE (X.suite a pn) e te) : PE (sX X a pn xe) e te :=
  ⟨fun pins s σ H Q I w => wpAny_mono (h.run pins s σ H Q (sX_in I) w) (fun _ _ ⟨v, H1, I1, r⟩ => ⟨v, H1, sX_of I1, r⟩) fun _ _ z => z.elim⟩
end
theorem skyN {B h : Heap} {l : List Env} {a : Addr} {cls : Value} {d : Option Addr} {L : Addr} (x : Sky B l a (L2N.Zn cls d) L h) : Sky B l a (Zc cls d) L h := by
  rcases x with ⟨h1, h2, h3, oe, vs, he, hz, r⟩ | fl | held
  · exact .inl ⟨h1, h2, h3, oe, vs, he, hz.zc, r⟩
  · exact .inr (.inl (L2H.flyingZ_imp (fun _ z => z.zc) fl))
  · exact .inr (.inr ⟨held.1, held.2.1, held.2.2.1, L2H.tracedZ_imp (fun _ z => z.zc) held.2.2.2⟩)
theorem takesCN {X : Cx} {W : WX} (tk : L2.Takes X W) : L2N.Takes X W := fun u s' ⟨a, B, sI, pins, σ, H, cls, d, e, I, nb, up, sky, r⟩ => tk u s' ⟨a, B, sI, pins, σ, H, cls, d, e, I, nb, up, skyN sky, r⟩
/-- raise C(..) where errors are of L2.CX -/
theorem k_raiseC {X : Cx} {W : WX} {e : Expr} {C : Addr} {sp : Sp} {ta : TA} {pos : Pos} (hc : X.calm = true) (tk : L2.Takes X W) (he : L2N.PMk X e (tMkO C sp [] ta)) : PS X (.Raise (some e) none pos) (tRaise W C sp ta) := k_raise hc (takesCN tk) he
/-- try: body, except c as i: a suite that may raise -/
def tTryX (K : PySem.W.Frag) (c : Value) (i : Nat) (tb : WX → TS) (ts : Cls3) (Wout : WX) : TS := fun D σ H => tb (wAs K c i ts Wout D) D σ H
theorem k_tryX {X : Cx} {n : Str} {i : Nat} {body : List Stmt} {x : Str} {c : Value} {b : Stmt} {su : List Stmt} {q1 q2 : Pos} {pos : Pos} {tb : WX → TS} {ts : Cls3} {Wout Ws : WX} (K : PySem.W.Frag)
    (st : X.stack = X.env :: X.outer) (fr : X.env.frame = some X.env.locals) (nd : X.N.Nodup) (ni : X.N[i]? = some n) (lo : X.env.kindOf n = some .local) (tk : L2N.Takes X Wout) (tks : L2.Takes X Ws) (wk : ∀ cls d σ H, Ws cls d σ H → Ws cls d (σ.set i none) H)
    (nm : Names X x c) (hb : ∀ (W : WX) (pn : List (Addr × Obj)) (xe : Value → Shared → Prop), L2N.Takes (X.tr pn xe) W → PassesOwn (model X.prog X.w) X.A X.env xe → PSs (X.tr pn xe) body (tb W))
    (sp : ∀ (a : Addr) (o : Obj) (cls : Value) (d : Option Addr) (pn : List (Addr × Obj)) (xe : Value → Shared → Prop), L2N.Zn cls d o → (∃ vs, o.data = .fields vs) → L2.Takes (sX X a ((a, o) :: pn) xe) Ws → L2H.HotC (sX X a ((a, o) :: pn) xe) → PSs (sX X a ((a, o) :: pn) xe) (b :: su) (ts a cls d)) (e : X.K = K := by rfl) :
    PS X (.Try body [.ExceptHandler (some (.Name x q1)) (some n) (b :: su) q2] [] [] pos) (tTryX K c i tb ts Wout) := by
  subst e
  exact ps_tryX st fr nd ni lo tk tks wk hb nm sp
theorem g_tryX {K : PySem.W.Frag} {c : Value} {i : Nat} {tb : WX → TS} {ts : Cls3} {Wout : WX} {D : Ends} {σ : L2.St} {H : Hp} (q : tb (wAs K c i ts Wout D) D σ H) : tTryX K c i tb ts Wout D σ H := q
/-- raise C(..) from e -/
def tRaiseF (K : PySem.W.Frag) (a : Addr) (cls : Value) (i : Nat) (W : WX) (C : Addr) (sp : Sp) (ta : TA) : TS := fun _ σ H => tMkO C sp [] ta σ H fun cls' d' H' => σ[i]? = some (some (.ref a)) ∧ PySem.W.subIn K cls (.type "BaseException") = some true ∧ W cls' d' σ H'
theorem k_raiseF {X : Cx} {W : WX} {a : Addr} {oe : Obj} {cls : Value} {d : Option Addr} {pn : List (Addr × Obj)} {xe : Value → Shared → Prop} {e : Expr} {i : Nat} {nm : Str} {cp pos : Pos} {C : Addr} {sp : Sp} {ta : TA} (K : PySem.W.Frag)
    (hz : L2N.Zn cls d oe) (hf : ∃ vs, oe.data = .fields vs) (tk : L2.Takes (sX X a ((a, oe) :: pn) xe) W) (he : L2H.PMk5 (sX X a ((a, oe) :: pn) xe) e (tMkO C sp [] ta)) (hi : X.N[i]? = some nm) (hv : X.env.kindOf nm = some .local) (ek : X.K = K := by rfl) (hd : (nm == ("__debug__" : Str)) = false := by decide) :
    PS (sX X a ((a, oe) :: pn) xe) (.Raise (some e) (some (.Name nm cp)) pos) (tRaiseF K a cls i W C sp ta) := by
  subst ek
  exact ps_raiseFE hz hf tk he hi hv hd
theorem g_raiseF {K : PySem.W.Frag} {a : Addr} {cls : Value} {i : Nat} {W : WX} {C : Addr} {sp : Sp} {ta : TA} {D : Ends} {σ : L2.St} {H : Hp} (hs : σ[i]? = some (some (.ref a))) (hb : PySem.W.subIn K cls (.type "BaseException") = some true) (q : ta σ H fun vs H1 => kMk C sp vs H1 fun cls d H' => W cls d σ H') : tRaiseF K a cls i W C sp ta D σ H := by
  have key : (fun cls' d' H' => σ[i]? = some (some (V.ref a)) ∧ PySem.W.subIn K cls (.type "BaseException") = some true ∧ W cls' d' σ H') = fun cls' d' H' => W cls' d' σ H' := by
    funext c' d' H'
    exact propext ⟨fun z => z.2.2, fun z => ⟨hs, hb, z⟩⟩
  show tMkO C sp [] ta σ H _
  rw [key]
  exact q
end Qk
namespace Qk
open PySem PySem.Spec PyProof.Rows L2
def kDc (J : It) (g : TG) (tt : TT) (tk tv : TE) (vs : List Nat) (σ : L2.St) (H1 : Hp) (Q : VK) : Prop := ∀ D, H1 D = none → ∃ W : Nat → Nat → Hp → Prop, (∃ m, W 0 m (upd H1 D (.dK []))) ∧ ∀ i m H, W i m H →
  (J.stop i H ∧ Q (.ref D) H) ∨ (J.go i H ∧ ∃ Nx : Hp → Prop, (∀ H', Nx H' → ∃ m', m' < m ∧ W (i + 1) m' H') ∧ ∀ x H', J.yld i H x H' → g x (wipe σ vs) H' fun σ2 H2 => wipe σ2 vs = wipe σ vs ∧ tt σ2 H2 fun b H3 =>
    if b = true then tk σ2 H3 fun y H4 => tv σ2 H4 fun z H5 => ∃ kvs k, y = kV k ∧ H5 D = some (.dK kvs) ∧ kvs.length < sizeLine ∧ Nx (upd H5 D (.dK (putK kvs k z))) else Nx H3)
def kDNx (S : Nat → List (Key × V) → Hp → Own → Prop) (i : Nat) (D : Addr) (H : Hp) : Prop := ∃ acc F' O', S (i + 1) acc F' O' ∧ Has F' ((D, .dK acc) :: O') H
def kDTurn (D : Addr) (Nx : Hp → Prop) (y z : V) (H : Hp) : Prop := ∃ kvs k, y = kV k ∧ H D = some (.dK kvs) ∧ kvs.length < sizeLine ∧ Nx (upd H D (.dK (putK kvs k z)))
def kDcL (K : PySem.W.Frag) (g : TG) (tt : TT) (tk tv : TE) (vs : List Nat) (σ : L2.St) (x : V) (H : Hp) (Q : VK) : Prop := ∃ a, x = .ref a ∧ (∃ xs, SqL K H a xs) ∧ kDc (Itl K a) g tt tk tv vs σ H Q
def kDcT (K : PySem.W.Frag) (g : TG) (tt : TT) (tk tv : TE) (vs : List Nat) (σ : L2.St) (x : V) (H : Hp) (Q : VK) : Prop := ∃ a, x = .ref a ∧ (∃ xs, SqT K H a xs) ∧ kDc (Itt K a) g tt tk tv vs σ H Q
section
variable {K : PySem.W.Frag} {σ : L2.St} {F : Hp} {O : Own} {H : Hp} {Q : VK} {ta tk tv : TE} {tt : TT} {vs : List Nat} {g : TG}
theorem g_dcL (q : ta σ H fun x H1 => kDcL K g tt tk tv vs σ x H1 Q) : tDc (iList K ta) g tt tk tv vs σ H Q := q
theorem g_dcT (q : ta σ H fun x H1 => kDcT K g tt tk tv vs σ x H1 Q) : tDc (iTup K ta) g tt tk tv vs σ H Q := q
theorem kd_turn {S : Nat → List (Key × V) → Hp → Own → Prop} {i : Nat} {D : Addr} {acc : List (Key × V)} {y z : V} {k : Key} (e : y = kV k) (h : Has F ((D, .dK acc) :: O) H) (hl : acc.length ≤ 100000) (s : S (i + 1) (putK acc k z) F O) : kDTurn D (kDNx S i D) y z H :=
  ⟨acc, k, e, h.get (List.Mem.head _), by rw [sizeLine_eq]; omega, _, F, O, s, h.put .hd⟩
theorem k_dc {J : It} (hH : Has F O H) (n : Nat) (S : Nat → List (Key × V) → Hp → Own → Prop) (h0 : S 0 [] F O)
    (go : ∀ i acc F O D H, i < n → S i acc F O → Has F ((D, .dK acc) :: O) H → J.go i H) (stop : ∀ acc F O D H, S n acc F O → Has F ((D, .dK acc) :: O) H → J.stop n H)
    (hs : ∀ i x acc F O D H H', i < n → J.yld i H x H' → S i acc F O → Has F ((D, .dK acc) :: O) H → g x (wipe σ vs) H' fun σ2 H2 => wipe σ2 vs = wipe σ vs ∧ tt σ2 H2 fun b H3 => if b = true then tk σ2 H3 fun y H4 => tv σ2 H4 fun z H5 => kDTurn D (kDNx S i D) y z H5 else kDNx S i D H3)
    (hd : ∀ acc F O D H, S n acc F O → Has F ((D, .dK acc) :: O) H → Q (.ref D) H) : kDc J g tt tk tv vs σ H Q := by
  intro D nD
  refine ⟨fun i m H => m = n - i ∧ i ≤ n ∧ ∃ acc F O, S i acc F O ∧ Has F ((D, .dK acc) :: O) H, ⟨n, by simp, Nat.zero_le _, [], F, O, h0, hH.new nD⟩, ?_⟩
  rintro i m H1 ⟨rfl, le, acc, F1, O1, s1, h1⟩
  by_cases lt : i < n
  · exact .inr ⟨go i acc F1 O1 D H1 lt s1 h1, kDNx S i D, fun H' p => ⟨n - (i + 1), by omega, rfl, lt, p⟩, fun x H' y => hs i x acc F1 O1 D H1 H' lt y s1 h1⟩
  · have e : i = n := by omega
    subst e
    exact .inl ⟨stop acc F1 O1 D H1 s1 h1, hd acc F1 O1 D H1 s1 h1⟩
end
def rSplit : V → List V → Hp → VK → Prop := fun x xs H Q => ∃ a b, x = .str a ∧ xs = [.str b] ∧ (b.length == 0) = false ∧ a.length + 2 ≤ sizeLine ∧ rNewStrs (Txt.split a b) H Q
def rStarts : V → List V → Hp → VK → Prop := fun x xs H Q => ∃ a b, x = .str a ∧ xs = [.str b] ∧ Q (.bl (Txt.startswith a b)) H
section
variable {X : Cx} {o e : Expr} {to te : TE}
theorem k_split {apos pos : Pos} (ho : PE X o to) (he : PE X e te) (hs : starEach [e] X.env = [(false, eval e X.env)] := by rfl) (hb : attributeBase o "split" X.env (eval o X.env) = eval o X.env := by rfl) (hl : (apos.endLine == pos.line) = true := by rfl) :
    PE X (.Call (.Attribute o "split" apos) [e] [] pos) (tM1 rSplit to te) := pe_split ho he hs hb hl
end
def kM1 (r : V → List V → Hp → VK → Prop) (te : TE) (σ : L2.St) (x : V) (H : Hp) (Q : VK) : Prop := (∃ a, x = .str a) ∧ te σ H fun y H2 => r x [y] H2 Q
theorem g_m1s {r : V → List V → Hp → VK → Prop} {to te : TE} {σ : L2.St} {H : Hp} {Q : VK} (q : to σ H fun x H1 => kM1 r te σ x H1 Q) : tM1 r to te σ H Q := q
theorem g_km1s {r : V → List V → Hp → VK → Prop} {te : TE} {σ : L2.St} {a : Str} {H : Hp} {Q : VK} (q : te σ H fun y H2 => r (.str a) [y] H2 Q) : kM1 r te σ (.str a) H Q := ⟨⟨a, rfl⟩, q⟩
theorem g_split {F H : Hp} {O : Own} {Q : VK} {a b : Str} (nb : (b.length == 0) = false) (la : a.length ≤ 100000) (hH : Has F O H) (q : ∀ p H', H p = none → Has F ((p, .lst ((Txt.split a b).map V.str)) :: O) H' → Q (.ref p) H') : rSplit (.str a) [.str b] H Q :=
  ⟨a, b, rfl, rfl, nb, by rw [sizeLine_eq]; omega, fun p n => q p _ n (hH.new n)⟩
theorem g_starts {H : Hp} {Q : VK} {a b : Str} (q : Q (.bl (Txt.startswith a b)) H) : rStarts (.str a) [.str b] H Q := ⟨a, b, rfl, rfl, q⟩
def kLcS (g : TG) (tt : TT) (te : TE) (vs : List Nat) (σ : L2.St) (x : V) (H : Hp) (Q : VK) : Prop := ∃ z, x = .str z ∧ kLc (Its z) g tt te vs σ H Q
theorem g_lcS {ta te : TE} {g : TG} {tt : TT} {vs : List Nat} {σ : L2.St} {H : Hp} {Q : VK} (q : ta σ H fun x H1 => kLcS g tt te vs σ x H1 Q) : tLc (iStr ta) g tt te vs σ H Q := q
def repS (z : Str) (n : Nat) : Str := ⟨(List.replicate n z.cps).foldl (· ++ ·) #[]⟩
theorem foldl_cps (z : Array Nat) : ∀ (n : Nat) (acc : Array Nat), ((List.replicate n z).foldl (· ++ ·) acc).toList = acc.toList ++ (List.replicate n z.toList).flatten
  | 0, acc => by simp
  | n + 1, acc => by
    rw [List.replicate_succ, List.foldl_cons, foldl_cps z n, Array.toList_append, List.replicate_succ, List.flatten_cons, List.append_assoc]
theorem repS_list (z : Str) (n : Nat) : (repS z n).cps.toList = (List.replicate n z.cps.toList).flatten := by
  unfold repS
  rw [foldl_cps]
  rfl
theorem repS_len (z : Str) (n : Nat) : (repS z n).length = n * z.length := by
  have h := congrArg List.length (repS_list z n)
  have e : (repS z n).cps.toList.length = (repS z n).length := Array.length_toList
  rw [e] at h
  rw [h, List.length_flatten, List.map_replicate, List.sum_replicate_nat]
  rfl
def rRepS : R2 := fun x y H Q => ∃ (z : Str) (k : Int), x = .str z ∧ y = .int k ∧ 1 ≤ k ∧ k ≤ 1000 ∧ z.length ≤ 1000 ∧ Q (.str (repS z k.toNat)) H
section
variable {X : Cx}
theorem op_repS : OpR X (binaryOp .Mult) rRepS := by
  intro pins s σ H x y v u Q I rx ry h
  obtain ⟨z, k, rfl, rfl, k1, k2, lz, q⟩ := h
  obtain ⟨t, rfl⟩ := rx
  obtain ⟨t', rfl⟩ := ry
  have e1 : decide (k < -(2 ^ 63 : Int)) = false := decide_eq_false (by omega)
  have e2 : decide (k ≥ 2 ^ 63) = false := decide_eq_false (by omega)
  have big : z.length * k.toNat ≤ 1000000 := Nat.mul_le_mul lz (m₂ := 1000) (by omega)
  refine PySem.P.mul_str (by rw [e1, e2]; rfl) (fun _ _ => ?_) (fun _ _ => ?_) ?_
  · have h1 : (z.length : Int) * k ≤ 2 ^ 63 - 1 := by
      have e : (z.length : Int) * k = ((z.length * k.toNat : Nat) : Int) := by
        rw [Int.natCast_mul, Int.toNat_of_nonneg (by omega)]
      rw [e]
      omega
    have := (Int.le_ediv_iff_mul_le (a := (z.length : Int)) (b := 2 ^ 63 - 1) (c := k) (by omega)).mpr h1
    omega
  · unfold Builtin.Str.tooLong
    simp only [decide_eq_false_iff_not]
    rw [sizeLine_eq]
    omega
  · rw [if_neg (by omega)]
    by_cases c : (k == 1 || z.length == 0) = true
    · rw [if_pos c]
      have e : repS z k.toNat = z := by
        have hl := repS_list z k.toNat
        have : (repS z k.toNat).cps = z.cps := by
          apply Array.ext'
          rw [hl]
          rcases Bool.or_eq_true _ _ ▸ c with c | c
          · have : k = 1 := by simpa using c
            subst this
            simp
          · have c : z.length = 0 := by simpa using c
            have : z.cps.toList = [] := List.eq_nil_of_length_eq_zero (by rw [Array.length_toList]; exact c)
            rw [this]
            simp
        cases z
        exact congrArg Str.mk this
      rw [e] at q
      exact ⟨.str z, H, I, ⟨_, rfl⟩, q⟩
    · rw [if_neg c]
      refine ⟨?_, .str _, H, I.tok _, ⟨_, rfl⟩, q⟩
      have l := repS_len z k.toNat
      have l2 : (repS z k.toNat).length ≤ 1000000 := by rw [l, Nat.mul_comm]; exact big
      rw [sizeLine_eq]
      exact Nat.le_trans l2 (by decide)
end
end Qk
namespace Qk
open PySem PySem.Spec PyProof.Rows L2
/-- S of what stands still once the dict is free again -/
def lkS {α : Type} (d : Addr) (od : Obj) (u : HO) (S : Nat → α → Hp → Own → Prop) : Nat → α → Hp → Own → Prop := fun t acc G O => ∃ F', G = upd F' d (.frz od u) ∧ F' d = some u ∧ S t acc F' O
theorem upd_eta {H : Hp} {d : Addr} {o : HO} (e : H d = some o) : upd H d o = H := by
  funext b
  by_cases c : b = d
  · subst c
    rw [upd_same, e]
  · rw [upd_ne c]
theorem lk_turn {α : Type} {d : Addr} {od : Obj} {u : HO} {S : Nat → α → Hp → Own → Prop} {t : Nat} {acc : α} {G : Hp} {O : Own} (e : G d = some (.frz od u)) (s : S t acc (upd G d u) O) : lkS d od u S t acc G O :=
  ⟨upd G d u, by rw [upd_upd, upd_eta e], upd_same, s⟩
end Qk
namespace Qk
open PySem PySem.Spec PyProof.Rows L2
def GoneO (it : Addr) : HO := HO.ext fun h => ∃ o, h.get? it = some o
theorem gone_ok {P : Program} {w : World} {H : Hp} {h : Heap} {it : Addr} (e : ∃ o, h.get? it = some o) : ObjOk P w H h it (GoneO it) := ⟨e, e, fun h1 h2 ⟨o, ho⟩ s => ⟨o, s o ho⟩⟩
end Qk
namespace Qk
open PySem PySem.Spec PyProof.Rows L2
open Sem (wp)
def Dead (b : Addr) (h : Heap) : Prop := b < h.objs.size ∧ h.get? b = none
theorem Dead.push {b : Addr} {h : Heap} {o : Obj} (d : Dead b h) : Dead b (h.push o) := by
  refine ⟨?_, ?_⟩
  · show b < (h.push o).objs.size
    rw [Heap.objs_push]
    exact Nat.lt_trans d.1 (by rw [Array.size_push]; exact Nat.lt_succ_self _)
  · rw [Heap.get?_push_ne h b o (Nat.ne_of_lt d.1)]
    exact d.2
theorem Dead.update {b a : Addr} {h : Heap} {f : Obj → Obj} (d : Dead b h) (ha : (h.get? a).isSome) : Dead b (h.update a f) := by
  have ne : a ≠ b := fun e => by
    subst e
    rw [d.2] at ha
    cases ha
  refine ⟨?_, (Heap.get?_update_other _ _ ne).trans d.2⟩
  have : (h.update a f).objs.size = h.objs.size := by
    first
      | exact Heap.update_size _ _ _
      | exact Heap.size_update _ _ _
      | simp [Heap.update]
  rw [this]
  exact d.1
end Qk
namespace Qk
open PySem PySem.Spec PyProof.Rows L2 PySem.W
open Sem (wp)
/-- what the class's text must have -/
structure OwnOp (K : PySem.W.Frag) (C : Addr) (name : Str) (f : Addr) : Prop where
  at_ : PySem.W.findIn K (.ref C) name = some (some (.ref f))
  fn : PySem.W.isFn K (.ref f) = true
/-- x op y of two instances of one class -/
def rOwnD (C : Addr) (sp : Sp) (E : XK) : R2 := fun x y H Q => ∃ a dx fs b dy gs, x = .ref a ∧ y = .ref b ∧ H a = some (.ins C dx fs) ∧ H b = some (.ins C dy gs) ∧ sp [x, y] H Q E
/-- x in y, y an instance of the class -/
def rInD (C : Addr) (sp : Sp) (E : XK) : R2 := fun x y H Q => ∃ a dx fs, y = .ref a ∧ H a = some (.ins C dx fs) ∧ sp [y, x] H (fun v H' => ∃ b, v = .bl b ∧ Q v H') E
section
variable {X : Cx} {CI : CXT} {C f : Addr} {fdI : FuncData} {psI : List Str} {sp : Sp} {EI : XK} {n : Nat}
theorem op_eqD (o : OwnOp X.K C "__eq__" f) (F : FnOk X.prog X.w X.K X.mg X.base CI n f fdI psI sp) (bd : L2.Binds X.K fdI psI []) (pass : Passes CI X EI) (room : Room n X.A) : OpR X (compareOp .Eq) (rOwnD C sp EI) := by
  intro pins s σ H x y v u Q I rx ry h
  obtain ⟨a, dx, fs, b, dy, gs, rfl, rfl, ha, hb, hs⟩ := h
  cases (show v = Value.ref a from rx)
  cases (show u = Value.ref b from ry)
  obtain ⟨mA, om, _⟩ := ins_get I.hok ha
  obtain ⟨od, J, _⟩ := om.look
  obtain ⟨mB, om', _⟩ := ins_get I.hok hb
  obtain ⟨od', J', _⟩ := om'.look
  obtain ⟨m, hF⟩ := I.fr
  show wpAny _ _ (richCompare .Eq (.ref a) (.ref b)) _ _ s
  refine PySem.W.cmp_K (op := .Eq) (tb := .ref C) room.units0 hF I.ok.mod.kin J J'.type (by unfold PySem.W.notFirst; simp) o.at_ o.fn ?_
  refine wpAny_mono (run_fn (vs := [.ref a, .ref b]) (us := [.ref a, .ref b]) (ds := []) (dvs := []) F room bd .nil pass I (.cons rfl (.cons rfl .nil)) (by simpa using hs)) (fun w s' z => ?_) fun _ _ x => x
  obtain ⟨z', H', I', rz, qz⟩ := z
  exact SlX.cmpback rz ⟨z', H', I', rz, qz⟩
theorem op_inD (o : OwnOp X.K C "__contains__" f) (F : FnOk X.prog X.w X.K X.mg X.base CI n f fdI psI sp) (bd : L2.Binds X.K fdI psI []) (pass : Passes CI X EI) (room : Room n X.A) : OpR X (compareOp .In) (rInD C sp EI) := by
  intro pins s σ H x y v u Q I rx ry h
  obtain ⟨a, dx, fs, rfl, ha, hs⟩ := h
  cases (show u = Value.ref a from ry)
  obtain ⟨mA, om, _⟩ := ins_get I.hok ha
  obtain ⟨od, J, _⟩ := om.look
  have kin := I.kIn
  have L1 : Looks (model X.prog X.w) s.heap (specialOf (.ref a) "__contains__") (some (.ref f)) := by
    unfold specialOf
    exact J.type.andThen (PySem.W.looks_findIn kin o.at_)
  show wpAny _ _ (contains (.ref a) v >>= fun b => pure (Value.bool b)) _ _ s
  refine wpAny_bind ?_
  unfold contains
  refine wpAny_holding ?_
  simp only [stdlibNamesSay?]
  refine wpAny_bind (L1.here ?_)
  rw [if_neg (by simp)]
  unfold callSpecialUnlessNone?
  refine wpAny_bind (wpAny_bind (L1.here (wpAny_holding (wpAny_bind ((bind_fn kin _ (beq_iff_eq.mp o.fn)).here ?_)))))
  simp only [List.append_nil, List.singleton_append]
  rw [if_neg (by simp)]
  refine wpAny_bind (wpAny_mono (run_fn (Q := fun v H' => ∃ b, v = .bl b ∧ Q v H') (vs := [.ref a, x]) (us := [.ref a, v]) (ds := []) (dvs := []) F room bd .nil pass I (.cons rfl (.cons rx .nil)) (by simpa using hs)) (fun w s' z => ?_) fun _ _ x => x)
  obtain ⟨z', H', I', rz, b, rfl, qz⟩ := z
  cases (show w = Value.bool b from rz)
  exact wpAny_pure (wpAny_pure (wpAny_pure ⟨V.bl b, H', I', rfl, qz⟩))
end
end Qk
namespace Qk
open PySem PySem.Spec PyProof.Rows L2
section
variable {σ : L2.St} {F H : Hp} {O : Own} {Q : VK} {tk tv : TE} {tt : TT} {vs : List Nat} {g : TG} {ts : TS} {D : Ends} {d : Addr} {kvs : List (Key × V)}
theorem k_forItK {i : Nat} (hv : σ[i]? = some (some (.ref d))) (fd : F d = some (.dK kvs)) (hH : Has F O H) (S : Nat → L2.St → Own → Prop) (h0 : S 0 σ O)
    (hs : ∀ t k v p σ O H od, kvs[t]? = some (k, v) → S t σ O → Has (upd F d (.frz od (.dK kvs))) ((p, .tup [kV k, v]) :: O) H → g (.ref p) σ H fun σ2 H2 => ts { lockD d od (.dK kvs) D with nx := fun σ' H' => ∃ O', S (t + 1) σ' O' ∧ Has (upd F d (.frz od (.dK kvs))) O' H', ct := fun σ' H' => ∃ O', S (t + 1) σ' O' ∧ Has (upd F d (.frz od (.dK kvs))) O' H', bk := (lockD d od (.dK kvs) D).nx } σ2 H2)
    (hd : ∀ σ O H, S kvs.length σ O → Has F O H → D.nx σ H) : tLock (tFor (iItems (tVar i)) g ts) D σ H := by
  refine ⟨d, .dK kvs, hH.same _ _ fd, trivial, fun od => ⟨.ref d, hv, d, od, kvs, rfl, upd_same, ?_⟩⟩
  refine ⟨fun t m σ' H' => m = kvs.length - t ∧ t ≤ kvs.length ∧ ∃ O', S t σ' O' ∧ Has (upd F d (.frz od (.dK kvs))) O' H', ⟨_, rfl, Nat.zero_le _, O, h0, hH.lock fd⟩, ?_⟩
  rintro t m σ' H1 ⟨rfl, le, O', s, h⟩
  by_cases lt : t < kvs.length
  · refine .inr ⟨⟨h.same _ _ upd_same, lt⟩, (fun σ' H' => ∃ O', S (t + 1) σ' O' ∧ Has (upd F d (.frz od (.dK kvs))) O' H'), fun σ2 H2 ⟨O2, s2, h2⟩ => ⟨kvs.length - (t + 1), by omega, rfl, lt, O2, s2, h2⟩, ?_⟩
    rintro x H2 ⟨T, k, v, e, rfl, nT, rfl⟩
    exact hs t k v T σ' O' _ od e s (h.new nT)
  · have e : t = kvs.length := by omega
    subst e
    have h2 := h.unlock (od := od) (u := .dK kvs) upd_same
    rw [upd_upd, upd_eta fd] at h2
    exact .inl ⟨⟨h.same _ _ upd_same, Nat.le_refl _⟩, h.same _ _ upd_same, hd σ' O' _ s h2⟩
theorem k_dcItK {i : Nat} (hv : σ[i]? = some (some (.ref d))) (fd : F d = some (.dK kvs)) (hH : Has F O H) (S : Nat → List (Key × V) → Hp → Own → Prop) (h0 : S 0 [] F O)
    (hs : ∀ t k v p acc F' O' D H od, kvs[t]? = some (k, v) → S t acc F' O' → F' d = some (.dK kvs) → Has (upd F' d (.frz od (.dK kvs))) ((p, .tup [kV k, v]) :: (D, .dK acc) :: O') H →
      g (.ref p) (wipe σ vs) H fun σ2 H2 => wipe σ2 vs = wipe σ vs ∧ tt σ2 H2 fun b H3 => if b = true then tk σ2 H3 fun y H4 => tv σ2 H4 fun z H5 => kDTurn D (kDNx (lkS d od (.dK kvs) S) t D) y z H5 else kDNx (lkS d od (.dK kvs) S) t D H3)
    (hd : ∀ acc F' O' D H, S kvs.length acc F' O' → Has F' ((D, .dK acc) :: O') H → Q (.ref D) H) : tLockE (tDc (iItems (tVar i)) g tt tk tv vs) σ H Q := by
  refine ⟨d, .dK kvs, hH.same _ _ fd, trivial, fun od => ⟨.ref d, hv, d, od, kvs, rfl, upd_same, ?_⟩⟩
  show kDc (Iti d od kvs) g tt tk tv vs σ (upd H d (.frz od (.dK kvs))) (fun v H' => H' d = some (.frz od (.dK kvs)) ∧ Q v (upd H' d (.dK kvs)))
  refine k_dc (hH.lock fd) kvs.length (lkS d od (.dK kvs) S) ⟨F, rfl, fd, h0⟩ ?_ ?_ ?_ ?_
  · rintro t acc G O' D H' lt ⟨F', rfl, _, _⟩ hh
    exact ⟨hh.same _ _ upd_same, lt⟩
  · rintro acc G O' D H' ⟨F', rfl, _, _⟩ hh
    exact ⟨hh.same _ _ upd_same, Nat.le_refl _⟩
  · rintro t x acc G O' D H1 H' lt ⟨T, k, v, e, rfl, nT, rfl⟩ ⟨F', rfl, fd', s⟩ hh
    exact hs t k v T acc F' O' D _ od e s fd' (hh.new nT)
  · rintro acc G O' D H' ⟨F', rfl, fd', s⟩ hh
    have h2 := hh.unlock (od := od) (u := .dK kvs) upd_same
    rw [upd_upd, upd_eta fd'] at h2
    exact ⟨hh.same _ _ upd_same, hd acc F' O' D _ s h2⟩
end
end Qk
namespace Qk
open PySem PySem.Spec PyProof.Rows L2
def rDictC : List V → Hp → VK → Prop := fun xs H Q => ∃ (a : Addr) (kvs : List (Key × V)), xs = [.ref a] ∧ H a = some (.dK kvs) ∧ ∀ p, H p = none → Q (.ref p) (upd H p (.dK kvs))
theorem cr_dictC {X : Cx} : CallR X (.type "dict") rDictC := by
  intro pins s σ H xs us Q I r q
  obtain ⟨a, kvs, ex, hq, q⟩ := q
  subst ex
  obtain ⟨u, eu, rx⟩ := vals1 r
  subst eu
  cases rx
  obtain ⟨hz, ha, vs, rel, hd⟩ := dk_of I.hok hq
  refine kt_call_dict ha hd (by rw [← rel.length]; exact hz) fun h' hd' sb => ?_
  have hm : (s.heap.objs.size == sysModules) = false := beq_eq_false_iff_ne.mpr (Nat.ne_of_gt I.big)
  have k : ∀ b o, s.heap.get? b = some o → h'.get? b = some o := fun b o e => by
    have lt := Heap.lt_size e
    exact (sb.2 _ (Nat.ne_of_lt lt)).trans (Heap.get?_push_of_some _ e)
  exact ⟨.ref s.heap.objs.size, upd H s.heap.objs.size (.dK kvs), I.laid (t' := s.toks) k (Nat.le_refl _) (show ObjOk X.prog X.w _ _ _ (.dK kvs) from ⟨hz, hm, vs, rel, hd'⟩), rfl, q _ (I.hok.fresh (Nat.le_refl _))⟩
theorem g_dictC {F H : Hp} {O : Own} {Q : VK} {a : Addr} {kvs : List (Key × V)} (h : H a = some (.dK kvs)) (hH : Has F O H) (q : ∀ p H', H p = none → Has F ((p, .dK kvs) :: O) H' → Q (.ref p) H') : rDictC [.ref a] H Q :=
  ⟨a, kvs, rfl, h, fun p n => q p _ n (hH.new n)⟩
end Qk
namespace Qk
open PySem PySem.Spec PyProof.Rows L2 PyProof.V PySem.Calls PySem.W
open Sem (wp)
def rCnt (K : PySem.W.Frag) : V → List V → Hp → VK → Prop := fun x xs H Q => ∃ (a : Addr) (ys : List V) (y : V), x = V.ref a ∧ xs = [y] ∧ SqL K H a ys ∧ flatV y = true ∧ ys.all flatV = true ∧ Q (.int (ys.countP (fun z => eqV z y) : Nat)) H
theorem cnt_vals {y : V} : ∀ {ys : List V} {us : List Value}, Vals ys us → ys.all flatV = true → us.countP (eqU y) = ys.countP (fun z => eqV z y)
  | _, _, .nil, _ => rfl
  | z :: ys, u :: us, .cons h t, f => by
    rw [List.all_cons, Bool.and_eq_true] at f
    rw [List.countP_cons, List.countP_cons, cnt_vals t f.2, eqU_of h f.1]
theorem mt_cnt (K : PySem.W.Frag) {X : Cx} (e : X.K = K := by rfl) : MtR X "list.count" (rCnt K) := by
  subst e
  intro pins s σ H x xs v us Q I rx rxs h
  obtain ⟨a, ys, y, rfl, rfl, hs, fy, fys, q⟩ := h
  cases rx
  obtain ⟨u, rfl, ry⟩ := rxs.one
  obtain ⟨its, rv, ⟨⟨cls, dd, data, sl⟩, n, ho, hc, hdn, hd⟩, hlen⟩ := I.list hs
  simp only at hc hd
  subst hc hd
  refine call_meets PySem.F.slot_list_count ⟨_, ho, rfl⟩ PySem.F.entry_list_count (PySem.F.args_list_count_2 _ _)
    (SeqAt.list_countAt a its.toArray n dd sl u (eqU y)) ⟨ho, fun u' hu' => mem_eqAt ry fy rv fys u' (by simpa using hu'), ?_⟩
  refine ⟨.int (ys.countP (fun z => eqV z y) : Nat), H, I.tok _, ⟨s.toks, ?_⟩, q⟩
  show Value.int ((its.toArray.toList.countP (eqU y) : Nat) : Int) s.toks = _
  have e : its.toArray.toList.countP (eqU y) = ys.countP (fun z => eqV z y) := cnt_vals rv fys
  rw [e]
theorem mt_idxA (K : PySem.W.Frag) {X : Cx} (e : X.K = K := by rfl) : MtR X "list.index" (rIndex K) := by
  subst e
  exact mt_index
theorem rcP_dictsNe {prog : Program} {w : World} {K : Type} [DecidableEq K] {knd : KeyKind prog w K} {A : Around} {s : Shared} {a b : Addr} {ka kb : List (K × Value)} {r : Bool} (ha : (a == sysModules) = false) (hb : (b == sysModules) = false)
    (da : s.heap.DictOf knd a ka) (db : s.heap.DictOf knd b kb) (hu : A.units < cLine) (hits : ka.length = kb.length → PySem.W.KeqHitsP prog w A.in1 s kb ka r) (E Q : Value → Shared → Prop) (h : Q (.bool (!(ka.length == kb.length && r))) s) : wpAny (model prog w) A (richCompare .NotEq (.ref a) (.ref b)) Q E s := by
  refine wpAny_richCompare_same_room (op := .NotEq) da.typeIs db.typeIs PySem.F.slot_dict_ne (wpAny_call_entry PySem.F.slot_dict_ne da.typeIs PySem.F.entry_dict_ne ?_ (PySem.F.args_dict_ne_2 _ _)) hu
  show wpAny _ _ (Builtin.Dict.dictSlotArgs "__ne__" ⟨[.ref a, .ref b], []⟩ >>= _) _ _ s
  refine wpAny_bind ?_
  unfold Builtin.Dict.dictSlotArgs
  refine wpAny_bind (wpAny_notOrdered_dict da.typeIs ?_)
  show wpAny _ _ (pure (Value.ref a, Value.ref b)) _ _ s
  refine wpAny_pure ?_
  refine wpAny_bind (wpAny_isInstance (T := "dict") db.typeIs PySem.F.sub_dict_dict ?_)
  simp only [Bool.not_true, Bool.false_eq_true, if_false]
  refine wpAny_bind (wpAny_pure (wpAny_bind (wpAny_pure ?_)))
  refine wpAny_bind (PySem.W.samePairsP ha hb da db hits ?_)
  refine wpAny_pure ⟨_, rfl, ?_, ?_⟩
  · exact fun x => nomatch x
  · simpa using h
/-- two dicts of equal things -/
def EqDV (K : PySem.W.Frag) (H : Hp) (x y : V) : Prop := ∃ n a b ks ls, n ≤ 60 ∧ x = .ref a ∧ y = .ref b ∧ H a = some (.dK ks) ∧ H b = some (.dK ls) ∧ ks.length = ls.length ∧ ∀ p ∈ ks, ∃ u, valV ls p.1 = some u ∧ EqV K H n p.2 u
def rEqDV (K : PySem.W.Frag) : R2 := fun x y H Q => EqDV K H x y ∧ Q (.bl true) H
def rNeDV (K : PySem.W.Frag) : R2 := fun x y H Q => EqDV K H x y ∧ Q (.bl false) H
theorem op_eqDV {X : Cx} (hu : X.A.units + 64 < cLine) : OpR X (compareOp .Eq) (rEqDV X.K) := by
  intro pins s σ H x y v u Q I rx ry h
  obtain ⟨⟨n, a, b, ks, ls, hn, rfl, rfl, ha, hb, hl, hp⟩, q⟩ := h
  exact op_eqV hu pins s σ H _ _ v u Q I rx ry ⟨n, hn, .inr ⟨a, b, ks, ls, rfl, rfl, ha, hb, hl, hp⟩, q⟩
theorem op_neDV {X : Cx} (hu : X.A.units + 64 < cLine) : OpR X (compareOp .NotEq) (rNeDV X.K) := by
  intro pins s σ H x y v u Q I rx ry h
  obtain ⟨⟨n, a, b, ks, ls, hn, rfl, rfl, ha, hb, hl, hp⟩, q⟩ := h
  cases (show v = Value.ref a from rx)
  cases (show u = Value.ref b from ry)
  obtain ⟨_, ya, va, ra, da⟩ := (show ObjOk X.prog X.w H s.heap a (.dK ks) from I.hok a _ ha)
  obtain ⟨_, yb, vb, rb, db⟩ := (show ObjOk X.prog X.w H s.heap b (.dK ls) from I.hok b _ hb)
  refine rcP_dictsNe (knd := mixKind X.prog X.w) (r := true) ya yb da db (by omega) (fun _ => hits_run (fun x y v u h => eqV_run I n X.A.in1 (by show X.A.units + 1 + n < cLine; omega) x y v u h) rb ra hp) _ _ ⟨.bl false, H, I, ?_, q⟩
  have e : va.length = vb.length := by rw [← ra.length, ← rb.length]; exact hl
  rw [show (!(va.length == vb.length && true)) = false from by rw [e]; simp]
  exact rfl
def rEqM (K : PySem.W.Frag) : R2 := fun x y H Q => rEqA K x y H Q ∨ rEqDV K x y H Q
def rNeM (K : PySem.W.Frag) : R2 := fun x y H Q => rNeA K x y H Q ∨ rNeDV K x y H Q
theorem op_eqM (K : PySem.W.Frag) {X : Cx} (hu : X.A.units + 64 < cLine) (e : X.K = K := by rfl) : OpR X (compareOp .Eq) (rEqM K) := by
  subst e
  intro pins s σ H x y v u Q I rx ry h
  rcases h with h | h
  · exact op_eqA hu pins s σ H x y v u Q I rx ry h
  · exact op_eqDV hu pins s σ H x y v u Q I rx ry h
theorem op_neM (K : PySem.W.Frag) {X : Cx} (hu : X.A.units + 64 < cLine) (e : X.K = K := by rfl) : OpR X (compareOp .NotEq) (rNeM K) := by
  subst e
  intro pins s σ H x y v u Q I rx ry h
  rcases h with h | h
  · exact op_neA hu pins s σ H x y v u Q I rx ry h
  · exact op_neDV hu pins s σ H x y v u Q I rx ry h
section
variable {X : Cx} {CI : CXT} {C f : Addr} {fdI : FuncData} {psI : List Str} {sp : Sp} {EI : XK} {n : Nat}
def rNotInD (C : Addr) (sp : Sp) (E : XK) : R2 := fun x y H Q => ∃ a dx fs, y = .ref a ∧ H a = some (.ins C dx fs) ∧ sp [y, x] H (fun v H' => ∃ b, v = .bl b ∧ Q (.bl (!b)) H') E
theorem op_notinD (o : OwnOp X.K C "__contains__" f) (F : FnOk X.prog X.w X.K X.mg X.base CI n f fdI psI sp) (bd : L2.Binds X.K fdI psI []) (pass : Passes CI X EI) (room : Room n X.A) : OpR X (compareOp .NotIn) (rNotInD C sp EI) := by
  intro pins s σ H x y v u Q I rx ry h
  obtain ⟨a, dx, fs, rfl, ha, hs⟩ := h
  cases (show u = Value.ref a from ry)
  obtain ⟨mA, om, _⟩ := ins_get I.hok ha
  obtain ⟨od, J, _⟩ := om.look
  have kin := I.kIn
  have L1 : Looks (model X.prog X.w) s.heap (specialOf (.ref a) "__contains__") (some (.ref f)) := by
    unfold specialOf
    exact J.type.andThen (PySem.W.looks_findIn kin o.at_)
  show wpAny _ _ (contains (.ref a) v >>= fun b => pure (Value.bool (!b))) _ _ s
  refine wpAny_bind ?_
  unfold contains
  refine wpAny_holding ?_
  simp only [stdlibNamesSay?]
  refine wpAny_bind (L1.here ?_)
  rw [if_neg (by simp)]
  unfold callSpecialUnlessNone?
  refine wpAny_bind (wpAny_bind (L1.here (wpAny_holding (wpAny_bind ((bind_fn kin _ (beq_iff_eq.mp o.fn)).here ?_)))))
  simp only [List.append_nil, List.singleton_append]
  rw [if_neg (by simp)]
  refine wpAny_bind (wpAny_mono (run_fn (Q := fun v H' => ∃ b, v = .bl b ∧ Q (.bl (!b)) H') (vs := [.ref a, x]) (us := [.ref a, v]) (ds := []) (dvs := []) F room bd .nil pass I (.cons rfl (.cons rx .nil)) (by simpa using hs)) (fun w s' z => ?_) fun _ _ x => x)
  obtain ⟨z', H', I', rz, b, rfl, qz⟩ := z
  cases (show w = Value.bool b from rz)
  exact wpAny_pure (wpAny_pure (wpAny_pure ⟨V.bl (!b), H', I', rfl, qz⟩))
end
def rRepZ : R2 := fun x y H Q => ∃ (z : Str) (k : Int), x = .str z ∧ y = .int k ∧ 0 ≤ k ∧ k ≤ 1000 ∧ z.length ≤ 1000 ∧ Q (.str (repS z k.toNat)) H
theorem op_repZ {X : Cx} : OpR X (binaryOp .Mult) rRepZ := by
  intro pins s σ H x y v u Q I rx ry h
  obtain ⟨z, k, rfl, rfl, k1, k2, lz, q⟩ := h
  by_cases k0 : k = 0
  · subst k0
    obtain ⟨t, rfl⟩ := rx
    obtain ⟨t', rfl⟩ := ry
    refine PySem.P.mul_str (by rfl) (fun h _ => ?_) (fun h _ => ?_) ?_
    · exact absurd h (by decide)
    · exact absurd h (by decide)
    · rw [if_pos (by omega)]
      have e : repS z (Int.toNat 0) = "" := by
        have hl := repS_list z 0
        have : (repS z 0).cps = ("" : Str).cps := by
          apply Array.ext'
          rw [hl]
          rfl
        show repS z 0 = ""
        cases h : repS z 0
        rw [h] at this
        exact congrArg Str.mk this
      rw [e] at q
      exact ⟨Nat.zero_le _, .str "", H, I.tok _, ⟨_, rfl⟩, q⟩
  · exact op_repS pins s σ H _ _ v u Q I rx ry ⟨z, k, rfl, rfl, by omega, k2, lz, q⟩
end Qk
set_option maxHeartbeats 2000000
namespace Qk
open PySem PySem.Spec PyProof.Rows L2 HotX L2H
/-- what a def promises that is handed the error: its place, its class, its dict -/
abbrev SpX := Addr → Value → Option Addr → Sp
structure FnX (P : Program) (w : World) (K : PySem.W.Frag) (mg : Str → Option Value) (base : Heap) (k : Nat) (f : Addr) (fd : FuncData) (ps : List Str) (sx : SpX) : Prop where
  lenX : ∀ a c d vs H Q E, sx a c d vs H Q E → vs.length = ps.length
  runX : ∀ (B : Around) (out : List Env) (t : Shared) (H : Hp) (ar : Args) (us : List Value) (vs : List V) (Q : VK) (E : XK) (p : Addr × Obj) (c : Value) (d : Option Addr), RoomH k B → (∃ vs, p.2.data = .fields vs) → PinOk out H t p → L2.Zc c d p.2 → Env0 P w K mg base B out t H → BindsTo t fd ar (ps.zip us) → Vals vs us → sx p.1 c d vs H Q E →
    codeAny (model P w) B (.call (.ref f) ar) (CR CX0 out P w H t Q E) t
theorem fn_ofX {P : Program} {w : World} {K : PySem.W.Frag} {mg : Str → Option Value} {base : Heap} {k : Nat} {f : Addr} {nm ql : Str} {pr : Arguments} {bd : List Stmt} {sc : Scope} {v1 v2 v3 v4 cv ct v5 : Value} {an od : Option Addr} {sl : Array (Option Value)} {N ps : List Str} {sx : SpX}
    (lk : K.lookup f = some ⟨v5, od, .func (PySem.W.fnOf nm ql pr bd sc v1 v2 v3 v4 an cv ct), sl⟩) (cd : PySem.W.codeIn K cv ql = true) (S : FnScope N ps sc) (ln : ∀ a c d vs H Q E, sx a c d vs H Q E → vs.length = ps.length)
    (hb : ∀ (B : Around) (out : List Env) (t : Shared) (H : Hp) (vs : List V) (Q : VK) (E : XK) (p : Addr × Obj) (c : Value) (d : Option Addr), (∃ vs, p.2.data = .fields vs) → L2.Zc c d p.2 → RoomH k (B.deeper (envOfC ql sc t.heap.objs.size f cv)) → sx p.1 c d vs H Q E →
      ∃ tb, PSs (cxH CX0 P w K mg base N ql sc f cv B out t H E p) bd tb ∧ tb { nx := fun _ H' => Q .non H', rt := Q } (L2.start N vs) H) :
    FnX P w K mg base (k + 1) f (PySem.W.fnOf nm ql pr bd sc v1 v2 v3 v4 an cv ct) ps sx :=
  ⟨ln, fun B out t H ar us vs Q E p c d rm hot pin zc e0 bt rv hs => by
    have lv := ln _ _ _ _ _ _ _ hs
    have kh : K.In t.heap := e0.mod.kin.keeps fun b o e => (e0.bs b o e).1
    have lm : t.heap.NoLimit := e0.mod.nolimit.keeps fun b o e => (e0.bs b o e).1
    have kd : ∀ y ∈ ps.zip us, sc.names.lookup y.1 = some .local ∨ (sc.names.lookup y.1 = some .cell ∧ ((cellsFrom (t.heap.objs.size + 1) sc.names []).lookup y.1).isSome = true) := by
      rintro ⟨n, v⟩ hy
      exact (S.par n (List.of_mem_zip hy).1).elim .inl fun q => .inr ⟨q, PySem.W.cellsFrom_some _ _ _ (.inl q)⟩
    refine codeAny_call_function rm.depth (kh _ _ lk) rfl S.co S.gen rfl (PySem.W.codeRec_of kh cd) (bt _ _ _ _ ?_)
    refine wpAny_newFunctionEnv_cells S.kind kd fun en he t1 x => ?_
    subst he
    obtain ⟨tb, ht, hq⟩ := hb B out t H vs Q E p c d hot zc (rm.deeper _) hs
    have J : Inv (cxH CX0 P w K mg base N ql sc f cv B out t H E p) [] (L2.start N vs) H t1 := inv_startH S pin e0 lv rv x
    refine ⟨lm.keeps x.toInCall.keep, codeAny_func (wpAny_mono (ht.run [] t1 (L2.start N vs) H _ J hq) (fun fl t2 hz => ?_) fun e t2 hz => hz)⟩
    have fin : ∀ {σ2 : L2.St} {H2 : Hp} {v : V} {u : Value}, Inv (cxH CX0 P w K mg base N ql sc f cv B out t H E p) [] σ2 H2 t2 → RelV v u → Q v H2 → CE out P w H t Q u t2 :=
      fun {σ2 H2 v u} I2 r2 q2 => ⟨v, H2, I2.os, I2.bare, I2.base, I2.hok, r2, q2⟩
    match fl, hz with
    | .ret u, ⟨v, σ2, H2, I2, r2, q2⟩ => exact fin I2 r2 q2
    | .next, ⟨σ2, H2, I2, q2⟩ => exact fin (v := V.non) (u := Value.none) I2 rfl q2
    | .brk, hz => exact (by obtain ⟨_, _, _, q⟩ := hz; exact q.elim)
    | .cont, hz => exact (by obtain ⟨_, _, _, q⟩ := hz; exact q.elim)⟩
theorem Fun.okX {P : Program} {w : World} {K : PySem.W.Frag} {mg : Str → Option Value} {base : Heap} {x qual : Str} {st : Stmt} {f : Addr} {fd : FuncData} {N ps : List Str} {k : Nat} {sx : SpX} (F : Fun K x qual st f fd) (S : FnScope N ps (defScope st)) (ln : ∀ a c d vs H Q E, sx a c d vs H Q E → vs.length = ps.length)
    (hb : ∀ (cv : Value) (B : Around) (out : List Env) (t : Shared) (H : Hp) (vs : List V) (Q : VK) (E : XK) (p : Addr × Obj) (c : Value) (d : Option Addr), (∃ vs, p.2.data = .fields vs) → L2.Zc c d p.2 → RoomH k (B.deeper (envOfC qual (defScope st) t.heap.objs.size f cv)) → sx p.1 c d vs H Q E →
      ∃ tb, PSs (cxH CX0 P w K mg base N qual (defScope st) f cv B out t H E p) (defBody st) tb ∧ tb { nx := fun _ H' => Q .non H', rt := Q } (L2.start N vs) H) : FnX P w K mg base (k + 1) f fd ps sx := by
  obtain ⟨oc, od, kV, doc, pm, an, cdv, ct, osl, rfl, lk, hcd⟩ := F.ex
  exact fn_ofX lk hcd S ln fun B out t H vs Q E p c d hf zc hr hs => hb cdv B out t H vs Q E p c d hf zc hr hs
section
variable {X : Cx} {k : Nat} {f : Addr} {fd : FuncData} {ps : List Str} {sx : SpX} {x : Str} {q pos : Pos} {e : Expr} {es : List Expr} {t : TA} {a : Addr} {oe : Obj} {cls : Value} {d : Option Addr} {pn : List (Addr × Obj)}
theorem run_fnX {X : Cx} {pins : List (Addr × Obj)} {σ : L2.St} {H : Hp} {s : Shared} {Q : VK} {us : List Value} {vs : List V} {p : Addr × Obj} (F : FnX X.prog X.w X.K X.mg X.base k f fd ps sx) (hr : RoomH k X.A) (hot : ∃ vs, p.2.data = .fields vs) (hp : p ∈ X.pn) (zc : L2.Zc cls d p.2) (hb : Binds X.K fd ps [])
    (I : Inv X pins σ H s) (r : Vals vs us) (h : sx p.1 cls d vs H Q E0) : wpAny (model X.prog X.w) X.A (call (.ref f) us) (EP X pins σ Q) X.xe s := by
  have lu : us.length = ps.length := r.length.symm.trans (F.lenX _ _ _ _ _ _ _ h)
  have b := hb s us I.kIn (by rw [List.append_nil]; exact lu)
  rw [List.append_nil] at b
  obtain ⟨g1, g2, g3, g4, g5⟩ := I.pin p (List.mem_append_left _ hp)
  have pk : PinOk X.stack H s p := ⟨g1, g2, fun hm => (List.mem_cons.mp (I.stkSub p.1 hm)).elim g3 g4, g5⟩
  refine wpAny_call (codeAny_mono (F.runX X.A X.stack s H ⟨us, []⟩ us vs Q E0 p cls d hr hot pk zc I.env0 b r h) fun r s' hq => ?_)
  match r, hq with
  | .error e, hq => exact (show False from hq).elim
  | .ok (.ret u), hq => exact I.after hq
  | .ok .next, hq => exact hq.elim
  | .ok .brk, hq => exact hq.elim
  | .ok .cont, hq => exact hq.elim
/-- f(e, ..) in the suite -/
theorem pe_callX (hz : L2.Zc cls d oe) (hf : ∃ vs, oe.data = .fields vs) (F : FnX X.prog X.w X.K X.mg X.base k f fd ps sx) (hr : RoomH k (X.suite a ((a, oe) :: pn)).A) (hg : Gl (X.suite a ((a, oe) :: pn)) x) (hm : X.mg x = some (.ref f)) (hk : PySem.W.keepIn X.K (.ref f) = true) (hb : Binds X.K fd ps [])
    (ha : PA (X.suite a ((a, oe) :: pn)) (e :: es) t) (hdb : (x == ("__debug__" : Str)) = false := by decide) (he : starEach (e :: es) (X.suite a ((a, oe) :: pn)).env = (false, eval e (X.suite a ((a, oe) :: pn)).env) :: starEach es (X.suite a ((a, oe) :: pn)).env := by rfl) (hpl : (backTo pos (starEach es (X.suite a ((a, oe) :: pn)).env)).any (·.1) = false := by rfl) :
    PE (X.suite a ((a, oe) :: pn)) (.Call (.Name x q) (e :: es) [] pos) (tCall (sx a cls d) [] E0 t) := by
  refine ⟨fun pins s σ H Q I h => ?_⟩
  refine wpAny_Call_Name_kw (ld_glob I hg hm ?_ hdb)
  refine PySem.W.callWith_K (h₀ := X.base) I.ok.mod.kin hk (thn (ha.run pos pins s σ H _ I h) fun us s1 ⟨vs, H1, I1, r, q⟩ => ⟨I1.kIn, ?_⟩) he hpl
  have q : sx a cls d (vs ++ []) H1 Q E0 := q
  rw [List.append_nil] at q
  exact run_fnX (X := X.suite a ((a, oe) :: pn)) (p := (a, oe)) F hr hf List.mem_cons_self hz hb I1 r q
end
theorem cr_isP {X : Cx} {p : Addr × Obj} {cls : Value} {d : Option Addr} (K : PySem.W.Frag) (hp : p ∈ X.pn) (hz : L2.Zc cls d p.2) (hf : ∃ vs, p.2.data = .fields vs) (ek : X.K = K := by rfl) : CallR X (.builtin "isinstance") (rIsY K p.1 cls d) := by
  subst ek
  intro pins s σ H xs us Q I r h
  rcases h with h | h
  · obtain ⟨D, c, cv, b, ecl, C, hd, rfl, hcv, e, q⟩ := h
    obtain ⟨u1, u2, rfl, rx, rt⟩ := vals2 r
    cases rx
    have ec := hcv _ rt
    subst ec
    obtain ⟨hget, _⟩ := I.pin p (List.mem_append_left _ hp)
    obtain ⟨vs, hv⟩ := hf
    have hcl : p.2.cls = .ref D := hz.1.trans ecl
    have hdx := hz.2
    have key : ∀ od, PySem.W.InstAt s.heap p.1 p.2 D od → wpAny (model X.prog X.w) X.A (call (.builtin "isinstance") [.ref p.1, _]) (EP X pins σ Q) X.xe s := fun od J =>
      PySem.W.kia_one (PySem.W.kitx_exc C.cl C.hg C.hk C.hs C.ha C.hn C.ht C.hm) I.kIn J e (fun z => nomatch z) fun tk => ⟨.bl b, H, I.kept (t' := tk) fun _ _ z => z, rfl, q⟩
    rcases hd with hd | ⟨dd, fs, hd, ea⟩
    · refine key none ⟨hget, hcl, by unfold PySem.W.notCls; rw [hv] <;> rfl, ?_⟩
      rw [hdx, hd]
      trivial
    · obtain ⟨mA, hns, hr⟩ := (show ObjOk X.prog X.w H s.heap dd (.xd fs) from I.hok dd _ ea)
      obtain ⟨od, ho, hl⟩ := lookIn_ns hns
      refine key (some od) ⟨hget, hcl, by unfold PySem.W.notCls; rw [hv] <;> rfl, ?_⟩
      rw [hdx, hd]
      exact ho
  · exact cr_isK X.K (X := X) rfl pins s σ H xs us Q I r h
theorem pe_xfP {X : Cx} {p : Addr × Obj} {cls : Value} {d : Option Addr} {e : Expr} {te : TE} {pos : Pos} {n : Str} (K : PySem.W.Frag) (hp : p ∈ X.pn) (hz : L2.Zc cls d p.2) (hf : ∃ vs, p.2.data = .fields vs) (he : PE X e te) (ek : X.K = K := by rfl) (hb : attributeBase e n X.env (eval e X.env) = eval e X.env := by rfl) :
    PE X (.Attribute e n pos) (tXfA K p.1 cls d n te) := by
  subst ek
  refine ⟨fun pins s σ H Q I h => attr_of hb (thn (he.run pins s σ H _ I h) fun u s1 hh => ?_)⟩
  obtain ⟨x, H1, I1, rx, ex, C, dd, fs, v, ec, T, hno, ed, ea, l, q⟩ := hh
  subst ex
  obtain rfl : u = Value.ref p.1 := rx
  subst ec
  subst ed
  obtain ⟨ha, _⟩ := I1.pin p (List.mem_append_left _ hp)
  obtain ⟨vs, hd⟩ := hf
  obtain ⟨mA, hns, hr⟩ := (show ObjOk X.prog X.w H1 s1.heap dd (.xd fs) from I1.hok dd _ ea)
  obtain ⟨od, ho, hl⟩ := lookIn_ns hns
  obtain ⟨u, hu, ru⟩ := RelO.some_of (v := v) (o := mA n) (by rw [← l]; exact hr n)
  have J : PySem.W.InstAt s1.heap p.1 p.2 C (some od) := ⟨ha, hz.1, by unfold PySem.W.notCls; rw [hd] <;> rfl, by rw [hz.2]; exact ho⟩
  exact HandSPX.exc_get I1.kIn J T.ga T.gg T.exC (PySem.W.findObj_own T.hdC hno rfl (by rw [hl, hu])) (handed_of ru) ⟨v, H1, I1.tok _, ru, q⟩
end Qk
namespace K37
open PySem PySem.Spec PyProof.Rows L2 Qk
section
def topS (i : Nat) : Stmt := PySem.Challenge.pw_partclones_k37_commit_shows.main.body.getD i (.Pass ⟨0, 0, 0, 0⟩)
abbrev s_common_lengths : Stmt := topS 11
abbrev n_common_lengths : List Str := ["old", "new", "lengths", "i", "j", "_"]
theorem sc_common_lengths : FnScope n_common_lengths ["old", "new"] (defScope s_common_lengths) := ⟨rfl, rfl, rfl, by decide +kernel, rfl, by decide +kernel, by decide +kernel⟩
abbrev s_matched : Stmt := topS 12
abbrev n_matched : List Str := ["old", "new", "lengths", "pairs", "i", "j"]
theorem sc_matched : FnScope n_matched ["old", "new"] (defScope s_matched) := ⟨rfl, rfl, rfl, by decide +kernel, rfl, by decide +kernel, by decide +kernel⟩
abbrev s_line_origins : Stmt := topS 14
abbrev n_line_origins : List Str := ["name", "text", "elders", "found", "old", "known", "old_place", "place"]
theorem sc_line_origins : FnScope n_line_origins ["name", "text", "elders"] (defScope s_line_origins) := ⟨rfl, rfl, rfl, by decide +kernel, rfl, by decide +kernel, by decide +kernel⟩
abbrev s_is_line : Stmt := topS 37
abbrev n_is_line : List Str := ["value", "sign"]
theorem sc_is_line : FnScope n_is_line ["value"] (defScope s_is_line) := ⟨rfl, rfl, rfl, by decide +kernel, rfl, by decide +kernel, by decide +kernel⟩
abbrev s_checked_text : Stmt := topS 38
abbrev n_checked_text : List Str := ["text", "place", "line"]
theorem sc_checked_text : FnScope n_checked_text ["text"] (defScope s_checked_text) := ⟨rfl, rfl, rfl, by decide +kernel, rfl, by decide +kernel, by decide +kernel⟩
abbrev s_is_word : Stmt := topS 43
abbrev n_is_word : List Str := ["value", "sign"]
theorem sc_is_word : FnScope n_is_word ["value"] (defScope s_is_word) := ⟨rfl, rfl, rfl, by decide +kernel, rfl, by decide +kernel, by decide +kernel⟩
abbrev s_is_path : Stmt := topS 44
abbrev n_is_path : List Str := ["value", "words", "word"]
theorem sc_is_path : FnScope n_is_path ["value"] (defScope s_is_path) := ⟨rfl, rfl, rfl, by decide +kernel, rfl, by decide +kernel, by decide +kernel⟩
abbrev s_checked_tree : Stmt := topS 47
abbrev n_checked_tree : List Str := ["tree", "checked", "count", "path", "e"]
theorem sc_checked_tree : FnScope n_checked_tree ["tree"] (defScope s_checked_tree) := ⟨rfl, rfl, rfl, by decide +kernel, rfl, by decide +kernel, by decide +kernel⟩
abbrev s_files_of : Stmt := topS 48
abbrev n_files_of : List Str := ["tree", "path"]
theorem sc_files_of : FnScope n_files_of ["tree"] (defScope s_files_of) := ⟨rfl, rfl, rfl, by decide +kernel, rfl, by decide +kernel, by decide +kernel⟩
abbrev s_tree_of : Stmt := topS 49
abbrev s_is_name : Stmt := topS 71
abbrev n_is_name : List Str := ["value", "sign"]
theorem sc_is_name : FnScope n_is_name ["value"] (defScope s_is_name) := ⟨rfl, rfl, rfl, by decide +kernel, rfl, by decide +kernel, by decide +kernel⟩
abbrev s_restricted : Stmt := topS 75
abbrev n_restricted : List Str := ["order", "names", "kept", "result", "name", "version"]
theorem sc_restricted : FnScope n_restricted ["order", "names"] (defScope s_restricted) := ⟨rfl, rfl, rfl, by decide +kernel, rfl, by decide +kernel, by decide +kernel⟩
abbrev s_copy_of : Stmt := topS 77
abbrev n_copy_of : List Str := ["texts", "path", "text"]
theorem sc_copy_of : FnScope n_copy_of ["texts"] (defScope s_copy_of) := ⟨rfl, rfl, rfl, by decide +kernel, rfl, by decide +kernel, by decide +kernel⟩
abbrev s_l_feed : Stmt := topS 80
abbrev n_l_feed : List Str := ["script", "cell"]
theorem sc_l_feed : FnScope n_l_feed ["script"] (defScope s_l_feed) := ⟨rfl, rfl, rfl, by decide +kernel, rfl, by decide +kernel, by decide +kernel⟩
abbrev s_l_next : Stmt := topS 81
abbrev n_l_next : List Str := ["feed", "many", "cell"]
theorem sc_l_next : FnScope n_l_next ["feed", "many"] (defScope s_l_next) := ⟨rfl, rfl, rfl, by decide +kernel, rfl, by decide +kernel, by decide +kernel⟩
abbrev s_l_new_names : Stmt := topS 82
abbrev n_l_new_names : List Str := ["feed", "many", "letters", "turn", "ends", "heads", "k"]
theorem sc_l_new_names : FnScope n_l_new_names ["feed", "many"] (defScope s_l_new_names) := ⟨rfl, rfl, rfl, by decide +kernel, rfl, by decide +kernel, by decide +kernel⟩
abbrev s_l_pasts : Stmt := topS 83
abbrev n_l_pasts : List Str := ["names", "parents", "under", "name", "row", "elder", "more", "low"]
theorem sc_l_pasts : FnScope n_l_pasts ["names", "parents"] (defScope s_l_pasts) := ⟨rfl, rfl, rfl, by decide +kernel, rfl, by decide +kernel, by decide +kernel⟩
abbrev s_l_new_shape : Stmt := topS 84
abbrev n_l_new_shape : List Str := ["feed", "many", "most", "menu", "roads", "turn", "start", "lines", "paths", "j"]
theorem sc_l_new_shape : FnScope n_l_new_shape ["feed", "many", "most"] (defScope s_l_new_shape) := ⟨rfl, rfl, rfl, by decide +kernel, rfl, by decide +kernel, by decide +kernel⟩
abbrev s_l_new_text : Stmt := topS 85
abbrev n_l_new_text : List Str := ["feed", "k", "old", "shape", "lines", "kind", "many", "j"]
theorem sc_l_new_text : FnScope n_l_new_text ["feed", "k", "old", "shape"] (defScope s_l_new_text) := ⟨rfl, rfl, rfl, by decide +kernel, rfl, by decide +kernel, by decide +kernel⟩
abbrev s_l_new_tree : Stmt := topS 86
abbrev n_l_new_tree : List Str := ["feed", "k", "old", "shape", "tree", "j", "path", "text"]
theorem sc_l_new_tree : FnScope n_l_new_tree ["feed", "k", "old", "shape"] (defScope s_l_new_tree) := ⟨rfl, rfl, rfl, by decide +kernel, rfl, by decide +kernel, by decide +kernel⟩
abbrev s_l_copied : Stmt := topS 87
abbrev n_l_copied : List Str := ["tree", "copied", "path"]
theorem sc_l_copied : FnScope n_l_copied ["tree"] (defScope s_l_copied) := ⟨rfl, rfl, rfl, by decide +kernel, rfl, by decide +kernel, by decide +kernel⟩
abbrev s_l_fault : Stmt := topS 88
abbrev n_l_fault : List Str := ["fault", "marks", "place", "word"]
theorem sc_l_fault : FnScope n_l_fault ["fault"] (defScope s_l_fault) := ⟨rfl, rfl, rfl, by decide +kernel, rfl, by decide +kernel, by decide +kernel⟩
abbrev s_l_commit : Stmt := topS 89
abbrev n_l_commit : List Str := ["history", "name", "parents", "tree", "told", "e"]
theorem sc_l_commit : FnScope n_l_commit ["history", "name", "parents", "tree"] (defScope s_l_commit) := ⟨rfl, rfl, rfl, by decide +kernel, rfl, by decide +kernel, by decide +kernel⟩
abbrev s_l_asked : Stmt := topS 90
abbrev n_l_asked : List Str := ["history", "word", "one", "other", "told", "e"]
theorem sc_l_asked : FnScope n_l_asked ["history", "word", "one", "other"] (defScope s_l_asked) := ⟨rfl, rfl, rfl, by decide +kernel, rfl, by decide +kernel, by decide +kernel⟩
abbrev s_l_odd_names : Stmt := topS 91
abbrev n_l_odd_names : List Str := []
theorem sc_l_odd_names : FnScope n_l_odd_names [] (defScope s_l_odd_names) := ⟨rfl, rfl, rfl, by decide +kernel, rfl, by decide +kernel, by decide +kernel⟩
abbrev s_l_odd_paths : Stmt := topS 92
abbrev n_l_odd_paths : List Str := []
theorem sc_l_odd_paths : FnScope n_l_odd_paths [] (defScope s_l_odd_paths) := ⟨rfl, rfl, rfl, by decide +kernel, rfl, by decide +kernel, by decide +kernel⟩
abbrev s_l_odd_lines : Stmt := topS 93
abbrev n_l_odd_lines : List Str := []
theorem sc_l_odd_lines : FnScope n_l_odd_lines [] (defScope s_l_odd_lines) := ⟨rfl, rfl, rfl, by decide +kernel, rfl, by decide +kernel, by decide +kernel⟩
abbrev s_l_called : Stmt := topS 94
abbrev n_l_called : List Str := ["feed", "names", "k", "at"]
theorem sc_l_called : FnScope n_l_called ["feed", "names", "k"] (defScope s_l_called) := ⟨rfl, rfl, rfl, by decide +kernel, rfl, by decide +kernel, by decide +kernel⟩
abbrev s_l_new_elders : Stmt := topS 95
abbrev n_l_new_elders : List Str := ["feed", "names", "kept", "row", "size", "j", "at"]
theorem sc_l_new_elders : FnScope n_l_new_elders ["feed", "names", "kept"] (defScope s_l_new_elders) := ⟨rfl, rfl, rfl, by decide +kernel, rfl, by decide +kernel, by decide +kernel⟩
abbrev s_l_spoil : Stmt := topS 96
abbrev n_l_spoil : List Str := ["feed", "tree", "kind", "text", "j"]
theorem sc_l_spoil : FnScope n_l_spoil ["feed", "tree"] (defScope s_l_spoil) := ⟨rfl, rfl, rfl, by decide +kernel, rfl, by decide +kernel, by decide +kernel⟩
abbrev s_l_own_due : Stmt := topS 97
abbrev n_l_own_due : List Str := ["kept", "name", "parents", "tree", "j", "paths", "text", "at"]
theorem sc_l_own_due : FnScope n_l_own_due ["kept", "name", "parents", "tree"] (defScope s_l_own_due) := ⟨rfl, rfl, rfl, by decide +kernel, rfl, by decide +kernel, by decide +kernel⟩
abbrev s_l_truth : Stmt := topS 98
abbrev n_l_truth : List Str := ["told"]
theorem sc_l_truth : FnScope n_l_truth ["told"] (defScope s_l_truth) := ⟨rfl, rfl, rfl, by decide +kernel, rfl, by decide +kernel, by decide +kernel⟩
abbrev s_l_named : Stmt := topS 99
abbrev n_l_named : List Str := ["history", "names", "kept", "told", "x"]
theorem sc_l_named : FnScope n_l_named ["history", "names", "kept"] (defScope s_l_named) := ⟨rfl, rfl, rfl, by decide +kernel, rfl, by decide +kernel, by decide +kernel⟩
abbrev s_l_treed : Stmt := topS 100
abbrev n_l_treed : List Str := ["history", "name", "tree", "told", "due", "path"]
theorem sc_l_treed : FnScope n_l_treed ["history", "name", "tree"] (defScope s_l_treed) := ⟨rfl, rfl, rfl, by decide +kernel, rfl, by decide +kernel, by decide +kernel⟩
abbrev s_l_shown : Stmt := topS 101
abbrev n_l_shown : List Str := ["history", "names", "kept", "parents", "trees", "under", "order", "name", "low", "flag"]
theorem sc_l_shown : FnScope n_l_shown ["history", "names", "kept", "parents", "trees"] (defScope s_l_shown) := ⟨rfl, rfl, rfl, by decide +kernel, rfl, by decide +kernel, by decide +kernel⟩
abbrev s_l_refused : Stmt := topS 102
abbrev n_l_refused : List Str := ["history", "kept", "word", "name", "told"]
theorem sc_l_refused : FnScope n_l_refused ["history", "kept"] (defScope s_l_refused) := ⟨rfl, rfl, rfl, by decide +kernel, rfl, by decide +kernel, by decide +kernel⟩
abbrev s_l_ended : Stmt := topS 103
abbrev n_l_ended : List Str := ["history", "names", "kept", "parents", "trees", "twin", "one", "two", "name"]
theorem sc_l_ended : FnScope n_l_ended ["history", "names", "kept", "parents", "trees"] (defScope s_l_ended) := ⟨rfl, rfl, rfl, by decide +kernel, rfl, by decide +kernel, by decide +kernel⟩
abbrev s_law : Stmt := topS 104
abbrev n_law : List Str := ["script", "feed", "names", "history", "kept", "parents", "trees", "shape", "k", "name", "elders", "old", "tree", "due", "passed", "copied", "told", "path"]
theorem sc_law : FnScope n_law ["script"] (defScope s_law) := ⟨rfl, rfl, rfl, by decide +kernel, rfl, by decide +kernel, by decide +kernel⟩
abbrev s_Order___init__ : Stmt := inClass (topS 73) 0
abbrev n_Order___init__ : List Str := ["self"]
theorem sc_Order___init__ : FnScope n_Order___init__ ["self"] (defScope s_Order___init__) := ⟨rfl, rfl, rfl, by decide +kernel, rfl, by decide +kernel, by decide +kernel⟩
abbrev s_Order_put : Stmt := inClass (topS 73) 1
abbrev n_Order_put : List Str := ["self", "name", "parents", "checked_parents", "found", "parent", "version"]
theorem sc_Order_put : FnScope n_Order_put ["self", "name", "parents"] (defScope s_Order_put) := ⟨rfl, rfl, rfl, by decide +kernel, rfl, by decide +kernel, by decide +kernel⟩
abbrev s_Order___iter__ : Stmt := inClass (topS 73) 2
abbrev s_Order_names : Stmt := inClass (topS 73) 3
abbrev n_Order_names : List Str := ["self"]
theorem sc_Order_names : FnScope n_Order_names ["self"] (defScope s_Order_names) := ⟨rfl, rfl, rfl, by decide +kernel, rfl, by decide +kernel, by decide +kernel⟩
abbrev s_Order_has : Stmt := inClass (topS 73) 4
abbrev s_Order_under : Stmt := inClass (topS 73) 5
abbrev n_Order_under : List Str := ["self", "name"]
theorem sc_Order_under : FnScope n_Order_under ["self", "name"] (defScope s_Order_under) := ⟨rfl, rfl, rfl, by decide +kernel, rfl, by decide +kernel, by decide +kernel⟩
abbrev s_Order_is_under : Stmt := inClass (topS 73) 6
abbrev n_Order_is_under : List Str := ["self", "low", "high"]
theorem sc_Order_is_under : FnScope n_Order_is_under ["self", "low", "high"] (defScope s_Order_is_under) := ⟨rfl, rfl, rfl, by decide +kernel, rfl, by decide +kernel, by decide +kernel⟩
abbrev s_Order_nearest : Stmt := inClass (topS 73) 7
abbrev n_Order_nearest : List Str := ["self", "name", "others", "covered", "version", "low"]
theorem sc_Order_nearest : FnScope n_Order_nearest ["self", "name"] (defScope s_Order_nearest) := ⟨rfl, rfl, rfl, by decide +kernel, rfl, by decide +kernel, by decide +kernel⟩
abbrev s_Order_checked : Stmt := inClass (topS 73) 8
abbrev n_Order_checked : List Str := ["self", "names", "found", "name"]
theorem sc_Order_checked : FnScope n_Order_checked ["self", "names"] (defScope s_Order_checked) := ⟨rfl, rfl, rfl, by decide +kernel, rfl, by decide +kernel, by decide +kernel⟩
abbrev s_History___init__ : Stmt := inClass (topS 78) 0
abbrev n_History___init__ : List Str := ["self"]
theorem sc_History___init__ : FnScope n_History___init__ ["self"] (defScope s_History___init__) := ⟨rfl, rfl, rfl, by decide +kernel, rfl, by decide +kernel, by decide +kernel⟩
abbrev s_History__put : Stmt := inClass (topS 78) 2
abbrev n_History__put : List Str := ["self", "name", "parents", "tree", "origins"]
theorem sc_History__put : FnScope n_History__put ["self", "name", "parents", "tree", "origins"] (defScope s_History__put) := ⟨rfl, rfl, rfl, by decide +kernel, rfl, by decide +kernel, by decide +kernel⟩
abbrev s_History__grow : Stmt := inClass (topS 78) 3
abbrev n_History__grow : List Str := ["self", "name", "parents", "tree", "origins", "path", "text", "having", "elders", "parent"]
theorem sc_History__grow : FnScope n_History__grow ["self", "name", "parents", "tree"] (defScope s_History__grow) := ⟨rfl, rfl, rfl, by decide +kernel, rfl, by decide +kernel, by decide +kernel⟩
abbrev s_History__check_new : Stmt := inClass (topS 78) 4
abbrev n_History__check_new : List Str := ["self", "name"]
theorem sc_History__check_new : FnScope n_History__check_new ["self", "name"] (defScope s_History__check_new) := ⟨rfl, rfl, rfl, by decide +kernel, rfl, by decide +kernel, by decide +kernel⟩
abbrev s_History__check_known : Stmt := inClass (topS 78) 5
abbrev n_History__check_known : List Str := ["self", "name"]
theorem sc_History__check_known : FnScope n_History__check_known ["self", "name"] (defScope s_History__check_known) := ⟨rfl, rfl, rfl, by decide +kernel, rfl, by decide +kernel, by decide +kernel⟩
abbrev s_History_names : Stmt := inClass (topS 78) 6
abbrev n_History_names : List Str := ["self"]
theorem sc_History_names : FnScope n_History_names ["self"] (defScope s_History_names) := ⟨rfl, rfl, rfl, by decide +kernel, rfl, by decide +kernel, by decide +kernel⟩
abbrev s_History___contains__ : Stmt := inClass (topS 78) 7
abbrev n_History___contains__ : List Str := ["self", "name"]
theorem sc_History___contains__ : FnScope n_History___contains__ ["self", "name"] (defScope s_History___contains__) := ⟨rfl, rfl, rfl, by decide +kernel, rfl, by decide +kernel, by decide +kernel⟩
abbrev s_History_commit : Stmt := inClass (topS 78) 8
abbrev n_History_commit : List Str := ["self", "name", "parents", "tree", "new_parents", "new_tree"]
theorem sc_History_commit : FnScope n_History_commit ["self", "name", "parents", "tree"] (defScope s_History_commit) := ⟨rfl, rfl, rfl, by decide +kernel, rfl, by decide +kernel, by decide +kernel⟩
abbrev s_History_tree : Stmt := inClass (topS 78) 11
abbrev n_History_tree : List Str := ["self", "name"]
theorem sc_History_tree : FnScope n_History_tree ["self", "name"] (defScope s_History_tree) := ⟨rfl, rfl, rfl, by decide +kernel, rfl, by decide +kernel, by decide +kernel⟩
abbrev s_History_origins : Stmt := inClass (topS 78) 12
abbrev n_History_origins : List Str := ["self", "name"]
theorem sc_History_origins : FnScope n_History_origins ["self", "name"] (defScope s_History_origins) := ⟨rfl, rfl, rfl, by decide +kernel, rfl, by decide +kernel, by decide +kernel⟩
abbrev s_History_is_under : Stmt := inClass (topS 78) 13
abbrev n_History_is_under : List Str := ["self", "low", "high"]
theorem sc_History_is_under : FnScope n_History_is_under ["self", "low", "high"] (defScope s_History_is_under) := ⟨rfl, rfl, rfl, by decide +kernel, rfl, by decide +kernel, by decide +kernel⟩
abbrev s_History_order : Stmt := inClass (topS 78) 18
abbrev n_History_order : List Str := ["self"]
theorem sc_History_order : FnScope n_History_order ["self"] (defScope s_History_order) := ⟨rfl, rfl, rfl, by decide +kernel, rfl, by decide +kernel, by decide +kernel⟩
abbrev s_History_facts : Stmt := inClass (topS 78) 20
abbrev n_History_facts : List Str := ["self", "rows", "name", "nearest"]
theorem sc_History_facts : FnScope n_History_facts ["self"] (defScope s_History_facts) := ⟨rfl, rfl, rfl, by decide +kernel, rfl, by decide +kernel, by decide +kernel⟩
abbrev s_History_copied : Stmt := inClass (topS 78) 21
abbrev n_History_copied : List Str := ["self", "twin"]
theorem sc_History_copied : FnScope n_History_copied ["self"] (defScope s_History_copied) := ⟨rfl, rfl, rfl, by decide +kernel, rfl, by decide +kernel, by decide +kernel⟩
set_option maxHeartbeats 4000000 in
set_option genInjectivity false in
set_option genSizeOf false in
structure Txt (K : PySem.W.Frag) (mg : Str → Option Value) where
  f_common_lengths : Addr
  fd_common_lengths : FuncData
  F_common_lengths : Fun K "_common_lengths" "_common_lengths" s_common_lengths f_common_lengths fd_common_lengths
  g_common_lengths : mg "_common_lengths" = some (.ref f_common_lengths)
  b_common_lengths : Binds K fd_common_lengths ["old", "new"] []
  f_matched : Addr
  fd_matched : FuncData
  F_matched : Fun K "matched" "matched" s_matched f_matched fd_matched
  g_matched : mg "matched" = some (.ref f_matched)
  b_matched : Binds K fd_matched ["old", "new"] []
  f_line_origins : Addr
  fd_line_origins : FuncData
  F_line_origins : Fun K "line_origins" "line_origins" s_line_origins f_line_origins fd_line_origins
  g_line_origins : mg "line_origins" = some (.ref f_line_origins)
  b_line_origins : Binds K fd_line_origins ["name", "text", "elders"] []
  f_is_line : Addr
  fd_is_line : FuncData
  F_is_line : Fun K "is_line" "is_line" s_is_line f_is_line fd_is_line
  g_is_line : mg "is_line" = some (.ref f_is_line)
  b_is_line : Binds K fd_is_line ["value"] []
  f_checked_text : Addr
  fd_checked_text : FuncData
  F_checked_text : Fun K "checked_text" "checked_text" s_checked_text f_checked_text fd_checked_text
  g_checked_text : mg "checked_text" = some (.ref f_checked_text)
  b_checked_text : Binds K fd_checked_text ["text"] []
  f_is_word : Addr
  fd_is_word : FuncData
  F_is_word : Fun K "_is_word" "_is_word" s_is_word f_is_word fd_is_word
  g_is_word : mg "_is_word" = some (.ref f_is_word)
  b_is_word : Binds K fd_is_word ["value"] []
  f_is_path : Addr
  fd_is_path : FuncData
  F_is_path : Fun K "is_path" "is_path" s_is_path f_is_path fd_is_path
  g_is_path : mg "is_path" = some (.ref f_is_path)
  b_is_path : Binds K fd_is_path ["value"] []
  f_checked_tree : Addr
  fd_checked_tree : FuncData
  F_checked_tree : Fun K "checked_tree" "checked_tree" s_checked_tree f_checked_tree fd_checked_tree
  g_checked_tree : mg "checked_tree" = some (.ref f_checked_tree)
  b_checked_tree : Binds K fd_checked_tree ["tree"] []
  f_files_of : Addr
  fd_files_of : FuncData
  F_files_of : Fun K "files_of" "files_of" s_files_of f_files_of fd_files_of
  g_files_of : mg "files_of" = some (.ref f_files_of)
  b_files_of : Binds K fd_files_of ["tree"] []
  f_tree_of : Addr
  fd_tree_of : FuncData
  F_tree_of : Fun K "tree_of" "tree_of" s_tree_of f_tree_of fd_tree_of
  g_tree_of : mg "tree_of" = some (.ref f_tree_of)
  b_tree_of : Binds K fd_tree_of ["files"] []
  f_is_name : Addr
  fd_is_name : FuncData
  F_is_name : Fun K "is_name" "is_name" s_is_name f_is_name fd_is_name
  g_is_name : mg "is_name" = some (.ref f_is_name)
  b_is_name : Binds K fd_is_name ["value"] []
  f_restricted : Addr
  fd_restricted : FuncData
  F_restricted : Fun K "restricted" "restricted" s_restricted f_restricted fd_restricted
  g_restricted : mg "restricted" = some (.ref f_restricted)
  b_restricted : Binds K fd_restricted ["order", "names"] []
  f_copy_of : Addr
  fd_copy_of : FuncData
  F_copy_of : Fun K "_copy_of" "_copy_of" s_copy_of f_copy_of fd_copy_of
  g_copy_of : mg "_copy_of" = some (.ref f_copy_of)
  b_copy_of : Binds K fd_copy_of ["texts"] []
  f_l_feed : Addr
  fd_l_feed : FuncData
  F_l_feed : Fun K "_law_feed" "_law_feed" s_l_feed f_l_feed fd_l_feed
  g_l_feed : mg "_law_feed" = some (.ref f_l_feed)
  b_l_feed : Binds K fd_l_feed ["script"] []
  f_l_next : Addr
  fd_l_next : FuncData
  F_l_next : Fun K "_law_next" "_law_next" s_l_next f_l_next fd_l_next
  g_l_next : mg "_law_next" = some (.ref f_l_next)
  b_l_next : Binds K fd_l_next ["feed", "many"] []
  f_l_new_names : Addr
  fd_l_new_names : FuncData
  F_l_new_names : Fun K "_law_new_names" "_law_new_names" s_l_new_names f_l_new_names fd_l_new_names
  g_l_new_names : mg "_law_new_names" = some (.ref f_l_new_names)
  b_l_new_names : Binds K fd_l_new_names ["feed", "many"] []
  f_l_pasts : Addr
  fd_l_pasts : FuncData
  F_l_pasts : Fun K "_law_pasts" "_law_pasts" s_l_pasts f_l_pasts fd_l_pasts
  g_l_pasts : mg "_law_pasts" = some (.ref f_l_pasts)
  b_l_pasts : Binds K fd_l_pasts ["names", "parents"] []
  f_l_new_shape : Addr
  fd_l_new_shape : FuncData
  F_l_new_shape : Fun K "_law_new_shape" "_law_new_shape" s_l_new_shape f_l_new_shape fd_l_new_shape
  g_l_new_shape : mg "_law_new_shape" = some (.ref f_l_new_shape)
  b_l_new_shape : Binds K fd_l_new_shape ["feed", "many", "most"] []
  f_l_new_text : Addr
  fd_l_new_text : FuncData
  F_l_new_text : Fun K "_law_new_text" "_law_new_text" s_l_new_text f_l_new_text fd_l_new_text
  g_l_new_text : mg "_law_new_text" = some (.ref f_l_new_text)
  b_l_new_text : Binds K fd_l_new_text ["feed", "k", "old", "shape"] []
  f_l_new_tree : Addr
  fd_l_new_tree : FuncData
  F_l_new_tree : Fun K "_law_new_tree" "_law_new_tree" s_l_new_tree f_l_new_tree fd_l_new_tree
  g_l_new_tree : mg "_law_new_tree" = some (.ref f_l_new_tree)
  b_l_new_tree : Binds K fd_l_new_tree ["feed", "k", "old", "shape"] []
  f_l_copied : Addr
  fd_l_copied : FuncData
  F_l_copied : Fun K "_law_copied" "_law_copied" s_l_copied f_l_copied fd_l_copied
  g_l_copied : mg "_law_copied" = some (.ref f_l_copied)
  b_l_copied : Binds K fd_l_copied ["tree"] []
  f_l_fault : Addr
  fd_l_fault : FuncData
  F_l_fault : Fun K "_law_fault" "_law_fault" s_l_fault f_l_fault fd_l_fault
  g_l_fault : mg "_law_fault" = some (.ref f_l_fault)
  b_l_fault : Binds K fd_l_fault ["fault"] []
  f_l_commit : Addr
  fd_l_commit : FuncData
  F_l_commit : Fun K "_law_commit" "_law_commit" s_l_commit f_l_commit fd_l_commit
  g_l_commit : mg "_law_commit" = some (.ref f_l_commit)
  b_l_commit : Binds K fd_l_commit ["history", "name", "parents", "tree"] []
  f_l_asked : Addr
  fd_l_asked : FuncData
  F_l_asked : Fun K "_law_asked" "_law_asked" s_l_asked f_l_asked fd_l_asked
  g_l_asked : mg "_law_asked" = some (.ref f_l_asked)
  b_l_asked : Binds K fd_l_asked ["history", "word", "one", "other"] []
  f_l_odd_names : Addr
  fd_l_odd_names : FuncData
  F_l_odd_names : Fun K "_law_odd_names" "_law_odd_names" s_l_odd_names f_l_odd_names fd_l_odd_names
  g_l_odd_names : mg "_law_odd_names" = some (.ref f_l_odd_names)
  b_l_odd_names : Binds K fd_l_odd_names [] []
  f_l_odd_paths : Addr
  fd_l_odd_paths : FuncData
  F_l_odd_paths : Fun K "_law_odd_paths" "_law_odd_paths" s_l_odd_paths f_l_odd_paths fd_l_odd_paths
  g_l_odd_paths : mg "_law_odd_paths" = some (.ref f_l_odd_paths)
  b_l_odd_paths : Binds K fd_l_odd_paths [] []
  f_l_odd_lines : Addr
  fd_l_odd_lines : FuncData
  F_l_odd_lines : Fun K "_law_odd_lines" "_law_odd_lines" s_l_odd_lines f_l_odd_lines fd_l_odd_lines
  g_l_odd_lines : mg "_law_odd_lines" = some (.ref f_l_odd_lines)
  b_l_odd_lines : Binds K fd_l_odd_lines [] []
  f_l_called : Addr
  fd_l_called : FuncData
  F_l_called : Fun K "_law_called" "_law_called" s_l_called f_l_called fd_l_called
  g_l_called : mg "_law_called" = some (.ref f_l_called)
  b_l_called : Binds K fd_l_called ["feed", "names", "k"] []
  f_l_new_elders : Addr
  fd_l_new_elders : FuncData
  F_l_new_elders : Fun K "_law_new_elders" "_law_new_elders" s_l_new_elders f_l_new_elders fd_l_new_elders
  g_l_new_elders : mg "_law_new_elders" = some (.ref f_l_new_elders)
  b_l_new_elders : Binds K fd_l_new_elders ["feed", "names", "kept"] []
  f_l_spoil : Addr
  fd_l_spoil : FuncData
  F_l_spoil : Fun K "_law_spoil" "_law_spoil" s_l_spoil f_l_spoil fd_l_spoil
  g_l_spoil : mg "_law_spoil" = some (.ref f_l_spoil)
  b_l_spoil : Binds K fd_l_spoil ["feed", "tree"] []
  f_l_own_due : Addr
  fd_l_own_due : FuncData
  F_l_own_due : Fun K "_law_own_due" "_law_own_due" s_l_own_due f_l_own_due fd_l_own_due
  g_l_own_due : mg "_law_own_due" = some (.ref f_l_own_due)
  b_l_own_due : Binds K fd_l_own_due ["kept", "name", "parents", "tree"] []
  f_l_truth : Addr
  fd_l_truth : FuncData
  F_l_truth : Fun K "_law_truth" "_law_truth" s_l_truth f_l_truth fd_l_truth
  g_l_truth : mg "_law_truth" = some (.ref f_l_truth)
  b_l_truth : Binds K fd_l_truth ["told"] []
  f_l_named : Addr
  fd_l_named : FuncData
  F_l_named : Fun K "_law_named" "_law_named" s_l_named f_l_named fd_l_named
  g_l_named : mg "_law_named" = some (.ref f_l_named)
  b_l_named : Binds K fd_l_named ["history", "names", "kept"] []
  f_l_treed : Addr
  fd_l_treed : FuncData
  F_l_treed : Fun K "_law_treed" "_law_treed" s_l_treed f_l_treed fd_l_treed
  g_l_treed : mg "_law_treed" = some (.ref f_l_treed)
  b_l_treed : Binds K fd_l_treed ["history", "name", "tree"] []
  f_l_shown : Addr
  fd_l_shown : FuncData
  F_l_shown : Fun K "_law_shown" "_law_shown" s_l_shown f_l_shown fd_l_shown
  g_l_shown : mg "_law_shown" = some (.ref f_l_shown)
  b_l_shown : Binds K fd_l_shown ["history", "names", "kept", "parents", "trees"] []
  f_l_refused : Addr
  fd_l_refused : FuncData
  F_l_refused : Fun K "_law_refused" "_law_refused" s_l_refused f_l_refused fd_l_refused
  g_l_refused : mg "_law_refused" = some (.ref f_l_refused)
  b_l_refused : Binds K fd_l_refused ["history", "kept"] []
  f_l_ended : Addr
  fd_l_ended : FuncData
  F_l_ended : Fun K "_law_ended" "_law_ended" s_l_ended f_l_ended fd_l_ended
  g_l_ended : mg "_law_ended" = some (.ref f_l_ended)
  b_l_ended : Binds K fd_l_ended ["history", "names", "kept", "parents", "trees"] []
  f_law : Addr
  fd_law : FuncData
  F_law : Fun K "law" "law" s_law f_law fd_law
  g_law : mg "law" = some (.ref f_law)
  b_law : Binds K fd_law ["script"] []
  f_Order___init__ : Addr
  fd_Order___init__ : FuncData
  F_Order___init__ : Fun K "__init__" "Order.__init__" s_Order___init__ f_Order___init__ fd_Order___init__
  b_Order___init__ : Binds K fd_Order___init__ ["self"] []
  f_Order_put : Addr
  fd_Order_put : FuncData
  F_Order_put : Fun K "put" "Order.put" s_Order_put f_Order_put fd_Order_put
  b_Order_put : Binds K fd_Order_put ["self", "name", "parents"] []
  f_Order___iter__ : Addr
  fd_Order___iter__ : FuncData
  F_Order___iter__ : Fun K "__iter__" "Order.__iter__" s_Order___iter__ f_Order___iter__ fd_Order___iter__
  b_Order___iter__ : Binds K fd_Order___iter__ ["self"] []
  f_Order_names : Addr
  fd_Order_names : FuncData
  F_Order_names : Fun K "names" "Order.names" s_Order_names f_Order_names fd_Order_names
  b_Order_names : Binds K fd_Order_names ["self"] []
  f_Order_has : Addr
  fd_Order_has : FuncData
  F_Order_has : Fun K "has" "Order.has" s_Order_has f_Order_has fd_Order_has
  b_Order_has : Binds K fd_Order_has ["self", "name"] []
  f_Order_under : Addr
  fd_Order_under : FuncData
  F_Order_under : Fun K "under" "Order.under" s_Order_under f_Order_under fd_Order_under
  b_Order_under : Binds K fd_Order_under ["self", "name"] []
  f_Order_is_under : Addr
  fd_Order_is_under : FuncData
  F_Order_is_under : Fun K "is_under" "Order.is_under" s_Order_is_under f_Order_is_under fd_Order_is_under
  b_Order_is_under : Binds K fd_Order_is_under ["self", "low", "high"] []
  f_Order_nearest : Addr
  fd_Order_nearest : FuncData
  F_Order_nearest : Fun K "nearest" "Order.nearest" s_Order_nearest f_Order_nearest fd_Order_nearest
  b_Order_nearest : Binds K fd_Order_nearest ["self", "name"] []
  f_Order_checked : Addr
  fd_Order_checked : FuncData
  F_Order_checked : Fun K "checked" "Order.checked" s_Order_checked f_Order_checked fd_Order_checked
  b_Order_checked : Binds K fd_Order_checked ["self", "names"] []
  f_History___init__ : Addr
  fd_History___init__ : FuncData
  F_History___init__ : Fun K "__init__" "History.__init__" s_History___init__ f_History___init__ fd_History___init__
  b_History___init__ : Binds K fd_History___init__ ["self"] []
  f_History__put : Addr
  fd_History__put : FuncData
  F_History__put : Fun K "_put" "History._put" s_History__put f_History__put fd_History__put
  b_History__put : Binds K fd_History__put ["self", "name", "parents", "tree", "origins"] []
  f_History__grow : Addr
  fd_History__grow : FuncData
  F_History__grow : Fun K "_grow" "History._grow" s_History__grow f_History__grow fd_History__grow
  b_History__grow : Binds K fd_History__grow ["self", "name", "parents", "tree"] []
  f_History__check_new : Addr
  fd_History__check_new : FuncData
  F_History__check_new : Fun K "_check_new" "History._check_new" s_History__check_new f_History__check_new fd_History__check_new
  b_History__check_new : Binds K fd_History__check_new ["self", "name"] []
  f_History__check_known : Addr
  fd_History__check_known : FuncData
  F_History__check_known : Fun K "_check_known" "History._check_known" s_History__check_known f_History__check_known fd_History__check_known
  b_History__check_known : Binds K fd_History__check_known ["self", "name"] []
  f_History_names : Addr
  fd_History_names : FuncData
  F_History_names : Fun K "names" "History.names" s_History_names f_History_names fd_History_names
  b_History_names : Binds K fd_History_names ["self"] []
  f_History___contains__ : Addr
  fd_History___contains__ : FuncData
  F_History___contains__ : Fun K "__contains__" "History.__contains__" s_History___contains__ f_History___contains__ fd_History___contains__
  b_History___contains__ : Binds K fd_History___contains__ ["self", "name"] []
  f_History_commit : Addr
  fd_History_commit : FuncData
  F_History_commit : Fun K "commit" "History.commit" s_History_commit f_History_commit fd_History_commit
  b_History_commit : Binds K fd_History_commit ["self", "name", "parents", "tree"] []
  f_History_tree : Addr
  fd_History_tree : FuncData
  F_History_tree : Fun K "tree" "History.tree" s_History_tree f_History_tree fd_History_tree
  b_History_tree : Binds K fd_History_tree ["self", "name"] []
  f_History_origins : Addr
  fd_History_origins : FuncData
  F_History_origins : Fun K "origins" "History.origins" s_History_origins f_History_origins fd_History_origins
  b_History_origins : Binds K fd_History_origins ["self", "name"] []
  f_History_is_under : Addr
  fd_History_is_under : FuncData
  F_History_is_under : Fun K "is_under" "History.is_under" s_History_is_under f_History_is_under fd_History_is_under
  b_History_is_under : Binds K fd_History_is_under ["self", "low", "high"] []
  f_History_order : Addr
  fd_History_order : FuncData
  F_History_order : Fun K "order" "History.order" s_History_order f_History_order fd_History_order
  b_History_order : Binds K fd_History_order ["self"] []
  f_History_facts : Addr
  fd_History_facts : FuncData
  F_History_facts : Fun K "facts" "History.facts" s_History_facts f_History_facts fd_History_facts
  b_History_facts : Binds K fd_History_facts ["self"] []
  f_History_copied : Addr
  fd_History_copied : FuncData
  F_History_copied : Fun K "copied" "History.copied" s_History_copied f_History_copied fd_History_copied
  b_History_copied : Binds K fd_History_copied ["self"] []
  C_Order : Addr
  g_Order : mg "Order" = some (.ref C_Order)
  cl_Order : Cls K C_Order
  nA_Order__names : NoAttr K C_Order "_names"
  nA_Order__under : NoAttr K C_Order "_under"
  Mk_Order : Mk K C_Order f_Order___init__
  M_Order_put : Meth K C_Order "put" f_Order_put
  M_Order___iter__ : Meth K C_Order "__iter__" f_Order___iter__
  M_Order_names : Meth K C_Order "names" f_Order_names
  M_Order_has : Meth K C_Order "has" f_Order_has
  M_Order_under : Meth K C_Order "under" f_Order_under
  M_Order_is_under : Meth K C_Order "is_under" f_Order_is_under
  M_Order_nearest : Meth K C_Order "nearest" f_Order_nearest
  M_Order_checked : Meth K C_Order "checked" f_Order_checked
  C_History : Addr
  g_History : mg "History" = some (.ref C_History)
  cl_History : Cls K C_History
  nA_History__order : NoAttr K C_History "_order"
  nA_History__trees : NoAttr K C_History "_trees"
  nA_History__origins : NoAttr K C_History "_origins"
  nA_History__tally : NoAttr K C_History "_tally"
  sf_History : PySem.W.selfFirst K C_History = true
  Mk_History : Mk K C_History f_History___init__
  M_History__put : Meth K C_History "_put" f_History__put
  M_History__grow : Meth K C_History "_grow" f_History__grow
  M_History__check_new : Meth K C_History "_check_new" f_History__check_new
  M_History__check_known : Meth K C_History "_check_known" f_History__check_known
  M_History_names : Meth K C_History "names" f_History_names
  M_History___contains__ : Meth K C_History "__contains__" f_History___contains__
  M_History_commit : Meth K C_History "commit" f_History_commit
  M_History_tree : Meth K C_History "tree" f_History_tree
  M_History_origins : Meth K C_History "origins" f_History_origins
  M_History_is_under : Meth K C_History "is_under" f_History_is_under
  M_History_order : Meth K C_History "order" f_History_order
  M_History_facts : Meth K C_History "facts" f_History_facts
  M_History_copied : Meth K C_History "copied" f_History_copied
  C_PartError : Addr
  g_PartError : mg "PartError" = some (.ref C_PartError)
  C_BadText : Addr
  g_BadText : mg "BadText" = some (.ref C_BadText)
  fi_BadText : Addr
  fdi_BadText : FuncData
  Fi_BadText : Fun K "__init__" "BadText.__init__" (inClass (topS 3) 0) fi_BadText fdi_BadText
  bi_BadText : Binds K fdi_BadText ["self", "place"] []
  O_BadText : OexC K C_BadText
  iC_BadText : PySem.W.findIn K (.ref C_BadText) "__init__" = some (some (.ref fi_BadText))
  tI_BadText : PySem.W.typeIn K (.ref fi_BadText) = some (.type "function")
  N_BadText_place : PySem.W.findIn K (.ref C_BadText) "place" = some none
  XF_BadText : XfC K C_BadText
  IS_BadText : IsC K C_BadText
  C_BadTree : Addr
  g_BadTree : mg "BadTree" = some (.ref C_BadTree)
  fi_BadTree : Addr
  fdi_BadTree : FuncData
  Fi_BadTree : Fun K "__init__" "BadTree.__init__" (inClass (topS 4) 0) fi_BadTree fdi_BadTree
  bi_BadTree : Binds K fdi_BadTree ["self", "path", "place"] []
  O_BadTree : OexC K C_BadTree
  iC_BadTree : PySem.W.findIn K (.ref C_BadTree) "__init__" = some (some (.ref fi_BadTree))
  tI_BadTree : PySem.W.typeIn K (.ref fi_BadTree) = some (.type "function")
  N_BadTree_path : PySem.W.findIn K (.ref C_BadTree) "path" = some none
  N_BadTree_place : PySem.W.findIn K (.ref C_BadTree) "place" = some none
  XF_BadTree : XfC K C_BadTree
  IS_BadTree : IsC K C_BadTree
  C_BadName : Addr
  g_BadName : mg "BadName" = some (.ref C_BadName)
  fi_BadName : Addr
  fdi_BadName : FuncData
  Fi_BadName : Fun K "__init__" "BadName.__init__" (inClass (topS 6) 0) fi_BadName fdi_BadName
  bi_BadName : Binds K fdi_BadName ["self", "name"] []
  O_BadName : OexC K C_BadName
  iC_BadName : PySem.W.findIn K (.ref C_BadName) "__init__" = some (some (.ref fi_BadName))
  tI_BadName : PySem.W.typeIn K (.ref fi_BadName) = some (.type "function")
  N_BadName_name : PySem.W.findIn K (.ref C_BadName) "name" = some none
  XF_BadName : XfC K C_BadName
  IS_BadName : IsC K C_BadName
  C_Taken : Addr
  g_Taken : mg "Taken" = some (.ref C_Taken)
  fi_Taken : Addr
  fdi_Taken : FuncData
  Fi_Taken : Fun K "__init__" "Taken.__init__" (inClass (topS 7) 0) fi_Taken fdi_Taken
  bi_Taken : Binds K fdi_Taken ["self", "name"] []
  O_Taken : OexC K C_Taken
  iC_Taken : PySem.W.findIn K (.ref C_Taken) "__init__" = some (some (.ref fi_Taken))
  tI_Taken : PySem.W.typeIn K (.ref fi_Taken) = some (.type "function")
  N_Taken_name : PySem.W.findIn K (.ref C_Taken) "name" = some none
  XF_Taken : XfC K C_Taken
  IS_Taken : IsC K C_Taken
  C_Unknown : Addr
  g_Unknown : mg "Unknown" = some (.ref C_Unknown)
  fi_Unknown : Addr
  fdi_Unknown : FuncData
  Fi_Unknown : Fun K "__init__" "Unknown.__init__" (inClass (topS 8) 0) fi_Unknown fdi_Unknown
  bi_Unknown : Binds K fdi_Unknown ["self", "name"] []
  O_Unknown : OexC K C_Unknown
  iC_Unknown : PySem.W.findIn K (.ref C_Unknown) "__init__" = some (some (.ref fi_Unknown))
  tI_Unknown : PySem.W.typeIn K (.ref fi_Unknown) = some (.type "function")
  N_Unknown_name : PySem.W.findIn K (.ref C_Unknown) "name" = some none
  XF_Unknown : XfC K C_Unknown
  IS_Unknown : IsC K C_Unknown
  C_Repeated : Addr
  g_Repeated : mg "Repeated" = some (.ref C_Repeated)
  fi_Repeated : Addr
  fdi_Repeated : FuncData
  Fi_Repeated : Fun K "__init__" "Repeated.__init__" (inClass (topS 9) 0) fi_Repeated fdi_Repeated
  bi_Repeated : Binds K fdi_Repeated ["self", "name"] []
  O_Repeated : OexC K C_Repeated
  iC_Repeated : PySem.W.findIn K (.ref C_Repeated) "__init__" = some (some (.ref fi_Repeated))
  tI_Repeated : PySem.W.typeIn K (.ref fi_Repeated) = some (.type "function")
  N_Repeated_name : PySem.W.findIn K (.ref C_Repeated) "name" = some none
  XF_Repeated : XfC K C_Repeated
  IS_Repeated : IsC K C_Repeated
  M_BadText_BadText : PySem.W.exmOne K (.ref C_BadText) (.ref C_BadText) = some true
  M_BadText_PartError : PySem.W.exmOne K (.ref C_BadText) (.ref C_PartError) = some true
  K_BadText_BadName : PySem.W.kitOne K (.ref C_BadText) (.ref C_BadName) = some false
  K_BadText_BadTree : PySem.W.kitOne K (.ref C_BadText) (.ref C_BadTree) = some false
  K_BadText_Repeated : PySem.W.kitOne K (.ref C_BadText) (.ref C_Repeated) = some false
  K_BadText_Taken : PySem.W.kitOne K (.ref C_BadText) (.ref C_Taken) = some false
  K_BadText_Unknown : PySem.W.kitOne K (.ref C_BadText) (.ref C_Unknown) = some false
  K_BadText_ValueError : PySem.W.kitOne K (.ref C_BadText) (.type "ValueError") = some true
  NS_BadText : PySem.W.subIn K (.ref C_BadText) (.type "StopIteration") = some false
  M_BadTree_BadText : PySem.W.exmOne K (.ref C_BadTree) (.ref C_BadText) = some false
  M_BadTree_PartError : PySem.W.exmOne K (.ref C_BadTree) (.ref C_PartError) = some true
  K_BadTree_BadName : PySem.W.kitOne K (.ref C_BadTree) (.ref C_BadName) = some false
  K_BadTree_BadTree : PySem.W.kitOne K (.ref C_BadTree) (.ref C_BadTree) = some true
  K_BadTree_Repeated : PySem.W.kitOne K (.ref C_BadTree) (.ref C_Repeated) = some false
  K_BadTree_Taken : PySem.W.kitOne K (.ref C_BadTree) (.ref C_Taken) = some false
  K_BadTree_Unknown : PySem.W.kitOne K (.ref C_BadTree) (.ref C_Unknown) = some false
  K_BadTree_ValueError : PySem.W.kitOne K (.ref C_BadTree) (.type "ValueError") = some true
  NS_BadTree : PySem.W.subIn K (.ref C_BadTree) (.type "StopIteration") = some false
  M_BadName_BadText : PySem.W.exmOne K (.ref C_BadName) (.ref C_BadText) = some false
  M_BadName_PartError : PySem.W.exmOne K (.ref C_BadName) (.ref C_PartError) = some true
  K_BadName_BadName : PySem.W.kitOne K (.ref C_BadName) (.ref C_BadName) = some true
  K_BadName_BadTree : PySem.W.kitOne K (.ref C_BadName) (.ref C_BadTree) = some false
  K_BadName_Repeated : PySem.W.kitOne K (.ref C_BadName) (.ref C_Repeated) = some false
  K_BadName_Taken : PySem.W.kitOne K (.ref C_BadName) (.ref C_Taken) = some false
  K_BadName_Unknown : PySem.W.kitOne K (.ref C_BadName) (.ref C_Unknown) = some false
  K_BadName_ValueError : PySem.W.kitOne K (.ref C_BadName) (.type "ValueError") = some true
  NS_BadName : PySem.W.subIn K (.ref C_BadName) (.type "StopIteration") = some false
  M_Taken_BadText : PySem.W.exmOne K (.ref C_Taken) (.ref C_BadText) = some false
  M_Taken_PartError : PySem.W.exmOne K (.ref C_Taken) (.ref C_PartError) = some true
  K_Taken_BadName : PySem.W.kitOne K (.ref C_Taken) (.ref C_BadName) = some false
  K_Taken_BadTree : PySem.W.kitOne K (.ref C_Taken) (.ref C_BadTree) = some false
  K_Taken_Repeated : PySem.W.kitOne K (.ref C_Taken) (.ref C_Repeated) = some false
  K_Taken_Taken : PySem.W.kitOne K (.ref C_Taken) (.ref C_Taken) = some true
  K_Taken_Unknown : PySem.W.kitOne K (.ref C_Taken) (.ref C_Unknown) = some false
  K_Taken_ValueError : PySem.W.kitOne K (.ref C_Taken) (.type "ValueError") = some true
  NS_Taken : PySem.W.subIn K (.ref C_Taken) (.type "StopIteration") = some false
  M_Unknown_BadText : PySem.W.exmOne K (.ref C_Unknown) (.ref C_BadText) = some false
  M_Unknown_PartError : PySem.W.exmOne K (.ref C_Unknown) (.ref C_PartError) = some true
  K_Unknown_BadName : PySem.W.kitOne K (.ref C_Unknown) (.ref C_BadName) = some false
  K_Unknown_BadTree : PySem.W.kitOne K (.ref C_Unknown) (.ref C_BadTree) = some false
  K_Unknown_Repeated : PySem.W.kitOne K (.ref C_Unknown) (.ref C_Repeated) = some false
  K_Unknown_Taken : PySem.W.kitOne K (.ref C_Unknown) (.ref C_Taken) = some false
  K_Unknown_Unknown : PySem.W.kitOne K (.ref C_Unknown) (.ref C_Unknown) = some true
  K_Unknown_ValueError : PySem.W.kitOne K (.ref C_Unknown) (.type "ValueError") = some true
  NS_Unknown : PySem.W.subIn K (.ref C_Unknown) (.type "StopIteration") = some false
  M_Repeated_BadText : PySem.W.exmOne K (.ref C_Repeated) (.ref C_BadText) = some false
  M_Repeated_PartError : PySem.W.exmOne K (.ref C_Repeated) (.ref C_PartError) = some true
  K_Repeated_BadName : PySem.W.kitOne K (.ref C_Repeated) (.ref C_BadName) = some false
  K_Repeated_BadTree : PySem.W.kitOne K (.ref C_Repeated) (.ref C_BadTree) = some false
  K_Repeated_Repeated : PySem.W.kitOne K (.ref C_Repeated) (.ref C_Repeated) = some true
  K_Repeated_Taken : PySem.W.kitOne K (.ref C_Repeated) (.ref C_Taken) = some false
  K_Repeated_Unknown : PySem.W.kitOne K (.ref C_Repeated) (.ref C_Unknown) = some false
  K_Repeated_ValueError : PySem.W.kitOne K (.ref C_Repeated) (.type "ValueError") = some true
  NS_Repeated : PySem.W.subIn K (.ref C_Repeated) (.type "StopIteration") = some false
  m_ValueError : mg "ValueError" = none
  m_abs : mg "abs" = none
  m_bool : mg "bool" = none
  m_dict : mg "dict" = none
  m_enumerate : mg "enumerate" = none
  m_int : mg "int" = none
  m_isinstance : mg "isinstance" = none
  m_iter : mg "iter" = none
  m_len : mg "len" = none
  m_list : mg "list" = none
  m_max : mg "max" = none
  m_min : mg "min" = none
  m_range : mg "range" = none
  m_reversed : mg "reversed" = none
  m_set : mg "set" = none
  m_sorted : mg "sorted" = none
  m_str : mg "str" = none
  m_tuple : mg "tuple" = none
  k_CLASH_START : ∃ u, mg "CLASH_START" = some u ∧ RelV (.str "<<<<<<<") u
  k_CLASH_BASE : ∃ u, mg "CLASH_BASE" = some u ∧ RelV (.str "|||||||") u
  k_CLASH_OTHER : ∃ u, mg "CLASH_OTHER" = some u ∧ RelV (.str "=======") u
  k_CLASH_END : ∃ u, mg "CLASH_END" = some u ∧ RelV (.str ">>>>>>>") u
  k_MERGED_PATHS : ∃ u, mg "MERGED_PATHS" = some u ∧ RelV (.int 8) u
  k_MERGED_LINES : ∃ u, mg "MERGED_LINES" = some u ∧ RelV (.int 40) u
  k_SIGNS : ∃ u, mg "SIGNS" = some u ∧ RelV (.str "abcdefghijklmnopqrstuvwxyz0123456789 <=>|-") u
  k_LINE_LENGTH : ∃ u, mg "LINE_LENGTH" = some u ∧ RelV (.int 20) u
  k_TEXT_LENGTH : ∃ u, mg "TEXT_LENGTH" = some u ∧ RelV (.int 40) u
  k_WORD_SIGNS : ∃ u, mg "WORD_SIGNS" = some u ∧ RelV (.str "abcdefghijklmnopqrstuvwxyz0123456789") u
  k_WORD_LENGTH : ∃ u, mg "WORD_LENGTH" = some u ∧ RelV (.int 6) u
  k_PATH_WORDS : ∃ u, mg "PATH_WORDS" = some u ∧ RelV (.int 3) u
  k_TREE_PATHS : ∃ u, mg "TREE_PATHS" = some u ∧ RelV (.int 8) u
  k_NAME_LETTERS : ∃ u, mg "NAME_LETTERS" = some u ∧ RelV (.str "abcdefghijklmnopqrstuvwxyz") u
  k_NAME_DIGITS : ∃ u, mg "NAME_DIGITS" = some u ∧ RelV (.str "0123456789") u
  k_NAME_LENGTH : ∃ u, mg "NAME_LENGTH" = some u ∧ RelV (.int 6) u
section
variable {P : Program} {w : World} {K : PySem.W.Frag} {mg : Str → Option Value} {base : Heap}
theorem sc_init_BadText : FnScope ["self", "place"] ["self", "place"] (defScope (inClass (topS 3) 0)) := ⟨rfl, rfl, rfl, by decide +kernel, rfl, by decide +kernel, by decide +kernel⟩
theorem ok_init_BadText (T : Txt K mg) : FnOk P w K mg base CX0 1 T.fi_BadText T.fdi_BadText ["self", "place"] (sp_oinit T.C_BadText ["place"]) := by
  refine T.Fi_BadText.ok sc_init_BadText (fun vs H Q E h => sp_oinit_len h) (fun cdv A outer s H vs Q E hr h => ?_)
  refine ⟨_, (pss_one (ps_ost (pv 0) (pv 1))), ?_⟩
  obtain ⟨a, ws, rfl, hl, ha, q⟩ := h
  match ws, hl with
  | [v1], _ =>
  refine ⟨_, rfl, _, rfl, a, T.C_BadText, rfl, T.O_BadText, T.N_BadText_place, .inl ⟨ha, fun dx n ne => ?_⟩⟩
  have z := q dx n ne
  first | exact z | (rw [upd_over ne]; exact z) | (rw [upd_over ne, upd_over ne]; exact z)
theorem sc_init_BadTree : FnScope ["self", "path", "place"] ["self", "path", "place"] (defScope (inClass (topS 4) 0)) := ⟨rfl, rfl, rfl, by decide +kernel, rfl, by decide +kernel, by decide +kernel⟩
theorem ok_init_BadTree (T : Txt K mg) : FnOk P w K mg base CX0 1 T.fi_BadTree T.fdi_BadTree ["self", "path", "place"] (sp_oinit T.C_BadTree ["path", "place"]) := by
  refine T.Fi_BadTree.ok sc_init_BadTree (fun vs H Q E h => sp_oinit_len h) (fun cdv A outer s H vs Q E hr h => ?_)
  refine ⟨_, (pss_cons (ps_ost (pv 0) (pv 1)) (pss_one (ps_ost (pv 0) (pv 2)))), ?_⟩
  obtain ⟨a, ws, rfl, hl, ha, q⟩ := h
  match ws, hl with
  | [v1, v2], _ =>
  refine g_seq ?_
  refine ⟨_, rfl, _, rfl, a, T.C_BadTree, rfl, T.O_BadTree, T.N_BadTree_path, .inl ⟨ha, fun dx n ne => ?_⟩⟩
  refine ⟨_, rfl, _, rfl, a, T.C_BadTree, rfl, T.O_BadTree, T.N_BadTree_place, .inr ⟨dx, _, upd_same, by rw [upd_ne ne, upd_same], Nat.le_of_ble_eq_true rfl, ?_⟩⟩
  have z := q dx n ne
  first | exact z | (rw [upd_over ne]; exact z) | (rw [upd_over ne, upd_over ne]; exact z)
theorem ok_init_BadTree_h (T : Txt K mg) : L2H.FnH P w K mg base CX0 1 T.fi_BadTree T.fdi_BadTree ["self", "path", "place"] (sp_oinit T.C_BadTree ["path", "place"]) := by
  refine Fun.okH T.Fi_BadTree sc_init_BadTree (fun vs H Q E h => sp_oinit_len h) (fun cdv A outer s H vs Q E p hot hr h => ?_)
  refine ⟨_, (pss_cons (ps_ost (pv 0) (pv 1)) (pss_one (ps_ost (pv 0) (pv 2)))), ?_⟩
  obtain ⟨a, ws, rfl, hl, ha, q⟩ := h
  match ws, hl with
  | [v1, v2], _ =>
  refine g_seq ?_
  refine ⟨_, rfl, _, rfl, a, T.C_BadTree, rfl, T.O_BadTree, T.N_BadTree_path, .inl ⟨ha, fun dx n ne => ?_⟩⟩
  refine ⟨_, rfl, _, rfl, a, T.C_BadTree, rfl, T.O_BadTree, T.N_BadTree_place, .inr ⟨dx, _, upd_same, by rw [upd_ne ne, upd_same], Nat.le_of_ble_eq_true rfl, ?_⟩⟩
  have z := q dx n ne
  first | exact z | (rw [upd_over ne]; exact z) | (rw [upd_over ne, upd_over ne]; exact z)
theorem sc_init_BadName : FnScope ["self", "name"] ["self", "name"] (defScope (inClass (topS 6) 0)) := ⟨rfl, rfl, rfl, by decide +kernel, rfl, by decide +kernel, by decide +kernel⟩
theorem ok_init_BadName (T : Txt K mg) : FnOk P w K mg base CX0 1 T.fi_BadName T.fdi_BadName ["self", "name"] (sp_oinit T.C_BadName ["name"]) := by
  refine T.Fi_BadName.ok sc_init_BadName (fun vs H Q E h => sp_oinit_len h) (fun cdv A outer s H vs Q E hr h => ?_)
  refine ⟨_, (pss_one (ps_ost (pv 0) (pv 1))), ?_⟩
  obtain ⟨a, ws, rfl, hl, ha, q⟩ := h
  match ws, hl with
  | [v1], _ =>
  refine ⟨_, rfl, _, rfl, a, T.C_BadName, rfl, T.O_BadName, T.N_BadName_name, .inl ⟨ha, fun dx n ne => ?_⟩⟩
  have z := q dx n ne
  first | exact z | (rw [upd_over ne]; exact z) | (rw [upd_over ne, upd_over ne]; exact z)
theorem sc_init_Taken : FnScope ["self", "name"] ["self", "name"] (defScope (inClass (topS 7) 0)) := ⟨rfl, rfl, rfl, by decide +kernel, rfl, by decide +kernel, by decide +kernel⟩
theorem ok_init_Taken (T : Txt K mg) : FnOk P w K mg base CX0 1 T.fi_Taken T.fdi_Taken ["self", "name"] (sp_oinit T.C_Taken ["name"]) := by
  refine T.Fi_Taken.ok sc_init_Taken (fun vs H Q E h => sp_oinit_len h) (fun cdv A outer s H vs Q E hr h => ?_)
  refine ⟨_, (pss_one (ps_ost (pv 0) (pv 1))), ?_⟩
  obtain ⟨a, ws, rfl, hl, ha, q⟩ := h
  match ws, hl with
  | [v1], _ =>
  refine ⟨_, rfl, _, rfl, a, T.C_Taken, rfl, T.O_Taken, T.N_Taken_name, .inl ⟨ha, fun dx n ne => ?_⟩⟩
  have z := q dx n ne
  first | exact z | (rw [upd_over ne]; exact z) | (rw [upd_over ne, upd_over ne]; exact z)
theorem sc_init_Unknown : FnScope ["self", "name"] ["self", "name"] (defScope (inClass (topS 8) 0)) := ⟨rfl, rfl, rfl, by decide +kernel, rfl, by decide +kernel, by decide +kernel⟩
theorem ok_init_Unknown (T : Txt K mg) : FnOk P w K mg base CX0 1 T.fi_Unknown T.fdi_Unknown ["self", "name"] (sp_oinit T.C_Unknown ["name"]) := by
  refine T.Fi_Unknown.ok sc_init_Unknown (fun vs H Q E h => sp_oinit_len h) (fun cdv A outer s H vs Q E hr h => ?_)
  refine ⟨_, (pss_one (ps_ost (pv 0) (pv 1))), ?_⟩
  obtain ⟨a, ws, rfl, hl, ha, q⟩ := h
  match ws, hl with
  | [v1], _ =>
  refine ⟨_, rfl, _, rfl, a, T.C_Unknown, rfl, T.O_Unknown, T.N_Unknown_name, .inl ⟨ha, fun dx n ne => ?_⟩⟩
  have z := q dx n ne
  first | exact z | (rw [upd_over ne]; exact z) | (rw [upd_over ne, upd_over ne]; exact z)
theorem sc_init_Repeated : FnScope ["self", "name"] ["self", "name"] (defScope (inClass (topS 9) 0)) := ⟨rfl, rfl, rfl, by decide +kernel, rfl, by decide +kernel, by decide +kernel⟩
theorem ok_init_Repeated (T : Txt K mg) : FnOk P w K mg base CX0 1 T.fi_Repeated T.fdi_Repeated ["self", "name"] (sp_oinit T.C_Repeated ["name"]) := by
  refine T.Fi_Repeated.ok sc_init_Repeated (fun vs H Q E h => sp_oinit_len h) (fun cdv A outer s H vs Q E hr h => ?_)
  refine ⟨_, (pss_one (ps_ost (pv 0) (pv 1))), ?_⟩
  obtain ⟨a, ws, rfl, hl, ha, q⟩ := h
  match ws, hl with
  | [v1], _ =>
  refine ⟨_, rfl, _, rfl, a, T.C_Repeated, rfl, T.O_Repeated, T.N_Repeated_name, .inl ⟨ha, fun dx n ne => ?_⟩⟩
  have z := q dx n ne
  first | exact z | (rw [upd_over ne]; exact z) | (rw [upd_over ne, upd_over ne]; exact z)
end
local macro_rules | `(tactic| walk_at "m") => `(tactic| ((repeat (first | exact List.Mem.head _ | apply List.Mem.tail)); done))
local macro_rules | `(tactic| walk_at "h") => `(tactic| first | assumption | exact Has.gF (by assumption) (by assumption) | exact Has.get (by assumption) (by walk_at "m"))
local macro_rules | `(tactic| walk_at "c") => `(tactic| ((repeat (first | exact Chg.hd | apply Chg.tl)); done))
local macro_rules | `(tactic| walk_at "is") => `(tactic| first
  | ((with_reducible refine' is2_non ?gh ?_); (case gh => walk_at "h"))
  | (with_reducible refine is_int_list ?_)
  | (with_reducible refine is_int_tuple ?_)
  | (with_reducible refine is_int_dict ?_)
  | (with_reducible refine is_int_int ?_)
  | (with_reducible refine is_int_bool ?_)
  | (with_reducible refine is_int_str ?_)
  | ((with_reducible refine' is2_int ?gh ?_); (case gh => walk_at "h"))
  | (with_reducible refine is_str_list ?_)
  | (with_reducible refine is_str_tuple ?_)
  | (with_reducible refine is_str_dict ?_)
  | (with_reducible refine is_str_int ?_)
  | (with_reducible refine is_str_bool ?_)
  | (with_reducible refine is_str_str ?_)
  | ((with_reducible refine' is2_str ?gh ?_); (case gh => walk_at "h"))
  | (with_reducible refine is_bool_list ?_)
  | (with_reducible refine is_bool_tuple ?_)
  | (with_reducible refine is_bool_dict ?_)
  | (with_reducible refine is_bool_int ?_)
  | (with_reducible refine is_bool_bool ?_)
  | (with_reducible refine is_bool_str ?_)
  | ((with_reducible refine' is2_bool ?gh ?_); (case gh => walk_at "h"))
  | ((with_reducible refine' is_list_list ?gh ?_); (case gh => walk_at "h"))
  | ((with_reducible refine' is_list_tuple ?gh ?_); (case gh => walk_at "h"))
  | ((with_reducible refine' is_list_dict ?gh ?_); (case gh => walk_at "h"))
  | ((with_reducible refine' is_list_int ?gh ?_); (case gh => walk_at "h"))
  | ((with_reducible refine' is_list_bool ?gh ?_); (case gh => walk_at "h"))
  | ((with_reducible refine' is_list_str ?gh ?_); (case gh => walk_at "h"))
  | ((with_reducible refine' is2_list ?ga ?gb ?_); (case ga => walk_at "h"); (case gb => walk_at "h"))
  | ((with_reducible refine' is_tuple_list ?gh ?_); (case gh => walk_at "h"))
  | ((with_reducible refine' is_tuple_tuple ?gh ?_); (case gh => walk_at "h"))
  | ((with_reducible refine' is_tuple_dict ?gh ?_); (case gh => walk_at "h"))
  | ((with_reducible refine' is_tuple_int ?gh ?_); (case gh => walk_at "h"))
  | ((with_reducible refine' is_tuple_bool ?gh ?_); (case gh => walk_at "h"))
  | ((with_reducible refine' is_tuple_str ?gh ?_); (case gh => walk_at "h"))
  | ((with_reducible refine' is2_tuple ?ga ?gb ?_); (case ga => walk_at "h"); (case gb => walk_at "h"))
  | ((with_reducible refine' is_dict_list ?gh ?_); (case gh => walk_at "h"))
  | ((with_reducible refine' is_dict_tuple ?gh ?_); (case gh => walk_at "h"))
  | ((with_reducible refine' is_dict_dict ?gh ?_); (case gh => walk_at "h"))
  | ((with_reducible refine' is_dict_int ?gh ?_); (case gh => walk_at "h"))
  | ((with_reducible refine' is_dict_bool ?gh ?_); (case gh => walk_at "h"))
  | ((with_reducible refine' is_dict_str ?gh ?_); (case gh => walk_at "h"))
  | ((with_reducible refine' is2_dict ?ga ?gb ?_); (case ga => walk_at "h"); (case gb => walk_at "h")))
local macro_rules | `(tactic| walk_at "g") => `(tactic| first
  | (with_reducible refine g_seq ?_)
  | (with_reducible refine g_asg ?_)
  | ((with_reducible refine g_name ?_); dsimp only [List.set, wipe, List.map])
  | ((with_reducible refine' g_var ?gv ?_); (case gv => exact rfl))
  | (with_reducible refine g_c ?_)
  | (with_reducible refine g_op ?_)
  | (with_reducible refine g_cons ?_)
  | (with_reducible refine g_nil ?_)
  | (with_reducible refine g_cb ?_)
  | (with_reducible refine g_call ?_)
  | (with_reducible refine g_tup ?_)
  | (with_reducible refine g_lst ?_)
  | (with_reducible refine g_bm ?_)
  | (with_reducible refine g_bm0 ?_)
  | ((with_reducible refine' g_kbm ?gh ?_); (case gh => walk_at "h"))
  | (with_reducible refine g_drop ?_)
  | (with_reducible refine g_ret ?_)
  | (with_reducible refine g_retN ?_)
  | (with_reducible refine g_next ?_)
  | (with_reducible refine g_brk ?_)
  | (with_reducible refine g_cont ?_)
  | (with_reducible refine g_if ?_)
  | ((with_reducible refine' g_aug ?gv ?_); (case gv => exact rfl))
  | (with_reducible refine g_ipI ?_)
  | (with_reducible refine g_test ?_)
  | (with_reducible refine g_tB ?_)
  | (with_reducible refine g_kB ?_)
  | (with_reducible refine g_not ?_)
  | (with_reducible refine g_and ?_)
  | (with_reducible refine g_or ?_)
  | (with_reducible refine g_andV ?_)
  | (with_reducible refine g_orV ?_)
  | (with_reducible refine g_notV ?_)
  | (with_reducible refine g_ifE ?_)
  | (with_reducible refine g_addI ?_)
  | (with_reducible refine g_rI0 ?_)
  | (with_reducible refine g_eqI ?_)
  | (with_reducible refine g_eqS ?_)
  | (with_reducible refine g_neI ?_)
  | (with_reducible refine g_neS ?_)
  | (with_reducible refine g_isN ?_)
  | (with_reducible refine g_notN ?_)
  | (with_reducible refine g_int ?_)
  | (with_reducible refine g_max2 ?_)
  | (with_reducible refine g_min2 ?_)
  | ((with_reducible refine' g_lenL ?gh ?_); (case gh => walk_at "h"))
  | (with_reducible refine g_sub ?_)
  | (with_reducible refine g_gcons ?_)
  | (with_reducible refine g_gnil ?_)
  | (with_reducible refine g_un ?_)
  | (with_reducible refine g_rU ?_)
  | (with_reducible refine g_forL ?_)
  | (with_reducible refine g_forS ?_)
  | (with_reducible refine g_forR1 ?_)
  | (with_reducible refine g_forR2 ?_)
  | (with_reducible refine g_forR3 ?_)
  | (with_reducible refine g_lcL ?_)
  | (with_reducible refine g_lcR1 ?_)
  | (with_reducible refine g_lcR2 ?_)
  | (with_reducible refine g_slice ?_)
  | (with_reducible refine g_part ?_)
  | (with_reducible refine g_kOI ?_)
  | (with_reducible refine g_nopart ?_)
  | (with_reducible refine g_yes ?_)
  | ((with_reducible refine' g_wipe ?gv ?_); (case gv => exact rfl))
  | (with_reducible refine iteT ?_)
  | (with_reducible refine iteF ?_)
  | (with_reducible refine i_nf ?_)
  | (with_reducible refine i_nt ?_)
  | ((with_reducible refine' g_gtup ?gh ?gl ?_); (case gh => walk_at "h"); (case gl => exact rfl))
  | ((with_reducible refine' g_notinI ?gh ?_); (case gh => walk_at "h"))
  | ((with_reducible refine' g_inI ?gh ?_); (case gh => walk_at "h"))
  | ((with_reducible refine' g_kget2 ?gh ?_); (case gh => walk_at "h"))
  | ((with_reducible refine' g_kgotI ?gh ?_); (case gh => walk_at "h"))
  | (with_reducible refine g_tRev ?_)
  | (with_reducible refine g_neB ?_)
  | (with_reducible refine g_eqB ?_)
  | ((with_reducible refine' g_lenT ?gh ?_); (case gh => walk_at "h"))
  | (with_reducible refine g_star ?_)
  | ((with_reducible refine' g_kstarL ?gh ?_); (case gh => walk_at "h"))
  | ((with_reducible refine' g_kstarT ?gh ?_); (case gh => walk_at "h"))
  | (with_reducible refine g_tru ?_)
  | ((with_reducible refine' g_truL ?gh ?_); (case gh => walk_at "h"))
  | (with_reducible refine g_get2 ?_)
  | (with_reducible refine g_try ?_)
  | (with_reducible refine g_fld ?_)
  | (with_reducible refine g_sfld ?_)
  | (with_reducible refine g_meth ?_)
  | (with_reducible refine g_make ?_)
  | (with_reducible refine g_del ?_)
  | (with_reducible refine g_callS ?_)
  | (with_reducible refine g_raise ?_)
  | (with_reducible refine g_xf ?_)
  | (with_reducible refine g_m0 ?_)
  | (with_reducible refine g_km0 ?_)
  | walk_at "is")
local macro_rules | `(tactic| walk_at "gg") => `(tactic| repeat walk_at "g")
local macro_rules | `(tactic| walk_at "sz") => `(tactic| (refine sz ?_; simp only [List.length_cons, List.length_nil, List.length_map, List.length_append, List.length_replicate]; omega))
local macro_rules | `(tactic| walk_at "sub") => `(tactic| ((repeat (first | exact List.Sublist.slnil | with_reducible apply List.Sublist.cons_cons | with_reducible apply List.Sublist.cons)); done))
def lettersL : List Nat := ("abcdefghijklmnopqrstuvwxyz" : Str).cps.toList
def digitsL : List Nat := ("0123456789" : Str).cps.toList
structure NmOk (z : Str) : Prop where
  l1 : 1 ≤ z.length
  l2 : z.length ≤ 6
  hd : ∀ c, z.cps[0]? = some c → c ∈ lettersL
  all : ∀ c, c ∈ z.cps.toList → c ∈ lettersL ∨ c ∈ digitsL
def isNm (z : Str) : Bool := decide (1 ≤ z.length) && decide (z.length ≤ 6) && (match z.cps[0]? with | some c => decide (c ∈ lettersL) | none => false) && z.cps.toList.all fun c => decide (c ∈ lettersL) || decide (c ∈ digitsL)
theorem isNm_iff {z : Str} : isNm z = true ↔ NmOk z := by
  unfold isNm
  rw [Bool.and_eq_true, Bool.and_eq_true, Bool.and_eq_true, decide_eq_true_eq, decide_eq_true_eq, List.all_eq_true]
  constructor
  · rintro ⟨⟨⟨l1, l2⟩, h0⟩, ha⟩
    refine ⟨l1, l2, fun c hc => ?_, fun c hc => ?_⟩
    · rw [hc] at h0
      exact of_decide_eq_true h0
    · have := ha c hc
      rw [Bool.or_eq_true, decide_eq_true_eq, decide_eq_true_eq] at this
      exact this
  · rintro ⟨l1, l2, h0, ha⟩
    refine ⟨⟨⟨l1, l2⟩, ?_⟩, fun c hc => by rw [Bool.or_eq_true, decide_eq_true_eq, decide_eq_true_eq]; exact ha c hc⟩
    have hlt : 0 < z.cps.size := l1
    have e0 : z.cps[0]? = some z.cps[0] := Array.getElem?_eq_getElem hlt
    rw [e0]
    exact decide_eq_true (h0 _ e0)
theorem isNm_no {z : Str} (h : ¬ NmOk z) : isNm z = false := by
  cases e : isNm z with
  | false => rfl
  | true => exact (h (isNm_iff.mp e)).elim
section
variable {P : Program} {w : World} {K : PySem.W.Frag} {mg : Str → Option Value} {base : Heap}
def sp_is_name (K : PySem.W.Frag) : Sp := fun vs H Q _ => ∃ z : Str, vs = [.str z] ∧ z.length ≤ 10000 ∧ Q (.bl (isNm z)) H
theorem sp_is_name_len {vs H Q E} (h : sp_is_name K vs H Q E) : vs.length = 1 := by
  obtain ⟨_, rfl, _⟩ := h
  rfl
theorem ok_is_name (T : Txt K mg) : FnOk P w K mg base CX0 1 T.f_is_name T.fd_is_name ["value"] (sp_is_name K) := by
  refine T.F_is_name.ok sc_is_name (fun vs H Q E h => sp_is_name_len h) (fun cdv A outer s H vs Q E hr h => ?_)
  refine ⟨_, (pss_cons (ps_if (pt_cmpR (op_eqK K hr.units) (pv 0) pe_str (nomark _)) (pss_one (ps_ret pe_bl)) pss_nil)
      (pss_cons (ps_if (pt_cmpR op_gt (pe_callB (cr_lenK K) (by rfl) T.m_len (by decide +kernel) (pa_cons (pv 0) pa_nil)) (pe_gc (v := .int 6) (by rfl) T.k_NAME_LENGTH) (nomark _)) (pss_one (ps_ret pe_bl)) pss_nil)
      (pss_cons (ps_if (pt_cmpR (op_notinM K P w hr.units (u65 hr)) (pe_ix (ix_K K (hu_of hr)) (pv 0) pe_int (fun _ _ => rfl)) (pe_gc (v := .str "abcdefghijklmnopqrstuvwxyz") (by rfl) T.k_NAME_LETTERS) (by rfl)) (pss_one (ps_ret pe_bl)) pss_nil)
      (pss_cons (ps_for PassesOwn.never rfl (pi_str (pv 0)) (pg_name (i := 1) sc_is_name.nd rfl (.inl rfl)) (pss_one (ps_if (PW.pt (pw_and (pt_cmpR (op_notinM K P w hr.units (u65 hr)) (pv 1) (pe_gc (v := .str "abcdefghijklmnopqrstuvwxyz") (by rfl) T.k_NAME_LETTERS) (by rfl)) (pw_and1 (pt_cmpR (op_notinM K P w hr.units (u65 hr)) (pv 1) (pe_gc (v := .str "0123456789") (by rfl) T.k_NAME_DIGITS) (by rfl))))) (pss_one (ps_ret pe_bl)) pss_nil)))
      (pss_one (ps_ret pe_bl)))))), ?_⟩
  obtain ⟨z, rfl, lz, q⟩ := h
  refine g_start (σ' := [some (.str z), none]) rfl ?_
  walk_at "gg"
  refine i_d (fun e => ?_) (fun ne => ?_)
  · walk_at "gg"
    rw [isNm_no (fun ok => by have := ok.l1; rw [e] at this; exact absurd this (by decide +kernel))] at q
    exact q
  have l1 : 0 < z.cps.size := by
    refine Nat.pos_of_ne_zero fun c => ne ?_
    have : z.cps = #[] := Array.eq_empty_of_size_eq_zero c
    cases z
    exact congrArg Str.mk this
  walk_at "gg"
  refine g_lenS (sz (by omega)) ?_
  walk_at "gg"
  refine i_d (fun e => ?_) (fun l6 => ?_)
  · walk_at "gg"
    rw [isNm_no (fun ok => by have := ok.l2; omega)] at q
    exact q
  walk_at "gg"
  have e0 : z.cps[0]? = some z.cps[0] := Array.getElem?_eq_getElem l1
  generalize z.cps[0] = c0 at e0
  refine g_ixS (c := c0) (sz (by omega)) (atI_nat (j := 0) (by rw [Array.getElem?_toList]; exact e0)) ?_
  walk_at "gg"
  refine g_notinM (g_notinC ?_)
  walk_at "gg"
  refine i_n (fun e => ?_) (fun h0 => ?_)
  · walk_at "gg"
    rw [isNm_no (fun ok => e (ok.hd c0 e0))] at q
    exact q
  walk_at "gg"
  refine k_forS (fun i σ H' => ∃ y1, σ = [some (.str z), y1] ∧ H' = H ∧ ∀ c ∈ z.cps.toList.take i, c ∈ lettersL ∨ c ∈ digitsL) ⟨_, rfl, rfl, by simp⟩ ?_ ?_
  · rintro i c σ H' hc ⟨y1, rfl, rfl, ha⟩
    have hc' : z.cps.toList[i]? = some c := by rw [Array.getElem?_toList]; exact hc
    have hm := List.mem_of_getElem? hc'
    have st : (c ∈ lettersL ∨ c ∈ digitsL) → ∀ d ∈ z.cps.toList.take (i + 1), d ∈ lettersL ∨ d ∈ digitsL := fun k d hd => by
      rw [List.take_add_one, hc'] at hd
      rcases List.mem_append.mp hd with hd | hd
      · exact ha d hd
      · have : d = c := by simpa using hd
        rw [this]
        exact k
    walk_at "gg"
    refine g_notinM (g_notinC ?_)
    walk_at "gg"
    refine i_n (fun e1 => ?_) (fun e1 => ?_)
    · walk_at "gg"
      refine g_notinM (g_notinC ?_)
      walk_at "gg"
      refine i_n (fun e2 => ?_) (fun e2 => ?_)
      · walk_at "gg"
        rw [isNm_no (fun ok => (ok.all c hm).elim e1 e2)] at q
        exact q
      · walk_at "gg"
        exact ⟨_, rfl, rfl, st (.inr e2)⟩
    · walk_at "gg"
      exact ⟨_, rfl, rfl, st (.inl e1)⟩
  · rintro σ H' ⟨y1, rfl, rfl, ha⟩
    walk_at "gg"
    have el : z.cps.toList.take z.length = z.cps.toList := List.take_of_length_le (by rw [Array.length_toList]; exact Nat.le_refl _)
    rw [el] at ha
    rw [isNm_iff.mpr ⟨l1, by omega, fun c hc => by rw [e0] at hc; rw [← Option.some.inj hc]; exact h0, ha⟩] at q
    exact q
end
end
end K37
namespace K37
open PySem PySem.Spec PyProof.Rows L2 Qk
local macro_rules | `(tactic| walk_at "m") => `(tactic| ((repeat (first | exact List.Mem.head _ | apply List.Mem.tail)); done))
local macro_rules | `(tactic| walk_at "h") => `(tactic| first | assumption | exact Has.gF (by assumption) (by assumption) | exact Has.get (by assumption) (by walk_at "m"))
local macro_rules | `(tactic| walk_at "c") => `(tactic| ((repeat (first | exact Chg.hd | apply Chg.tl)); done))
local macro_rules | `(tactic| walk_at "is") => `(tactic| first
  | ((with_reducible refine' is2_non ?gh ?_); (case gh => walk_at "h"))
  | (with_reducible refine is_int_list ?_)
  | (with_reducible refine is_int_tuple ?_)
  | (with_reducible refine is_int_dict ?_)
  | (with_reducible refine is_int_int ?_)
  | (with_reducible refine is_int_bool ?_)
  | (with_reducible refine is_int_str ?_)
  | ((with_reducible refine' is2_int ?gh ?_); (case gh => walk_at "h"))
  | (with_reducible refine is_str_list ?_)
  | (with_reducible refine is_str_tuple ?_)
  | (with_reducible refine is_str_dict ?_)
  | (with_reducible refine is_str_int ?_)
  | (with_reducible refine is_str_bool ?_)
  | (with_reducible refine is_str_str ?_)
  | ((with_reducible refine' is2_str ?gh ?_); (case gh => walk_at "h"))
  | (with_reducible refine is_bool_list ?_)
  | (with_reducible refine is_bool_tuple ?_)
  | (with_reducible refine is_bool_dict ?_)
  | (with_reducible refine is_bool_int ?_)
  | (with_reducible refine is_bool_bool ?_)
  | (with_reducible refine is_bool_str ?_)
  | ((with_reducible refine' is2_bool ?gh ?_); (case gh => walk_at "h"))
  | ((with_reducible refine' is_list_list ?gh ?_); (case gh => walk_at "h"))
  | ((with_reducible refine' is_list_tuple ?gh ?_); (case gh => walk_at "h"))
  | ((with_reducible refine' is_list_dict ?gh ?_); (case gh => walk_at "h"))
  | ((with_reducible refine' is_list_int ?gh ?_); (case gh => walk_at "h"))
  | ((with_reducible refine' is_list_bool ?gh ?_); (case gh => walk_at "h"))
  | ((with_reducible refine' is_list_str ?gh ?_); (case gh => walk_at "h"))
  | ((with_reducible refine' is2_list ?ga ?gb ?_); (case ga => walk_at "h"); (case gb => walk_at "h"))
  | ((with_reducible refine' is_tuple_list ?gh ?_); (case gh => walk_at "h"))
  | ((with_reducible refine' is_tuple_tuple ?gh ?_); (case gh => walk_at "h"))
  | ((with_reducible refine' is_tuple_dict ?gh ?_); (case gh => walk_at "h"))
  | ((with_reducible refine' is_tuple_int ?gh ?_); (case gh => walk_at "h"))
  | ((with_reducible refine' is_tuple_bool ?gh ?_); (case gh => walk_at "h"))
  | ((with_reducible refine' is_tuple_str ?gh ?_); (case gh => walk_at "h"))
  | ((with_reducible refine' is2_tuple ?ga ?gb ?_); (case ga => walk_at "h"); (case gb => walk_at "h"))
  | ((with_reducible refine' is_dict_list ?gh ?_); (case gh => walk_at "h"))
  | ((with_reducible refine' is_dict_tuple ?gh ?_); (case gh => walk_at "h"))
  | ((with_reducible refine' is_dict_dict ?gh ?_); (case gh => walk_at "h"))
  | ((with_reducible refine' is_dict_int ?gh ?_); (case gh => walk_at "h"))
  | ((with_reducible refine' is_dict_bool ?gh ?_); (case gh => walk_at "h"))
  | ((with_reducible refine' is_dict_str ?gh ?_); (case gh => walk_at "h"))
  | ((with_reducible refine' is2_dict ?ga ?gb ?_); (case ga => walk_at "h"); (case gb => walk_at "h")))
local macro_rules | `(tactic| walk_at "g") => `(tactic| first
  | (with_reducible refine g_seq ?_)
  | (with_reducible refine g_asg ?_)
  | ((with_reducible refine g_name ?_); dsimp only [List.set, wipe, List.map])
  | ((with_reducible refine' g_var ?gv ?_); (case gv => exact rfl))
  | (with_reducible refine g_c ?_)
  | (with_reducible refine g_op ?_)
  | (with_reducible refine g_cons ?_)
  | (with_reducible refine g_nil ?_)
  | (with_reducible refine g_cb ?_)
  | (with_reducible refine g_call ?_)
  | (with_reducible refine g_tup ?_)
  | (with_reducible refine g_lst ?_)
  | (with_reducible refine g_bm ?_)
  | (with_reducible refine g_bm0 ?_)
  | ((with_reducible refine' g_kbm ?gh ?_); (case gh => walk_at "h"))
  | (with_reducible refine g_drop ?_)
  | (with_reducible refine g_ret ?_)
  | (with_reducible refine g_retN ?_)
  | (with_reducible refine g_next ?_)
  | (with_reducible refine g_brk ?_)
  | (with_reducible refine g_cont ?_)
  | (with_reducible refine g_if ?_)
  | ((with_reducible refine' g_aug ?gv ?_); (case gv => exact rfl))
  | (with_reducible refine g_ipI ?_)
  | (with_reducible refine g_test ?_)
  | (with_reducible refine g_tB ?_)
  | (with_reducible refine g_kB ?_)
  | (with_reducible refine g_not ?_)
  | (with_reducible refine g_and ?_)
  | (with_reducible refine g_or ?_)
  | (with_reducible refine g_andV ?_)
  | (with_reducible refine g_orV ?_)
  | (with_reducible refine g_notV ?_)
  | (with_reducible refine g_ifE ?_)
  | (with_reducible refine g_addI ?_)
  | (with_reducible refine g_rI0 ?_)
  | (with_reducible refine g_eqI ?_)
  | (with_reducible refine g_eqS ?_)
  | (with_reducible refine g_neI ?_)
  | (with_reducible refine g_neS ?_)
  | (with_reducible refine g_isN ?_)
  | (with_reducible refine g_notN ?_)
  | (with_reducible refine g_int ?_)
  | (with_reducible refine g_max2 ?_)
  | (with_reducible refine g_min2 ?_)
  | ((with_reducible refine' g_lenL ?gh ?_); (case gh => walk_at "h"))
  | (with_reducible refine g_sub ?_)
  | (with_reducible refine g_gcons ?_)
  | (with_reducible refine g_gnil ?_)
  | (with_reducible refine g_un ?_)
  | (with_reducible refine g_rU ?_)
  | (with_reducible refine g_forL ?_)
  | (with_reducible refine g_forS ?_)
  | (with_reducible refine g_forR1 ?_)
  | (with_reducible refine g_forR2 ?_)
  | (with_reducible refine g_forR3 ?_)
  | (with_reducible refine g_lcL ?_)
  | (with_reducible refine g_lcR1 ?_)
  | (with_reducible refine g_lcR2 ?_)
  | (with_reducible refine g_slice ?_)
  | (with_reducible refine g_part ?_)
  | (with_reducible refine g_kOI ?_)
  | (with_reducible refine g_nopart ?_)
  | (with_reducible refine g_yes ?_)
  | ((with_reducible refine' g_wipe ?gv ?_); (case gv => exact rfl))
  | (with_reducible refine iteT ?_)
  | (with_reducible refine iteF ?_)
  | (with_reducible refine i_nf ?_)
  | (with_reducible refine i_nt ?_)
  | ((with_reducible refine' g_gtup ?gh ?gl ?_); (case gh => walk_at "h"); (case gl => exact rfl))
  | ((with_reducible refine' g_notinI ?gh ?_); (case gh => walk_at "h"))
  | ((with_reducible refine' g_inI ?gh ?_); (case gh => walk_at "h"))
  | ((with_reducible refine' g_kget2 ?gh ?_); (case gh => walk_at "h"))
  | ((with_reducible refine' g_kgotI ?gh ?_); (case gh => walk_at "h"))
  | (with_reducible refine g_tRev ?_)
  | (with_reducible refine g_neB ?_)
  | (with_reducible refine g_eqB ?_)
  | ((with_reducible refine' g_lenT ?gh ?_); (case gh => walk_at "h"))
  | (with_reducible refine g_star ?_)
  | ((with_reducible refine' g_kstarL ?gh ?_); (case gh => walk_at "h"))
  | ((with_reducible refine' g_kstarT ?gh ?_); (case gh => walk_at "h"))
  | (with_reducible refine g_tru ?_)
  | ((with_reducible refine' g_truL ?gh ?_); (case gh => walk_at "h"))
  | (with_reducible refine g_get2 ?_)
  | (with_reducible refine g_try ?_)
  | (with_reducible refine g_fld ?_)
  | (with_reducible refine g_sfld ?_)
  | (with_reducible refine g_meth ?_)
  | (with_reducible refine g_make ?_)
  | (with_reducible refine g_del ?_)
  | (with_reducible refine g_callS ?_)
  | (with_reducible refine g_raise ?_)
  | (with_reducible refine g_xf ?_)
  | (with_reducible refine g_m0 ?_)
  | (with_reducible refine g_km0 ?_)
  | walk_at "is")
local macro_rules | `(tactic| walk_at "gg") => `(tactic| repeat walk_at "g")
local macro_rules | `(tactic| walk_at "sz") => `(tactic| (refine sz ?_; simp only [List.length_cons, List.length_nil, List.length_map, List.length_append, List.length_replicate]; omega))
local macro_rules | `(tactic| walk_at "sub") => `(tactic| ((repeat (first | exact List.Sublist.slnil | with_reducible apply List.Sublist.cons_cons | with_reducible apply List.Sublist.cons)); done))
section
abbrev kk (z : Str) : List Nat := z.cps.toList
theorem kk_inj {a b : Str} (h : kk a = kk b) : a = b := by
  cases a with
  | mk x =>
    cases b with
    | mk y =>
      congr 1
      exact Array.toList_inj.mp h
def Asc (xs : List Str) : Prop := xs.Pairwise fun a b => kk a < kk b
theorem kk_cases {a b : Str} (h : ¬ kk b < kk a) (n : a ≠ b) : kk a < kk b := by
  refine Decidable.byContradiction fun h2 => n (kk_inj ?_)
  exact List.le_antisymm (List.not_lt.mp h) (List.not_lt.mp h2)
theorem asc_rise : ∀ (p : Str) (l : List Str), risingS p l = true → (p :: l).Nodup → Asc (p :: l)
  | p, [], _, _ => List.pairwise_cons.mpr ⟨fun _ h => (by cases h), List.Pairwise.nil⟩
  | p, x :: r, h, n => by
    have h : (!PySem.Spec.ltCps x.cps.toList p.cps.toList && risingS x r) = true := h
    rw [Bool.and_eq_true] at h
    have h1 : ¬ kk x < kk p := by
      have := h.1
      rw [ltCps_eq] at this
      simpa using this
    have n2 := List.nodup_cons.mp n
    have ih := asc_rise x r h.2 n2.2
    have lt : kk p < kk x := kk_cases h1 fun e => n2.1 (by rw [e]; exact List.mem_cons_self)
    refine List.pairwise_cons.mpr ⟨fun z hz => ?_, ih⟩
    rcases List.mem_cons.mp hz with rfl | hz
    · exact lt
    · exact List.lt_trans lt ((List.pairwise_cons.mp ih).1 z hz)
theorem asc_of {xs : List Str} (h : sortedS xs = true) (n : xs.Nodup) : Asc xs := by
  cases xs with
  | nil => exact List.Pairwise.nil
  | cons x r => exact asc_rise x r h n
theorem Asc.nodup {xs : List Str} (h : Asc xs) : xs.Nodup := h.imp fun {a b} l e => by
  rw [e] at l
  exact List.lt_irrefl _ l
theorem Asc.ext : ∀ {xs ys : List Str}, Asc xs → Asc ys → (∀ z, z ∈ xs ↔ z ∈ ys) → xs = ys
  | [], [], _, _, _ => rfl
  | [], y :: ys, _, _, h => by cases (h y).mpr List.mem_cons_self
  | x :: xs, [], _, _, h => by cases (h x).mp List.mem_cons_self
  | x :: xs, y :: ys, hx, hy, h => by
    have hx' := List.pairwise_cons.mp hx
    have hy' := List.pairwise_cons.mp hy
    have e : x = y := by
      rcases List.mem_cons.mp ((h x).mp List.mem_cons_self) with e | m1
      · exact e
      · rcases List.mem_cons.mp ((h y).mpr List.mem_cons_self) with e | m2
        · exact e.symm
        · exact (List.lt_irrefl _ (List.lt_trans (hy'.1 x m1) (hx'.1 y m2))).elim
    subst e
    have := Asc.ext hx'.2 hy'.2 fun z => by
      have hz := h z
      rw [List.mem_cons, List.mem_cons] at hz
      constructor
      · intro m
        rcases hz.mp (.inr m) with e | m'
        · exact (List.lt_irrefl _ (e ▸ hx'.1 z m)).elim
        · exact m'
      · intro m
        rcases hz.mpr (.inr m) with e | m'
        · exact (List.lt_irrefl _ (e ▸ hy'.1 z m)).elim
        · exact m'
    rw [this]
theorem Asc.filter {xs : List Str} (h : Asc xs) (p : Str → Bool) : Asc (xs.filter p) := h.sublist List.filter_sublist
/-- a list without repeats, grown by one -/
def addL (xs : List Str) (y : Str) : List Str := if y ∈ xs then xs else xs ++ [y]
theorem addL_mem {xs : List Str} {y z : Str} : z ∈ addL xs y ↔ z ∈ xs ∨ z = y := by
  unfold addL
  split
  · next h =>
    constructor
    · exact .inl
    · rintro (m | rfl)
      · exact m
      · exact h
  · simp
theorem addL_nodup {xs : List Str} {y : Str} (n : xs.Nodup) : (addL xs y).Nodup := by
  unfold addL
  split
  · exact n
  · next h =>
    rw [List.nodup_append]
    refine ⟨n, List.nodup_cons.mpr ⟨fun h => (by cases h), List.nodup_nil⟩, fun a ha b hb e => ?_⟩
    rw [List.mem_singleton.mp hb] at e
    exact h (e ▸ ha)
/-- the keys of a dict that is used as a set -/
def tk (xs : List Str) : List (Key × V) := xs.map fun z => (Sum.inr z, V.bl true)
theorem tk_keys (xs : List Str) : (tk xs).map (·.1) = xs.map Sum.inr := by
  unfold tk
  rw [List.map_map]
  rfl
theorem tk_val (xs : List Str) (z : Str) : (valV (tk xs) (.inr z)).isSome = decide (z ∈ xs) := by
  rw [← valV_any]
  unfold tk
  rw [List.any_map, Bool.eq_iff_iff]
  simp only [List.any_eq_true, Function.comp, decide_eq_true_eq]
  constructor
  · rintro ⟨x, hx, e⟩
    exact Sum.inr.inj e ▸ hx
  · exact fun h => ⟨z, h, rfl⟩
theorem tk_put (xs : List Str) (z : Str) : putK (tk xs) (.inr z) (.bl true) = tk (addL xs z) := by
  unfold putK addL
  rw [valV_any, tk_val]
  by_cases h : z ∈ xs
  · rw [if_pos (decide_eq_true h), if_pos h]
    unfold tk
    rw [List.map_map]
    apply List.map_congr_left
    intro x hx
    show (if (Sum.inr x : Key) = .inr z then ((Sum.inr x : Key), V.bl true) else (.inr x, .bl true)) = _
    split <;> rfl
  · rw [if_neg (by simpa using h), if_neg h]
    unfold tk
    rw [List.map_append]
    rfl
theorem tk_len (xs : List Str) : (tk xs).length = xs.length := List.length_map ..
end
section
abbrev URow := Str × List Str
def undr (rows : List URow) (x : Str) : Option (List Str) := (rows.find? fun r => decide (r.1 = x)).map (·.2)
def uD (r : URow) : PyData := .list (r.2.map PyData.str)
/-- what an order holds: its names, and for each name the ascending list of the versions under it -/
structure OrdOk (F : Hp) (nl : Addr) (kvs : List (Key × V)) (rows : List URow) : Prop where
  keys : kvs.map (·.1) = rows.map fun r => (Sum.inr r.1 : Key)
  vals : DqAll F (kvs.map (·.2)) (rows.map uD)
  names : ∃ ns : List Str, F nl = some (.lst (ns.map V.str)) ∧ Asc ns ∧ ∀ z, z ∈ ns ↔ z ∈ rows.map (·.1)
  few : rows.length ≤ 60
  nd : (rows.map (·.1)).Nodup
  asc : ∀ r ∈ rows, Asc r.2
  sub : ∀ r ∈ rows, ∀ z ∈ r.2, z ∈ rows.map (·.1)
theorem OrdOk.mono {F F' : Hp} {nl : Addr} {kvs : List (Key × V)} {rows : List URow} (h : OrdOk F nl kvs rows) (s : Same F F') : OrdOk F' nl kvs rows := by
  obtain ⟨ns, h1, h2⟩ := h.names
  exact ⟨h.keys, h.vals.up s _ _, ⟨ns, s _ _ h1, h2⟩, h.few, h.nd, h.asc, h.sub⟩
theorem OrdOk.empty {F : Hp} {nl : Addr} (h : F nl = some (.lst [])) : OrdOk F nl [] [] := ⟨rfl, .nil, ⟨[], h, List.Pairwise.nil, fun z => Iff.rfl⟩, Nat.zero_le _, List.nodup_nil, fun r h => (by cases h), fun r h => (by cases h)⟩
theorem undr_cons (r : URow) (rows : List URow) (x : Str) : undr (r :: rows) x = if r.1 = x then some r.2 else undr rows x := by
  unfold undr
  by_cases h : r.1 = x
  · rw [List.find?_cons_of_pos (by simpa using h), if_pos h]; rfl
  · rw [List.find?_cons_of_neg (by simpa using h), if_neg h]
theorem undr_mem {rows : List URow} {x : Str} {u : List Str} (h : undr rows x = some u) : (x, u) ∈ rows := by
  unfold undr at h
  obtain ⟨r, hr, rfl⟩ := Option.map_eq_some_iff.mp h
  have e := List.find?_some hr
  have m := List.mem_of_find?_eq_some hr
  have e : r.1 = x := by simpa using e
  rw [← e]
  exact m
theorem undr_known : ∀ {rows : List URow} {x : Str}, (undr rows x).isSome = decide (x ∈ rows.map (·.1))
  | [], x => rfl
  | r :: rows, x => by
    rw [undr_cons]
    by_cases h : r.1 = x
    · rw [if_pos h]
      simp [h]
    · rw [if_neg h, undr_known (rows := rows)]
      have : ¬ x = r.1 := fun e => h e.symm
      simp [this]
theorem undr_app {rows : List URow} {r : URow} {x : Str} : undr (rows ++ [r]) x = (undr rows x).or (if r.1 = x then some r.2 else none) := by
  unfold undr
  rw [List.find?_append, Option.map_or]
  congr 1
  by_cases h : r.1 = x
  · rw [List.find?_cons_of_pos (by simpa using h), if_pos h]; rfl
  · rw [List.find?_cons_of_neg (by simpa using h), if_neg h]; rfl
theorem look_at : ∀ {kvs : List (Key × V)} {rows : List URow} {F : Hp} {x : Str}, kvs.map (·.1) = rows.map (fun r => (Sum.inr r.1 : Key)) → DqAll F (kvs.map (·.2)) (rows.map uD) →
    (∀ u, undr rows x = some u → ∃ l, valV kvs (.inr x) = some (.ref l) ∧ F l = some (.lst (u.map V.str))) ∧ (undr rows x = none → valV kvs (.inr x) = none)
  | [], [], _, _, _, _ => ⟨fun r h => (by cases h), fun _ => rfl⟩
  | p :: kvs, [], _, _, e, _ => by cases e
  | [], r :: rows, _, _, e, _ => by cases e
  | (q, v) :: kvs, r :: rows, F, x, e, d => by
    rw [List.map_cons, List.map_cons] at e
    injection e with e1 e2
    rw [List.map_cons, List.map_cons] at d
    cases d with
    | cons d1 d2 =>
      have e1 : q = .inr r.1 := e1
      subst e1
      obtain ⟨i1, i2⟩ := look_at (x := x) e2 d2
      rw [undr_cons]
      by_cases h : r.1 = x
      · subst h
        rw [if_pos rfl, valV_pos rfl]
        obtain ⟨l, el, hl⟩ := Dq.of_strs d1
        have el : v = .ref l := el
        refine ⟨fun u hu => ?_, fun z => by cases z⟩
        injection hu with hu
        subst hu
        exact ⟨l, by rw [el], hl⟩
      · rw [if_neg h, valV_neg (fun z => h (Sum.inr.inj z))]
        exact ⟨i1, i2⟩
theorem OrdOk.look {F : Hp} {nl : Addr} {kvs : List (Key × V)} {rows : List URow} {x : Str} {u : List Str} (h : OrdOk F nl kvs rows) (e : undr rows x = some u) : ∃ l, valV kvs (.inr x) = some (.ref l) ∧ F l = some (.lst (u.map V.str)) := (look_at h.keys h.vals).1 u e
theorem OrdOk.val {F : Hp} {nl : Addr} {kvs : List (Key × V)} {rows : List URow} (h : OrdOk F nl kvs rows) (x : Str) : (valV kvs (.inr x)).isSome = (undr rows x).isSome := by
  cases e : undr rows x with
  | none => rw [(look_at h.keys h.vals).2 e]; rfl
  | some u =>
    obtain ⟨l, el, _⟩ := h.look e
    rw [el]; rfl
/-- the first fault of a list of names -/
def chkE (kn : Str → Bool) : List Str → List Str → Option (Bool × Str)
  | _, [] => none
  | seen, x :: r => if kn x = true then if x ∈ seen then some (false, x) else chkE kn (seen ++ [x]) r else some (true, x)
def kn (rows : List URow) (x : Str) : Bool := (undr rows x).isSome
theorem inV_strs (x : Str) (ys : List Str) : inV (.str x) (ys.map V.str) = decide (x ∈ ys) := by
  unfold inV
  rw [List.any_map, Bool.eq_iff_iff]
  simp only [List.any_eq_true, Function.comp, decide_eq_true_eq]
  constructor
  · rintro ⟨y, hy, e⟩
    have e : (y == x) = true := e
    exact (beq_iff_eq.mp e) ▸ hy
  · exact fun h => ⟨x, h, (beq_iff_eq (a := x) (b := x)).mpr rfl⟩
theorem flat_strs (ys : List Str) : (ys.map V.str).all flatV = true := by
  rw [List.all_map]
  exact List.all_eq_true.mpr fun _ _ => rfl
section
variable {P : Program} {w : World} {K : PySem.W.Frag} {mg : Str → Option Value} {base : Heap}
def of_ (nl d : Addr) : List (Str × V) := [("_names", .ref nl), ("_under", .ref d)]
def OrdO (T : Txt K mg) (a dx d nl : Addr) (kvs : List (Key × V)) : Own := [(a, .ins T.C_Order dx (of_ nl d)), (dx, .own a), (d, .dK kvs)]
structure OrdAt (T : Txt K mg) (H : Hp) (a dx d nl : Addr) (kvs : List (Key × V)) : Prop where
  i : H a = some (.ins T.C_Order dx (of_ nl d))
  d : H d = some (.dK kvs)
theorem OrdAt.mono {T : Txt K mg} {H H' : Hp} {a dx d nl : Addr} {kvs : List (Key × V)} (h : OrdAt T H a dx d nl kvs) (s : Same H H') : OrdAt T H' a dx d nl kvs := ⟨s _ _ h.i, s _ _ h.d⟩
/-- an order that stands still -/
structure Ord (T : Txt K mg) (H : Hp) (a : Addr) (rows : List URow) : Prop where
  ex : ∃ dx d nl kvs, OrdAt T H a dx d nl kvs ∧ OrdOk H nl kvs rows
theorem Ord.mono {T : Txt K mg} {H H' : Hp} {a : Addr} {rows : List URow} (h : Ord T H a rows) (s : Same H H') : Ord T H' a rows := by
  obtain ⟨dx, d, nl, kvs, h1, h2⟩ := h.ex
  exact ⟨dx, d, nl, kvs, h1.mono s, h2.mono s⟩
def lost_nm (C : Addr) (H : Hp) (E : XK) (z : Str) : Prop := ∀ e H', Same H H' → H e = none → H' e = some (.xd [("name", .str z)]) → E (.ref C) (some e) H'
def sp_Order___init__ (T : Txt K mg) : Sp := fun vs H Q _ => ∃ (a dx : Addr) (F : Hp), vs = [.ref a] ∧ Has F [(a, .ins T.C_Order dx []), (dx, .own a)] H ∧
  ∀ d nl H' F', H d = none → ButA [(a, .ins T.C_Order dx []), (dx, .own a)] H H' → Grow F H F' → Has F' (OrdO T a dx d nl []) H' → F' nl = some (.lst []) → Q .non H'
theorem sp_Order___init___len {T : Txt K mg} {vs H Q E} (h : sp_Order___init__ T vs H Q E) : vs.length = 1 := by
  obtain ⟨_, _, _, rfl, _⟩ := h
  rfl
theorem ok_Order___init__ (T : Txt K mg) : FnOk P w K mg base CX0 1 T.f_Order___init__ T.fd_Order___init__ ["self"] (sp_Order___init__ T) := by
  refine T.F_Order___init__.ok sc_Order___init__ (fun vs H Q E h => sp_Order___init___len h) (fun cdv A outer s H vs Q E hr h => ?_)
  refine ⟨_, (pss_cons (k_sfld K (ps_fld (pv 0) (pe_lst pa_nil) rfl))
      (pss_one (k_sfld K (ps_fld (pv 0) pe_dnewK rfl)))), ?_⟩
  obtain ⟨a, dx, F, rfl, hH, q⟩ := h
  refine g_start (σ' := [some (.ref a)]) rfl ?_
  walk_at "gg"
  have hr := hH.re
  refine g_klstF (by walk_at "sz") hr (fun nl H0 F0 n0 s0 fnl h0 => ?_)
  walk_at "gg"
  refine g_ksfld (fs' := [("_names", .ref nl)]) h0 .hd rfl T.cl_Order T.nA_Order__names (by decide) (fun H1 h1 => ?_)
  walk_at "gg"
  refine g_dnewK h1 (fun d H2 n2 h2 => ?_)
  walk_at "gg"
  refine g_ksfld (fs' := of_ nl d) h2 (by walk_at "c") rfl T.cl_Order T.nA_Order__under (by show 1 < 1000; decide) (fun H3 h3 => ?_)
  have h3' : Has F0 (OrdO T a dx d nl []) H3 := h3.perm (List.perm_append_comm (l₁ := [(a, HO.ins T.C_Order dx (of_ nl d)), (dx, HO.own a)]) (l₂ := [(d, HO.dK [])]))
  have nd : H d = none := newp hH (mix_but hH s0 h1) h1 (fun q hq => by
    simp only [List.mem_cons, List.not_mem_nil, or_false] at hq
    rcases hq with rfl | rfl <;> simp) n2
  refine q d nl H3 (mixF F H F0) nd (mix_but hH s0 h3') (mix_grow hH s0) (mix_has hH s0 h3' (fun q hq => by
    simp only [OrdO, List.mem_cons, List.not_mem_nil, or_false] at hq
    rcases hq with rfl | rfl | rfl
    · exact .inl (by simp)
    · exact .inl (by simp)
    · exact .inr nd)) ?_
  rw [mix_at n0]
  exact fnl
def sp_Order_under (T : Txt K mg) : Sp := fun vs H Q E => ∃ (a : Addr) (rows : List URow) (x : Str), vs = [.ref a, .str x] ∧ Ord T H a rows ∧ (∀ u, undr rows x = some u → ∀ p H', Same H H' → H p = none → H' p = some (.lst (u.map V.str)) → Q (.ref p) H') ∧ (undr rows x = none → lost_nm T.C_Unknown H E x)
theorem sp_Order_under_len {T : Txt K mg} {vs H Q E} (h : sp_Order_under T vs H Q E) : vs.length = 2 := by
  obtain ⟨_, _, _, rfl, _⟩ := h
  rfl
theorem ok_Order_under (T : Txt K mg) : FnOk P w K mg base (L2N.CX P w) 3 T.f_Order_under T.fd_Order_under ["self", "name"] (sp_Order_under T) := by
  refine Fun.okN T.F_Order_under sc_Order_under (fun vs H Q E h => sp_Order_under_len h) (fun cdv A outer s H vs Q E hr h => ?_)
  refine ⟨_, (pss_cons (ps_if (pt_cmpR (op_notinM K P w hr.units (u65 hr)) (pv 1) (k_fld K (pe_fld (pv 0) rfl)) (by rfl)) (pss_one (k_raise rfl (L2N.takes_of rfl rfl rfl rfl) (pmk_oexN T.O_Unknown T.iC_Unknown T.tI_Unknown (ok_init_Unknown T) (hr.mono (by decide)) T.bi_Unknown pass0 (by rfl) T.g_Unknown (pa_cons (pv 1) pa_nil)))) pss_nil)
      (pss_one (ps_ret (pe_callTy (cr_listK K) (by rfl) T.m_list (by decide +kernel) (pa_cons (pe_ix (ix_K K (hu_of hr)) (k_fld K (pe_fld (pv 0) rfl)) (pv 1) (fun _ _ => rfl)) pa_nil))))), ?_⟩
  obtain ⟨a, rows, x, rfl, ho, q, qe⟩ := h
  obtain ⟨dx, d, nl, kvs, at_, ok⟩ := ho.ex
  have hH := Has.start H
  have ha := at_.i
  have hd := at_.d
  refine g_start (σ' := [some (.ref a), some (.str x)]) rfl ?_
  walk_at "gg"
  refine g_kfld (by walk_at "h") T.cl_Order T.nA_Order__under rfl ?_
  walk_at "gg"
  refine g_notinM (g_notinS hd ?_)
  rw [ok.val]
  cases hu : undr rows x with
  | none =>
    rw [Option.isSome_none]
    walk_at "gg"
    exact g_mk rfl (by decide) hH (fun e H' n' h' => qe hu e H' h'.same n' (h'.get (List.Mem.head _)))
  | some u =>
    obtain ⟨l, el, hl⟩ := ok.look hu
    rw [Option.isSome_some]
    walk_at "gg"
    refine g_kfld (by walk_at "h") T.cl_Order T.nA_Order__under rfl ?_
    walk_at "gg"
    refine g_ixDS hd el ?_
    walk_at "gg"
    refine g_listL hl hH (fun p H1 n1 h1 => ?_)
    exact q u hu p H1 h1.same n1 (h1.get (List.Mem.head _))
end
end
section
theorem map_take1 {α β : Type} (f : α → β) {l : List α} {i : Nat} {x : α} (h : l[i]? = some x) : (l.take (i + 1)).map f = (l.take i).map f ++ [f x] := by
  rw [List.take_add_one, h, List.map_append]
  rfl
theorem drop_at {α : Type} {l : List α} {i : Nat} {x : α} (h : l[i]? = some x) : l.drop i = x :: l.drop (i + 1) := by
  obtain ⟨hlt, rfl⟩ := List.getElem?_eq_some_iff.mp h
  exact List.drop_eq_getElem_cons hlt
theorem str_at {xs : List Str} {i : Nat} {x : V} (h : (xs.map V.str)[i]? = some x) : ∃ z, xs[i]? = some z ∧ x = .str z := by
  rw [List.getElem?_map] at h
  obtain ⟨z, hz, rfl⟩ := Option.map_eq_some_iff.mp h
  exact ⟨z, hz, rfl⟩
section
variable {P : Program} {w : World} {K : PySem.W.Frag} {mg : Str → Option Value} {base : Heap}
def sp_Order_checked (T : Txt K mg) : Sp := fun vs H Q E => ∃ (a l : Addr) (rows : List URow) (xs : List Str), vs = [.ref a, .ref l] ∧ Ord T H a rows ∧ H l = some (.lst (xs.map V.str)) ∧ xs.length ≤ 200 ∧
  (chkE (kn rows) [] xs = none → ∀ p H', Same H H' → H p = none → H' p = some (.lst (xs.map V.str)) → Q (.ref p) H') ∧
  (∀ z, chkE (kn rows) [] xs = some (true, z) → lost_nm T.C_Unknown H E z) ∧ (∀ z, chkE (kn rows) [] xs = some (false, z) → lost_nm T.C_Repeated H E z)
theorem sp_Order_checked_len {T : Txt K mg} {vs H Q E} (h : sp_Order_checked T vs H Q E) : vs.length = 2 := by
  obtain ⟨_, _, _, _, rfl, _⟩ := h
  rfl
theorem ok_Order_checked (T : Txt K mg) : FnOk P w K mg base (L2N.CX P w) 3 T.f_Order_checked T.fd_Order_checked ["self", "names"] (sp_Order_checked T) := by
  refine Fun.okN T.F_Order_checked sc_Order_checked (fun vs H Q E h => sp_Order_checked_len h) (fun cdv A outer s H vs Q E hr h => ?_)
  refine ⟨_, (pss_cons (ps_set (i := 2) sc_Order_checked.nd rfl (.inl rfl) (pe_lst pa_nil))
      (pss_cons (ps_for (L2.passes_of rfl) rfl (k_il K (pi_list (pv 1))) (pg_name (i := 3) sc_Order_checked.nd rfl (.inl rfl)) (pss_cons (ps_if (pt_cmpR (op_notinM K P w hr.units (u65 hr)) (pv 3) (k_fld K (pe_fld (pv 0) rfl)) (by rfl)) (pss_one (k_raise rfl (L2N.takes_of rfl rfl rfl rfl) (pmk_oexN T.O_Unknown T.iC_Unknown T.tI_Unknown (ok_init_Unknown T) (hr.mono (by decide)) T.bi_Unknown pass0 (by rfl) T.g_Unknown (pa_cons (pv 3) pa_nil)))) pss_nil)
      (pss_cons (ps_if (pt_cmpR (op_inM K P w hr.units (u65 hr)) (pv 3) (pv 2) (by rfl)) (pss_one (k_raise rfl (L2N.takes_of rfl rfl rfl rfl) (pmk_oexN T.O_Repeated T.iC_Repeated T.tI_Repeated (ok_init_Repeated T) (hr.mono (by decide)) T.bi_Repeated pass0 (by rfl) T.g_Repeated (pa_cons (pv 3) pa_nil)))) pss_nil)
      (pss_one (ps_expr (k_bm K (pe_bm PySem.F.plainAttrs_list PySem.F.slot_list_append PySem.F.type_list_append mt_append (pv 2) (pa_cons (pv 3) pa_nil))))))))
      (pss_one (ps_ret (pv 2))))), ?_⟩
  obtain ⟨a, l, rows, xs, rfl, ho, hl, few, q, qu, qr⟩ := h
  obtain ⟨dx, d, nl, kvs, at_, ok⟩ := ho.ex
  have hH := Has.start H
  have ha := at_.i
  have hd := at_.d
  refine g_start (σ' := [some (.ref a), some (.ref l), none, none]) rfl ?_
  walk_at "gg"
  refine g_klst (by walk_at "sz") hH (fun p H1 n1 h1 => ?_)
  walk_at "gg"
  refine k_forL (h1.same _ _ hl) (fun t σ H' => ∃ y3, σ = [some (.ref a), some (.ref l), some (.ref p), y3] ∧ Has H [(p, .lst ((xs.take t).map V.str))] H' ∧ chkE (kn rows) [] xs = chkE (kn rows) (xs.take t) (xs.drop t)) ⟨_, rfl, h1, rfl⟩ ?_ ?_ ?_
  · rintro t σ H' _ ⟨y3, rfl, h2, _⟩
    exact h2.same _ _ hl
  · rintro t x σ H2 hx ⟨y3, rfl, h2, e2⟩
    obtain ⟨z, hz, rfl⟩ := str_at hx
    have htl : t < xs.length := (List.getElem?_eq_some_iff.mp hz).1
    rw [drop_at hz] at e2
    have e2 : chkE (kn rows) [] xs = if kn rows z = true then if z ∈ xs.take t then some (false, z) else chkE (kn rows) (xs.take t ++ [z]) (xs.drop (t + 1)) else some (true, z) := e2
    walk_at "gg"
    refine g_kfld (by walk_at "h") T.cl_Order T.nA_Order__under rfl ?_
    walk_at "gg"
    refine g_notinM (g_notinS (h2.same _ _ hd) ?_)
    rw [ok.val]
    cases hk : kn rows z with
    | false =>
      have hk' : (undr rows z).isSome = false := hk
      rw [hk']
      rw [hk, if_neg (fun z => by cases z)] at e2
      walk_at "gg"
      exact g_mk rfl (by decide) h2 (fun e H' n' h' => qu z e2 e H' h'.same (h2.same.free n') (h'.get (List.Mem.head _)))
    | true =>
      have hk' : (undr rows z).isSome = true := hk
      rw [hk']
      rw [hk, if_pos rfl] at e2
      walk_at "gg"
      refine g_inM (g_inFL (h2.get (List.Mem.head _)) rfl (flat_strs _) ?_)
      rw [inV_strs]
      walk_at "gg"
      refine i_d (fun m => ?_) (fun m => ?_)
      · rw [if_pos m] at e2
        walk_at "gg"
        exact g_mk rfl (by decide) h2 (fun e H' n' h' => qr z e2 e H' h'.same (h2.same.free n') (h'.get (List.Mem.head _)))
      · rw [if_neg m] at e2
        walk_at "gg"
        refine g_append h2 .hd (szl (by rw [List.length_map, List.length_take]; omega)) (fun H3 h3 => ?_)
        walk_at "gg"
        have t1 : xs.take (t + 1) = xs.take t ++ [z] := by rw [List.take_add_one, hz]; rfl
        exact ⟨_, rfl, by rw [map_take1 V.str hz]; exact h3, by rw [t1]; exact e2⟩
  · rintro σ H2 ⟨y3, rfl, h2, e2⟩
    rw [List.length_map, List.take_length] at h2
    rw [List.length_map, List.drop_length] at e2
    walk_at "gg"
    exact q e2 p H2 h2.same n1 (h2.get (List.Mem.head _))
end
end
section
theorem chkE_known {kn : Str → Bool} : ∀ {xs seen : List Str}, chkE kn seen xs = none → ∀ z ∈ xs, kn z = true
  | [], _, _, z, hz => by cases hz
  | x :: r, seen, h, z, hz => by
    have h : (if kn x = true then if x ∈ seen then some (false, x) else chkE kn (seen ++ [x]) r else some (true, x)) = none := h
    by_cases hk : kn x = true
    · rw [if_pos hk] at h
      by_cases m : x ∈ seen
      · rw [if_pos m] at h; cases h
      · rw [if_neg m] at h
        rcases List.mem_cons.mp hz with rfl | hz
        · exact hk
        · exact chkE_known h z hz
    · rw [if_neg hk] at h; cases h
def PutU (rows : List URow) (x : Str) (ps us : List Str) : Prop := Asc us ∧ ∀ y, y ∈ us ↔ y = x ∨ ∃ p ∈ ps, ∃ v, undr rows p = some v ∧ y ∈ v
theorem OrdOk.in_names {F : Hp} {nl : Addr} {kvs : List (Key × V)} {rows : List URow} (ok : OrdOk F nl kvs rows) {p y : Str} {v : List Str} (e : undr rows p = some v) (h : y ∈ v) : y ∈ rows.map (·.1) := ok.sub _ (undr_mem e) y h
theorem few_of {rows : List URow} {x : Str} {ys : List Str} (few : rows.length < 60) (n : ys.Nodup) (s : ∀ y ∈ ys, y = x ∨ y ∈ rows.map (·.1)) : ys.length ≤ 60 := by
  have := length_le_of_nodup_of_subset ys (x :: rows.map (·.1)) n fun y hy => List.mem_cons.mpr (s y hy)
  rw [List.length_cons, List.length_map] at this
  omega
section
variable {P : Program} {w : World} {K : PySem.W.Frag} {mg : Str → Option Value} {base : Heap}
/-- the first fault of a put: 0 a bad name, 1 a taken one, 2 an unknown parent, 3 a repeated one -/
def putE (rows : List URow) (x : Str) (ps : List Str) : Option (Nat × Str) := if isNm x = true then (if kn rows x = true then some (1, x) else match chkE (kn rows) [] ps with
  | none => none
  | some (true, z) => some (2, z)
  | some (false, z) => some (3, z)) else some (0, x)
def sp_Order_put (T : Txt K mg) : Sp := fun vs H Q E => ∃ (a dx d nl l : Addr) (F : Hp) (kvs : List (Key × V)) (rows : List URow) (x : Str) (ps : List Str), vs = [.ref a, .str x, .ref l] ∧ Has F (OrdO T a dx d nl kvs) H ∧ OrdOk F nl kvs rows ∧ H l = some (.lst (ps.map V.str)) ∧ x.length ≤ 10000 ∧ ps.length ≤ 200 ∧ rows.length < 60 ∧
  (putE rows x ps = none → ∀ H' F' nl' kvs' us, ButA (OrdO T a dx d nl kvs) H H' → Grow F H F' → Has F' (OrdO T a dx d nl' kvs') H' → OrdOk F' nl' kvs' (rows ++ [(x, us)]) → PutU rows x ps us → Q .non H') ∧
  (∀ z, putE rows x ps = some (0, z) → lost_nm T.C_BadName H E z) ∧ (∀ z, putE rows x ps = some (1, z) → lost_nm T.C_Taken H E z) ∧ (∀ z, putE rows x ps = some (2, z) → lost_nm T.C_Unknown H E z) ∧ (∀ z, putE rows x ps = some (3, z) → lost_nm T.C_Repeated H E z)
theorem sp_Order_put_len {T : Txt K mg} {vs H Q E} (h : sp_Order_put T vs H Q E) : vs.length = 3 := by
  obtain ⟨_, _, _, _, _, _, _, _, _, _, rfl, _⟩ := h
  rfl
theorem ordO_addr {T : Txt K mg} {H : Hp} {a dx d nl nl' : Addr} {kvs kvs' : List (Key × V)} : ∀ q ∈ OrdO T a dx d nl' kvs', q.1 ∈ (OrdO T a dx d nl kvs).map (·.1) ∨ H q.1 = none := fun q hq => by
  simp only [OrdO, List.mem_cons, List.not_mem_nil, or_false] at hq
  rcases hq with rfl | rfl | rfl <;> exact .inl (by simp [OrdO])
theorem ordO_in {T : Txt K mg} {a dx d nl nl' : Addr} {kvs kvs' : List (Key × V)} (X : Own) : ∀ q ∈ OrdO T a dx d nl kvs, q.1 ∈ (X ++ OrdO T a dx d nl' kvs').map (·.1) := fun q hq => by
  rw [List.map_append]
  simp only [OrdO, List.mem_cons, List.not_mem_nil, or_false] at hq
  rcases hq with rfl | rfl | rfl <;> exact List.mem_append_right _ (by simp [OrdO])
theorem ok_Order_put (T : Txt K mg) : FnOk P w K mg base (L2N.CX P w) 4 T.f_Order_put T.fd_Order_put ["self", "name", "parents"] (sp_Order_put T) := by
  refine Fun.okN T.F_Order_put sc_Order_put (fun vs H Q E h => sp_Order_put_len h) (fun cdv A outer s H vs Q E hr h => ?_)
  refine ⟨_, (pss_cons (ps_if (pt_not (pt_val (pe_call (ok_is_name T) (hr.mono (by decide)) (by rfl) T.g_is_name T.F_is_name.kp T.b_is_name .nil pass0 (pa_cons (pv 1) pa_nil)))) (pss_one (k_raise rfl (L2N.takes_of rfl rfl rfl rfl) (pmk_oexN T.O_BadName T.iC_BadName T.tI_BadName (ok_init_BadName T) (hr.mono (by decide)) T.bi_BadName pass0 (by rfl) T.g_BadName (pa_cons (pv 1) pa_nil)))) pss_nil)
      (pss_cons (ps_if (pt_cmpR (op_inM K P w hr.units (u65 hr)) (pv 1) (k_fld K (pe_fld (pv 0) rfl)) (by rfl)) (pss_one (k_raise rfl (L2N.takes_of rfl rfl rfl rfl) (pmk_oexN T.O_Taken T.iC_Taken T.tI_Taken (ok_init_Taken T) (hr.mono (by decide)) T.bi_Taken pass0 (by rfl) T.g_Taken (pa_cons (pv 1) pa_nil)))) pss_nil)
      (pss_cons (ps_set (i := 3) sc_Order_put.nd rfl (.inl rfl) (pe_methW (pv 0) T.cl_Order T.M_Order_checked (ok_Order_checked T) (hr.mono (by decide)) T.b_Order_checked (fun σ => L2N.passAt (L2N.takes_of rfl rfl rfl rfl) σ) (pa_cons (pv 2) pa_nil)))
      (pss_cons (ps_set (i := 4) sc_Order_put.nd rfl (.inl rfl) (pe_disp (pps_cons (pv 1) pe_bl pps_nil) rfl rfl (fun h => nomatch h) (by decide)))
      (pss_cons (ps_for (L2.passes_of rfl) rfl (k_il K (pi_list (pv 3))) (pg_name (i := 5) sc_Order_put.nd rfl (.inl rfl)) (pss_one (ps_for (L2.passes_of rfl) rfl (k_il K (pi_list (pe_ix (ix_K K (hu_of hr)) (k_fld K (pe_fld (pv 0) rfl)) (pv 5) (fun _ _ => rfl)))) (pg_name (i := 6) sc_Order_put.nd rfl (.inl rfl)) (pss_one (ps_asg pe_bl (pg_sub (pv 4) (pv 6) (set_any (hu_of hr))))))))
      (pss_cons (ps_asg (pe_callB (cr_sortA K rfl) (by rfl) T.m_sorted (by decide +kernel) (pa_cons (pv 4) pa_nil)) (pg_sub (k_fld K (pe_fld (pv 0) rfl)) (pv 1) (set_any (hu_of hr))))
      (pss_one (k_sfld K (ps_fld (pv 0) (pe_callB (cr_sortA K rfl) (by rfl) T.m_sorted (by decide +kernel) (pa_cons (pe_lst (k_star K (StX.pa_star (k_fld K (pe_fld (pv 0) rfl)) (pa_cons (pv 1) pa_nil)))) pa_nil)) rfl))))))))), ?_⟩
  obtain ⟨a, dx, d, nl, l, F, kvs, rows, x, ps, rfl, hH, ok, hl, lx, lps, few, q, e0, e1, e2, e3⟩ := h
  have hHH := Has.start H
  refine g_start (σ' := [some (.ref a), some (.str x), some (.ref l), none, none, none, none]) rfl ?_
  have hr := hH.re
  have s0 : Same F (rmO (OrdO T a dx d nl kvs) H) := hH.reF
  have ok0 := ok.mono s0
  have ho : Ord T H a rows := ⟨dx, d, nl, kvs, ⟨hH.get (List.Mem.head _), hH.get (by unfold OrdO; walk_at "m")⟩, ok.mono hH.same⟩
  generalize hF0 : rmO (OrdO T a dx d nl kvs) H = F0 at hr s0 ok0
  walk_at "gg"
  refine ⟨x, rfl, lx, ?_⟩
  walk_at "gg"
  unfold putE at q e0 e1 e2 e3
  cases hnm : isNm x with
  | false =>
    rw [hnm, if_neg (by decide)] at e0
    walk_at "gg"
    exact g_mk rfl (by decide) hHH (fun e H' n' h' => e0 x rfl e H' h'.same n' (h'.get (List.Mem.head _)))
  | true =>
  rw [hnm, if_pos rfl] at q e0 e1 e2 e3
  have nm := isNm_iff.mp hnm
  walk_at "gg"
  refine g_kfld (hr.get (List.Mem.head _)) T.cl_Order T.nA_Order__under rfl ?_
  walk_at "gg"
  refine g_inM (g_inS (hr.get (by unfold OrdO; walk_at "m")) ?_)
  rw [ok.val]
  cases hxx : undr rows x with
  | some u =>
    have hk : kn rows x = true := by unfold kn; rw [hxx]; rfl
    rw [if_pos hk] at e1
    rw [Option.isSome_some]
    walk_at "gg"
    exact g_mk rfl (by decide) hHH (fun e H' n' h' => e1 x rfl e H' h'.same n' (h'.get (List.Mem.head _)))
  | none =>
  have hx := hxx
  have hk : ¬ kn rows x = true := by unfold kn; rw [hxx]; simp
  rw [if_neg hk] at q e0 e1 e2 e3
  rw [Option.isSome_none]
  walk_at "gg"
  refine g_kmeth (hr.get (List.Mem.head _)) rfl ?_
  walk_at "gg"
  refine ⟨a, l, rows, ps, rfl, ho, hl, lps, fun hc p H1 s1 np hp => ?_, (fun z e => e2 z (by rw [e])), (fun z e => e3 z (by rw [e]))⟩
  rw [hc] at q
  have q := q rfl
  have h1 := hr.made np s1 hp
  have h1' := h1.frz
  have s01 := h1.grow
  have fp : upd F0 p (.lst (ps.map V.str)) p = some (.lst (ps.map V.str)) := upd_same
  generalize upd F0 p (.lst (ps.map V.str)) = F1 at h1' s01 fp
  have ok1 := ok0.mono s01
  walk_at "gg"
  refine g_disp1 h1' (fun fd H2 nfd h2 => ?_)
  walk_at "gg"
  refine g_kdisp1 (k := .inr x) h2 rfl (fun H3 h3 => ?_)
  walk_at "gg"
  refine k_forL (h3.same _ _ fp) (fun t σ H' => ∃ (ys : List Str) (y5 y6 : Option V), σ = [some (.ref a), some (.str x), some (.ref l), some (.ref p), some (.ref fd), y5, y6] ∧ Has F1 ((fd, .dK (tk ys)) :: OrdO T a dx d nl kvs) H' ∧ ys.Nodup ∧
    (∀ y, y ∈ ys ↔ y = x ∨ ∃ q ∈ ps.take t, ∃ v, undr rows q = some v ∧ y ∈ v)) ⟨[x], _, _, rfl, h3, List.nodup_cons.mpr ⟨fun h => (by cases h), List.nodup_nil⟩, fun y => by simp⟩ ?_ ?_ ?_
  · rintro t σ H' _ ⟨ys, y5, y6, rfl, h4, _⟩
    exact h4.same _ _ fp
  · rintro t xx σ H4 hxx ⟨ys, y5, y6, rfl, h4, n4, m4⟩
    obtain ⟨q', hq', rfl⟩ := str_at hxx
    have kq := chkE_known hc q' (List.mem_of_getElem? hq')
    obtain ⟨v, hv⟩ := Option.isSome_iff_exists.mp kq
    obtain ⟨lv, elv, hlv⟩ := ok1.look hv
    walk_at "gg"
    refine g_kfld (h4.get (by unfold OrdO; walk_at "m")) T.cl_Order T.nA_Order__under rfl ?_
    walk_at "gg"
    refine g_ixDS (h4.get (by unfold OrdO; walk_at "m")) elv ?_
    walk_at "gg"
    refine k_forL (h4.same _ _ hlv) (fun i σ H' => ∃ (ys : List Str) (y6 : Option V), σ = [some (.ref a), some (.str x), some (.ref l), some (.ref p), some (.ref fd), some (.str q'), y6] ∧ Has F1 ((fd, .dK (tk ys)) :: OrdO T a dx d nl kvs) H' ∧ ys.Nodup ∧
      (∀ y, y ∈ ys ↔ (y = x ∨ ∃ q ∈ ps.take t, ∃ v, undr rows q = some v ∧ y ∈ v) ∨ y ∈ v.take i)) ⟨ys, _, rfl, h4, n4, fun y => by rw [m4 y]; simp⟩ ?_ ?_ ?_
    · rintro i σ H' _ ⟨ys, y6, rfl, h5, _⟩
      exact h5.same _ _ hlv
    · rintro i xx σ H5 hxx ⟨ys, y6, rfl, h5, n5, m5⟩
      obtain ⟨z, hz, rfl⟩ := str_at hxx
      have ly : ys.length ≤ 60 := few_of few n5 fun y hy => by
        rcases (m5 y).mp hy with (h | ⟨q, hq, v', hv', hy'⟩) | h
        · exact .inl h
        · exact .inr (ok.in_names hv' hy')
        · exact .inr (ok.in_names hv (List.mem_of_mem_take h))
      walk_at "gg"
      refine g_stD (k := .inr z) rfl h5 .hd (szl (by rw [tk_len]; omega)) (fun H6 h6 => ?_)
      rw [tk_put] at h6
      refine ⟨addL ys z, _, rfl, h6, addL_nodup n5, fun y => ?_⟩
      rw [addL_mem, m5 y, List.take_add_one, hz]
      simp only [Option.toList_some, List.mem_append, List.mem_singleton]
      rw [or_assoc (b := y ∈ v.take i)]
    · rintro σ H5 ⟨ys, y6, rfl, h5, n5, m5⟩
      rw [List.length_map, List.take_length] at m5
      refine ⟨ys, _, _, rfl, h5, n5, fun y => ?_⟩
      rw [m5 y, List.take_add_one, hq']
      simp only [Option.toList_some, List.mem_append, List.mem_singleton]
      constructor
      · rintro ((h | ⟨q, hq, r⟩) | h)
        · exact .inl h
        · exact .inr ⟨q, .inl hq, r⟩
        · exact .inr ⟨q', .inr rfl, v, hv, h⟩
      · rintro (h | ⟨q, hq | rfl, v', hv', hy⟩)
        · exact .inl (.inl h)
        · exact .inl (.inr ⟨q, hq, v', hv', hy⟩)
        · rw [hv] at hv'
          injection hv' with hv'
          subst hv'
          exact .inr hy
  rintro σ H4 ⟨ys, y5, y6, rfl, h4, n4, m4⟩
  rw [List.length_map, List.take_length] at m4
  have ly : ys.length ≤ 60 := few_of few n4 fun y hy => by
    rcases (m4 y).mp hy with h | ⟨q, hq, v', hv', hy'⟩
    · exact .inl h
    · exact .inr (ok.in_names hv' hy')
  walk_at "gg"
  refine g_sortDS (h4.get (List.Mem.head _)) (tk_keys ys) (by omega) h4 (fun us u1 H5 pm srt n5 h5 => ?_)
  have nu1 : H u1 = none := newp hH (mix_but hH (by rw [hF0]; exact s01) h4) h4 (ordO_in [(fd, HO.dK (tk ys))]) n5
  have asc := asc_of srt (pm.nodup_iff.mpr n4)
  have h5' := h5.frz
  have s12 := h5.grow
  have fu1 : upd F1 u1 (.lst (us.map V.str)) u1 = some (.lst (us.map V.str)) := upd_same
  generalize upd F1 u1 (.lst (us.map V.str)) = F2 at h5' s12 fu1
  have ok2 := ok1.mono s12
  walk_at "gg"
  refine g_kfld (h5'.get (by unfold OrdO; walk_at "m")) T.cl_Order T.nA_Order__under rfl ?_
  walk_at "gg"
  have lk : kvs.length = rows.length := by
    have := congrArg List.length ok.keys
    rw [List.length_map, List.length_map] at this
    exact this
  refine g_stD (k := .inr x) rfl h5' (.tl (.tl (.tl .hd))) (szl (by omega)) (fun H6 h6 => ?_)
  have vn : valV kvs (.inr x) = none := (look_at ok.keys ok.vals).2 hx
  rw [putK_new _ vn] at h6
  obtain ⟨ns, fns, ascn, mns⟩ := ok2.names
  have lns : ns.length ≤ 60 := by
    have := length_le_of_nodup_of_subset ns (rows.map (·.1)) ascn.nodup fun z hz => (mns z).mp hz
    rw [List.length_map] at this
    omega
  walk_at "gg"
  refine g_kfld (h6.get (.tail _ (.head _))) T.cl_Order T.nA_Order__names rfl ?_
  walk_at "gg"
  refine g_klst (by walk_at "sz") h6 (fun n1 H7 n7 h7 => ?_)
  walk_at "gg"
  have e7 : ns.map V.str ++ [V.str x] = (ns ++ [x]).map V.str := by rw [List.map_append]; rfl
  rw [e7] at h7
  refine g_sortS (h7.get (List.Mem.head _)) (by rw [List.length_append]; show ns.length + 1 < 64; omega) h7 (fun ms n2 H8 pm2 srt2 n8 h8 => ?_)
  have xns : x ∉ ns := fun m => by
    have := (mns x).mp m
    have k := undr_known (rows := rows) (x := x)
    rw [hx, decide_eq_true this] at k
    cases k
  have nn2 : H n2 = none := newp hH (mix_but hH (by rw [hF0]; exact s01.trans s12) h7) h7 (ordO_in [(n1, HO.lst ((ns ++ [x]).map V.str)), (fd, HO.dK (tk ys))]) n8
  have ascm := asc_of srt2 (pm2.nodup_iff.mpr (by
    rw [List.nodup_append]
    refine ⟨ascn.nodup, List.nodup_cons.mpr ⟨fun h => (by cases h), List.nodup_nil⟩, fun a ha b hb e => ?_⟩
    rw [List.mem_singleton.mp hb] at e
    exact xns (e ▸ ha)))
  have h8' := h8.frz
  have s23 := h8.grow
  have fn2 : upd F2 n2 (.lst (ms.map V.str)) n2 = some (.lst (ms.map V.str)) := upd_same
  generalize upd F2 n2 (.lst (ms.map V.str)) = F3 at h8' s23 fn2
  walk_at "gg"
  refine g_ksfld (fs' := of_ n2 d) h8' (.tl (.tl .hd)) rfl T.cl_Order T.nA_Order__names (by show 2 < 1000; decide) (fun H9 h9 => ?_)
  walk_at "gg"
  have h9' : Has F3 (OrdO T a dx d n2 (kvs ++ [(.inr x, .ref u1)])) H9 := h9.drop.drop
  have sA : Same (rmO (OrdO T a dx d nl kvs) H) F3 := by
    rw [hF0]
    exact s01.trans (s12.trans s23)
  have gr := mix_grow hH sA
  refine q H9 (mixF F H F3) n2 _ us (mix_but hH sA h9') gr (mix_has hH sA h9' ordO_addr) ?_ ⟨asc, fun y => (pm.mem_iff (a := y)).trans (m4 y)⟩
  refine ⟨?_, ?_, ⟨ms, by rw [mix_at nn2]; exact fn2, ascm, fun z => ?_⟩, ?_, ?_, ?_, ?_⟩
  · rw [List.map_append, List.map_append, ok.keys]; rfl
  · rw [List.map_append, List.map_append]
    exact (ok.vals.up gr.1 _ _).snoc (Dq.strs (by rw [mix_at nu1]; exact s23 _ _ fu1))
  · rw [pm2.mem_iff, List.mem_append, List.map_append, List.mem_append, mns z]
    exact Iff.rfl
  · rw [List.length_append]; show rows.length + 1 ≤ 60; omega
  · rw [List.map_append, List.nodup_append]
    refine ⟨ok.nd, List.nodup_cons.mpr ⟨fun h => (by cases h), List.nodup_nil⟩, fun a ha b hb e => ?_⟩
    have hb : b ∈ [x] := hb
    rw [List.mem_singleton.mp hb] at e
    exact xns ((mns x).mpr (e ▸ ha))
  · intro r hr
    rcases List.mem_append.mp hr with hr | hr
    · exact ok.asc r hr
    · rw [List.mem_singleton.mp hr]; exact asc
  · intro r hr z hz
    rw [List.map_append, List.mem_append]
    rcases List.mem_append.mp hr with hr | hr
    · exact .inl (ok.sub r hr z hz)
    · rw [List.mem_singleton.mp hr] at hz
      rcases (m4 z).mp ((pm.mem_iff).mp hz) with h | ⟨q, hq, v', hv', hy'⟩
      · exact .inr (by rw [h]; exact List.mem_singleton.mpr rfl)
      · exact .inl (ok.in_names hv' hy')
end
end
section
/-- under another one of vs -/
def Cov (rows : List URow) (vs : List Str) (y : Str) : Prop := ∃ g ∈ vs, ∃ u, undr rows g = some u ∧ y ∈ u ∧ y ≠ g
theorem few_in {rows : List URow} {ys : List Str} (few : rows.length ≤ 60) (n : ys.Nodup) (s : ∀ y ∈ ys, y ∈ rows.map (·.1)) : ys.length ≤ 60 := by
  have := length_le_of_nodup_of_subset ys (rows.map (·.1)) n s
  rw [List.length_map] at this
  omega
theorem kn_mem {rows : List URow} {z : Str} : kn rows z = true ↔ z ∈ rows.map (·.1) := by
  unfold kn
  rw [undr_known, decide_eq_true_eq]
section
variable {P : Program} {w : World} {K : PySem.W.Frag} {mg : Str → Option Value} {base : Heap}
def Oth (x : Str) (u : List Str) : List Str := u.filter fun z => !decide (z = x)
def sp_Order_nearest (T : Txt K mg) : Sp := fun vs H Q E => ∃ (a : Addr) (rows : List URow) (x : Str), vs = [.ref a, .str x] ∧ Ord T H a rows ∧
  (∀ u, undr rows x = some u → ∀ p H' us, Same H H' → H p = none → H' p = some (.lst (us.map V.str)) → Asc us → (∀ y, y ∈ us ↔ y ∈ Oth x u ∧ ¬ Cov rows (Oth x u) y) → Q (.ref p) H') ∧ (undr rows x = none → lost_nm T.C_Unknown H E x)
theorem sp_Order_nearest_len {T : Txt K mg} {vs H Q E} (h : sp_Order_nearest T vs H Q E) : vs.length = 2 := by
  obtain ⟨_, _, _, rfl, _⟩ := h
  rfl
theorem ok_Order_nearest (T : Txt K mg) : FnOk P w K mg base (L2N.CX P w) 3 T.f_Order_nearest T.fd_Order_nearest ["self", "name"] (sp_Order_nearest T) := by
  refine Fun.okN T.F_Order_nearest sc_Order_nearest (fun vs H Q E h => sp_Order_nearest_len h) (fun cdv A outer s H vs Q E hr h => ?_)
  refine ⟨_, (pss_cons (ps_if (pt_cmpR (op_notinM K P w hr.units (u65 hr)) (pv 1) (k_fld K (pe_fld (pv 0) rfl)) (by rfl)) (pss_one (k_raise rfl (L2N.takes_of rfl rfl rfl rfl) (pmk_oexN T.O_Unknown T.iC_Unknown T.tI_Unknown (ok_init_Unknown T) (hr.mono (by decide)) T.bi_Unknown pass0 (by rfl) T.g_Unknown (pa_cons (pv 1) pa_nil)))) pss_nil)
      (pss_cons (ps_setLc (i := 2) (own := [("version", 4)]) (g := gName 4) rfl sc_Order_nearest.nd rfl rfl (sw_true rfl rfl rfl (by decide +kernel)) (k_il K (pi_list (pe_ix (ix_K K (hu_of hr)) (k_fld K (pe_fld (pv 0) rfl)) (pv 1) (fun _ _ => rfl)))) (blkOk_by (N := n_Order_nearest) (sc := defScope s_Order_nearest) (by decide +kernel)) (fun _ _ _ _ _ => (pg_name (i := 4) sc_Order_nearest.nd rfl (.inl rfl))) (fun _ _ _ _ _ => (pts_one (pt_cmpR (op_neK K hr.units) (pv 4) (pv 1) (nomark _)))) (fun _ _ _ _ _ => (pv 4)))
      (pss_cons (ps_set (i := 3) sc_Order_nearest.nd rfl (.inr rfl) pe_dnewK)
      (pss_cons (ps_for (L2.passes_of rfl) rfl (k_il K (pi_list (pv 2))) (pg_name (i := 4) sc_Order_nearest.nd rfl (.inl rfl)) (pss_one (ps_for (L2.passes_of rfl) rfl (k_il K (pi_list (pe_ix (ix_K K (hu_of hr)) (k_fld K (pe_fld (pv 0) rfl)) (pv 4) (fun _ _ => rfl)))) (pg_name (i := 5) sc_Order_nearest.nd rfl (.inl rfl)) (pss_one (ps_if (pt_cmpR (op_neK K hr.units) (pv 5) (pv 4) (nomark _)) (pss_one (ps_asg pe_bl (pg_sub (pv 3) (pv 5) (set_any (hu_of hr))))) pss_nil)))))
      (pss_one (ps_ret (pe_lc (own := [("version", 4)]) (g := gName 4) rfl sc_Order_nearest.nd (k_il K (pi_list (pv 2))) (blkOk_by (N := n_Order_nearest) (sc := defScope s_Order_nearest) (by decide +kernel)) (fun _ _ _ _ _ => (pg_name (i := 4) sc_Order_nearest.nd rfl (.inl rfl))) (fun _ _ _ _ _ => (pts_one (pt_cmpR (op_notinM K P w hr.units (u65 hr)) (pv 4) (pv 3) (by rfl)))) (fun _ _ _ _ _ => (pv 4))))))))), ?_⟩
  obtain ⟨a, rows, x, rfl, ho, q, qe⟩ := h
  obtain ⟨dx, d, nl, kvs, at_, ok⟩ := ho.ex
  have hH := Has.start H
  have ha := at_.i
  have hd := at_.d
  have fewr := ok.few
  have inn : ∀ {g v y}, undr rows g = some v → y ∈ v → y ∈ rows.map (·.1) := fun e h => ok.in_names e h
  refine g_start (σ' := [some (.ref a), some (.str x), none, none, none, none]) rfl ?_
  walk_at "gg"
  refine g_kfld (by walk_at "h") T.cl_Order T.nA_Order__under rfl ?_
  walk_at "gg"
  refine g_notinM (g_notinS hd ?_)
  rw [ok.val]
  cases hu : undr rows x with
  | none =>
    rw [Option.isSome_none]
    walk_at "gg"
    exact g_mk rfl (by decide) hH (fun e H' n' h' => qe hu e H' h'.same n' (h'.get (List.Mem.head _)))
  | some u =>
    obtain ⟨l, el, hl⟩ := ok.look hu
    have ascu : Asc u := ok.asc _ (undr_mem hu)
    have lu : u.length ≤ 60 := few_in fewr ascu.nodup fun y hy => inn hu hy
    rw [Option.isSome_some]
    walk_at "gg"
    refine g_kfld (by walk_at "h") T.cl_Order T.nA_Order__under rfl ?_
    walk_at "gg"
    refine g_ixDS hd el ?_
    walk_at "gg"
    refine k_lcL hl hH (fun i acc F' O' => acc = (Oth x (u.take i)).map V.str ∧ F' = H ∧ O' = []) ⟨rfl, rfl, rfl⟩ ?_ ?_ ?_
    · rintro i acc F' O' H3 ⟨_, rfl, rfl⟩ hh
      exact hh.same _ _ hl
    · rintro i xx acc F' O' D H3 hx ⟨rfl, rfl, rfl⟩ hh
      obtain ⟨z, hz, rfl⟩ := str_at hx
      have st : Oth x (u.take (i + 1)) = Oth x (u.take i) ++ Oth x [z] := by
        unfold Oth
        rw [List.take_add_one, hz, List.filter_append]
        rfl
      walk_at "gg"
      refine i_n (fun ne => ?_) (fun e => ?_)
      · walk_at "gg"
        refine k_turn hh ?_ ⟨?_, rfl, rfl⟩
        · rw [List.length_map]
          have := List.length_filter_le (fun z => !decide (z = x)) (u.take i)
          unfold Oth
          rw [List.length_take] at *
          omega
        · rw [st, List.map_append]
          unfold Oth
          rw [List.filter_cons_of_pos (by simpa using ne)]
          rfl
      · refine k_skip hh ⟨?_, rfl, rfl⟩
        rw [st]
        unfold Oth
        rw [List.filter_cons_of_neg (by simpa using e), List.filter_nil, List.append_nil]
    rintro acc F' O' op H1 ⟨rfl, eF, rfl⟩ h1
    rw [eF, List.length_map, List.take_length] at h1
    have mo : ∀ z, z ∈ Oth x u → z ∈ u := fun z h => (List.mem_filter.mp h).1
    have asco : Asc (Oth x u) := ascu.filter _
    have kno : ∀ z ∈ Oth x u, kn rows z = true := fun z h => kn_mem.mpr (inn hu (mo z h))
    have lo : (Oth x u).length ≤ 60 := Nat.le_trans (List.length_filter_le _ _) lu
    have h1n : H op = none := h1.free
    have s1 := h1.grow
    have h1 := h1.frz
    have fop : upd H op (.lst ((Oth x u).map V.str)) op = some (.lst ((Oth x u).map V.str)) := upd_same
    have hd1 := s1 _ _ hd
    have ha1 := s1 _ _ ha
    have ok1 := ok.mono s1
    generalize upd H op (.lst ((Oth x u).map V.str)) = F1 at h1 s1 fop hd1 ha1 ok1
    generalize hgs : Oth x u = gs at fop mo asco kno lo
    walk_at "gg"
    refine g_dnewK h1 (fun fd H2 n2 h2 => ?_)
    walk_at "gg"
    refine k_forL (h2.same _ _ fop) (fun t σ H' => ∃ (ys : List Str) (y4 y5 : Option V), σ = [some (.ref a), some (.str x), some (.ref op), some (.ref fd), y4, y5] ∧ Has F1 [(fd, .dK (tk ys))] H' ∧ ys.Nodup ∧ (∀ y, y ∈ ys ↔ Cov rows (gs.take t) y)) ⟨[], _, _, rfl, h2, List.nodup_nil, fun y => by simp [Cov]⟩ ?_ ?_ ?_
    · rintro t σ H' _ ⟨ys, y4, y5, rfl, h3, _⟩
      exact h3.same _ _ fop
    · rintro t xx σ H3 hxx ⟨ys, y4, y5, rfl, h3, n3, m3⟩
      obtain ⟨q', hq', rfl⟩ := str_at hxx
      have kq := kno q' (List.mem_of_getElem? hq')
      obtain ⟨v, hv⟩ := Option.isSome_iff_exists.mp kq
      obtain ⟨lv, elv, hlv⟩ := ok1.look hv
      walk_at "gg"
      refine g_kfld (h3.same _ _ ha1) T.cl_Order T.nA_Order__under rfl ?_
      walk_at "gg"
      refine g_ixDS (h3.same _ _ hd1) elv ?_
      walk_at "gg"
      refine k_forL (h3.same _ _ hlv) (fun i σ H' => ∃ (ys : List Str) (y5 : Option V), σ = [some (.ref a), some (.str x), some (.ref op), some (.ref fd), some (.str q'), y5] ∧ Has F1 [(fd, .dK (tk ys))] H' ∧ ys.Nodup ∧ (∀ y, y ∈ ys ↔ Cov rows (gs.take t) y ∨ (y ∈ v.take i ∧ y ≠ q'))) ⟨ys, _, rfl, h3, n3, fun y => by rw [m3 y]; simp⟩ ?_ ?_ ?_
      · rintro i σ H' _ ⟨ys, y5, rfl, h5, _⟩
        exact h5.same _ _ hlv
      · rintro i xx σ H5 hxx ⟨ys, y5, rfl, h5, n5, m5⟩
        obtain ⟨z, hz, rfl⟩ := str_at hxx
        have ly : ys.length ≤ 60 := few_in fewr n5 fun y hy => by
          rcases (m5 y).mp hy with ⟨q, hq, v', hv', hy', _⟩ | h
          · exact inn hv' hy'
          · exact inn hv (List.mem_of_mem_take h.1)
        walk_at "gg"
        refine i_n (fun ne => ?_) (fun e => ?_)
        · walk_at "gg"
          refine g_stD (k := .inr z) rfl h5 .hd (szl (by rw [tk_len]; omega)) (fun H6 h6 => ?_)
          rw [tk_put] at h6
          refine ⟨addL ys z, _, rfl, h6, addL_nodup n5, fun y => ?_⟩
          rw [addL_mem, m5 y, List.take_add_one, hz]
          simp only [Option.toList_some, List.mem_append, List.mem_singleton]
          constructor
          · rintro ((h | ⟨h1, h2⟩) | rfl)
            · exact .inl h
            · exact .inr ⟨.inl h1, h2⟩
            · exact .inr ⟨.inr rfl, ne⟩
          · rintro (h | ⟨h1 | rfl, h2⟩)
            · exact .inl (.inl h)
            · exact .inl (.inr ⟨h1, h2⟩)
            · exact .inr rfl
        · walk_at "gg"
          refine ⟨ys, _, rfl, h5, n5, fun y => ?_⟩
          rw [m5 y, List.take_add_one, hz]
          simp only [Option.toList_some, List.mem_append, List.mem_singleton]
          constructor
          · rintro (h | ⟨h1, h2⟩)
            · exact .inl h
            · exact .inr ⟨.inl h1, h2⟩
          · rintro (h | ⟨h1 | rfl, h2⟩)
            · exact .inl h
            · exact .inr ⟨h1, h2⟩
            · exact (h2 e).elim
      · rintro σ H5 ⟨ys, y5, rfl, h5, n5, m5⟩
        rw [List.length_map, List.take_length] at m5
        refine ⟨ys, _, _, rfl, h5, n5, fun y => ?_⟩
        rw [m5 y, List.take_add_one, hq']
        unfold Cov
        simp only [Option.toList_some, List.mem_append, List.mem_singleton]
        constructor
        · rintro (⟨q, hq, r⟩ | ⟨h, ne⟩)
          · exact ⟨q, .inl hq, r⟩
          · exact ⟨q', .inr rfl, v, hv, h, ne⟩
        · rintro ⟨q, hq | rfl, v', hv', hy, ne⟩
          · exact .inl ⟨q, hq, v', hv', hy, ne⟩
          · rw [hv] at hv'
            injection hv' with hv'
            subst hv'
            exact .inr ⟨hy, ne⟩
    rintro σ H3 ⟨ys, y4, y5, rfl, h3, n3, m3⟩
    rw [List.length_map, List.take_length] at m3
    walk_at "gg"
    refine k_lcL (h3.same _ _ fop) h3 (fun i acc F' O' => acc = ((gs.take i).filter fun z => !decide (z ∈ ys)).map V.str ∧ F' = F1 ∧ O' = [(fd, .dK (tk ys))]) ⟨rfl, rfl, rfl⟩ ?_ ?_ ?_
    · rintro i acc F' O' H4 ⟨_, rfl, rfl⟩ hh
      exact hh.same _ _ fop
    · rintro i xx acc F' O' D H4 hx ⟨rfl, rfl, rfl⟩ hh
      obtain ⟨z, hz, rfl⟩ := str_at hx
      walk_at "gg"
      refine g_notinM (g_notinS (hh.get (by walk_at "m")) ?_)
      rw [tk_val]
      walk_at "gg"
      have st : (gs.take (i + 1)).filter (fun z => !decide (z ∈ ys)) = (gs.take i).filter (fun z => !decide (z ∈ ys)) ++ [z].filter (fun z => !decide (z ∈ ys)) := by
        rw [List.take_add_one, hz, List.filter_append]
        rfl
      refine i_n (fun ne => ?_) (fun e => ?_)
      · walk_at "gg"
        refine k_turn hh ?_ ⟨?_, rfl, rfl⟩
        · rw [List.length_map]
          have := List.length_filter_le (fun z => !decide (z ∈ ys)) (gs.take i)
          rw [List.length_take] at *
          omega
        · rw [st, List.map_append, List.filter_cons_of_pos (by simpa using ne)]
          rfl
      · refine k_skip hh ⟨?_, rfl, rfl⟩
        rw [st, List.filter_cons_of_neg (by simpa using e)]
        rw [List.filter_nil, List.append_nil]
    rintro acc F' O' rp H4 ⟨rfl, e4, rfl⟩ h4
    rw [e4, List.length_map, List.take_length] at h4
    refine q u hu rp H4 _ (s1.trans h4.same) (s1.free h4.free) (h4.get (List.Mem.head _)) (asco.filter _) fun y => ?_
    rw [List.mem_filter, hgs]
    simp only [Bool.not_eq_true', decide_eq_false_iff_not]
    rw [m3 y]
def sp_Order_is_under (T : Txt K mg) : Sp := fun vs H Q E => ∃ (a : Addr) (rows : List URow) (x y : Str), vs = [.ref a, .str x, .str y] ∧ Ord T H a rows ∧
  (∀ u v, undr rows x = some u → undr rows y = some v → Q (.bl (decide (x ∈ v))) H) ∧ (undr rows x = none → lost_nm T.C_Unknown H E x) ∧ (∀ u, undr rows x = some u → undr rows y = none → lost_nm T.C_Unknown H E y)
theorem sp_Order_is_under_len {T : Txt K mg} {vs H Q E} (h : sp_Order_is_under T vs H Q E) : vs.length = 3 := by
  obtain ⟨_, _, _, _, rfl, _⟩ := h
  rfl
theorem ok_Order_is_under (T : Txt K mg) : FnOk P w K mg base (L2N.CX P w) 3 T.f_Order_is_under T.fd_Order_is_under ["self", "low", "high"] (sp_Order_is_under T) := by
  refine Fun.okN T.F_Order_is_under sc_Order_is_under (fun vs H Q E h => sp_Order_is_under_len h) (fun cdv A outer s H vs Q E hr h => ?_)
  refine ⟨_, (pss_cons (ps_if (pt_cmpR (op_notinM K P w hr.units (u65 hr)) (pv 1) (k_fld K (pe_fld (pv 0) rfl)) (by rfl)) (pss_one (k_raise rfl (L2N.takes_of rfl rfl rfl rfl) (pmk_oexN T.O_Unknown T.iC_Unknown T.tI_Unknown (ok_init_Unknown T) (hr.mono (by decide)) T.bi_Unknown pass0 (by rfl) T.g_Unknown (pa_cons (pv 1) pa_nil)))) pss_nil)
      (pss_cons (ps_if (pt_cmpR (op_notinM K P w hr.units (u65 hr)) (pv 2) (k_fld K (pe_fld (pv 0) rfl)) (by rfl)) (pss_one (k_raise rfl (L2N.takes_of rfl rfl rfl rfl) (pmk_oexN T.O_Unknown T.iC_Unknown T.tI_Unknown (ok_init_Unknown T) (hr.mono (by decide)) T.bi_Unknown pass0 (by rfl) T.g_Unknown (pa_cons (pv 2) pa_nil)))) pss_nil)
      (pss_one (ps_ret (pe_cmpR (op_inM K P w hr.units (u65 hr)) (pv 1) (pe_ix (ix_K K (hu_of hr)) (k_fld K (pe_fld (pv 0) rfl)) (pv 2) (fun _ _ => rfl)) (by rfl)))))), ?_⟩
  obtain ⟨a, rows, x, y, rfl, ho, q, qx, qy⟩ := h
  obtain ⟨dx, d, nl, kvs, at_, ok⟩ := ho.ex
  have hH := Has.start H
  have ha := at_.i
  have hd := at_.d
  refine g_start (σ' := [some (.ref a), some (.str x), some (.str y)]) rfl ?_
  walk_at "gg"
  refine g_kfld (by walk_at "h") T.cl_Order T.nA_Order__under rfl ?_
  walk_at "gg"
  refine g_notinM (g_notinS hd ?_)
  rw [ok.val]
  cases hu : undr rows x with
  | none =>
    rw [Option.isSome_none]
    walk_at "gg"
    exact g_mk rfl (by decide) hH (fun e H' n' h' => qx hu e H' h'.same n' (h'.get (List.Mem.head _)))
  | some u =>
    rw [Option.isSome_some]
    walk_at "gg"
    refine g_kfld (by walk_at "h") T.cl_Order T.nA_Order__under rfl ?_
    walk_at "gg"
    refine g_notinM (g_notinS hd ?_)
    rw [ok.val]
    cases hv : undr rows y with
    | none =>
      rw [Option.isSome_none]
      walk_at "gg"
      exact g_mk rfl (by decide) hH (fun e H' n' h' => qy u hu hv e H' h'.same n' (h'.get (List.Mem.head _)))
    | some v =>
      obtain ⟨l, el, hl⟩ := ok.look hv
      rw [Option.isSome_some]
      walk_at "gg"
      refine g_kfld (by walk_at "h") T.cl_Order T.nA_Order__under rfl ?_
      walk_at "gg"
      refine g_ixDS hd el ?_
      refine g_inM (g_inFL hl rfl (flat_strs _) ?_)
      rw [inV_strs]
      exact q u v hu hv
end
end
section
section
variable {P : Program} {w : World} {K : PySem.W.Frag} {mg : Str → Option Value} {base : Heap}
def sp_Order_names (T : Txt K mg) : Sp := fun vs H Q _ => ∃ (a : Addr) (rows : List URow), vs = [.ref a] ∧ Ord T H a rows ∧ ∀ p H' ns, Same H H' → H p = none → H' p = some (.lst (ns.map V.str)) → Asc ns → (∀ z, z ∈ ns ↔ z ∈ rows.map (·.1)) → Q (.ref p) H'
theorem sp_Order_names_len {T : Txt K mg} {vs H Q E} (h : sp_Order_names T vs H Q E) : vs.length = 1 := by
  obtain ⟨_, _, rfl, _⟩ := h
  rfl
theorem ok_Order_names (T : Txt K mg) : FnOk P w K mg base CX0 1 T.f_Order_names T.fd_Order_names ["self"] (sp_Order_names T) := by
  refine T.F_Order_names.ok sc_Order_names (fun vs H Q E h => sp_Order_names_len h) (fun cdv A outer s H vs Q E hr h => ?_)
  refine ⟨_, (pss_one (ps_ret (pe_callTy (cr_listK K) (by rfl) T.m_list (by decide +kernel) (pa_cons (k_fld K (pe_fld (pv 0) rfl)) pa_nil)))), ?_⟩
  obtain ⟨a, rows, rfl, ho, q⟩ := h
  have hH := Has.start H
  refine g_start (σ' := [some (.ref a)]) rfl ?_
  obtain ⟨dx, d, nl, kvs, at_, ok⟩ := ho.ex
  obtain ⟨ns, hn, asc, mn⟩ := ok.names
  walk_at "gg"
  refine g_kfld at_.i T.cl_Order T.nA_Order__names rfl ?_
  walk_at "gg"
  refine g_listL hn hH (fun p H1 n1 h1 => ?_)
  exact q p H1 ns h1.same n1 (h1.get (List.Mem.head _)) asc mn
end
end
section
def kForE (K : PySem.W.Frag) (g : TG) (tb : TS) (D : Ends) (σ : L2.St) (vs : List V) (H : Hp) : Prop := ∃ a xs, vs = [.ref a] ∧ SqL K H a xs ∧ kW (Ite K a) g tb D σ H
theorem g_forE {K : PySem.W.Frag} {σ : L2.St} {H : Hp} {D : Ends} {ts : TS} {g : TG} {ta : TA} (q : ta σ H fun vs H1 => kForE K g ts D σ vs H1) : tFor (iEnum K ta) g ts D σ H := by
  have e : (tFor (iEnum K ta) g ts D σ H) = (ta σ H fun vs H1 => kForE K g ts D σ vs H1) := rfl
  rw [e]
  exact q
theorem k_forE {K : PySem.W.Frag} {σ : L2.St} {H : Hp} {D : Ends} {ts : TS} {g : TG} {a : Addr} {xs : List V} (h : H a = some (.lst xs)) (Pv : Nat → L2.St → Hp → Prop) (h0 : Pv 0 σ H) (hl : ∀ i σ H, Pv i σ H → H a = some (.lst xs))
    (hs : ∀ i x σ H T, xs[i]? = some x → Pv i σ H → H T = none → g (.ref T) σ (upd H T (.tup [.int (i : Nat), x])) fun σ2 H2 => ts { D with nx := Pv (i + 1), ct := Pv (i + 1), bk := D.nx } σ2 H2) (hd : ∀ σ H, Pv xs.length σ H → D.nx σ H) : kForE K g ts D σ [.ref a] H := by
  refine ⟨a, xs, rfl, SqL.of h, fun i m σ H => m = xs.length - i ∧ i ≤ xs.length ∧ Pv i σ H, ⟨_, rfl, Nat.zero_le _, h0⟩, ?_⟩
  rintro i m σ H1 ⟨rfl, hi, p⟩
  have hq : SqL K H1 a xs := SqL.of (hl i σ H1 p)
  by_cases hlt : i < xs.length
  · refine .inr ⟨⟨xs, xs[i], hq, List.getElem?_eq_getElem hlt⟩, Pv (i + 1), fun σ' H' p' => ⟨xs.length - (i + 1), by omega, rfl, hlt, p'⟩, ?_⟩
    rintro x H' ⟨T, y, rfl, n, rfl, e⟩
    exact hs i y σ H1 T (e xs hq) p n
  · have e : i = xs.length := by omega
    subst e
    exact .inl ⟨⟨xs, hq, Nat.le_refl _⟩, hd σ H1 p⟩
local macro_rules | `(tactic| walk_at "g") => `(tactic| (with_reducible refine g_forE ?_))
local macro_rules | `(tactic| walk_at "g") => `(tactic| (with_reducible refine g_forE ?_))
local macro_rules | `(tactic| walk_at "g") => `(tactic| first
  | (with_reducible refine g_dcL ?_)
  | (with_reducible refine g_dcT ?_)
  | (with_reducible refine g_m1s ?_)
  | (with_reducible refine g_km1s ?_)
  | (with_reducible refine g_starts ?_)
  | (with_reducible refine g_tryX ?_)
  | (with_reducible refine g_lcS ?_))
def signsL : List Nat := ("abcdefghijklmnopqrstuvwxyz0123456789 <=>|-" : Str).cps.toList
def allIn (L : List Nat) (z : Str) : Bool := z.cps.toList.all fun c => decide (c ∈ L)
def isLine (z : Str) : Bool := decide (z.length ≤ 20) && allIn signsL z
def badF : Nat → Tx → Option Nat
  | _, [] => none
  | k, z :: r => if 40 ≤ k then some k else if isLine z = true then badF (k + 1) r else some k
def badT (t : Tx) : Option Nat := badF 0 t
theorem badF_drop {t : Tx} {i : Nat} {z : Str} (h : t[i]? = some z) : badF i (t.drop i) = if 40 ≤ i then some i else if isLine z = true then badF (i + 1) (t.drop (i + 1)) else some i := by
  obtain ⟨lt, e⟩ := List.getElem?_eq_some_iff.mp h
  rw [List.drop_eq_getElem_cons lt, e]
  rfl
theorem badF_end (t : Tx) (i : Nat) (h : t.length ≤ i) : badF i (t.drop i) = none := by
  rw [List.drop_of_length_le h]
  rfl
theorem allIn_at {L : List Nat} {z : Str} : allIn L z = true ↔ ∀ (i : Nat) (c : Nat), z.cps[i]? = some c → c ∈ L := by
  unfold allIn
  rw [List.all_eq_true]
  constructor
  · intro h i c e
    exact of_decide_eq_true (h c (by rw [Array.mem_toList_iff]; exact Array.mem_of_getElem? e))
  · intro h c hc
    obtain ⟨i, hi⟩ := Array.getElem?_of_mem (Array.mem_toList_iff.mp hc)
    exact decide_eq_true (h i c hi)
section
variable {P : Program} {w : World} {K : PySem.W.Frag} {mg : Str → Option Value} {base : Heap}
def lost_pl (C : Addr) (H : Hp) (E : XK) (i : Int) : Prop := ∀ e H', Same H H' → H e = none → H' e = some (.xd [("place", .int i)]) → E (.ref C) (some e) H'
def sp_is_line (K : PySem.W.Frag) : Sp := fun vs H Q _ => ∃ z : Str, vs = [.str z] ∧ z.length ≤ 10000 ∧ Q (.bl (isLine z)) H
theorem sp_is_line_len {vs H Q E} (h : sp_is_line K vs H Q E) : vs.length = 1 := by
  obtain ⟨_, rfl, _⟩ := h
  rfl
theorem ok_is_line (T : Txt K mg) : FnOk P w K mg base CX0 1 T.f_is_line T.fd_is_line ["value"] (sp_is_line K) := by
  refine T.F_is_line.ok sc_is_line (fun vs H Q E h => sp_is_line_len h) (fun cdv A outer s H vs Q E hr h => ?_)
  refine ⟨_, (pss_cons (ps_if (pt_cmpR op_gt (pe_callB (cr_lenK K) (by rfl) T.m_len (by decide +kernel) (pa_cons (pv 0) pa_nil)) (pe_gc (v := .int 20) (by rfl) T.k_LINE_LENGTH) (nomark _)) (pss_one (ps_ret pe_bl)) pss_nil)
      (pss_cons (ps_for PassesOwn.never rfl (pi_str (pv 0)) (pg_name (i := 1) sc_is_line.nd rfl (.inl rfl)) (pss_one (ps_if (pt_cmpR (op_notinK K hr.units (u65 hr)) (pv 1) (pe_gc (v := .str "abcdefghijklmnopqrstuvwxyz0123456789 <=>|-") (by rfl) T.k_SIGNS) (by rfl)) (pss_one (ps_ret pe_bl)) pss_nil)))
      (pss_one (ps_ret pe_bl)))), ?_⟩
  obtain ⟨z, rfl, lz, q⟩ := h
  refine g_start (σ' := [some (.str z), none]) rfl ?_
  walk_at "gg"
  refine g_lenS (sz (by omega)) ?_
  walk_at "gg"
  refine i_d (fun e => ?_) (fun e => ?_)
  · walk_at "gg"
    have : isLine z = false := by
      unfold isLine
      rw [decide_eq_false (by omega), Bool.false_and]
    rw [this] at q
    exact q
  walk_at "gg"
  refine k_forS (fun i σ H' => (∃ y1, σ = [some (.str z), y1] ∧ H' = H) ∧ ∀ j c, j < i → z.cps[j]? = some c → c ∈ signsL) ⟨⟨_, rfl, rfl⟩, fun j c h => absurd h (Nat.not_lt_zero _)⟩ ?_ ?_
  · rintro i c σ H' hc ⟨⟨y1, rfl, rfl⟩, ok⟩
    walk_at "gg"
    refine g_notinC ?_
    walk_at "gg"
    refine i_n (fun no => ?_) (fun yes => ?_)
    · walk_at "gg"
      have : isLine z = false := by
        unfold isLine
        cases e : allIn signsL z with
        | false => rw [Bool.and_false]
        | true => exact (no (allIn_at.mp e i c hc)).elim
      rw [this] at q
      exact q
    · walk_at "gg"
      refine ⟨⟨_, rfl, rfl⟩, fun j d lt hd => ?_⟩
      by_cases e : j = i
      · subst e
        rw [hc] at hd
        injection hd with hd
        rw [← hd]
        exact yes
      · exact ok j d (by omega) hd
  · rintro σ H' ⟨⟨y1, rfl, rfl⟩, ok⟩
    walk_at "gg"
    have : isLine z = true := by
      unfold isLine
      rw [decide_eq_true (by omega), Bool.true_and]
      refine allIn_at.mpr fun i c hc => ok i c ?_ hc
      have := (Array.getElem?_eq_some_iff.mp hc).1
      exact this
    rw [this] at q
    exact q
def sp_checked_text (T : Txt K mg) : Sp := fun vs H Q E => ∃ (l : Addr) (t : Tx), vs = [.ref l] ∧ H l = some (.lst (t.map V.str)) ∧ (∀ z ∈ t, z.length ≤ 10000) ∧ t.length ≤ 1000 ∧
  (badT t = none → ∀ p H', Same H H' → H p = none → H' p = some (.lst (t.map V.str)) → Q (.ref p) H') ∧ (∀ k, badT t = some k → lost_pl T.C_BadText H E (k : Nat))
theorem sp_checked_text_len {T : Txt K mg} {vs H Q E} (h : sp_checked_text T vs H Q E) : vs.length = 1 := by
  obtain ⟨_, _, rfl, _⟩ := h
  rfl
theorem ok_checked_text (T : Txt K mg) : FnOk P w K mg base (L2N.CX P w) 3 T.f_checked_text T.fd_checked_text ["text"] (sp_checked_text T) := by
  refine Fun.okN T.F_checked_text sc_checked_text (fun vs H Q E h => sp_checked_text_len h) (fun cdv A outer s H vs Q E hr h => ?_)
  refine ⟨_, (pss_cons (ps_for (L2.passes_of rfl) rfl (pi_enum (by rfl) T.m_enumerate (pa_cons (pv 0) pa_nil)) (k_gt K (pg_tup (by rfl) (pgs_cons (pg_name (i := 1) sc_checked_text.nd rfl (.inl rfl)) (pgs_cons (pg_name (i := 2) sc_checked_text.nd rfl (.inl rfl)) pgs_nil)))) (pss_cons (ps_if (pt_cmpR op_ge (pv 1) (pe_gc (v := .int 40) (by rfl) T.k_TEXT_LENGTH) (nomark _)) (pss_one (k_raise rfl (L2N.takes_of rfl rfl rfl rfl) (pmk_oexN T.O_BadText T.iC_BadText T.tI_BadText (ok_init_BadText T) (hr.mono (by decide)) T.bi_BadText pass0 (by rfl) T.g_BadText (pa_cons (pv 1) pa_nil)))) pss_nil)
      (pss_one (ps_if (pt_not (pt_val (pe_call (ok_is_line T) (hr.mono (by decide)) (by rfl) T.g_is_line T.F_is_line.kp T.b_is_line .nil pass0 (pa_cons (pv 2) pa_nil)))) (pss_one (k_raise rfl (L2N.takes_of rfl rfl rfl rfl) (pmk_oexN T.O_BadText T.iC_BadText T.tI_BadText (ok_init_BadText T) (hr.mono (by decide)) T.bi_BadText pass0 (by rfl) T.g_BadText (pa_cons (pv 1) pa_nil)))) pss_nil))))
      (pss_one (ps_ret (pe_callTy (cr_listK K) (by rfl) T.m_list (by decide +kernel) (pa_cons (pv 0) pa_nil))))), ?_⟩
  obtain ⟨l, t, rfl, hl, lz, lt, q, qe⟩ := h
  refine g_start (σ' := [some (.ref l), none, none]) rfl ?_
  walk_at "gg"
  refine k_forE hl (fun i σ H' => (∃ y1 y2, σ = [some (.ref l), y1, y2] ∧ Same H H') ∧ badT t = badF i (t.drop i)) ⟨⟨_, _, rfl, Same.refl _⟩, by rw [List.drop_zero]; rfl⟩ ?_ ?_ ?_
  · rintro i σ H' ⟨⟨y1, y2, rfl, s⟩, _⟩
    exact s _ _ hl
  · rintro i xx σ H2 T2 hx ⟨⟨y1, y2, rfl, s⟩, eb⟩ nT
    obtain ⟨z, hz, rfl⟩ := str_at hx
    have h2 := (Has.start H2).new (o := .tup [.int (i : Nat), .str z]) nT
    refine g_gtup (h2.get (List.Mem.head _)) rfl ?_
    walk_at "gg"
    have h2 := h2.drop
    generalize upd H2 T2 _ = H3 at h2
    have s3 := s.trans h2.same
    rw [badF_drop hz] at eb
    refine i_d (fun e => ?_) (fun e => ?_)
    · rw [if_pos (by omega)] at eb
      walk_at "gg"
      exact g_mk rfl (by decide) h2 (fun e H' n' h' => qe i eb e H' (s.trans h'.same) (s3.free n') (h'.get (List.Mem.head _)))
    rw [if_neg (by omega)] at eb
    walk_at "gg"
    refine ⟨z, rfl, lz z (List.mem_of_getElem? hz), ?_⟩
    walk_at "gg"
    cases hb : isLine z with
    | false =>
      rw [hb, if_neg (by decide)] at eb
      walk_at "gg"
      exact g_mk rfl (by decide) h2 (fun e H' n' h' => qe i eb e H' (s.trans h'.same) (s3.free n') (h'.get (List.Mem.head _)))
    | true =>
      rw [hb, if_pos rfl] at eb
      walk_at "gg"
      exact ⟨⟨_, _, rfl, s3⟩, eb⟩
  · rintro σ H2 ⟨⟨y1, y2, rfl, s⟩, eb⟩
    rw [badF_end _ _ (by rw [List.length_map]; omega)] at eb
    walk_at "gg"
    refine g_listL (s _ _ hl) (Has.start H2) (fun p H3 n3 h3 => ?_)
    exact q eb p H3 (s.trans h3.same) (s.free n3) (h3.get (List.Mem.head _))
end
end
section
local macro_rules | `(tactic| walk_at "g") => `(tactic| (with_reducible refine g_forE ?_))
local macro_rules | `(tactic| walk_at "g") => `(tactic| first
  | (with_reducible refine g_dcL ?_)
  | (with_reducible refine g_dcT ?_)
  | (with_reducible refine g_m1s ?_)
  | (with_reducible refine g_km1s ?_)
  | (with_reducible refine g_starts ?_)
  | (with_reducible refine g_tryX ?_)
  | (with_reducible refine g_lcS ?_))
def wsignsL : List Nat := ("abcdefghijklmnopqrstuvwxyz0123456789" : Str).cps.toList
def isWord (z : Str) : Bool := decide (1 ≤ z.length) && (decide (z.length ≤ 6) && allIn wsignsL z)
def isPath (z : Str) : Bool := decide ((Txt.split z "/").length ≤ 3) && (Txt.split z "/").all isWord
theorem len_zero {z : Str} : z = "" ↔ z.length = 0 := by
  constructor
  · rintro rfl
    rfl
  · intro h
    cases z with
    | mk cps =>
      have h : cps.size = 0 := h
      have : cps = #[] := Array.eq_empty_of_size_eq_zero h
      rw [this]
      rfl
section
variable {P : Program} {w : World} {K : PySem.W.Frag} {mg : Str → Option Value} {base : Heap}
def sp_is_word (K : PySem.W.Frag) : Sp := fun vs H Q _ => ∃ z : Str, vs = [.str z] ∧ z.length ≤ 10000 ∧ Q (.bl (isWord z)) H
theorem sp_is_word_len {vs H Q E} (h : sp_is_word K vs H Q E) : vs.length = 1 := by
  obtain ⟨_, rfl, _⟩ := h
  rfl
theorem ok_is_word (T : Txt K mg) : FnOk P w K mg base CX0 1 T.f_is_word T.fd_is_word ["value"] (sp_is_word K) := by
  refine T.F_is_word.ok sc_is_word (fun vs H Q E h => sp_is_word_len h) (fun cdv A outer s H vs Q E hr h => ?_)
  refine ⟨_, (pss_cons (ps_if (pt_cmpR (op_eqK K hr.units) (pv 0) pe_str (nomark _)) (pss_one (ps_ret pe_bl)) pss_nil)
      (pss_cons (ps_if (pt_cmpR op_gt (pe_callB (cr_lenK K) (by rfl) T.m_len (by decide +kernel) (pa_cons (pv 0) pa_nil)) (pe_gc (v := .int 6) (by rfl) T.k_WORD_LENGTH) (nomark _)) (pss_one (ps_ret pe_bl)) pss_nil)
      (pss_cons (ps_for PassesOwn.never rfl (pi_str (pv 0)) (pg_name (i := 1) sc_is_word.nd rfl (.inl rfl)) (pss_one (ps_if (pt_cmpR (op_notinK K hr.units (u65 hr)) (pv 1) (pe_gc (v := .str "abcdefghijklmnopqrstuvwxyz0123456789") (by rfl) T.k_WORD_SIGNS) (by rfl)) (pss_one (ps_ret pe_bl)) pss_nil)))
      (pss_one (ps_ret pe_bl))))), ?_⟩
  obtain ⟨z, rfl, lz, q⟩ := h
  refine g_start (σ' := [some (.str z), none]) rfl ?_
  walk_at "gg"
  refine i_d (fun e => ?_) (fun ne => ?_)
  · walk_at "gg"
    have : isWord z = false := by
      unfold isWord
      rw [decide_eq_false (by rw [len_zero.mp e]; decide), Bool.false_and]
    rw [this] at q
    exact q
  have l1 : 1 ≤ z.length := by
    have : z.length ≠ 0 := fun h => ne (len_zero.mpr h)
    omega
  walk_at "gg"
  refine g_lenS (sz (by omega)) ?_
  walk_at "gg"
  refine i_d (fun e => ?_) (fun e => ?_)
  · walk_at "gg"
    have : isWord z = false := by
      unfold isWord
      rw [decide_eq_false (p := z.length ≤ 6) (by omega), Bool.false_and, Bool.and_false]
    rw [this] at q
    exact q
  have core : isWord z = allIn wsignsL z := by
    unfold isWord
    rw [decide_eq_true l1, decide_eq_true (by omega), Bool.true_and, Bool.true_and]
  rw [core] at q
  walk_at "gg"
  refine k_forS (fun i σ H' => (∃ y1, σ = [some (.str z), y1] ∧ H' = H) ∧ ∀ j c, j < i → z.cps[j]? = some c → c ∈ wsignsL) ⟨⟨_, rfl, rfl⟩, fun j c h => absurd h (Nat.not_lt_zero _)⟩ ?_ ?_
  · rintro i c σ H' hc ⟨⟨y1, rfl, rfl⟩, ok⟩
    walk_at "gg"
    refine g_notinC ?_
    walk_at "gg"
    refine i_n (fun no => ?_) (fun yes => ?_)
    · walk_at "gg"
      have : allIn wsignsL z = false := by
        cases e : allIn wsignsL z with
        | false => rfl
        | true => exact (no (allIn_at.mp e i c hc)).elim
      rw [this] at q
      exact q
    · walk_at "gg"
      refine ⟨⟨_, rfl, rfl⟩, fun j d lt hd => ?_⟩
      by_cases e : j = i
      · subst e
        rw [hc] at hd
        injection hd with hd
        rw [← hd]
        exact yes
      · exact ok j d (by omega) hd
  · rintro σ H' ⟨⟨y1, rfl, rfl⟩, ok⟩
    walk_at "gg"
    have : allIn wsignsL z = true := allIn_at.mpr fun i c hc => ok i c (Array.getElem?_eq_some_iff.mp hc).1 hc
    rw [this] at q
    exact q
def sp_is_path (K : PySem.W.Frag) : Sp := fun vs H Q _ => ∃ z : Str, vs = [.str z] ∧ z.length ≤ 5000 ∧ ∀ H', Same H H' → Q (.bl (isPath z)) H'
theorem sp_is_path_len {vs H Q E} (h : sp_is_path K vs H Q E) : vs.length = 1 := by
  obtain ⟨_, rfl, _⟩ := h
  rfl
theorem ok_is_path (T : Txt K mg) : FnOk P w K mg base CX0 2 T.f_is_path T.fd_is_path ["value"] (sp_is_path K) := by
  refine T.F_is_path.ok sc_is_path (fun vs H Q E h => sp_is_path_len h) (fun cdv A outer s H vs Q E hr h => ?_)
  refine ⟨_, (pss_cons (ps_set (i := 1) sc_is_path.nd rfl (.inl rfl) (k_split (pv 0) pe_str))
      (pss_cons (ps_if (pt_cmpR op_gt (pe_callB (cr_lenK K) (by rfl) T.m_len (by decide +kernel) (pa_cons (pv 1) pa_nil)) (pe_gc (v := .int 3) (by rfl) T.k_PATH_WORDS) (nomark _)) (pss_one (ps_ret pe_bl)) pss_nil)
      (pss_cons (ps_for PassesOwn.never rfl (k_il K (pi_list (pv 1))) (pg_name (i := 2) sc_is_path.nd rfl (.inl rfl)) (pss_one (ps_if (pt_not (pt_val (pe_call (ok_is_word T) (hr.mono (by decide)) (by rfl) T.g_is_word T.F_is_word.kp T.b_is_word .nil pass0 (pa_cons (pv 2) pa_nil)))) (pss_one (ps_ret pe_bl)) pss_nil)))
      (pss_one (ps_ret pe_bl))))), ?_⟩
  obtain ⟨z, rfl, lz, q⟩ := h
  refine g_start (σ' := [some (.str z), none, none]) rfl ?_
  walk_at "gg"
  refine g_split rfl (by omega) (Has.start H) (fun p H1 n1 h1 => ?_)
  have lsp := PyProof.Rows.split_le z "/"
  have lpa : ∀ a ∈ Txt.split z "/", a.length ≤ z.length := fun a ha => PyProof.Rows.part_short ha
  have hp := h1.get (List.Mem.head _)
  unfold isPath at q
  generalize Txt.split z "/" = ws at h1 lsp lpa q hp
  walk_at "gg"
  rw [List.length_map]
  refine i_d (fun e => ?_) (fun e => ?_)
  · walk_at "gg"
    rw [decide_eq_false (by omega), Bool.false_and] at q
    exact q H1 h1.same
  rw [decide_eq_true (by omega), Bool.true_and] at q
  walk_at "gg"
  refine k_forL hp (fun i σ H' => (∃ y2, σ = [some (.str z), some (.ref p), y2] ∧ H' = H1) ∧ ∀ a ∈ ws.take i, isWord a = true) ⟨⟨_, rfl, rfl⟩, fun a h => by cases h⟩ ?_ ?_ ?_
  · rintro i σ H' _ ⟨⟨y2, rfl, rfl⟩, _⟩
    exact hp
  · rintro i v σ H' hv ⟨⟨y2, rfl, rfl⟩, ok⟩
    obtain ⟨a, ha, rfl⟩ := str_at hv
    have la := lpa a (List.mem_of_getElem? ha)
    walk_at "gg"
    refine ⟨a, rfl, by omega, ?_⟩
    walk_at "gg"
    cases hb : isWord a with
    | false =>
      walk_at "gg"
      have : ws.all isWord = false := by
        cases e : ws.all isWord with
        | false => rfl
        | true =>
          have := List.all_eq_true.mp e a (List.mem_of_getElem? ha)
          rw [hb] at this
          cases this
      rw [this] at q
      exact q _ h1.same
    | true =>
      walk_at "gg"
      refine ⟨⟨_, rfl, rfl⟩, fun b hb' => ?_⟩
      rw [List.take_add_one, ha] at hb'
      rcases List.mem_append.mp hb' with h | h
      · exact ok b h
      · have e : b = a := by simpa using h
        rw [e]
        exact hb
  · rintro σ H' ⟨⟨y2, rfl, rfl⟩, ok⟩
    rw [List.length_map, List.take_length] at ok
    walk_at "gg"
    have : ws.all isWord = true := List.all_eq_true.mpr ok
    rw [this] at q
    exact q _ h1.same
end
end
section
def AscT (A : Tr) : Prop := Asc (A.map (·.1))
theorem AscT.nd {A : Tr} (h : AscT A) : (A.map (·.1)).Nodup := Asc.nodup h
theorem AscT.ext {A B : Tr} (ha : AscT A) (hb : AscT B) (h : ∀ z t, (z, t) ∈ A ↔ (z, t) ∈ B) : A = B := by
  have hk : ∀ z, z ∈ A.map (·.1) ↔ z ∈ B.map (·.1) := fun z => by
    rw [List.mem_map, List.mem_map]
    constructor
    · rintro ⟨p, hp, rfl⟩
      exact ⟨p, (h p.1 p.2).mp hp, rfl⟩
    · rintro ⟨p, hp, rfl⟩
      exact ⟨p, (h p.1 p.2).mpr hp, rfl⟩
  have ek := Asc.ext ha hb hk
  refine List.ext_getElem? fun i => ?_
  cases ea : A[i]? with
  | none =>
    have l : A.length = B.length := by
      have := congrArg List.length ek
      rw [List.length_map, List.length_map] at this
      exact this
    rw [List.getElem?_eq_none_iff] at ea
    rw [List.getElem?_eq_none (by omega)]
  | some p =>
    have ek' : (A.map (·.1))[i]? = (B.map (·.1))[i]? := by rw [ek]
    rw [List.getElem?_map, List.getElem?_map, ea] at ek'
    obtain ⟨r, er, e2⟩ := Option.map_eq_some_iff.mp ek'.symm
    rw [er]
    have m1 := getT_of hb.nd (List.mem_of_getElem? er)
    have m2 := getT_of hb.nd ((h p.1 p.2).mp (List.mem_of_getElem? ea))
    rw [e2, m2] at m1
    injection m1 with m1
    rw [show p = r from Prod.ext e2.symm m1]
/-- what may be compared -/
def okTr (A : Tr) : Prop := ∀ p ∈ A, PyData.strOk p.1 = true ∧ okX p.2
def itD (A : Tr) : PyData := .list (A.map fun p => .tuple [.str p.1, txD p.2])
theorem sh_itD {A : Tr} (h : okTr A) : SeqAt.shaped (itD A) = true := by
  refine Sh.ok (n := 3) (Sh.list (n := 2) fun d hd => ?_) (by decide)
  obtain ⟨p, hp, rfl⟩ := List.mem_map.mp hd
  refine Sh.tuple (n := 1) fun d hd => ?_
  simp only [List.mem_cons, List.not_mem_nil, or_false] at hd
  rcases hd with rfl | rfl
  · exact Sh.str (h p hp).1
  · exact Sh.strs (n := 0) (h p hp).2
theorem dq_items {H : Hp} : ∀ {ts : List Addr} {kvs : List (Key × V)} {A : Tr}, Paired (fun (t : Addr) (q : Key × V) => H t = some (.tup [kV q.1, q.2])) ts kvs → kvs.map (·.1) = A.map (fun p => kS p.1) → DqAll H (kvs.map (·.2)) (A.map fun p => txD p.2) → DqAll H (ts.map V.ref) (A.map fun p => .tuple [.str p.1, txD p.2])
  | [], [], [], _, _, _ => .nil
  | [], [], _ :: _, _, e, _ => by cases e
  | t :: ts, q :: kvs, [], _, e, _ => by cases e
  | t :: ts, q :: kvs, p :: A, .cons h pd, e, dq => by
    rw [List.map_cons, List.map_cons] at e
    injection e with e1 e2
    cases dq with
    | cons d1 d2 =>
    rw [e1] at h
    exact .cons (.tup h (.cons (.str p.1) (.cons d1 .nil))) (dq_items pd e2 d2)
  | [], _ :: _, _, pd, _, _ => by cases pd
theorem eqvAll_self : ∀ {ds : List PyData}, (∀ d ∈ ds, PyData.eqv d d = true) → PyData.eqvAll ds ds = true
  | [], _ => by rw [PyData.eqvAll]
  | d :: ds, h => by
    rw [PyData.eqvAll, h d List.mem_cons_self, eqvAll_self fun x hx => h x (List.mem_cons_of_mem _ hx)]
    rfl
theorem eqv_itD (A : Tr) : PyData.eqv (itD A) (itD A) = true := by
  rw [itD, PyData.eqv]
  refine eqvAll_self fun d hd => ?_
  obtain ⟨p, _, rfl⟩ := List.mem_map.mp hd
  rw [PyData.eqv]
  refine eqvAll_self fun d hd => ?_
  simp only [List.mem_cons, List.not_mem_nil, or_false] at hd
  rcases hd with rfl | rfl
  · rw [PyData.eqv]
    exact beq_self_eq_true _
  · rw [txD, eqv_strs]
    exact decide_eq_true rfl
theorem Chg.bt {b : Str × Addr × Tx} {t : Tx} {O : Own} : ∀ {B : Bt} {k : Nat}, B[k]? = some b → Chg (bO B ++ O) b.2.1 (.lst (b.2.2.map V.str)) (.lst (t.map V.str)) (bO (B.set k (b.1, b.2.1, t)) ++ O)
  | [], k, h => by simp at h
  | x :: B, 0, h => by
    have e : x = b := Option.some.inj h
    subst e
    exact .hd
  | x :: B, k + 1, h => .tl (Chg.bt (B := B) (k := k) h)
theorem bK_set {b : Str × Addr × Tx} {t : Tx} : ∀ {B : Bt} {k : Nat}, B[k]? = some b → bK (B.set k (b.1, b.2.1, t)) = bK B
  | [], k, h => by simp at h
  | x :: B, 0, h => by
    have e : x = b := Option.some.inj h
    subst e
    rfl
  | x :: B, k + 1, h => by
    have := bK_set (B := B) (k := k) (t := t) h
    show _ :: bK (B.set k _) = _ :: bK B
    rw [this]
theorem bK_at : ∀ {B : Bt} {k : Nat} {b : Str × Addr × Tx}, (B.map (·.1)).Nodup → B[k]? = some b → valV (bK B) (.inr b.1) = some (.ref b.2.1)
  | [], k, _, _, h => by simp at h
  | x :: B, 0, b, _, h => by
    have e : x = b := Option.some.inj h
    subst e
    exact valV_pos rfl
  | x :: B, k + 1, b, n, h => by
    rw [List.map_cons] at n
    have n' := List.nodup_cons.mp n
    show valV ((kS x.1, V.ref x.2.1) :: bK B) _ = _
    rw [valV_neg (fun e => n'.1 ?_)]
    · exact bK_at n'.2 (k := k) h
    · have : x.1 = b.1 := Sum.inr.inj e
      rw [this]
      exact List.mem_map.mpr ⟨b, List.mem_of_getElem? h, rfl⟩
end
section
local macro_rules | `(tactic| walk_at "g") => `(tactic| (with_reducible refine g_forE ?_))
local macro_rules | `(tactic| walk_at "g") => `(tactic| first
  | (with_reducible refine g_dcL ?_)
  | (with_reducible refine g_dcT ?_)
  | (with_reducible refine g_m1s ?_)
  | (with_reducible refine g_km1s ?_)
  | (with_reducible refine g_starts ?_)
  | (with_reducible refine g_tryX ?_)
  | (with_reducible refine g_lcS ?_))
def plV : Option Nat → V
  | none => .non
  | some i => .int (i : Nat)
def badK (A : Tr) : Nat → List Str → Option (Str × Option Nat)
  | _, [] => none
  | k, z :: r => if 8 ≤ k then some (z, none) else if isPath z = true then (match badT ((getT A z).getD []) with
    | some i => some (z, some i)
    | none => badK A (k + 1) r) else some (z, none)
theorem badK_drop {A : Tr} {us : List Str} {i : Nat} {z : Str} (h : us[i]? = some z) : badK A i (us.drop i) = if 8 ≤ i then some (z, none) else if isPath z = true then (match badT ((getT A z).getD []) with
    | some i => some (z, some i)
    | none => badK A (i + 1) (us.drop (i + 1))) else some (z, none) := by
  obtain ⟨lt, e⟩ := List.getElem?_eq_some_iff.mp h
  rw [List.drop_eq_getElem_cons lt, e]
  rfl
theorem badK_end (A : Tr) (us : List Str) (i : Nat) (h : us.length ≤ i) : badK A i (us.drop i) = none := by
  rw [List.drop_of_length_le h]
  rfl
/-- bounds of a tree -/
structure TrB (A : Tr) : Prop where
  few : A.length ≤ 60
  ok : ∀ p ∈ A, p.1.length ≤ 5000 ∧ p.2.length ≤ 1000 ∧ ∀ z ∈ p.2, z.length ≤ 10000
section
variable {P : Program} {w : World} {K : PySem.W.Frag} {mg : Str → Option Value} {base : Heap}
def lost_tr (C : Addr) (H : Hp) (E : XK) (r : Str × Option Nat) : Prop := ∀ e H', Same H H' → H e = none → H' e = some (.xd [("place", plV r.2), ("path", .str r.1)]) → E (.ref C) (some e) H'
def sp_checked_tree (T : Txt K mg) : Sp := fun vs H Q E => ∃ (a : Addr) (A : Tr), vs = [.ref a] ∧ TrAt H a A ∧ TrB A ∧ ∀ us, Asc us → (∀ z, z ∈ us ↔ z ∈ A.map (·.1)) →
  (badK A 0 us = none → ∀ d (B : Bt) H', Has H ((d, .dK (bK B)) :: bO B) H' → AscT (bA B) → (∀ p, p ∈ bA B ↔ p ∈ A) → Q (.ref d) H') ∧ (∀ r, badK A 0 us = some r → lost_tr T.C_BadTree H E r)
theorem sp_checked_tree_len {T : Txt K mg} {vs H Q E} (h : sp_checked_tree T vs H Q E) : vs.length = 1 := by
  obtain ⟨_, _, rfl, _⟩ := h
  rfl
set_option maxHeartbeats 1000000 in
theorem ok_checked_tree (T : Txt K mg) : FnOk P w K mg base (L2.CX P w) 4 T.f_checked_tree T.fd_checked_tree ["tree"] (sp_checked_tree T) := by
  refine Fun.okC T.F_checked_tree sc_checked_tree (fun vs H Q E h => sp_checked_tree_len h) (fun cdv A outer s H vs Q E hr h => ?_)
  refine ⟨_, (pss_cons (ps_set (i := 1) sc_checked_tree.nd rfl (.inl rfl) pe_dnewK)
      (pss_cons (ps_for (L2.passes_of rfl) rfl (pi_enum (by rfl) T.m_enumerate (pa_cons (pe_callB (cr_sortA K rfl) (by rfl) T.m_sorted (by decide +kernel) (pa_cons (pv 0) pa_nil)) pa_nil)) (k_gt K (pg_tup (by rfl) (pgs_cons (pg_name (i := 2) sc_checked_tree.nd rfl (.inl rfl)) (pgs_cons (pg_name (i := 3) sc_checked_tree.nd rfl (.inl rfl)) pgs_nil)))) (pss_cons (ps_if (pt_cmpR op_ge (pv 2) (pe_gc (v := .int 8) (by rfl) T.k_TREE_PATHS) (nomark _)) (pss_one (k_raiseC rfl (L2.takes_of rfl rfl rfl rfl) (pmk_oexN T.O_BadTree T.iC_BadTree T.tI_BadTree (ok_init_BadTree T) (hr.mono (by decide)) T.bi_BadTree pass0 (by rfl) T.g_BadTree (pa_cons (pv 3) (pa_cons pe_non pa_nil))))) pss_nil)
      (pss_cons (ps_if (pt_not (pt_val (pe_call (ok_is_path T) (hr.mono (by decide)) (by rfl) T.g_is_path T.F_is_path.kp T.b_is_path .nil pass0 (pa_cons (pv 3) pa_nil)))) (pss_one (k_raiseC rfl (L2.takes_of rfl rfl rfl rfl) (pmk_oexN T.O_BadTree T.iC_BadTree T.tI_BadTree (ok_init_BadTree T) (hr.mono (by decide)) T.bi_BadTree pass0 (by rfl) T.g_BadTree (pa_cons (pv 3) (pa_cons pe_non pa_nil))))) pss_nil)
      (pss_one (k_tryX K (i := 4) (Wout := fun _ _ _ _ => False) rfl rfl sc_checked_tree.nd rfl rfl takesN (L2.takes_of rfl rfl rfl rfl) (fun _ _ _ _ h => h) ⟨rfl, by decide, Or.inl T.g_BadText⟩ (fun W pn xe tk hown => (pss_one (ps_asg (pe_callS (ok_checked_text T) (hr.mono (by decide)) (by rfl) T.g_checked_text T.F_checked_text.kp T.b_checked_text (fun σ => L2N.passAt tk σ) (pa_cons (pe_ix (ix_K K (hu_of hr)) (pv 0) (pv 3) (fun _ _ => rfl)) pa_nil)) (pg_sub (pv 1) (pv 3) (set_any (hu_of hr)))))) (fun a oe cls d pn xe hz hf tkS hot => (pss_one (k_raiseF K (i := 4) hz hf tkS (L2H.pmk5_oexH T.O_BadTree T.iC_BadTree T.tI_BadTree (ok_init_BadTree_h T) (roomS hr (by decide)) hot T.bi_BadTree (fun _ _ _ _ _ _ _ h => h.elim) (by rfl) T.g_BadTree (pa_cons (pv 3) (pa_cons (pe_sX (pe_xfA K hz.zc hf (pv 4))) pa_nil))) rfl rfl))))))))
      (pss_one (ps_ret (pv 1))))), ?_⟩
  obtain ⟨a, A, rfl, ⟨kvs, ha, ek, nd, dq⟩, tb, h⟩ := h
  have hH := Has.start H
  have few := tb.few
  refine g_start (σ' := [some (.ref a), none, none, none, none]) rfl ?_
  walk_at "gg"
  refine g_dnewK hH (fun d H1 n1 h1 => ?_)
  walk_at "gg"
  refine g_sortDS (h1.same _ _ ha) (by rw [ek, List.map_map]; rfl) (ks := A.map (·.1)) (by rw [List.length_map]; omega) h1 (fun us p2 H2 pm srt n2 h2 => ?_)
  have asc := asc_of srt (pm.nodup_iff.mpr nd)
  obtain ⟨q, qe⟩ := h us asc (fun z => pm.mem_iff)
  have lu := pm.length_eq
  rw [List.length_map] at lu
  have h2 : Has H ((d, .dK (bK [])) :: (bO [] ++ [(p2, .lst (us.map V.str))])) H2 := h2.perm (by exact (List.perm_middle (l₁ := [_]) (l₂ := [])).symm)
  refine k_forE (h2.get (List.Mem.tail _ (List.Mem.head _))) (fun t σ H' => ∃ (B : Bt) (y2 y3 y4 : Option V), σ = [some (.ref a), some (.ref d), y2, y3, y4] ∧ Has H ((d, .dK (bK B)) :: (bO B ++ [(p2, .lst (us.map V.str))])) H' ∧ (bA B).map (·.1) = us.take t ∧ (∀ p ∈ bA B, p ∈ A) ∧ badK A 0 us = badK A t (us.drop t)) ⟨[], _, _, _, rfl, h2, rfl, (fun p h => by cases h), by rw [List.drop_zero]⟩ ?_ ?_ ?_
  · rintro t σ H' ⟨B, y2, y3, y4, rfl, h, _⟩
    exact h.get (List.mem_cons_of_mem _ (List.mem_append_right _ (List.Mem.head _)))
  · rintro t xx σ H4 T4 hx ⟨B, y2, y3, y4, rfl, h4, eB, sB, eb⟩ nT
    obtain ⟨z, hz, rfl⟩ := str_at hx
    have zm : z ∈ A.map (·.1) := pm.mem_iff.mp (List.mem_of_getElem? hz)
    obtain ⟨p, hp, rfl⟩ := List.mem_map.mp zm
    have pb := tb.ok p hp
    have gt := getT_of nd hp
    have h5 := h4.new (o := .tup [.int (t : Nat), .str p.1]) nT
    refine g_gtup (h5.get (List.Mem.head _)) rfl ?_
    walk_at "gg"
    have h4 := h5.drop
    generalize upd H4 T4 _ = H5 at h4
    have lt := (List.getElem?_eq_some_iff.mp hz).1
    have lB : B.length ≤ t := by
      have := congrArg List.length eB
      unfold bA at this
      rw [List.length_map, List.length_map, List.length_take] at this
      omega
    have nz : p.1 ∉ B.map (·.1) := by
      rw [← bA_keys, eB]
      intro m
      exact nd_new asc.nodup hz m
    rw [badK_drop hz, gt] at eb
    refine i_d (fun e => ?_) (fun e => ?_)
    · rw [if_pos (by omega)] at eb
      walk_at "gg"
      exact g_mk rfl (by decide) h4 (fun e H' n' h' => qe _ eb e H' h'.same (h4.same.free n') (h'.get (List.Mem.head _)))
    rw [if_neg (by omega)] at eb
    walk_at "gg"
    refine ⟨p.1, rfl, pb.1, fun H6 s6 => ?_⟩
    have h4 := h4.on s6
    walk_at "gg"
    cases hb : isPath p.1 with
    | false =>
      rw [hb, if_neg (by decide)] at eb
      walk_at "gg"
      exact g_mk rfl (by decide) h4 (fun e H' n' h' => qe _ eb e H' h'.same (h4.same.free n') (h'.get (List.Mem.head _)))
    | true =>
      rw [hb, if_pos rfl, Option.getD_some] at eb
      obtain ⟨l, vl, hl⟩ := tr_at ek (dq.up h4.same _ _) gt
      walk_at "gg"
      refine g_ixDS (h4.same _ _ ha) vl ?_
      walk_at "gg"
      refine ⟨l, p.2, rfl, hl, pb.2.2, pb.2.1, fun e p7 H7 s7 n7 h7 => ?_, fun k e => ?_⟩
      · rw [e] at eb
        have h7 := h4.made n7 s7 h7
        walk_at "gg"
        refine g_stD (k := .inr p.1) rfl h7 (.tl .hd) (szl (by unfold bK; rw [List.length_map]; omega)) (fun H8 h8 => ?_)
        rw [putK_new _ (bK_none nz)] at h8
        refine ⟨B ++ [(p.1, p7, p.2)], _, _, _, rfl, Has.bput h8, ?_, fun r hr => ?_, eb⟩
        · rw [bA_snoc, List.map_append, eB, List.take_add_one, hz]
          rfl
        · rw [bA_snoc] at hr
          rcases List.mem_append.mp hr with hr | hr
          · exact sB r hr
          · rw [List.mem_singleton.mp hr]
            exact hp
      · rw [e] at eb
        intro ex H7 s7 n7 h7
        have h7 := h4.made n7 s7 h7
        refine g_caught T.M_BadText_BadText (fun exn nxn => ?_)
        refine g_raiseF rfl T.O_BadText.exC ?_
        walk_at "gg"
        refine g_kxf T.XF_BadText T.N_BadText_place (h7.get (List.Mem.head _)) rfl ?_
        walk_at "gg"
        exact g_mk rfl (by decide) h7 (fun e H' n' h' => qe _ eb e H' h'.same (h7.same.free n') (h'.get (List.Mem.head _)))
  · rintro σ H4 ⟨B, y2, y3, y4, rfl, h4, eB, sB, eb⟩
    rw [List.length_map, List.take_length] at eB
    rw [badK_end _ _ _ (by rw [List.length_map]; omega)] at eb
    walk_at "gg"
    refine q eb d B H4 (h4.sub (List.Sublist.cons_cons _ (List.sublist_append_left _ _))) (by unfold AscT; rw [eB]; exact asc) fun p => ⟨sB p, fun hp => ?_⟩
    have m : p.1 ∈ (bA B).map (·.1) := by
      rw [eB]
      exact pm.mem_iff.mpr (List.mem_map.mpr ⟨p, hp, rfl⟩)
    obtain ⟨r, hr, e⟩ := List.mem_map.mp m
    have g1 := getT_of nd (sB r hr)
    rw [e, getT_of nd hp] at g1
    injection g1 with g1
    rw [show p = r from Prod.ext e.symm g1]
    exact hr
end
end
section
local macro_rules | `(tactic| walk_at "g") => `(tactic| (with_reducible refine g_forE ?_))
local macro_rules | `(tactic| walk_at "g") => `(tactic| first
  | (with_reducible refine g_dcL ?_)
  | (with_reducible refine g_dcT ?_)
  | (with_reducible refine g_m1s ?_)
  | (with_reducible refine g_km1s ?_)
  | (with_reducible refine g_starts ?_)
  | (with_reducible refine g_tryX ?_)
  | (with_reducible refine g_lcS ?_))
def fD (p : Str × Tx) : PyData := .tuple [.str p.1, .tuple (p.2.map PyData.str)]
theorem fD_inv {F : Hp} {v : V} {p : Str × Tx} (h : Dq F v (fD p)) : ∃ T l, v = .ref T ∧ F T = some (.tup [.str p.1, .ref l]) ∧ F l = some (.tup (p.2.map V.str)) := by
  cases h with
  | tup hT hs =>
    cases hs with
    | cons h1 hs =>
      cases hs with
      | cons h2 hs =>
        cases hs
        cases h1
        cases h2 with
        | tup h3 h4 =>
          rw [DqAll.of_strs h4] at h3
          exact ⟨_, _, rfl, hT, h3⟩
theorem fD_dq {F : Hp} {T l : Addr} {z : Str} {t : Tx} (h1 : F T = some (.tup [.str z, .ref l])) (h2 : F l = some (.tup (t.map V.str))) : Dq F (.ref T) (fD (z, t)) :=
  .tup h1 (.cons (.str z) (.cons (.tup h2 (DqAll.strs t)) .nil))
/-- the tree in ascending order -/
def AscOf (A B : Tr) : Prop := AscT B ∧ ∀ p, p ∈ B ↔ p ∈ A
section
variable {P : Program} {w : World} {K : PySem.W.Frag} {mg : Str → Option Value} {base : Heap}
def sp_files_of (K : PySem.W.Frag) : Sp := fun vs H Q _ => ∃ (a : Addr) (A : Tr), vs = [.ref a] ∧ TrAt H a A ∧ A.length ≤ 60 ∧
  ∀ p H' ws (B : Tr), Same H H' → H' p = some (.tup ws) → DqAll H' ws (B.map fD) → AscOf A B → Q (.ref p) H'
theorem sp_files_of_len {vs H Q E} (h : sp_files_of K vs H Q E) : vs.length = 1 := by
  obtain ⟨_, _, rfl, _⟩ := h
  rfl
theorem ok_files_of (T : Txt K mg) : FnOk P w K mg base CX0 1 T.f_files_of T.fd_files_of ["tree"] (sp_files_of K) := by
  refine T.F_files_of.ok sc_files_of (fun vs H Q E h => sp_files_of_len h) (fun cdv A outer s H vs Q E hr h => ?_)
  refine ⟨_, (pss_one (ps_ret (pe_callTy (cr_tupleK K) (by rfl) T.m_tuple (by decide +kernel) (pa_cons (pe_lc (own := [("path", 1)]) (g := gName 1) (tt := tYes) rfl sc_files_of.nd (k_il K (pi_list (pe_callB (cr_sortA K rfl) (by rfl) T.m_sorted (by decide +kernel) (pa_cons (pv 0) pa_nil)))) (blkOk_by (N := n_files_of) (sc := defScope s_files_of) (by decide +kernel)) (fun _ _ _ _ _ => (pg_name (i := 1) sc_files_of.nd rfl (.inl rfl))) (fun _ _ _ _ _ => pts_nil) (fun _ _ _ _ _ => (pe_tup (pa_cons (pv 1) (pa_cons (pe_callTy (cr_tupleK K) (by rfl) T.m_tuple (by decide +kernel) (pa_cons (pe_ix (ix_K K (hu_of hr)) (pv 0) (pv 1) (fun _ _ => rfl)) pa_nil)) pa_nil))))) pa_nil)))), ?_⟩
  obtain ⟨a, A, rfl, ⟨kvs, ha, ek, nd, dq⟩, few, q⟩ := h
  have hH := Has.start H
  refine g_start (σ' := [some (.ref a), none]) rfl ?_
  walk_at "gg"
  refine g_sortDS ha (by rw [ek, List.map_map]; rfl) (ks := A.map (·.1)) (by rw [List.length_map]; omega) hH (fun us p2 H2 pm srt n2 h2 => ?_)
  have asc := asc_of srt (pm.nodup_iff.mpr nd)
  have lu := pm.length_eq
  rw [List.length_map] at lu
  refine k_lcL (h2.get (List.Mem.head _)) h2 (fun i acc F' O' => ∃ B : Tr, DqAll F' acc (B.map fD) ∧ B.map (·.1) = us.take i ∧ (∀ r ∈ B, r ∈ A) ∧ Same H F' ∧ O' = [(p2, .lst (us.map V.str))]) ⟨[], .nil, rfl, (fun r h => by cases h), Same.refl _, rfl⟩ ?_ ?_ ?_
  · rintro i acc F' O' H3 ⟨B, _, _, _, _, rfl⟩ hh
    exact hh.get (List.Mem.head _)
  · rintro i xx acc F' O' D H3 hx ⟨B, dqB, eB, sB, sF, rfl⟩ hh
    obtain ⟨z, hz, rfl⟩ := str_at hx
    have zm : z ∈ A.map (·.1) := pm.mem_iff.mp (List.mem_of_getElem? hz)
    obtain ⟨r, hr_, rfl⟩ := List.mem_map.mp zm
    have sH := sF.trans hh.same
    obtain ⟨l, vl, hl⟩ := tr_at ek (dq.up sH _ _) (getT_of nd hr_)
    have la : acc.length = i := by
      have h1 := dqB.len
      have h2 := congrArg List.length eB
      have lt := (List.getElem?_eq_some_iff.mp hz).1
      rw [List.length_map] at h1
      rw [List.length_map, List.length_take] at h2
      omega
    have lt := (List.getElem?_eq_some_iff.mp hz).1
    walk_at "gg"
    refine g_ixDS (sH _ _ ha) vl ?_
    walk_at "gg"
    refine g_tupleL hl hh (fun p4 H4 F4 n4 s4 f4 h4 => ?_)
    walk_at "gg"
    refine g_ktupF (by walk_at "sz") h4 (fun p5 H5 F5 n5 s5 f5 h5 => ?_)
    refine k_turn h5 (by omega) ⟨B ++ [r], ?_, ?_, fun r' hr' => ?_, (sF.trans s4).trans s5, rfl⟩
    · rw [List.map_append]
      exact (dqB.up (s4.trans s5) _ _).snoc (fD_dq f5 (s5 _ _ f4))
    · rw [List.map_append, eB, List.take_add_one, hz]
      rfl
    · rcases List.mem_append.mp hr' with h | h
      · exact sB r' h
      · rw [List.mem_singleton.mp h]
        exact hr_
  rintro acc F' O' p6 H6 ⟨B, dqB, eB, sB, sF, rfl⟩ h6
  rw [List.length_map, List.take_length] at eB
  refine g_tupleL (h6.get (List.Mem.head _)) h6 (fun p7 H7 F7 n7 s7 f7 h7 => ?_)
  refine q p7 H7 acc B ((sF.trans s7).trans h7.same) (h7.same _ _ f7) (dqB.up (s7.trans h7.same) _ _) ⟨by unfold AscT; rw [eB]; exact asc, fun p => ⟨sB p, fun hp => ?_⟩⟩
  have m : p.1 ∈ B.map (·.1) := by
    rw [eB]
    exact pm.mem_iff.mpr (List.mem_map.mpr ⟨p, hp, rfl⟩)
  obtain ⟨r, hr, e⟩ := List.mem_map.mp m
  have g1 := getT_of nd (sB r hr)
  rw [e, getT_of nd hp] at g1
  injection g1 with g1
  rw [show p = r from Prod.ext e.symm g1]
  exact hr
end
end
section
def lc : List Str → List Str → Nat
  | [], _ => 0
  | _ :: _, [] => 0
  | x :: xs, y :: ys => if x = y then lc xs ys + 1 else max (lc xs (y :: ys)) (lc (x :: xs) ys)
termination_by xs ys => xs.length + ys.length
def mt : List Str → List Str → Nat → Nat → List (Nat × Nat)
  | [], _, _, _ => []
  | _ :: _, [], _, _ => []
  | x :: xs, y :: ys, i, j => if x = y then (i, j) :: mt xs ys (i + 1) (j + 1) else if lc xs (y :: ys) ≥ lc (x :: xs) ys then mt xs (y :: ys) (i + 1) j else mt (x :: xs) ys i (j + 1)
termination_by xs ys => xs.length + ys.length
theorem lc_nil (xs : List Str) : lc xs [] = 0 := by
  cases xs <;> rw [lc]
theorem mt_lt : ∀ (xs ys : List Str) (i j : Nat) (p : Nat × Nat), p ∈ mt xs ys i j → (i ≤ p.1 ∧ p.1 < i + xs.length) ∧ j ≤ p.2 ∧ p.2 < j + ys.length
  | [], _, _, _, _, h => by rw [mt] at h; cases h
  | _ :: _, [], _, _, _, h => by rw [mt] at h; cases h
  | x :: xs, y :: ys, i, j, p, h => by
    rw [mt] at h
    rw [List.length_cons, List.length_cons]
    split at h
    · rcases List.mem_cons.mp h with rfl | h
      · simp only; omega
      · have := mt_lt xs ys (i + 1) (j + 1) p h
        omega
    · split at h
      · have := mt_lt xs (y :: ys) (i + 1) j p h
        rw [List.length_cons] at this
        omega
      · have := mt_lt (x :: xs) ys i (j + 1) p h
        rw [List.length_cons] at this
        omega
termination_by xs ys => xs.length + ys.length
theorem lc_at {xs ys : List Str} {i j : Nat} {x y : Str} (hx : xs[i]? = some x) (hy : ys[j]? = some y) :
    lc (xs.drop i) (ys.drop j) = if x = y then lc (xs.drop (i + 1)) (ys.drop (j + 1)) + 1 else max (lc (xs.drop (i + 1)) (ys.drop j)) (lc (xs.drop i) (ys.drop (j + 1))) := by
  obtain ⟨h1, e1⟩ := List.getElem?_eq_some_iff.mp hx
  obtain ⟨h2, e2⟩ := List.getElem?_eq_some_iff.mp hy
  rw [List.drop_eq_getElem_cons h1, List.drop_eq_getElem_cons h2, e1, e2, lc]
theorem mt_at {xs ys : List Str} {i j : Nat} {x y : Str} (hx : xs[i]? = some x) (hy : ys[j]? = some y) :
    mt (xs.drop i) (ys.drop j) i j = if x = y then (i, j) :: mt (xs.drop (i + 1)) (ys.drop (j + 1)) (i + 1) (j + 1) else if lc (xs.drop (i + 1)) (ys.drop j) ≥ lc (xs.drop i) (ys.drop (j + 1)) then mt (xs.drop (i + 1)) (ys.drop j) (i + 1) j
      else mt (xs.drop i) (ys.drop (j + 1)) i (j + 1) := by
  obtain ⟨h1, e1⟩ := List.getElem?_eq_some_iff.mp hx
  obtain ⟨h2, e2⟩ := List.getElem?_eq_some_iff.mp hy
  rw [List.drop_eq_getElem_cons h1, List.drop_eq_getElem_cons h2, e1, e2, mt]
theorem mt_end {xs ys : List Str} {i j : Nat} (h : xs.length ≤ i ∨ ys.length ≤ j) : mt (xs.drop i) (ys.drop j) i j = [] := by
  rcases h with h | h
  · rw [List.drop_eq_nil_of_le h, mt]
  · rw [List.drop_eq_nil_of_le h]
    cases xs.drop i <;> rw [mt]
def gr (p : Nat → Bool) : Nat → Nat
  | 0 => 0
  | j + 1 => if p (j + 1) = true then j + 1 else gr p j
def mx (xs ys : List Str) (k : Nat) : Nat := gr (fun j => decide (k ≤ lc xs (ys.drop j))) ys.length
/-- the row of a part: the places for 0, 1, .. common lines -/
def eR (xs ys : List Str) : List Nat := (List.range (lc xs ys + 1)).map (mx xs ys)
def tz (n m i j k l : Nat) : Prop := i < k ∨ (i = k ∧ j ≤ l) ∨ l = m ∨ k = n
/-- the rows from (i, j) on are right -/
structure Tb (xs ys : List Str) (i j : Nat) (rows : List (Addr × List Int)) : Prop where
  len : rows.length = xs.length + 1
  wid : ∀ (k : Nat) (r : Addr × List Int), rows[k]? = some r → r.2.length = ys.length + 1
  val : ∀ (k l : Nat) (r : Addr × List Int) (z : Int), rows[k]? = some r → r.2[l]? = some z → tz xs.length ys.length i j k l → z = (lc (xs.drop k) (ys.drop l) : Nat)
theorem Tb.start {xs ys : List Str} {rows : List (Addr × List Int)} (hl : rows.length = xs.length + 1) (h : ∀ r ∈ rows, r.2 = List.replicate (ys.length + 1) 0) : Tb xs ys xs.length 0 rows := by
  refine ⟨hl, fun k r hr => ?_, fun k l r z hr hz ht => ?_⟩
  · rw [h r (List.mem_of_getElem? hr), List.length_replicate]
  · have e := h r (List.mem_of_getElem? hr)
    rw [e, List.getElem?_replicate] at hz
    have hk : k < xs.length + 1 := by rw [← hl]; exact (List.getElem?_eq_some_iff.mp hr).1
    split at hz
    · have hz' : z = 0 := (Option.some.inj hz).symm
      subst hz'
      have e0 : lc (xs.drop k) (ys.drop l) = 0 := by
        rcases ht with ht | ht | ht | ht
        · omega
        · rw [← ht.1, List.drop_length, lc]
        · rw [ht, List.drop_length, lc_nil]
        · rw [ht, List.drop_length, lc]
      rw [e0]; rfl
    · cases hz
theorem Tb.row {xs ys : List Str} {i : Nat} {rows : List (Addr × List Int)} (h : Tb xs ys (i + 1) 0 rows) : Tb xs ys i ys.length rows := by
  refine ⟨h.len, h.wid, fun k l r z hr hz ht => h.val k l r z hr hz ?_⟩
  have hl : l < ys.length + 1 := by rw [← h.wid k r hr]; exact (List.getElem?_eq_some_iff.mp hz).1
  unfold tz at *
  omega
theorem Tb.set {xs ys : List Str} {i j : Nat} {rows : List (Addr × List Int)} {r : Addr × List Int} {z : Int} (h : Tb xs ys i (j + 1) rows) (hr : rows[i]? = some r) (hz : z = (lc (xs.drop i) (ys.drop j) : Nat)) (hj : j < ys.length + 1) :
    Tb xs ys i j (rows.set i (r.1, r.2.set j z)) := by
  have hi := (List.getElem?_eq_some_iff.mp hr).1
  have hw := h.wid i r hr
  refine ⟨by rw [List.length_set]; exact h.len, fun k q hq => ?_, fun k l q y hq hy ht => ?_⟩
  · by_cases e : i = k
    · subst e
      rw [List.getElem?_set_self hi] at hq
      rw [← Option.some.inj hq, List.length_set]
      exact hw
    · rw [List.getElem?_set_ne e] at hq
      exact h.wid k q hq
  · by_cases e : i = k
    · subst e
      rw [List.getElem?_set_self hi] at hq
      rw [← Option.some.inj hq] at hy
      by_cases e2 : j = l
      · subst e2
        rw [List.getElem?_set_self (by rw [hw]; exact hj)] at hy
        rw [← Option.some.inj hy]
        exact hz
      · rw [List.getElem?_set_ne e2] at hy
        refine h.val i l r y hr hy ?_
        unfold tz at *
        omega
    · rw [List.getElem?_set_ne e] at hq
      refine h.val k l q y hq hy ?_
      unfold tz at *
      omega
/-- the same place set to something first -/
theorem Tb.any {xs ys : List Str} {i j : Nat} {rows : List (Addr × List Int)} {r : Addr × List Int} {z : Int} (h : Tb xs ys i (j + 1) rows) (hr : rows[i]? = some r) (hj : j < ys.length) (hi' : i < xs.length) : Tb xs ys i (j + 1) (rows.set i (r.1, r.2.set j z)) := by
  have hi := (List.getElem?_eq_some_iff.mp hr).1
  have hw := h.wid i r hr
  refine ⟨by rw [List.length_set]; exact h.len, fun k q hq => ?_, fun k l q y hq hy ht => ?_⟩
  · by_cases e : i = k
    · subst e
      rw [List.getElem?_set_self hi] at hq
      rw [← Option.some.inj hq, List.length_set]
      exact hw
    · rw [List.getElem?_set_ne e] at hq
      exact h.wid k q hq
  · by_cases e : i = k
    · subst e
      rw [List.getElem?_set_self hi] at hq
      rw [← Option.some.inj hq] at hy
      have e2 : j ≠ l := by unfold tz at ht; omega
      rw [List.getElem?_set_ne e2] at hy
      exact h.val i l r y hr hy ht
    · rw [List.getElem?_set_ne e] at hq
      exact h.val k l q y hq hy ht
theorem Tb.get {xs ys : List Str} {i j k l : Nat} {rows : List (Addr × List Int)} {r : Addr × List Int} (h : Tb xs ys i j rows) (hr : rows[k]? = some r) (hl : l < ys.length + 1) (ht : tz xs.length ys.length i j k l) :
    r.2[l]? = some ((lc (xs.drop k) (ys.drop l) : Nat) : Int) := by
  have hw := h.wid k r hr
  have e : l < r.2.length := by omega
  have := h.val k l r _ hr (List.getElem?_eq_getElem e) ht
  rw [List.getElem?_eq_getElem e, this]
theorem flat_rep (k : Nat) (z : Int) : (List.replicate k [V.int z]).flatten = (List.replicate k z).map V.int := by
  induction k with
  | zero => rfl
  | succ k ih =>
    rw [List.replicate_succ, List.flatten_cons, ih, List.replicate_succ]
    rfl
/-- a table that stands in H -/
def Table (H : Hp) (t : Addr) (xs ys : List Str) : Prop := ∃ rows : List (Addr × List Int), Tb xs ys 0 0 rows ∧ H t = some (.lst (rows.map fun r => V.ref r.1)) ∧ ∀ r ∈ rows, H r.1 = some (.lst (r.2.map V.int))
def prd (p : Nat × Nat) : PyData := .tuple [.int p.1, .int p.2]
section
variable {P : Program} {w : World} {K : PySem.W.Frag} {mg : Str → Option Value} {base : Heap} {σ : L2.St} {F : Hp} {O O' : Own} {H : Hp} {Q : VK} {t : Addr} {xs ys : List Str}
/-- lengths[k][l] of a table that stands -/
theorem g_tabAt {i : Int} (h : Table H t xs ys) (hi : 0 ≤ i) (hi2 : i ≤ xs.length) (q : ∀ r, H r = some (.lst ((List.range (ys.length + 1)).map fun l => V.int (lc (xs.drop i.toNat) (ys.drop l) : Nat))) → Q (.ref r) H) : rIxA K (.ref t) (.int i) H Q := by
  obtain ⟨rows, tb, h1, h2⟩ := h
  have e : i.toNat < rows.length := by rw [tb.len]; omega
  have hr := List.getElem?_eq_getElem e
  refine g_ixL h1 (at_n hi (v := .ref rows[i.toNat].1) ?_) (q _ ?_)
  · rw [List.getElem?_map, hr]
    rfl
  · rw [h2 _ (List.getElem_mem e)]
    congr 1
    congr 1
    apply List.ext_getElem?
    intro l
    rw [List.getElem?_map, List.getElem?_map]
    by_cases hl : l < ys.length + 1
    · rw [tb.get hr hl (by unfold tz; omega), List.getElem?_range hl]
      rfl
    · rw [List.getElem?_eq_none (by rw [tb.wid _ _ hr]; omega), List.getElem?_eq_none (by rw [List.length_range]; omega)]
      rfl
def sp_common_lengths (K : PySem.W.Frag) : Sp := fun vs H Q _ => ∃ (a b : Addr) (xs ys : List Str), vs = [.ref a, .ref b] ∧ H a = some (.lst (xs.map V.str)) ∧ H b = some (.lst (ys.map V.str)) ∧ xs.length ≤ 1000 ∧ ys.length ≤ 1000 ∧
  ∀ t H', Same H H' → H t = none → Table H' t xs ys → Q (.ref t) H'
theorem sp_common_lengths_len {vs H Q E} (h : sp_common_lengths K vs H Q E) : vs.length = 2 := by
  obtain ⟨_, _, _, _, rfl, _⟩ := h
  rfl
theorem ok_common_lengths (T : Txt K mg) : FnOk P w K mg base CX0 1 T.f_common_lengths T.fd_common_lengths ["old", "new"] (sp_common_lengths K) := by
  refine T.F_common_lengths.ok sc_common_lengths (fun vs H Q E h => sp_common_lengths_len h) (fun cdv A outer s H vs Q E hr h => ?_)
  refine ⟨_, (pss_cons (ps_setLc (i := 2) (own := [("_", 5)]) (g := gName 5) (tt := tYes) rfl sc_common_lengths.nd rfl rfl (sw_true rfl rfl rfl (by decide +kernel)) (pi_range1 rfl T.m_range (pa_cons (pe_op (op_addK K) (pe_callB (cr_lenK K) (by rfl) T.m_len (by decide +kernel) (pa_cons (pv 0) pa_nil)) pe_int) pa_nil)) (blkOk_by (N := n_common_lengths) (sc := defScope s_common_lengths) (by decide +kernel)) (fun _ _ _ _ _ => (pg_name (i := 5) sc_common_lengths.nd rfl (.inl rfl))) (fun _ _ _ _ _ => pts_nil) (fun _ _ _ _ _ => (pe_op op_mulA (pe_lst (pa_cons pe_int pa_nil)) (pe_op (op_addK K) (pe_callB (cr_lenK K) (by rfl) T.m_len (by decide +kernel) (pa_cons (pv 1) pa_nil)) pe_int))))
      (pss_cons (ps_for PassesOwn.never rfl (pi_range3 rfl T.m_range (pa_cons (pe_op op_sub (pe_callB (cr_lenK K) (by rfl) T.m_len (by decide +kernel) (pa_cons (pv 0) pa_nil)) pe_int) (pa_cons (pe_un un_neg pe_int) (pa_cons (pe_un un_neg pe_int) pa_nil)))) (pg_name (i := 3) sc_common_lengths.nd rfl (.inl rfl)) (pss_one (ps_for PassesOwn.never rfl (pi_range3 rfl T.m_range (pa_cons (pe_op op_sub (pe_callB (cr_lenK K) (by rfl) T.m_len (by decide +kernel) (pa_cons (pv 1) pa_nil)) pe_int) (pa_cons (pe_un un_neg pe_int) (pa_cons (pe_un un_neg pe_int) pa_nil)))) (pg_name (i := 4) sc_common_lengths.nd rfl (.inl rfl)) (pss_one (ps_if (pt_cmpR (op_eqK K hr.units) (pe_ix (ix_K K (hu_of hr)) (pv 0) (pv 3) (fun _ _ => rfl)) (pe_ix (ix_K K (hu_of hr)) (pv 1) (pv 4) (fun _ _ => rfl)) (nomark _)) (pss_one (ps_asg (pe_op (op_addK K) (pe_ix (ix_K K (hu_of hr)) (pe_ix (ix_K K (hu_of hr)) (pv 2) (pe_op (op_addK K) (pv 3) pe_int) (fun _ _ => rfl)) (pe_op (op_addK K) (pv 4) pe_int) (fun _ _ => rfl)) pe_int) (pg_sub (pe_ix (ix_K K (hu_of hr)) (pv 2) (pv 3) (fun _ _ => rfl)) (pv 4) (set_any (hu_of hr))))) (pss_one (ps_asg (pe_callB (cr_max2 rfl) (by rfl) T.m_max (by decide +kernel) (pa_cons (pe_ix (ix_K K (hu_of hr)) (pe_ix (ix_K K (hu_of hr)) (pv 2) (pe_op (op_addK K) (pv 3) pe_int) (fun _ _ => rfl)) (pv 4) (fun _ _ => rfl)) (pa_cons (pe_ix (ix_K K (hu_of hr)) (pe_ix (ix_K K (hu_of hr)) (pv 2) (pv 3) (fun _ _ => rfl)) (pe_op (op_addK K) (pv 4) pe_int) (fun _ _ => rfl)) pa_nil))) (pg_sub (pe_ix (ix_K K (hu_of hr)) (pv 2) (pv 3) (fun _ _ => rfl)) (pv 4) (set_any (hu_of hr))))))))))
      (pss_one (ps_ret (pv 2))))), ?_⟩
  obtain ⟨a, b, xs, ys, rfl, ha, hb, hx, hy, q⟩ := h
  have hH := Has.start H
  refine g_start (σ' := [some (.ref a), some (.ref b), none, none, none, none]) rfl ?_
  walk_at "gg"
  rw [List.length_map]
  refine k_lcR1 (by omega) (by omega) hH (fun i acc F' O' => ∃ rows : List (Addr × List Int), acc = rows.map (fun r => V.ref r.1) ∧ rows.length = i ∧ (∀ r ∈ rows, r.2 = List.replicate (ys.length + 1) 0) ∧ H = F' ∧ O' = rows.map rowO) ⟨[], rfl, rfl, by simp, rfl, rfl⟩ ?_ ?_
  · rintro i acc F' O' D H1 hi ⟨rows, rfl, rfl, hr, rfl, rfl⟩ hh
    walk_at "gg"
    refine g_klst (by walk_at "sz") hh (fun p1 H2 n2 h2 => ?_)
    walk_at "gg"
    rw [List.length_map]
    refine g_mulL (by walk_at "h") (by omega) (by omega) (sz (by show 1 * _ ≤ _; omega)) h2 (fun p2 H3 n3 h3 => ?_)
    have e1 : ((ys.length : Int) + 1).toNat = ys.length + 1 := by omega
    rw [e1, flat_rep] at h3
    have h4 := h3.sub (.cons₂ _ (.cons _ (List.Sublist.refl _)))
    have h5 : Has H ((D, .lst (rows.map fun r => V.ref r.1)) :: (rows ++ [(p2, List.replicate (ys.length + 1) 0)]).map rowO) H3 := by
      refine h4.perm ?_
      rw [List.map_append]
      exact ((List.Perm.cons _ (List.perm_append_singleton _ _)).trans (List.Perm.swap _ _ _))
    refine k_turn h5 (by rw [List.length_map]; omega) ⟨rows ++ [(p2, List.replicate (ys.length + 1) 0)], by rw [List.map_append]; rfl, by rw [List.length_append]; rfl, fun r h => ?_, rfl, rfl⟩
    rcases List.mem_append.mp h with h | h
    · exact hr r h
    · rw [List.mem_singleton.mp h]
  · rintro acc F' O' D H1 ⟨rows, rfl, hk, hr, rfl, rfl⟩ hh
    have hk' : rows.length = xs.length + 1 := by omega
    have tb0 := Tb.start (xs := xs) (ys := ys) hk' hr
    have hh1 : Has H (tabO D rows ++ []) H1 := by rw [List.append_nil]; exact hh
    walk_at "gg"
    refine k_forDown (n := xs.length) (by rw [List.length_map]) (by omega) (fun i σ H' => ∃ (rows : List (Addr × List Int)) (y3 y4 : Option V), σ = [some (.ref a), some (.ref b), some (.ref D), y3, y4, none] ∧ Has H (tabO D rows ++ []) H' ∧ Tb xs ys i 0 rows) ⟨rows, none, none, rfl, hh1, tb0⟩ ?_ ?_
    · rintro i σ H2 hi ⟨rows, y3, y4, rfl, h2, tb⟩
      walk_at "gg"
      refine k_forDown (n := ys.length) (by rw [List.length_map]) (by omega) (fun j σ H' => ∃ (rows : List (Addr × List Int)) (y4 : Option V), σ = [some (.ref a), some (.ref b), some (.ref D), some (.int i), y4, none] ∧ Has H (tabO D rows ++ []) H' ∧ Tb xs ys i j rows) ⟨rows, y4, rfl, h2, tb.row⟩ ?_ ?_
      · rintro j σ H3 hj ⟨rows, y4, rfl, h3, tb⟩
        have hxi : xs[i]? = some xs[i] := List.getElem?_eq_getElem hi
        have hyj : ys[j]? = some ys[j] := List.getElem?_eq_getElem hj
        have hlen := tb.len
        have hrow : ∀ k, k < xs.length + 1 → ∃ r, rows[k]? = some r := fun k hk => ⟨rows[k], List.getElem?_eq_getElem (by omega)⟩
        walk_at "gg"
        refine g_ixZ (by walk_at "h") (by omega) (by omega) (fun x hx' => ?_)
        walk_at "gg"
        refine g_ixZ (by walk_at "h") (by omega) (by omega) (fun y hy' => ?_)
        have ex : x = xs[i] := Option.some.inj (hx'.symm.trans hxi)
        have ey : y = ys[j] := Option.some.inj (hy'.symm.trans hyj)
        subst ex ey
        have la := lc_at hxi hyj
        walk_at "gg"
        refine i_d (fun e => ?_) (fun e => ?_)
        · rw [if_pos e] at la
          walk_at "gg"
          refine g_ixRow h3 (by omega) (by omega) (fun r hr h5 => ?_)
          have e1 : ((i : Int) + 1).toNat = i + 1 := by omega
          have e2 : ((j : Int) + 1).toNat = j + 1 := by omega
          rw [e1] at hr
          have hw := tb.wid _ _ hr
          walk_at "gg"
          refine g_ixI h5 (by omega) (by omega) (fun z hz => ?_)
          rw [e2, tb.get hr (by omega) (by unfold tz; omega)] at hz
          have hz' := (Option.some.inj hz).symm
          walk_at "gg"
          refine g_ixRow h3 (by omega) (by omega) (fun r2 hr2 h6 => ?_)
          walk_at "gg"
          have hr2' : rows[i]? = some r2 := hr2
          have hw2 := tb.wid _ _ hr2'
          refine g_setRow h3 hr2' (by omega) (by omega) (fun H4 h4 => ?_)
          exact ⟨_, _, rfl, h4, tb.set hr2' (by rw [la, hz']; omega) (by omega)⟩
        · rw [if_neg e] at la
          walk_at "gg"
          refine g_ixRow h3 (by omega) (by omega) (fun r hr h5 => ?_)
          have e1 : ((i : Int) + 1).toNat = i + 1 := by omega
          have e2 : ((j : Int) + 1).toNat = j + 1 := by omega
          rw [e1] at hr
          have hw := tb.wid _ _ hr
          walk_at "gg"
          refine g_ixI h5 (by omega) (by omega) (fun z hz => ?_)
          rw [show ((j : Int)).toNat = j from rfl, tb.get hr (by omega) (by unfold tz; omega)] at hz
          have hz' := (Option.some.inj hz).symm
          walk_at "gg"
          refine g_ixRow h3 (by omega) (by omega) (fun r3 hr3 h7 => ?_)
          have hr3' : rows[i]? = some r3 := hr3
          have hw3 := tb.wid _ _ hr3'
          walk_at "gg"
          refine g_ixI h7 (by omega) (by omega) (fun z3 hz3 => ?_)
          rw [e2, tb.get hr3' (by omega) (by unfold tz; omega)] at hz3
          have hz3' := (Option.some.inj hz3).symm
          walk_at "gg"
          refine g_ixRow h3 (by omega) (by omega) (fun r2 hr2 h6 => ?_)
          walk_at "gg"
          have hr2' : rows[i]? = some r2 := hr2
          have hw2 := tb.wid _ _ hr2'
          refine g_setRow h3 hr2' (by omega) (by omega) (fun H4 h4 => ?_)
          exact ⟨_, _, rfl, h4, tb.set hr2' (by rw [la, hz', hz3']; omega) (by omega)⟩
      · rintro σ H3 ⟨rows, y4, rfl, h3, tb⟩
        exact ⟨rows, _, _, rfl, h3, tb⟩
    · rintro σ H2 ⟨rows, y3, y4, rfl, h2, tb⟩
      walk_at "gg"
      exact q D H2 h2.same (hh.free) ⟨rows, tb, h2.tab, fun r hr => h2.get (List.mem_append_left _ (List.mem_cons_of_mem _ (List.mem_map.mpr ⟨r, hr, rfl⟩)))⟩
theorem Table.up {H H' : Hp} (h : Table H t xs ys) (s : Same H H') : Table H' t xs ys := by
  obtain ⟨rows, tb, h1, h2⟩ := h
  exact ⟨rows, tb, s _ _ h1, fun r hr => s _ _ (h2 r hr)⟩
def sp_matched (K : PySem.W.Frag) : Sp := fun vs H Q _ => ∃ (a b : Addr) (xs ys : List Str), vs = [.ref a, .ref b] ∧ H a = some (.lst (xs.map V.str)) ∧ H b = some (.lst (ys.map V.str)) ∧ xs.length ≤ 1000 ∧ ys.length ≤ 1000 ∧
  ∀ p H' (vs : List V), Same H H' → H p = none → H' p = some (.lst vs) → DqAll H' vs ((mt xs ys 0 0).map prd) → Q (.ref p) H'
theorem sp_matched_len {vs H Q E} (h : sp_matched K vs H Q E) : vs.length = 2 := by
  obtain ⟨_, _, _, _, rfl, _⟩ := h
  rfl
theorem ok_matched (T : Txt K mg) : FnOk P w K mg base CX0 2 T.f_matched T.fd_matched ["old", "new"] (sp_matched K) := by
  refine T.F_matched.ok sc_matched (fun vs H Q E h => sp_matched_len h) (fun cdv A outer s H vs Q E hr h => ?_)
  refine ⟨_, (pss_cons (ps_set (i := 2) sc_matched.nd rfl (.inl rfl) (pe_call (ok_common_lengths T) (hr.mono (by decide)) (by rfl) T.g_common_lengths T.F_common_lengths.kp T.b_common_lengths .nil pass0 (pa_cons (pv 0) (pa_cons (pv 1) pa_nil))))
      (pss_cons (ps_set (i := 3) sc_matched.nd rfl (.inl rfl) (pe_lst pa_nil))
      (pss_cons (ps_set (i := 4) sc_matched.nd rfl (.inl rfl) pe_int)
      (pss_cons (ps_set (i := 5) sc_matched.nd rfl (.inl rfl) pe_int)
      (pss_cons (ps_while PassesOwn.never (PW.pt (pw_and (pt_cmpR op_lt (pv 4) (pe_callB (cr_lenK K) (by rfl) T.m_len (by decide +kernel) (pa_cons (pv 0) pa_nil)) (nomark _)) (pw_and1 (pt_cmpR op_lt (pv 5) (pe_callB (cr_lenK K) (by rfl) T.m_len (by decide +kernel) (pa_cons (pv 1) pa_nil)) (nomark _))))) (pss_one (ps_if (pt_cmpR (op_eqK K hr.units) (pe_ix (ix_K K (hu_of hr)) (pv 0) (pv 4) (fun _ _ => rfl)) (pe_ix (ix_K K (hu_of hr)) (pv 1) (pv 5) (fun _ _ => rfl)) (nomark _)) (pss_cons (ps_expr (k_bm K (pe_bm PySem.F.plainAttrs_list PySem.F.slot_list_append PySem.F.type_list_append mt_append (pv 3) (pa_cons (pe_tup (pa_cons (pv 4) (pa_cons (pv 5) pa_nil))) pa_nil))))
      (pss_cons (ps_aug (i := 4) sc_matched.nd rfl (.inl rfl) pe_int ip_add)
      (pss_one (ps_aug (i := 5) sc_matched.nd rfl (.inl rfl) pe_int ip_add)))) (pss_one (ps_if (pt_cmpR op_ge (pe_ix (ix_K K (hu_of hr)) (pe_ix (ix_K K (hu_of hr)) (pv 2) (pe_op (op_addK K) (pv 4) pe_int) (fun _ _ => rfl)) (pv 5) (fun _ _ => rfl)) (pe_ix (ix_K K (hu_of hr)) (pe_ix (ix_K K (hu_of hr)) (pv 2) (pv 4) (fun _ _ => rfl)) (pe_op (op_addK K) (pv 5) pe_int) (fun _ _ => rfl)) (nomark _)) (pss_one (ps_aug (i := 4) sc_matched.nd rfl (.inl rfl) pe_int ip_add)) (pss_one (ps_aug (i := 5) sc_matched.nd rfl (.inl rfl) pe_int ip_add)))))))
      (pss_one (ps_ret (pv 3)))))))), ?_⟩
  obtain ⟨a, b, xs, ys, rfl, ha, hb, hx, hy, q⟩ := h
  refine g_start (σ' := [some (.ref a), some (.ref b), none, none, none, none]) rfl ?_
  walk_at "gg"
  refine ⟨a, b, xs, ys, rfl, ha, hb, hx, hy, fun t H1 s0 n1 tab => ?_⟩
  have ha1 := s0 _ _ ha
  have hb1 := s0 _ _ hb
  have hH := Has.start H1
  walk_at "gg"
  refine g_klst (by walk_at "sz") hH (fun p H2 n2 h2 => ?_)
  walk_at "gg"
  refine g_while (fun k σ H' => ∃ (i j : Nat) (acc : List (Nat × Nat)) (vs : List V) (F : Hp), σ = [some (.ref a), some (.ref b), some (.ref t), some (.ref p), some (.int i), some (.int j)] ∧ Same H1 F ∧ Has F [(p, .lst vs)] H' ∧ DqAll F vs (acc.map prd) ∧ acc ++ mt (xs.drop i) (ys.drop j) i j = mt xs ys 0 0 ∧ i ≤ xs.length ∧ j ≤ ys.length ∧ acc.length ≤ i ∧ k = (xs.length - i) + (ys.length - j)) _ ⟨0, 0, [], [], H1, rfl, Same.refl _, h2, .nil, by simp, by omega, by omega, by simp, rfl⟩ ?_
  · rintro k σ H3 ⟨i, j, acc, vs, F, rfl, sF, h3, dq, ea, hi, hj, hac, rfl⟩
    have ha3 : F a = some (.lst (xs.map V.str)) := sF _ _ ha1
    have hb3 : F b = some (.lst (ys.map V.str)) := sF _ _ hb1
    have tab3 : Table H3 t xs ys := (tab.up sF).up h3.same
    refine g_fact (fun c => c = true ↔ (i < xs.length ∧ j < ys.length)) (fun R r => ?_) (fun c hc => ?_)
    · walk_at "gg"
      rw [List.length_map]
      refine i_d (fun l1 => ?_) (fun l1 => r _ ⟨fun z => (Bool.false_ne_true z).elim, fun z => by omega⟩)
      walk_at "gg"
      rw [List.length_map]
      exact r _ ⟨fun z => by have := of_decide_eq_true z; omega, fun z => decide_eq_true (by omega)⟩
    cases c with
    | true =>
      have hij := hc.mp rfl
      have hxi : xs[i]? = some xs[i] := List.getElem?_eq_getElem hij.1
      have hyj : ys[j]? = some ys[j] := List.getElem?_eq_getElem hij.2
      have ma := mt_at hxi hyj
      refine kwh_t ?_
      walk_at "gg"
      refine g_ixZ (by walk_at "h") (by omega) (by omega) (fun x hx' => ?_)
      walk_at "gg"
      refine g_ixZ (by walk_at "h") (by omega) (by omega) (fun y hy' => ?_)
      have ex : x = xs[i] := Option.some.inj (hx'.symm.trans hxi)
      have ey : y = ys[j] := Option.some.inj (hy'.symm.trans hyj)
      subst ex ey
      walk_at "gg"
      refine i_d (fun e => ?_) (fun e => ?_)
      · rw [if_pos e] at ma
        walk_at "gg"
        refine g_ktupF (by walk_at "sz") h3 (fun T H4 F' n4 s4 hT h4 => ?_)
        walk_at "gg"
        have hvl : vs.length = acc.length := by rw [dq.len, List.length_map]
        refine g_append h4 (by walk_at "c") (szl (by omega)) (fun H5 h5 => ?_)
        walk_at "gg"
        refine ⟨(xs.length - (i + 1)) + (ys.length - (j + 1)), by omega, i + 1, j + 1, acc ++ [(i, j)], _, F', rfl, sF.trans s4, h5, ?_, ?_, by omega, by omega, by rw [List.length_append]; show acc.length + 1 ≤ _; omega, rfl⟩
        · rw [List.map_append]
          exact (dq.up s4 _ _).snoc (.tup hT (.cons (.int _) (.cons (.int _) .nil)))
        · rw [← ea, ma, List.append_assoc]
          rfl
      · rw [if_neg e] at ma
        walk_at "gg"
        refine g_tabAt tab3 (by omega) (by omega) (fun r hr => ?_)
        walk_at "gg"
        refine g_ixV hr (by omega) (by rw [List.length_map, List.length_range]; omega) (fun v hv => ?_)
        rw [List.getElem?_map, List.getElem?_range (by omega)] at hv
        have hv' := (Option.some.inj hv).symm
        subst hv'
        walk_at "gg"
        refine g_tabAt tab3 (by omega) (by omega) (fun r hr => ?_)
        walk_at "gg"
        refine g_ixV hr (by omega) (by rw [List.length_map, List.length_range]; omega) (fun v hv => ?_)
        rw [List.getElem?_map, List.getElem?_range (by omega)] at hv
        have hv' := (Option.some.inj hv).symm
        subst hv'
        walk_at "gg"
        have e1 : ((i : Int) + 1).toNat = i + 1 := by omega
        have e2 : ((j : Int) + 1).toNat = j + 1 := by omega
        rw [e1, e2]
        refine i_d (fun g => ?_) (fun g => ?_)
        · have g' : lc (xs.drop (i + 1)) (ys.drop j) ≥ lc (xs.drop i) (ys.drop (j + 1)) := Int.ofNat_le.mp g
          rw [if_pos g'] at ma
          walk_at "gg"
          exact ⟨(xs.length - (i + 1)) + (ys.length - j), by omega, i + 1, j, acc, vs, F, rfl, sF, h3, dq, by rw [← ea, ma], by omega, hj, by omega, rfl⟩
        · have g' : ¬ lc (xs.drop (i + 1)) (ys.drop j) ≥ lc (xs.drop i) (ys.drop (j + 1)) := fun z => g (Int.ofNat_le.mpr z)
          rw [if_neg g'] at ma
          walk_at "gg"
          exact ⟨(xs.length - i) + (ys.length - (j + 1)), by omega, i, j + 1, acc, vs, F, rfl, sF, h3, dq, by rw [← ea, ma], hi, by omega, by omega, rfl⟩
    | false =>
      have hij : xs.length ≤ i ∨ ys.length ≤ j := by
        have : ¬ (i < xs.length ∧ j < ys.length) := fun z => Bool.false_ne_true (hc.mpr z)
        omega
      refine kwh_f ?_
      rw [mt_end hij, List.append_nil] at ea
      subst ea
      walk_at "gg"
      exact q p H3 vs (s0.trans (sF.trans h3.same)) (s0.free n2) (by walk_at "h") (dq.up h3.same _ _)
end
end
section
def eld (e : List Str × List Str) : PyData := .tuple [.list (e.1.map PyData.str), .list (e.2.map PyData.str)]
def EldOk (e : List Str × List Str) : Prop := e.1.length ≤ 50 ∧ e.2.length = e.1.length ∧ (∀ x ∈ e.1, PyData.strOk x = true) ∧ ∀ x ∈ e.2, PyData.strOk x = true
def o1 (marks : List Str) (fo : Nat → Option Str) (p : Nat × Nat) : Nat → Option Str := fun j => if j = p.2 ∧ fo j = none then marks[p.1]? else fo j
def oE (text : List Str) (fo : Nat → Option Str) (e : List Str × List Str) : Nat → Option Str := (mt e.1 text 0 0).foldl (o1 e.2) fo
def oAll (text : List Str) (es : List (List Str × List Str)) : Nat → Option Str := es.foldl (oE text) fun _ => none
def orig (name : Str) (text : List Str) (es : List (List Str × List Str)) : List Str := (List.range text.length).map fun j => (oAll text es j).getD name
theorem mt_len : ∀ (xs ys : List Str) (i j : Nat), (mt xs ys i j).length ≤ xs.length
  | [], _, _, _ => by rw [mt]; exact Nat.le_refl _
  | _ :: _, [], _, _ => by rw [mt]; exact Nat.zero_le _
  | x :: xs, y :: ys, i, j => by
    rw [mt]
    split
    · have := mt_len xs ys (i + 1) (j + 1)
      rw [List.length_cons, List.length_cons]; omega
    · split
      · have := mt_len xs (y :: ys) (i + 1) j
        rw [List.length_cons]; omega
      · have := mt_len (x :: xs) ys i (j + 1)
        exact this
termination_by xs ys => xs.length + ys.length
theorem eld_inv {F : Hp} {v : V} {e : List Str × List Str} (h : Dq F v (eld e)) : ∃ T o m, v = .ref T ∧ F T = some (.tup [.ref o, .ref m]) ∧ F o = some (.lst (e.1.map V.str)) ∧ F m = some (.lst (e.2.map V.str)) := by
  cases h with
  | tup hT hs =>
    cases hs with
    | cons h1 hs =>
      cases hs with
      | cons h2 hs =>
        cases hs
        obtain ⟨o, rfl, ho⟩ := h1.of_strs
        obtain ⟨m, rfl, hm⟩ := h2.of_strs
        exact ⟨_, o, m, rfl, hT, ho, hm⟩
theorem prd_inv {F : Hp} {v : V} {p : Nat × Nat} (h : Dq F v (prd p)) : ∃ T, v = .ref T ∧ F T = some (.tup [.int p.1, .int p.2]) := by
  cases h with
  | tup hT hs =>
    cases hs with
    | cons h1 hs =>
      cases hs with
      | cons h2 hs =>
        cases hs
        cases h1
        cases h2
        exact ⟨_, rfl, hT⟩
theorem prd_rm {H : Hp} {a : Addr} {o : HO} (h : H a = some o) (ho : ∀ xs, o ≠ .tup xs) : ∀ {vs : List V} {ps : List (Nat × Nat)}, DqAll H vs (ps.map prd) → DqAll (rm H a) vs (ps.map prd)
  | _, [], .nil => .nil
  | _, p :: ps, .cons d t => by
    refine .cons ?_ (prd_rm h ho t)
    obtain ⟨T, rfl, hT⟩ := prd_inv d
    refine .tup ?_ (.cons (.int _) (.cons (.int _) .nil))
    rw [rm_ne (ne_of hT h (fun e => ho _ e.symm))]
    exact hT
section
variable {P : Program} {w : World} {K : PySem.W.Frag} {mg : Str → Option Value} {base : Heap}
def sp_line_origins (K : PySem.W.Frag) : Sp := fun vs H Q _ => ∃ (nm : Str) (t e : Addr) (text : List Str) (us : List V) (es : List (List Str × List Str)), vs = [.str nm, .ref t, .ref e] ∧ H t = some (.lst (text.map V.str)) ∧ text.length ≤ 50 ∧ H e = some (.lst us) ∧ DqAll H us (es.map eld) ∧
  es.length ≤ 50 ∧ (∀ x ∈ es, EldOk x) ∧ ∀ p H', Same H H' → H p = none → H' p = some (.lst ((orig nm text es).map V.str)) → Q (.ref p) H'
theorem sp_line_origins_len {vs H Q E} (h : sp_line_origins K vs H Q E) : vs.length = 3 := by
  obtain ⟨_, _, _, _, _, _, rfl, _⟩ := h
  rfl
theorem ok_line_origins (T : Txt K mg) : FnOk P w K mg base CX0 3 T.f_line_origins T.fd_line_origins ["name", "text", "elders"] (sp_line_origins K) := by
  refine T.F_line_origins.ok sc_line_origins (fun vs H Q E h => sp_line_origins_len h) (fun cdv A outer s H vs Q E hr h => ?_)
  refine ⟨_, (pss_cons (ps_set (i := 3) sc_line_origins.nd rfl (.inr rfl) pe_dnewK)
      (pss_cons (ps_for PassesOwn.never rfl (k_il K (pi_list (pv 2))) (k_gt K (pg_tup (by rfl) (pgs_cons (pg_name (i := 4) sc_line_origins.nd rfl (.inl rfl)) (pgs_cons (pg_name (i := 5) sc_line_origins.nd rfl (.inl rfl)) pgs_nil)))) (pss_one (ps_for PassesOwn.never rfl (k_il K (pi_list (pe_call (ok_matched T) (hr.mono (by decide)) (by rfl) T.g_matched T.F_matched.kp T.b_matched .nil pass0 (pa_cons (pv 4) (pa_cons (pv 1) pa_nil))))) (k_gt K (pg_tup (by rfl) (pgs_cons (pg_name (i := 6) sc_line_origins.nd rfl (.inl rfl)) (pgs_cons (pg_name (i := 7) sc_line_origins.nd rfl (.inl rfl)) pgs_nil)))) (pss_one (ps_if (pt_cmpR (op_notinK K hr.units (u65 hr)) (pv 7) (pv 3) (by rfl)) (pss_one (ps_asg (pe_ix (ix_K K (hu_of hr)) (pv 5) (pv 6) (fun _ _ => rfl)) (pg_sub (pv 3) (pv 7) (set_any (hu_of hr))))) pss_nil)))))
      (pss_one (ps_ret (pe_lc (own := [("place", 7)]) (g := gName 7) (tt := tYes) rfl sc_line_origins.nd (pi_range1 rfl T.m_range (pa_cons (pe_callB (cr_lenK K) (by rfl) T.m_len (by decide +kernel) (pa_cons (pv 1) pa_nil)) pa_nil)) (blkOk_by (N := n_line_origins) (sc := defScope s_line_origins) (by decide +kernel)) (fun _ _ _ _ _ => (pg_name (i := 7) sc_line_origins.nd rfl (.inl rfl))) (fun _ _ _ _ _ => pts_nil) (fun _ _ _ _ _ => (pe_dget2 (hu_of hr) (pv 3) (pv 7) (pv 0) ⟨rfl, rfl, rfl, rfl⟩))))))), ?_⟩
  obtain ⟨nm, t, e, text, us, es, rfl, ht, htl, he, dq, hel, hes, q⟩ := h
  have hH := Has.start H
  refine g_start (σ' := [some (.str nm), some (.ref t), some (.ref e), none, none, none, none, none]) rfl ?_
  walk_at "gg"
  refine g_dnew hH (fun d H1 n1 h1 => ?_)
  walk_at "gg"
  have hul : us.length = es.length := by rw [dq.len, List.length_map]
  refine k_forL (xs := us) (by walk_at "h") (fun i σ H' => ∃ (kvs : List (Key × V)) (y4 y5 y6 y7 : Option V), σ = [some (.str nm), some (.ref t), some (.ref e), some (.ref d), y4, y5, y6, y7] ∧ Has H [(d, .dK kvs)] H' ∧
    (∀ j : Nat, valV kvs (.inl (j : Int)) = ((es.take i).foldl (oE text) (fun _ => none) j).map V.str) ∧ kvs.length ≤ 50 * i) ⟨[], none, none, none, none, rfl, h1, fun j => rfl, by simp⟩ ?_ ?_ ?_
  · rintro i σ H' hi ⟨kvs, y4, y5, y6, y7, rfl, hA, rel, kl⟩
    walk_at "h"
  · rintro i v σ H2 hv ⟨kvs, y4, y5, y6, y7, rfl, hA, rel, kl⟩
    obtain ⟨dd, hd, dv⟩ := dq.get hv
    rw [List.getElem?_map] at hd
    obtain ⟨el, hel2, rfl⟩ := Option.map_eq_some_iff.mp hd
    have hil : i < es.length := (List.getElem?_eq_some_iff.mp hel2).1
    have eok := hes el (List.mem_of_getElem? hel2)
    obtain ⟨T, o, m, rfl, hT, ho, hm⟩ := eld_inv dv
    walk_at "gg"
    refine ⟨o, t, el.1, text, rfl, by walk_at "h", by walk_at "h", by have := eok.1; omega, by omega, fun lp H3 ps s3 n3 hlp dps => ?_⟩
    have hd3 : H3 d = some (.dK kvs) := s3 _ _ (hA.get (by walk_at "m"))
    have nld : lp ≠ d := fun z => by rw [z, hA.get (List.Mem.head _)] at n3; cases n3
    have hB := Has.arg hd3
    have sF : Same H (rm H3 d) := same_rm (hA.same.trans s3) hA.free
    have dps' := prd_rm hd3 (fun xs z => by cases z) dps
    have hlp' : rm H3 d lp = some (.lst ps) := by rw [rm_ne nld]; exact hlp
    have hm' : rm H3 d m = some (.lst (el.2.map V.str)) := sF _ _ hm
    walk_at "gg"
    have hpl : ps.length = (mt el.1 text 0 0).length := by rw [dps.len, List.length_map]
    have hml := mt_len el.1 text 0 0
    refine k_forL (xs := ps) hlp (fun k σ H' => ∃ (kvs : List (Key × V)) (y6 y7 : Option V), σ = [some (.str nm), some (.ref t), some (.ref e), some (.ref d), some (.ref o), some (.ref m), y6, y7] ∧ Has (rm H3 d) [(d, .dK kvs)] H' ∧
      (∀ j : Nat, valV kvs (.inl (j : Int)) = (((mt el.1 text 0 0).take k).foldl (o1 el.2) ((es.take i).foldl (oE text) (fun _ => none)) j).map V.str) ∧ kvs.length ≤ 50 * i + k) ⟨kvs, y6, y7, rfl, hB, rel, by omega⟩ ?_ ?_ ?_
    · rintro k σ H' hk ⟨kvs, y6, y7, rfl, hA, rel, kl⟩
      walk_at "h"
    · rintro k v σ H4 hv ⟨kvs, y6, y7, rfl, hC, rel, kl⟩
      obtain ⟨dd, hd, dv⟩ := dps'.get hv
      rw [List.getElem?_map] at hd
      obtain ⟨pr, hpr, rfl⟩ := Option.map_eq_some_iff.mp hd
      have hkl : k < (mt el.1 text 0 0).length := (List.getElem?_eq_some_iff.mp hpr).1
      have hlt := mt_lt _ _ _ _ _ (List.mem_of_getElem? hpr)
      obtain ⟨T2, rfl, hT2⟩ := prd_inv dv
      walk_at "gg"
      have r2 := rel pr.2
      generalize hfo : ((mt el.1 text 0 0).take k).foldl (o1 el.2) ((es.take i).foldl (oE text) (fun _ => none)) = fo at rel r2
      have stp : ((mt el.1 text 0 0).take (k + 1)).foldl (o1 el.2) ((es.take i).foldl (oE text) (fun _ => none)) = o1 el.2 fo pr := by rw [take_foldl hpr, hfo]
      rw [r2, Option.isSome_map]
      refine i_nb (fun z => ?_) (fun z => ?_)
      · have fn : fo pr.2 = none := by cases h : fo pr.2 with | none => rfl | some _ => rw [h] at z; cases z
        walk_at "gg"
        refine g_ixZ (by walk_at "h") (by omega) (by have := eok.2.1; omega) (fun y hy => ?_)
        walk_at "gg"
        refine g_stD (k := .inl (pr.2 : Int)) rfl hC (by walk_at "c") (szl (by have := eok.1; omega)) (fun H5 h5 => ?_)
        refine ⟨_, _, _, rfl, h5, fun j => ?_, by have := length_putK kvs (.inl (pr.2 : Int)) (V.str y); omega⟩
        rw [valV_put, stp, rel j]
        unfold o1
        by_cases e : j = pr.2
        · subst e
          rw [if_pos rfl, if_pos ⟨rfl, fn⟩]
          have hy' : el.2[pr.1]? = some y := hy
          rw [hy']
          rfl
        · rw [if_neg (fun z => e (by have := Sum.inl.inj z; omega)), if_neg (fun z => e z.1)]
      · walk_at "gg"
        refine ⟨kvs, _, _, rfl, hC, fun j => ?_, by omega⟩
        rw [stp, rel j]
        unfold o1
        by_cases e : j = pr.2
        · subst e
          rw [if_neg]
          rintro ⟨_, z'⟩
          rw [z'] at z
          cases z
        · rw [if_neg (fun z => e z.1)]
    · rintro σ H4 ⟨kvs, y6, y7, rfl, hC, rel, kl⟩
      refine ⟨kvs, _, _, _, _, rfl, hC.mono sF, fun j => ?_, by have := eok.1; omega⟩
      rw [rel j, take_foldl hel2, hpl, List.take_length]
      rfl
  · rintro σ H2 ⟨kvs, y4, y5, y6, y7, rfl, hA, rel, kl⟩
    rw [hul, List.take_length] at rel
    walk_at "gg"
    rw [List.length_map]
    refine k_lcR1 (by omega) (by omega) hA (fun i acc F' O' => acc = ((List.range i).map fun j => V.str ((oAll text es j).getD nm)) ∧ H = F' ∧ O' = [(d, .dK kvs)]) ⟨rfl, rfl, rfl⟩ ?_ ?_
    · rintro i acc F' O' D H3 hi ⟨rfl, rfl, rfl⟩ hh
      walk_at "gg"
      refine k_turn hh (by rw [List.length_map, List.length_range]; omega) ⟨?_, rfl, rfl⟩
      rw [List.range_succ, List.map_append, rel i]
      congr 1
      show [_] = [_]
      congr 1
      show (Option.map V.str (oAll text es i)).getD (V.str nm) = V.str ((oAll text es i).getD nm)
      cases oAll text es i <;> rfl
    · rintro acc F' O' D H3 ⟨rfl, rfl, rfl⟩ hh
      refine q D H3 hh.same hh.free ?_
      rw [hh.get (List.Mem.head _)]
      unfold orig
      rw [List.map_map]
      rfl
end
end
section
local macro_rules | `(tactic| walk_at "g") => `(tactic| first
  | (with_reducible refine g_dcL ?_)
  | (with_reducible refine g_dcT ?_)
  | (with_reducible refine g_m1s ?_)
  | (with_reducible refine g_km1s ?_)
  | (with_reducible refine g_starts ?_)
  | (with_reducible refine g_tryX ?_)
  | (with_reducible refine g_lcS ?_))
section
variable {P : Program} {w : World} {K : PySem.W.Frag} {mg : Str → Option Value} {base : Heap}
theorem init_addr {T : Txt K mg} {H : Hp} {a x d nl : Addr} (n : H d = none) : ∀ q ∈ OrdO T a x d nl [], q.1 ∈ ([(a, HO.ins T.C_Order x []), (x, HO.own a)] : Own).map (·.1) ∨ H q.1 = none := fun q hq => by
  simp only [OrdO, List.mem_cons, List.not_mem_nil, or_false] at hq
  rcases hq with rfl | rfl | rfl
  · exact .inl (by simp)
  · exact .inl (by simp)
  · exact .inr n
def hs_ (o tr og tu : Addr) : List (Str × V) := [("_order", .ref o), ("_trees", .ref tr), ("_origins", .ref og), ("_tally", .ref tu)]
/-- what a history owns -/
structure HA where
  h : Addr
  x : Addr
  o : Addr
  ox : Addr
  od : Addr
  tr : Addr
  og : Addr
  tu : Addr
def HisO (T : Txt K mg) (A : HA) (nl : Addr) (kvs tk ok : List (Key × V)) : Own := (A.h, .ins T.C_History A.x (hs_ A.o A.tr A.og A.tu)) :: (A.x, .own A.h) :: (A.tr, .dK tk) :: (A.og, .dK ok) :: OrdO T A.o A.ox A.od nl kvs
def sp_History___init__ (T : Txt K mg) : Sp := fun vs H Q _ => ∃ (a dx : Addr) (H0 : Hp), vs = [.ref a] ∧ H = upd (upd H0 dx (.own a)) a (.ins T.C_History dx []) ∧ H0 a = none ∧ H0 dx = none ∧ dx ≠ a ∧
  ∀ (A : HA) nl H' F', A.h = a → Has F' (HisO T A nl [] [] []) H' → Same H0 F' → F' nl = some (.lst []) → F' A.tu = some (.tup []) → Q .non H'
theorem sp_History___init___len {T : Txt K mg} {vs H Q E} (h : sp_History___init__ T vs H Q E) : vs.length = 1 := by
  obtain ⟨_, _, _, rfl, _⟩ := h
  rfl
set_option maxHeartbeats 1000000 in
theorem ok_History___init__ (T : Txt K mg) : FnOk P w K mg base CX0 3 T.f_History___init__ T.fd_History___init__ ["self"] (sp_History___init__ T) := by
  refine T.F_History___init__.ok sc_History___init__ (fun vs H Q E h => sp_History___init___len h) (fun cdv A outer s H vs Q E hr h => ?_)
  refine ⟨_, (pss_cons (k_sfld K (ps_fld (pv 0) (pe_make0 T.Mk_Order (ok_Order___init__ T) (hr.mono (by decide)) (by rfl) T.g_Order T.b_Order___init__ .nil pass0) rfl))
      (pss_cons (k_sfld K (ps_fld (pv 0) pe_dnewK rfl))
      (pss_cons (k_sfld K (ps_fld (pv 0) pe_dnewK rfl))
      (pss_one (k_sfld K (ps_fld (pv 0) (pe_tup pa_nil) rfl)))))), ?_⟩
  obtain ⟨a, dx, H0, rfl, rfl, na, ndx, nad, q⟩ := h
  refine g_start (σ' := [some (.ref a)]) rfl ?_
  have h : Has H0 [(a, .ins T.C_History dx []), (dx, .own a)] (upd (upd H0 dx (.own a)) a (.ins T.C_History dx [])) := ((Has.start H0).new ndx).new (by rw [upd_ne nad.symm]; exact na)
  generalize upd (upd H0 dx (.own a)) a (.ins T.C_History dx []) = H at h
  walk_at "gg"
  refine g_kmake h (fun o ox H1 n1 h1 => ?_)
  refine ⟨o, ox, H0, rfl, h1.sub (List.sublist_append_left [(o, HO.ins T.C_Order ox []), (ox, HO.own o)] _), fun od nl H2 F2 nd hb g h2 fnl => ⟨rfl, ?_⟩⟩
  have h2 := Has.grownA (A := [(o, .ins T.C_Order ox []), (ox, .own o)]) (R := [(a, .ins T.C_History dx []), (dx, .own a)]) h1 hb g h2 (init_addr nd)
  have h2 : Has F2 ((a, .ins T.C_History dx []) :: (dx, .own a) :: OrdO T o ox od nl []) H2 := h2.perm (List.perm_append_comm (l₁ := [(a, HO.ins T.C_History dx []), (dx, HO.own a)]))
  have s2 : Same H0 F2 := g.1
  walk_at "gg"
  refine g_ksfld (fs' := [("_order", .ref o)]) h2 .hd rfl T.cl_History T.nA_History__order (by decide) (fun H3 h3 => ?_)
  walk_at "gg"
  refine g_dnewK h3 (fun tr H4 n4 h4 => ?_)
  walk_at "gg"
  refine g_ksfld (fs' := [("_order", .ref o), ("_trees", .ref tr)]) h4 (.tl .hd) rfl T.cl_History T.nA_History__trees (by show 1 < 1000; decide) (fun H5 h5 => ?_)
  walk_at "gg"
  refine g_dnewK h5 (fun og H6 n6 h6 => ?_)
  walk_at "gg"
  refine g_ksfld (fs' := [("_order", .ref o), ("_trees", .ref tr), ("_origins", .ref og)]) h6 (.tl (.tl .hd)) rfl T.cl_History T.nA_History__origins (by show 2 < 1000; decide) (fun H7 h7 => ?_)
  walk_at "gg"
  refine g_ktup (by walk_at "sz") h7 (fun tu H8 n8 h8 => ?_)
  have s8 := h8.grow
  have ftu : upd F2 tu (.tup []) tu = some (.tup []) := upd_same
  have h8 := h8.frz
  generalize upd F2 tu (.tup []) = F3 at h8 s8 ftu
  walk_at "gg"
  refine g_ksfld (fs' := hs_ o tr og tu) h8 (.tl (.tl .hd)) rfl T.cl_History T.nA_History__tally (by show 3 < 1000; decide) (fun H9 h9 => ?_)
  have h9 : Has F3 (HisO T ⟨a, dx, o, ox, od, tr, og, tu⟩ nl [] [] []) H9 := h9.perm (((List.perm_append_comm (l₁ := [(a, HO.ins T.C_History dx (hs_ o tr og tu)), (dx, HO.own a)]) (l₂ := [(tr, HO.dK []), (og, HO.dK [])])).trans (List.Perm.swap (og, HO.dK []) (tr, HO.dK []) _)).append_right _)
  exact q ⟨a, dx, o, ox, od, tr, og, tu⟩ nl H9 F3 rfl h9 (s2.trans s8) (s8 _ _ fnl) ftu
end
inductive TL (F : Hp) : List (Key × V) → List (Str × Tr) → Prop
  | nil : TL F [] []
  | cons {z : Str} {d : Addr} {A : Tr} {kvs : List (Key × V)} {ts : List (Str × Tr)} : TrAt F d A → TL F kvs ts → TL F ((kS z, .ref d) :: kvs) ((z, A) :: ts)
def getL (ts : List (Str × Tr)) (z : Str) : Option Tr := (ts.find? fun p => decide (p.1 = z)).map (·.2)
theorem TL.mono {F F' : Hp} (s : Same F F') : ∀ {kvs : List (Key × V)} {ts : List (Str × Tr)}, TL F kvs ts → TL F' kvs ts
  | _, _, .nil => .nil
  | _, _, .cons h t => .cons (h.up s) (t.mono s)
theorem TL.snoc {F : Hp} {z : Str} {d : Addr} {A : Tr} (h : TrAt F d A) : ∀ {kvs : List (Key × V)} {ts : List (Str × Tr)}, TL F kvs ts → TL F (kvs ++ [(kS z, .ref d)]) (ts ++ [(z, A)])
  | _, _, .nil => .cons h .nil
  | _, _, .cons h' t => .cons h' (t.snoc h)
theorem TL.len {F : Hp} : ∀ {kvs : List (Key × V)} {ts : List (Str × Tr)}, TL F kvs ts → kvs.length = ts.length
  | _, _, .nil => rfl
  | _, _, .cons _ t => by rw [List.length_cons, List.length_cons, t.len]
theorem TL.get {F : Hp} (z : Str) : ∀ {kvs : List (Key × V)} {ts : List (Str × Tr)}, TL F kvs ts → (∀ A, getL ts z = some A → ∃ d, valV kvs (.inr z) = some (.ref d) ∧ TrAt F d A) ∧ (getL ts z = none → valV kvs (.inr z) = none)
  | _, _, .nil => ⟨fun A h => (by cases h), fun _ => rfl⟩
  | _, _, .cons (z := y) (d := d) (A := B) (ts := ts) h t => by
    obtain ⟨i1, i2⟩ := t.get z
    by_cases c : y = z
    · subst c
      have e : getL ((y, B) :: ts) y = some B := by
        unfold getL
        rw [List.find?_cons_of_pos (by simp)]
        rfl
      have ev : ∀ kvs : List (Key × V), valV ((kS y, V.ref d) :: kvs) (Sum.inr y) = some (.ref d) := fun kvs => by
        unfold valV
        rw [List.find?_cons_of_pos (by simp [kS])]
        rfl
      rw [e, ev]
      exact ⟨fun A hA => by injection hA with hA; subst hA; exact ⟨d, rfl, h⟩, fun n => by cases n⟩
    · have e : getL ((y, B) :: ts) z = getL ts z := by
        unfold getL
        rw [List.find?_cons_of_neg (by simpa using c)]
      have ev : ∀ kvs : List (Key × V), valV ((kS y, V.ref d) :: kvs) (Sum.inr z) = valV kvs (Sum.inr z) := fun kvs => by
        unfold valV
        rw [List.find?_cons_of_neg (by simp [kS]; exact c)]
      rw [e, ev]
      exact ⟨i1, i2⟩
theorem TL.has {F : Hp} {kvs : List (Key × V)} {ts : List (Str × Tr)} (h : TL F kvs ts) (z : Str) : (valV kvs (.inr z)).isSome = (getL ts z).isSome := by
  obtain ⟨i1, i2⟩ := h.get z
  cases e : getL ts z with
  | none =>
    rw [i2 e]
    rfl
  | some A =>
    obtain ⟨d, ed, _⟩ := i1 A e
    rw [ed]
    rfl
section
variable {P : Program} {w : World} {K : PySem.W.Frag} {mg : Str → Option Value} {base : Heap}
/-- a copy of a tree -/
def sp_copy_of (T : Txt K mg) : Sp := fun vs H Q _ => ∃ (a : Addr) (A : Tr), vs = [.ref a] ∧ TrAt H a A ∧ A.length ≤ 60 ∧ ∀ d (B : Bt) H', Has H ((d, .dK (bK B)) :: bO B) H' → bA B = A → Q (.ref d) H'
theorem sp_copy_of_len {T : Txt K mg} {vs H Q E} (h : sp_copy_of T vs H Q E) : vs.length = 1 := by
  obtain ⟨_, _, rfl, _⟩ := h
  rfl
set_option maxHeartbeats 1000000 in
theorem ok_copy_of (T : Txt K mg) : FnOk P w K mg base CX0 1 T.f_copy_of T.fd_copy_of ["texts"] (sp_copy_of T) := by
  refine T.F_copy_of.ok sc_copy_of (fun vs H Q E h => sp_copy_of_len h) (fun cdv A outer s H vs Q E hr h => ?_)
  refine ⟨_, (pss_one (ps_ret (pe_lock (pe_dc (own := [("path", 1), ("text", 2)]) (g := gTup K 2 (gCons (gName 1) (gCons (gName 2) gNil))) (tt := tYes) rfl sc_copy_of.nd (pi_items (pv 0)) (blkOk_by (N := n_copy_of) (sc := defScope s_copy_of) (by decide +kernel)) (fun _ _ _ _ _ => (k_gt K (pg_tup (by rfl) (pgs_cons (pg_name (i := 1) sc_copy_of.nd rfl (.inl rfl)) (pgs_cons (pg_name (i := 2) sc_copy_of.nd rfl (.inl rfl)) pgs_nil))))) (fun _ _ _ _ _ => pts_nil) (fun _ _ _ _ _ => (pv 1)) (fun _ _ _ _ _ => (pe_callTy (cr_listK K) (by rfl) T.m_list (by decide +kernel) (pa_cons (pv 2) pa_nil))))))), ?_⟩
  obtain ⟨a, A, rfl, ⟨kvs, ha, eka, nda, dqa⟩, few, q⟩ := h
  refine g_start (σ' := [some (.ref a), none, none]) rfl ?_
  have lk : kvs.length = A.length := by have := congrArg List.length eka; rwa [List.length_map, List.length_map] at this
  walk_at "gg"
  refine k_dcItK rfl ha (Has.start H) (fun t acc F' O' => ∃ B : Bt, acc = bK B ∧ F' = H ∧ O' = bO B ∧ bA B = A.take t) ⟨[], rfl, rfl, rfl, rfl⟩ ?_ ?_
  · rintro t k v p acc F' O' D H1 od ekv ⟨B, rfl, rfl, rfl, eB⟩ fd hh
    obtain ⟨pr, ep, rfl⟩ := tr_key eka ekv
    have lt := (List.getElem?_eq_some_iff.mp ep).1
    obtain ⟨d', hd', dv⟩ := dqa.get (show (kvs.map (·.2))[t]? = some v by rw [List.getElem?_map, ekv]; rfl)
    rw [List.getElem?_map, ep] at hd'
    injection hd' with hd'
    subst hd'
    obtain ⟨l, rfl, hl⟩ := Dq.of_strs (xs := pr.2) dv
    have ne : l ≠ a := fun e => by rw [e, ha] at hl; cases hl
    have hl1 : upd F' a (.frz od (.dK kvs)) l = some (.lst (pr.2.map V.str)) := by rw [upd_ne ne]; exact hl
    walk_at "gg"
    refine g_listL (hh.same _ _ hl1) hh (fun p5 H7 n7 h5 => ?_)
    have h5 := h5.sub (O' := (p5, .lst (pr.2.map V.str)) :: (D, .dK (bK B)) :: bO B) (List.Sublist.cons_cons _ (List.Sublist.cons _ (List.Sublist.refl _)))
    have h6 : Has (upd F' a (.frz od (.dK kvs))) ((D, .dK (bK B)) :: bO (B ++ [(pr.1, p5, pr.2)])) H7 := by
      rw [bO_snoc]
      exact h5.perm (by
        have := (List.perm_middle (a := (p5, HO.lst (pr.2.map V.str))) (l₁ := (D, HO.dK (bK B)) :: bO B) (l₂ := []))
        simpa using this)
    have nz : pr.1 ∉ B.map (·.1) := by
      rw [← bA_keys, eB]
      intro m
      rw [List.map_take] at m
      obtain ⟨j, hj⟩ := List.mem_iff_getElem?.mp m
      have lj := (List.getElem?_eq_some_iff.mp hj).1
      rw [List.length_take] at lj
      rw [List.getElem?_take_of_lt (by omega)] at hj
      have := nd_inj nda hj (show (A.map (·.1))[t]? = some pr.1 by rw [List.getElem?_map, ep]; rfl)
      omega
    have lB : B.length ≤ t := by
      have := congrArg List.length eB
      unfold bA at this
      rw [List.length_map, List.length_take] at this
      omega
    refine kd_turn (k := .inr pr.1) rfl h6 (by unfold bK; rw [List.length_map]; omega) (lk_turn upd_same ⟨B ++ [(pr.1, p5, pr.2)], ?_, ?_, rfl, ?_⟩)
    · rw [putK_new _ (bK_none nz), bK_snoc]
      rfl
    · rw [upd_upd, upd_eta ha]
    · rw [bA_snoc, eB, List.take_add_one, ep]
      rfl
  · rintro acc F' O' D H1 ⟨B, rfl, rfl, rfl, eB⟩ hh
    rw [lk, List.take_length] at eB
    exact q D B H1 hh eB
end
end
section
theorem knM {rows : List URow} {z : Str} : kn rows z = true ↔ z ∈ rows.map (·.1) := by
  unfold kn
  rw [undr_known, decide_eq_true_eq]
theorem getL_mem {ts : List (Str × Tr)} {z : Str} : (getL ts z).isSome = true ↔ z ∈ ts.map (·.1) := by
  unfold getL
  rw [Option.isSome_map, List.find?_isSome, List.mem_map]
  constructor
  · rintro ⟨p, hp, e⟩
    exact ⟨p, hp, of_decide_eq_true e⟩
  · rintro ⟨p, hp, e⟩
    exact ⟨p, hp, decide_eq_true e⟩
section
variable {P : Program} {w : World} {K : PySem.W.Frag} {mg : Str → Option Value} {base : Heap}
structure HisAt (T : Txt K mg) (H : Hp) (A : HA) (rows : List URow) (ts os : List (Str × Tr)) : Prop where
  i : H A.h = some (.ins T.C_History A.x (hs_ A.o A.tr A.og A.tu))
  ord : Ord T H A.o rows
  tr : ∃ tk, H A.tr = some (.dK tk) ∧ TL H tk ts
  og : ∃ ok, H A.og = some (.dK ok) ∧ TL H ok os
  nt : List.Perm (ts.map (·.1)) (rows.map (·.1))
  no : List.Perm (os.map (·.1)) (rows.map (·.1))
theorem HisAt.mono {T : Txt K mg} {H H' : Hp} {A : HA} {rows : List URow} {ts os : List (Str × Tr)} (h : HisAt T H A rows ts os) (s : Same H H') : HisAt T H' A rows ts os := by
  obtain ⟨tk, h1, h2⟩ := h.tr
  obtain ⟨ok, h3, h4⟩ := h.og
  exact ⟨s _ _ h.i, h.ord.mono s, ⟨tk, s _ _ h1, h2.mono s⟩, ⟨ok, s _ _ h3, h4.mono s⟩, h.nt, h.no⟩
theorem HisAt.kn {T : Txt K mg} {H : Hp} {A : HA} {rows : List URow} {ts os : List (Str × Tr)} (h : HisAt T H A rows ts os) (z : Str) : (getL ts z).isSome = K37.kn rows z := by
  rw [Bool.eq_iff_iff, getL_mem, knM, h.nt.mem_iff]
theorem HisAt.knO {T : Txt K mg} {H : Hp} {A : HA} {rows : List URow} {ts os : List (Str × Tr)} (h : HisAt T H A rows ts os) (z : Str) : (getL os z).isSome = K37.kn rows z := by
  rw [Bool.eq_iff_iff, getL_mem, knM, h.no.mem_iff]
def sp_History__check_known (T : Txt K mg) : Sp := fun vs H Q E => ∃ (A : HA) (rows : List URow) (ts os : List (Str × Tr)) (z : Str), vs = [.ref A.h, .str z] ∧ HisAt T H A rows ts os ∧ (kn rows z = true → Q .non H) ∧ (kn rows z = false → lost_nm T.C_Unknown H E z)
theorem sp_History__check_known_len {T : Txt K mg} {vs H Q E} (h : sp_History__check_known T vs H Q E) : vs.length = 2 := by
  obtain ⟨_, _, _, _, _, rfl, _⟩ := h
  rfl
theorem ok_History__check_known (T : Txt K mg) : FnOk P w K mg base (L2N.CX P w) 3 T.f_History__check_known T.fd_History__check_known ["self", "name"] (sp_History__check_known T) := by
  refine Fun.okN T.F_History__check_known sc_History__check_known (fun vs H Q E h => sp_History__check_known_len h) (fun cdv A outer s H vs Q E hr h => ?_)
  refine ⟨_, (pss_one (ps_if (pt_cmpR (op_notinM K P w hr.units (u65 hr)) (pv 1) (k_fld K (pe_fld (pv 0) rfl)) (by rfl)) (pss_one (k_raise rfl (L2N.takes_of rfl rfl rfl rfl) (pmk_oexN T.O_Unknown T.iC_Unknown T.tI_Unknown (ok_init_Unknown T) (hr.mono (by decide)) T.bi_Unknown pass0 (by rfl) T.g_Unknown (pa_cons (pv 1) pa_nil)))) pss_nil)), ?_⟩
  obtain ⟨A, rows, ts, os, z, rfl, h, q, qe⟩ := h
  refine g_start (σ' := [some (.ref A.h), some (.str z)]) rfl ?_
  obtain ⟨tk, htr, tl⟩ := h.tr
  walk_at "gg"
  refine g_kfld h.i T.cl_History T.nA_History__trees rfl ?_
  walk_at "gg"
  refine g_notinM (g_notinS htr ?_)
  rw [tl.has, h.kn]
  cases e : kn rows z with
  | true =>
    walk_at "gg"
    exact q e
  | false =>
    walk_at "gg"
    exact g_mk rfl (by decide) (Has.start H) (fun ex H' n' h' => qe e ex H' h'.same n' (h'.get (List.Mem.head _)))
def sp_History__check_new (T : Txt K mg) : Sp := fun vs H Q E => ∃ (A : HA) (rows : List URow) (ts os : List (Str × Tr)) (z : Str), vs = [.ref A.h, .str z] ∧ HisAt T H A rows ts os ∧ z.length ≤ 10000 ∧ (isNm z = true → kn rows z = false → Q .non H) ∧ (isNm z = false → lost_nm T.C_BadName H E z) ∧ (isNm z = true → kn rows z = true → lost_nm T.C_Taken H E z)
theorem sp_History__check_new_len {T : Txt K mg} {vs H Q E} (h : sp_History__check_new T vs H Q E) : vs.length = 2 := by
  obtain ⟨_, _, _, _, _, rfl, _⟩ := h
  rfl
theorem ok_History__check_new (T : Txt K mg) : FnOk P w K mg base (L2N.CX P w) 3 T.f_History__check_new T.fd_History__check_new ["self", "name"] (sp_History__check_new T) := by
  refine Fun.okN T.F_History__check_new sc_History__check_new (fun vs H Q E h => sp_History__check_new_len h) (fun cdv A outer s H vs Q E hr h => ?_)
  refine ⟨_, (pss_cons (ps_if (pt_not (pt_val (pe_call (ok_is_name T) (hr.mono (by decide)) (by rfl) T.g_is_name T.F_is_name.kp T.b_is_name .nil pass0 (pa_cons (pv 1) pa_nil)))) (pss_one (k_raise rfl (L2N.takes_of rfl rfl rfl rfl) (pmk_oexN T.O_BadName T.iC_BadName T.tI_BadName (ok_init_BadName T) (hr.mono (by decide)) T.bi_BadName pass0 (by rfl) T.g_BadName (pa_cons (pv 1) pa_nil)))) pss_nil)
      (pss_one (ps_if (pt_cmpR (op_inM K P w hr.units (u65 hr)) (pv 1) (k_fld K (pe_fld (pv 0) rfl)) (by rfl)) (pss_one (k_raise rfl (L2N.takes_of rfl rfl rfl rfl) (pmk_oexN T.O_Taken T.iC_Taken T.tI_Taken (ok_init_Taken T) (hr.mono (by decide)) T.bi_Taken pass0 (by rfl) T.g_Taken (pa_cons (pv 1) pa_nil)))) pss_nil))), ?_⟩
  obtain ⟨A, rows, ts, os, z, rfl, h, lz, q, qb, qt⟩ := h
  refine g_start (σ' := [some (.ref A.h), some (.str z)]) rfl ?_
  obtain ⟨tk, htr, tl⟩ := h.tr
  walk_at "gg"
  refine ⟨z, rfl, lz, ?_⟩
  cases e : isNm z with
  | false =>
    walk_at "gg"
    exact g_mk rfl (by decide) (Has.start H) (fun ex H' n' h' => qb e ex H' h'.same n' (h'.get (List.Mem.head _)))
  | true =>
    walk_at "gg"
    refine g_kfld h.i T.cl_History T.nA_History__trees rfl ?_
    walk_at "gg"
    refine g_inM (g_inS htr ?_)
    rw [tl.has, h.kn]
    cases e2 : kn rows z with
    | true =>
      walk_at "gg"
      exact g_mk rfl (by decide) (Has.start H) (fun ex H' n' h' => qt e e2 ex H' h'.same n' (h'.get (List.Mem.head _)))
    | false =>
      walk_at "gg"
      exact q e e2
def sp_History___contains__ (T : Txt K mg) : Sp := fun vs H Q _ => ∃ (A : HA) (rows : List URow) (ts os : List (Str × Tr)) (z : Str), vs = [.ref A.h, .str z] ∧ HisAt T H A rows ts os ∧ Q (.bl (kn rows z)) H
theorem sp_History___contains___len {T : Txt K mg} {vs H Q E} (h : sp_History___contains__ T vs H Q E) : vs.length = 2 := by
  obtain ⟨_, _, _, _, _, rfl, _⟩ := h
  rfl
theorem ok_History___contains__ (T : Txt K mg) : FnOk P w K mg base CX0 1 T.f_History___contains__ T.fd_History___contains__ ["self", "name"] (sp_History___contains__ T) := by
  refine T.F_History___contains__.ok sc_History___contains__ (fun vs H Q E h => sp_History___contains___len h) (fun cdv A outer s H vs Q E hr h => ?_)
  refine ⟨_, (pss_one (ps_ret (pe_cmpR (op_inM K P w hr.units (u65 hr)) (pv 1) (k_fld K (pe_fld (pv 0) rfl)) (by rfl)))), ?_⟩
  obtain ⟨A, rows, ts, os, z, rfl, h, q⟩ := h
  refine g_start (σ' := [some (.ref A.h), some (.str z)]) rfl ?_
  obtain ⟨tk, htr, tl⟩ := h.tr
  walk_at "gg"
  refine g_kfld h.i T.cl_History T.nA_History__trees rfl ?_
  walk_at "gg"
  refine g_inM (g_inS htr ?_)
  rw [tl.has, h.kn]
  exact q
/-- a copy of a version's tree -/
def sp_History_tree (T : Txt K mg) : Sp := fun vs H Q E => ∃ (A : HA) (rows : List URow) (ts os : List (Str × Tr)) (z : Str), vs = [.ref A.h, .str z] ∧ HisAt T H A rows ts os ∧ (∀ t, getL ts z = some t → t.length ≤ 60 ∧ ∀ d (B : Bt) H', Has H ((d, .dK (bK B)) :: bO B) H' → bA B = t → Q (.ref d) H') ∧ (kn rows z = false → lost_nm T.C_Unknown H E z)
theorem sp_History_tree_len {T : Txt K mg} {vs H Q E} (h : sp_History_tree T vs H Q E) : vs.length = 2 := by
  obtain ⟨_, _, _, _, _, rfl, _⟩ := h
  rfl
theorem ok_History_tree (T : Txt K mg) : FnOk P w K mg base (L2N.CX P w) 4 T.f_History_tree T.fd_History_tree ["self", "name"] (sp_History_tree T) := by
  refine Fun.okN T.F_History_tree sc_History_tree (fun vs H Q E h => sp_History_tree_len h) (fun cdv A outer s H vs Q E hr h => ?_)
  refine ⟨_, (pss_cons (ps_expr (pe_methW (pv 0) T.cl_History T.M_History__check_known (ok_History__check_known T) (hr.mono (by decide)) T.b_History__check_known (fun σ => L2N.passAt (L2N.takes_of rfl rfl rfl rfl) σ) (pa_cons (pv 1) pa_nil)))
      (pss_one (ps_ret (pe_call (ok_copy_of T) (hr.mono (by decide)) (by rfl) T.g_copy_of T.F_copy_of.kp T.b_copy_of .nil pass0 (pa_cons (pe_ix (ix_K K (hu_of hr)) (k_fld K (pe_fld (pv 0) rfl)) (pv 1) (fun _ _ => rfl)) pa_nil))))), ?_⟩
  obtain ⟨A, rows, ts, os, z, rfl, h, q, qe⟩ := h
  refine g_start (σ' := [some (.ref A.h), some (.str z)]) rfl ?_
  obtain ⟨tk, htr, tl⟩ := h.tr
  walk_at "gg"
  refine g_kmeth h.i rfl ?_
  walk_at "gg"
  refine ⟨A, rows, ts, os, z, rfl, h, fun k => ?_, qe⟩
  cases e : getL ts z with
  | none =>
    have := h.kn z
    rw [e, k] at this
    cases this
  | some t =>
    obtain ⟨lt, q⟩ := q t e
    obtain ⟨d, ed, hd⟩ := (tl.get z).1 t e
    walk_at "gg"
    refine g_kfld h.i T.cl_History T.nA_History__trees rfl ?_
    walk_at "gg"
    refine g_ixDS htr ed ?_
    walk_at "gg"
    exact ⟨d, t, rfl, hd, lt, q⟩
def sp_History_origins (T : Txt K mg) : Sp := fun vs H Q E => ∃ (A : HA) (rows : List URow) (ts os : List (Str × Tr)) (z : Str), vs = [.ref A.h, .str z] ∧ HisAt T H A rows ts os ∧ (∀ t, getL os z = some t → t.length ≤ 60 ∧ ∀ d (B : Bt) H', Has H ((d, .dK (bK B)) :: bO B) H' → bA B = t → Q (.ref d) H') ∧ (kn rows z = false → lost_nm T.C_Unknown H E z)
theorem sp_History_origins_len {T : Txt K mg} {vs H Q E} (h : sp_History_origins T vs H Q E) : vs.length = 2 := by
  obtain ⟨_, _, _, _, _, rfl, _⟩ := h
  rfl
theorem ok_History_origins (T : Txt K mg) : FnOk P w K mg base (L2N.CX P w) 4 T.f_History_origins T.fd_History_origins ["self", "name"] (sp_History_origins T) := by
  refine Fun.okN T.F_History_origins sc_History_origins (fun vs H Q E h => sp_History_origins_len h) (fun cdv A outer s H vs Q E hr h => ?_)
  refine ⟨_, (pss_cons (ps_expr (pe_methW (pv 0) T.cl_History T.M_History__check_known (ok_History__check_known T) (hr.mono (by decide)) T.b_History__check_known (fun σ => L2N.passAt (L2N.takes_of rfl rfl rfl rfl) σ) (pa_cons (pv 1) pa_nil)))
      (pss_one (ps_ret (pe_call (ok_copy_of T) (hr.mono (by decide)) (by rfl) T.g_copy_of T.F_copy_of.kp T.b_copy_of .nil pass0 (pa_cons (pe_ix (ix_K K (hu_of hr)) (k_fld K (pe_fld (pv 0) rfl)) (pv 1) (fun _ _ => rfl)) pa_nil))))), ?_⟩
  obtain ⟨A, rows, ts, os, z, rfl, h, q, qe⟩ := h
  refine g_start (σ' := [some (.ref A.h), some (.str z)]) rfl ?_
  obtain ⟨ok, hog, tl⟩ := h.og
  walk_at "gg"
  refine g_kmeth h.i rfl ?_
  walk_at "gg"
  refine ⟨A, rows, ts, os, z, rfl, h, fun k => ?_, qe⟩
  cases e : getL os z with
  | none =>
    have := h.knO z
    rw [e, k] at this
    cases this
  | some t =>
    obtain ⟨lt, q⟩ := q t e
    obtain ⟨d, ed, hd⟩ := (tl.get z).1 t e
    walk_at "gg"
    refine g_kfld h.i T.cl_History T.nA_History__origins rfl ?_
    walk_at "gg"
    refine g_ixDS hog ed ?_
    walk_at "gg"
    exact ⟨d, t, rfl, hd, lt, q⟩
end
end
section
theorem Has.weak {F Fm H : Hp} {O : Own} (h : Has Fm O H) (s : Same F Fm) : Has F O H := ⟨fun b u e => h.same b u (s b u e), fun q hq => ⟨s.free (h.own q hq).1, (h.own q hq).2⟩, h.nd⟩
section
variable {P : Program} {w : World} {K : PySem.W.Frag} {mg : Str → Option Value} {base : Heap}
structure HisF (F : Hp) (nl : Addr) (kvs tk ok : List (Key × V)) (rows : List URow) (ts os : List (Str × Tr)) : Prop where
  ord : OrdOk F nl kvs rows
  tr : TL F tk ts
  og : TL F ok os
  nt : List.Perm (ts.map (·.1)) (rows.map (·.1))
  no : List.Perm (os.map (·.1)) (rows.map (·.1))
theorem HisF.mono {F F' : Hp} {nl : Addr} {kvs tk ok : List (Key × V)} {rows : List URow} {ts os : List (Str × Tr)} (h : HisF F nl kvs tk ok rows ts os) (s : Same F F') : HisF F' nl kvs tk ok rows ts os := ⟨h.ord.mono s, h.tr.mono s, h.og.mono s, h.nt, h.no⟩
theorem HisF.at {T : Txt K mg} {A : HA} {F H : Hp} {R : Own} {nl : Addr} {kvs tk ok : List (Key × V)} {rows : List URow} {ts os : List (Str × Tr)} (f : HisF F nl kvs tk ok rows ts os) (h : Has F (HisO T A nl kvs tk ok ++ R) H) : HisAt T H A rows ts os := by
  have f' := f.mono h.same
  have g : ∀ {p : Addr} {o : HO}, (p, o) ∈ HisO T A nl kvs tk ok → H p = some o := fun m => h.get (List.mem_append_left _ m)
  exact ⟨g (by unfold HisO; walk_at "m"), ⟨A.ox, A.od, nl, kvs, ⟨g (by unfold HisO OrdO; walk_at "m"), g (by unfold HisO OrdO; walk_at "m")⟩, f'.ord⟩, ⟨tk, g (by unfold HisO; walk_at "m"), f'.tr⟩, ⟨ok, g (by unfold HisO; walk_at "m"), f'.og⟩, f.nt, f.no⟩
theorem hisO_perm {T : Txt K mg} {A : HA} {nl : Addr} {kvs tk ok : List (Key × V)} : HisO T A nl kvs tk ok = [(A.h, .ins T.C_History A.x (hs_ A.o A.tr A.og A.tu)), (A.x, .own A.h), (A.tr, .dK tk), (A.og, .dK ok)] ++ OrdO T A.o A.ox A.od nl kvs := rfl
def sp_History__put (T : Txt K mg) : Sp := fun vs H Q _ => ∃ (A : HA) (F : Hp) (nl l d e : Addr) (kvs tk ok : List (Key × V)) (rows : List URow) (ts os : List (Str × Tr)) (z : Str) (ps : List Str) (t o : Tr), vs = [.ref A.h, .str z, .ref l, .ref d, .ref e] ∧ Has F (HisO T A nl kvs tk ok) H ∧ HisF F nl kvs tk ok rows ts os ∧ H l = some (.lst (ps.map V.str)) ∧ TrAt F d t ∧ TrAt F e o ∧
  putE rows z ps = none ∧ kn rows z = false ∧ z.length ≤ 10000 ∧ ps.length ≤ 200 ∧ rows.length < 60 ∧
  ∀ H' F' nl' kvs' us, ButA (HisO T A nl kvs tk ok) H H' → Grow F H F' → Has F' (HisO T A nl' kvs' (tk ++ [(kS z, .ref d)]) (ok ++ [(kS z, .ref e)])) H' → HisF F' nl' kvs' (tk ++ [(kS z, .ref d)]) (ok ++ [(kS z, .ref e)]) (rows ++ [(z, us)]) (ts ++ [(z, t)]) (os ++ [(z, o)]) → PutU rows z ps us → Q .non H'
theorem sp_History__put_len {T : Txt K mg} {vs H Q E} (h : sp_History__put T vs H Q E) : vs.length = 5 := by
  obtain ⟨_, _, _, _, _, _, _, _, _, _, _, _, _, _, _, _, rfl, _⟩ := h
  rfl
set_option maxHeartbeats 1000000 in
theorem ok_History__put (T : Txt K mg) : FnOk P w K mg base CX0 5 T.f_History__put T.fd_History__put ["self", "name", "parents", "tree", "origins"] (sp_History__put T) := by
  refine T.F_History__put.ok sc_History__put (fun vs H Q E h => sp_History__put_len h) (fun cdv A outer s H vs Q E hr h => ?_)
  refine ⟨_, (pss_cons (ps_expr (pe_methW (k_fld K (pe_fld (pv 0) rfl)) T.cl_Order T.M_Order_put (ok_Order_put T) (hr.mono (by decide)) T.b_Order_put passNS (pa_cons (pv 1) (pa_cons (pv 2) pa_nil))))
      (pss_cons (ps_asg (pv 3) (pg_sub (k_fld K (pe_fld (pv 0) rfl)) (pv 1) (set_any (hu_of hr))))
      (pss_one (ps_asg (pv 4) (pg_sub (k_fld K (pe_fld (pv 0) rfl)) (pv 1) (set_any (hu_of hr))))))), ?_⟩
  obtain ⟨A, F, nl, l, d, e, kvs, tk, ok, rows, ts, os, z, ps, t, o, rfl, h, f, hl, ht, ho, pe, nk, lz, lp, few, q⟩ := h
  refine g_start (σ' := [some (.ref A.h), some (.str z), some (.ref l), some (.ref d), some (.ref e)]) rfl ?_
  have hi : H A.h = some (.ins T.C_History A.x (hs_ A.o A.tr A.og A.tu)) := h.get (by unfold HisO; walk_at "m")
  have nt : valV tk (.inr z) = none := by
    have := f.tr.has z
    cases c : valV tk (.inr z) with
    | none => rfl
    | some v =>
      rw [c] at this
      have m := getL_mem.mp this.symm
      rw [f.nt.mem_iff, ← knM, nk] at m
      cases m
  have no : valV ok (.inr z) = none := by
    have := f.og.has z
    cases c : valV ok (.inr z) with
    | none => rfl
    | some v =>
      rw [c] at this
      have m := getL_mem.mp this.symm
      rw [f.no.mem_iff, ← knM, nk] at m
      cases m
  have lr := f.ord.few
  have ltk : tk.length ≤ 60 := by
    rw [f.tr.len]
    have := f.nt.length_eq
    rw [List.length_map, List.length_map] at this
    omega
  have lok : ok.length ≤ 60 := by
    rw [f.og.len]
    have := f.no.length_eq
    rw [List.length_map, List.length_map] at this
    omega
  walk_at "gg"
  refine g_kfld hi T.cl_History T.nA_History__order rfl ?_
  walk_at "gg"
  refine g_kmeth (h.get (a := A.o) (by unfold HisO OrdO; walk_at "m")) rfl ?_
  walk_at "gg"
  have hp : Has F (OrdO T A.o A.ox A.od nl kvs ++ [(A.h, .ins T.C_History A.x (hs_ A.o A.tr A.og A.tu)), (A.x, .own A.h), (A.tr, .dK tk), (A.og, .dK ok)]) H := h.perm List.perm_append_comm
  refine ⟨A.o, A.ox, A.od, nl, l, F, kvs, rows, z, ps, rfl, hp.sub (List.sublist_append_left _ _), f.ord, hl, lz, lp, few, fun _ H1 F1 nl' kvs' us b1 g1 h1 ok1 pu => ?_, (fun y c => by rw [pe] at c; cases c), (fun y c => by rw [pe] at c; cases c), (fun y c => by rw [pe] at c; cases c), fun y c => by rw [pe] at c; cases c⟩
  have h1 := Has.grownA (A := OrdO T A.o A.ox A.od nl kvs) hp b1 g1 h1 ordO_addr
  have h1 : Has F1 (HisO T A nl' kvs' tk ok) H1 := by
    rw [hisO_perm]
    exact h1.perm List.perm_append_comm
  have hm := h1.re
  have sm := h1.reF
  walk_at "gg"
  refine g_kfld (h1.get (a := A.h) (by unfold HisO; walk_at "m")) T.cl_History T.nA_History__trees rfl ?_
  walk_at "gg"
  refine g_stD (k := .inr z) rfl hm (.tl (.tl .hd)) (szl (by omega)) (fun H2 h2 => ?_)
  rw [putK_new _ nt] at h2
  walk_at "gg"
  refine g_kfld (h2.get (a := A.h) (by walk_at "m")) T.cl_History T.nA_History__origins rfl ?_
  walk_at "gg"
  refine g_stD (k := .inr z) rfl h2 (.tl (.tl (.tl .hd))) (szl (by omega)) (fun H3 h3 => ?_)
  rw [putK_new _ no] at h3
  have h3 : Has (rmO (HisO T A nl' kvs' tk ok) H1) (HisO T A nl' kvs' (tk ++ [(kS z, .ref d)]) (ok ++ [(kS z, .ref e)])) H3 := h3
  refine q H3 F1 nl' kvs' us (fun b u nb eb => h3.same _ _ ?_) g1 (Has.weak h3 sm) ⟨ok1, (f.tr.mono g1.1).snoc (ht.up g1.1), (f.og.mono g1.1).snoc (ho.up g1.1), ?_, ?_⟩ pu
  · unfold rmO
    rw [if_neg (by simpa [HisO, OrdO] using nb)]
    exact b1 b u (by
      intro m
      refine nb ?_
      simp only [HisO, OrdO, List.map_cons, List.map_nil, List.mem_cons, List.not_mem_nil, or_false] at m ⊢
      rcases m with m | m | m <;> simp [m]) eb
  · rw [List.map_append, List.map_append]
    exact f.nt.append_right _
  · rw [List.map_append, List.map_append]
    exact f.no.append_right _
end
end
section
section
variable {P : Program} {w : World} {K : PySem.W.Frag} {mg : Str → Option Value} {base : Heap}
def sp_History_names (T : Txt K mg) : Sp := fun vs H Q _ => ∃ (A : HA) (rows : List URow) (ts os : List (Str × Tr)), vs = [.ref A.h] ∧ HisAt T H A rows ts os ∧ ∀ p H' ns, Same H H' → H p = none → H' p = some (.lst (ns.map V.str)) → Asc ns → (∀ z, z ∈ ns ↔ z ∈ rows.map (·.1)) → Q (.ref p) H'
theorem sp_History_names_len {T : Txt K mg} {vs H Q E} (h : sp_History_names T vs H Q E) : vs.length = 1 := by
  obtain ⟨_, _, _, _, rfl, _⟩ := h
  rfl
theorem ok_History_names (T : Txt K mg) : FnOk P w K mg base CX0 2 T.f_History_names T.fd_History_names ["self"] (sp_History_names T) := by
  refine T.F_History_names.ok sc_History_names (fun vs H Q E h => sp_History_names_len h) (fun cdv A outer s H vs Q E hr h => ?_)
  refine ⟨_, (pss_one (ps_ret (pe_methW0 (k_fld K (pe_fld (pv 0) rfl)) T.cl_Order T.M_Order_names (ok_Order_names T) (hr.mono (by decide)) T.b_Order_names (pass0S (E := fun _ => E0))))), ?_⟩
  obtain ⟨A, rows, ts, os, rfl, h, q⟩ := h
  refine g_start (σ' := [some (.ref A.h)]) rfl ?_
  obtain ⟨odx, od, onl, okvs, oat, ook⟩ := h.ord.ex
  walk_at "gg"
  refine g_kfld h.i T.cl_History T.nA_History__order rfl ?_
  walk_at "gg"
  refine g_kmeth oat.i rfl ?_
  walk_at "gg"
  exact ⟨A.o, rows, rfl, h.ord, q⟩
def sp_History_is_under (T : Txt K mg) : Sp := fun vs H Q E => ∃ (A : HA) (rows : List URow) (ts os : List (Str × Tr)) (x y : Str), vs = [.ref A.h, .str x, .str y] ∧ HisAt T H A rows ts os ∧
  (∀ u v, undr rows x = some u → undr rows y = some v → Q (.bl (decide (x ∈ v))) H) ∧ (undr rows x = none → lost_nm T.C_Unknown H E x) ∧ (∀ u, undr rows x = some u → undr rows y = none → lost_nm T.C_Unknown H E y)
theorem sp_History_is_under_len {T : Txt K mg} {vs H Q E} (h : sp_History_is_under T vs H Q E) : vs.length = 3 := by
  obtain ⟨_, _, _, _, _, _, rfl, _⟩ := h
  rfl
theorem ok_History_is_under (T : Txt K mg) : FnOk P w K mg base (L2N.CX P w) 4 T.f_History_is_under T.fd_History_is_under ["self", "low", "high"] (sp_History_is_under T) := by
  refine Fun.okN T.F_History_is_under sc_History_is_under (fun vs H Q E h => sp_History_is_under_len h) (fun cdv A outer s H vs Q E hr h => ?_)
  refine ⟨_, (pss_one (ps_ret (pe_methW (k_fld K (pe_fld (pv 0) rfl)) T.cl_Order T.M_Order_is_under (ok_Order_is_under T) (hr.mono (by decide)) T.b_Order_is_under (fun σ => L2N.passAt (L2N.takes_of rfl rfl rfl rfl) σ) (pa_cons (pv 1) (pa_cons (pv 2) pa_nil))))), ?_⟩
  obtain ⟨A, rows, ts, os, x, y, rfl, h, q, qx, qy⟩ := h
  refine g_start (σ' := [some (.ref A.h), some (.str x), some (.str y)]) rfl ?_
  obtain ⟨odx, od, onl, okvs, oat, ook⟩ := h.ord.ex
  walk_at "gg"
  refine g_kfld h.i T.cl_History T.nA_History__order rfl ?_
  walk_at "gg"
  refine g_kmeth oat.i rfl ?_
  walk_at "gg"
  exact ⟨A.o, rows, x, y, rfl, h.ord, q, qx, qy⟩
end
/-- what a history's versions are: origins in the shape of the trees -/
structure VsOk (ts os : List (Str × Tr)) : Prop where
  keys : ts.map (·.1) = os.map (·.1)
  shape : ∀ (z : Str) (t o : Tr), getL ts z = some t → getL os z = some o → o.map (·.1) = t.map (·.1) ∧ (t.map (·.1)).Nodup ∧ ∀ (p : Str) (x y : Tx), getT t p = some x → getT o p = some y → EldOk (x, y)
/-- the elders of a path: of the parents that have it, in their order -/
def eldsOf (ts os : List (Str × Tr)) (ps : List Str) (p : Str) : List (Tx × Tx) := ps.filterMap fun q => match getL ts q, getL os q with
  | some t, some o => (match getT t p, getT o p with
    | some x, some y => some (x, y)
    | _, _ => none)
  | _, _ => none
/-- the origins of a new version -/
def orgOf (ts os : List (Str × Tr)) (nm : Str) (ps : List Str) (t : Tr) : Tr := t.map fun p => (p.1, orig nm p.2 (eldsOf ts os ps p.1))
theorem orgOf_keys (ts os : List (Str × Tr)) (nm : Str) (ps : List Str) (t : Tr) : (orgOf ts os nm ps t).map (·.1) = t.map (·.1) := by
  unfold orgOf
  rw [List.map_map]
  rfl
end
section
local macro_rules | `(tactic| walk_at "g") => `(tactic| first
  | (with_reducible refine g_dcL ?_)
  | (with_reducible refine g_dcT ?_)
  | (with_reducible refine g_m1s ?_)
  | (with_reducible refine g_km1s ?_)
  | (with_reducible refine g_starts ?_)
  | (with_reducible refine g_tryX ?_)
  | (with_reducible refine g_lcS ?_))
/-- what is new stands still from now on -/
theorem Has.frzN : ∀ {N : Own} {F : Hp} {O : Own} {H : Hp}, Has F (N ++ O) H → ∃ F', Same F F' ∧ Has F' O H ∧ ∀ p ∈ N, F' p.1 = some p.2
  | [], F, _, _, h => ⟨F, Same.refl _, h, fun p hp => (by cases hp)⟩
  | (p, o) :: N, F, O, H, h => by
    have h : Has F ((p, o) :: (N ++ O)) H := h
    have g := h.grow
    obtain ⟨F', s, h', all⟩ := Has.frzN (N := N) h.frz
    refine ⟨F', g.trans s, h', fun q hq => ?_⟩
    rcases List.mem_cons.mp hq with rfl | hq
    · exact s _ _ upd_same
    · exact all q hq
/-- the parent has the path -/
def hasP (ts : List (Str × Tr)) (p q : Str) : Bool := match getL ts q with
  | some u => (getT u p).isSome
  | none => false
/-- what it has there -/
def eldP (ts os : List (Str × Tr)) (p q : Str) : Option (Tx × Tx) := match getL ts q, getL os q with
  | some t, some o => (match getT t p, getT o p with
    | some x, some y => some (x, y)
    | _, _ => none)
  | _, _ => none
theorem eldsOf_eq (ts os : List (Str × Tr)) (ps : List Str) (p : Str) : eldsOf ts os ps p = ps.filterMap (eldP ts os p) := rfl
theorem elds_has {ts os : List (Str × Tr)} {p : Str} (h : ∀ q, hasP ts p q = false → eldP ts os p q = none) : ∀ ps : List Str, (ps.filter (hasP ts p)).filterMap (eldP ts os p) = ps.filterMap (eldP ts os p)
  | [] => rfl
  | q :: r => by
    cases c : hasP ts p q with
    | true => rw [List.filter_cons_of_pos c, List.filterMap_cons, List.filterMap_cons, elds_has h r]
    | false => rw [List.filter_cons_of_neg (by rw [c]; exact fun h => by cases h), elds_has h r, List.filterMap_cons, h q c]
section
variable {P : Program} {w : World} {K : PySem.W.Frag} {mg : Str → Option Value} {base : Heap}
def sp_History__grow (T : Txt K mg) : Sp := fun vs H Q _ => ∃ (A : HA) (F : Hp) (nl l d : Addr) (kvs tk ok : List (Key × V)) (rows : List URow) (ts os : List (Str × Tr)) (z : Str) (ps : List Str) (t : Tr), vs = [.ref A.h, .str z, .ref l, .ref d] ∧ Has F (HisO T A nl kvs tk ok) H ∧ HisF F nl kvs tk ok rows ts os ∧ VsOk ts os ∧ F l = some (.lst (ps.map V.str)) ∧ TrAt F d t ∧
  t.length ≤ 60 ∧ (∀ p ∈ t, p.2.length ≤ 50) ∧ (∀ q ∈ ps, kn rows q = true) ∧ putE rows z ps = none ∧ kn rows z = false ∧ z.length ≤ 10000 ∧ ps.length ≤ 50 ∧ rows.length < 60 ∧
  ∀ H' F' nl' kvs' us e, ButA (HisO T A nl kvs tk ok) H H' → Grow F H F' → Has F' (HisO T A nl' kvs' (tk ++ [(kS z, .ref d)]) (ok ++ [(kS z, .ref e)])) H' → HisF F' nl' kvs' (tk ++ [(kS z, .ref d)]) (ok ++ [(kS z, .ref e)]) (rows ++ [(z, us)]) (ts ++ [(z, t)]) (os ++ [(z, orgOf ts os z ps t)]) → PutU rows z ps us → Q .non H'
theorem sp_History__grow_len {T : Txt K mg} {vs H Q E} (h : sp_History__grow T vs H Q E) : vs.length = 4 := by
  obtain ⟨_, _, _, _, _, _, _, _, _, _, _, _, _, _, rfl, _⟩ := h
  rfl
set_option maxHeartbeats 2000000 in
theorem ok_History__grow (T : Txt K mg) : FnOk P w K mg base CX0 6 T.f_History__grow T.fd_History__grow ["self", "name", "parents", "tree"] (sp_History__grow T) := by
  refine T.F_History__grow.ok sc_History__grow (fun vs H Q E h => sp_History__grow_len h) (fun cdv A outer s H vs Q E hr h => ?_)
  refine ⟨_, (pss_cons (ps_set (i := 4) sc_History__grow.nd rfl (.inl rfl) pe_dnewK)
      (pss_cons (ps_lock (ps_for PassesOwn.never rfl (pi_items (pv 3)) (k_gt K (pg_tup (by rfl) (pgs_cons (pg_name (i := 5) sc_History__grow.nd rfl (.inr rfl)) (pgs_cons (pg_name (i := 6) sc_History__grow.nd rfl (.inl rfl)) pgs_nil)))) (pss_cons (ps_setLc (i := 7) (own := [("parent", 9)]) (g := gName 9) rfl sc_History__grow.nd rfl rfl (sw_true rfl rfl rfl (by decide +kernel)) (k_il K (pi_list (pv 2))) (blkOk_by (N := n_History__grow) (sc := defScope s_History__grow) (by decide +kernel)) (fun _ _ _ _ _ => (pg_name (i := 9) sc_History__grow.nd rfl (.inl rfl))) (fun _ _ _ _ _ => (pts_one (pt_cmpR (op_inM K P w hr.units (u65 hr)) (pv 5) (pe_ix (ix_K K (hu_of hr)) (k_fld K (pe_fld (pv 0) rfl)) (pv 9) (fun _ _ => rfl)) (by rfl)))) (fun _ _ _ _ _ => (pv 9)))
      (pss_cons (ps_setLc (i := 8) (own := [("parent", 9)]) (g := gName 9) (tt := tYes) rfl sc_History__grow.nd rfl rfl (sw_true rfl rfl rfl (by decide +kernel)) (k_il K (pi_list (pv 7))) (blkOk_by (N := n_History__grow) (sc := defScope s_History__grow) (by decide +kernel)) (fun _ _ _ _ _ => (pg_name (i := 9) sc_History__grow.nd rfl (.inl rfl))) (fun _ _ _ _ _ => pts_nil) (fun _ _ _ _ _ => (pe_tup (pa_cons (pe_ix (ix_K K (hu_of hr)) (pe_ix (ix_K K (hu_of hr)) (k_fld K (pe_fld (pv 0) rfl)) (pv 9) (fun _ _ => rfl)) (pv 5) (fun _ _ => rfl)) (pa_cons (pe_ix (ix_K K (hu_of hr)) (pe_ix (ix_K K (hu_of hr)) (k_fld K (pe_fld (pv 0) rfl)) (pv 9) (fun _ _ => rfl)) (pv 5) (fun _ _ => rfl)) pa_nil)))))
      (pss_one (ps_asg (pe_call (ok_line_origins T) (hr.mono (by decide)) (by rfl) T.g_line_origins T.F_line_origins.kp T.b_line_origins .nil pass0 (pa_cons (pv 1) (pa_cons (pv 6) (pa_cons (pv 8) pa_nil)))) (pg_sub (pv 4) (pv 5) (set_any (hu_of hr)))))))))
      (pss_one (ps_expr (pe_methW (pv 0) T.cl_History T.M_History__put (ok_History__put T) (hr.mono (by decide)) T.b_History__put (pass0S (E := fun _ => E0)) (pa_cons (pv 1) (pa_cons (pv 2) (pa_cons (pv 3) (pa_cons (pv 4) pa_nil))))))))), ?_⟩
  obtain ⟨A, F, nl, l, d, kvs, tk, ok, rows, ts, os, z, ps, t, rfl, h, f, vok, hl, ht, lt, ltx, kps, pe, nk, lz, lp, few, q⟩ := h
  refine g_start (σ' := [some (.ref A.h), some (.str z), some (.ref l), some (.ref d), none, none, none, none, none, none]) rfl ?_
  obtain ⟨dk, hd, ekd, ndd, dqd⟩ := ht
  have ldk : dk.length = t.length := by have := congrArg List.length ekd; rwa [List.length_map, List.length_map] at this
  -- all that is owned stays; what is new lies on it
  have hr := h.re
  have sr := h.reF
  walk_at "gg"
  refine g_dnewK hr (fun e H1 n1 h1 => ?_)
  walk_at "gg"
  refine k_forItK rfl (sr _ _ hd) h1 (fun j σ O => ∃ (B : Bt) (y5 y6 y7 y8 : Option V), σ = [some (.ref A.h), some (.str z), some (.ref l), some (.ref d), some (.ref e), y5, y6, y7, y8, none] ∧ O = (e, .dK (bK B)) :: (bO B ++ HisO T A nl kvs tk ok) ∧ bA B = (orgOf ts os z ps t).take j) ⟨[], _, _, _, _, rfl, rfl, rfl⟩ ?_ ?_
  · rintro j k v p σ O H2 od ekv ⟨B, y5, y6, y7, y8, rfl, rfl, eB⟩ hh
    obtain ⟨pr, ep, rfl⟩ := tr_key ekd ekv
    have lt_ := (List.getElem?_eq_some_iff.mp ep).1
    have hdF := sr _ _ hd
    have hlF := sr _ _ hl
    have ned : l ≠ d := fun c => by rw [c, hd] at hl; cases hl
    have hl2 : H2 l = some (.lst (ps.map V.str)) := hh.same _ _ (by rw [upd_ne ned]; exact hlF)
    obtain ⟨d', hd', dv⟩ := dqd.get (show (dk.map (·.2))[j]? = some v by rw [List.getElem?_map, ekv]; rfl)
    rw [List.getElem?_map, ep] at hd'
    injection hd' with hd'
    subst hd'
    obtain ⟨x, rfl, hx⟩ := Dq.of_strs (xs := pr.2) dv
    have nex : x ≠ d := fun c => by rw [c, hd] at hx; cases hx
    have hx2 : H2 x = some (.lst (pr.2.map V.str)) := hh.same _ _ (by rw [upd_ne nex]; exact sr _ _ hx)
    have par : ∀ q ∈ ps, ∃ (u o : Tr), getL ts q = some u ∧ getL os q = some o := fun q hq => by
      have k := kps q hq
      have m1 : q ∈ ts.map (·.1) := f.nt.mem_iff.mpr (knM.mp k)
      have m2 : q ∈ os.map (·.1) := f.no.mem_iff.mpr (knM.mp k)
      obtain ⟨u, eu⟩ := Option.isSome_iff_exists.mp (getL_mem.mpr m1)
      obtain ⟨o, eo⟩ := Option.isSome_iff_exists.mp (getL_mem.mpr m2)
      exact ⟨u, o, eu, eo⟩
    have rdT : ∀ {X : Addr} {u : Tr} {F2 : Hp} {O2 : Own} {H3 : Hp}, TrAt F X u → Same (upd (rmO (HisO T A nl kvs tk ok) H) d (.frz od (.dK dk))) F2 → Has F2 O2 H3 → RT H3 X u := fun hX s2 h3 => ((RT.lock (od := od) hdF (hX.up sr).rt).up s2).up h3.same
    -- having
    walk_at "gg"
    refine k_lcL hl2 hh (fun i acc F' O' => acc = ((ps.take i).filter (hasP ts pr.1)).map V.str ∧ F' = upd (rmO (HisO T A nl kvs tk ok) H) d (.frz od (.dK dk)) ∧ O' = (p, .tup [kV (Sum.inr pr.1), V.ref x]) :: (e, .dK (bK B)) :: (bO B ++ HisO T A nl kvs tk ok)) ⟨rfl, rfl, rfl⟩ ?_ ?_ ?_
    · rintro i acc F' O' H3 ⟨_, rfl, rfl⟩ h3
      exact h3.same _ _ (by rw [upd_ne ned]; exact hlF)
    · rintro i v acc F' O' D H3 hv ⟨rfl, rfl, rfl⟩ h3
      obtain ⟨y, hy, rfl⟩ := str_at hv
      obtain ⟨u, o, eu, eo⟩ := par y (List.mem_of_getElem? hy)
      obtain ⟨X, eX, hX⟩ := (f.tr.get y).1 u eu
      obtain ⟨kv2, rd, ek2, _, dq2⟩ := rdT hX (Same.refl _) h3
      have gA : ∀ {b : Addr} {o : HO}, (b, o) ∈ HisO T A nl kvs tk ok → H3 b = some o := fun m => h3.get (List.mem_cons_of_mem _ (List.mem_cons_of_mem _ (List.mem_cons_of_mem _ (List.mem_append_right _ m))))
      walk_at "gg"
      refine g_kfld (gA (by unfold HisO; walk_at "m")) T.cl_History T.nA_History__trees rfl ?_
      walk_at "gg"
      refine g_ixDS (gA (by unfold HisO; walk_at "m")) eX ?_
      refine g_inM (g_inSR rd ?_)
      rw [(tr_get pr.1 ek2 dq2).2]
      walk_at "gg"
      have hy1 : hasP ts pr.1 y = (getT u pr.1).isSome := by unfold hasP; rw [eu]
      have st : (ps.take (i + 1)).filter (hasP ts pr.1) = (ps.take i).filter (hasP ts pr.1) ++ [y].filter (hasP ts pr.1) := by
        rw [List.take_add_one, hy, List.filter_append]
        rfl
      cases c : (getT u pr.1).isSome with
      | true =>
        walk_at "gg"
        refine k_turn h3 ?_ ⟨?_, rfl, rfl⟩
        · rw [List.length_map]
          have := List.length_filter_le (hasP ts pr.1) (ps.take i)
          rw [List.length_take] at this
          omega
        · rw [st, List.map_append, List.filter_cons_of_pos (by rw [hy1]; exact c)]
          rfl
      | false =>
        walk_at "gg"
        refine k_skip h3 ⟨?_, rfl, rfl⟩
        rw [st, List.filter_cons_of_neg (by rw [hy1, c]; exact fun h => by cases h), List.filter_nil, List.append_nil]
    rintro acc F' O' hv H3 ⟨rfl, rfl, rfl⟩ h3
    rw [List.length_map, List.take_length] at h3
    have lhs := List.length_filter_le (hasP ts pr.1) ps
    have inh : ∀ q ∈ ps.filter (hasP ts pr.1), q ∈ ps ∧ hasP ts pr.1 q = true := fun q hq => List.mem_filter.mp hq
    have eh : eldsOf ts os ps pr.1 = (ps.filter (hasP ts pr.1)).filterMap (eldP ts os pr.1) := by
      rw [eldsOf_eq, elds_has]
      intro q hq
      unfold hasP at hq
      unfold eldP
      cases c : getL ts q with
      | none => rfl
      | some u =>
        rw [c] at hq
        have hq : (getT u pr.1).isSome = false := hq
        cases c2 : getL os q with
        | none => rfl
        | some o =>
          cases c3 : getT u pr.1 with
          | none => simp only [c3]
          | some x => rw [c3] at hq; cases hq
    generalize ps.filter (hasP ts pr.1) = hsl at h3 lhs inh eh
    -- elders
    walk_at "gg"
    refine k_lcL (h3.get (List.Mem.head _)) h3 (fun i acc F' O' => Same (upd (rmO (HisO T A nl kvs tk ok) H) d (.frz od (.dK dk))) F' ∧ DqAll F' acc (((hsl.take i).filterMap (eldP ts os pr.1)).map eld) ∧ acc.length = i ∧ O' = (hv, .lst (hsl.map V.str)) :: (p, .tup [kV (Sum.inr pr.1), V.ref x]) :: (e, .dK (bK B)) :: (bO B ++ HisO T A nl kvs tk ok)) ⟨Same.refl _, .nil, rfl, rfl⟩ ?_ ?_ ?_
    · rintro i acc F' O' H4 ⟨_, _, _, rfl⟩ h4
      exact h4.get (List.Mem.head _)
    · rintro i v acc F' O' D H4 hv4 ⟨sF, dq, la, rfl⟩ h4
      obtain ⟨y, hy, rfl⟩ := str_at hv4
      have li := (List.getElem?_eq_some_iff.mp hy).1
      obtain ⟨my, py⟩ := inh y (List.mem_of_getElem? hy)
      obtain ⟨u, o, eu, eo⟩ := par y my
      obtain ⟨X, eX, hX⟩ := (f.tr.get y).1 u eu
      obtain ⟨Y, eY, hY⟩ := (f.og.get y).1 o eo
      obtain ⟨shk, shn, sho⟩ := vok.shape y u o eu eo
      have gu : ∃ x1, getT u pr.1 = some x1 := by
        have : (getT u pr.1).isSome = true := by unfold hasP at py; rw [eu] at py; exact py
        exact Option.isSome_iff_exists.mp this
      obtain ⟨x1, ex1⟩ := gu
      have go : ∃ y1, getT o pr.1 = some y1 := by
        cases c : getT o pr.1 with
        | some y1 => exact ⟨y1, rfl⟩
        | none =>
          have n1 := getT_none.mp c
          rw [shk] at n1
          have n2 := getT_none.mpr n1
          rw [ex1] at n2
          cases n2
      obtain ⟨y1, ey1⟩ := go
      have rdF : ∀ {X : Addr} {u : Tr}, TrAt F X u → RT F' X u := fun hX => (RT.lock (od := od) hdF (hX.up sr).rt).up sF
      have rdU : ∀ {X : Addr} {o : HO}, Rd F' X o → Rd H4 X o := fun r => r.elim (fun e => .inl (h4.same _ _ e)) (fun ⟨o, e⟩ => .inr ⟨o, h4.same _ _ e⟩)
      obtain ⟨kv2, rd, ek2, _, dq2⟩ := rdF hX
      obtain ⟨kv3, rd3, ek3, _, dq3⟩ := rdF hY
      have rd := rdU rd
      have rd3 := rdU rd3
      obtain ⟨lx, vx, hlx⟩ := tr_at ek2 dq2 ex1
      obtain ⟨ly, vy, hly⟩ := tr_at ek3 dq3 ey1
      have gA : ∀ {b : Addr} {o : HO}, (b, o) ∈ HisO T A nl kvs tk ok → H4 b = some o := fun m => h4.get (List.mem_cons_of_mem _ (List.mem_cons_of_mem _ (List.mem_cons_of_mem _ (List.mem_cons_of_mem _ (List.mem_append_right _ m)))))
      walk_at "gg"
      refine g_kfld (gA (by unfold HisO; walk_at "m")) T.cl_History T.nA_History__trees rfl ?_
      walk_at "gg"
      refine g_ixDS (gA (by unfold HisO; walk_at "m")) eX ?_
      walk_at "gg"
      refine g_ixDR rd vx ?_
      walk_at "gg"
      refine g_kfld (gA (by unfold HisO; walk_at "m")) T.cl_History T.nA_History__origins rfl ?_
      walk_at "gg"
      refine g_ixDS (gA (by unfold HisO; walk_at "m")) eY ?_
      walk_at "gg"
      refine g_ixDR rd3 vy ?_
      walk_at "gg"
      refine g_ktup (by walk_at "sz") h4 (fun p5 H5 n5 h5 => ?_)
      have s5 := h5.grow
      have f5 : upd F' p5 (.tup [.ref lx, .ref ly]) p5 = some (.tup [.ref lx, .ref ly]) := upd_same
      have h5 := h5.frz
      have ee : eldP ts os pr.1 y = some (x1, y1) := by
        unfold eldP
        rw [eu, eo]
        show (match getT u pr.1, getT o pr.1 with | some x, some y => some (x, y) | _, _ => none) = _
        rw [ex1, ey1]
      refine k_turn h5 (by omega) ⟨sF.trans s5, ?_, by rw [List.length_append, la]; rfl, rfl⟩
      rw [List.take_add_one, hy, List.filterMap_append, List.map_append]
      have e1 : (Option.toList (some y)).filterMap (eldP ts os pr.1) = [(x1, y1)] := by
        show [y].filterMap (eldP ts os pr.1) = _
        rw [List.filterMap_cons, ee]
        rfl
      rw [e1]
      exact (dq.up s5 _ _).snoc (.tup f5 (.cons (Dq.strs (s5 _ _ hlx)) (.cons (Dq.strs (s5 _ _ hly)) .nil)))
    rintro acc F' O' el H5 ⟨sF, dq, la, rfl⟩ h5
    rw [List.length_map, List.take_length] at dq
    rw [List.length_map] at la
    walk_at "gg"
    have les : (hsl.filterMap (eldP ts os pr.1)).length ≤ 50 := by
      have := dq.len
      rw [List.length_map] at this
      omega
    have eok : ∀ y ∈ hsl.filterMap (eldP ts os pr.1), EldOk y := fun y hy => by
      obtain ⟨q, hq, eq⟩ := List.mem_filterMap.mp hy
      obtain ⟨u, o, eu, eo⟩ := par q (inh q hq).1
      unfold eldP at eq
      rw [eu, eo] at eq
      have eq : (match getT u pr.1, getT o pr.1 with | some x, some y => some (x, y) | _, _ => none) = some y := eq
      cases c1 : getT u pr.1 with
      | none => rw [c1] at eq; cases eq
      | some x1 =>
        cases c2 : getT o pr.1 with
        | none => rw [c1, c2] at eq; cases eq
        | some y1 =>
          rw [c1, c2] at eq
          injection eq with eq
          subst eq
          exact (vok.shape q u o eu eo).2.2 _ _ _ c1 c2
    have fx : upd (rmO (HisO T A nl kvs tk ok) H) d (.frz od (.dK dk)) x = some (.lst (pr.2.map V.str)) := by rw [upd_ne nex]; exact sr _ _ hx
    refine ⟨z, x, el, pr.2, acc, hsl.filterMap (eldP ts os pr.1), rfl, h5.same _ _ (sF _ _ fx), ltx pr (List.mem_of_getElem? ep), h5.get (List.Mem.head _), dq.up h5.same _ _, les, eok, fun pn H6 s6 n6 hpn => ?_⟩
    have h6 := Has.weak (h5.made n6 s6 hpn) sF
    have h6 := h6.sub (O' := (pn, .lst ((orig z pr.2 (hsl.filterMap (eldP ts os pr.1))).map V.str)) :: (e, .dK (bK B)) :: (bO B ++ HisO T A nl kvs tk ok)) (List.Sublist.cons_cons _ (List.Sublist.cons _ (List.Sublist.cons _ (List.Sublist.cons _ (List.Sublist.refl _)))))
    have nz : pr.1 ∉ B.map (·.1) := by
      rw [← bA_keys, eB]
      intro m
      rw [List.map_take, orgOf_keys] at m
      obtain ⟨i, hi⟩ := List.mem_iff_getElem?.mp m
      have li := (List.getElem?_eq_some_iff.mp hi).1
      rw [List.length_take] at li
      rw [List.getElem?_take_of_lt (by omega)] at hi
      have := nd_inj ndd hi (show (t.map (·.1))[j]? = some pr.1 by rw [List.getElem?_map, ep]; rfl)
      omega
    have lB : B.length ≤ j := by
      have := congrArg List.length eB
      unfold bA at this
      rw [List.length_map, List.length_take] at this
      omega
    walk_at "gg"
    refine g_stD (k := .inr pr.1) rfl h6 (.tl .hd) (szl (by unfold bK; rw [List.length_map]; omega)) (fun H7 h7 => ?_)
    rw [putK_new _ (bK_none nz)] at h7
    refine ⟨_, ⟨B ++ [(pr.1, pn, orig z pr.2 (hsl.filterMap (eldP ts os pr.1)))], _, _, _, _, rfl, rfl, ?_⟩, Has.bput h7⟩
    rw [bA_snoc, eB, List.take_add_one]
    have e2 : (orgOf ts os z ps t)[j]? = some (pr.1, orig z pr.2 (eldsOf ts os ps pr.1)) := by
      unfold orgOf
      rw [List.getElem?_map, ep]
      rfl
    rw [e2, eh]
    rfl
  · rintro σ O H2 ⟨B, y5, y6, y7, y8, rfl, rfl, eB⟩ hh
    have lo : (orgOf ts os z ps t).length = t.length := by unfold orgOf; rw [List.length_map]
    rw [ldk, ← lo, List.take_length] at eB
    have hN : Has (rmO (HisO T A nl kvs tk ok) H) (((e, .dK (bK B)) :: bO B) ++ HisO T A nl kvs tk ok) H2 := hh
    have new : ∀ p ∈ ((e, HO.dK (bK B)) :: bO B), H p.1 = none := fun p hp => by
      have o := (hN.own p (List.mem_append_left _ hp)).1
      have nd := hN.nd
      rw [List.map_append, List.nodup_append] at nd
      unfold rmO at o
      rw [if_neg (fun m => nd.2.2 p.1 (List.mem_map.mpr ⟨p, hp, rfl⟩) p.1 m rfl)] at o
      exact o
    obtain ⟨F3, s3, h3, at3⟩ := Has.frzN hN
    have gr := mix_grow h s3
    have hp := mix_has h s3 h3 (fun q hq => .inl (List.mem_map.mpr ⟨q, hq, rfl⟩))
    have keep : ∀ {b : Addr} {u : HO}, b ∉ (HisO T A nl kvs tk ok).map (·.1) → H b = some u → H2 b = some u := fun {b u} nb eb => hN.same _ _ (by unfold rmO; rw [if_neg nb]; exact eb)
    have te : TrAt (mixF F H F3) e (orgOf ts os z ps t) := by
      rw [← eB]
      refine ⟨bK B, ?_, bK_keys B, ?_, bK_dq fun b hb => ?_⟩
      · rw [mix_at (new _ List.mem_cons_self)]
        exact at3 _ List.mem_cons_self
      · rw [eB, orgOf_keys]
        exact ndd
      · have m : (b.2.1, HO.lst (b.2.2.map V.str)) ∈ ((e, HO.dK (bK B)) :: bO B) := List.mem_cons_of_mem _ (List.mem_map.mpr ⟨b, hb, rfl⟩)
        rw [mix_at (new _ m)]
        exact at3 _ m
    generalize mixF F H F3 = Fp at gr hp te
    have td : TrAt Fp d t := TrAt.up ⟨dk, hd, ekd, ndd, dqd⟩ gr.1
    walk_at "gg"
    refine g_kmeth (hp.get (a := A.h) (by unfold HisO; walk_at "m")) rfl ?_
    walk_at "gg"
    refine ⟨A, Fp, nl, l, d, e, kvs, tk, ok, rows, ts, os, z, ps, t, orgOf ts os z ps t, rfl, hp, f.mono gr.1, hp.same _ _ (gr.1 _ _ hl), td, te, pe, nk, lz, by omega, few, fun H' F' nl' kvs' us b g h' f' pu => ?_⟩
    refine q H' F' nl' kvs' us e (fun x u nx ex => b x u nx (keep nx ex)) ⟨gr.1.trans g.1, fun x nx => ?_⟩ h' f' pu
    refine (g.2 x ?_).trans (gr.2 x nx)
    by_cases m : x ∈ (HisO T A nl kvs tk ok).map (·.1)
    · obtain ⟨q, hq, rfl⟩ := List.mem_map.mp m
      rw [(hp.own q hq).2]
      exact fun c => by cases c
    · cases c : H x with
      | none => exact (nx c).elim
      | some u =>
        rw [keep m c]
        exact fun c => by cases c
end
end
section
local macro_rules | `(tactic| walk_at "g") => `(tactic| first
  | (with_reducible refine g_dcL ?_)
  | (with_reducible refine g_dcT ?_)
  | (with_reducible refine g_m1s ?_)
  | (with_reducible refine g_km1s ?_)
  | (with_reducible refine g_starts ?_)
  | (with_reducible refine g_tryX ?_)
  | (with_reducible refine g_lcS ?_))
theorem strs_sub : ∀ {xs ys : List Str}, xs.Nodup → (∀ x ∈ xs, x ∈ ys) → xs.length ≤ ys.length
  | [], _, _, _ => Nat.zero_le _
  | x :: r, ys, n, h => by
    have n := List.nodup_cons.mp n
    have hx := h x List.mem_cons_self
    have := strs_sub (ys := ys.erase x) n.2 fun z hz => (List.mem_erase_of_ne (fun e => n.1 (by rw [← e]; exact hz))).mpr (h z (List.mem_cons_of_mem _ hz))
    rw [List.length_erase_of_mem hx] at this
    have := List.length_pos_of_mem hx
    rw [List.length_cons]
    omega
theorem putE_none {rows : List URow} {x : Str} {ps : List Str} (h : isNm x = true) (k : kn rows x = false) (e : chkE (kn rows) [] ps = none) : putE rows x ps = none := by
  unfold putE
  rw [if_pos h, if_neg (by rw [k]; decide), e]
section
variable {P : Program} {w : World} {K : PySem.W.Frag} {mg : Str → Option Value} {base : Heap}
def sp_History_commit (T : Txt K mg) : Sp := fun vs H Q E => ∃ (A : HA) (F : Hp) (nl l a : Addr) (kvs tk ok : List (Key × V)) (rows : List URow) (ts os : List (Str × Tr)) (z : Str) (ps : List Str) (t : Tr) (us : List Str), vs = [.ref A.h, .str z, .ref l, .ref a] ∧ Has F (HisO T A nl kvs tk ok) H ∧ HisF F nl kvs tk ok rows ts os ∧ VsOk ts os ∧ H l = some (.lst (ps.map V.str)) ∧ TrAt H a t ∧ TrB t ∧ (∀ p ∈ t, p.2.length ≤ 50) ∧
  Asc us ∧ (∀ y, y ∈ us ↔ y ∈ t.map (·.1)) ∧ z.length ≤ 10000 ∧ ps.length ≤ 50 ∧ rows.length < 60 ∧
  (isNm z = false → lost_nm T.C_BadName H E z) ∧ (isNm z = true → kn rows z = true → lost_nm T.C_Taken H E z) ∧ (isNm z = true → kn rows z = false → (∀ y, chkE (kn rows) [] ps = some (true, y) → lost_nm T.C_Unknown H E y) ∧ (∀ y, chkE (kn rows) [] ps = some (false, y) → lost_nm T.C_Repeated H E y) ∧
    (chkE (kn rows) [] ps = none → (∀ r, badK t 0 us = some r → lost_tr T.C_BadTree H E r) ∧ (badK t 0 us = none → ∀ H' F' nl' kvs' us' d e t', AscT t' → (∀ p, p ∈ t' ↔ p ∈ t) → ButA (HisO T A nl kvs tk ok) H H' → Grow F H F' → Has F' (HisO T A nl' kvs' (tk ++ [(kS z, .ref d)]) (ok ++ [(kS z, .ref e)])) H' → HisF F' nl' kvs' (tk ++ [(kS z, .ref d)]) (ok ++ [(kS z, .ref e)]) (rows ++ [(z, us')]) (ts ++ [(z, t')]) (os ++ [(z, orgOf ts os z ps t')]) → PutU rows z ps us' → Q .non H')))
theorem sp_History_commit_len {T : Txt K mg} {vs H Q E} (h : sp_History_commit T vs H Q E) : vs.length = 4 := by
  obtain ⟨_, _, _, _, _, _, _, _, _, _, _, _, _, _, _, rfl, _⟩ := h
  rfl
set_option maxHeartbeats 2000000 in
theorem ok_History_commit (T : Txt K mg) : FnOk P w K mg base (L2.CX P w) 7 T.f_History_commit T.fd_History_commit ["self", "name", "parents", "tree"] (sp_History_commit T) := by
  refine Fun.okC T.F_History_commit sc_History_commit (fun vs H Q E h => sp_History_commit_len h) (fun cdv A outer s H vs Q E hr h => ?_)
  refine ⟨_, (pss_cons (ps_expr (pe_methW (pv 0) T.cl_History T.M_History__check_new (ok_History__check_new T) (hr.mono (by decide)) T.b_History__check_new (fun σ => passAtG (L2.takes_of rfl rfl rfl rfl) σ) (pa_cons (pv 1) pa_nil)))
      (pss_cons (ps_set (i := 4) sc_History_commit.nd rfl (.inl rfl) (pe_methW (k_fld K (pe_fld (pv 0) rfl)) T.cl_Order T.M_Order_checked (ok_Order_checked T) (hr.mono (by decide)) T.b_Order_checked (fun σ => passAtG (L2.takes_of rfl rfl rfl rfl) σ) (pa_cons (pv 2) pa_nil)))
      (pss_cons (ps_set (i := 5) sc_History_commit.nd rfl (.inl rfl) (pe_callS (ok_checked_tree T) (hr.mono (by decide)) (by rfl) T.g_checked_tree T.F_checked_tree.kp T.b_checked_tree (fun σ => L2.passAt (L2.takes_of rfl rfl rfl rfl) σ) (pa_cons (pv 3) pa_nil)))
      (pss_one (ps_expr (pe_methW (pv 0) T.cl_History T.M_History__grow (ok_History__grow T) (hr.mono (by decide)) T.b_History__grow (pass0S (E := fun _ => E0)) (pa_cons (pv 1) (pa_cons (pv 4) (pa_cons (pv 5) pa_nil))))))))), ?_⟩
  obtain ⟨A, F, nl, l, a, kvs, tk, ok, rows, ts, os, z, ps, t, us, rfl, h, f, vok, hl, ht, htb, ltx, asc, mus, lz, lp, few, qb, qt, q⟩ := h
  refine g_start (σ' := [some (.ref A.h), some (.str z), some (.ref l), some (.ref a), none, none]) rfl ?_
  have hat : HisAt T H A rows ts os := HisF.at f (R := []) (by rw [List.append_nil]; exact h)
  obtain ⟨odx, od, onl, okvs, oat, ook⟩ := hat.ord.ex
  walk_at "gg"
  refine g_kmeth hat.i rfl ?_
  walk_at "gg"
  refine ⟨A, rows, ts, os, z, rfl, hat, lz, fun nmz nk => ?_, qb, qt⟩
  obtain ⟨q1, q2, q⟩ := q nmz nk
  walk_at "gg"
  refine g_kfld hat.i T.cl_History T.nA_History__order rfl ?_
  walk_at "gg"
  refine g_kmeth oat.i rfl ?_
  walk_at "gg"
  refine ⟨A.o, l, rows, ps, rfl, hat.ord, hl, by omega, fun hc p H1 s1 n1 h1 => ?_, q1, q2⟩
  obtain ⟨qe, q⟩ := q hc
  walk_at "gg"
  refine ⟨a, t, rfl, ht.up s1, htb, fun us2 asc2 m2 => ?_⟩
  have e : us2 = us := Asc.ext asc2 asc fun y => (m2 y).trans (mus y).symm
  subst e
  refine ⟨fun hb d B H2 h2 ascB mB => ?_, fun r hr ex H' s n hx => qe r hr ex H' (s1.trans s) (s1.free n) hx⟩
  walk_at "gg"
  have hr := h.re
  have sr := h.reF
  have hp1 := hr.made n1 s1 h1
  have sp := hp1.grow
  obtain ⟨F3, s3, h3, at3⟩ := Has.join hp1.frz h2
  have sF := sp.trans s3
  have pF3 : F3 p = some (.lst (ps.map V.str)) := s3 _ _ upd_same
  have gr := mix_grow h sF
  have hm := mix_has h sF h3 (fun q hq => .inl (List.mem_map.mpr ⟨q, hq, rfl⟩))
  have new : ∀ q ∈ ((d, HO.dK (bK B)) :: bO B), H q.1 = none := fun q hq => s1.free (h2.own q hq).1
  have pFp : mixF F H F3 p = some (.lst (ps.map V.str)) := by rw [mix_at n1]; exact pF3
  have te : TrAt (mixF F H F3) d (bA B) := by
    refine ⟨bK B, ?_, bK_keys B, ascB.nd, bK_dq fun b hb => ?_⟩
    · rw [mix_at (new _ List.mem_cons_self)]
      exact at3 _ List.mem_cons_self
    · have m : (b.2.1, HO.lst (b.2.2.map V.str)) ∈ ((d, HO.dK (bK B)) :: bO B) := List.mem_cons_of_mem _ (List.mem_map.mpr ⟨b, hb, rfl⟩)
      rw [mix_at (new _ m)]
      exact at3 _ m
  have keep : ∀ {b : Addr} {u : HO}, H b = some u → H2 b = some u := fun {b u} eb => h2.same _ _ (s1 _ _ eb)
  generalize mixF F H F3 = Fp at gr hm te pFp
  have lB : (bA B).length ≤ 60 := by
    have nt : t.length ≤ 60 := htb.few
    have nd := ascB.nd
    have := strs_sub (ys := t.map (·.1)) nd (fun y hy => by
      obtain ⟨q, hq, e⟩ := List.mem_map.mp hy
      exact List.mem_map.mpr ⟨q, (mB q).mp hq, e⟩)
    rw [List.length_map, List.length_map] at this
    omega
  refine g_kmeth (hm.get (a := A.h) (by unfold HisO; walk_at "m")) rfl ?_
  walk_at "gg"
  refine ⟨A, Fp, nl, p, d, kvs, tk, ok, rows, ts, os, z, ps, bA B, rfl, hm, f.mono gr.1, vok, pFp, te, lB, (fun q hq => ltx q ((mB q).mp hq)), chkE_known hc, putE_none nmz nk hc, nk, lz, lp, few, fun H' F' nl' kvs' us' e b g h' f' pu => ?_⟩
  refine q hb H' F' nl' kvs' us' d e (bA B) ascB mB (fun x u nx ex => b x u nx (keep ex)) ⟨gr.1.trans g.1, fun x nx => ?_⟩ h' f' pu
  refine (g.2 x ?_).trans (gr.2 x nx)
  cases c : H x with
  | none => exact (nx c).elim
  | some u =>
    rw [keep c]
    exact fun c => by cases c
end
end
section
theorem chkE_nodup {kn : Str → Bool} : ∀ {xs seen : List Str}, chkE kn seen xs = none → xs.Nodup ∧ ∀ z ∈ xs, z ∉ seen
  | [], _, _ => ⟨List.nodup_nil, fun z hz => by cases hz⟩
  | x :: r, seen, h => by
    have h : (if kn x = true then if x ∈ seen then some (false, x) else chkE kn (seen ++ [x]) r else some (true, x)) = none := h
    by_cases hk : kn x = true
    · rw [if_pos hk] at h
      by_cases m : x ∈ seen
      · rw [if_pos m] at h; cases h
      · rw [if_neg m] at h
        obtain ⟨n, a⟩ := chkE_nodup h
        refine ⟨List.nodup_cons.mpr ⟨fun hx => a x hx (List.mem_append_right _ (List.mem_singleton.mpr rfl)), n⟩, fun z hz => ?_⟩
        rcases List.mem_cons.mp hz with rfl | hz
        · exact m
        · exact fun hs => a z hz (List.mem_append_left _ hs)
    · rw [if_neg hk] at h; cases h
section
variable {P : Program} {w : World} {K : PySem.W.Frag} {mg : Str → Option Value} {base : Heap}
theorem Ord.few {T : Txt K mg} {H : Hp} {a : Addr} {rows : List URow} (h : Ord T H a rows) : rows.length ≤ 60 := by
  obtain ⟨_, _, _, _, _, ok⟩ := h.ex
  exact ok.few
theorem Ord.chk_few {T : Txt K mg} {H : Hp} {a : Addr} {rows : List URow} (h : Ord T H a rows) {xs : List Str} (e : chkE (kn rows) [] xs = none) : xs.length ≤ 60 := few_in h.few (chkE_nodup e).1 fun y hy => knM.mp (chkE_known e y hy)
end
/-- the new objects alone -/
def nw (H F : Hp) : Hp := fun x => if (H x).isNone = true then F x else none
theorem nw_at {H F : Hp} {x : Addr} {o : HO} (n : H x = none) (e : F x = some o) : nw H F x = some o := by
  unfold nw
  rw [n]
  exact e
theorem nw_mono {H F F' : Hp} (s : Same F F') : Same (nw H F) (nw H F') := fun x u e => by
  unfold nw at e ⊢
  split at e
  · rename_i h
    rw [if_pos h]
    exact s x u e
  · cases e
theorem nw_same {H F : Hp} : Same (nw H F) F := fun x u e => by
  unfold nw at e
  split at e
  · exact e
  · cases e
theorem nw_old {H F : Hp} {x : Addr} {o : HO} (e : H x = some o) : nw H F x = none := by
  unfold nw
  rw [e, if_neg (fun h => by cases h)]
def rstL (rows : List URow) (xs ys : List Str) : List URow := ys.map fun z => (z, ((undr rows z).getD []).filter fun y => decide (y ∈ xs))
theorem rstL_names (rows : List URow) (xs ys : List Str) : (rstL rows xs ys).map (·.1) = ys := by
  unfold rstL
  rw [List.map_map]
  exact List.map_id' ys
theorem rstL_undr {rows : List URow} {xs : List Str} : ∀ {ys : List Str} {z : Str}, z ∈ ys → undr (rstL rows xs ys) z = some (((undr rows z).getD []).filter fun y => decide (y ∈ xs))
  | [], z, h => by cases h
  | y :: ys, z, h => by
    unfold rstL
    rw [List.map_cons, undr_cons]
    by_cases e : y = z
    · rw [if_pos e, e]
    · rw [if_neg e]
      exact rstL_undr ((List.mem_cons.mp h).resolve_left fun h => e h.symm)
section
variable {P : Program} {w : World} {K : PySem.W.Frag} {mg : Str → Option Value} {base : Heap}
def sp_restricted (T : Txt K mg) : Sp := fun vs H Q E => ∃ (a l : Addr) (rows : List URow) (xs : List Str), vs = [.ref a, .ref l] ∧ Ord T H a rows ∧ H l = some (.lst (xs.map V.str)) ∧ xs.length ≤ 200 ∧
  (chkE (kn rows) [] xs = none → ∀ p x d nl kvs H' F' ys, Same H F' → Has F' (OrdO T p x d nl kvs) H' → (∀ q ∈ OrdO T p x d nl kvs, H q.1 = none) → OrdOk (nw H F') nl kvs (rstL rows xs ys) → Asc ys → (∀ z, z ∈ ys ↔ z ∈ xs) → Q (.ref p) H') ∧
  (∀ z, chkE (kn rows) [] xs = some (true, z) → lost_nm T.C_Unknown H E z) ∧ (∀ z, chkE (kn rows) [] xs = some (false, z) → lost_nm T.C_Repeated H E z)
theorem sp_restricted_len {T : Txt K mg} {vs H Q E} (h : sp_restricted T vs H Q E) : vs.length = 2 := by
  obtain ⟨_, _, _, _, rfl, _⟩ := h
  rfl
theorem ok_restricted (T : Txt K mg) : FnOk P w K mg base (L2N.CX P w) 4 T.f_restricted T.fd_restricted ["order", "names"] (sp_restricted T) := by
  refine Fun.okN T.F_restricted sc_restricted (fun vs H Q E h => sp_restricted_len h) (fun cdv A outer s H vs Q E hr h => ?_)
  refine ⟨_, (pss_cons (ps_set (i := 2) sc_restricted.nd rfl (.inr rfl) (pe_callTy (cr_setTQ K P w rfl) (by rfl) T.m_set (by decide +kernel) (pa_cons (pe_methW (pv 0) T.cl_Order T.M_Order_checked (ok_Order_checked T) (hr.mono (by decide)) T.b_Order_checked (fun σ => L2N.passAt (L2N.takes_of rfl rfl rfl rfl) σ) (pa_cons (pv 1) pa_nil)) pa_nil)))
      (pss_cons (ps_set (i := 3) sc_restricted.nd rfl (.inl rfl) (pe_make0 T.Mk_Order (ok_Order___init__ T) (hr.mono (by decide)) (by rfl) T.g_Order T.b_Order___init__ .nil pass0))
      (pss_cons (k_sfld K (ps_fld (pv 3) (pe_callB (cr_sortN K P w rfl (cr_sortA K rfl)) (by rfl) T.m_sorted (by decide +kernel) (pa_cons (pv 2) pa_nil)) rfl))
      (pss_cons (ps_for (L2.passes_of rfl) rfl (k_il K (pi_list (pe_callB (cr_sortN K P w rfl (cr_sortA K rfl)) (by rfl) T.m_sorted (by decide +kernel) (pa_cons (pv 2) pa_nil)))) (pg_name (i := 4) sc_restricted.nd rfl (.inl rfl)) (pss_one (ps_asg (pe_lc (own := [("version", 5)]) (g := gName 5) rfl sc_restricted.nd (k_il K (pi_list (pe_methW (pv 0) T.cl_Order T.M_Order_under (ok_Order_under T) (hr.mono (by decide)) T.b_Order_under (fun σ => L2N.passAt (L2N.takes_of rfl rfl rfl rfl) σ) (pa_cons (pv 4) pa_nil)))) (blkOk_by (N := n_restricted) (sc := defScope s_restricted) (by decide +kernel)) (fun _ _ _ _ _ => (pg_name (i := 5) sc_restricted.nd rfl (.inl rfl))) (fun _ _ _ _ _ => (pts_one (pt_cmpR (op_inN K P w hr.units (u65 hr)) (pv 5) (pv 2) (by rfl)))) (fun _ _ _ _ _ => (pv 5))) (pg_sub (k_fld K (pe_fld (pv 3) rfl)) (pv 4) (set_any (hu_of hr))))))
      (pss_one (ps_ret (pv 3))))))), ?_⟩
  obtain ⟨a, l, rows, xs, rfl, ho, hl, few, q, qu, qr⟩ := h
  refine g_start (σ' := [some (.ref a), some (.ref l), none, none, none, none]) rfl ?_
  obtain ⟨dx, d, nl, kvs, at_, ok⟩ := ho.ex
  walk_at "gg"
  refine g_kmeth at_.i rfl ?_
  walk_at "gg"
  refine ⟨a, l, rows, xs, rfl, ho, hl, few, fun hc p0 H1 s1 n1 h1 => ?_, qu, qr⟩
  have lx := ho.chk_few hc
  have kx := chkE_known hc
  have ndx := (chkE_nodup hc).1
  have hH1 := Has.start H1
  walk_at "gg"
  refine g_setOfQ h1 (by omega) hH1 (fun ks n T0 H2 n2 ln eT h2 => ?_)
  walk_at "gg"
  refine g_kmake h2 (fun p x H3 n3 h3 => ?_)
  refine ⟨p, x, H1, rfl, h3.sub (List.sublist_append_left [(p, HO.ins T.C_Order x []), (x, HO.own p)] _), fun d2 nl2 H4 F4 nd4 hb4 g4 h4 fnl2 => ⟨rfl, ?_⟩⟩
  have h4 := Has.grownA (A := [(p, .ins T.C_Order x []), (x, .own p)]) (R := [(ks, SetQ P w ks T0 n)]) h3 hb4 g4 h4 (init_addr nd4)
  have sF4 : Same H F4 := s1.trans g4.1
  clear h3 hb4 g4 fnl2 h2
  have eD : ∀ z, T0 (Sum.inr z) = decide (z ∈ xs) := fun z => by
    rw [Bool.eq_iff_iff, eT, decide_eq_true_eq]
    constructor
    · rintro ⟨z', e, h⟩
      injection e with e
      rw [e]; exact h
    · exact fun h => ⟨z, rfl, h⟩
  have hI : ∀ k, T0 k = true → ∃ z, k = Sum.inr z := fun k h => by
    obtain ⟨z, e, _⟩ := (eT k).mp h
    exact ⟨z, e⟩
  walk_at "gg"
  refine g_sortNQ (h4.get (by unfold OrdO; walk_at "m")) (by omega) hI h4 (fun ys l5 H5 srt nd5 m5 ln5 n5 h5 => ?_)
  have fr5 : H l5 = none := (sF4.trans h4.same).free n5
  have ascy := asc_of srt nd5
  have my : ∀ z, z ∈ ys ↔ z ∈ xs := fun z => by rw [m5 z, eD, decide_eq_true_eq]
  have s45 := h5.grow
  have h5 := h5.frz
  have f5 : upd F4 l5 (.lst (ys.map V.str)) l5 = some (.lst (ys.map V.str)) := upd_same
  generalize upd F4 l5 (.lst (ys.map V.str)) = F5 at h5 s45 f5
  walk_at "gg"
  refine g_ksfld (fs' := of_ l5 d2) (O' := OrdO T p x d2 l5 [] ++ [(ks, SetQ P w ks T0 n)]) h5 .hd rfl T.cl_Order T.nA_Order__names (by show 2 < 1000; decide) (fun H6 h6 => ?_)
  walk_at "gg"
  refine g_sortNQ (h6.get (by unfold OrdO; walk_at "m")) (by omega) hI h6 (fun ys2 l7 H7 srt2 nd7 m7 ln7 n7 h7 => ?_)
  have ey : ys2 = ys := Asc.ext (asc_of srt2 nd7) ascy fun z => by rw [m7 z, m5 z]
  subst ey
  have s57 := h7.grow
  have h7 := h7.frz
  have f7 : upd F5 l7 (.lst (ys2.map V.str)) l7 = some (.lst (ys2.map V.str)) := upd_same
  have f5 := s57 _ _ f5
  have sF7 := (sF4.trans s45).trans s57
  generalize upd F5 l7 (.lst (ys2.map V.str)) = F7 at h7 s57 f7 f5 sF7
  have lenR : (rstL rows xs ys2).length = ys2.length := by unfold rstL; rw [List.length_map]
  walk_at "gg"
  refine k_forL (h7.same _ _ f7) (fun t σ H' => ∃ (F' : Hp) (kvs2 : List (Key × V)) (y4 y5 : Option V), σ = [some (.ref a), some (.ref l), some (.ref ks), some (.ref p), y4, y5] ∧ Same F7 F' ∧ Has F' (OrdO T p x d2 l5 kvs2 ++ [(ks, SetQ P w ks T0 n)]) H' ∧
    kvs2.map (·.1) = ((rstL rows xs ys2).take t).map (fun r => (Sum.inr r.1 : Key)) ∧ DqAll (nw H F') (kvs2.map (·.2)) (((rstL rows xs ys2).take t).map uD)) ⟨F7, [], _, _, rfl, Same.refl _, h7, rfl, .nil⟩ ?_ ?_ ?_
  · rintro t σ H' _ ⟨F', kvs2, y4, y5, rfl, sF, h8, _⟩
    exact h8.same _ _ (sF _ _ f7)
  · rintro t v σ H8 hv ⟨F8, kvs2, y4, y5, rfl, sF, h8, ek, dv⟩
    obtain ⟨z, hz, rfl⟩ := str_at hv
    have mz := (my z).mp (List.mem_of_getElem? hz)
    obtain ⟨u, hu⟩ := Option.isSome_iff_exists.mp (kx z mz)
    have sH8 : Same H H8 := (sF7.trans sF).trans h8.same
    have ho8 := ho.mono sH8
    have asc_u : Asc u := ok.asc _ (undr_mem hu)
    have lu : u.length ≤ 60 := few_in ho.few asc_u.nodup fun y hy => ok.in_names hu hy
    have eR : (rstL rows xs ys2)[t]? = some (z, u.filter fun y => decide (y ∈ xs)) := by
      unfold rstL
      rw [List.getElem?_map, hz, Option.map_some, hu]
      rfl
    walk_at "gg"
    refine g_kmeth (at_.mono sH8).i rfl ?_
    walk_at "gg"
    refine ⟨a, rows, z, rfl, ho8, fun u' hu' p9 H9 s9 n9 h9 => ?_, fun e => by rw [hu] at e; cases e⟩
    have eu : u = u' := by rw [hu] at hu'; exact Option.some.inj hu'
    subst eu
    have h9 := h8.made n9 s9 h9
    have s89 := h9.grow
    have h9 := h9.frz
    have f9 : upd F8 p9 (.lst (u.map V.str)) p9 = some (.lst (u.map V.str)) := upd_same
    generalize upd F8 p9 (.lst (u.map V.str)) = F9 at h9 s89 f9
    walk_at "gg"
    refine k_lcL (h9.same _ _ f9) h9 (fun i acc F' O' => acc = ((u.take i).filter fun y => decide (y ∈ xs)).map V.str ∧ F' = F9 ∧ O' = OrdO T p x d2 l5 kvs2 ++ [(ks, SetQ P w ks T0 n)]) ⟨rfl, rfl, rfl⟩ ?_ ?_ ?_
    · rintro i acc F' O' H10 ⟨_, rfl, rfl⟩ hh
      exact hh.same _ _ f9
    · rintro i xx acc F' O' D H10 hx ⟨rfl, rfl, rfl⟩ hh
      obtain ⟨y, hy, rfl⟩ := str_at hx
      walk_at "gg"
      refine g_inNQ (k := .inr y) rfl (hh.get (by unfold OrdO; walk_at "m")) ?_
      rw [eD y]
      walk_at "gg"
      have st : (u.take (i + 1)).filter (fun z => decide (z ∈ xs)) = (u.take i).filter (fun z => decide (z ∈ xs)) ++ [y].filter (fun z => decide (z ∈ xs)) := by
        rw [List.take_add_one, hy, List.filter_append]
        rfl
      refine i_d (fun e => ?_) (fun e => ?_)
      · walk_at "gg"
        refine k_turn hh ?_ ⟨?_, rfl, rfl⟩
        · rw [List.length_map]
          have := List.length_filter_le (fun z => decide (z ∈ xs)) (u.take i)
          rw [List.length_take] at *
          omega
        · rw [st, List.map_append, List.filter_cons_of_pos (by simpa using e)]
          rfl
      · refine k_skip hh ⟨?_, rfl, rfl⟩
        rw [st, List.filter_cons_of_neg (by simpa using e)]
        rw [List.filter_nil, List.append_nil]
    rintro acc F' O' p10 H10 ⟨rfl, eF, rfl⟩ h10
    rw [eF] at h10
    rw [List.length_map, List.take_length] at h10
    have fr10 : H p10 = none := ((sF7.trans sF).trans s89).free h10.free
    have s910 := h10.grow
    have h10 := h10.frz
    have f10 : upd F9 p10 (.lst ((u.filter fun y => decide (y ∈ xs)).map V.str)) p10 = some (.lst ((u.filter fun y => decide (y ∈ xs)).map V.str)) := upd_same
    generalize upd F9 p10 (.lst ((u.filter fun y => decide (y ∈ xs)).map V.str)) = F10 at h10 s910 f10
    have s8F := s89.trans s910
    have vn : valV kvs2 (.inr z) = none := (look_at ek dv).2 (by
      have k := undr_known (rows := (rstL rows xs ys2).take t) (x := z)
      cases e : undr ((rstL rows xs ys2).take t) z with
      | none => rfl
      | some u' =>
        rw [e] at k
        have m := of_decide_eq_true k.symm
        rw [List.map_take, rstL_names] at m
        obtain ⟨j, ej⟩ := List.mem_iff_getElem?.mp m
        have hj : j < t := by
          have := (List.getElem?_eq_some_iff.mp ej).1
          rw [List.length_take] at this
          omega
        rw [List.getElem?_take_of_lt hj] at ej
        have h1 := List.getElem?_eq_some_iff.mp ej
        have h2 := List.getElem?_eq_some_iff.mp hz
        exact absurd (h1.2.trans h2.2.symm) (List.pairwise_iff_getElem.mp nd5 j t h1.1 h2.1 hj))
    have lk : kvs2.length ≤ 60 := by
      have := congrArg List.length ek
      rw [List.length_map, List.length_map, List.length_take] at this
      omega
    walk_at "gg"
    refine g_kfld (h10.get (by unfold OrdO; walk_at "m")) T.cl_Order T.nA_Order__under rfl ?_
    walk_at "gg"
    refine g_stD (k := .inr z) (O' := OrdO T p x d2 l5 (putK kvs2 (.inr z) (.ref p10)) ++ [(ks, SetQ P w ks T0 n)]) rfl h10 (.tl (.tl .hd)) (szl (by omega)) (fun H11 h11 => ?_)
    rw [putK_new _ vn] at h11
    refine ⟨F10, kvs2 ++ [(.inr z, .ref p10)], _, _, rfl, sF.trans s8F, h11, ?_, ?_⟩
    · rw [List.map_append, ek, List.take_add_one, eR, List.map_append]
      rfl
    · rw [List.map_append, List.take_add_one, eR, List.map_append]
      exact (dv.up (nw_mono s8F) _ _).snoc (Dq.strs (nw_at fr10 f10))
  · rintro σ H8 ⟨F8, kvs2, y4, y5, rfl, sF, h8, ek, dv⟩
    rw [List.length_map, ← lenR, List.take_length] at ek dv
    walk_at "gg"
    have sHF := sF7.trans sF
    have h8' := h8.sub (List.sublist_append_left _ _)
    refine q hc p x d2 l5 kvs2 H8 F8 ys2 sHF h8' (fun q hq => sHF.free (h8'.own q hq).1) ⟨ek, dv, ⟨ys2, nw_at fr5 (sF _ _ f5), ascy, fun z => by rw [rstL_names]⟩, by rw [lenR]; omega, by rw [rstL_names]; exact nd5, fun r hr => ?_, fun r hr z hz => ?_⟩ ascy my
    · unfold rstL at hr
      obtain ⟨z, hz, rfl⟩ := List.mem_map.mp hr
      cases e : undr rows z with
      | none => exact List.Pairwise.nil
      | some u => exact (ok.asc _ (undr_mem e)).filter _
    · unfold rstL at hr
      obtain ⟨y, hy, rfl⟩ := List.mem_map.mp hr
      rw [rstL_names, my]
      exact of_decide_eq_true (List.mem_filter.mp hz).2
end
end
section
section
variable {P : Program} {w : World} {K : PySem.W.Frag} {mg : Str → Option Value} {base : Heap}
theorem chkE_all {kn : Str → Bool} : ∀ {xs seen : List Str}, xs.Nodup → (∀ z ∈ xs, z ∉ seen) → (∀ z ∈ xs, kn z = true) → chkE kn seen xs = none
  | [], _, _, _, _ => rfl
  | x :: r, seen, nd, ns, hk => by
    have nd := List.nodup_cons.mp nd
    show (if kn x = true then if x ∈ seen then some (false, x) else chkE kn (seen ++ [x]) r else some (true, x)) = none
    rw [if_pos (hk x List.mem_cons_self), if_neg (ns x List.mem_cons_self)]
    refine chkE_all nd.2 (fun z hz m => ?_) (fun z hz => hk z (List.mem_cons_of_mem _ hz))
    rcases List.mem_append.mp m with m | m
    · exact ns z (List.mem_cons_of_mem _ hz) m
    · have := List.mem_singleton.mp m
      subst this
      exact nd.1 hz
def sp_History_order (T : Txt K mg) : Sp := fun vs H Q _ => ∃ (A : HA) (rows : List URow) (ts os : List (Str × Tr)), vs = [.ref A.h] ∧ HisAt T H A rows ts os ∧
  ∀ p x d nl kvs H' F' ys, Same H F' → Has F' (OrdO T p x d nl kvs) H' → (∀ q ∈ OrdO T p x d nl kvs, H q.1 = none) → OrdOk (nw H F') nl kvs (rstL rows ys ys) → Asc ys → (∀ z, z ∈ ys ↔ z ∈ rows.map (·.1)) → Q (.ref p) H'
theorem sp_History_order_len {T : Txt K mg} {vs H Q E} (h : sp_History_order T vs H Q E) : vs.length = 1 := by
  obtain ⟨_, _, _, _, rfl, _⟩ := h
  rfl
theorem ok_History_order (T : Txt K mg) : FnOk P w K mg base CX0 5 T.f_History_order T.fd_History_order ["self"] (sp_History_order T) := by
  refine T.F_History_order.ok sc_History_order (fun vs H Q E h => sp_History_order_len h) (fun cdv A outer s H vs Q E hr h => ?_)
  refine ⟨_, (pss_one (ps_ret (pe_call (ok_restricted T) (hr.mono (by decide)) (by rfl) T.g_restricted T.F_restricted.kp T.b_restricted .nil passN (pa_cons (k_fld K (pe_fld (pv 0) rfl)) (pa_cons (pe_methW0 (k_fld K (pe_fld (pv 0) rfl)) T.cl_Order T.M_Order_names (ok_Order_names T) (hr.mono (by decide)) T.b_Order_names (pass0S (E := fun _ => E0))) pa_nil))))), ?_⟩
  obtain ⟨A, rows, ts, os, rfl, h, q⟩ := h
  refine g_start (σ' := [some (.ref A.h)]) rfl ?_
  obtain ⟨odx, od, onl, okvs, oat, ook⟩ := h.ord.ex
  walk_at "gg"
  refine g_kfld h.i T.cl_History T.nA_History__order rfl ?_
  walk_at "gg"
  refine g_kfld h.i T.cl_History T.nA_History__order rfl ?_
  walk_at "gg"
  refine g_kmeth oat.i rfl ?_
  walk_at "gg"
  refine ⟨A.o, rows, rfl, h.ord, fun l H1 ns s1 n1 h1 asc mns => ?_⟩
  have good : chkE (kn rows) [] ns = none := chkE_all asc.nodup (fun z _ m => by cases m) (fun z hz => knM.mpr ((mns z).mp hz))
  have few : ns.length ≤ 200 := by
    have := strs_sub (ys := rows.map (·.1)) asc.nodup (fun z hz => (mns z).mp hz)
    rw [List.length_map] at this
    have := ook.few
    omega
  walk_at "gg"
  refine ⟨A.o, l, rows, ns, rfl, h.ord.mono s1, h1, few, fun _ p x d nl kvs H' F' ys sF hF new ok ay my => ?_, (fun z c => by rw [good] at c; cases c), fun z c => by rw [good] at c; cases c⟩
  have e : ys = ns := Asc.ext ay asc my
  subst e
  refine q p x d nl kvs H' F' ys (s1.trans sF) hF (fun q hq => s1.free (new q hq)) (ok.mono fun b u eb => ?_) ay mns
  unfold nw at eb ⊢
  split at eb
  · rename_i c
    cases c1 : H1 b with
    | none =>
      rw [s1.free c1]
      exact eb
    | some u => rw [c1] at c; cases c
  · cases eb
end
end
section
section
variable {P : Program} {w : World} {K : PySem.W.Frag} {mg : Str → Option Value} {base : Heap}
/-- what is made beside what is owned is owned too -/
theorem Has.both {F H F2 H2 : Hp} {O N : Own} (h : Has F O H) (sF : Same H F2) (n : Has F2 N H2) : Same F (rmO O F2) ∧ Has (rmO O F2) (O ++ N) H2 := by
  refine ⟨fun b u e => ?_, fun b u e => ?_, fun q hq => ?_, ?_⟩
  · unfold rmO
    rw [if_neg fun m => ?_]
    · exact sF _ _ (h.same _ _ e)
    · obtain ⟨q, hq, rfl⟩ := List.mem_map.mp m
      rw [(h.own q hq).1] at e
      cases e
  · unfold rmO at e
    split at e
    · cases e
    · exact n.same _ _ e
  · rcases List.mem_append.mp hq with hq | hq
    · exact ⟨if_pos (List.mem_map.mpr ⟨q, hq, rfl⟩), n.same _ _ (sF _ _ (h.own q hq).2)⟩
    · refine ⟨?_, (n.own q hq).2⟩
      unfold rmO
      split
      · rfl
      · exact (n.own q hq).1
  · rw [List.map_append]
    refine List.nodup_append.mpr ⟨h.nd, n.nd, fun a ha b hb e => ?_⟩
    subst e
    obtain ⟨q, hq, rfl⟩ := List.mem_map.mp ha
    obtain ⟨r, hr, e⟩ := List.mem_map.mp hb
    have := (n.own r hr).1
    rw [e, sF _ _ (h.own q hq).2] at this
    cases this
def sp_History_copied (T : Txt K mg) : Sp := fun vs H Q _ => ∃ (A : HA) (nl : Addr) (kvs tk ok : List (Key × V)) (F : Hp) (rows : List URow) (ts os : List (Str × Tr)), vs = [.ref A.h] ∧ Has F (HisO T A nl kvs tk ok) H ∧ HisF F nl kvs tk ok rows ts os ∧
  ∀ (B : HA) nl' kvs' H' F' ys, B.tu = A.tu → Same H F' → Has F' (HisO T B nl' kvs' tk ok) H' → OrdOk (nw H F') nl' kvs' (rstL rows ys ys) → Asc ys → (∀ z, z ∈ ys ↔ z ∈ rows.map (·.1)) → Q (.ref B.h) H'
theorem sp_History_copied_len {T : Txt K mg} {vs H Q E} (h : sp_History_copied T vs H Q E) : vs.length = 1 := by
  obtain ⟨_, _, _, _, _, _, _, _, _, rfl, _⟩ := h
  rfl
theorem ok_History_copied (T : Txt K mg) : FnOk P w K mg base CX0 6 T.f_History_copied T.fd_History_copied ["self"] (sp_History_copied T) := by
  refine T.F_History_copied.ok sc_History_copied (fun vs H Q E h => sp_History_copied_len h) (fun cdv A outer s H vs Q E hr h => ?_)
  refine ⟨_, (pss_cons (ps_set (i := 1) sc_History_copied.nd rfl (.inl rfl) (pe_make0 T.Mk_History (ok_History___init__ T) (hr.mono (by decide)) (by rfl) T.g_History T.b_History___init__ .nil pass0))
      (pss_cons (k_sfld K (ps_fld (pv 1) (pe_methW0 (pv 0) T.cl_History T.M_History_order (ok_History_order T) (hr.mono (by decide)) T.b_History_order (pass0S (E := fun _ => E0))) rfl))
      (pss_cons (k_sfld K (ps_fld (pv 1) (pe_callTy cr_dictC (by rfl) T.m_dict (by decide +kernel) (pa_cons (k_fld K (pe_fld (pv 0) rfl)) pa_nil)) rfl))
      (pss_cons (k_sfld K (ps_fld (pv 1) (pe_callTy cr_dictC (by rfl) T.m_dict (by decide +kernel) (pa_cons (k_fld K (pe_fld (pv 0) rfl)) pa_nil)) rfl))
      (pss_cons (k_sfld K (ps_fld (pv 1) (k_fld K (pe_fld (pv 0) rfl)) rfl))
      (pss_one (ps_ret (pv 1)))))))), ?_⟩
  obtain ⟨A, nl, kvs, tk, ok, F, rows, ts, os, rfl, h, f, q⟩ := h
  refine g_start (σ' := [some (.ref A.h), none]) rfl ?_
  have hi : H A.h = some (.ins T.C_History A.x (hs_ A.o A.tr A.og A.tu)) := h.get (by unfold HisO; walk_at "m")
  have hat : HisAt T H A rows ts os := HisF.at f (R := []) (by rw [List.append_nil]; exact h)
  have htk : H A.tr = some (.dK tk) := h.get (by unfold HisO; walk_at "m")
  have hok : H A.og = some (.dK ok) := h.get (by unfold HisO; walk_at "m")
  walk_at "gg"
  intro x dx nx nd ne
  refine ⟨x, dx, H, rfl, rfl, nx, nd, ne, fun B nl1 H1 F1 ea h1 s1 fnl ftu => ⟨rfl, ?_⟩⟩
  subst ea
  have sH := s1.trans h1.same
  walk_at "gg"
  refine g_kmeth (sH _ _ hi) rfl ?_
  walk_at "gg"
  refine ⟨A, rows, ts, os, rfl, hat.mono sH, fun p px d nl2 kvs2 H2 F2 ys sF hF new ok2 ay my => ?_⟩
  obtain ⟨s3, h3⟩ := Has.both h1 sF hF
  have sH3 := s1.trans s3
  have okS : Same (nw H1 F2) (nw H (rmO (HisO T B nl1 [] [] []) F2)) := fun b u e => by
    have e2 := nw_same _ _ e
    have nb : H1 b = none := by
      cases c : H1 b with
      | none => rfl
      | some o => rw [nw_old c] at e; cases e
    refine nw_at (sH.free nb) ?_
    unfold rmO
    rw [if_neg fun m => ?_]
    · exact e2
    · obtain ⟨q, hq, rfl⟩ := List.mem_map.mp m
      rw [nw_old (h1.own q hq).2] at e
      cases e
  generalize rmO (HisO T B nl1 [] [] []) F2 = F3 at s3 h3 sH3 okS
  walk_at "gg"
  refine g_ksfld (fs' := hs_ p B.tr B.og B.tu) h3 .hd rfl T.cl_History T.nA_History__order (by show 4 < 1000; decide) (fun H4 h4 => ?_)
  walk_at "gg"
  refine g_kfld (h4.same _ _ (sH3 _ _ hi)) T.cl_History T.nA_History__trees rfl ?_
  walk_at "gg"
  refine g_dictC (h4.same _ _ (sH3 _ _ htk)) h4 (fun tr2 H5 n5 h5 => ?_)
  walk_at "gg"
  refine g_ksfld (fs' := hs_ p tr2 B.og B.tu) h5 (.tl .hd) rfl T.cl_History T.nA_History__trees (by show 4 < 1000; decide) (fun H6 h6 => ?_)
  walk_at "gg"
  refine g_kfld (h6.same _ _ (sH3 _ _ hi)) T.cl_History T.nA_History__origins rfl ?_
  walk_at "gg"
  refine g_dictC (h6.same _ _ (sH3 _ _ hok)) h6 (fun og2 H7 n7 h7 => ?_)
  walk_at "gg"
  refine g_ksfld (fs' := hs_ p tr2 og2 B.tu) h7 (.tl (.tl .hd)) rfl T.cl_History T.nA_History__origins (by show 4 < 1000; decide) (fun H8 h8 => ?_)
  walk_at "gg"
  refine g_kfld (h8.same _ _ (sH3 _ _ hi)) T.cl_History T.nA_History__tally rfl ?_
  walk_at "gg"
  refine g_ksfld (fs' := hs_ p tr2 og2 A.tu) h8 (.tl (.tl .hd)) rfl T.cl_History T.nA_History__tally (by show 4 < 1000; decide) (fun H9 h9 => ?_)
  walk_at "gg"
  have f3 := f.mono (h.same.trans sH3)
  have h9 := h9.sub (O' := (og2, .dK ok) :: (tr2, .dK tk) :: (B.h, .ins T.C_History B.x (hs_ p tr2 og2 A.tu)) :: (B.x, .own B.h) :: OrdO T p px d nl2 kvs2) (.cons_cons _ (.cons_cons _ (.cons_cons _ (.cons_cons _ (.cons _ (.cons _ (List.sublist_append_right _ _)))))))
  have h9 := h9.perm (((List.perm_append_comm (l₁ := [(og2, HO.dK ok), (tr2, HO.dK tk)]) (l₂ := [(B.h, HO.ins T.C_History B.x (hs_ p tr2 og2 A.tu)), (B.x, HO.own B.h)])).trans (List.Perm.append_left _ (List.Perm.swap (tr2, HO.dK tk) (og2, HO.dK ok) []))).append_right (OrdO T p px d nl2 kvs2)).symm
  exact q ⟨B.h, B.x, p, px, d, tr2, og2, A.tu⟩ nl2 kvs2 H9 F3 ys rfl sH3 h9 (ok2.mono okS) ay my
end
end
section
theorem AscOf.ext {t A B : Tr} (ha : AscOf t A) (hb : AscOf t B) : A = B := AscT.ext ha.1 hb.1 fun z x => (ha.2 _).trans (hb.2 _).symm
/-- a row of the facts: the name, the nearest versions, the files, the origins -/
abbrev FRow := Str × List Str × Tr × Tr
def frD (r : FRow) : PyData := .tuple [.str r.1, .tuple (r.2.1.map PyData.str), .tuple (r.2.2.1.map fD), .tuple (r.2.2.2.map fD)]
def FOk (rows : List URow) (ts os : List (Str × Tr)) (r : FRow) : Prop := ∃ u t o, undr rows r.1 = some u ∧ getL ts r.1 = some t ∧ getL os r.1 = some o ∧ Asc r.2.1 ∧ (∀ y, y ∈ r.2.1 ↔ y ∈ Oth r.1 u ∧ ¬ Cov rows (Oth r.1 u) y) ∧ AscOf t r.2.2.1 ∧ AscOf o r.2.2.2
def FsOk (rows : List URow) (ts os : List (Str × Tr)) (rs : List FRow) : Prop := Asc (rs.map (·.1)) ∧ (∀ z, z ∈ rs.map (·.1) ↔ z ∈ rows.map (·.1)) ∧ ∀ r ∈ rs, FOk rows ts os r
theorem Cov.of {rows rows' : List URow} (e : ∀ z, undr rows z = undr rows' z) {vs : List Str} {y : Str} : Cov rows vs y ↔ Cov rows' vs y := by
  unfold Cov
  simp only [e]
theorem FOk.ext {rows rows' : List URow} {ts os : List (Str × Tr)} (e : ∀ z, undr rows z = undr rows' z) {r r' : FRow} (h : FOk rows ts os r) (h' : FOk rows' ts os r') (n : r.1 = r'.1) : r = r' := by
  obtain ⟨z, us, A, B⟩ := r
  obtain ⟨z', us', A', B'⟩ := r'
  have n : z = z' := n
  subst n
  obtain ⟨u, t, o, hu, ht, ho, asc, mem, fa, fb⟩ := h
  obtain ⟨u', t', o', hu', ht', ho', asc', mem', fa', fb'⟩ := h'
  have hu : undr rows z = some u := hu
  have ht : getL ts z = some t := ht
  have ho : getL os z = some o := ho
  have hu' : undr rows' z = some u' := hu'
  have ht' : getL ts z = some t' := ht'
  have ho' : getL os z = some o' := ho'
  rw [← e z, hu] at hu'
  rw [ht] at ht'
  rw [ho] at ho'
  injection hu' with eu
  injection ht' with et
  injection ho' with eo
  subst eu et eo
  have e1 : us = us' := Asc.ext asc asc' fun y => by rw [mem y, mem' y, Cov.of e]
  have e2 : A = A' := AscOf.ext (t := t) fa fa'
  have e3 : B = B' := AscOf.ext (t := o) fb fb'
  rw [e1, e2, e3]
theorem rows_ext {α β : Type} {f : α → β} : ∀ {xs ys : List α}, xs.map f = ys.map f → (∀ x ∈ xs, ∀ y ∈ ys, f x = f y → x = y) → xs = ys
  | [], [], _, _ => rfl
  | [], _ :: _, h, _ => by cases h
  | _ :: _, [], h, _ => by cases h
  | x :: xs, y :: ys, h, k => by
    rw [List.map_cons, List.map_cons] at h
    injection h with h1 h2
    rw [k x List.mem_cons_self y List.mem_cons_self h1, rows_ext h2 fun a ha b hb => k a (List.mem_cons_of_mem _ ha) b (List.mem_cons_of_mem _ hb)]
theorem FsOk.ext {rows rows' : List URow} {ts os : List (Str × Tr)} (e : ∀ z, undr rows z = undr rows' z) {rs rs' : List FRow} (h : FsOk rows ts os rs) (h' : FsOk rows' ts os rs') : rs = rs' := by
  refine rows_ext (f := (·.1)) (Asc.ext h.1 h'.1 fun z => ?_) fun r hr r' hr' n => (h.2.2 r hr).ext e (h'.2.2 r' hr') n
  rw [h.2.1 z, h'.2.1 z, ← knM, ← knM]
  unfold kn
  rw [e z]
/-- tuples alone are read in a smaller heap that has them -/
theorem DqAll.fcut {F H : Hp} (t : ∀ a xs, H a = some (.tup xs) → F a = some (.tup xs)) : ∀ {ws : List V} {B : Tr}, DqAll H ws (B.map fD) → DqAll F ws (B.map fD)
  | _, [], .nil => .nil
  | _, (z, x) :: B, .cons h r => by
    obtain ⟨T, l, rfl, h1, h2⟩ := fD_inv h
    exact .cons (fD_dq (t _ _ h1) (t _ _ h2)) (DqAll.fcut (B := B) t r)
theorem Has.wide {F H H' : Hp} {O : Own} (h : Has F O H) (s : Same H H') : Has (rmO O H') O H' ∧ Same F (rmO O H') := by
  have h' : Has F O H' := Has.up h (h.same.trans s) s fun p hp => (h.own p hp).1
  exact ⟨h'.re, h'.reF⟩
section
variable {P : Program} {w : World} {K : PySem.W.Frag} {mg : Str → Option Value} {base : Heap}
def sp_History_facts (T : Txt K mg) : Sp := fun vs H Q _ => ∃ (A : HA) (rows : List URow) (ts os : List (Str × Tr)), vs = [.ref A.h] ∧ HisAt T H A rows ts os ∧ H A.tu = some (.tup []) ∧ (∀ z t, getL ts z = some t → t.length ≤ 60) ∧ (∀ z t, getL os z = some t → t.length ≤ 60) ∧
  ∀ p H' rs, Same H H' → Dq H' (.ref p) (.tuple [.tuple (rs.map frD), .tuple []]) → FsOk rows ts os rs → Q (.ref p) H'
theorem sp_History_facts_len {T : Txt K mg} {vs H Q E} (h : sp_History_facts T vs H Q E) : vs.length = 1 := by
  obtain ⟨_, _, _, _, rfl, _⟩ := h
  rfl
set_option maxHeartbeats 1000000 in
theorem ok_History_facts (T : Txt K mg) : FnOk P w K mg base CX0 4 T.f_History_facts T.fd_History_facts ["self"] (sp_History_facts T) := by
  refine T.F_History_facts.ok sc_History_facts (fun vs H Q E h => sp_History_facts_len h) (fun cdv A outer s H vs Q E hr h => ?_)
  refine ⟨_, (pss_cons (ps_set (i := 1) sc_History_facts.nd rfl (.inl rfl) (pe_lst pa_nil))
      (pss_cons (ps_for PassesOwn.never rfl (k_il K (pi_list (pe_methW0 (k_fld K (pe_fld (pv 0) rfl)) T.cl_Order T.M_Order_names (ok_Order_names T) (hr.mono (by decide)) T.b_Order_names (pass0S (E := fun _ => E0))))) (pg_name (i := 2) sc_History_facts.nd rfl (.inl rfl)) (pss_cons (ps_set (i := 3) sc_History_facts.nd rfl (.inl rfl) (pe_callTy (cr_tupleK K) (by rfl) T.m_tuple (by decide +kernel) (pa_cons (pe_methW (k_fld K (pe_fld (pv 0) rfl)) T.cl_Order T.M_Order_nearest (ok_Order_nearest T) (hr.mono (by decide)) T.b_Order_nearest passNS (pa_cons (pv 2) pa_nil)) pa_nil)))
      (pss_one (ps_expr (k_bm K (pe_bm PySem.F.plainAttrs_list PySem.F.slot_list_append PySem.F.type_list_append mt_append (pv 1) (pa_cons (pe_tup (pa_cons (pv 2) (pa_cons (pv 3) (pa_cons (pe_call (ok_files_of T) (hr.mono (by decide)) (by rfl) T.g_files_of T.F_files_of.kp T.b_files_of .nil pass0 (pa_cons (pe_ix (ix_K K (hu_of hr)) (k_fld K (pe_fld (pv 0) rfl)) (pv 2) (fun _ _ => rfl)) pa_nil)) (pa_cons (pe_call (ok_files_of T) (hr.mono (by decide)) (by rfl) T.g_files_of T.F_files_of.kp T.b_files_of .nil pass0 (pa_cons (pe_ix (ix_K K (hu_of hr)) (k_fld K (pe_fld (pv 0) rfl)) (pv 2) (fun _ _ => rfl)) pa_nil)) pa_nil))))) pa_nil)))))))
      (pss_one (ps_ret (pe_tup (pa_cons (pe_callTy (cr_tupleK K) (by rfl) T.m_tuple (by decide +kernel) (pa_cons (pv 1) pa_nil)) (pa_cons (k_fld K (pe_fld (pv 0) rfl)) pa_nil))))))), ?_⟩
  obtain ⟨A, rows, ts, os, rfl, h, htu, lt, lo, q⟩ := h
  refine g_start (σ' := [some (.ref A.h), none, none, none]) rfl ?_
  obtain ⟨odx, od, onl, okvs, oat, ook⟩ := h.ord.ex
  obtain ⟨tk, htr, tlt⟩ := h.tr
  obtain ⟨ok, hog, tlo⟩ := h.og
  walk_at "gg"
  refine g_klst (by walk_at "sz") (Has.start H) (fun l H1 n1 h1 => ?_)
  walk_at "gg"
  refine g_kfld (h1.same _ _ h.i) T.cl_History T.nA_History__order rfl ?_
  walk_at "gg"
  refine g_kmeth (h1.same _ _ oat.i) rfl ?_
  walk_at "gg"
  refine ⟨A.o, rows, rfl, h.ord.mono h1.same, fun p H2 ns s2 n2 h2 asc mns => ?_⟩
  have h2 := h1.made n2 s2 h2
  have s12 := h2.grow
  have h2 := h2.frz
  have fp : upd H p (.lst (ns.map V.str)) p = some (.lst (ns.map V.str)) := upd_same
  generalize upd H p (.lst (ns.map V.str)) = F at h2 s12 fp
  have lns : ns.length ≤ 60 := few_in h.ord.few asc.nodup fun y hy => (mns y).mp hy
  refine k_forL (h2.same _ _ fp) (fun t σ H' => ∃ (F' : Hp) (rs : List FRow) (ws : List V) (y2 y3 : Option V), σ = [some (.ref A.h), some (.ref l), y2, y3] ∧ Same F F' ∧ Has F' [(l, .lst ws)] H' ∧ DqAll F' ws (rs.map frD) ∧ rs.map (·.1) = ns.take t ∧ ∀ r ∈ rs, FOk rows ts os r) ⟨F, [], [], _, _, rfl, Same.refl _, h2, .nil, rfl, fun r hr => by cases hr⟩ ?_ ?_ ?_
  · rintro t σ H' _ ⟨F', rs, ws, y2, y3, rfl, sF, h3, _⟩
    exact h3.same _ _ (sF _ _ fp)
  · rintro t v σ H3 hv ⟨F', rs, ws, y2, y3, rfl, sF, h3, dq, ek, all⟩
    obtain ⟨z, hz, rfl⟩ := str_at hv
    have lt_ := (List.getElem?_eq_some_iff.mp hz).1
    have sH := (s12.trans sF).trans h3.same
    have kz : kn rows z = true := knM.mpr ((mns z).mp (List.mem_of_getElem? hz))
    obtain ⟨u, hu⟩ := Option.isSome_iff_exists.mp kz
    obtain ⟨t1, ht1⟩ := Option.isSome_iff_exists.mp ((h.kn z).trans kz)
    obtain ⟨o1, ho1⟩ := Option.isSome_iff_exists.mp ((h.knO z).trans kz)
    obtain ⟨d1, ed1, hd1⟩ := (tlt.get z).1 t1 ht1
    obtain ⟨d2, ed2, hd2⟩ := (tlo.get z).1 o1 ho1
    walk_at "gg"
    refine g_kfld (sH _ _ h.i) T.cl_History T.nA_History__order rfl ?_
    walk_at "gg"
    refine g_kmeth (sH _ _ oat.i) rfl ?_
    walk_at "gg"
    refine ⟨A.o, rows, z, rfl, h.ord.mono sH, fun u' hu' p4 H4 us s4 n4 h4 ascu mu => ?_, fun c => by rw [hu] at c; cases c⟩
    rw [hu] at hu'
    injection hu' with eu
    subst eu
    have h4 := h3.made n4 s4 h4
    walk_at "gg"
    refine g_tupleL (h4.get (List.Mem.head _)) h4 (fun p5 H5 F5 n5 s5 f5 h5 => ?_)
    have sH5 := ((s12.trans sF).trans s5).trans h5.same
    walk_at "gg"
    refine g_kfld (sH5 _ _ h.i) T.cl_History T.nA_History__trees rfl ?_
    walk_at "gg"
    refine g_ixDS (sH5 _ _ htr) ed1 ?_
    walk_at "gg"
    refine ⟨d1, t1, rfl, hd1.up sH5, lt z t1 ht1, fun p6 H6 ws6 B6 s6 h6 dq6 a6 => ?_⟩
    walk_at "gg"
    refine g_kfld (s6 _ _ (sH5 _ _ h.i)) T.cl_History T.nA_History__origins rfl ?_
    walk_at "gg"
    refine g_ixDS (s6 _ _ (sH5 _ _ hog)) ed2 ?_
    walk_at "gg"
    refine ⟨d2, o1, rfl, hd2.up (sH5.trans s6), lo z o1 ho1, fun p7 H7 ws7 B7 s7 h7 dq7 a7 => ?_⟩
    have s57 := s6.trans s7
    have h5 := h5.sub (O' := [(l, .lst ws)]) (List.Sublist.cons _ (List.Sublist.refl _))
    obtain ⟨h8, s8⟩ := Has.wide h5 s57
    have tag : ∀ a xs, H7 a = some (.tup xs) → rmO [(l, HO.lst ws)] H7 a = some (.tup xs) := fun a xs e => by
      unfold rmO
      rw [if_neg fun m => ?_]
      · exact e
      · have m := List.mem_singleton.mp m
        have m : a = l := m
        rw [m, h8.get (List.Mem.head _)] at e
        cases e
    have dA := DqAll.fcut tag (dq6.up s7 _ _)
    have dB := DqAll.fcut tag dq7
    have fA := tag _ _ (s7 _ _ h6)
    have fB := tag _ _ h7
    generalize rmO [(l, HO.lst ws)] H7 = F8 at h8 s8 dA dB fA fB
    walk_at "gg"
    refine g_ktupF (by walk_at "sz") h8 (fun p9 H9 F9 n9 s9 f9 h9 => ?_)
    have s89 := s8.trans s9
    have lw : ws.length ≤ t := by
      have a := dq.len
      have b := congrArg List.length ek
      rw [List.length_map] at a b
      rw [List.length_take] at b
      omega
    walk_at "gg"
    refine g_append h9 .hd (szl (by omega)) (fun H10 h10 => ?_)
    refine ⟨F9, rs ++ [(z, us, B6, B7)], _, _, _, rfl, sF.trans (s5.trans s89), h10, ?_, ?_, fun r hr => ?_⟩
    · rw [List.map_append]
      refine (dq.up (s5.trans s89) _ _).snoc (.tup f9 (.cons (.str z) (.cons (.tup (s89 _ _ f5) (DqAll.strs us)) (.cons (.tup (s9 _ _ fA) (dA.up s9 _ _)) (.cons (.tup (s9 _ _ fB) (dB.up s9 _ _)) .nil)))))
    · rw [List.map_append, ek, List.take_add_one, hz]
      rfl
    · rcases List.mem_append.mp hr with hr | hr
      · exact all r hr
      · rw [List.mem_singleton.mp hr]
        exact ⟨u, t1, o1, hu, ht1, ho1, ascu, mu, a6, a7⟩
  · rintro σ H3 ⟨F', rs, ws, y2, y3, rfl, sF, h3, dq, ek, all⟩
    rw [List.length_map, List.take_length] at ek
    walk_at "gg"
    refine g_tupleL (h3.get (List.Mem.head _)) h3 (fun p5 H5 F5 n5 s5 f5 h5 => ?_)
    have sH5 := ((s12.trans sF).trans s5).trans h5.same
    walk_at "gg"
    refine g_kfld (sH5 _ _ h.i) T.cl_History T.nA_History__tally rfl ?_
    walk_at "gg"
    refine g_ktupF (by walk_at "sz") h5 (fun p6 H6 F6 n6 s6 f6 h6 => ?_)
    have sF6 := (s12.trans sF).trans (s5.trans s6)
    refine q p6 H6 rs (sF6.trans h6.same) (Dq.up h6.same _ _ (.tup f6 (.cons (.tup (s6 _ _ f5) (dq.up (s5.trans s6) _ _)) (.cons (.tup (sF6 _ _ htu) .nil) .nil)))) ⟨by rw [ek]; exact asc, fun z => by rw [ek]; exact mns z, all⟩
end
end
section
section
variable {P : Program} {w : World} {K : PySem.W.Frag} {mg : Str → Option Value} {base : Heap}
def FeedO (c : Addr) (ns : List Int) : Own := [(c, .lst (ns.map V.int))]
def FeedOk (ns : List Int) : Prop := 1 ≤ ns.length ∧ ns.length ≤ 64
def sp_l_feed (T : Txt K mg) : Sp := fun vs H Q _ => ∃ (a : Addr) (ns : List Int), vs = [.ref a] ∧ SqL K H a (ns.map V.int) ∧ ns.length ≤ 63 ∧
  ∀ p H' (ns : List Int), H p = none → Has H (FeedO p ns) H' → FeedOk ns → Q (.ref p) H'
theorem sp_l_feed_len {T : Txt K mg} {vs H Q E} (h : sp_l_feed T vs H Q E) : vs.length = 1 := by
  obtain ⟨_, _, rfl, _⟩ := h
  rfl
theorem ok_l_feed (T : Txt K mg) : FnOk P w K mg base CX0 1 T.f_l_feed T.fd_l_feed ["script"] (sp_l_feed T) := by
  refine T.F_l_feed.ok sc_l_feed (fun vs H Q E h => sp_l_feed_len h) (fun cdv A outer s H vs Q E hr h => ?_)
  refine ⟨_, (pss_one (ps_ret (pe_op (op_addK K) (pe_lst (pa_cons pe_int pa_nil)) (pe_lc (own := [("cell", 1)]) (g := gName 1) (tt := tYes) rfl sc_l_feed.nd (k_il K (pi_list (pe_slice (sl_K K) (pv 0) po_none (po_some pe_int)))) (blkOk_by (N := n_l_feed) (sc := defScope s_l_feed) (by decide +kernel)) (fun _ _ _ _ _ => (pg_name (i := 1) sc_l_feed.nd rfl (.inl rfl))) (fun _ _ _ _ _ => pts_nil) (fun _ _ _ _ _ => (pe_callB cr_abs1 (by rfl) T.m_abs (by decide +kernel) (pa_cons (pe_callTy cr_int1 (by rfl) T.m_int (by decide +kernel) (pa_cons (pv 1) pa_nil)) pa_nil))))))), ?_⟩
  obtain ⟨a, ns, rfl, ha, hn, q⟩ := h
  have hH := Has.start H
  refine g_start (σ' := [some (.ref a), none]) rfl ?_
  walk_at "gg"
  refine g_klst (by walk_at "sz") hH (fun p1 H1 n1 h1 => ?_)
  walk_at "gg"
  refine g_slS (h1.same.seq ha) h1 (fun p2 H2 n2 h2 => ?_)
  obtain ⟨ms, em, lm⟩ := cutV_ints ns none (some 63)
  rw [em] at h2
  refine k_lcL (by walk_at "h") h2 (fun i acc F' O' => ∃ ks : List Int, acc = ks.map V.int ∧ ks.length = i ∧ F' = H ∧ O' = [(p2, .lst (ms.map V.int)), (p1, .lst [.int 0])]) ⟨[], rfl, rfl, rfl, rfl⟩ ?_ ?_ ?_
  · rintro i acc F' O' H3 ⟨ks, rfl, rfl, rfl, rfl⟩ hh
    walk_at "h"
  · rintro i x acc F' O' D H3 hx ⟨ks, rfl, rfl, rfl, rfl⟩ hh
    rw [List.getElem?_map] at hx
    obtain ⟨z, hz, rfl⟩ := Option.map_eq_some_iff.mp hx
    have hl : ks.length < ms.length := (List.getElem?_eq_some_iff.mp hz).1
    walk_at "gg"
    refine g_abs (fun j hj => ?_)
    exact k_turn hh (by rw [List.length_map]; omega) ⟨ks ++ [j], by rw [List.map_append]; rfl, by rw [List.length_append]; rfl, rfl, rfl⟩
  rintro acc F' O' D H3 ⟨ks, rfl, hkl, rfl, rfl⟩ h3
  rw [List.length_map] at hkl
  refine g_addL (h3.get (by walk_at "m")) (h3.get (List.Mem.head _)) (sz (by rw [List.length_map]; show 1 + _ ≤ _; omega)) h3 (fun p H4 n4 h4 => ?_)
  have e : [V.int 0] ++ ks.map V.int = ((0 : Int) :: ks).map V.int := rfl
  rw [e] at h4
  exact q p H4 (0 :: ks) (h3.same.free n4) (h4.sub (by unfold FeedO; walk_at "sub")) ⟨by rw [List.length_cons]; omega, by rw [List.length_cons]; omega⟩
def sp_l_next (T : Txt K mg) : Sp := fun vs H Q _ => ∃ (a : Addr) (ns : List Int) (m : Int), vs = [.ref a, .int m] ∧ H a = some (.lst (ns.map V.int)) ∧ FeedOk ns ∧ 0 < m ∧ m < 10000000000000 ∧
  ∀ H' (ns' : List Int) (r : Int), But a H H' → H' a = some (.lst (ns'.map V.int)) → FeedOk ns' → 0 ≤ r → r < m → Q (.int r) H'
theorem sp_l_next_len {T : Txt K mg} {vs H Q E} (h : sp_l_next T vs H Q E) : vs.length = 2 := by
  obtain ⟨_, _, _, rfl, _⟩ := h
  rfl
theorem cdivw {m : Int} (h0 : 0 < m) (h1 : m < 10000000000000) (i : Int) : CDivW i m := by
  refine ⟨h0, ?_⟩
  have : m.natAbs < 2 ^ 64 := by
    have : m.natAbs < 10000000000000 := by omega
    exact Nat.lt_trans this (by decide)
  exact Nat.lt_trans ((Nat.log2_lt (by omega)).mpr this) (by decide)
theorem ok_l_next (T : Txt K mg) : FnOk P w K mg base CX0 1 T.f_l_next T.fd_l_next ["feed", "many"] (sp_l_next T) := by
  refine T.F_l_next.ok sc_l_next (fun vs H Q E h => sp_l_next_len h) (fun cdv A outer s H vs Q E hr h => ?_)
  refine ⟨_, (pss_cons (ps_while PassesOwn.never (PW.pt (pw_and (pt_cmpR op_gt (pe_callB (cr_lenK K) (by rfl) T.m_len (by decide +kernel) (pa_cons (pv 0) pa_nil)) pe_int (nomark _)) (pw_and1 (PW.pt (pw_or (pt_cmpR (op_eqK K hr.units) (pe_ix (ix_K K (hu_of hr)) (pv 0) pe_int (fun _ _ => rfl)) pe_int (nomark _)) (pw_or1 (pt_cmpR (op_eqK K hr.units) (pe_ix (ix_K K (hu_of hr)) (pv 0) pe_int (fun _ _ => rfl)) pe_int (nomark _)))))))) (pss_cons (ps_expr (k_bm K (pe_bm PySem.F.plainAttrs_list PySem.F.slot_list_pop PySem.F.type_list_pop mt_popAt (pv 0) (pa_cons pe_int pa_nil))))
      (pss_one (ps_asg pe_int (pg_sub (pv 0) pe_int (set_any (hu_of hr)))))))
      (pss_cons (ps_if (pt_cmpR (op_eqK K hr.units) (pe_callB (cr_lenK K) (by rfl) T.m_len (by decide +kernel) (pa_cons (pv 0) pa_nil)) pe_int (nomark _)) (pss_one (ps_ret pe_int)) pss_nil)
      (pss_cons (ps_set (i := 2) sc_l_next.nd rfl (.inl rfl) (pe_callTy cr_int1 (by rfl) T.m_int (by decide +kernel) (pa_cons (pe_ix (ix_K K (hu_of hr)) (pv 0) pe_int (fun _ _ => rfl)) pa_nil)))
      (pss_cons (ps_asg (pe_op (op_addK K) (pe_ix (ix_K K (hu_of hr)) (pv 0) pe_int (fun _ _ => rfl)) pe_int) (pg_sub (pv 0) pe_int (set_any (hu_of hr))))
      (pss_cons (ps_asg (pe_op op_fdivW (pv 2) (pv 1)) (pg_sub (pv 0) pe_int (set_any (hu_of hr))))
      (pss_one (ps_ret (pe_op op_mod (pe_callTy cr_int1 (by rfl) T.m_int (by decide +kernel) (pa_cons (pv 2) pa_nil)) (pv 1))))))))), ?_⟩
  obtain ⟨a, ns, m, rfl, ha, ⟨hn0, hn⟩, hm0, hm, q⟩ := h
  have hH0 := Has.arg ha
  refine g_start (σ' := [some (.ref a), some (.int m), none]) rfl ?_
  walk_at "gg"
  refine g_while (fun k σ H' => ∃ ns' : List Int, σ = [some (.ref a), some (.int m), none] ∧ k = ns'.length ∧ 0 < ns'.length ∧ ns'.length ≤ 64 ∧ Has (rm H a) [(a, .lst (ns'.map V.int))] H') ns.length ⟨ns, rfl, rfl, hn0, hn, hH0⟩ ?_
  rintro k σ H1 ⟨ns', rfl, rfl, h1, h2, hH⟩
  refine g_fact (fun b => b = true → 1 < ns'.length) (fun R r => ?_) (fun b hb => ?_)
  · walk_at "gg"
    rw [List.length_map]
    refine i_d (fun l1 => ?_) (fun l1 => r _ (fun z => by cases z))
    walk_at "gg"
    refine g_ixI (by walk_at "h") (by omega) (by omega) (fun z hz => ?_)
    walk_at "gg"
    refine i_d (fun l2 => r _ (fun z => by omega)) (fun l2 => ?_)
    walk_at "gg"
    refine g_ixI (by walk_at "h") (by omega) (by omega) (fun z hz => ?_)
    walk_at "gg"
    exact r _ (fun z => by omega)
  cases b with
  | true =>
    have l1 := hb rfl
    refine kwh_t ?_
    walk_at "gg"
    refine g_popAtI hH (by walk_at "c") (by omega) (by omega) (by omega) (fun H2 z hH2 => ?_)
    walk_at "gg"
    refine g_stI hH2 (by walk_at "c") (by omega) (by rw [List.length_eraseIdx]; split <;> omega) (fun H3 hH3 => ?_)
    refine ⟨(ns'.eraseIdx (1 : Int).toNat).length, by rw [List.length_eraseIdx]; split <;> omega, _, rfl, by rw [List.length_set], ?_, ?_, hH3⟩
    · rw [List.length_set, List.length_eraseIdx]; split <;> omega
    · rw [List.length_set, List.length_eraseIdx]; split <;> omega
  | false =>
    refine kwh_f ?_
    walk_at "gg"
    rw [List.length_map]
    refine i_d (fun l1 => ?_) (fun l1 => ?_)
    · walk_at "gg"
      exact q H1 ns' 0 (But.of hH.same) (by walk_at "h") ⟨h1, h2⟩ (by omega) (by omega)
    walk_at "gg"
    refine g_ixI (by walk_at "h") (by omega) (by omega) (fun z hz => ?_)
    walk_at "gg"
    refine g_ixI (by walk_at "h") (by omega) (by omega) (fun z0 hz0 => ?_)
    walk_at "gg"
    refine g_stI hH (by walk_at "c") (by omega) (by omega) (fun H2 hH2 => ?_)
    walk_at "gg"
    refine g_rI (cdivw hm0 hm _) ?_
    walk_at "gg"
    refine g_stI hH2 (by walk_at "c") (by omega) (by rw [List.length_set]; omega) (fun H3 hH3 => ?_)
    walk_at "gg"
    refine g_rI hm0 ?_
    exact q H3 _ _ (But.of hH3.same) (by walk_at "h") ⟨by rw [List.length_set, List.length_set]; exact h1, by rw [List.length_set, List.length_set]; exact h2⟩ (Int.emod_nonneg _ (by omega)) (Int.emod_lt_of_pos _ hm0)
/-- a draw in a place where c is owned -/
theorem Has.draw {F H H' : Hp} {O O' : Own} {c : Addr} {ns ns' : List Int} (h : Has F O H) (c1 : Chg O c (.lst (ns.map V.int)) (.lst (ns'.map V.int)) O') (hb : But c H H') (e : H' c = some (.lst (ns'.map V.int))) : Has F O' H' := h.but c1 hb e
end
end
section
def lets : Str := "abcdefghijklmnopqrstuvwxyz"
theorem lets_at : ∀ p : Fin 26, atI lets.cps.toList ((p : Nat) : Int) = some (97 + (p : Nat)) := by decide +kernel
theorem lets_ix {j : Int} (h0 : 0 ≤ j) (h1 : j < 26) : atI lets.cps.toList j = some (97 + j.toNat) := by
  have := lets_at ⟨j.toNat, by omega⟩
  rw [show ((j.toNat : Nat) : Int) = j by omega] at this
  exact this
def c1 (c : Nat) : Str := ⟨#[c]⟩
def hdA (t k : Nat) : Str := c1 (97 + (7 * k + t) % 26)
def endsA : List Str := ["", "b", "42", "b2c0z"]
def nmA (t k : Nat) : Str := hdA t k ++ (endsA[k % 4]?).getD ""
def hdB (t k : Nat) : Str := c1 (97 + t) ++ repS "m" (k % 2)
def tails : Str := "3917408256kdzq"
def nmB (t k : Nat) : Str := hdB t k ++ c1 ((tails.cps[k]?).getD 0)
theorem tails_at : ∀ k : Fin 9, atI tails.cps.toList ((k : Nat) : Int) = some ((tails.cps[(k : Nat)]?).getD 0) := by decide +kernel
def oddN : List Str := ["", "A", "a_b", "a b", "7a", "abcdefg", "aB", "a-1", "b.c"]
theorem nmA_ok : ∀ t : Fin 26, (decide ((List.range 9).map (nmA t)).Nodup && ((List.range 9).map (nmA t)).all fun z => isNm z && PyData.strOk z && !decide (z = "strang")) = true := by decide +kernel
theorem nmB_ok : ∀ t : Fin 26, (decide ((List.range 9).map (nmB t)).Nodup && ((List.range 9).map (nmB t)).all fun z => isNm z && PyData.strOk z && !decide (z = "strang")) = true := by decide +kernel
/-- a draw -/
theorem drw {F H H' : Hp} {R : Own} {a : Addr} {ns ns' : List Int} (h : Has F ((a, .lst (ns.map V.int)) :: R) H) (hb : But a H H') (e : H' a = some (.lst (ns'.map V.int))) : Has F ((a, .lst (ns'.map V.int)) :: R) H' := Has.draw h .hd hb e
structure NmsOk (xs : List Str) : Prop where
  len : xs.length = 9
  nd : xs.Nodup
  nm : ∀ z ∈ xs, isNm z = true ∧ PyData.strOk z = true ∧ z ≠ "strang"
theorem NmsOk.of {f : Nat → Str} (h : (decide ((List.range 9).map f).Nodup && ((List.range 9).map f).all fun z => isNm z && PyData.strOk z && !decide (z = "strang")) = true) : NmsOk ((List.range 9).map f) := by
  rw [Bool.and_eq_true, decide_eq_true_eq, List.all_eq_true] at h
  refine ⟨by rw [List.length_map, List.length_range], h.1, fun z hz => ?_⟩
  have := h.2 z hz
  simp only [Bool.and_eq_true, Bool.not_eq_true', decide_eq_false_iff_not] at this
  exact ⟨this.1.1, this.1.2, this.2⟩
theorem map_range1 {β : Type} (f : Nat → β) (i : Nat) : (List.range (i + 1)).map f = (List.range i).map f ++ [f i] := by
  rw [List.range_succ, List.map_append]
  rfl
section
variable {P : Program} {w : World} {K : PySem.W.Frag} {mg : Str → Option Value} {base : Heap}
def sp_l_new_names (T : Txt K mg) : Sp := fun vs H Q _ => ∃ (F : Hp) (R : Own) (a : Addr) (ns : List Int), vs = [.ref a, .int 9] ∧ Has F ((a, .lst (ns.map V.int)) :: R) H ∧ FeedOk ns ∧
  ∀ p H' (ns' : List Int) xs, Has F ((p, .lst (xs.map V.str)) :: (a, .lst (ns'.map V.int)) :: R) H' → FeedOk ns' → NmsOk xs → Q (.ref p) H'
theorem sp_l_new_names_len {T : Txt K mg} {vs H Q E} (h : sp_l_new_names T vs H Q E) : vs.length = 2 := by
  obtain ⟨_, _, _, _, rfl, _⟩ := h
  rfl
theorem ok_l_new_names (T : Txt K mg) : FnOk P w K mg base CX0 2 T.f_l_new_names T.fd_l_new_names ["feed", "many"] (sp_l_new_names T) := by
  refine T.F_l_new_names.ok sc_l_new_names (fun vs H Q E h => sp_l_new_names_len h) (fun cdv A outer s H vs Q E hr h => ?_)
  refine ⟨_, (pss_cons (ps_set (i := 2) sc_l_new_names.nd rfl (.inr rfl) pe_str)
      (pss_cons (ps_set (i := 3) sc_l_new_names.nd rfl (.inr rfl) (pe_call (ok_l_next T) (hr.mono (by decide)) (by rfl) T.g_l_next T.F_l_next.kp T.b_l_next .nil pass0 (pa_cons (pv 0) (pa_cons pe_int pa_nil))))
      (pss_cons (ps_if (pt_cmpR (op_eqK K hr.units) (pe_call (ok_l_next T) (hr.mono (by decide)) (by rfl) T.g_l_next T.F_l_next.kp T.b_l_next .nil pass0 (pa_cons (pv 0) (pa_cons pe_int pa_nil))) pe_int (nomark _)) (pss_cons (ps_set (i := 4) sc_l_new_names.nd rfl (.inr rfl) (pe_lst (pa_cons pe_str (pa_cons pe_str (pa_cons pe_str (pa_cons pe_str pa_nil))))))
      (pss_cons (ps_set (i := 5) sc_l_new_names.nd rfl (.inr rfl) (pe_lc (own := [("k", 6)]) (g := gName 6) (tt := tYes) rfl sc_l_new_names.nd (pi_range1 rfl T.m_range (pa_cons (pv 1) pa_nil)) (blkOk_by (N := n_l_new_names) (sc := defScope s_l_new_names) (by decide +kernel)) (fun _ _ _ _ _ => (pg_name (i := 6) sc_l_new_names.nd rfl (.inl rfl))) (fun _ _ _ _ _ => pts_nil) (fun _ _ _ _ _ => (pe_ix (ix_K K (hu_of hr)) (pv 2) (pe_op op_mod (pe_callTy cr_int1 (by rfl) T.m_int (by decide +kernel) (pa_cons (pe_op (op_addK K) (pe_op op_mulA pe_int (pv 6)) (pv 3)) pa_nil)) pe_int) (fun _ _ => rfl)))))
      (pss_one (ps_ret (pe_lc (own := [("k", 6)]) (g := gName 6) (tt := tYes) rfl sc_l_new_names.nd (pi_range1 rfl T.m_range (pa_cons (pv 1) pa_nil)) (blkOk_by (N := n_l_new_names) (sc := defScope s_l_new_names) (by decide +kernel)) (fun _ _ _ _ _ => (pg_name (i := 6) sc_l_new_names.nd rfl (.inl rfl))) (fun _ _ _ _ _ => pts_nil) (fun _ _ _ _ _ => (pe_op (op_addK K) (pe_ix (ix_K K (hu_of hr)) (pv 5) (pv 6) (fun _ _ => rfl)) (pe_ix (ix_K K (hu_of hr)) (pv 4) (pe_op op_mod (pe_callTy cr_int1 (by rfl) T.m_int (by decide +kernel) (pa_cons (pv 6) pa_nil)) pe_int) (fun _ _ => rfl))))))))) pss_nil)
      (pss_cons (ps_set (i := 5) sc_l_new_names.nd rfl (.inr rfl) (pe_lc (own := [("k", 6)]) (g := gName 6) (tt := tYes) rfl sc_l_new_names.nd (pi_range1 rfl T.m_range (pa_cons (pv 1) pa_nil)) (blkOk_by (N := n_l_new_names) (sc := defScope s_l_new_names) (by decide +kernel)) (fun _ _ _ _ _ => (pg_name (i := 6) sc_l_new_names.nd rfl (.inl rfl))) (fun _ _ _ _ _ => pts_nil) (fun _ _ _ _ _ => (pe_op (op_addK K) (pe_ix (ix_K K (hu_of hr)) (pv 2) (pv 3) (fun _ _ => rfl)) (pe_op op_repZ pe_str (pe_op op_mod (pe_callTy cr_int1 (by rfl) T.m_int (by decide +kernel) (pa_cons (pv 6) pa_nil)) pe_int))))))
      (pss_one (ps_ret (pe_lc (own := [("k", 6)]) (g := gName 6) (tt := tYes) rfl sc_l_new_names.nd (pi_range1 rfl T.m_range (pa_cons (pv 1) pa_nil)) (blkOk_by (N := n_l_new_names) (sc := defScope s_l_new_names) (by decide +kernel)) (fun _ _ _ _ _ => (pg_name (i := 6) sc_l_new_names.nd rfl (.inl rfl))) (fun _ _ _ _ _ => pts_nil) (fun _ _ _ _ _ => (pe_op (op_addK K) (pe_ix (ix_K K (hu_of hr)) (pv 5) (pv 6) (fun _ _ => rfl)) (pe_ix (ix_K K (hu_of hr)) pe_str (pv 6) (fun _ _ => rfl))))))))))), ?_⟩
  obtain ⟨F, R, a, ns, rfl, h, fok, q⟩ := h
  refine g_start (σ' := [some (.ref a), some (.int 9), none, none, none, none, none]) rfl ?_
  walk_at "gg"
  refine ⟨a, ns, 26, rfl, by walk_at "h", fok, by decide, by decide, fun H1 ns1 t hb1 ha1 fok1 t0 t1 => ?_⟩
  have h1 := drw h hb1 ha1
  obtain ⟨t, rfl⟩ := Int.eq_ofNat_of_zero_le t0
  walk_at "gg"
  refine ⟨a, ns1, 2, rfl, by walk_at "h", fok1, by decide, by decide, fun H2 ns2 u hb2 ha2 fok2 u0 u1 => ?_⟩
  have h2 := drw h1 hb2 ha2
  walk_at "gg"
  refine i_d (fun _ => ?_) (fun _ => ?_)
  · walk_at "gg"
    refine g_klst (by walk_at "sz") h2 (fun p3 H3 n3 h3 => ?_)
    walk_at "gg"
    refine k_lcR1 (by decide) (by decide) h3 (fun i acc F' O' => acc = ((List.range i).map (hdA t)).map V.str ∧ F = F' ∧ O' = (p3, .lst (endsA.map V.str)) :: (a, .lst (ns2.map V.int)) :: R) ⟨rfl, rfl, rfl⟩ ?_ ?_
    · rintro i acc F' O' D H4 hi ⟨rfl, rfl, rfl⟩ hh
      walk_at "gg"
      refine g_mulI (.inl ⟨by decide, by decide⟩) ?_
      walk_at "gg"
      refine g_rI (by show (0 : Int) < 26; decide) ?_
      refine g_ixS (by decide) (lets_ix (Int.emod_nonneg _ (by decide)) (Int.emod_lt_of_pos _ (by decide))) ?_
      refine k_turn hh (by rw [List.length_map, List.length_map, List.length_range]; have : i < 9 := hi; omega) ⟨?_, rfl, rfl⟩
      rw [map_range1, List.map_append]
      have e : (((7 : Int) * (i : Int) + (t : Int)) % 26).toNat = (7 * i + t) % 26 := by omega
      rw [e]
      rfl
    rintro acc F' O' D H4 ⟨rfl, rfl, rfl⟩ h4
    walk_at "gg"
    refine k_lcR1 (by decide) (by decide) h4 (fun i acc F' O' => acc = ((List.range i).map (nmA t)).map V.str ∧ F = F' ∧ O' = (D, .lst (((List.range 9).map (hdA t)).map V.str)) :: (p3, .lst (endsA.map V.str)) :: (a, .lst (ns2.map V.int)) :: R) ⟨rfl, rfl, rfl⟩ ?_ ?_
    · rintro i acc F' O' D5 H5 hi ⟨rfl, rfl, rfl⟩ hh
      have hi : i < 9 := hi
      walk_at "gg"
      refine g_ixL (v := .str (hdA t i)) (hh.get (by walk_at "m")) (atI_nat ?_) ?_
      · rw [List.getElem?_map, List.getElem?_map, List.getElem?_range hi]
        rfl
      walk_at "gg"
      refine g_rI (by show (0 : Int) < 4; decide) ?_
      have e4 : (i : Int) % 4 = ((i % 4 : Nat) : Int) := by omega
      rw [e4]
      have m4 : i % 4 < 4 := Nat.mod_lt _ (by decide)
      have ee : endsA[i % 4]? = some ((endsA[i % 4]?).getD "") := by
        rw [List.getElem?_eq_getElem (show i % 4 < endsA.length from m4)]
        rfl
      refine g_ixL (v := .str ((endsA[i % 4]?).getD "")) (hh.get (by walk_at "m")) (atI_nat (by rw [List.getElem?_map, ee]; rfl)) ?_
      walk_at "gg"
      refine g_addS ?_ ?_
      · have : ∀ k : Fin 4, ((endsA[(k : Nat)]?).getD "").length ≤ 10 := by decide +kernel
        have := this ⟨i % 4, m4⟩
        have h1 : (hdA t i).length = 1 := rfl
        have hs := sizeLine_eq
        have : ((endsA[i % 4]?).getD "").length ≤ 10 := this
        omega
      refine k_turn hh (by rw [List.length_map, List.length_map, List.length_range]; omega) ⟨?_, rfl, rfl⟩
      rw [map_range1, List.map_append]
      rfl
    rintro acc F' O' D5 H5 ⟨rfl, rfl, rfl⟩ h5
    exact q D5 H5 ns2 _ (h5.sub (.cons_cons _ (.cons _ (.cons _ (List.Sublist.refl _))))) fok2 (NmsOk.of (nmA_ok ⟨t, by omega⟩))
  · walk_at "gg"
    refine k_lcR1 (by decide) (by decide) h2 (fun i acc F' O' => acc = ((List.range i).map (hdB t)).map V.str ∧ F = F' ∧ O' = (a, .lst (ns2.map V.int)) :: R) ⟨rfl, rfl, rfl⟩ ?_ ?_
    · rintro i acc F' O' D H4 hi ⟨rfl, rfl, rfl⟩ hh
      have hi : i < 9 := hi
      walk_at "gg"
      refine g_ixS (by decide) (lets_ix (by omega) (by omega)) ?_
      walk_at "gg"
      refine g_rI (by show (0 : Int) < 2; decide) ?_
      have e4 : (i : Int) % 2 = ((i % 2 : Nat) : Int) := by omega
      rw [e4]
      refine ⟨"m", _, rfl, rfl, by omega, by omega, by decide, ?_⟩
      refine g_addS ?_ ?_
      · have h1 : (repS "m" (i % 2)).length = (i % 2) * ("m" : Str).length := repS_len _ _
        have h2 : ("m" : Str).length = 1 := rfl
        have hs := sizeLine_eq
        show 1 + (repS "m" (i % 2)).length ≤ sizeLine
        rw [h1, h2]
        omega
      refine k_turn hh (by rw [List.length_map, List.length_map, List.length_range]; omega) ⟨?_, rfl, rfl⟩
      rw [map_range1, List.map_append]
      rfl
    rintro acc F' O' D H4 ⟨rfl, rfl, rfl⟩ h4
    walk_at "gg"
    refine k_lcR1 (by decide) (by decide) h4 (fun i acc F' O' => acc = ((List.range i).map (nmB t)).map V.str ∧ F = F' ∧ O' = (D, .lst (((List.range 9).map (hdB t)).map V.str)) :: (a, .lst (ns2.map V.int)) :: R) ⟨rfl, rfl, rfl⟩ ?_ ?_
    · rintro i acc F' O' D5 H5 hi ⟨rfl, rfl, rfl⟩ hh
      have hi : i < 9 := hi
      walk_at "gg"
      refine g_ixL (v := .str (hdB t i)) (hh.get (by walk_at "m")) (atI_nat ?_) ?_
      · rw [List.getElem?_map, List.getElem?_map, List.getElem?_range hi]
        rfl
      walk_at "gg"
      refine g_ixS (by decide) (tails_at ⟨i, hi⟩) ?_
      refine g_addS ?_ ?_
      · have h1 : (repS "m" (i % 2)).length = (i % 2) * ("m" : Str).length := repS_len _ _
        have h2 : ("m" : Str).length = 1 := rfl
        have h3 : (hdB t i).length = 1 + (repS "m" (i % 2)).length := Array.size_append ..
        have hs := sizeLine_eq
        show (hdB t i).length + 1 ≤ sizeLine
        rw [h3, h1, h2]
        omega
      refine k_turn hh (by rw [List.length_map, List.length_map, List.length_range]; omega) ⟨?_, rfl, rfl⟩
      rw [map_range1, List.map_append]
      rfl
    rintro acc F' O' D5 H5 ⟨rfl, rfl, rfl⟩ h5
    exact q D5 H5 ns2 _ (h5.sub (.cons_cons _ (.cons _ (List.Sublist.refl _)))) fok2 (NmsOk.of (nmB_ok ⟨t, by omega⟩))
end
end
section
def menuA : List Str := ["a", "", "b -1", "=|>", "<<<<<<<", "a b", "0", " ", "|||||||", "z9", "a "]
def menuB : List Str := ["=======", ">>>>>>>", "-", "b", "abcdefghij0123456789"]
def menuL : List Str := menuA ++ menuB
def roadsL : List Str := ["f", "d/g", "d2", "a/b/c", "zzzzzz", "0", "d", "q/r9"]
def lnS (t j : Nat) : Str := (menuL[(t + j) % 16]?).getD ""
def ptS (t j : Nat) : Str := (roadsL[(t + j) % 8]?).getD ""
structure ShpOk (ps ls : List Str) : Prop where
  lp : ps.length = 3
  ll : ls.length = 4
  nd : ps.Nodup
  pt : ∀ z ∈ ps, z ∈ roadsL
  ln : ∀ z ∈ ls, z ∈ menuL
theorem ptS_ok : ∀ t : Fin 8, (decide ((List.range 3).map (ptS t)).Nodup && ((List.range 3).map (ptS t)).all fun z => decide (z ∈ roadsL)) = true := by decide +kernel
theorem lnS_ok : ∀ t : Fin 16, (((List.range 4).map (lnS t)).all fun z => decide (z ∈ menuL)) = true := by decide +kernel
theorem shp_ok {t u : Nat} (ht : t < 16) (hu : u < 8) : ShpOk ((List.range 3).map (ptS u)) ((List.range 4).map (lnS t)) := by
  have h1 := ptS_ok ⟨u, hu⟩
  have h2 := lnS_ok ⟨t, ht⟩
  rw [Bool.and_eq_true, decide_eq_true_eq, List.all_eq_true] at h1
  rw [List.all_eq_true] at h2
  exact ⟨by rw [List.length_map, List.length_range], by rw [List.length_map, List.length_range], h1.1, fun z hz => of_decide_eq_true (h1.2 z hz), fun z hz => of_decide_eq_true (h2 z hz)⟩
/-- the shape stands at p -/
structure Shp (F : Hp) (p : Addr) (ps ls : List Str) : Prop where
  at_ : ∃ pa la, F p = some (.tup [.ref pa, .ref la, .int 3]) ∧ F pa = some (.lst (ps.map V.str)) ∧ F la = some (.lst (ls.map V.str))
theorem Shp.mono {F F' : Hp} {p : Addr} {ps ls : List Str} (h : Shp F p ps ls) (s : Same F F') : Shp F' p ps ls := by
  obtain ⟨pa, la, h1, h2, h3⟩ := h.at_
  exact ⟨pa, la, s _ _ h1, s _ _ h2, s _ _ h3⟩
section
variable {P : Program} {w : World} {K : PySem.W.Frag} {mg : Str → Option Value} {base : Heap}
def sp_l_new_shape (T : Txt K mg) : Sp := fun vs H Q _ => ∃ (F : Hp) (R : Own) (a : Addr) (ns : List Int), vs = [.ref a, .int 3, .int 3] ∧ Has F ((a, .lst (ns.map V.int)) :: R) H ∧ FeedOk ns ∧
  ∀ p H' F' (ns' : List Int) ps ls, Same F F' → Has F' ((a, .lst (ns'.map V.int)) :: R) H' → FeedOk ns' → Shp F' p ps ls → ShpOk ps ls → Q (.ref p) H'
theorem sp_l_new_shape_len {T : Txt K mg} {vs H Q E} (h : sp_l_new_shape T vs H Q E) : vs.length = 3 := by
  obtain ⟨_, _, _, _, rfl, _⟩ := h
  rfl
theorem ok_l_new_shape (T : Txt K mg) : FnOk P w K mg base CX0 2 T.f_l_new_shape T.fd_l_new_shape ["feed", "many", "most"] (sp_l_new_shape T) := by
  refine T.F_l_new_shape.ok sc_l_new_shape (fun vs H Q E h => sp_l_new_shape_len h) (fun cdv A outer s H vs Q E hr h => ?_)
  refine ⟨_, (pss_cons (ps_set (i := 3) sc_l_new_shape.nd rfl (.inr rfl) (pe_lst (pa_cons pe_str (pa_cons pe_str (pa_cons pe_str (pa_cons pe_str (pa_cons pe_str (pa_cons pe_str (pa_cons pe_str (pa_cons pe_str (pa_cons pe_str (pa_cons pe_str (pa_cons pe_str pa_nil)))))))))))))
      (pss_cons (ps_set (i := 3) sc_l_new_shape.nd rfl (.inr rfl) (pe_op (op_addK K) (pv 3) (pe_lst (pa_cons pe_str (pa_cons pe_str (pa_cons pe_str (pa_cons pe_str (pa_cons pe_str pa_nil))))))))
      (pss_cons (ps_set (i := 4) sc_l_new_shape.nd rfl (.inr rfl) (pe_lst (pa_cons pe_str (pa_cons pe_str (pa_cons pe_str (pa_cons pe_str (pa_cons pe_str (pa_cons pe_str (pa_cons pe_str (pa_cons pe_str pa_nil))))))))))
      (pss_cons (ps_set (i := 5) sc_l_new_shape.nd rfl (.inr rfl) (pe_call (ok_l_next T) (hr.mono (by decide)) (by rfl) T.g_l_next T.F_l_next.kp T.b_l_next .nil pass0 (pa_cons (pv 0) (pa_cons pe_int pa_nil))))
      (pss_cons (ps_set (i := 6) sc_l_new_shape.nd rfl (.inr rfl) (pe_call (ok_l_next T) (hr.mono (by decide)) (by rfl) T.g_l_next T.F_l_next.kp T.b_l_next .nil pass0 (pa_cons (pv 0) (pa_cons pe_int pa_nil))))
      (pss_cons (ps_setLc (i := 7) (own := [("j", 9)]) (g := gName 9) (tt := tYes) rfl sc_l_new_shape.nd rfl rfl (sw_true rfl rfl rfl (by decide +kernel)) (pi_range1 rfl T.m_range (pa_cons pe_int pa_nil)) (blkOk_by (N := n_l_new_shape) (sc := defScope s_l_new_shape) (by decide +kernel)) (fun _ _ _ _ _ => (pg_name (i := 9) sc_l_new_shape.nd rfl (.inl rfl))) (fun _ _ _ _ _ => pts_nil) (fun _ _ _ _ _ => (pe_ix (ix_K K (hu_of hr)) (pv 3) (pe_op op_mod (pe_callTy cr_int1 (by rfl) T.m_int (by decide +kernel) (pa_cons (pe_op (op_addK K) (pv 5) (pv 9)) pa_nil)) pe_int) (fun _ _ => rfl))))
      (pss_cons (ps_setLc (i := 8) (own := [("j", 9)]) (g := gName 9) (tt := tYes) rfl sc_l_new_shape.nd rfl rfl (sw_true rfl rfl rfl (by decide +kernel)) (pi_range1 rfl T.m_range (pa_cons (pv 1) pa_nil)) (blkOk_by (N := n_l_new_shape) (sc := defScope s_l_new_shape) (by decide +kernel)) (fun _ _ _ _ _ => (pg_name (i := 9) sc_l_new_shape.nd rfl (.inl rfl))) (fun _ _ _ _ _ => pts_nil) (fun _ _ _ _ _ => (pe_ix (ix_K K (hu_of hr)) (pv 4) (pe_op op_mod (pe_callTy cr_int1 (by rfl) T.m_int (by decide +kernel) (pa_cons (pe_op (op_addK K) (pv 6) (pv 9)) pa_nil)) pe_int) (fun _ _ => rfl))))
      (pss_one (ps_ret (pe_tup (pa_cons (pv 8) (pa_cons (pv 7) (pa_cons (pv 2) pa_nil))))))))))))), ?_⟩
  obtain ⟨F, R, a, ns, rfl, h, fok, q⟩ := h
  refine g_start (σ' := [some (.ref a), some (.int 3), some (.int 3), none, none, none, none, none, none, none]) rfl ?_
  walk_at "gg"
  refine g_klst (by walk_at "sz") h (fun m1 H1 n1 h1 => ?_)
  walk_at "gg"
  refine g_klst (by walk_at "sz") h1 (fun m2 H2 n2 h2 => ?_)
  refine g_addL (h2.get (by walk_at "m")) (h2.get (List.Mem.head _)) (sz (by decide)) h2 (fun m3 H3 n3 h3 => ?_)
  have h3 := h3.sub (O' := (m3, .lst (menuL.map V.str)) :: (a, .lst (ns.map V.int)) :: R) (.cons_cons _ (.cons _ (.cons _ (List.Sublist.refl _))))
  walk_at "gg"
  refine g_klst (by walk_at "sz") h3 (fun m4 H4 n4 h4 => ?_)
  have h4 := h4.perm (O' := (a, .lst (ns.map V.int)) :: (m4, .lst (roadsL.map V.str)) :: (m3, .lst (menuL.map V.str)) :: R) (by
    have := List.perm_middle (a := (a, HO.lst (ns.map V.int))) (l₁ := [(m4, HO.lst (roadsL.map V.str)), (m3, HO.lst (menuL.map V.str))]) (l₂ := R)
    exact this.symm)
  walk_at "gg"
  refine ⟨a, ns, 16, rfl, by walk_at "h", fok, by decide, by decide, fun H5 ns5 t hb5 ha5 fok5 t0 t1 => ?_⟩
  have h5 := drw h4 hb5 ha5
  obtain ⟨t, rfl⟩ := Int.eq_ofNat_of_zero_le t0
  walk_at "gg"
  refine ⟨a, ns5, 8, rfl, by walk_at "h", fok5, by decide, by decide, fun H6 ns6 u hb6 ha6 fok6 u0 u1 => ?_⟩
  have h6 := drw h5 hb6 ha6
  obtain ⟨u, rfl⟩ := Int.eq_ofNat_of_zero_le u0
  walk_at "gg"
  refine k_lcR1 (by decide) (by decide) h6 (fun i acc F' O' => acc = ((List.range i).map (lnS t)).map V.str ∧ F = F' ∧ O' = (a, .lst (ns6.map V.int)) :: (m4, .lst (roadsL.map V.str)) :: (m3, .lst (menuL.map V.str)) :: R) ⟨rfl, rfl, rfl⟩ ?_ ?_
  · rintro i acc F' O' D H7 hi ⟨rfl, rfl, rfl⟩ hh
    have hi : i < 4 := hi
    walk_at "gg"
    refine g_rI (by show (0 : Int) < 16; decide) ?_
    have e4 : ((t : Int) + (i : Int)) % 16 = (((t + i) % 16 : Nat) : Int) := by omega
    rw [e4]
    have m4 : (t + i) % 16 < 16 := Nat.mod_lt _ (by decide)
    have ee : menuL[(t + i) % 16]? = some (lnS t i) := by
      unfold lnS
      rw [List.getElem?_eq_getElem (show (t + i) % 16 < menuL.length from m4)]
      rfl
    refine g_ixL (v := .str (lnS t i)) (hh.get (by walk_at "m")) (atI_nat (by rw [List.getElem?_map, ee]; rfl)) ?_
    refine k_turn hh (by rw [List.length_map, List.length_map, List.length_range]; omega) ⟨?_, rfl, rfl⟩
    rw [map_range1, List.map_append]
    rfl
  rintro acc F' O' D7 H7 ⟨rfl, rfl, rfl⟩ h7
  walk_at "gg"
  refine k_lcR1 (by decide) (by decide) h7 (fun i acc F' O' => acc = ((List.range i).map (ptS u)).map V.str ∧ F = F' ∧ O' = (D7, .lst (((List.range 4).map (lnS t)).map V.str)) :: (a, .lst (ns6.map V.int)) :: (m4, .lst (roadsL.map V.str)) :: (m3, .lst (menuL.map V.str)) :: R) ⟨rfl, rfl, rfl⟩ ?_ ?_
  · rintro i acc F' O' D H8 hi ⟨rfl, rfl, rfl⟩ hh
    have hi : i < 3 := hi
    walk_at "gg"
    refine g_rI (by show (0 : Int) < 8; decide) ?_
    have e4 : ((u : Int) + (i : Int)) % 8 = (((u + i) % 8 : Nat) : Int) := by omega
    rw [e4]
    have m4 : (u + i) % 8 < 8 := Nat.mod_lt _ (by decide)
    have ee : roadsL[(u + i) % 8]? = some (ptS u i) := by
      unfold ptS
      rw [List.getElem?_eq_getElem (show (u + i) % 8 < roadsL.length from m4)]
      rfl
    refine g_ixL (v := .str (ptS u i)) (hh.get (by walk_at "m")) (atI_nat (by rw [List.getElem?_map, ee]; rfl)) ?_
    refine k_turn hh (by rw [List.length_map, List.length_map, List.length_range]; omega) ⟨?_, rfl, rfl⟩
    rw [map_range1, List.map_append]
    rfl
  rintro acc F' O' D8 H8 ⟨rfl, rfl, rfl⟩ h8
  walk_at "gg"
  have h8 : Has F ((D8, .lst (((List.range 3).map (ptS u)).map V.str)) :: (D7, .lst (((List.range 4).map (lnS t)).map V.str)) :: (a, .lst (ns6.map V.int)) :: (m4, .lst (roadsL.map V.str)) :: (m3, .lst (menuL.map V.str)) :: R) H8 := h8
  have s8 := h8.grow
  have f8 : upd F D8 (.lst (((List.range 3).map (ptS u)).map V.str)) D8 = some (.lst (((List.range 3).map (ptS u)).map V.str)) := upd_same
  have h8 := h8.frz
  generalize upd F D8 (.lst (((List.range 3).map (ptS u)).map V.str)) = F8 at h8 s8 f8
  have s9 := h8.grow
  have f9 : upd F8 D7 (.lst (((List.range 4).map (lnS t)).map V.str)) D7 = some (.lst (((List.range 4).map (lnS t)).map V.str)) := upd_same
  have h9 := h8.frz
  generalize upd F8 D7 (.lst (((List.range 4).map (lnS t)).map V.str)) = F9 at h9 s9 f9
  refine g_ktupF (by walk_at "sz") h9 (fun p H10 F10 n10 s10 f10 h10 => ?_)
  exact q p H10 F10 ns6 _ _ ((s8.trans s9).trans s10) (h10.sub (.cons_cons _ (.cons _ (.cons _ (List.Sublist.refl _))))) fok6 ⟨D8, D7, f10, s10 _ _ (s9 _ _ f8), s10 _ _ f9⟩ (shp_ok (by omega) (by omega))
end
end
section
def oddL : List Str := ["A", "a.b", "aaaaaaaaaaaaaaaaaaaaa", "#", "a_b", "~"]
def oddP : List Str := ["", "A", "a/", "/a", "a//b", "a/b/c/d", "abcdefg", "a b", "a.b", "a/B"]
def esP : List Str := ["e0", "e1", "e2", "e3", "e4", "e5", "e6", "e7", "e8"]
def allL : List Str := menuL ++ (("a" : Str) :: ("b" : Str) :: oddL)
def allP : List Str := roadsL ++ oddP ++ esP
def TxG (t : Tx) : Prop := t.length ≤ 42 ∧ ∀ l ∈ t, l ∈ allL
def OxG (o : Option Tx) : Prop := ∀ t, o = some t → TxG t
structure TrG (A : Tr) : Prop where
  nd : (A.map (·.1)).Nodup
  pt : ∀ p ∈ A, p.1 ∈ allP
  tx : ∀ p ∈ A, TxG p.2
theorem menu_all {z : Str} (h : z ∈ menuL) : z ∈ allL := List.mem_append_left _ h
theorem roads_all {z : Str} (h : z ∈ roadsL) : z ∈ allP := List.mem_append_left _ (List.mem_append_left _ h)
theorem cut3 (ws : List V) : (cutV ws (some (-3)) none).length ≤ 3 := by
  unfold cutV
  rw [HT.sIx_none]
  have e : HT.sIx ws.length 0 (some (-3)) = ws.length - 3 := by
    show (if (-3 : Int) < 0 then ((-3 : Int) + ((ws.length : Nat) : Int)).toNat else min (-3 : Int).toNat ws.length) = ws.length - 3
    rw [if_pos (by decide)]
    omega
  rw [e, List.length_take, List.length_drop]
  omega
theorem cut_sub (xs : List Str) (lo hi : Option Int) : ∃ ys : List Str, cutV (xs.map V.str) lo hi = ys.map V.str ∧ ∀ y ∈ ys, y ∈ xs := by
  unfold cutV
  rw [← List.map_drop, ← List.map_take]
  exact ⟨_, rfl, fun y hy => List.mem_of_mem_drop (List.mem_of_mem_take hy)⟩
section
variable {P : Program} {w : World} {K : PySem.W.Frag} {mg : Str → Option Value} {base : Heap}
def sp_l_new_text (T : Txt K mg) : Sp := fun vs H Q _ => ∃ (F : Hp) (R : Own) (a p : Addr) (ns : List Int) (k : Nat) (vo : V) (o : Option Tx) (ps ls : List Str), vs = [.ref a, .int (k : Nat), vo, .ref p] ∧ Has F ((a, .lst (ns.map V.int)) :: R) H ∧ FeedOk ns ∧ k ≤ 1000 ∧ Shp F p ps ls ∧ ShpOk ps ls ∧ Dq F vo (oxD o) ∧ OxG o ∧
  ∀ v H' F' (ns' : List Int) o', Same F F' → Has F' ((a, .lst (ns'.map V.int)) :: R) H' → FeedOk ns' → Dq F' v (oxD o') → OxG o' → Q v H'
theorem sp_l_new_text_len {T : Txt K mg} {vs H Q E} (h : sp_l_new_text T vs H Q E) : vs.length = 4 := by
  obtain ⟨_, _, _, _, _, _, _, _, _, _, rfl, _⟩ := h
  rfl
theorem ok_l_new_text (T : Txt K mg) : FnOk P w K mg base CX0 2 T.f_l_new_text T.fd_l_new_text ["feed", "k", "old", "shape"] (sp_l_new_text T) := by
  refine T.F_l_new_text.ok sc_l_new_text (fun vs H Q E h => sp_l_new_text_len h) (fun cdv A outer s H vs Q E hr h => ?_)
  refine ⟨_, (pss_cons (ps_set (i := 4) sc_l_new_text.nd rfl (.inr rfl) (pe_ix (ix_K K (hu_of hr)) (pv 3) pe_int (fun _ _ => rfl)))
      (pss_cons (ps_set (i := 5) sc_l_new_text.nd rfl (.inl rfl) (pe_call (ok_l_next T) (hr.mono (by decide)) (by rfl) T.g_l_next T.F_l_next.kp T.b_l_next .nil pass0 (pa_cons (pv 0) (pa_cons pe_int pa_nil))))
      (pss_cons (ps_if (pt_cmpR (op_eqK K hr.units) (pv 5) pe_int (nomark _)) (pss_one (ps_ret (pe_lst (pa_cons (pe_ix (ix_K K (hu_of hr)) (pv 4) (pe_op op_mod (pe_callTy cr_int1 (by rfl) T.m_int (by decide +kernel) (pa_cons (pv 1) pa_nil)) pe_int) (fun _ _ => rfl)) (pa_cons (pe_ix (ix_K K (hu_of hr)) (pv 4) (pe_op op_mod (pe_callTy cr_int1 (by rfl) T.m_int (by decide +kernel) (pa_cons (pe_op (op_addK K) (pv 1) pe_int) pa_nil)) pe_int) (fun _ _ => rfl)) pa_nil))))) pss_nil)
      (pss_cons (ps_if (pt_cmpR (op_eqK K hr.units) (pv 5) pe_int (nomark _)) (pss_one (ps_ret (pv 2))) pss_nil)
      (pss_cons (ps_if (pt_cmpR (op_eqK K hr.units) (pv 5) pe_int (nomark _)) (pss_one (ps_ret pe_non)) pss_nil)
      (pss_cons (ps_if (PW.pt (pw_and (pt_cmpR (op_eqK K hr.units) (pv 5) pe_int (nomark _)) (pw_and1 (pt_cmpR op_notNA (pv 2) pe_non (nomark _))))) (pss_one (ps_ret (pe_slice (sl_M K) (pe_op (op_addK K) (pv 2) (pe_lst (pa_cons (pe_ix (ix_K K (hu_of hr)) (pv 4) (pe_call (ok_l_next T) (hr.mono (by decide)) (by rfl) T.g_l_next T.F_l_next.kp T.b_l_next .nil pass0 (pa_cons (pv 0) (pa_cons pe_int pa_nil))) (fun _ _ => rfl)) pa_nil))) (po_some (pe_un un_neg (pe_ix (ix_K K (hu_of hr)) (pv 3) pe_int (fun _ _ => rfl)))) po_none))) pss_nil)
      (pss_cons (ps_set (i := 6) sc_l_new_text.nd rfl (.inl rfl) (pe_callB (cr_min2 rfl) (by rfl) T.m_min (by decide +kernel) (pa_cons (pe_ix (ix_K K (hu_of hr)) (pv 3) pe_int (fun _ _ => rfl)) (pa_cons (pe_op op_mod (pe_callTy cr_int1 (by rfl) T.m_int (by decide +kernel) (pa_cons (pv 5) pa_nil)) pe_int) pa_nil))))
      (pss_one (ps_ret (pe_lc (own := [("j", 7)]) (g := gName 7) (tt := tYes) rfl sc_l_new_text.nd (pi_range1 rfl T.m_range (pa_cons (pv 6) pa_nil)) (blkOk_by (N := n_l_new_text) (sc := defScope s_l_new_text) (by decide +kernel)) (fun _ _ _ _ _ => (pg_name (i := 7) sc_l_new_text.nd rfl (.inl rfl))) (fun _ _ _ _ _ => pts_nil) (fun _ _ _ _ _ => (pe_ix (ix_K K (hu_of hr)) (pv 4) (pe_call (ok_l_next T) (hr.mono (by decide)) (by rfl) T.g_l_next T.F_l_next.kp T.b_l_next .nil pass0 (pa_cons (pv 0) (pa_cons pe_int pa_nil))) (fun _ _ => rfl))))))))))))), ?_⟩
  obtain ⟨F, R, a, p, ns, k, vo, o, ps, ls, rfl, h, fok, lk, shp, sok, dvo, og, q⟩ := h
  refine g_start (σ' := [some (.ref a), some (.int (k : Nat)), some (vo), some (.ref p), none, none, none, none]) rfl ?_
  obtain ⟨pa, la, hp, hpa, hla⟩ := shp.at_
  have ll := sok.ll
  have lnG : ∀ z ∈ ls, z ∈ allL := fun z hz => menu_all (sok.ln z hz)
  walk_at "gg"
  refine g_ixT (v := .ref la) (h.same _ _ hp) (atI_nat (j := 1) rfl) ?_
  walk_at "gg"
  refine ⟨a, ns, 8, rfl, by walk_at "h", fok, by decide, by decide, fun H1 ns1 u hb1 ha1 fok1 u0 u1 => ?_⟩
  have h1 := drw h hb1 ha1
  walk_at "gg"
  refine i_d (fun _ => ?_) (fun _ => ?_)
  · walk_at "gg"
    refine g_rI (by show (0 : Int) < 4; decide) ?_
    refine g_ixZ (h1.same _ _ hla) (Int.emod_nonneg _ (by decide)) (by rw [ll]; exact Int.emod_lt_of_pos _ (by decide)) (fun z1 hz1 => ?_)
    walk_at "gg"
    refine g_rI (by show (0 : Int) < 4; decide) ?_
    refine g_ixZ (h1.same _ _ hla) (Int.emod_nonneg _ (by decide)) (by rw [ll]; exact Int.emod_lt_of_pos _ (by decide)) (fun z2 hz2 => ?_)
    walk_at "gg"
    refine g_klstF (by walk_at "sz") h1 (fun p2 H2 F2 n2 s2 f2 h2 => ?_)
    refine q _ H2 F2 ns1 (some [z1, z2]) s2 h2 fok1 (Dq.strs (xs := [z1, z2]) f2) (fun t et => ?_)
    injection et with et
    subst et
    refine ⟨by show 2 ≤ 42; decide, fun l hl => ?_⟩
    simp only [List.mem_cons, List.not_mem_nil, or_false] at hl
    rcases hl with rfl | rfl
    · exact lnG _ (List.mem_of_getElem? hz1)
    · exact lnG _ (List.mem_of_getElem? hz2)
  walk_at "gg"
  refine i_d (fun _ => ?_) (fun _ => ?_)
  · walk_at "gg"
    exact q vo H1 F ns1 o (Same.refl _) h1 fok1 dvo og
  walk_at "gg"
  refine i_d (fun _ => ?_) (fun _ => ?_)
  · walk_at "gg"
    exact q .non H1 F ns1 none (Same.refl _) h1 fok1 .non (fun t et => by cases et)
  iterate 2 walk_at "g"
  refine g_joinD (fun σ' H' => ∃ y6 y7, σ' = [some (.ref a), some (.int (k : Nat)), some vo, some (.ref p), some (.ref la), some (.int u), y6, y7] ∧ H' = H1) ?_ (fun nx key => ?_)
  · rintro σ' H' ⟨y6, y7, rfl, rfl⟩
    walk_at "gg"
    refine g_ixT (v := .int 3) (h1.same _ _ hp) (atI_nat (j := 2) rfl) ?_
    walk_at "gg"
    refine g_rI (by show (0 : Int) < 4; decide) ?_
    have e4 : u % 4 = (((u % 4).toNat : Nat) : Int) := by omega
    walk_at "gg"
    have m3 : min 3 (u % 4) ≤ 3 := Int.min_le_left _ _
    refine k_lcR1 (by omega) (by omega) h1 (fun i acc F' O' => ∃ (xs : List Str) (ns2 : List Int), acc = xs.map V.str ∧ xs.length = i ∧ (∀ z ∈ xs, z ∈ allL) ∧ F = F' ∧ O' = (a, .lst (ns2.map V.int)) :: R ∧ FeedOk ns2) ⟨[], ns1, rfl, rfl, (fun z hz => by cases hz), rfl, rfl, fok1⟩ ?_ ?_
    · rintro i acc F' O' D H2 hi ⟨xs, ns2, rfl, rfl, gx, rfl, rfl, fok2⟩ hh
      walk_at "gg"
      refine ⟨a, ns2, 4, rfl, by walk_at "h", fok2, by decide, by decide, fun H3 ns3 x hb3 ha3 fok3 x0 x1 => ?_⟩
      have hh := hh.but (.tl .hd) hb3 ha3
      refine g_ixZ (hh.same _ _ hla) x0 (by rw [ll]; exact x1) (fun z1 hz1 => ?_)
      refine k_turn hh (by rw [List.length_map]; omega) ⟨xs ++ [z1], ns3, by rw [List.map_append]; rfl, by rw [List.length_append]; rfl, fun z hz => ?_, rfl, rfl, fok3⟩
      rcases List.mem_append.mp hz with hz | hz
      · exact gx z hz
      · rw [List.mem_singleton.mp hz]
        exact lnG _ (List.mem_of_getElem? hz1)
    · rintro acc F' O' D H2 ⟨xs, ns2, rfl, lx, gx, rfl, rfl, fok2⟩ hh
      have s2 := hh.grow
      have f2 : upd F D (.lst (xs.map V.str)) D = some (.lst (xs.map V.str)) := upd_same
      exact q _ H2 _ ns2 (some xs) s2 hh.frz fok2 (Dq.strs f2) (fun t et => by
        injection et with et
        subst et
        exact ⟨by omega, gx⟩)
  walk_at "gg"
  refine i_d (fun _ => ?_) (fun _ => ?_)
  · walk_at "gg"
    cases o with
    | none =>
      have e : vo = .non := by
        cases dvo
        rfl
      subst e
      walk_at "gg"
      rw [if_neg (by simp)]
      exact key _ _ ⟨_, _, rfl, rfl⟩
    | some x =>
      obtain ⟨l, rfl, hl⟩ := Dq.of_strs (xs := x) dvo
      obtain ⟨lx, gx⟩ := og x rfl
      walk_at "gg"
      rw [if_pos (by simp)]
      walk_at "gg"
      refine ⟨a, ns1, 4, rfl, by walk_at "h", fok1, by decide, by decide, fun H3 ns3 y hb3 ha3 fok3 y0 y1 => ?_⟩
      have h3 := drw h1 hb3 ha3
      refine g_ixZ (h3.same _ _ hla) y0 (by rw [ll]; exact y1) (fun z1 hz1 => ?_)
      walk_at "gg"
      refine g_klst (by walk_at "sz") h3 (fun p4 H4 n4 h4 => ?_)
      refine g_addL (h4.same _ _ hl) (h4.get (List.Mem.head _)) (sz (by rw [List.length_map]; show x.length + 1 ≤ 100000; omega)) h4 (fun p5 H5 n5 h5 => ?_)
      walk_at "gg"
      refine g_ixT (v := .int 3) (h5.same _ _ hp) (atI_nat (j := 2) rfl) ?_
      walk_at "gg"
      refine g_slM (g_slL (h5.get (List.Mem.head _)) h5 (fun p6 H6 n6 h6 => ?_))
      have ew : x.map V.str ++ [V.str z1] = (x ++ [z1]).map V.str := by rw [List.map_append]; rfl
      rw [ew] at h6
      obtain ⟨ys, ey, sy⟩ := cut_sub (x ++ [z1]) (some (-3)) none
      have l3 := cut3 ((x ++ [z1]).map V.str)
      rw [ey] at h6 l3
      rw [List.length_map] at l3
      have h6 := h6.sub (O' := (p6, .lst (ys.map V.str)) :: (a, .lst (ns3.map V.int)) :: R) (.cons_cons _ (.cons _ (.cons _ (List.Sublist.refl _))))
      have s6 := h6.grow
      have f6 : upd F p6 (.lst (ys.map V.str)) p6 = some (.lst (ys.map V.str)) := upd_same
      refine q _ H6 _ ns3 (some ys) s6 h6.frz fok3 (Dq.strs f6) (fun t et => ?_)
      injection et with et
      subst et
      refine ⟨by omega, fun z hz => ?_⟩
      rcases List.mem_append.mp (sy z hz) with hz | hz
      · exact gx z hz
      · rw [List.mem_singleton.mp hz]
        exact lnG _ (List.mem_of_getElem? hz1)
  · walk_at "gg"
    exact key _ _ ⟨_, _, rfl, rfl⟩
end
end
section
def TV (F : Hp) (kvs : List (Key × V)) (B : Tr) : Prop := kvs.map (·.1) = B.map (fun p => kS p.1) ∧ DqAll F (kvs.map (·.2)) (B.map fun p => txD p.2)
theorem TV.mono {F F' : Hp} {kvs : List (Key × V)} {B : Tr} (h : TV F kvs B) (s : Same F F') : TV F' kvs B := ⟨h.1, h.2.up s _ _⟩
theorem TV.len {F : Hp} {kvs : List (Key × V)} {B : Tr} (h : TV F kvs B) : kvs.length = B.length := by
  have := congrArg List.length h.1
  rwa [List.length_map, List.length_map] at this
theorem TV.none {F : Hp} {kvs : List (Key × V)} {B : Tr} (h : TV F kvs B) {z : Str} (n : z ∉ B.map (·.1)) : valV kvs (.inr z) = none := by
  have := (tr_get z h.1 h.2).2
  rw [getT_none.mpr n] at this
  cases e : valV kvs (.inr z) with
  | none => rfl
  | some v => rw [e] at this; cases this
theorem TV.snoc {F : Hp} {kvs : List (Key × V)} {B : Tr} (h : TV F kvs B) {z : Str} {t : Tx} {v : V} (d : Dq F v (txD t)) : TV F (kvs ++ [(kS z, v)]) (B ++ [(z, t)]) := by
  refine ⟨by rw [List.map_append, List.map_append, h.1]; rfl, ?_⟩
  rw [List.map_append, List.map_append]
  exact h.2.snoc d
theorem TV.at {F : Hp} {d : Addr} {kvs : List (Key × V)} {B : Tr} (h : TV F kvs B) (e : F d = some (.dK kvs)) (n : (B.map (·.1)).Nodup) : TrAt F d B := ⟨kvs, e, h.1, n, h.2⟩
theorem TrG.nil : TrG [] := ⟨List.nodup_nil, (fun p h => by cases h), fun p h => by cases h⟩
theorem TrG.snoc {B : Tr} (h : TrG B) {z : Str} {t : Tx} (n : z ∉ B.map (·.1)) (zp : z ∈ allP) (g : TxG t) : TrG (B ++ [(z, t)]) := by
  refine ⟨?_, fun p hp => ?_, fun p hp => ?_⟩
  · rw [List.map_append]
    refine List.nodup_append.mpr ⟨h.nd, List.nodup_cons.mpr ⟨List.not_mem_nil, List.nodup_nil⟩, fun a ha b hb e => ?_⟩
    have hb : b = z := List.mem_singleton.mp hb
    exact n (by rw [← hb, ← e]; exact ha)
  · rcases List.mem_append.mp hp with hp | hp
    · exact h.pt p hp
    · rw [List.mem_singleton.mp hp]; exact zp
  · rcases List.mem_append.mp hp with hp | hp
    · exact h.tx p hp
    · rw [List.mem_singleton.mp hp]; exact g
theorem TrG.get {B : Tr} (h : TrG B) (z : Str) : OxG (getT B z) := fun t e => h.tx _ (getT_mem e)
section
variable {P : Program} {w : World} {K : PySem.W.Frag} {mg : Str → Option Value} {base : Heap}
def sp_l_new_tree (T : Txt K mg) : Sp := fun vs H Q _ => ∃ (F : Hp) (R : Own) (a od p : Addr) (ns : List Int) (k : Nat) (A : Tr) (ps ls : List Str), vs = [.ref a, .int (k : Nat), .ref od, .ref p] ∧ Has F ((a, .lst (ns.map V.int)) :: R) H ∧ FeedOk ns ∧ k ≤ 100 ∧ Shp F p ps ls ∧ ShpOk ps ls ∧ TrAt F od A ∧ TrG A ∧
  ∀ d H' F' (ns' : List Int) kvs B, Same F F' → Has F' ((d, .dK kvs) :: (a, .lst (ns'.map V.int)) :: R) H' → FeedOk ns' → TV F' kvs B → TrG B → B.length ≤ 3 → Q (.ref d) H'
theorem sp_l_new_tree_len {T : Txt K mg} {vs H Q E} (h : sp_l_new_tree T vs H Q E) : vs.length = 4 := by
  obtain ⟨_, _, _, _, _, _, _, _, _, _, rfl, _⟩ := h
  rfl
theorem ok_l_new_tree (T : Txt K mg) : FnOk P w K mg base CX0 3 T.f_l_new_tree T.fd_l_new_tree ["feed", "k", "old", "shape"] (sp_l_new_tree T) := by
  refine T.F_l_new_tree.ok sc_l_new_tree (fun vs H Q E h => sp_l_new_tree_len h) (fun cdv A outer s H vs Q E hr h => ?_)
  refine ⟨_, (pss_cons (ps_set (i := 4) sc_l_new_tree.nd rfl (.inl rfl) pe_dnewK)
      (pss_cons (ps_for PassesOwn.never rfl (pi_range1 rfl T.m_range (pa_cons (pe_callB (cr_lenK K) (by rfl) T.m_len (by decide +kernel) (pa_cons (pe_ix (ix_K K (hu_of hr)) (pv 3) pe_int (fun _ _ => rfl)) pa_nil)) pa_nil)) (pg_name (i := 5) sc_l_new_tree.nd rfl (.inl rfl)) (pss_cons (ps_set (i := 6) sc_l_new_tree.nd rfl (.inl rfl) (pe_ix (ix_K K (hu_of hr)) (pe_ix (ix_K K (hu_of hr)) (pv 3) pe_int (fun _ _ => rfl)) (pv 5) (fun _ _ => rfl)))
      (pss_cons (ps_set (i := 7) sc_l_new_tree.nd rfl (.inl rfl) (pe_call (ok_l_new_text T) (hr.mono (by decide)) (by rfl) T.g_l_new_text T.F_l_new_text.kp T.b_l_new_text .nil pass0 (pa_cons (pv 0) (pa_cons (pe_op (op_addK K) (pv 1) (pv 5)) (pa_cons (pe_dget1 (hu_of hr) (pv 2) (pv 6) ⟨rfl, rfl, rfl, rfl⟩) (pa_cons (pv 3) pa_nil))))))
      (pss_one (ps_if (pt_cmpR op_notNA (pv 7) pe_non (nomark _)) (pss_one (ps_asg (pv 7) (pg_sub (pv 4) (pv 6) (set_any (hu_of hr))))) pss_nil)))))
      (pss_one (ps_ret (pv 4))))), ?_⟩
  obtain ⟨F, R, a, od, p, ns, k, A, ps, ls, rfl, h, fok, lk, shp, sok, ⟨ok, hod, eko, ndo, dqo⟩, ga, q⟩ := h
  refine g_start (σ' := [some (.ref a), some (.int (k : Nat)), some (.ref od), some (.ref p), none, none, none, none]) rfl ?_
  obtain ⟨pa, la, hp, hpa, hla⟩ := shp.at_
  have lp := sok.lp
  walk_at "gg"
  refine g_dnewK h (fun d H1 n1 h1 => ?_)
  walk_at "gg"
  refine g_ixT (v := .ref pa) (h1.same _ _ hp) (atI_nat (j := 0) rfl) ?_
  refine .inl ⟨pa, ps.map V.str, rfl, .inl (SqL.of (h1.same _ _ hpa)), ?_⟩
  rw [List.length_map, lp]
  walk_at "gg"
  refine k_forR1 (fun j σ H' => ∃ (F' : Hp) (ns' : List Int) (kvs : List (Key × V)) (B : Tr) (y5 y6 y7 : Option V), σ = [some (.ref a), some (.int (k : Nat)), some (.ref od), some (.ref p), some (.ref d), y5, y6, y7] ∧ Same F F' ∧ Has F' ((d, .dK kvs) :: (a, .lst (ns'.map V.int)) :: R) H' ∧ FeedOk ns' ∧ TV F' kvs B ∧ TrG B ∧ B.length ≤ j ∧ ∀ z ∈ B.map (·.1), z ∈ ps.take j) (by decide) (by decide) ⟨F, ns, [], [], _, _, _, rfl, Same.refl _, h1, fok, ⟨rfl, .nil⟩, TrG.nil, Nat.le_refl _, fun z hz => by cases hz⟩ ?_ ?_
  · rintro j σ H2 hj ⟨F', ns', kvs, B, y5, y6, y7, rfl, sF, h2, fok2, tv, gb, lb, mb⟩
    have hj : j < 3 := hj
    walk_at "gg"
    refine g_ixT (v := .ref pa) (h2.same _ _ (sF _ _ hp)) (atI_nat (j := 0) rfl) ?_
    walk_at "gg"
    refine g_ixZ (h2.same _ _ (sF _ _ hpa)) (by omega) (by rw [lp]; omega) (fun z hz => ?_)
    have hz : ps[j]? = some z := hz
    walk_at "gg"
    have nz : z ∉ B.map (·.1) := fun m => by
      obtain ⟨i, hi⟩ := List.mem_iff_getElem?.mp (mb z m)
      have li := (List.getElem?_eq_some_iff.mp hi).1
      rw [List.length_take] at li
      rw [List.getElem?_take_of_lt (by omega)] at hi
      have := nd_inj sok.nd hi hz
      omega
    refine g_get1 ?_
    walk_at "gg"
    refine g_kget1 (h2.same _ _ (sF _ _ hod)) ?_
    walk_at "gg"
    refine g_kgotS (h2.same _ _ (sF _ _ hod)) ?_
    walk_at "gg"
    have dv := (tr_get z eko dqo).1
    have h2' := h2.perm (List.Perm.swap (d, HO.dK kvs) (a, HO.lst (ns'.map V.int)) R)
    refine ⟨F', (d, .dK kvs) :: R, a, p, ns', k + j, _, getT A z, ps, ls, rfl, h2', fok2, by omega, shp.mono sF, sok, dv.up sF _ _, ga.get z, fun v H3 F3 ns3 o' s3 h3 fok3 d3 og3 => ?_⟩
    have h3 := h3.perm (List.Perm.swap (a, HO.lst (ns3.map V.int)) (d, HO.dK kvs) R)
    walk_at "gg"
    cases o' with
    | none =>
      have e : v = .non := by
        cases d3
        rfl
      subst e
      walk_at "gg"
      rw [if_neg (by simp)]
      exact ⟨F3, ns3, kvs, B, _, _, _, rfl, sF.trans s3, h3, fok3, tv.mono s3, gb, by omega, fun y hy => by
        have := mb y hy
        rw [List.take_add_one]
        exact List.mem_append_left _ this⟩
    | some t =>
      obtain ⟨l, rfl, hl⟩ := Dq.of_strs (xs := t) d3
      rw [if_pos (by simp)]
      walk_at "gg"
      have zp : z ∈ ps := List.mem_of_getElem? hz
      refine g_stD (k := .inr z) rfl h3 .hd (szl (by rw [tv.len]; omega)) (fun H4 h4 => ?_)
      rw [putK_new _ (tv.none nz)] at h4
      refine ⟨F3, ns3, _, B ++ [(z, t)], _, _, _, rfl, sF.trans s3, h4, fok3, (tv.mono s3).snoc d3, gb.snoc nz (roads_all (sok.pt z zp)) (og3 t rfl), by rw [List.length_append]; show _ + 1 ≤ _; omega, fun y hy => ?_⟩
      rw [List.take_add_one, hz]
      rw [List.map_append] at hy
      rcases List.mem_append.mp hy with hy | hy
      · exact List.mem_append_left _ (mb y hy)
      · exact List.mem_append_right _ hy
  · rintro σ H2 ⟨F', ns', kvs, B, y5, y6, y7, rfl, sF, h2, fok2, tv, gb, lb, mb⟩
    walk_at "gg"
    exact q d H2 F' ns' kvs B sF h2 fok2 tv gb lb
end
end
section
local macro_rules | `(tactic| walk_at "g") => `(tactic| (with_reducible refine g_forE ?_))
local macro_rules | `(tactic| walk_at "g") => `(tactic| first
  | (with_reducible refine g_dcL ?_)
  | (with_reducible refine g_dcT ?_)
  | (with_reducible refine g_m1s ?_)
  | (with_reducible refine g_km1s ?_)
  | (with_reducible refine g_starts ?_)
  | (with_reducible refine g_tryX ?_)
  | (with_reducible refine g_lcS ?_))
theorem putK_cons {kv : Key × V} {r : List (Key × V)} {k : Key} {u : V} (n : kv.1 ∉ r.map (·.1)) : putK (kv :: r) k u = if kv.1 = k then (kv.1, u) :: r else kv :: putK r k u := by
  unfold putK
  by_cases h : kv.1 = k
  · have a : ((kv :: r).any fun q => decide (q.1 = k)) = true := List.any_eq_true.mpr ⟨kv, List.mem_cons_self, decide_eq_true h⟩
    rw [if_pos a, if_pos h, List.map_cons, if_pos h]
    congr 1
    refine (List.map_congr_left fun q hq => ?_).trans (List.map_id r)
    rw [if_neg (fun e => n (by rw [h, ← e]; exact List.mem_map.mpr ⟨q, hq, rfl⟩))]
    rfl
  · rw [if_neg h, List.any_cons, decide_eq_false h, Bool.false_or]
    split
    · rw [List.map_cons, if_neg h]
    · rfl
def putT : Tr → Str → Tx → Tr
  | [], z, t => [(z, t)]
  | p :: r, z, t => if p.1 = z then (z, t) :: r else p :: putT r z t
theorem putT_mem {z : Str} {t : Tx} {q : Str × Tx} : ∀ {A : Tr}, q ∈ putT A z t → q = (z, t) ∨ q ∈ A
  | [], h => .inl (List.mem_singleton.mp h)
  | p :: r, h => by
    unfold putT at h
    split at h
    · rcases List.mem_cons.mp h with h | h
      · exact .inl h
      · exact .inr (List.mem_cons_of_mem _ h)
    · rcases List.mem_cons.mp h with h | h
      · exact .inr (by rw [h]; exact List.mem_cons_self)
      · rcases putT_mem h with h | h
        · exact .inl h
        · exact .inr (List.mem_cons_of_mem _ h)
theorem putT_len (z : Str) (t : Tx) : ∀ A : Tr, (putT A z t).length ≤ A.length + 1
  | [] => by simp [putT]
  | p :: r => by
    unfold putT
    split
    · simp
    · have := putT_len z t r
      rw [List.length_cons, List.length_cons]
      omega
theorem putT_nd {z : Str} {t : Tx} : ∀ {A : Tr}, (A.map (·.1)).Nodup → ((putT A z t).map (·.1)).Nodup
  | [], _ => List.nodup_cons.mpr ⟨List.not_mem_nil, List.nodup_nil⟩
  | p :: r, n => by
    rw [List.map_cons] at n
    have n' := List.nodup_cons.mp n
    unfold putT
    split
    · rename_i h
      rw [List.map_cons, ← h]
      exact n
    · rename_i h
      rw [List.map_cons]
      refine List.nodup_cons.mpr ⟨fun m => ?_, putT_nd n'.2⟩
      obtain ⟨q, hq, e⟩ := List.mem_map.mp m
      rcases putT_mem hq with rfl | hq
      · exact h e.symm
      · exact n'.1 (List.mem_map.mpr ⟨q, hq, e⟩)
theorem keysT {z : Str} {t : Tx} {u : V} : ∀ {kvs : List (Key × V)} {es : Tr}, kvs.map (·.1) = es.map (fun p => kS p.1) → (es.map (·.1)).Nodup → (putK kvs (.inr z) u).map (·.1) = (putT es z t).map (fun p => kS p.1)
  | [], [], _, _ => rfl
  | [], _ :: _, e, _ => by cases e
  | _ :: _, [], e, _ => by cases e
  | kv :: kvs, p :: es, e, nd => by
    rw [List.map_cons, List.map_cons] at e
    injection e with e1 e2
    rw [List.map_cons] at nd
    have nd' := List.nodup_cons.mp nd
    have nk : kv.1 ∉ kvs.map (·.1) := fun m => by
      rw [e1, e2] at m
      obtain ⟨q, hq, eq⟩ := List.mem_map.mp m
      have : q.1 = p.1 := Sum.inr.inj eq
      exact nd'.1 (List.mem_map.mpr ⟨q, hq, this⟩)
    rw [putK_cons nk]
    unfold putT
    by_cases h : p.1 = z
    · have h2 : kv.1 = Sum.inr z := by rw [e1, ← h]; rfl
      rw [if_pos h, if_pos h2, List.map_cons, List.map_cons, e2, h2]
      rfl
    · have h2 : ¬ kv.1 = Sum.inr z := fun e => h (Sum.inr.inj (e1.symm.trans e))
      rw [if_neg h, if_neg h2, List.map_cons, List.map_cons, e1, keysT e2 nd'.2]
theorem dqT {F : Hp} {z : Str} {t : Tx} {u : V} (du : Dq F u (txD t)) : ∀ {kvs : List (Key × V)} {es : Tr}, kvs.map (·.1) = es.map (fun p => kS p.1) → (es.map (·.1)).Nodup → DqAll F (kvs.map (·.2)) (es.map fun p => txD p.2) → DqAll F ((putK kvs (.inr z) u).map (·.2)) ((putT es z t).map fun p => txD p.2)
  | [], [], _, _, _ => .cons du .nil
  | [], _ :: _, e, _, _ => by cases e
  | _ :: _, [], e, _, _ => by cases e
  | kv :: kvs, p :: es, e, nd, dq => by
    rw [List.map_cons, List.map_cons] at e
    injection e with e1 e2
    rw [List.map_cons] at nd
    have nd' := List.nodup_cons.mp nd
    have nk : kv.1 ∉ kvs.map (·.1) := fun m => by
      rw [e1, e2] at m
      obtain ⟨q, hq, eq⟩ := List.mem_map.mp m
      have : q.1 = p.1 := Sum.inr.inj eq
      exact nd'.1 (List.mem_map.mpr ⟨q, hq, this⟩)
    rw [putK_cons nk]
    rw [List.map_cons, List.map_cons] at dq
    unfold putT
    cases dq with
    | cons d1 d2 =>
      by_cases h : p.1 = z
      · have h2 : kv.1 = Sum.inr z := by rw [e1, ← h]; rfl
        rw [if_pos h, if_pos h2]
        exact .cons du d2
      · have h2 : ¬ kv.1 = Sum.inr z := fun e => h (Sum.inr.inj (e1.symm.trans e))
        rw [if_neg h, if_neg h2]
        exact .cons d1 (dqT du e2 nd'.2 d2)
theorem TV.put {F : Hp} {kvs : List (Key × V)} {B : Tr} (h : TV F kvs B) (n : (B.map (·.1)).Nodup) {z : Str} {t : Tx} {u : V} (du : Dq F u (txD t)) : TV F (putK kvs (.inr z) u) (putT B z t) := ⟨keysT h.1 n, dqT du h.1 n h.2⟩
theorem TrG.put {B : Tr} (h : TrG B) {z : Str} {t : Tx} (zp : z ∈ allP) (g : TxG t) : TrG (putT B z t) :=
  ⟨putT_nd h.nd, fun p hp => (putT_mem hp).elim (fun e => by rw [e]; exact zp) (h.pt p), fun p hp => (putT_mem hp).elim (fun e => by rw [e]; exact g) (h.tx p)⟩
theorem rep_str (z : Str) (n : Nat) : (List.replicate n [V.str z]).flatten = (List.replicate n z).map V.str := by
  induction n with
  | zero => rfl
  | succ n ih => rw [List.replicate_succ, List.flatten_cons, ih, List.replicate_succ, List.map_cons]; rfl
theorem rep_mem {z y : Str} {n : Nat} (h : y ∈ List.replicate n z) : y = z := (List.mem_replicate.mp h).2
theorem esP_at : ∀ j : Nat, j < 9 → esP[j]? = some ((Str.ofString "e") ++ (toString (j : Int) : String)) := by decide +kernel
section
variable {P : Program} {w : World} {K : PySem.W.Frag} {mg : Str → Option Value} {base : Heap}
def sp_l_copied (K : PySem.W.Frag) : Sp := fun vs H Q _ => ∃ (a : Addr) (A : Tr), vs = [.ref a] ∧ TrAt H a A ∧ A.length ≤ 1000 ∧ ∀ d (B : Bt) H', Has H ((d, .dK (bK B)) :: bO B) H' → bA B = A → Q (.ref d) H'
theorem sp_l_copied_len {vs H Q E} (h : sp_l_copied K vs H Q E) : vs.length = 1 := by
  obtain ⟨_, _, rfl, _⟩ := h
  rfl
theorem take_new37 {A : Tr} (n : (A.map (·.1)).Nodup) {t : Nat} {p : Str × Tx} (e : A[t]? = some p) : p.1 ∉ (A.take t).map (·.1) := by
  rw [List.map_take]
  exact nd_new n (by rw [List.getElem?_map, e]; rfl)
theorem ok_l_copied (T : Txt K mg) : FnOk P w K mg base CX0 1 T.f_l_copied T.fd_l_copied ["tree"] (sp_l_copied K) := by
  refine T.F_l_copied.ok sc_l_copied (fun vs H Q E h => sp_l_copied_len h) (fun cdv A outer s H vs Q E hr h => ?_)
  refine ⟨_, (pss_cons (ps_set (i := 1) sc_l_copied.nd rfl (.inl rfl) pe_dnewK)
      (pss_cons (ps_lock (ps_for PassesOwn.never rfl (pi_keys (pv 0)) (pg_name (i := 2) sc_l_copied.nd rfl (.inl rfl)) (pss_one (ps_asg (pe_callTy (cr_listK K) (by rfl) T.m_list (by decide +kernel) (pa_cons (pe_ix (ix_K K (hu_of hr)) (pv 0) (pv 2) (fun _ _ => rfl)) pa_nil)) (pg_sub (pv 1) (pv 2) (set_any (hu_of hr)))))))
      (pss_one (ps_ret (pv 1))))), ?_⟩
  obtain ⟨a, A, rfl, ⟨kvs, ha, ek, nd, dq⟩, lA, q⟩ := h
  have hH := Has.start H
  have lk := tr_len ek
  refine g_start (σ' := [some (.ref a), none, none]) rfl ?_
  walk_at "gg"
  refine g_dnewK hH (fun d H1 n1 h1 => ?_)
  walk_at "gg"
  refine k_forDK rfl ha (Has.b0 h1) (fun t σ O' => ∃ (B : Bt) (y2 : Option V), σ = [some (.ref a), some (.ref d), y2] ∧ O' = (d, .dK (bK B)) :: (bO B ++ []) ∧ bA B = A.take t) ⟨[], _, rfl, rfl, rfl⟩ ?_ ?_
  · rintro t k v σ O' H2 od ekv ⟨B, y2, rfl, rfl, eB⟩ h2
    obtain ⟨p, ep, rfl⟩ := tr_key ek ekv
    obtain ⟨kv2, rd, ek2, _, dq2⟩ := (RT.lock (od := od) ha ⟨kvs, .inl ha, ek, nd, dq⟩).up h2.same
    obtain ⟨l, vl, hl⟩ := tr_at ek2 dq2 (getT_of nd (List.mem_of_getElem? ep))
    have lB : B.length ≤ t := by
      have := congrArg List.length eB
      unfold bA at this
      rw [List.length_map, List.length_take] at this
      omega
    have lt : t < A.length := (List.getElem?_eq_some_iff.mp ep).1
    walk_at "gg"
    refine g_ixDR rd vl ?_
    walk_at "gg"
    refine g_listL hl h2 (fun p1 H3 n3 h3 => ?_)
    have nz : p.1 ∉ B.map (·.1) := by
      rw [← bA_keys, eB]
      exact take_new37 nd ep
    walk_at "gg"
    refine g_stD (k := .inr p.1) rfl h3 (.tl .hd) (szl (by unfold bK; rw [List.length_map]; omega)) (fun H4 h4 => ?_)
    rw [putK_new _ (bK_none nz)] at h4
    walk_at "gg"
    refine ⟨_, ⟨B ++ [(p.1, p1, p.2)], _, rfl, rfl, ?_⟩, Has.bput h4⟩
    rw [bA_snoc, eB, List.take_add_one, ep]
    rfl
  · rintro σ O' H2 ⟨B, y2, rfl, rfl, eB⟩ h2
    rw [lk, List.take_length] at eB
    rw [List.append_nil] at h2
    walk_at "gg"
    exact q d B H2 h2 eB
end
end
section
local macro_rules | `(tactic| walk_at "g") => `(tactic| first
  | ((with_reducible refine' g_lenNL ?gh ?_); (case gh => walk_at "h"))
  | ((with_reducible refine' g_lenND ?gh ?_); (case gh => walk_at "h"))
  | ((with_reducible refine' g_lenNT ?gh ?_); (case gh => walk_at "h"))
  | (with_reducible refine g_ltI ?_)
  | (with_reducible refine g_ltS ?_)
  | (with_reducible refine g_lstRg ?_)
  | (with_reducible refine g_forK ?_))
local macro_rules | `(tactic| walk_at "g") => `(tactic| (with_reducible refine g_forE ?_))
local macro_rules | `(tactic| walk_at "g") => `(tactic| first
  | (with_reducible refine g_dcL ?_)
  | (with_reducible refine g_dcT ?_)
  | (with_reducible refine g_m1s ?_)
  | (with_reducible refine g_km1s ?_)
  | (with_reducible refine g_starts ?_)
  | (with_reducible refine g_tryX ?_)
  | (with_reducible refine g_lcS ?_))
section
variable {P : Program} {w : World} {K : PySem.W.Frag} {mg : Str → Option Value} {base : Heap}
def sp_l_odd_names (T : Txt K mg) : Sp := fun vs H Q _ => vs = [] ∧ ∀ p H', Same H H' → H p = none → H' p = some (.lst (oddN.map V.str)) → Q (.ref p) H'
theorem sp_l_odd_names_len {T : Txt K mg} {vs H Q E} (h : sp_l_odd_names T vs H Q E) : vs.length = 0 := by
  obtain ⟨rfl, _⟩ := h
  rfl
theorem ok_l_odd_names (T : Txt K mg) : FnOk P w K mg base CX0 1 T.f_l_odd_names T.fd_l_odd_names [] (sp_l_odd_names T) := by
  refine T.F_l_odd_names.ok sc_l_odd_names (fun vs H Q E h => sp_l_odd_names_len h) (fun cdv A outer s H vs Q E hr h => ?_)
  refine ⟨_, (pss_one (ps_ret (pe_lst (pa_cons pe_str (pa_cons pe_str (pa_cons pe_str (pa_cons pe_str (pa_cons pe_str (pa_cons pe_str (pa_cons pe_str (pa_cons pe_str (pa_cons pe_str pa_nil)))))))))))), ?_⟩
  obtain ⟨rfl, q⟩ := h
  refine g_start (σ' := []) rfl ?_
  walk_at "gg"
  exact g_klst (by walk_at "sz") (Has.start H) (fun p H1 n1 h1 => q p H1 h1.same n1 (h1.get (List.Mem.head _)))
def sp_l_odd_paths (T : Txt K mg) : Sp := fun vs H Q _ => vs = [] ∧ ∀ p H', Same H H' → H p = none → H' p = some (.lst (oddP.map V.str)) → Q (.ref p) H'
theorem sp_l_odd_paths_len {T : Txt K mg} {vs H Q E} (h : sp_l_odd_paths T vs H Q E) : vs.length = 0 := by
  obtain ⟨rfl, _⟩ := h
  rfl
theorem ok_l_odd_paths (T : Txt K mg) : FnOk P w K mg base CX0 1 T.f_l_odd_paths T.fd_l_odd_paths [] (sp_l_odd_paths T) := by
  refine T.F_l_odd_paths.ok sc_l_odd_paths (fun vs H Q E h => sp_l_odd_paths_len h) (fun cdv A outer s H vs Q E hr h => ?_)
  refine ⟨_, (pss_one (ps_ret (pe_lst (pa_cons pe_str (pa_cons pe_str (pa_cons pe_str (pa_cons pe_str (pa_cons pe_str (pa_cons pe_str (pa_cons pe_str (pa_cons pe_str (pa_cons pe_str (pa_cons pe_str pa_nil))))))))))))), ?_⟩
  obtain ⟨rfl, q⟩ := h
  refine g_start (σ' := []) rfl ?_
  walk_at "gg"
  exact g_klst (by walk_at "sz") (Has.start H) (fun p H1 n1 h1 => q p H1 h1.same n1 (h1.get (List.Mem.head _)))
def sp_l_odd_lines (T : Txt K mg) : Sp := fun vs H Q _ => vs = [] ∧ ∀ p H', Same H H' → H p = none → H' p = some (.lst (oddL.map V.str)) → Q (.ref p) H'
theorem sp_l_odd_lines_len {T : Txt K mg} {vs H Q E} (h : sp_l_odd_lines T vs H Q E) : vs.length = 0 := by
  obtain ⟨rfl, _⟩ := h
  rfl
theorem ok_l_odd_lines (T : Txt K mg) : FnOk P w K mg base CX0 1 T.f_l_odd_lines T.fd_l_odd_lines [] (sp_l_odd_lines T) := by
  refine T.F_l_odd_lines.ok sc_l_odd_lines (fun vs H Q E h => sp_l_odd_lines_len h) (fun cdv A outer s H vs Q E hr h => ?_)
  refine ⟨_, (pss_one (ps_ret (pe_lst (pa_cons pe_str (pa_cons pe_str (pa_cons pe_str (pa_cons pe_str (pa_cons pe_str (pa_cons pe_str pa_nil))))))))), ?_⟩
  obtain ⟨rfl, q⟩ := h
  refine g_start (σ' := []) rfl ?_
  walk_at "gg"
  exact g_klst (by walk_at "sz") (Has.start H) (fun p H1 n1 h1 => q p H1 h1.same n1 (h1.get (List.Mem.head _)))
theorem odd_allP {z : Str} (h : z ∈ oddP) : z ∈ allP := List.mem_append_left _ (List.mem_append_right _ h)
theorem es_allP {z : Str} (h : z ∈ esP) : z ∈ allP := List.mem_append_right _ h
theorem rep_good (z : Str) (hz : z ∈ allL) {n : Nat} (h : n ≤ 42) : TxG (List.replicate n z) := ⟨by rw [List.length_replicate]; exact h, fun y hy => by rw [rep_mem hy]; exact hz⟩
theorem a_all : ("a" : Str) ∈ allL := by decide +kernel
theorem b_all : ("b" : Str) ∈ allL := by decide +kernel
theorem odd_allL {z : Str} (h : z ∈ oddL) : z ∈ allL := List.mem_append_right _ (List.mem_cons_of_mem _ (List.mem_cons_of_mem _ h))
def sp_l_spoil (T : Txt K mg) : Sp := fun vs H Q _ => ∃ (F : Hp) (R : Own) (a d : Addr) (ns : List Int) (kvs : List (Key × V)) (B : Tr), vs = [.ref a, .ref d] ∧ Has F ((d, .dK kvs) :: (a, .lst (ns.map V.int)) :: R) H ∧ FeedOk ns ∧ TV F kvs B ∧ TrG B ∧ B.length ≤ 20 ∧
  ∀ H' F' (ns' : List Int) kvs' B', Same F F' → Has F' ((d, .dK kvs') :: (a, .lst (ns'.map V.int)) :: R) H' → FeedOk ns' → TV F' kvs' B' → TrG B' → B'.length ≤ B.length + 9 → Q .non H'
theorem sp_l_spoil_len {T : Txt K mg} {vs H Q E} (h : sp_l_spoil T vs H Q E) : vs.length = 2 := by
  obtain ⟨_, _, _, _, _, _, _, rfl, _⟩ := h
  rfl
set_option maxHeartbeats 1000000 in
theorem ok_l_spoil (T : Txt K mg) : FnOk P w K mg base CX0 2 T.f_l_spoil T.fd_l_spoil ["feed", "tree"] (sp_l_spoil T) := by
  refine T.F_l_spoil.ok sc_l_spoil (fun vs H Q E h => sp_l_spoil_len h) (fun cdv A outer s H vs Q E hr h => ?_)
  refine ⟨_, (pss_cons (ps_set (i := 2) sc_l_spoil.nd rfl (.inl rfl) (pe_call (ok_l_next T) (hr.mono (by decide)) (by rfl) T.g_l_next T.F_l_next.kp T.b_l_next .nil pass0 (pa_cons (pv 0) (pa_cons pe_int pa_nil))))
      (pss_cons (ps_if (pt_cmpR (op_eqK K hr.units) (pv 2) pe_int (nomark _)) (pss_one (ps_asg (pe_lst (pa_cons pe_str pa_nil)) (pg_sub (pv 1) (pe_ix (ix_K K (hu_of hr)) (pe_call0 (ok_l_odd_paths T) (hr.mono (by decide)) (by rfl) T.g_l_odd_paths T.F_l_odd_paths.kp T.b_l_odd_paths .nil pass0) (pe_call (ok_l_next T) (hr.mono (by decide)) (by rfl) T.g_l_next T.F_l_next.kp T.b_l_next .nil pass0 (pa_cons (pv 0) (pa_cons pe_int pa_nil))) (fun _ _ => rfl)) (set_any (hu_of hr))))) pss_nil)
      (pss_cons (ps_if (pt_cmpR (op_eqK K hr.units) (pv 2) pe_int (nomark _)) (pss_cons (ps_set (i := 3) sc_l_spoil.nd rfl (.inl rfl) (pe_op op_mulA (pe_lst (pa_cons pe_str pa_nil)) (pe_call (ok_l_next T) (hr.mono (by decide)) (by rfl) T.g_l_next T.F_l_next.kp T.b_l_next .nil pass0 (pa_cons (pv 0) (pa_cons pe_int pa_nil)))))
      (pss_cons (ps_expr (k_bm K (pe_bm PySem.F.plainAttrs_list PySem.F.slot_list_append PySem.F.type_list_append mt_append (pv 3) (pa_cons (pe_ix (ix_K K (hu_of hr)) (pe_call0 (ok_l_odd_lines T) (hr.mono (by decide)) (by rfl) T.g_l_odd_lines T.F_l_odd_lines.kp T.b_l_odd_lines .nil pass0) (pe_call (ok_l_next T) (hr.mono (by decide)) (by rfl) T.g_l_next T.F_l_next.kp T.b_l_next .nil pass0 (pa_cons (pv 0) (pa_cons pe_int pa_nil))) (fun _ _ => rfl)) pa_nil))))
      (pss_one (ps_asg (pe_op (op_addK K) (pv 3) (pe_op op_mulA (pe_lst (pa_cons pe_str pa_nil)) (pe_call (ok_l_next T) (hr.mono (by decide)) (by rfl) T.g_l_next T.F_l_next.kp T.b_l_next .nil pass0 (pa_cons (pv 0) (pa_cons pe_int pa_nil))))) (pg_sub (pv 1) pe_str (set_any (hu_of hr))))))) pss_nil)
      (pss_cons (ps_if (pt_cmpR (op_eqK K hr.units) (pv 2) pe_int (nomark _)) (pss_one (ps_asg (pe_op op_mulA (pe_lst (pa_cons pe_str pa_nil)) (pe_op (op_addK K) pe_int (pe_call (ok_l_next T) (hr.mono (by decide)) (by rfl) T.g_l_next T.F_l_next.kp T.b_l_next .nil pass0 (pa_cons (pv 0) (pa_cons pe_int pa_nil))))) (pg_sub (pv 1) pe_str (set_any (hu_of hr))))) pss_nil)
      (pss_cons (ps_if (pt_cmpR (op_eqK K hr.units) (pv 2) pe_int (nomark _)) (pss_one (ps_asg (pe_op op_mulA (pe_lst (pa_cons pe_str pa_nil)) pe_int) (pg_sub (pv 1) pe_str (set_any (hu_of hr))))) pss_nil)
      (pss_one (ps_if (pt_cmpR (op_eqK K hr.units) (pv 2) pe_int (nomark _)) (pss_one (ps_for PassesOwn.never rfl (pi_range1 rfl T.m_range (pa_cons (pe_op (op_addK K) (pe_op op_sub pe_int (pe_callB (cr_lenN K) (by rfl) T.m_len (by decide +kernel) (pa_cons (pv 1) pa_nil))) (pe_call (ok_l_next T) (hr.mono (by decide)) (by rfl) T.g_l_next T.F_l_next.kp T.b_l_next .nil pass0 (pa_cons (pv 0) (pa_cons pe_int pa_nil)))) pa_nil)) (pg_name (i := 4) sc_l_spoil.nd rfl (.inl rfl)) (pss_one (ps_asg (pe_op op_mulA (pe_lst (pa_cons pe_str pa_nil)) (pe_op op_mod (pe_callTy cr_int1 (by rfl) T.m_int (by decide +kernel) (pa_cons (pv 4) pa_nil)) pe_int)) (pg_sub (pv 1) (pe_op (op_addK K) pe_str (pe_callTy cr_strI (by rfl) T.m_str (by decide +kernel) (pa_cons (pv 4) pa_nil))) (set_any (hu_of hr))))))) pss_nil))))))), ?_⟩
  obtain ⟨F, R, a, d, ns, kvs, B, rfl, h, fok, tv, gb, lb, q⟩ := h
  refine g_start (σ' := [some (.ref a), some (.ref d), none, none, none]) rfl ?_
  walk_at "gg"
  refine ⟨a, ns, 12, rfl, by walk_at "h", fok, by decide, by decide, fun H1 ns1 u hb1 ha1 fok1 u0 u1 => ?_⟩
  have h1 := h.but (.tl .hd) hb1 ha1
  have lk : kvs.length ≤ 20 := by rw [tv.len]; exact lb
  walk_at "gg"
  refine i_d (fun e7 => ?_) (fun n7 => ?_)
  · walk_at "gg"
    refine g_klstF (by walk_at "sz") h1 (fun p2 H2 F2 n2 s2 f2 h2 => ?_)
    walk_at "gg"
    refine ⟨rfl, fun p3 H3 s3 n3 e3 => ?_⟩
    have h3 := h2.made n3 s3 e3
    walk_at "gg"
    refine ⟨a, ns1, 10, rfl, by walk_at "h", fok1, by decide, by decide, fun H4 ns4 r hb4 ha4 fok4 r0 r1 => ?_⟩
    have h4 := h3.but (.tl (.tl .hd)) hb4 ha4
    refine g_ixZ (xs := oddP) (h4.get (by walk_at "m")) r0 r1 (fun z hz => ?_)
    refine g_stD (k := .inr z) rfl h4 (.tl .hd) (szl (by omega)) (fun H5 h5 => ?_)
    have h5 := h5.sub (O' := (d, .dK (putK kvs (.inr z) (.ref p2))) :: (a, .lst (ns4.map V.int)) :: R) (.cons _ (List.Sublist.refl _))
    iterate 4
      walk_at "gg"
      refine i_d (fun c => (by omega : False).elim) (fun _ => ?_)
    exact q H5 F2 ns4 _ (putT B z ["a"]) s2 h5 fok4 ((tv.mono s2).put gb.nd (Dq.strs (xs := ["a"]) f2)) (gb.put (odd_allP (List.mem_of_getElem? hz)) (rep_good (n := 1) "a" a_all (by decide))) (by have := putT_len z ["a"] B; omega)
  walk_at "gg"
  refine i_d (fun e8 => ?_) (fun n8 => ?_)
  · walk_at "gg"
    refine g_klst (by walk_at "sz") h1 (fun p2 H2 n2 h2 => ?_)
    walk_at "gg"
    refine ⟨a, ns1, 3, rfl, by walk_at "h", fok1, by decide, by decide, fun H3 ns3 r hb3 ha3 fok3 r0 r1 => ?_⟩
    have h3 := h2.but (.tl (.tl .hd)) hb3 ha3
    refine g_mulL (h3.get (List.Mem.head _)) (by omega) (by omega) (sz (by show 1 * _ ≤ _; omega)) h3 (fun p4 H4 n4 h4 => ?_)
    rw [rep_str] at h4
    walk_at "gg"
    refine ⟨rfl, fun p5 H5 s5 n5 e5 => ?_⟩
    have h5 := h4.made n5 s5 e5
    walk_at "gg"
    refine ⟨a, ns3, 6, rfl, by walk_at "h", fok3, by decide, by decide, fun H6 ns6 r6 hb6 ha6 fok6 r60 r61 => ?_⟩
    have h6 := h5.but (.tl (.tl (.tl (.tl .hd)))) hb6 ha6
    refine g_ixZ (xs := oddL) (h6.get (List.Mem.head _)) r60 r61 (fun z hz => ?_)
    walk_at "gg"
    refine g_append h6 (.tl .hd) (szl (by rw [List.length_map, List.length_replicate]; omega)) (fun H7 h7 => ?_)
    walk_at "gg"
    refine g_klst (by walk_at "sz") h7 (fun p8 H8 n8 h8 => ?_)
    walk_at "gg"
    refine ⟨a, ns6, 3, rfl, by walk_at "h", fok6, by decide, by decide, fun H9 ns9 r9 hb9 ha9 fok9 r90 r91 => ?_⟩
    have h9 := h8.but (.tl (.tl (.tl (.tl (.tl .hd))))) hb9 ha9
    refine g_mulL (h9.get (List.Mem.head _)) (by omega) (by omega) (sz (by show 1 * _ ≤ _; omega)) h9 (fun p10 H10 n10 h10 => ?_)
    rw [rep_str] at h10
    refine g_addL (h10.get (by walk_at "m")) (h10.get (List.Mem.head _)) (sz (by rw [List.length_append, List.length_map, List.length_map, List.length_replicate, List.length_replicate]; show _ + 1 + _ ≤ _; omega)) h10 (fun p11 H11 n11 h11 => ?_)
    have ew : (List.replicate r.toNat ("a" : Str)).map V.str ++ [V.str z] ++ (List.replicate r9.toNat ("b" : Str)).map V.str = (List.replicate r.toNat ("a" : Str) ++ [z] ++ List.replicate r9.toNat ("b" : Str)).map V.str := by
      rw [List.map_append, List.map_append]
      rfl
    rw [ew] at h11
    have gt : TxG (List.replicate r.toNat ("a" : Str) ++ [z] ++ List.replicate r9.toNat ("b" : Str)) := by
      refine ⟨by rw [List.length_append, List.length_append, List.length_replicate, List.length_replicate]; show _ + 1 + _ ≤ _; omega, fun y hy => ?_⟩
      rcases List.mem_append.mp hy with hy | hy
      · rcases List.mem_append.mp hy with hy | hy
        · rw [rep_mem hy]; exact a_all
        · rw [List.mem_singleton.mp hy]; exact odd_allL (List.mem_of_getElem? hz)
      · rw [rep_mem hy]; exact b_all
    generalize (List.replicate r.toNat ("a" : Str) ++ [z] ++ List.replicate r9.toNat ("b" : Str)) = tx at h11 gt
    have h11 := h11.sub (O' := (p11, .lst (tx.map V.str)) :: (d, .dK kvs) :: (a, .lst (ns9.map V.int)) :: R) (.cons_cons _ (.cons _ (.cons _ (.cons _ (.cons _ (.cons _ (List.Sublist.refl _)))))))
    have s11 := h11.grow
    have f11 : upd F p11 (.lst (tx.map V.str)) p11 = some (.lst (tx.map V.str)) := upd_same
    have h11 := h11.frz
    generalize upd F p11 (.lst (tx.map V.str)) = F11 at h11 s11 f11
    walk_at "gg"
    refine g_stD (k := .inr "d/g") rfl h11 .hd (szl (by omega)) (fun H12 h12 => ?_)
    iterate 3
      walk_at "gg"
      refine i_d (fun c => (by omega : False).elim) (fun _ => ?_)
    exact q H12 F11 ns9 _ (putT B "d/g" tx) s11 h12 fok9 ((tv.mono s11).put gb.nd (Dq.strs f11)) (gb.put (roads_all (by decide +kernel)) gt) (by have := putT_len "d/g" tx B; omega)
  walk_at "gg"
  refine i_d (fun e9 => ?_) (fun n9 => ?_)
  · walk_at "gg"
    refine g_klst (by walk_at "sz") h1 (fun p2 H2 n2 h2 => ?_)
    walk_at "gg"
    refine ⟨a, ns1, 2, rfl, by walk_at "h", fok1, by decide, by decide, fun H3 ns3 r hb3 ha3 fok3 r0 r1 => ?_⟩
    have h3 := h2.but (.tl (.tl .hd)) hb3 ha3
    walk_at "gg"
    refine g_mulL (h3.get (List.Mem.head _)) (by omega) (by omega) (sz (by show 1 * _ ≤ _; omega)) h3 (fun p4 H4 n4 h4 => ?_)
    rw [rep_str] at h4
    have gt : TxG (List.replicate (41 + r).toNat "a") := rep_good "a" a_all (by omega)
    generalize (List.replicate (41 + r).toNat "a" : List Str) = tx at h4 gt
    have h4 := h4.sub (O' := (p4, .lst (tx.map V.str)) :: (d, .dK kvs) :: (a, .lst (ns3.map V.int)) :: R) (.cons_cons _ (.cons _ (List.Sublist.refl _)))
    have s4 := h4.grow
    have f4 : upd F p4 (.lst (tx.map V.str)) p4 = some (.lst (tx.map V.str)) := upd_same
    have h4 := h4.frz
    generalize upd F p4 (.lst (tx.map V.str)) = F4 at h4 s4 f4
    walk_at "gg"
    refine g_stD (k := .inr "f") rfl h4 .hd (szl (by omega)) (fun H5 h5 => ?_)
    iterate 2
      walk_at "gg"
      refine i_d (fun c => (by omega : False).elim) (fun _ => ?_)
    exact q H5 F4 ns3 _ (putT B "f" tx) s4 h5 fok3 ((tv.mono s4).put gb.nd (Dq.strs f4)) (gb.put (roads_all (by decide +kernel)) gt) (by have := putT_len "f" tx B; omega)
  walk_at "gg"
  refine i_d (fun e10 => ?_) (fun n10 => ?_)
  · walk_at "gg"
    refine g_klst (by walk_at "sz") h1 (fun p2 H2 n2 h2 => ?_)
    walk_at "gg"
    refine g_mulL (h2.get (List.Mem.head _)) (by omega) (by omega) (sz (by show 1 * _ ≤ _; decide)) h2 (fun p4 H4 n4 h4 => ?_)
    rw [rep_str] at h4
    have gt : TxG (List.replicate (40 : Int).toNat "a") := rep_good "a" a_all (by decide)
    generalize (List.replicate (40 : Int).toNat "a" : List Str) = tx at h4 gt
    have h4 := h4.sub (O' := (p4, .lst (tx.map V.str)) :: (d, .dK kvs) :: (a, .lst (ns1.map V.int)) :: R) (.cons_cons _ (.cons _ (List.Sublist.refl _)))
    have s4 := h4.grow
    have f4 : upd F p4 (.lst (tx.map V.str)) p4 = some (.lst (tx.map V.str)) := upd_same
    have h4 := h4.frz
    generalize upd F p4 (.lst (tx.map V.str)) = F4 at h4 s4 f4
    walk_at "gg"
    refine g_stD (k := .inr "f") rfl h4 .hd (szl (by omega)) (fun H5 h5 => ?_)
    iterate 1
      walk_at "gg"
      refine i_d (fun c => (by omega : False).elim) (fun _ => ?_)
    exact q H5 F4 ns1 _ (putT B "f" tx) s4 h5 fok1 ((tv.mono s4).put gb.nd (Dq.strs f4)) (gb.put (roads_all (by decide +kernel)) gt) (by have := putT_len "f" tx B; omega)
  walk_at "gg"
  refine i_d (fun e11 => ?_) (fun n11 => ?_)
  · walk_at "gg"
    refine ⟨a, ns1, 2, rfl, by walk_at "h", fok1, by decide, by decide, fun H3 ns3 r hb3 ha3 fok3 r0 r1 => ?_⟩
    have h3 := h1.but (.tl .hd) hb3 ha3
    walk_at "gg"
    have l9 : (8 - (kvs.length : Int) + r).toNat ≤ 9 := by omega
    refine k_forR1 (fun j σ H' => ∃ (F' : Hp) (kvs' : List (Key × V)) (B' : Tr) (y4 : Option V), σ = [some (.ref a), some (.ref d), some (.int u), none, y4] ∧ Same F F' ∧ Has F' ((d, .dK kvs') :: (a, .lst (ns3.map V.int)) :: R) H' ∧ TV F' kvs' B' ∧ TrG B' ∧ B'.length ≤ B.length + j) (by omega) (by omega) ⟨F, kvs, B, _, rfl, Same.refl _, h3, tv, gb, Nat.le_refl _⟩ ?_ ?_
    · rintro j σ H4 hj ⟨F', kvs', B', y4, rfl, sF, h4, tv4, gb4, lb4⟩
      have hj9 : j < 9 := by omega
      walk_at "gg"
      refine g_klst (by walk_at "sz") h4 (fun p2 H5 n5 h5 => ?_)
      walk_at "gg"
      refine g_rI (by show (0 : Int) < 2; decide) ?_
      refine g_mulL (h5.get (List.Mem.head _)) (by omega) (by omega) (sz (by show 1 * _ ≤ _; omega)) h5 (fun p6 H6 n6 h6 => ?_)
      rw [rep_str] at h6
      have gt : TxG (List.replicate ((j : Int) % 2).toNat "a") := rep_good "a" a_all (by omega)
      generalize (List.replicate ((j : Int) % 2).toNat "a" : List Str) = tx at h6 gt
      have h6 := h6.sub (O' := (p6, .lst (tx.map V.str)) :: (d, .dK kvs') :: (a, .lst (ns3.map V.int)) :: R) (.cons_cons _ (.cons _ (List.Sublist.refl _)))
      have s6 := h6.grow
      have f6 : upd F' p6 (.lst (tx.map V.str)) p6 = some (.lst (tx.map V.str)) := upd_same
      have h6 := h6.frz
      generalize upd F' p6 (.lst (tx.map V.str)) = F6 at h6 s6 f6
      walk_at "gg"
      refine g_strI (by
        have : ∀ i : Nat, i < 9 → ((i : Int)).natAbs.log2 < 1920 := by decide +kernel
        exact this j hj9) ?_
      refine g_addS (by
        have : ∀ i : Nat, i < 9 → (Str.ofString "e").length + (Str.ofString (toString (i : Int))).length ≤ 100 := by decide +kernel
        have := this j hj9
        have hs := sizeLine_eq
        omega) ?_
      have ez : esP[j]? = some ((Str.ofString "e") ++ (toString (j : Int) : String)) := esP_at j hj9
      have lk4 : kvs'.length ≤ 40 := by rw [tv4.len]; omega
      refine g_stD (k := .inr _) rfl h6 .hd (szl (by omega)) (fun H7 h7 => ?_)
      exact ⟨F6, _, putT B' _ tx, _, rfl, sF.trans s6, h7, (tv4.mono s6).put gb4.nd (Dq.strs f6), gb4.put (es_allP (List.mem_of_getElem? ez)) gt, by have := putT_len ((Str.ofString "e") ++ (toString (j : Int) : String)) tx B'; omega⟩
    · rintro σ H4 ⟨F', kvs', B', y4, rfl, sF, h4, tv4, gb4, lb4⟩
      exact q H4 F' ns3 kvs' B' sF h4 fok3 tv4 gb4 (by omega)
  walk_at "gg"
  exact q H1 F ns1 kvs B (Same.refl _) h1 fok1 tv gb (by omega)
end
end
section
def strs3 : List Str := ["strang", "", "No"]
section
variable {P : Program} {w : World} {K : PySem.W.Frag} {mg : Str → Option Value} {base : Heap}
def sp_l_called (T : Txt K mg) : Sp := fun vs H Q _ => ∃ (F : Hp) (R : Own) (a nm : Addr) (ns : List Int) (names : List Str) (k : Nat), vs = [.ref a, .ref nm, .int (k : Nat)] ∧ Has F ((a, .lst (ns.map V.int)) :: R) H ∧ FeedOk ns ∧ F nm = some (.lst (names.map V.str)) ∧ NmsOk names ∧ k < 9 ∧
  ∀ z H' (ns' : List Int), Has F ((a, .lst (ns'.map V.int)) :: R) H' → FeedOk ns' → (z ∈ names ∨ z ∈ oddN) → Q (.str z) H'
theorem sp_l_called_len {T : Txt K mg} {vs H Q E} (h : sp_l_called T vs H Q E) : vs.length = 3 := by
  obtain ⟨_, _, _, _, _, _, _, rfl, _⟩ := h
  rfl
theorem ok_l_called (T : Txt K mg) : FnOk P w K mg base CX0 2 T.f_l_called T.fd_l_called ["feed", "names", "k"] (sp_l_called T) := by
  refine T.F_l_called.ok sc_l_called (fun vs H Q E h => sp_l_called_len h) (fun cdv A outer s H vs Q E hr h => ?_)
  refine ⟨_, (pss_cons (ps_set (i := 3) sc_l_called.nd rfl (.inl rfl) (pe_call (ok_l_next T) (hr.mono (by decide)) (by rfl) T.g_l_next T.F_l_next.kp T.b_l_next .nil pass0 (pa_cons (pv 0) (pa_cons pe_int pa_nil))))
      (pss_cons (ps_if (pt_cmpR (op_eqK K hr.units) (pv 3) pe_int (nomark _)) (pss_one (ps_ret (pe_ix (ix_K K (hu_of hr)) (pe_call0 (ok_l_odd_names T) (hr.mono (by decide)) (by rfl) T.g_l_odd_names T.F_l_odd_names.kp T.b_l_odd_names .nil pass0) (pe_call (ok_l_next T) (hr.mono (by decide)) (by rfl) T.g_l_next T.F_l_next.kp T.b_l_next .nil pass0 (pa_cons (pv 0) (pa_cons pe_int pa_nil))) (fun _ _ => rfl)))) pss_nil)
      (pss_cons (ps_if (pt_cmpR op_gt (pv 3) pe_int (nomark _)) (pss_one (ps_ret (pe_ix (ix_K K (hu_of hr)) (pv 1) (pe_call (ok_l_next T) (hr.mono (by decide)) (by rfl) T.g_l_next T.F_l_next.kp T.b_l_next .nil pass0 (pa_cons (pv 0) (pa_cons pe_int pa_nil))) (fun _ _ => rfl)))) pss_nil)
      (pss_one (ps_ret (pe_ix (ix_K K (hu_of hr)) (pv 1) (pv 2) (fun _ _ => rfl))))))), ?_⟩
  obtain ⟨F, R, a, nm, ns, names, k, rfl, h, fok, hnm, nok, lk, q⟩ := h
  refine g_start (σ' := [some (.ref a), some (.ref nm), some (.int (k : Nat)), none]) rfl ?_
  have ln := nok.len
  walk_at "gg"
  refine ⟨a, ns, 12, rfl, by walk_at "h", fok, by decide, by decide, fun H1 ns1 u hb1 ha1 fok1 u0 u1 => ?_⟩
  have h1 := drw h hb1 ha1
  walk_at "gg"
  refine i_d (fun _ => ?_) (fun _ => ?_)
  · walk_at "gg"
    refine ⟨rfl, fun p3 H3 s3 n3 e3 => ?_⟩
    have h3 := h1.made n3 s3 e3
    walk_at "gg"
    refine ⟨a, ns1, 9, rfl, by walk_at "h", fok1, by decide, by decide, fun H4 ns4 r hb4 ha4 fok4 r0 r1 => ?_⟩
    have h4 := h3.but (.tl .hd) hb4 ha4
    refine g_ixZ (xs := oddN) (h4.get (List.Mem.head _)) r0 r1 (fun z hz => ?_)
    exact q z H4 ns4 (h4.sub (.cons _ (List.Sublist.refl _))) fok4 (.inr (List.mem_of_getElem? hz))
  walk_at "gg"
  refine i_d (fun _ => ?_) (fun _ => ?_)
  · walk_at "gg"
    refine ⟨a, ns1, 9, rfl, by walk_at "h", fok1, by decide, by decide, fun H4 ns4 r hb4 ha4 fok4 r0 r1 => ?_⟩
    have h4 := drw h1 hb4 ha4
    refine g_ixZ (h4.same _ _ hnm) r0 (by rw [ln]; exact r1) (fun z hz => ?_)
    exact q z H4 ns4 h4 fok4 (.inl (List.mem_of_getElem? hz))
  walk_at "gg"
  refine g_ixZ (h1.same _ _ hnm) (by omega) (by rw [ln]; omega) (fun z hz => ?_)
  exact q z H1 ns1 h1 fok1 (.inl (List.mem_of_getElem? hz))
def sp_l_new_elders (T : Txt K mg) : Sp := fun vs H Q _ => ∃ (F : Hp) (R : Own) (a nm kp : Addr) (ns : List Int) (names ks : List Str), vs = [.ref a, .ref nm, .ref kp] ∧ Has F ((a, .lst (ns.map V.int)) :: (kp, .lst (ks.map V.str)) :: R) H ∧ FeedOk ns ∧ F nm = some (.lst (names.map V.str)) ∧ NmsOk names ∧ ks.length ≤ 60 ∧
  ∀ p H' (ns' : List Int) (ps : List Str), Has F ((p, .lst (ps.map V.str)) :: (a, .lst (ns'.map V.int)) :: (kp, .lst (ks.map V.str)) :: R) H' → FeedOk ns' → ps.length ≤ 6 → (∀ x ∈ ps, x ∈ names ∨ x ∈ strs3 ∨ x ∈ ks) → Q (.ref p) H'
theorem sp_l_new_elders_len {T : Txt K mg} {vs H Q E} (h : sp_l_new_elders T vs H Q E) : vs.length = 3 := by
  obtain ⟨_, _, _, _, _, _, _, _, rfl, _⟩ := h
  rfl
theorem ok_l_new_elders (T : Txt K mg) : FnOk P w K mg base CX0 2 T.f_l_new_elders T.fd_l_new_elders ["feed", "names", "kept"] (sp_l_new_elders T) := by
  refine T.F_l_new_elders.ok sc_l_new_elders (fun vs H Q E h => sp_l_new_elders_len h) (fun cdv A outer s H vs Q E hr h => ?_)
  refine ⟨_, (pss_cons (ps_set (i := 3) sc_l_new_elders.nd rfl (.inl rfl) (pe_lst pa_nil))
      (pss_cons (ps_set (i := 4) sc_l_new_elders.nd rfl (.inl rfl) (pe_callB (cr_lenK K) (by rfl) T.m_len (by decide +kernel) (pa_cons (pv 2) pa_nil)))
      (pss_cons (ps_for PassesOwn.never rfl (pi_range1 rfl T.m_range (pa_cons (pe_ix (ix_K K (hu_of hr)) (pe_lst (pa_cons pe_int (pa_cons pe_int (pa_cons pe_int (pa_cons pe_int (pa_cons pe_int (pa_cons pe_int (pa_cons pe_int (pa_cons pe_int pa_nil))))))))) (pe_call (ok_l_next T) (hr.mono (by decide)) (by rfl) T.g_l_next T.F_l_next.kp T.b_l_next .nil pass0 (pa_cons (pv 0) (pa_cons pe_int pa_nil))) (fun _ _ => rfl)) pa_nil)) (pg_name (i := 5) sc_l_new_elders.nd rfl (.inl rfl)) (pss_cons (ps_set (i := 6) sc_l_new_elders.nd rfl (.inl rfl) (pe_call (ok_l_next T) (hr.mono (by decide)) (by rfl) T.g_l_next T.F_l_next.kp T.b_l_next .nil pass0 (pa_cons (pv 0) (pa_cons pe_int pa_nil))))
      (pss_one (ps_if (pt_cmpR (op_eqK K hr.units) (pv 6) pe_int (nomark _)) (pss_one (ps_expr (k_bm K (pe_bm PySem.F.plainAttrs_list PySem.F.slot_list_append PySem.F.type_list_append mt_append (pv 3) (pa_cons (pe_ix (ix_K K (hu_of hr)) (pv 1) (pe_call (ok_l_next T) (hr.mono (by decide)) (by rfl) T.g_l_next T.F_l_next.kp T.b_l_next .nil pass0 (pa_cons (pv 0) (pa_cons pe_int pa_nil))) (fun _ _ => rfl)) pa_nil))))) (pss_one (ps_if (pt_cmpR (op_eqK K hr.units) (pv 6) pe_int (nomark _)) (pss_one (ps_expr (k_bm K (pe_bm PySem.F.plainAttrs_list PySem.F.slot_list_append PySem.F.type_list_append mt_append (pv 3) (pa_cons (pe_ix (ix_K K (hu_of hr)) (pe_lst (pa_cons pe_str (pa_cons pe_str (pa_cons pe_str pa_nil)))) (pe_call (ok_l_next T) (hr.mono (by decide)) (by rfl) T.g_l_next T.F_l_next.kp T.b_l_next .nil pass0 (pa_cons (pv 0) (pa_cons pe_int pa_nil))) (fun _ _ => rfl)) pa_nil))))) (pss_one (ps_if (pt_cmpR op_gt (pv 4) pe_int (nomark _)) (pss_cons (ps_set (i := 6) sc_l_new_elders.nd rfl (.inl rfl) (pe_op (op_addK K) (pe_callB (cr_max2 rfl) (by rfl) T.m_max (by decide +kernel) (pa_cons pe_int (pa_cons (pe_op op_sub (pe_op (op_addK K) (pe_op op_sub (pv 4) pe_int) (pe_op op_mod (pe_callTy cr_int1 (by rfl) T.m_int (by decide +kernel) (pa_cons (pv 4) pa_nil)) pe_int)) (pv 5)) pa_nil))) (pv 6)))
      (pss_one (ps_if (pt_cmpR (op_notinM K P w hr.units (u65 hr)) (pe_ix (ix_K K (hu_of hr)) (pv 2) (pe_op op_mod (pe_callTy cr_int1 (by rfl) T.m_int (by decide +kernel) (pa_cons (pv 6) pa_nil)) (pv 4)) (fun _ _ => rfl)) (pv 3) (by rfl)) (pss_one (ps_expr (k_bm K (pe_bm PySem.F.plainAttrs_list PySem.F.slot_list_append PySem.F.type_list_append mt_append (pv 3) (pa_cons (pe_ix (ix_K K (hu_of hr)) (pv 2) (pe_op op_mod (pe_callTy cr_int1 (by rfl) T.m_int (by decide +kernel) (pa_cons (pv 6) pa_nil)) (pv 4)) (fun _ _ => rfl)) pa_nil))))) pss_nil))) pss_nil))))))))
      (pss_one (ps_ret (pv 3)))))), ?_⟩
  obtain ⟨F, R, a, nm, kp, ns, names, ks, rfl, h, fok, hnm, nok, lks, q⟩ := h
  refine g_start (σ' := [some (.ref a), some (.ref nm), some (.ref kp), none, none, none, none]) rfl ?_
  have ln := nok.len
  walk_at "gg"
  refine g_klst (by walk_at "sz") h (fun p H1 n1 h1 => ?_)
  walk_at "gg"
  refine g_klst (by walk_at "sz") h1 (fun p2 H2 n2 h2 => ?_)
  walk_at "gg"
  refine ⟨a, ns, 8, rfl, by walk_at "h", fok, by decide, by decide, fun H3 ns3 r hb3 ha3 fok3 r0 r1 => ?_⟩
  have h3 := h2.but (.tl (.tl .hd)) hb3 ha3
  refine g_ixI (xs := [2, 1, 0, 3, 2, 1, 6, 4]) (h3.get (List.Mem.head _)) r0 (by exact r1) (fun m hm => ?_)
  have hm : 0 ≤ m ∧ m ≤ 6 := by
    have := List.mem_of_getElem? hm
    simp only [List.mem_cons, List.not_mem_nil, or_false] at this
    omega
  have h3 := h3.drop
  rw [List.length_map]
  refine k_forR1 (fun j σ H' => ∃ (ps : List Str) (ns' : List Int) (y5 y6 : Option V), σ = [some (.ref a), some (.ref nm), some (.ref kp), some (.ref p), some (.int (ks.length : Nat)), y5, y6] ∧ Has F ((p, .lst (ps.map V.str)) :: (a, .lst (ns'.map V.int)) :: (kp, .lst (ks.map V.str)) :: R) H' ∧ FeedOk ns' ∧ ps.length ≤ j ∧ ∀ x ∈ ps, x ∈ names ∨ x ∈ strs3 ∨ x ∈ ks) (by omega) (by omega) ⟨[], ns3, _, _, rfl, h3, fok3, Nat.le_refl _, fun x hx => by cases hx⟩ ?_ ?_
  · rintro j σ H4 hj ⟨ps, ns4, y5, y6, rfl, h4, fok4, lp, mp⟩
    have hj6 : j < 6 := by omega
    have snoc : ∀ {z : Str}, (z ∈ names ∨ z ∈ strs3 ∨ z ∈ ks) → ∀ x ∈ ps ++ [z], x ∈ names ∨ x ∈ strs3 ∨ x ∈ ks := fun hz x hx => by
      rcases List.mem_append.mp hx with hx | hx
      · exact mp x hx
      · rw [List.mem_singleton.mp hx]; exact hz
    have ew : ∀ z : Str, ps.map V.str ++ [V.str z] = (ps ++ [z]).map V.str := fun z => by rw [List.map_append]; rfl
    walk_at "gg"
    refine ⟨a, ns4, 8, rfl, by walk_at "h", fok4, by decide, by decide, fun H5 ns5 u hb5 ha5 fok5 u0 u1 => ?_⟩
    have h5 := h4.but (.tl .hd) hb5 ha5
    walk_at "gg"
    refine i_d (fun _ => ?_) (fun _ => ?_)
    · walk_at "gg"
      refine ⟨a, ns5, 9, rfl, by walk_at "h", fok5, by decide, by decide, fun H6 ns6 v hb6 ha6 fok6 v0 v1 => ?_⟩
      have h6 := h5.but (.tl .hd) hb6 ha6
      refine g_ixZ (h6.same _ _ hnm) v0 (by rw [ln]; exact v1) (fun z hz => ?_)
      walk_at "gg"
      refine g_append h6 .hd (szl (by rw [List.length_map]; omega)) (fun H7 h7 => ?_)
      rw [ew] at h7
      walk_at "gg"
      exact ⟨ps ++ [z], ns6, _, _, rfl, h7, fok6, by rw [List.length_append]; show _ + 1 ≤ _; omega, snoc (.inl (List.mem_of_getElem? hz))⟩
    walk_at "gg"
    refine i_d (fun _ => ?_) (fun _ => ?_)
    · walk_at "gg"
      refine g_klst (by walk_at "sz") h5 (fun p6 H6 n6 h6 => ?_)
      walk_at "gg"
      refine ⟨a, ns5, 3, rfl, by walk_at "h", fok5, by decide, by decide, fun H7 ns7 v hb7 ha7 fok7 v0 v1 => ?_⟩
      have h7 := h6.but (.tl (.tl .hd)) hb7 ha7
      refine g_ixZ (xs := strs3) (h7.get (List.Mem.head _)) v0 (by exact v1) (fun z hz => ?_)
      have h7 := h7.drop
      walk_at "gg"
      refine g_append h7 .hd (szl (by rw [List.length_map]; omega)) (fun H8 h8 => ?_)
      rw [ew] at h8
      walk_at "gg"
      exact ⟨ps ++ [z], ns7, _, _, rfl, h8, fok7, by rw [List.length_append]; show _ + 1 ≤ _; omega, snoc (.inr (.inl (List.mem_of_getElem? hz)))⟩
    walk_at "gg"
    refine i_d (fun s0 => ?_) (fun _ => ?_)
    · have s0 : 0 < (ks.length : Int) := by omega
      walk_at "gg"
      refine g_rI (by show (0 : Int) < 2; decide) ?_
      walk_at "gg"
      refine g_rI (by show (0 : Int) < (ks.length : Int); omega) ?_
      have i0 : ∀ y : Int, 0 ≤ y % (ks.length : Int) := fun y => Int.emod_nonneg _ (by omega)
      have i1 : ∀ y : Int, y % (ks.length : Int) < (ks.length : Int) := fun y => Int.emod_lt_of_pos _ s0
      refine g_ixZ (h5.get (by walk_at "m")) (i0 _) (i1 _) (fun z hz => ?_)
      have zk := List.mem_of_getElem? hz
      walk_at "gg"
      refine g_notinM (g_notinFL (h5.get (List.Mem.head _)) rfl (flat_strs _) ?_)
      rw [inV_strs]
      walk_at "gg"
      refine i_n (fun ne => ?_) (fun e => ?_)
      · walk_at "gg"
        refine g_rI (by show (0 : Int) < (ks.length : Int); omega) ?_
        refine g_ixZ (h5.get (by walk_at "m")) (i0 _) (i1 _) (fun z2 hz2 => ?_)
        rw [hz] at hz2
        injection hz2 with hz2
        subst hz2
        walk_at "gg"
        refine g_append h5 .hd (szl (by rw [List.length_map]; omega)) (fun H8 h8 => ?_)
        rw [ew] at h8
        walk_at "gg"
        exact ⟨ps ++ [z], ns5, _, _, rfl, h8, fok5, by rw [List.length_append]; show _ + 1 ≤ _; omega, snoc (.inr (.inr zk))⟩
      · walk_at "gg"
        exact ⟨ps, ns5, _, _, rfl, h5, fok5, by omega, mp⟩
    · walk_at "gg"
      exact ⟨ps, ns5, _, _, rfl, h5, fok5, by omega, mp⟩
  · rintro σ H4 ⟨ps, ns4, y5, y6, rfl, h4, fok4, lp, mp⟩
    walk_at "gg"
    exact q p H4 ns4 ps h4 fok4 (by omega) mp
end
end
section
def plD : Option Nat → PyData
  | none => .none
  | some i => .int (i : Nat)
def dueN (w z : Str) : PyData := .tuple [.str w, .str z]
def dueT (r : Str × Option Nat) : PyData := .tuple [.str "BadTree", .str r.1, plD r.2, .bool false]
def toldD : PyData := .tuple [.str "told", .none]
def dueD (kn : Str → Bool) (z : Str) (ps : List Str) (t : Tr) (us : List Str) : PyData := if isNm z = true then (if kn z = true then dueN "Taken" z else match chkE kn [] ps with
  | some (true, y) => dueN "Unknown" y
  | some (false, y) => dueN "Repeated" y
  | none => match badK t 0 us with
    | some r => dueT r
    | none => toldD) else dueN "BadName" z
theorem lineO : ∀ l ∈ allL, decide (l ∈ oddL) = !isLine l := by decide +kernel
theorem pathO : ∀ p ∈ allP, decide (p ∈ oddP) = !isPath p := by decide +kernel
theorem oddN_no : ∀ z ∈ oddN, isNm z = false := by decide +kernel
theorem nameO {names : List Str} (nok : NmsOk names) {z : Str} (h : z ∈ names ∨ z ∈ oddN) : decide (z ∈ oddN) = !isNm z := by
  by_cases m : z ∈ oddN
  · rw [oddN_no z m, decide_eq_true m]
    rfl
  · rw [(nok.nm z (h.resolve_right m)).1, decide_eq_false m]
    rfl
theorem chkE_drop {kn : Str → Bool} {ps : List Str} {j : Nat} {x : Str} (h : ps[j]? = some x) : chkE kn (ps.take j) (ps.drop j) = if kn x = true then (if x ∈ ps.take j then some (false, x) else chkE kn (ps.take (j + 1)) (ps.drop (j + 1))) else some (true, x) := by
  obtain ⟨lt, e⟩ := List.getElem?_eq_some_iff.mp h
  rw [List.drop_eq_getElem_cons lt, e, List.take_add_one, h]
  rfl
section
variable {P : Program} {w : World} {K : PySem.W.Frag} {mg : Str → Option Value} {base : Heap}
def sp_l_own_due (T : Txt K mg) : Sp := fun vs H Q _ => ∃ (kp lp d : Addr) (ks ps : List Str) (z : Str) (t : Tr) (us : List Str), vs = [.ref kp, .str z, .ref lp, .ref d] ∧ H kp = some (.lst (ks.map V.str)) ∧ H lp = some (.lst (ps.map V.str)) ∧ TrAt H d t ∧ TrG t ∧ t.length ≤ 60 ∧ ps.length ≤ 60 ∧ decide (z ∈ oddN) = !isNm z ∧ Asc us ∧ (∀ y, y ∈ us ↔ y ∈ t.map (·.1)) ∧
  ∀ v H', Same H H' → Dq H' v (dueD (fun x => decide (x ∈ ks)) z ps t us) → Q v H'
theorem sp_l_own_due_len {T : Txt K mg} {vs H Q E} (h : sp_l_own_due T vs H Q E) : vs.length = 4 := by
  obtain ⟨_, _, _, _, _, _, _, _, rfl, _⟩ := h
  rfl
set_option maxHeartbeats 1000000 in
theorem ok_l_own_due (T : Txt K mg) : FnOk P w K mg base CX0 2 T.f_l_own_due T.fd_l_own_due ["kept", "name", "parents", "tree"] (sp_l_own_due T) := by
  refine T.F_l_own_due.ok sc_l_own_due (fun vs H Q E h => sp_l_own_due_len h) (fun cdv A outer s H vs Q E hr h => ?_)
  refine ⟨_, (pss_cons (ps_if (pt_cmpR (op_inM K P w hr.units (u65 hr)) (pv 1) (pe_call0 (ok_l_odd_names T) (hr.mono (by decide)) (by rfl) T.g_l_odd_names T.F_l_odd_names.kp T.b_l_odd_names .nil pass0) (by rfl)) (pss_one (ps_ret (pe_tup (pa_cons pe_str (pa_cons (pv 1) pa_nil))))) pss_nil)
      (pss_cons (ps_if (pt_cmpR (op_inM K P w hr.units (u65 hr)) (pv 1) (pv 0) (by rfl)) (pss_one (ps_ret (pe_tup (pa_cons pe_str (pa_cons (pv 1) pa_nil))))) pss_nil)
      (pss_cons (ps_for PassesOwn.never rfl (pi_range1 rfl T.m_range (pa_cons (pe_callB (cr_lenK K) (by rfl) T.m_len (by decide +kernel) (pa_cons (pv 2) pa_nil)) pa_nil)) (pg_name (i := 4) sc_l_own_due.nd rfl (.inl rfl)) (pss_cons (ps_if (pt_cmpR (op_notinM K P w hr.units (u65 hr)) (pe_ix (ix_K K (hu_of hr)) (pv 2) (pv 4) (fun _ _ => rfl)) (pv 0) (by rfl)) (pss_one (ps_ret (pe_tup (pa_cons pe_str (pa_cons (pe_ix (ix_K K (hu_of hr)) (pv 2) (pv 4) (fun _ _ => rfl)) pa_nil))))) pss_nil)
      (pss_one (ps_if (pt_cmpR (op_inM K P w hr.units (u65 hr)) (pe_ix (ix_K K (hu_of hr)) (pv 2) (pv 4) (fun _ _ => rfl)) (pe_slice (sl_M K) (pv 2) po_none (po_some (pv 4))) (by rfl)) (pss_one (ps_ret (pe_tup (pa_cons pe_str (pa_cons (pe_ix (ix_K K (hu_of hr)) (pv 2) (pv 4) (fun _ _ => rfl)) pa_nil))))) pss_nil))))
      (pss_cons (ps_set (i := 5) sc_l_own_due.nd rfl (.inl rfl) (pe_callB (cr_sortA K rfl) (by rfl) T.m_sorted (by decide +kernel) (pa_cons (pv 3) pa_nil)))
      (pss_cons (ps_for PassesOwn.never rfl (pi_range1 rfl T.m_range (pa_cons (pe_callB (cr_lenK K) (by rfl) T.m_len (by decide +kernel) (pa_cons (pv 5) pa_nil)) pa_nil)) (pg_name (i := 4) sc_l_own_due.nd rfl (.inl rfl)) (pss_cons (ps_if (PW.pt (pw_or (pt_cmpR (op_eqK K hr.units) (pv 4) pe_int (nomark _)) (pw_or1 (pt_cmpR (op_inM K P w hr.units (u65 hr)) (pe_ix (ix_K K (hu_of hr)) (pv 5) (pv 4) (fun _ _ => rfl)) (pe_call0 (ok_l_odd_paths T) (hr.mono (by decide)) (by rfl) T.g_l_odd_paths T.F_l_odd_paths.kp T.b_l_odd_paths .nil pass0) (by rfl))))) (pss_one (ps_ret (pe_tup (pa_cons pe_str (pa_cons (pe_ix (ix_K K (hu_of hr)) (pv 5) (pv 4) (fun _ _ => rfl)) (pa_cons pe_non (pa_cons pe_bl pa_nil))))))) pss_nil)
      (pss_cons (ps_set (i := 6) sc_l_own_due.nd rfl (.inl rfl) (pe_ix (ix_K K (hu_of hr)) (pv 3) (pe_ix (ix_K K (hu_of hr)) (pv 5) (pv 4) (fun _ _ => rfl)) (fun _ _ => rfl)))
      (pss_one (ps_for PassesOwn.never rfl (pi_range1 rfl T.m_range (pa_cons (pe_callB (cr_lenK K) (by rfl) T.m_len (by decide +kernel) (pa_cons (pv 6) pa_nil)) pa_nil)) (pg_name (i := 7) sc_l_own_due.nd rfl (.inl rfl)) (pss_one (ps_if (PW.pt (pw_or (pt_cmpR (op_eqK K hr.units) (pv 7) pe_int (nomark _)) (pw_or1 (pt_cmpR (op_inM K P w hr.units (u65 hr)) (pe_ix (ix_K K (hu_of hr)) (pv 6) (pv 7) (fun _ _ => rfl)) (pe_call0 (ok_l_odd_lines T) (hr.mono (by decide)) (by rfl) T.g_l_odd_lines T.F_l_odd_lines.kp T.b_l_odd_lines .nil pass0) (by rfl))))) (pss_one (ps_ret (pe_tup (pa_cons pe_str (pa_cons (pe_ix (ix_K K (hu_of hr)) (pv 5) (pv 4) (fun _ _ => rfl)) (pa_cons (pv 7) (pa_cons pe_bl pa_nil))))))) pss_nil)))))))
      (pss_one (ps_ret (pe_tup (pa_cons pe_str (pa_cons pe_non pa_nil)))))))))), ?_⟩
  obtain ⟨kp, lp, d, ks, ps, z, t, us, rfl, hk, hl, ⟨kvs, hd, ek, nd, dq⟩, gt, lt, lps, ezO, asc, mus, q⟩ := h
  refine g_start (σ' := [some (.ref kp), some (.str z), some (.ref lp), some (.ref d), none, none, none, none]) rfl ?_
  have hH := Has.start H
  have pair : ∀ {H1 : Hp} {w y : Str}, Same H H1 → Dq H1 (V.non) PyData.none → ∀ (R : VK), (∀ v H', Same H H' → Dq H' v (dueN w y) → R v H') → kTup [.str w, .str y] H1 R := fun {H1 w y} s _ R r =>
    g_ktup (by walk_at "sz") (Has.start H1) (fun p H2 n2 h2 => r _ H2 (s.trans h2.same) (.tup (h2.get (List.Mem.head _)) (.cons (.str _) (.cons (.str _) .nil))))
  walk_at "gg"
  refine ⟨rfl, fun p1 H1 s1 n1 e1 => ?_⟩
  refine g_inM (g_inFL e1 rfl (flat_strs _) ?_)
  rw [inV_strs, ezO]
  cases en : isNm z with
  | false =>
    walk_at "gg"
    refine pair (w := "BadName") s1 .non _ (fun v H' s d => q v H' s ?_)
    unfold dueD
    rw [if_neg (by rw [en]; decide)]
    exact d
  | true =>
    walk_at "gg"
    refine g_inM (g_inFL (s1 _ _ hk) rfl (flat_strs _) ?_)
    rw [inV_strs]
    by_cases mk : z ∈ ks
    · rw [decide_eq_true mk]
      walk_at "gg"
      refine pair (w := "Taken") s1 .non _ (fun v H' s d => q v H' s ?_)
      unfold dueD
      rw [if_pos en, if_pos (decide_eq_true mk)]
      exact d
    rw [decide_eq_false mk]
    have edue : dueD (fun x => decide (x ∈ ks)) z ps t us = match chkE (fun x => decide (x ∈ ks)) [] ps with
        | some (true, y) => dueN "Unknown" y
        | some (false, y) => dueN "Repeated" y
        | none => match badK t 0 us with
          | some r => dueT r
          | none => toldD := by
      unfold dueD
      rw [if_pos en, if_neg (fun c => mk (of_decide_eq_true c))]
    rw [edue] at q
    clear edue
    have hl1 := s1 _ _ hl
    walk_at "gg"
    rw [List.length_map]
    refine k_forR1 (fun j σ H' => ∃ y4, σ = [some (.ref kp), some (.str z), some (.ref lp), some (.ref d), y4, none, none, none] ∧ Same H H' ∧ chkE (fun x => decide (x ∈ ks)) [] ps = chkE (fun x => decide (x ∈ ks)) (ps.take j) (ps.drop j)) (by omega) (by omega) ⟨_, rfl, s1, rfl⟩ ?_ ?_
    · rintro j σ H2 hj ⟨y4, rfl, s2, ec⟩
      have hj : j < ps.length := by omega
      have ex : ps[j]? = some ps[j] := List.getElem?_eq_getElem hj
      generalize ps[j] = x at ex
      rw [chkE_drop ex] at ec
      walk_at "gg"
      refine g_ixZ (s2 _ _ hl) (by omega) (by omega) (fun x1 hx1 => ?_)
      have e1 : x1 = x := by
        have hx1 : ps[j]? = some x1 := hx1
        rw [ex] at hx1
        injection hx1 with hx1
        exact hx1.symm
      subst e1
      walk_at "gg"
      refine g_notinM (g_notinFL (s2 _ _ hk) rfl (flat_strs _) ?_)
      rw [inV_strs]
      by_cases mx : x1 ∈ ks
      · rw [if_pos (show decide (x1 ∈ ks) = true from decide_eq_true mx)] at ec
        rw [decide_eq_true mx]
        walk_at "gg"
        refine g_ixZ (s2 _ _ hl) (by omega) (by omega) (fun x2 hx2 => ?_)
        have hx2 : ps[j]? = some x2 := hx2
        rw [ex] at hx2
        injection hx2 with hx2
        subst hx2
        walk_at "gg"
        refine g_slM (g_slL (s2 _ _ hl) (Has.start H2) (fun p3 H3 n3 h3 => ?_))
        rw [cutV_to, ← List.map_take] at h3
        refine g_inM (g_inFL (h3.get (List.Mem.head _)) rfl (flat_strs _) ?_)
        rw [inV_strs]
        have s3 := s2.trans h3.same
        by_cases mt : x1 ∈ ps.take j
        · rw [if_pos mt] at ec
          rw [decide_eq_true mt]
          walk_at "gg"
          refine g_ixZ (s3 _ _ hl) (by omega) (by omega) (fun x2 hx2 => ?_)
          have hx2 : ps[j]? = some x2 := hx2
          rw [ex] at hx2
          injection hx2 with hx2
          subst hx2
          walk_at "gg"
          refine pair (w := "Repeated") s3 .non _ (fun v H' s d => q v H' s ?_)
          rw [ec]
          exact d
        · rw [if_neg mt] at ec
          rw [decide_eq_false mt]
          walk_at "gg"
          exact ⟨_, rfl, s3, ec⟩
      · rw [if_neg (fun c => mx (of_decide_eq_true c))] at ec
        rw [decide_eq_false mx]
        walk_at "gg"
        refine g_ixZ (s2 _ _ hl) (by omega) (by omega) (fun x2 hx2 => ?_)
        have hx2 : ps[j]? = some x2 := hx2
        rw [ex] at hx2
        injection hx2 with hx2
        subst hx2
        walk_at "gg"
        refine pair (w := "Unknown") s2 .non _ (fun v H' s d => q v H' s ?_)
        rw [ec]
        exact d
    · rintro σ H2 ⟨y4, rfl, s2, ec⟩
      have ec : chkE (fun x => decide (x ∈ ks)) [] ps = none := by
        rw [ec, List.drop_of_length_le (by omega)]
        rfl
      rw [ec] at q
      walk_at "gg"
      refine (g_sortDS (s2 _ _ hd) (by rw [ek, List.map_map]; rfl) (ks := t.map (·.1)) (by rw [List.length_map]; omega) (Has.start H2) (fun us2 p3 H3 pm srt n3 h3 => ?_))
      have asc2 := asc_of srt (pm.nodup_iff.mpr nd)
      have eu : us2 = us := Asc.ext asc2 asc fun y => (pm.mem_iff).trans (mus y).symm
      subst eu
      have s3 := s2.trans h3.same
      have hp3 := h3.get (List.Mem.head _)
      have lus : us2.length ≤ 60 := by
        have := pm.length_eq
        rw [List.length_map] at this
        omega
      walk_at "gg"
      rw [List.length_map]
      have quad : ∀ {H1 : Hp} {y : Str} {o : Option Nat}, Same H H1 → ∀ (R : VK), (∀ v H', Same H H' → Dq H' v (dueT (y, o)) → R v H') → kTup [.str "BadTree", .str y, plV o, .bl false] H1 R := fun {H1 y o} s R r =>
        g_ktup (by walk_at "sz") (Has.start H1) (fun p H2 n2 h2 => r _ H2 (s.trans h2.same) (.tup (h2.get (List.Mem.head _)) (.cons (.str _) (.cons (.str _) (.cons (by cases o with | none => exact .non | some i => exact .int _) (.cons (.bl _) .nil))))))
      refine k_forR1 (fun j σ H' => ∃ y4 y6 y7, σ = [some (.ref kp), some (.str z), some (.ref lp), some (.ref d), y4, some (.ref p3), y6, y7] ∧ Same H3 H' ∧ badK t 0 us2 = badK t j (us2.drop j) ∧ j ≤ 8) (by omega) (by omega) ⟨_, _, _, rfl, Same.refl _, rfl, Nat.zero_le _⟩ ?_ ?_
      · rintro j σ H4 hj ⟨y4, y6, y7, rfl, s4, eb, j8⟩
        have hj : j < us2.length := by omega
        have ex : us2[j]? = some us2[j] := List.getElem?_eq_getElem hj
        generalize us2[j] = x at ex
        rw [badK_drop ex] at eb
        have ixx : ∀ {H5 : Hp} {R : VK}, Same H3 H5 → R (.str x) H5 → rIxA K (.ref p3) (.int (j : Int)) H5 R := fun {H5 R} s r => g_ixZ (s _ _ hp3) (by omega) (by omega) (fun x2 hx2 => by
          have hx2 : us2[j]? = some x2 := hx2
          rw [ex] at hx2
          injection hx2 with hx2
          subst hx2
          exact r)
        have mx : x ∈ t.map (·.1) := (mus x).mp (List.mem_of_getElem? ex)
        obtain ⟨pr, hpr, epr⟩ := List.mem_map.mp mx
        have xp : x ∈ allP := by rw [← epr]; exact gt.pt pr hpr
        have gx : getT t x = some pr.2 := getT_of nd (by rw [← epr]; exact hpr)
        have gtx := gt.tx pr hpr
        generalize pr.2 = tx at gx gtx
        rw [gx] at eb
        walk_at "gg"
        refine i_d (fun e8 => ?_) (fun n8 => ?_)
        · rw [if_pos (by omega)] at eb
          rw [eb] at q
          walk_at "gg"
          refine ixx s4 ?_
          walk_at "gg"
          exact quad (o := none) (s3.trans s4) _ q
        rw [if_neg (by omega)] at eb
        walk_at "gg"
        refine ixx s4 ?_
        walk_at "gg"
        refine ⟨rfl, fun p5 H5 s5 n5 e5 => ?_⟩
        have s5 := s4.trans s5
        refine g_inM (g_inFL e5 rfl (flat_strs _) ?_)
        rw [inV_strs, pathO x xp]
        cases ep : isPath x with
        | false =>
          rw [if_neg (by rw [ep]; decide)] at eb
          rw [eb] at q
          walk_at "gg"
          refine ixx s5 ?_
          walk_at "gg"
          exact quad (o := none) (s3.trans s5) _ q
        | true =>
          rw [if_pos ep] at eb
          walk_at "gg"
          refine ixx s5 ?_
          have sH5 := s3.trans s5
          obtain ⟨l, vl, hl6⟩ := tr_at ek (dq.up sH5 _ _) gx
          refine g_ixDS (sH5 _ _ hd) vl ?_
          walk_at "gg"
          rw [List.length_map]
          have ltx := gtx.1
          have eb : badK t 0 us2 = (match badF 0 tx with | some i => some (x, some i) | none => badK t (j + 1) (us2.drop (j + 1))) := eb
          refine k_forR1 (fun i σ H' => ∃ y7, σ = [some (.ref kp), some (.str z), some (.ref lp), some (.ref d), some (.int (j : Int)), some (.ref p3), some (.ref l), y7] ∧ Same H5 H' ∧ badF 0 tx = badF i (tx.drop i) ∧ i ≤ 40) (by omega) (by omega) ⟨_, rfl, Same.refl _, rfl, Nat.zero_le _⟩ ?_ ?_
          · rintro i σ H6 hi ⟨y7, rfl, s6, ef, i40⟩
            have hi : i < tx.length := by omega
            have ei : tx[i]? = some tx[i] := List.getElem?_eq_getElem hi
            generalize tx[i] = y at ei
            rw [badF_drop ei] at ef
            have my := gtx.2 y (List.mem_of_getElem? ei)
            have s56 := s5.trans s6
            walk_at "gg"
            refine i_d (fun e40 => ?_) (fun n40 => ?_)
            · rw [if_pos (by omega)] at ef
              rw [ef] at eb
              rw [eb] at q
              walk_at "gg"
              refine ixx s56 ?_
              walk_at "gg"
              exact quad (o := some i) (s3.trans s56) _ q
            rw [if_neg (by omega)] at ef
            walk_at "gg"
            refine g_ixZ (s6 _ _ hl6) (by omega) (by omega) (fun y2 hy2 => ?_)
            have hy2 : tx[i]? = some y2 := hy2
            rw [ei] at hy2
            injection hy2 with hy2
            subst hy2
            walk_at "gg"
            refine ⟨rfl, fun p7 H7 s7 n7 e7 => ?_⟩
            refine g_inM (g_inFL e7 rfl (flat_strs _) ?_)
            rw [inV_strs, lineO y my]
            have s7 := s56.trans s7
            cases el : isLine y with
            | false =>
              rw [if_neg (by rw [el]; decide)] at ef
              rw [ef] at eb
              rw [eb] at q
              walk_at "gg"
              refine ixx s7 ?_
              walk_at "gg"
              exact quad (o := some i) (s3.trans s7) _ q
            | true =>
              rw [if_pos el] at ef
              walk_at "gg"
              exact ⟨_, rfl, s6.trans (by assumption), ef, by omega⟩
          · rintro σ H6 ⟨y7, rfl, s6, ef, i40⟩
            have ef : badF 0 tx = none := by
              rw [ef]
              exact badF_end tx _ (by omega)
            rw [ef] at eb
            exact ⟨_, _, _, rfl, s5.trans s6, eb, by omega⟩
      · rintro σ H4 ⟨y4, y6, y7, rfl, s4, eb, j8⟩
        rw [badK_end t us2 _ (by omega)] at eb
        rw [eb] at q
        walk_at "gg"
        exact g_ktup (by walk_at "sz") (Has.start H4) (fun p H5 n5 h5 => q _ H5 ((s3.trans s4).trans h5.same) (.tup (h5.get (List.Mem.head _)) (.cons (.str _) (.cons .non .nil))))
end
end
section
section
variable {P : Program} {w : World} {K : PySem.W.Frag} {mg : Str → Option Value} {base : Heap}
def nmX (T : Txt K mg) (C : Addr) (s : Str) (c : Value) (d : Option Addr) (H : Hp) (Q : VK) : Prop := ∃ dd z, c = .ref C ∧ d = some dd ∧ H dd = some (.xd [("name", .str z)]) ∧ ∀ v H', Same H H' → Dq H' v (dueN s z) → Q v H'
def trX (T : Txt K mg) (c : Value) (d : Option Addr) (H : Hp) (Q : VK) : Prop := ∃ dd r, c = .ref T.C_BadTree ∧ d = some dd ∧ H dd = some (.xd [("place", plV r.2), ("path", .str r.1)]) ∧ ∀ v H', Same H H' → Dq H' v (dueT r) → Q v H'
def sp_l_fault_x (T : Txt K mg) : SpX := fun a c d vs H Q _ => vs = [.ref a] ∧ (nmX T T.C_BadName "BadName" c d H Q ∨ nmX T T.C_Taken "Taken" c d H Q ∨ nmX T T.C_Unknown "Unknown" c d H Q ∨ nmX T T.C_Repeated "Repeated" c d H Q ∨ trX T c d H Q)
theorem sp_l_fault_x_len {T : Txt K mg} {a c d vs H Q E} (h : sp_l_fault_x T a c d vs H Q E) : vs.length = 1 := by
  obtain ⟨rfl, _⟩ := h
  rfl
theorem dq_nm {H : Hp} {p : Addr} {s z : Str} (h : H p = some (.tup [.str s, .str z])) : Dq H (.ref p) (dueN s z) := .tup h (.cons (.str _) (.cons (.str _) .nil))
set_option maxHeartbeats 1000000 in
theorem ok_l_fault_x (T : Txt K mg) : FnX P w K mg base 1 T.f_l_fault T.fd_l_fault ["fault"] (sp_l_fault_x T) := by
  refine Fun.okX T.F_l_fault sc_l_fault (fun a c d vs H Q E h => sp_l_fault_x_len h) (fun cdv A outer s H vs Q E p c d hf zc hr h => ?_)
  refine ⟨_, (pss_cons (ps_set (i := 1) sc_l_fault.nd rfl (.inl rfl) (pe_lst (pa_cons (pe_callB (cr_isP K (List.mem_singleton.mpr rfl) zc hf) (by rfl) T.m_isinstance (by decide +kernel) (pa_cons (pv 0) (pa_cons (pe_gc (v := .ref T.C_BadName) (by rfl) ⟨_, T.g_BadName, rfl⟩) pa_nil))) (pa_cons (pe_callB (cr_isP K (List.mem_singleton.mpr rfl) zc hf) (by rfl) T.m_isinstance (by decide +kernel) (pa_cons (pv 0) (pa_cons (pe_gc (v := .ref T.C_Taken) (by rfl) ⟨_, T.g_Taken, rfl⟩) pa_nil))) pa_nil))))
      (pss_cons (ps_set (i := 1) sc_l_fault.nd rfl (.inl rfl) (pe_op (op_addK K) (pv 1) (pe_lst (pa_cons (pe_callB (cr_isP K (List.mem_singleton.mpr rfl) zc hf) (by rfl) T.m_isinstance (by decide +kernel) (pa_cons (pv 0) (pa_cons (pe_gc (v := .ref T.C_Unknown) (by rfl) ⟨_, T.g_Unknown, rfl⟩) pa_nil))) (pa_cons (pe_callB (cr_isP K (List.mem_singleton.mpr rfl) zc hf) (by rfl) T.m_isinstance (by decide +kernel) (pa_cons (pv 0) (pa_cons (pe_gc (v := .ref T.C_Repeated) (by rfl) ⟨_, T.g_Repeated, rfl⟩) pa_nil))) pa_nil)))))
      (pss_cons (ps_expr (k_bm K (pe_bm PySem.F.plainAttrs_list PySem.F.slot_list_append PySem.F.type_list_append mt_append (pv 1) (pa_cons (pe_callB (cr_isP K (List.mem_singleton.mpr rfl) zc hf) (by rfl) T.m_isinstance (by decide +kernel) (pa_cons (pv 0) (pa_cons (pe_gc (v := .ref T.C_BadTree) (by rfl) ⟨_, T.g_BadTree, rfl⟩) pa_nil))) pa_nil))))
      (pss_cons (ps_if (PW.pt (pw_or (pt_cmpR (op_neK K hr.units) (k_bm K (pe_bm PySem.F.plainAttrs_list PySem.F.slot_list_count PySem.F.type_list_count (mt_cnt K) (pv 1) (pa_cons pe_bl pa_nil))) pe_int (nomark _)) (pw_or1 (pt_not (pt_val (pe_callB (cr_isP K (List.mem_singleton.mpr rfl) zc hf) (by rfl) T.m_isinstance (by decide +kernel) (pa_cons (pv 0) (pa_cons (pe_bltn (v := .ty "ValueError") (by rfl) T.m_ValueError (by decide +kernel) rfl) pa_nil)))))))) (pss_one (ps_ret (pe_tup (pa_cons pe_str pa_nil)))) pss_nil)
      (pss_cons (ps_if (pt_tru K (pe_ix (ix_K K (huH hr)) (pv 1) pe_int (fun _ _ => rfl))) (pss_cons (ps_set (i := 2) sc_l_fault.nd rfl (.inl rfl) (pe_xfP K (List.mem_singleton.mpr rfl) zc hf (pv 0)))
      (pss_one (ps_ret (pe_tup (pa_cons pe_str (pa_cons (pe_xfP K (List.mem_singleton.mpr rfl) zc hf (pv 0)) (pa_cons (pv 2) (pa_cons (pe_callB (cr_isK K) (by rfl) T.m_isinstance (by decide +kernel) (pa_cons (pv 2) (pa_cons (pe_bltn (v := .ty "bool") (by rfl) T.m_bool (by decide +kernel) rfl) pa_nil))) pa_nil)))))))) pss_nil)
      (pss_cons (ps_set (i := 3) sc_l_fault.nd rfl (.inl rfl) (pe_ix (ix_K K (huH hr)) (pe_lst (pa_cons pe_str (pa_cons pe_str (pa_cons pe_str (pa_cons pe_str pa_nil))))) (k_bm K (pe_bm PySem.F.plainAttrs_list PySem.F.slot_list_index PySem.F.type_list_index (mt_idxA K) (pv 1) (pa_cons pe_bl pa_nil))) (fun _ _ => rfl)))
      (pss_one (ps_ret (pe_tup (pa_cons (pv 3) (pa_cons (pe_xfP K (List.mem_singleton.mpr rfl) zc hf (pv 0)) pa_nil))))))))))), ?_⟩
  obtain ⟨rfl, h⟩ := h
  refine g_start (σ' := [some (.ref p.1), none, none, none]) rfl ?_
  rcases h with ⟨dd, z, rfl, rfl, hd, q⟩ | ⟨dd, z, rfl, rfl, hd, q⟩ | ⟨dd, z, rfl, rfl, hd, q⟩ | ⟨dd, z, rfl, rfl, hd, q⟩ | ⟨dd, r, rfl, rfl, hd, q⟩
  · have hH := Has.start H
    walk_at "gg"
    refine g_isX T.IS_BadName (by walk_at "h") T.K_BadName_BadName ?_
    walk_at "gg"
    refine g_isX T.IS_BadName (by walk_at "h") T.K_BadName_Taken ?_
    walk_at "gg"
    refine g_klst (by walk_at "sz") hH (fun p1 H1 n1 h1 => ?_)
    walk_at "gg"
    refine g_isX T.IS_BadName (by walk_at "h") T.K_BadName_Unknown ?_
    walk_at "gg"
    refine g_isX T.IS_BadName (by walk_at "h") T.K_BadName_Repeated ?_
    walk_at "gg"
    refine g_klst (by walk_at "sz") h1 (fun p2 H2 n2 h2 => ?_)
    refine g_addL (h2.get (by walk_at "m")) (h2.get (List.Mem.head _)) (sz (by decide)) h2 (fun p3 H3 n3 h3 => ?_)
    walk_at "gg"
    refine g_isX T.IS_BadName (by walk_at "h") T.K_BadName_BadTree ?_
    walk_at "gg"
    refine g_append h3 .hd (szl (by decide)) (fun H4 h4 => ?_)
    have h4 : Has H ((p3, .lst [.bl true, .bl false, .bl false, .bl false, .bl false]) :: (p2, .lst [.bl false, .bl false]) :: (p1, .lst [.bl true, .bl false]) :: []) H4 := h4
    walk_at "gg"
    refine ⟨p3, _, .bl true, rfl, rfl, SqL.of (h4.get (List.Mem.head _)), rfl, rfl, ?_⟩
    walk_at "gg"
    refine i_n (fun c => (c rfl).elim) (fun _ => ?_)
    walk_at "gg"
    refine g_isXT T.IS_BadName (by walk_at "h") T.K_BadName_ValueError ?_
    walk_at "gg"
    refine g_ixL (v := .bl false) (h4.get (List.Mem.head _)) (atI_nat (j := 4) rfl) ?_
    refine ⟨false, by simp [TruV], ?_⟩
    walk_at "gg"
    refine g_klst (by walk_at "sz") h4 (fun p5 H5 n5 h5 => ?_)
    walk_at "gg"
    refine ⟨p3, _, .bl true, 0, .bl true, rfl, rfl, SqL.of (h5.get (.tail _ (List.Mem.head _))), rfl, rfl, rfl, rfl, (fun m z' hm hz' => ?_), ?_⟩
    · omega
    refine g_ixL (v := .str "BadName") (h5.get (List.Mem.head _)) (atI_nat (j := 0) rfl) ?_
    walk_at "gg"
    refine g_kxf T.XF_BadName T.N_BadName_name (by walk_at "h") rfl ?_
    walk_at "gg"
    exact g_ktup (by walk_at "sz") h5 (fun p6 H6 n6 h6 => q _ H6 h6.same (dq_nm (h6.get (List.Mem.head _))))
  · have hH := Has.start H
    walk_at "gg"
    refine g_isX T.IS_Taken (by walk_at "h") T.K_Taken_BadName ?_
    walk_at "gg"
    refine g_isX T.IS_Taken (by walk_at "h") T.K_Taken_Taken ?_
    walk_at "gg"
    refine g_klst (by walk_at "sz") hH (fun p1 H1 n1 h1 => ?_)
    walk_at "gg"
    refine g_isX T.IS_Taken (by walk_at "h") T.K_Taken_Unknown ?_
    walk_at "gg"
    refine g_isX T.IS_Taken (by walk_at "h") T.K_Taken_Repeated ?_
    walk_at "gg"
    refine g_klst (by walk_at "sz") h1 (fun p2 H2 n2 h2 => ?_)
    refine g_addL (h2.get (by walk_at "m")) (h2.get (List.Mem.head _)) (sz (by decide)) h2 (fun p3 H3 n3 h3 => ?_)
    walk_at "gg"
    refine g_isX T.IS_Taken (by walk_at "h") T.K_Taken_BadTree ?_
    walk_at "gg"
    refine g_append h3 .hd (szl (by decide)) (fun H4 h4 => ?_)
    have h4 : Has H ((p3, .lst [.bl false, .bl true, .bl false, .bl false, .bl false]) :: (p2, .lst [.bl false, .bl false]) :: (p1, .lst [.bl false, .bl true]) :: []) H4 := h4
    walk_at "gg"
    refine ⟨p3, _, .bl true, rfl, rfl, SqL.of (h4.get (List.Mem.head _)), rfl, rfl, ?_⟩
    walk_at "gg"
    refine i_n (fun c => (c rfl).elim) (fun _ => ?_)
    walk_at "gg"
    refine g_isXT T.IS_Taken (by walk_at "h") T.K_Taken_ValueError ?_
    walk_at "gg"
    refine g_ixL (v := .bl false) (h4.get (List.Mem.head _)) (atI_nat (j := 4) rfl) ?_
    refine ⟨false, by simp [TruV], ?_⟩
    walk_at "gg"
    refine g_klst (by walk_at "sz") h4 (fun p5 H5 n5 h5 => ?_)
    walk_at "gg"
    refine ⟨p3, _, .bl true, 1, .bl true, rfl, rfl, SqL.of (h5.get (.tail _ (List.Mem.head _))), rfl, rfl, rfl, rfl, (fun m z' hm hz' => ?_), ?_⟩
    · match m, hm, hz' with
      | 0, _, hz' => injection hz' with e; subst e; rfl
    refine g_ixL (v := .str "Taken") (h5.get (List.Mem.head _)) (atI_nat (j := 1) rfl) ?_
    walk_at "gg"
    refine g_kxf T.XF_Taken T.N_Taken_name (by walk_at "h") rfl ?_
    walk_at "gg"
    exact g_ktup (by walk_at "sz") h5 (fun p6 H6 n6 h6 => q _ H6 h6.same (dq_nm (h6.get (List.Mem.head _))))
  · have hH := Has.start H
    walk_at "gg"
    refine g_isX T.IS_Unknown (by walk_at "h") T.K_Unknown_BadName ?_
    walk_at "gg"
    refine g_isX T.IS_Unknown (by walk_at "h") T.K_Unknown_Taken ?_
    walk_at "gg"
    refine g_klst (by walk_at "sz") hH (fun p1 H1 n1 h1 => ?_)
    walk_at "gg"
    refine g_isX T.IS_Unknown (by walk_at "h") T.K_Unknown_Unknown ?_
    walk_at "gg"
    refine g_isX T.IS_Unknown (by walk_at "h") T.K_Unknown_Repeated ?_
    walk_at "gg"
    refine g_klst (by walk_at "sz") h1 (fun p2 H2 n2 h2 => ?_)
    refine g_addL (h2.get (by walk_at "m")) (h2.get (List.Mem.head _)) (sz (by decide)) h2 (fun p3 H3 n3 h3 => ?_)
    walk_at "gg"
    refine g_isX T.IS_Unknown (by walk_at "h") T.K_Unknown_BadTree ?_
    walk_at "gg"
    refine g_append h3 .hd (szl (by decide)) (fun H4 h4 => ?_)
    have h4 : Has H ((p3, .lst [.bl false, .bl false, .bl true, .bl false, .bl false]) :: (p2, .lst [.bl true, .bl false]) :: (p1, .lst [.bl false, .bl false]) :: []) H4 := h4
    walk_at "gg"
    refine ⟨p3, _, .bl true, rfl, rfl, SqL.of (h4.get (List.Mem.head _)), rfl, rfl, ?_⟩
    walk_at "gg"
    refine i_n (fun c => (c rfl).elim) (fun _ => ?_)
    walk_at "gg"
    refine g_isXT T.IS_Unknown (by walk_at "h") T.K_Unknown_ValueError ?_
    walk_at "gg"
    refine g_ixL (v := .bl false) (h4.get (List.Mem.head _)) (atI_nat (j := 4) rfl) ?_
    refine ⟨false, by simp [TruV], ?_⟩
    walk_at "gg"
    refine g_klst (by walk_at "sz") h4 (fun p5 H5 n5 h5 => ?_)
    walk_at "gg"
    refine ⟨p3, _, .bl true, 2, .bl true, rfl, rfl, SqL.of (h5.get (.tail _ (List.Mem.head _))), rfl, rfl, rfl, rfl, (fun m z' hm hz' => ?_), ?_⟩
    · match m, hm, hz' with
      | 0, _, hz' => injection hz' with e; subst e; rfl
      | 1, _, hz' => injection hz' with e; subst e; rfl
    refine g_ixL (v := .str "Unknown") (h5.get (List.Mem.head _)) (atI_nat (j := 2) rfl) ?_
    walk_at "gg"
    refine g_kxf T.XF_Unknown T.N_Unknown_name (by walk_at "h") rfl ?_
    walk_at "gg"
    exact g_ktup (by walk_at "sz") h5 (fun p6 H6 n6 h6 => q _ H6 h6.same (dq_nm (h6.get (List.Mem.head _))))
  · have hH := Has.start H
    walk_at "gg"
    refine g_isX T.IS_Repeated (by walk_at "h") T.K_Repeated_BadName ?_
    walk_at "gg"
    refine g_isX T.IS_Repeated (by walk_at "h") T.K_Repeated_Taken ?_
    walk_at "gg"
    refine g_klst (by walk_at "sz") hH (fun p1 H1 n1 h1 => ?_)
    walk_at "gg"
    refine g_isX T.IS_Repeated (by walk_at "h") T.K_Repeated_Unknown ?_
    walk_at "gg"
    refine g_isX T.IS_Repeated (by walk_at "h") T.K_Repeated_Repeated ?_
    walk_at "gg"
    refine g_klst (by walk_at "sz") h1 (fun p2 H2 n2 h2 => ?_)
    refine g_addL (h2.get (by walk_at "m")) (h2.get (List.Mem.head _)) (sz (by decide)) h2 (fun p3 H3 n3 h3 => ?_)
    walk_at "gg"
    refine g_isX T.IS_Repeated (by walk_at "h") T.K_Repeated_BadTree ?_
    walk_at "gg"
    refine g_append h3 .hd (szl (by decide)) (fun H4 h4 => ?_)
    have h4 : Has H ((p3, .lst [.bl false, .bl false, .bl false, .bl true, .bl false]) :: (p2, .lst [.bl false, .bl true]) :: (p1, .lst [.bl false, .bl false]) :: []) H4 := h4
    walk_at "gg"
    refine ⟨p3, _, .bl true, rfl, rfl, SqL.of (h4.get (List.Mem.head _)), rfl, rfl, ?_⟩
    walk_at "gg"
    refine i_n (fun c => (c rfl).elim) (fun _ => ?_)
    walk_at "gg"
    refine g_isXT T.IS_Repeated (by walk_at "h") T.K_Repeated_ValueError ?_
    walk_at "gg"
    refine g_ixL (v := .bl false) (h4.get (List.Mem.head _)) (atI_nat (j := 4) rfl) ?_
    refine ⟨false, by simp [TruV], ?_⟩
    walk_at "gg"
    refine g_klst (by walk_at "sz") h4 (fun p5 H5 n5 h5 => ?_)
    walk_at "gg"
    refine ⟨p3, _, .bl true, 3, .bl true, rfl, rfl, SqL.of (h5.get (.tail _ (List.Mem.head _))), rfl, rfl, rfl, rfl, (fun m z' hm hz' => ?_), ?_⟩
    · match m, hm, hz' with
      | 0, _, hz' => injection hz' with e; subst e; rfl
      | 1, _, hz' => injection hz' with e; subst e; rfl
      | 2, _, hz' => injection hz' with e; subst e; rfl
    refine g_ixL (v := .str "Repeated") (h5.get (List.Mem.head _)) (atI_nat (j := 3) rfl) ?_
    walk_at "gg"
    refine g_kxf T.XF_Repeated T.N_Repeated_name (by walk_at "h") rfl ?_
    walk_at "gg"
    exact g_ktup (by walk_at "sz") h5 (fun p6 H6 n6 h6 => q _ H6 h6.same (dq_nm (h6.get (List.Mem.head _))))
  · have hH := Has.start H
    walk_at "gg"
    refine g_isX T.IS_BadTree (by walk_at "h") T.K_BadTree_BadName ?_
    walk_at "gg"
    refine g_isX T.IS_BadTree (by walk_at "h") T.K_BadTree_Taken ?_
    walk_at "gg"
    refine g_klst (by walk_at "sz") hH (fun p1 H1 n1 h1 => ?_)
    walk_at "gg"
    refine g_isX T.IS_BadTree (by walk_at "h") T.K_BadTree_Unknown ?_
    walk_at "gg"
    refine g_isX T.IS_BadTree (by walk_at "h") T.K_BadTree_Repeated ?_
    walk_at "gg"
    refine g_klst (by walk_at "sz") h1 (fun p2 H2 n2 h2 => ?_)
    refine g_addL (h2.get (by walk_at "m")) (h2.get (List.Mem.head _)) (sz (by decide)) h2 (fun p3 H3 n3 h3 => ?_)
    walk_at "gg"
    refine g_isX T.IS_BadTree (by walk_at "h") T.K_BadTree_BadTree ?_
    walk_at "gg"
    refine g_append h3 .hd (szl (by decide)) (fun H4 h4 => ?_)
    have h4 : Has H ((p3, .lst [.bl false, .bl false, .bl false, .bl false, .bl true]) :: (p2, .lst [.bl false, .bl false]) :: (p1, .lst [.bl false, .bl false]) :: []) H4 := h4
    walk_at "gg"
    refine ⟨p3, _, .bl true, rfl, rfl, SqL.of (h4.get (List.Mem.head _)), rfl, rfl, ?_⟩
    walk_at "gg"
    refine i_n (fun c => (c rfl).elim) (fun _ => ?_)
    walk_at "gg"
    refine g_isXT T.IS_BadTree (by walk_at "h") T.K_BadTree_ValueError ?_
    walk_at "gg"
    refine g_ixL (v := .bl true) (h4.get (List.Mem.head _)) (atI_nat (j := 4) rfl) ?_
    refine ⟨true, by simp [TruV], ?_⟩
    walk_at "gg"
    refine g_kxf T.XF_BadTree T.N_BadTree_place (by walk_at "h") rfl ?_
    walk_at "gg"
    refine g_kxf T.XF_BadTree T.N_BadTree_path (by walk_at "h") rfl ?_
    walk_at "gg"
    obtain ⟨y, o⟩ := r
    cases o with
    | none =>
      refine g_is (x := .non) (.base .non) (by decide +kernel : kitB "NoneType" "bool" = some false) ?_
      walk_at "gg"
      exact g_ktup (by walk_at "sz") h4 (fun p6 H6 n6 h6 => q _ H6 h6.same (.tup (h6.get (List.Mem.head _)) (.cons (.str _) (.cons (.str _) (.cons .non (.cons (.bl _) .nil))))))
    | some k =>
      refine is_int_bool (i := (k : Nat)) ?_
      walk_at "gg"
      exact g_ktup (by walk_at "sz") h4 (fun p6 H6 n6 h6 => q _ H6 h6.same (.tup (h6.get (List.Mem.head _)) (.cons (.str _) (.cons (.str _) (.cons (.int _) (.cons (.bl _) .nil))))))
end
end
section
local macro_rules | `(tactic| walk_at "g") => `(tactic| (with_reducible refine g_tryM ?_))
structure ComOk (rows : List URow) (z : Str) (ps : List Str) (t : Tr) (us : List Str) : Prop where
  nm : isNm z = true
  fr : kn rows z = false
  ck : chkE (kn rows) [] ps = none
  bk : badK t 0 us = none
theorem ComOk.due {rows : List URow} {z : Str} {ps : List Str} {t : Tr} {us : List Str} (h : ComOk rows z ps t us) : dueD (kn rows) z ps t us = toldD := by
  unfold dueD
  rw [if_pos h.nm, if_neg (by rw [h.fr]; decide), h.ck, h.bk]
section
variable {P : Program} {w : World} {K : PySem.W.Frag} {mg : Str → Option Value} {base : Heap}
def sp_l_commit (T : Txt K mg) : Sp := fun vs H Q _ => ∃ (A : HA) (F : Hp) (nl l a : Addr) (kvs tk ok : List (Key × V)) (rows : List URow) (ts os : List (Str × Tr)) (z : Str) (ps : List Str) (t : Tr) (us : List Str), vs = [.ref A.h, .str z, .ref l, .ref a] ∧ Has F (HisO T A nl kvs tk ok) H ∧ HisF F nl kvs tk ok rows ts os ∧ VsOk ts os ∧ H l = some (.lst (ps.map V.str)) ∧ TrAt H a t ∧ TrB t ∧ (∀ p ∈ t, p.2.length ≤ 50) ∧
  Asc us ∧ (∀ y, y ∈ us ↔ y ∈ t.map (·.1)) ∧ z.length ≤ 10000 ∧ ps.length ≤ 50 ∧ rows.length < 60 ∧
  (¬ ComOk rows z ps t us → ∀ v H', Same H H' → Dq H' v (dueD (kn rows) z ps t us) → Q v H') ∧
  (ComOk rows z ps t us → ∀ v H' F' nl' kvs' us' d e t', AscT t' → (∀ p, p ∈ t' ↔ p ∈ t) → ButA (HisO T A nl kvs tk ok) H H' → Grow F H F' → Has F' (HisO T A nl' kvs' (tk ++ [(kS z, .ref d)]) (ok ++ [(kS z, .ref e)])) H' → HisF F' nl' kvs' (tk ++ [(kS z, .ref d)]) (ok ++ [(kS z, .ref e)]) (rows ++ [(z, us')]) (ts ++ [(z, t')]) (os ++ [(z, orgOf ts os z ps t')]) → PutU rows z ps us' → Dq F' v toldD → Q v H')
theorem sp_l_commit_len {T : Txt K mg} {vs H Q E} (h : sp_l_commit T vs H Q E) : vs.length = 4 := by
  obtain ⟨_, _, _, _, _, _, _, _, _, _, _, _, _, _, _, rfl, _⟩ := h
  rfl
set_option maxHeartbeats 1000000 in
theorem ok_l_commit (T : Txt K mg) : FnOk P w K mg base CX0 8 T.f_l_commit T.fd_l_commit ["history", "name", "parents", "tree"] (sp_l_commit T) := by
  refine T.F_l_commit.ok sc_l_commit (fun vs H Q E h => sp_l_commit_len h) (fun cdv A outer s H vs Q E hr h => ?_)
  refine ⟨_, (pss_cons (k_tryC K (i := 5) (Wout := fun _ _ _ _ => False) rfl rfl sc_l_commit.nd rfl rfl takesC (fun W pn xe tk hown => (pss_one (ps_set (i := 4) sc_l_commit.nd rfl (.inl rfl) (pe_methW (pv 0) T.cl_History T.M_History_commit (ok_History_commit T) (hr.mono (by decide)) T.b_History_commit (fun σ => L2.passAt tk σ) (pa_cons (pv 1) (pa_cons (pv 2) (pa_cons (pv 3) pa_nil))))))) (ClausesC.cons ⟨rfl, by decide, Or.inl T.g_PartError⟩ (fun a oe cls d pn hz hf => (pss_one (ps_ret (pe_callX hz hf (ok_l_fault_x T) (roomS hr (by decide)) (by rfl) T.g_l_fault T.F_l_fault.kp T.b_l_fault (pa_cons (pv 5) pa_nil))))) .nil))
      (pss_one (ps_ret (pe_tup (pa_cons pe_str (pa_cons (pv 4) pa_nil)))))), ?_⟩
  obtain ⟨A, F, nl, l, a, kvs, tk, ok, rows, ts, os, z, ps, t, us, rfl, h, f, vok, hl, ht, htb, ltx, asc, mus, lz, lp, few, qb, qg⟩ := h
  refine g_start (σ' := [some (.ref A.h), some (.str z), some (.ref l), some (.ref a), none, none]) rfl ?_
  have hi : H A.h = some (.ins T.C_History A.x (hs_ A.o A.tr A.og A.tu)) := h.get (by unfold HisO; walk_at "m")
  walk_at "gg"
  refine g_kmeth hi rfl ?_
  walk_at "gg"
  refine ⟨A, F, nl, l, a, kvs, tk, ok, rows, ts, os, z, ps, t, us, rfl, h, f, vok, hl, ht, htb, ltx, asc, mus, lz, lp, few, fun nm => ?_, fun nm kz => ?_, fun nm kz => ⟨fun y ck => ?_, fun y ck => ?_, fun ck => ⟨fun r bk => ?_, fun bk H' F' nl' kvs' us' d e t' at' mt b g h' f' pu => ?_⟩⟩⟩
  · intro ex H4 s4 n4 h4
    refine g_caughtM T.M_BadName_PartError (fun exn nxn => ?_)
    walk_at "gg"
    refine ⟨rfl, .inl ⟨ex, z, rfl, rfl, h4, fun v H' s dq => qb (fun c => by rw [c.nm] at nm; cases nm) v H' (s4.trans s) ?_⟩⟩
    unfold dueD
    rw [if_neg (by rw [nm]; decide)]
    exact dq
  · intro ex H4 s4 n4 h4
    refine g_caughtM T.M_Taken_PartError (fun exn nxn => ?_)
    walk_at "gg"
    refine ⟨rfl, .inr (.inl ⟨ex, z, rfl, rfl, h4, fun v H' s dq => qb (fun c => by rw [c.fr] at kz; cases kz) v H' (s4.trans s) ?_⟩)⟩
    unfold dueD
    rw [if_pos nm, if_pos kz]
    exact dq
  · intro ex H4 s4 n4 h4
    refine g_caughtM T.M_Unknown_PartError (fun exn nxn => ?_)
    walk_at "gg"
    refine ⟨rfl, .inr (.inr (.inl ⟨ex, y, rfl, rfl, h4, fun v H' s dq => qb (fun c => by rw [c.ck] at ck; cases ck) v H' (s4.trans s) ?_⟩))⟩
    unfold dueD
    rw [if_pos nm, if_neg (by rw [kz]; decide), ck]
    exact dq
  · intro ex H4 s4 n4 h4
    refine g_caughtM T.M_Repeated_PartError (fun exn nxn => ?_)
    walk_at "gg"
    refine ⟨rfl, .inr (.inr (.inr (.inl ⟨ex, y, rfl, rfl, h4, fun v H' s dq => qb (fun c => by rw [c.ck] at ck; cases ck) v H' (s4.trans s) ?_⟩)))⟩
    unfold dueD
    rw [if_pos nm, if_neg (by rw [kz]; decide), ck]
    exact dq
  · intro ex H4 s4 n4 h4
    refine g_caughtM T.M_BadTree_PartError (fun exn nxn => ?_)
    walk_at "gg"
    refine ⟨rfl, .inr (.inr (.inr (.inr ⟨ex, r, rfl, rfl, h4, fun v H' s dq => qb (fun c => by rw [c.bk] at bk; cases bk) v H' (s4.trans s) ?_⟩)))⟩
    unfold dueD
    rw [if_pos nm, if_neg (by rw [kz]; decide), ck, bk]
    exact dq
  · walk_at "gg"
    refine ⟨by walk_at "sz", fun p n5 => ?_⟩
    have h5 := h'.new (o := .tup [.str "told", .non]) n5
    have s5 := h5.grow
    have f5 : upd F' p (.tup [.str "told", .non]) p = some (.tup [.str "told", .non]) := upd_same
    have alive : ∀ x, H x ≠ none → x ≠ p := fun x nx e => by
      subst e
      by_cases m : x ∈ (HisO T A nl kvs tk ok).map (·.1)
      · have m : x ∈ (HisO T A nl' kvs' (tk ++ [(kS z, .ref d)]) (ok ++ [(kS z, .ref e)])).map (·.1) := m
        obtain ⟨q, hq, rfl⟩ := List.mem_map.mp m
        rw [(h'.own q hq).2] at n5
        cases n5
      · cases c : H x with
        | none => exact nx c
        | some u =>
          rw [b x u m c] at n5
          cases n5
    refine qg ⟨nm, kz, ck, bk⟩ _ _ _ nl' kvs' us' d e t' at' mt (fun x u nx ex => ?_) ⟨g.1.trans s5, fun x nx => ?_⟩ h5.frz (f'.mono s5) pu (.tup f5 (.cons (.str _) (.cons .non .nil)))
    · rw [upd_ne (alive x (by rw [ex]; exact fun c => by cases c))]
      exact b x u nx ex
    · rw [upd_ne (alive x nx)]
      exact g.2 x nx
def sp_l_asked (T : Txt K mg) : Sp := fun vs H Q _ => ∃ (A : HA) (rows : List URow) (ts os : List (Str × Tr)) (wd one other x : Str), vs = [.ref A.h, .str wd, .str one, .str other] ∧ HisAt T H A rows ts os ∧
  ((wd = "tree" ∧ kn rows one = false ∧ x = one) ∨ (wd = "origins" ∧ kn rows one = false ∧ x = one) ∨ (wd = "under" ∧ undr rows one = none ∧ x = one) ∨ (wd = "under" ∧ ∃ u, undr rows one = some u ∧ undr rows other = none ∧ x = other)) ∧
  ∀ v H', Same H H' → Dq H' v (dueN "Unknown" x) → Q v H'
theorem sp_l_asked_len {T : Txt K mg} {vs H Q E} (h : sp_l_asked T vs H Q E) : vs.length = 4 := by
  obtain ⟨_, _, _, _, _, _, _, _, rfl, _⟩ := h
  rfl
theorem ok_l_asked (T : Txt K mg) : FnOk P w K mg base CX0 5 T.f_l_asked T.fd_l_asked ["history", "word", "one", "other"] (sp_l_asked T) := by
  refine T.F_l_asked.ok sc_l_asked (fun vs H Q E h => sp_l_asked_len h) (fun cdv A outer s H vs Q E hr h => ?_)
  refine ⟨_, (pss_cons (k_try K (i := 5) (Wout := fun _ _ _ _ => False) rfl rfl sc_l_asked.nd rfl rfl ⟨rfl, by decide, Or.inl T.g_PartError⟩ takesN (fun W pn xe tk hown => (pss_one (ps_if (pt_cmpR (op_eqK K hr.units) (pv 1) pe_str (nomark _)) (pss_one (ps_set (i := 4) sc_l_asked.nd rfl (.inl rfl) (pe_methW (pv 0) T.cl_History T.M_History_tree (ok_History_tree T) (hr.mono (by decide)) T.b_History_tree (fun σ => L2N.passAt tk σ) (pa_cons (pv 2) pa_nil)))) (pss_one (ps_if (pt_cmpR (op_eqK K hr.units) (pv 1) pe_str (nomark _)) (pss_one (ps_set (i := 4) sc_l_asked.nd rfl (.inl rfl) (pe_methW (pv 0) T.cl_History T.M_History_origins (ok_History_origins T) (hr.mono (by decide)) T.b_History_origins (fun σ => L2N.passAt tk σ) (pa_cons (pv 2) pa_nil)))) (pss_one (ps_set (i := 4) sc_l_asked.nd rfl (.inl rfl) (pe_methW (pv 0) T.cl_History T.M_History_is_under (ok_History_is_under T) (hr.mono (by decide)) T.b_History_is_under (fun σ => L2N.passAt tk σ) (pa_cons (pv 2) (pa_cons (pv 3) pa_nil)))))))))) (fun a oe cls d pn hz hf => (pss_one (ps_ret (pe_callX hz.zc hf (ok_l_fault_x T) (roomS hr (by decide)) (by rfl) T.g_l_fault T.F_l_fault.kp T.b_l_fault (pa_cons (pv 5) pa_nil))))))
      (pss_one (ps_ret (pe_tup (pa_cons pe_str (pa_cons (pv 4) pa_nil)))))), ?_⟩
  obtain ⟨A, rows, ts, os, wd, one, other, x, rfl, h, cs, q⟩ := h
  refine g_start (σ' := [some (.ref A.h), some (.str wd), some (.str one), some (.str other), none, none]) rfl ?_
  rcases cs with ⟨rfl, k, rfl⟩ | ⟨rfl, k, rfl⟩ | ⟨rfl, k, rfl⟩ | ⟨rfl, u, eu, k, rfl⟩
  · walk_at "gg"
    rw [if_pos (by decide)]
    walk_at "gg"
    refine g_kmeth h.i rfl ?_
    walk_at "gg"
    refine ⟨A, rows, ts, os, x, rfl, h, fun t et => ?_, fun _ => ?_⟩
    · have := h.kn x
      rw [et, k] at this
      cases this
    · intro ex H4 s4 n4 h4
      refine g_caught T.M_Unknown_PartError (fun exn nxn => ?_)
      walk_at "gg"
      exact ⟨rfl, .inr (.inr (.inl ⟨ex, x, rfl, rfl, h4, fun v H' s dq => q v H' (s4.trans s) dq⟩))⟩
  · walk_at "gg"
    rw [if_neg (by decide)]
    walk_at "gg"
    rw [if_pos (by decide)]
    walk_at "gg"
    refine g_kmeth h.i rfl ?_
    walk_at "gg"
    refine ⟨A, rows, ts, os, x, rfl, h, fun t et => ?_, fun _ => ?_⟩
    · have := h.knO x
      rw [et, k] at this
      cases this
    · intro ex H4 s4 n4 h4
      refine g_caught T.M_Unknown_PartError (fun exn nxn => ?_)
      walk_at "gg"
      exact ⟨rfl, .inr (.inr (.inl ⟨ex, x, rfl, rfl, h4, fun v H' s dq => q v H' (s4.trans s) dq⟩))⟩
  · walk_at "gg"
    rw [if_neg (by decide)]
    walk_at "gg"
    rw [if_neg (by decide)]
    walk_at "gg"
    refine g_kmeth h.i rfl ?_
    walk_at "gg"
    refine ⟨A, rows, ts, os, x, other, rfl, h, (fun u v eu => by rw [k] at eu; cases eu), fun _ => ?_, fun u eu => by rw [k] at eu; cases eu⟩
    intro ex H4 s4 n4 h4
    refine g_caught T.M_Unknown_PartError (fun exn nxn => ?_)
    walk_at "gg"
    exact ⟨rfl, .inr (.inr (.inl ⟨ex, x, rfl, rfl, h4, fun v H' s dq => q v H' (s4.trans s) dq⟩))⟩
  · walk_at "gg"
    rw [if_neg (by decide)]
    walk_at "gg"
    rw [if_neg (by decide)]
    walk_at "gg"
    refine g_kmeth h.i rfl ?_
    walk_at "gg"
    refine ⟨A, rows, ts, os, one, x, rfl, h, (fun u v eu ev => by rw [k] at ev; cases ev), (fun c => by rw [eu] at c; cases c), fun u2 _ _ => ?_⟩
    intro ex H4 s4 n4 h4
    refine g_caught T.M_Unknown_PartError (fun exn nxn => ?_)
    walk_at "gg"
    exact ⟨rfl, .inr (.inr (.inl ⟨ex, x, rfl, rfl, h4, fun v H' s dq => q v H' (s4.trans s) dq⟩))⟩
end
end
section
theorem kn_iff {rows : List URow} {z : Str} : kn rows z = true ↔ ∃ u, undr rows z = some u := Option.isSome_iff_exists
/-- the rows of a history, by the law's table of parents -/
structure WebR (rows : List URow) (PS : Tr) : Prop where
  nms : rows.map (·.1) = PS.map (·.1)
  nd : (PS.map (·.1)).Nodup
  und : ∀ (t : Nat) (z : Str) (ps : List Str), PS[t]? = some (z, ps) → ∃ u, undr rows z = some u ∧ (∀ y, y ∈ u ↔ y = z ∨ ∃ p ∈ ps, ∃ v, undr rows p = some v ∧ y ∈ v) ∧ ∀ p ∈ ps, p ∈ (PS.take t).map (·.1)
  few : PS.length ≤ 20
  sub : ∀ z u y, undr rows z = some u → y ∈ u → y ∈ rows.map (·.1)
  asc : ∀ z u, undr rows z = some u → Asc u
/-- what is under each version, in any order -/
def UOk (rows : List URow) (U : Tr) : Prop := ∀ z x, getT U z = some x → x.Nodup ∧ ∃ u, undr rows z = some u ∧ ∀ y, y ∈ x ↔ y ∈ u
theorem UOk.len {rows : List URow} {PS U : Tr} (wr : WebR rows PS) (h : UOk rows U) {z : Str} {x : Tx} (e : getT U z = some x) : x.length ≤ 20 := by
  obtain ⟨n, u, eu, m⟩ := h z x e
  have := strs_sub (ys := rows.map (·.1)) n fun y hy => wr.sub z u y eu ((m y).mp hy)
  have l := congrArg List.length wr.nms
  rw [List.length_map] at this l
  rw [List.length_map] at l
  have := wr.few
  omega
theorem getT_snoc37 {B : Tr} {z y : Str} {t : Tx} (n : z ∉ B.map (·.1)) : getT (B ++ [(z, t)]) y = if y = z then some t else getT B y := by
  induction B with
  | nil =>
    show (if z = y then some t else none) = _
    by_cases h : z = y
    · rw [if_pos h, if_pos h.symm]
    · rw [if_neg h, if_neg (fun e => h e.symm)]
      rfl
  | cons p B ih =>
    rw [List.map_cons, List.mem_cons] at n
    have n' := not_or.mp n
    show (if p.1 = y then some p.2 else getT (B ++ [(z, t)]) y) = if y = z then some t else (if p.1 = y then some p.2 else getT B y)
    rw [ih n'.2]
    by_cases h : p.1 = y
    · rw [if_pos h, if_pos h, if_neg (fun e => n'.1 (e.symm.trans h.symm))]
    · rw [if_neg h, if_neg h]
section
variable {P : Program} {w : World} {K : PySem.W.Frag} {mg : Str → Option Value} {base : Heap}
def sp_l_pasts (T : Txt K mg) : Sp := fun vs H Q _ => ∃ (kp pd : Addr) (rows : List URow) (PS : Tr), vs = [.ref kp, .ref pd] ∧ H kp = some (.lst ((PS.map (·.1)).map V.str)) ∧ TrAt H pd PS ∧ WebR rows PS ∧ (∀ p ∈ PS, p.2.length ≤ 6) ∧
  ∀ d H' F' (kvs : List (Key × V)) (U : Tr), Same H F' → Has F' [(d, .dK kvs)] H' → TV F' kvs U → U.map (·.1) = PS.map (·.1) → UOk rows U → Q (.ref d) H'
theorem sp_l_pasts_len {T : Txt K mg} {vs H Q E} (h : sp_l_pasts T vs H Q E) : vs.length = 2 := by
  obtain ⟨_, _, _, _, rfl, _⟩ := h
  rfl
set_option maxHeartbeats 1000000 in
theorem ok_l_pasts (T : Txt K mg) : FnOk P w K mg base CX0 1 T.f_l_pasts T.fd_l_pasts ["names", "parents"] (sp_l_pasts T) := by
  refine T.F_l_pasts.ok sc_l_pasts (fun vs H Q E h => sp_l_pasts_len h) (fun cdv A outer s H vs Q E hr h => ?_)
  refine ⟨_, (pss_cons (ps_set (i := 2) sc_l_pasts.nd rfl (.inl rfl) pe_dnewK)
      (pss_cons (ps_for PassesOwn.never rfl (k_il K (pi_list (pv 0))) (pg_name (i := 3) sc_l_pasts.nd rfl (.inl rfl)) (pss_cons (ps_set (i := 4) sc_l_pasts.nd rfl (.inr rfl) (pe_lst (pa_cons (pv 3) pa_nil)))
      (pss_cons (ps_for PassesOwn.never rfl (k_il K (pi_list (pe_ix (ix_K K (hu_of hr)) (pv 1) (pv 3) (fun _ _ => rfl)))) (pg_name (i := 5) sc_l_pasts.nd rfl (.inl rfl)) (pss_cons (ps_setLc (i := 6) (own := [("low", 7)]) (g := gName 7) rfl sc_l_pasts.nd rfl rfl (sw_true rfl rfl rfl (by decide +kernel)) (k_il K (pi_list (pe_ix (ix_K K (hu_of hr)) (pv 2) (pv 5) (fun _ _ => rfl)))) (blkOk_by (N := n_l_pasts) (sc := defScope s_l_pasts) (by decide +kernel)) (fun _ _ _ _ _ => (pg_name (i := 7) sc_l_pasts.nd rfl (.inl rfl))) (fun _ _ _ _ _ => (pts_one (pt_cmpR (op_notinM K P w hr.units (u65 hr)) (pv 7) (pv 4) (by rfl)))) (fun _ _ _ _ _ => (pv 7)))
      (pss_one (ps_set (i := 4) sc_l_pasts.nd rfl (.inr rfl) (pe_op (op_addK K) (pv 4) (pv 6))))))
      (pss_one (ps_asg (pv 4) (pg_sub (pv 2) (pv 3) (set_any (hu_of hr))))))))
      (pss_one (ps_ret (pv 2))))), ?_⟩
  obtain ⟨kp, pd, rows, PS, rfl, hk, ⟨pk, hpd, ekp, ndp, dqp⟩, wr, l6, q⟩ := h
  refine g_start (σ' := [some (.ref kp), some (.ref pd), none, none, none, none, none, none]) rfl ?_
  have few := wr.few
  walk_at "gg"
  refine g_dnewK (Has.start H) (fun d H1 n1 h1 => ?_)
  walk_at "gg"
  refine k_forL (h1.same _ _ hk) (fun t σ H' => ∃ (F' : Hp) (kvs : List (Key × V)) (U : Tr) (y3 y4 y5 y6 : Option V), σ = [some (.ref kp), some (.ref pd), some (.ref d), y3, y4, y5, y6, none] ∧ Same H F' ∧ Has F' [(d, .dK kvs)] H' ∧ TV F' kvs U ∧ U.map (·.1) = (PS.map (·.1)).take t ∧ UOk rows U) ⟨H, [], [], _, _, _, _, rfl, Same.refl _, h1, ⟨rfl, .nil⟩, rfl, fun z x e => by cases e⟩ ?_ ?_ ?_
  · rintro t σ H' _ ⟨F', kvs, U, y3, y4, y5, y6, rfl, sF, h2, _⟩
    exact h2.same _ _ (sF _ _ hk)
  · rintro t v σ H2 hv ⟨F2, kvs, U, y3, y4, y5, y6, rfl, sF, h2, tv, eU, uok⟩
    obtain ⟨z, hz, rfl⟩ := str_at hv
    rw [List.getElem?_map] at hz
    obtain ⟨⟨z', ps⟩, hp, ez⟩ := Option.map_eq_some_iff.mp hz
    have ez : z' = z := ez
    subst ez
    have lt_ := (List.getElem?_eq_some_iff.mp hp).1
    obtain ⟨u, hu, mu, below⟩ := wr.und t z' ps hp
    have gp : getT PS z' = some ps := getT_of ndp (List.mem_of_getElem? hp)
    have lps : ps.length ≤ 6 := l6 _ (List.mem_of_getElem? hp)
    obtain ⟨lp, vl, hl⟩ := tr_at ekp dqp gp
    have lU : U.length ≤ 20 := by
      have := congrArg List.length eU
      rw [List.length_map, List.length_take, List.length_map] at this
      omega
    have nz : z' ∉ U.map (·.1) := by
      rw [eU]
      intro m
      obtain ⟨i, hi⟩ := List.mem_iff_getElem?.mp m
      have li := (List.getElem?_eq_some_iff.mp hi).1
      rw [List.length_take] at li
      rw [List.getElem?_take_of_lt (by omega)] at hi
      have := nd_inj ndp hi (show (PS.map (·.1))[t]? = some z' by rw [List.getElem?_map, hp]; rfl)
      omega
    walk_at "gg"
    refine g_klstF (by walk_at "sz") h2 (fun r H3 F3 n3 s3 f3 h3 => ?_)
    walk_at "gg"
    refine g_ixDS (h3.same _ _ ((sF.trans s3) _ _ hpd)) vl ?_
    walk_at "gg"
    refine k_forL (h3.same _ _ ((sF.trans s3) _ _ hl)) (fun i σ H' => ∃ (F' : Hp) (r : Addr) (xs : List Str) (y5 y6 : Option V), σ = [some (.ref kp), some (.ref pd), some (.ref d), some (.str z'), some (.ref r), y5, y6, none] ∧ Same F3 F' ∧ Has F' [(d, .dK kvs)] H' ∧ F' r = some (.lst (xs.map V.str)) ∧ xs.Nodup ∧ (∀ y, y ∈ xs ↔ y = z' ∨ ∃ p ∈ ps.take i, ∃ v, undr rows p = some v ∧ y ∈ v) ∧ xs.length ≤ 1 + 20 * i) ⟨F3, r, [z'], _, _, rfl, Same.refl _, h3, f3, (by simp), (fun y => by simp), by simp⟩ ?_ ?_ ?_
    · rintro i σ H' _ ⟨F', r, xs, y5, y6, rfl, s4, h4, _⟩
      exact h4.same _ _ ((sF.trans (s3.trans s4)) _ _ hl)
    · rintro i v σ H4 hv ⟨F4, r, xs, y5, y6, rfl, s4, h4, f4, nx, mx, lx⟩
      obtain ⟨e, he, rfl⟩ := str_at hv
      have li := (List.getElem?_eq_some_iff.mp he).1
      have eb : e ∈ U.map (·.1) := by
        rw [eU, ← List.map_take]
        exact below e (List.mem_of_getElem? he)
      have tv4 := tv.mono (s3.trans s4)
      cases gu : getT U e with
      | none => exact ((getT_none.mp gu) eb).elim
      | some x =>
      obtain ⟨ndx, ue, hue, mue⟩ := uok e x gu
      have l20 := uok.len wr gu
      obtain ⟨lx_, vx, hx⟩ := tr_at tv4.1 tv4.2 gu
      walk_at "gg"
      refine g_ixDS (h4.get (List.Mem.head _)) vx ?_
      walk_at "gg"
      refine k_lcL (h4.same _ _ hx) h4 (fun j acc F' O' => acc = ((x.take j).filter fun y => !decide (y ∈ xs)).map V.str ∧ F' = F4 ∧ O' = [(d, .dK kvs)]) ⟨rfl, rfl, rfl⟩ ?_ ?_ ?_
      · rintro j acc F' O' H5 ⟨_, rfl, rfl⟩ hh
        exact hh.same _ _ hx
      · rintro j v acc F' O' D H5 hv ⟨rfl, rfl, rfl⟩ hh
        obtain ⟨y, hy, rfl⟩ := str_at hv
        have lj := (List.getElem?_eq_some_iff.mp hy).1
        walk_at "gg"
        refine g_notinM (g_notinFL (hh.same _ _ f4) rfl (flat_strs _) ?_)
        rw [inV_strs]
        walk_at "gg"
        have st : (x.take (j + 1)).filter (fun y => !decide (y ∈ xs)) = (x.take j).filter (fun y => !decide (y ∈ xs)) ++ [y].filter (fun y => !decide (y ∈ xs)) := by
          rw [List.take_add_one, hy, List.filter_append]
          rfl
        refine i_n (fun ne => ?_) (fun e => ?_)
        · walk_at "gg"
          refine k_turn hh ?_ ⟨?_, rfl, rfl⟩
          · rw [List.length_map]
            have := List.length_filter_le (fun y => !decide (y ∈ xs)) (x.take j)
            rw [List.length_take] at *
            omega
          · rw [st, List.map_append, List.filter_cons_of_pos (by simpa using ne)]
            rfl
        · refine k_skip hh ⟨?_, rfl, rfl⟩
          rw [st, List.filter_cons_of_neg (by simpa using e), List.filter_nil, List.append_nil]
      rintro acc F' O' D H5 ⟨rfl, eF, rfl⟩ h5
      rw [eF, List.length_map, List.take_length] at h5
      have lf := List.length_filter_le (fun y => !decide (y ∈ xs)) x
      walk_at "gg"
      refine g_addL (h5.same _ _ f4) (h5.get (List.Mem.head _)) (sz (by rw [List.length_map, List.length_map]; omega)) h5 (fun p6 H6 n6 h6 => ?_)
      rw [← List.map_append] at h6
      have h6 := h6.sub (O' := [(p6, .lst ((xs ++ x.filter fun y => !decide (y ∈ xs)).map V.str)), (d, .dK kvs)]) (.cons_cons _ (.cons _ (List.Sublist.refl _)))
      have s6 := h6.grow
      have f6 : upd F4 p6 (.lst ((xs ++ x.filter fun y => !decide (y ∈ xs)).map V.str)) p6 = some (.lst ((xs ++ x.filter fun y => !decide (y ∈ xs)).map V.str)) := upd_same
      walk_at "gg"
      refine ⟨_, p6, _, _, _, rfl, s4.trans s6, h6.frz, f6, ?_, fun y => ?_, ?_⟩
      · refine List.nodup_append.mpr ⟨nx, ndx.filter _, fun a ha b hb e => ?_⟩
        have := (List.mem_filter.mp hb).2
        simp only [Bool.not_eq_true', decide_eq_false_iff_not] at this
        exact this (by rw [← e]; exact ha)
      · rw [List.mem_append, List.mem_filter, List.take_add_one, he]
        simp only [Bool.not_eq_true', decide_eq_false_iff_not, Option.toList_some, List.mem_append, List.mem_singleton]
        constructor
        · rintro (hy | ⟨hy, _⟩)
          · rcases (mx y).mp hy with rfl | ⟨p, hp, r⟩
            · exact .inl rfl
            · exact .inr ⟨p, .inl hp, r⟩
          · exact .inr ⟨e, .inr rfl, ue, hue, (mue y).mp hy⟩
        · rintro (rfl | ⟨p, hp | rfl, v, hv, hy⟩)
          · exact .inl ((mx _).mpr (.inl rfl))
          · exact .inl ((mx _).mpr (.inr ⟨p, hp, v, hv, hy⟩))
          · rw [hue] at hv
            injection hv with hv
            subst hv
            by_cases m : y ∈ xs
            · exact .inl m
            · exact .inr ⟨(mue y).mpr hy, m⟩
      · rw [List.length_append]
        omega
    · rintro σ H4 ⟨F4, r, xs, y5, y6, rfl, s4, h4, f4, nx, mx, lx⟩
      rw [List.length_map, List.take_length] at mx
      have tv4 := tv.mono (s3.trans s4)
      walk_at "gg"
      refine g_stD (k := .inr z') rfl h4 .hd (szl (by rw [tv.len]; omega)) (fun H5 h5 => ?_)
      rw [putK_new _ (tv.none nz)] at h5
      refine ⟨F4, _, U ++ [(z', xs)], _, _, _, _, rfl, sF.trans (s3.trans s4), h5, tv4.snoc (Dq.strs f4), ?_, fun y x e => ?_⟩
      · rw [List.map_append, eU, List.take_add_one, List.getElem?_map, hp]
        rfl
      · rw [getT_snoc37 nz] at e
        by_cases c : y = z'
        · rw [if_pos c] at e
          injection e with e
          subst e
          subst c
          exact ⟨nx, u, hu, fun y => by rw [mx y, mu y]⟩
        · rw [if_neg c] at e
          exact uok y x e
  · rintro σ H2 ⟨F2, kvs, U, y3, y4, y5, y6, rfl, sF, h2, tv, eU, uok⟩
    rw [List.length_map, List.length_map, ← List.length_map (f := (·.1)), List.take_length] at eU
    walk_at "gg"
    exact q d H2 F2 kvs U sF h2 tv eU uok
def sp_l_truth (T : Txt K mg) : Sp := fun vs H Q _ => ∃ b : Bool, vs = [.bl b] ∧ Q (.int (if b = true then 1 else 0)) H
theorem sp_l_truth_len {T : Txt K mg} {vs H Q E} (h : sp_l_truth T vs H Q E) : vs.length = 1 := by
  obtain ⟨_, rfl, _⟩ := h
  rfl
theorem ok_l_truth (T : Txt K mg) : FnOk P w K mg base CX0 1 T.f_l_truth T.fd_l_truth ["told"] (sp_l_truth T) := by
  refine T.F_l_truth.ok sc_l_truth (fun vs H Q E h => sp_l_truth_len h) (fun cdv A outer s H vs Q E hr h => ?_)
  refine ⟨_, (pss_one (ps_ret (pe_ifExp (pt_cmpR op_isBl (pv 0) pe_bl (nomark _)) pe_int (pe_ifExp (pt_cmpR op_isBl (pv 0) pe_bl (nomark _)) pe_int pe_int)))), ?_⟩
  obtain ⟨b, rfl, q⟩ := h
  refine g_start (σ' := [some (.bl b)]) rfl ?_
  cases b with
  | true =>
    walk_at "gg"
    refine g_isBl ?_
    walk_at "gg"
    rw [if_pos (by decide)]
    walk_at "gg"
    exact q
  | false =>
    walk_at "gg"
    refine g_isBl ?_
    walk_at "gg"
    rw [if_neg (by decide)]
    walk_at "gg"
    refine g_isBl ?_
    walk_at "gg"
    rw [if_pos (by decide)]
    walk_at "gg"
    exact q
end
end
section
local macro_rules | `(tactic| walk_at "g") => `(tactic| first
  | (with_reducible refine g_dcL ?_)
  | (with_reducible refine g_dcT ?_)
  | (with_reducible refine g_m1s ?_)
  | (with_reducible refine g_km1s ?_)
  | (with_reducible refine g_starts ?_)
  | (with_reducible refine g_tryX ?_)
  | (with_reducible refine g_lcS ?_))
theorem allL_ok : ∀ l ∈ allL, PyData.strOk l = true := by decide +kernel
theorem allP_ok : ∀ l ∈ allP, PyData.strOk l = true := by decide +kernel
theorem strs3_ok : ∀ l ∈ strs3, PyData.strOk l = true := by decide +kernel
theorem TrG.ok {t : Tr} (h : TrG t) : okTr t := fun p hp => ⟨allP_ok _ (h.pt p hp), fun z hz => allL_ok _ ((h.tx p hp).2 z hz)⟩
theorem TrG.of {t t' : Tr} (h : TrG t) (a : AscOf t t') : TrG t' := ⟨a.1.nd, fun p hp => h.pt p ((a.2 p).mp hp), fun p hp => h.tx p ((a.2 p).mp hp)⟩
theorem nd_of {A : Tr} (h : (A.map (·.1)).Nodup) : A.Nodup := (List.pairwise_map.mp h).imp fun h e => h (by rw [e])
theorem AscOf.len {t t' : Tr} (a : AscOf t t') (nd : (t.map (·.1)).Nodup) : t'.length = t.length := by
  refine List.Perm.length_eq ((List.perm_ext_iff_of_nodup ?_ ?_).mpr a.2)
  · exact nd_of a.1.nd
  · exact nd_of nd
/-- two dicts of one tree -/
theorem trees_eq {K : PySem.W.Frag} {H : Hp} {a b : Addr} {A B : Tr} (ha : TrAt H a A) (hb : TrAt H b B) (l : A.length = B.length) (m : ∀ p ∈ A, p ∈ B) : EqDV K H (.ref a) (.ref b) := by
  obtain ⟨ka, ha, eka, nda, dqa⟩ := ha
  obtain ⟨kb, hb, ekb, ndb, dqb⟩ := hb
  have la := congrArg List.length eka
  have lb := congrArg List.length ekb
  rw [List.length_map, List.length_map] at la lb
  refine ⟨2, a, b, ka, kb, by decide, rfl, rfl, ha, hb, by omega, fun p hp => ?_⟩
  obtain ⟨i, hi⟩ := List.mem_iff_getElem?.mp hp
  obtain ⟨x, v⟩ := p
  obtain ⟨pr, ep, rfl⟩ := tr_key eka hi
  obtain ⟨d, ed, dv⟩ := dqa.get (show (ka.map (·.2))[i]? = some v by rw [List.getElem?_map, hi]; rfl)
  rw [List.getElem?_map, ep] at ed
  injection ed with ed
  subst ed
  obtain ⟨x1, rfl, hx1⟩ := Dq.of_strs (xs := pr.2) dv
  obtain ⟨x2, v2, hx2⟩ := tr_at ekb dqb (getT_of ndb (show (pr.1, pr.2) ∈ B from m pr (List.mem_of_getElem? ep)))
  refine ⟨.ref x2, v2, .inr (.inr (.inl ⟨x1, x2, pr.2.map V.str, pr.2.map V.str, rfl, rfl, SqL.of hx1, SqL.of hx2, ?_⟩))⟩
  have : ∀ xs : List Str, Paired (EqV K H 1) (xs.map V.str) (xs.map V.str) := fun xs => by
    induction xs with
    | nil => exact .nil
    | cons y r ih => exact .cons (.inl ⟨rfl, rfl⟩) ih
  exact this pr.2
section
variable {P : Program} {w : World} {K : PySem.W.Frag} {mg : Str → Option Value} {base : Heap}
def sp_l_named (T : Txt K mg) : Sp := fun vs H Q _ => ∃ (A : HA) (nm kp : Addr) (rows : List URow) (ts os : List (Str × Tr)) (names ks : List Str), vs = [.ref A.h, .ref nm, .ref kp] ∧ HisAt T H A rows ts os ∧ H nm = some (.lst (names.map V.str)) ∧ NmsOk names ∧ H kp = some (.lst (ks.map V.str)) ∧ ks.Nodup ∧ (∀ z, z ∈ ks ↔ z ∈ rows.map (·.1)) ∧ (∀ z ∈ ks, PyData.strOk z = true) ∧ ks.length ≤ 20 ∧
  ∀ H', Same H H' → Q (.bl true) H'
theorem sp_l_named_len {T : Txt K mg} {vs H Q E} (h : sp_l_named T vs H Q E) : vs.length = 3 := by
  obtain ⟨_, _, _, _, _, _, _, _, rfl, _⟩ := h
  rfl
theorem ok_l_named (T : Txt K mg) : FnOk P w K mg base CX0 3 T.f_l_named T.fd_l_named ["history", "names", "kept"] (sp_l_named T) := by
  refine T.F_l_named.ok sc_l_named (fun vs H Q E h => sp_l_named_len h) (fun cdv A outer s H vs Q E hr h => ?_)
  refine ⟨_, (pss_cons (ps_set (i := 3) sc_l_named.nd rfl (.inl rfl) (pe_methW0 (pv 0) T.cl_History T.M_History_names (ok_History_names T) (hr.mono (by decide)) T.b_History_names (pass0S (E := fun _ => E0))))
      (pss_cons (ps_if (pt_cmpR (op_neK K hr.units) (pv 3) (pe_callB (cr_sortA K rfl) (by rfl) T.m_sorted (by decide +kernel) (pa_cons (pv 2) pa_nil)) (nomark _)) (pss_one (ps_ret pe_bl)) pss_nil)
      (pss_cons (ps_expr (k_bm K (pe_bm PySem.F.plainAttrs_list PySem.F.slot_list_append PySem.F.type_list_append mt_append (pv 3) (pa_cons pe_str pa_nil))))
      (pss_cons (ps_for PassesOwn.never rfl (k_il K (pi_list (pe_op (op_addK K) (pv 1) (pe_lst (pa_cons pe_str (pa_cons pe_str (pa_cons pe_str pa_nil))))))) (pg_name (i := 4) sc_l_named.nd rfl (.inl rfl)) (pss_one (ps_if (pt_cmpR (op_neK K hr.units) (pe_cmpR (op_inD ⟨T.M_History___contains__.at_, T.M_History___contains__.fn⟩ (ok_History___contains__ T) T.b_History___contains__ (pass0 : Passes CX0 _ E0) (hr.mono (by decide))) (pv 4) (pv 0) (by rfl)) (pe_cmpR (op_inM K P w hr.units (u65 hr)) (pv 4) (pv 2) (by rfl)) (nomark _)) (pss_one (ps_ret pe_bl)) pss_nil)))
      (pss_one (ps_ret (pe_cmpR (op_eqK K hr.units) (pe_methW0 (pv 0) T.cl_History T.M_History_names (ok_History_names T) (hr.mono (by decide)) T.b_History_names (pass0S (E := fun _ => E0))) (pe_callB (cr_sortA K rfl) (by rfl) T.m_sorted (by decide +kernel) (pa_cons (pv 2) pa_nil)) (nomark _)))))))), ?_⟩
  obtain ⟨A, nm, kp, rows, ts, os, names, ks, rfl, h, hnm, nok, hk, ndk, mk, okk, lk, q⟩ := h
  refine g_start (σ' := [some (.ref A.h), some (.ref nm), some (.ref kp), none, none]) rfl ?_
  walk_at "gg"
  refine g_kmeth h.i rfl ?_
  walk_at "gg"
  refine ⟨A, rows, ts, os, rfl, h, fun p H1 ns s1 n1 h1 asc mns => ?_⟩
  have hp := (Has.start H).made n1 s1 h1
  have lns : ns.length ≤ 20 := by
    have := strs_sub (ys := ks) asc.nodup fun y hy => (mk y).mpr ((mns y).mp hy)
    omega
  have okn : ∀ z ∈ ns, PyData.strOk z = true := fun z hz => okk z ((mk z).mpr ((mns z).mp hz))
  have sorted_eq : ∀ ys : List Str, ys.Perm ks → sortedS ys = true → ys = ns := fun ys pm srt =>
    Asc.ext (asc_of srt (pm.nodup_iff.mpr ndk)) asc fun y => by rw [pm.mem_iff, mk y, mns y]
  walk_at "gg"
  refine g_sortS (hp.same _ _ hk) (by omega) hp (fun ys p2 H2 pm srt n2 h2 => ?_)
  have e := sorted_eq ys pm srt
  subst e
  refine g_neD (Dq.strs (xs := ys) (h2.get (.tail _ (List.Mem.head _)))) (Dq.strs (xs := ys) (h2.get (List.Mem.head _))) ((Sh.strs (n := 0) okn).ok (by decide)) ((Sh.strs (n := 0) okn).ok (by decide)) ?_
  rw [SeqAt.eqv_refl _ (Sh.strs (n := 0) okn).1]
  walk_at "gg"
  refine g_append h2 (.tl .hd) (szl (by rw [List.length_map]; omega)) (fun H3 h3 => ?_)
  walk_at "gg"
  refine g_klst (by walk_at "sz") h3 (fun p4 H4 n4 h4 => ?_)
  have lnm := nok.len
  refine g_addL (h4.same _ _ hnm) (h4.get (List.Mem.head _)) (sz (by rw [List.length_map]; show _ + 3 ≤ _; omega)) h4 (fun p5 H5 n5 h5 => ?_)
  have sH5 := h5.same
  have e5 : names.map V.str ++ [V.str "strang", V.str "", V.str "No"] = (names ++ strs3).map V.str := by
    rw [List.map_append]
    rfl
  rw [e5] at h5
  walk_at "gg"
  have hp5 := h5.get (List.Mem.head _)
  refine k_forL hp5 (fun t σ H' => ∃ y4, σ = [some (.ref A.h), some (.ref nm), some (.ref kp), some (.ref p), y4] ∧ Same H5 H') ⟨_, rfl, Same.refl _⟩ ?_ ?_ ?_
  · rintro t σ H' _ ⟨y4, rfl, s⟩
    exact s _ _ hp5
  · rintro t v σ H6 hv ⟨y4, rfl, s6⟩
    obtain ⟨x, hx, rfl⟩ := str_at hv
    have sH := sH5.trans s6
    walk_at "gg"
    refine ⟨A.h, A.x, _, rfl, sH _ _ h.i, ?_⟩
    refine ⟨A, rows, ts, os, x, rfl, h.mono sH, ⟨_, rfl, ?_⟩⟩
    walk_at "gg"
    refine g_inM (g_inFL (sH _ _ hk) rfl (flat_strs _) ?_)
    rw [inV_strs]
    have ex : kn rows x = decide (x ∈ ks) := by
      rw [Bool.eq_iff_iff, knM, decide_eq_true_eq, mk x]
    rw [ex]
    walk_at "gg"
    refine i_n (fun c => (c rfl).elim) (fun _ => ?_)
    walk_at "gg"
    exact ⟨_, rfl, s6⟩
  · rintro σ H6 ⟨y4, rfl, s6⟩
    have sH := sH5.trans s6
    walk_at "gg"
    refine g_kmeth (sH _ _ h.i) rfl ?_
    walk_at "gg"
    refine ⟨A, rows, ts, os, rfl, h.mono sH, fun p7 H7 ns2 s7 n7 h7 asc2 mns2 => ?_⟩
    have e2 : ns2 = ys := Asc.ext asc2 asc fun y => by rw [mns2 y, mns y]
    subst e2
    walk_at "gg"
    refine g_sortS ((sH.trans s7) _ _ hk) (by omega) (Has.start H7) (fun ys3 p8 H8 pm3 srt3 n8 h8 => ?_)
    have e := sorted_eq ys3 pm3 srt3
    subst e
    refine g_eqD (Dq.strs (xs := ys3) (h8.same _ _ h7)) (Dq.strs (xs := ys3) (h8.get (List.Mem.head _))) ((Sh.strs (n := 0) okn).ok (by decide)) ((Sh.strs (n := 0) okn).ok (by decide)) ?_
    rw [SeqAt.eqv_refl _ (Sh.strs (n := 0) okn).1]
    exact q H8 ((sH.trans s7).trans h8.same)
def sp_l_treed (T : Txt K mg) : Sp := fun vs H Q _ => ∃ (A : HA) (d : Addr) (rows : List URow) (ts os : List (Str × Tr)) (z : Str) (t t' : Tr), vs = [.ref A.h, .str z, .ref d] ∧ HisAt T H A rows ts os ∧ getL ts z = some t' ∧ TrAt H d t ∧ AscOf t t' ∧ TrG t ∧ t.length ≤ 40 ∧
  ∀ H', Same H H' → Q (.bl true) H'
theorem sp_l_treed_len {T : Txt K mg} {vs H Q E} (h : sp_l_treed T vs H Q E) : vs.length = 3 := by
  obtain ⟨_, _, _, _, _, _, _, _, rfl, _⟩ := h
  rfl
set_option maxHeartbeats 1000000 in
theorem ok_l_treed (T : Txt K mg) : FnOk P w K mg base CX0 5 T.f_l_treed T.fd_l_treed ["history", "name", "tree"] (sp_l_treed T) := by
  refine T.F_l_treed.ok sc_l_treed (fun vs H Q E h => sp_l_treed_len h) (fun cdv A outer s H vs Q E hr h => ?_)
  refine ⟨_, (pss_cons (ps_set (i := 3) sc_l_treed.nd rfl (.inl rfl) (pe_methW (pv 0) T.cl_History T.M_History_tree (ok_History_tree T) (hr.mono (by decide)) T.b_History_tree passNS (pa_cons (pv 1) pa_nil)))
      (pss_cons (ps_setLc (i := 4) (own := [("path", 5)]) (g := gName 5) (tt := tYes) rfl sc_l_treed.nd rfl rfl (sw_true rfl rfl rfl (by decide +kernel)) (k_il K (pi_list (pe_callB (cr_sortA K rfl) (by rfl) T.m_sorted (by decide +kernel) (pa_cons (pv 2) pa_nil)))) (blkOk_by (N := n_l_treed) (sc := defScope s_l_treed) (by decide +kernel)) (fun _ _ _ _ _ => (pg_name (i := 5) sc_l_treed.nd rfl (.inl rfl))) (fun _ _ _ _ _ => pts_nil) (fun _ _ _ _ _ => (pe_tup (pa_cons (pv 5) (pa_cons (pe_ix (ix_K K (hu_of hr)) (pv 2) (pv 5) (fun _ _ => rfl)) pa_nil)))))
      (pss_cons (ps_if (pt_cmpR (op_neM K hr.units) (LiI.pe_listItems rfl (pv 3) (by rfl) T.m_list (by decide +kernel)) (pv 4) (nomark _)) (pss_one (ps_ret pe_bl)) pss_nil)
      (pss_cons (ps_lock (ps_for PassesOwn.never rfl (pi_keys (pv 2)) (pg_name (i := 5) sc_l_treed.nd rfl (.inl rfl)) (pss_one (ps_expr (k_bm K (pe_bm PySem.F.plainAttrs_list PySem.F.slot_list_append PySem.F.type_list_append mt_append (pe_ix (ix_K K (hu_of hr)) (pv 3) (pv 5) (fun _ _ => rfl)) (pa_cons pe_str pa_nil)))))))
      (pss_cons (ps_asg (pe_lst pa_nil) (pg_sub (pv 3) pe_str (set_any (hu_of hr))))
      (pss_one (ps_ret (pe_cmpR (op_eqM K hr.units) (pe_methW (pv 0) T.cl_History T.M_History_tree (ok_History_tree T) (hr.mono (by decide)) T.b_History_tree passNS (pa_cons (pv 1) pa_nil)) (pv 2) (nomark _))))))))), ?_⟩
  obtain ⟨A, d, rows, ts, os, z, t, t', rfl, h, et, ⟨kvs, hd, ekd, ndd, dqd⟩, at', gt, lt, q⟩ := h
  refine g_start (σ' := [some (.ref A.h), some (.str z), some (.ref d), none, none, none]) rfl ?_
  have lt' := at'.len ndd
  have kz : kn rows z = true := by rw [← h.kn z, et]; rfl
  walk_at "gg"
  refine g_kmeth h.i rfl ?_
  walk_at "gg"
  refine ⟨A, rows, ts, os, z, rfl, h, fun t2 et2 => ?_, fun c => by rw [kz] at c; cases c⟩
  rw [et] at et2
  injection et2 with et2
  subst et2
  refine ⟨by omega, fun d2 B H1 h1 eB => ?_⟩
  have ndB : (B.map (·.1)).Nodup := by rw [← bA_keys, eB]; exact at'.1.nd
  walk_at "gg"
  refine g_sortDS (h1.same _ _ hd) (by rw [ekd, List.map_map]; rfl) (ks := t.map (·.1)) (by rw [List.length_map]; omega) h1 (fun us p2 H2 pm srt n2 h2 => ?_)
  have eu : us = t'.map (·.1) := Asc.ext (asc_of srt (pm.nodup_iff.mpr ndd)) at'.1 fun y => by
    rw [pm.mem_iff, List.mem_map, List.mem_map]
    constructor
    · rintro ⟨p, hp, e⟩
      exact ⟨p, (at'.2 p).mpr hp, e⟩
    · rintro ⟨p, hp, e⟩
      exact ⟨p, (at'.2 p).mp hp, e⟩
  subst eu
  walk_at "gg"
  refine k_lcL (h2.get (List.Mem.head _)) h2 (fun i acc F' O' => Same H F' ∧ DqAll F' acc ((t'.take i).map fun p => .tuple [.str p.1, txD p.2]) ∧ acc.length = i ∧ O' = (p2, .lst ((t'.map (·.1)).map V.str)) :: (d2, .dK (bK B)) :: bO B) ⟨Same.refl _, .nil, rfl, rfl⟩ ?_ ?_ ?_
  · rintro i acc F' O' H3 ⟨_, _, _, rfl⟩ hh
    exact hh.get (List.Mem.head _)
  · rintro i v acc F' O' D H3 hv ⟨sF, dq, la, rfl⟩ hh
    obtain ⟨y, hy, rfl⟩ := str_at hv
    rw [List.getElem?_map] at hy
    obtain ⟨pr, ep, rfl⟩ := Option.map_eq_some_iff.mp hy
    have li := (List.getElem?_eq_some_iff.mp ep).1
    have mp : pr ∈ t := (at'.2 pr).mp (List.mem_of_getElem? ep)
    obtain ⟨l, vl, hl⟩ := tr_at ekd dqd (getT_of ndd (show (pr.1, pr.2) ∈ t from mp))
    walk_at "gg"
    refine g_ixDS (hh.same _ _ (sF _ _ hd)) vl ?_
    walk_at "gg"
    refine g_ktupF (by walk_at "sz") hh (fun p5 H5 F5 n5 s5 f5 h5 => ?_)
    refine k_turn h5 (by omega) ⟨sF.trans s5, ?_, by rw [List.length_append, la]; rfl, rfl⟩
    rw [List.take_add_one, ep, List.map_append]
    exact (dq.up s5 _ _).snoc (.tup f5 (.cons (.str _) (.cons (Dq.strs (s5 _ _ (sF _ _ hl))) .nil)))
  rintro acc F' O' D H3 ⟨sF, dq, la, rfl⟩ h3
  rw [List.length_map, List.length_map, List.take_length] at dq
  walk_at "gg"
  refine g_listItems ?_
  walk_at "gg"
  refine g_items (h3.get (.tail _ (.tail _ (List.Mem.head _)))) (fun p6 H6 ts6 s6 n6 e6 pd6 => ?_)
  have dqB : DqAll H3 ((bK B).map (·.2)) ((bA B).map fun p => txD p.2) := bK_dq fun b hb => h3.get (.tail _ (.tail _ (.tail _ (List.mem_map.mpr ⟨b, hb, rfl⟩))))
  have d6 := dq_items pd6 (bK_keys B) (dqB.up s6 _ _)
  rw [eB] at d6
  have okt := (gt.of at').ok
  walk_at "gg"
  refine .inl (g_neD (d := itD t') (e := itD t') (.lst e6 d6) (.lst (s6 _ _ (h3.get (List.Mem.head _))) (dq.up (h3.same.trans s6) _ _)) (sh_itD okt) (sh_itD okt) ?_)
  rw [eqv_itD]
  have h6 : Has F' ((D, .lst acc) :: (p2, .lst ((t'.map (·.1)).map V.str)) :: (d2, .dK (bK B)) :: bO B) H6 := Has.up h3 (h3.same.trans s6) s6 fun p hp => (h3.own p hp).1
  have h6 := h6.sub (O' := (d2, .dK (bK B)) :: bO B) (.cons _ (.cons _ (List.Sublist.refl _)))
  clear h3
  walk_at "gg"
  refine k_forDK rfl (sF _ _ hd) h6 (fun i σ O' => ∃ (C : Bt) (y5 : Option V), σ = [some (.ref A.h), some (.str z), some (.ref d), some (.ref d2), some (.ref D), y5] ∧ bK C = bK B ∧ O' = (d2, .dK (bK C)) :: (bO C ++ []) ∧ ∀ b ∈ C, b.2.2.length ≤ 42 + i) ⟨B, _, rfl, rfl, by rw [List.append_nil], fun b hb => ?_⟩ ?_ ?_
  · have : (b.1, b.2.2) ∈ bA B := List.mem_map.mpr ⟨b, hb, rfl⟩
    rw [eB] at this
    exact (gt.tx _ ((at'.2 _).mp this)).1
  · rintro i k v σ O' H7 od ekv ⟨C, y5, rfl, eC, rfl, lC⟩ h7
    obtain ⟨pr, ep, rfl⟩ := tr_key ekd ekv
    have kC : C.map (·.1) = B.map (·.1) := by
      have := congrArg (List.map (·.1)) eC
      rw [bK_keys, bK_keys] at this
      have e : ∀ D : Bt, (bA D).map (fun p => kS p.1) = (D.map (·.1)).map kS := fun D => by
        unfold bA
        rw [List.map_map, List.map_map]
        rfl
      rw [e, e] at this
      exact (List.map_inj_right (fun a b h => Sum.inr.inj h)).mp this
    have li := (List.getElem?_eq_some_iff.mp ep).1
    have m : pr.1 ∈ C.map (·.1) := by
      rw [kC, ← bA_keys, eB]
      exact List.mem_map.mpr ⟨pr, (at'.2 pr).mpr (List.mem_of_getElem? ep), rfl⟩
    obtain ⟨b, hb, eb⟩ := List.mem_map.mp m
    obtain ⟨j, hj⟩ := List.mem_iff_getElem?.mp hb
    have lb := lC b hb
    walk_at "gg"
    refine g_ixDS (h7.get (List.Mem.head _)) (by rw [← eb]; exact bK_at (by rw [kC]; exact ndB) hj) ?_
    have hb7 : H7 b.2.1 = some (.lst (b.2.2.map V.str)) := h7.get (List.mem_cons_of_mem _ (List.mem_append_left _ (List.mem_map.mpr ⟨b, hb, rfl⟩)))
    have c : Chg ((d2, .dK (bK C)) :: (bO C ++ [])) b.2.1 (.lst (b.2.2.map V.str)) (.lst (b.2.2.map V.str ++ [V.str "spoilt"])) ((d2, .dK (bK C)) :: (bO (C.set j (b.1, b.2.1, b.2.2 ++ (["spoilt"] : Tx))) ++ [])) := by
      have := Chg.bt (t := b.2.2 ++ (["spoilt"] : Tx)) (O := []) hj
      rw [List.map_append] at this
      exact .tl this
    walk_at "gg"
    refine g_append h7 c (szl (by rw [List.length_map]; omega)) (fun H8 h8 => ?_)
    walk_at "gg"
    have e3 := bK_set (t := b.2.2 ++ (["spoilt"] : Tx)) hj
    refine ⟨_, ⟨C.set j (b.1, b.2.1, b.2.2 ++ (["spoilt"] : Tx)), _, rfl, e3.trans eC, rfl, fun r hr => ?_⟩, by rw [e3]; exact h8⟩
    rcases List.mem_or_eq_of_mem_set hr with hr | rfl
    · have := lC r hr
      omega
    · show (b.2.2 ++ (["spoilt"] : Tx)).length ≤ _
      rw [List.length_append]
      show _ + 1 ≤ _
      omega
  · rintro σ O' H7 ⟨C, y5, rfl, eC, rfl, lC⟩ h7
    have sH7 := sF.trans h7.same
    walk_at "gg"
    refine g_klst (by walk_at "sz") h7 (fun p8 H8 n8 h8 => ?_)
    have lC' : (bK C).length ≤ 60 := by
      rw [eC]
      have := congrArg List.length eB
      unfold bA at this
      unfold bK
      rw [List.length_map] at this ⊢
      omega
    walk_at "gg"
    refine g_stD (k := .inr "spoilt") rfl h8 (.tl .hd) (szl (by omega)) (fun H9 h9 => ?_)
    have sH9 := sF.trans h9.same
    walk_at "gg"
    refine g_kmeth (sH9 _ _ h.i) rfl ?_
    walk_at "gg"
    refine ⟨A, rows, ts, os, z, rfl, h.mono sH9, fun t2 et2 => ?_, fun c => by rw [kz] at c; cases c⟩
    rw [et] at et2
    injection et2 with et2
    subst et2
    refine ⟨by omega, fun d3 B3 H10 h10 eB3 => ?_⟩
    have b10 : TrAt H10 d3 t' := by
      have := Has.built (F := H9) (d := d3) (B := B3) (O := []) (by rw [List.append_nil]; exact h10) (by rw [← bA_keys, eB3]; exact at'.1.nd)
      rw [eB3] at this
      exact this
    have s10 := sH9.trans h10.same
    walk_at "gg"
    exact .inr ⟨trees_eq b10 (TrAt.up ⟨kvs, hd, ekd, ndd, dqd⟩ s10) lt' (fun p hp => (at'.2 p).mp hp), q H10 s10⟩
end
end
section
theorem strang_nm : isNm "strang" = true := by decide +kernel
theorem rst_all {rows : List URow} {PS : Tr} (wr : WebR rows PS) {ys : List Str} (my : ∀ z, z ∈ ys ↔ z ∈ rows.map (·.1)) (z : Str) : undr (rstL rows ys ys) z = undr rows z := by
  by_cases m : z ∈ ys
  · rw [rstL_undr m]
    have k : kn rows z = true := knM.mpr ((my z).mp m)
    obtain ⟨u, hu⟩ := kn_iff.mp k
    rw [hu]
    show some (u.filter _) = some u
    rw [List.filter_eq_self.mpr]
    intro y hy
    exact decide_eq_true ((my y).mpr (wr.sub z u y hu hy))
  · have k : kn rows z = false := by
      cases c : kn rows z with
      | false => rfl
      | true => exact (m ((my z).mpr (knM.mp c))).elim
    have e1 : undr rows z = none := by
      unfold kn at k
      cases c : undr rows z with
      | none => rfl
      | some u => rw [c] at k; cases k
    rw [e1]
    cases c : undr (rstL rows ys ys) z with
    | none => rfl
    | some u =>
      have := undr_known (rows := rstL rows ys ys) (x := z)
      rw [c, rstL_names] at this
      exact (m (of_decide_eq_true this.symm)).elim
section
variable {P : Program} {w : World} {K : PySem.W.Frag} {mg : Str → Option Value} {base : Heap}
/-- a history and the law's own tables of it -/
structure ShownAt (T : Txt K mg) (H : Hp) (A : HA) (rows : List URow) (ts os : List (Str × Tr)) (nm kp pd td : Addr) (names : List Str) (PS : Tr) (lts : List (Str × Tr)) : Prop where
  h : HisAt T H A rows ts os
  nm : H nm = some (.lst (names.map V.str))
  nok : NmsOk names
  kp : H kp = some (.lst ((PS.map (·.1)).map V.str))
  pd : TrAt H pd PS
  td : ∃ tdk, H td = some (.dK tdk) ∧ TL H tdk lts
  wr : WebR rows PS
  l6 : ∀ p ∈ PS, p.2.length ≤ 6
  tr : ∀ z, z ∈ PS.map (·.1) → ∃ t t', getL ts z = some t' ∧ getL lts z = some t ∧ AscOf t t' ∧ TrG t ∧ t.length ≤ 40
  kn : ∀ z ∈ PS.map (·.1), z ∈ names
theorem ShownAt.mono {T : Txt K mg} {H H' : Hp} {A : HA} {rows : List URow} {ts os : List (Str × Tr)} {nm kp pd td : Addr} {names : List Str} {PS : Tr} {lts : List (Str × Tr)} (x : ShownAt T H A rows ts os nm kp pd td names PS lts) (s : Same H H') : ShownAt T H' A rows ts os nm kp pd td names PS lts := by
  obtain ⟨tdk, t1, t2⟩ := x.td
  exact ⟨x.h.mono s, s _ _ x.nm, x.nok, s _ _ x.kp, x.pd.up s, ⟨tdk, s _ _ t1, t2.mono s⟩, x.wr, x.l6, x.tr, x.kn⟩
def sp_l_shown (T : Txt K mg) : Sp := fun vs H Q _ => ∃ (A : HA) (rows : List URow) (ts os : List (Str × Tr)) (nm kp pd td : Addr) (names : List Str) (PS : Tr) (lts : List (Str × Tr)), vs = [.ref A.h, .ref nm, .ref kp, .ref pd, .ref td] ∧ ShownAt T H A rows ts os nm kp pd td names PS lts ∧
  ∀ H', Same H H' → Q (.bl true) H'
theorem sp_l_shown_len {T : Txt K mg} {vs H Q E} (h : sp_l_shown T vs H Q E) : vs.length = 5 := by
  obtain ⟨_, _, _, _, _, _, _, _, _, _, _, rfl, _⟩ := h
  rfl
set_option maxHeartbeats 2000000 in
theorem ok_l_shown (T : Txt K mg) : FnOk P w K mg base CX0 6 T.f_l_shown T.fd_l_shown ["history", "names", "kept", "parents", "trees"] (sp_l_shown T) := by
  refine T.F_l_shown.ok sc_l_shown (fun vs H Q E h => sp_l_shown_len h) (fun cdv A outer s H vs Q E hr h => ?_)
  refine ⟨_, (pss_cons (ps_set (i := 5) sc_l_shown.nd rfl (.inl rfl) (pe_call (ok_l_pasts T) (hr.mono (by decide)) (by rfl) T.g_l_pasts T.F_l_pasts.kp T.b_l_pasts .nil pass0 (pa_cons (pv 2) (pa_cons (pv 3) pa_nil))))
      (pss_cons (ps_set (i := 6) sc_l_shown.nd rfl (.inl rfl) (pe_methW0 (pv 0) T.cl_History T.M_History_order (ok_History_order T) (hr.mono (by decide)) T.b_History_order (pass0S (E := fun _ => E0))))
      (pss_cons (ps_if (PW.pt (pw_or (pt_not (pt_val (pe_call (ok_l_named T) (hr.mono (by decide)) (by rfl) T.g_l_named T.F_l_named.kp T.b_l_named .nil pass0 (pa_cons (pv 0) (pa_cons (pv 1) (pa_cons (pv 2) pa_nil)))))) (pw_or1 (pt_cmpR (op_neK K hr.units) (pe_methW0 (pv 6) T.cl_Order T.M_Order_names (ok_Order_names T) (hr.mono (by decide)) T.b_Order_names (pass0S (E := fun _ => E0))) (pe_callB (cr_sortA K rfl) (by rfl) T.m_sorted (by decide +kernel) (pa_cons (pv 2) pa_nil)) (nomark _))))) (pss_one (ps_ret pe_bl)) pss_nil)
      (pss_cons (ps_for PassesOwn.never rfl (k_il K (pi_list (pv 2))) (pg_name (i := 7) sc_l_shown.nd rfl (.inl rfl)) (pss_cons (ps_if (pt_not (pt_val (pe_call (ok_l_treed T) (hr.mono (by decide)) (by rfl) T.g_l_treed T.F_l_treed.kp T.b_l_treed .nil pass0 (pa_cons (pv 0) (pa_cons (pv 7) (pa_cons (pe_ix (ix_K K (hu_of hr)) (pv 4) (pv 7) (fun _ _ => rfl)) pa_nil)))))) (pss_one (ps_ret pe_bl)) pss_nil)
      (pss_cons (ps_if (pt_cmpR (op_neK K hr.units) (pe_methW (pv 6) T.cl_Order T.M_Order_under (ok_Order_under T) (hr.mono (by decide)) T.b_Order_under passNS (pa_cons (pv 7) pa_nil)) (pe_callB (cr_sortA K rfl) (by rfl) T.m_sorted (by decide +kernel) (pa_cons (pe_ix (ix_K K (hu_of hr)) (pv 5) (pv 7) (fun _ _ => rfl)) pa_nil)) (nomark _)) (pss_one (ps_ret pe_bl)) pss_nil)
      (pss_one (ps_for PassesOwn.never rfl (k_il K (pi_list (pv 2))) (pg_name (i := 8) sc_l_shown.nd rfl (.inl rfl)) (pss_cons (ps_set (i := 9) sc_l_shown.nd rfl (.inl rfl) (pe_call (ok_l_truth T) (hr.mono (by decide)) (by rfl) T.g_l_truth T.F_l_truth.kp T.b_l_truth .nil pass0 (pa_cons (pe_methW (pv 0) T.cl_History T.M_History_is_under (ok_History_is_under T) (hr.mono (by decide)) T.b_History_is_under passNS (pa_cons (pv 8) (pa_cons (pv 7) pa_nil))) pa_nil)))
      (pss_one (ps_if (pt_cmpR (op_neK K hr.units) (pv 9) (pe_callTy cr_int1 (by rfl) T.m_int (by decide +kernel) (pa_cons (pe_cmpR (op_inM K P w hr.units (u65 hr)) (pv 8) (pe_ix (ix_K K (hu_of hr)) (pv 5) (pv 7) (fun _ _ => rfl)) (by rfl)) pa_nil)) (nomark _)) (pss_one (ps_ret pe_bl)) pss_nil))))))))
      (pss_cons (ps_expr (pe_methW (pv 6) T.cl_Order T.M_Order_put (ok_Order_put T) (hr.mono (by decide)) T.b_Order_put passNS (pa_cons pe_str (pa_cons (pe_callTy (cr_listK K) (by rfl) T.m_list (by decide +kernel) (pa_cons (pv 2) pa_nil)) pa_nil))))
      (pss_one (ps_ret (pe_and (pe_cmpR (op_notinD ⟨T.M_History___contains__.at_, T.M_History___contains__.fn⟩ (ok_History___contains__ T) T.b_History___contains__ (pass0 : Passes CX0 _ E0) (hr.mono (by decide))) pe_str (pv 0) (by rfl)) (pe_one (pe_cmpR (op_eqK K hr.units) (pe_methW0 (pv 0) T.cl_History T.M_History_names (ok_History_names T) (hr.mono (by decide)) T.b_History_names (pass0S (E := fun _ => E0))) (pe_callB (cr_sortA K rfl) (by rfl) T.m_sorted (by decide +kernel) (pa_cons (pv 2) pa_nil)) (nomark _))))))))))), ?_⟩
  obtain ⟨A, rows, ts, os, nm, kp, pd, td, names, PS, lts, rfl, x, q⟩ := h
  refine g_start (σ' := [some (.ref A.h), some (.ref nm), some (.ref kp), some (.ref pd), some (.ref td), none, none, none, none, none]) rfl ?_
  have wr := x.wr
  have few := wr.few
  have mk : ∀ z, z ∈ PS.map (·.1) ↔ z ∈ rows.map (·.1) := fun z => by rw [wr.nms]
  have okk : ∀ z ∈ PS.map (·.1), PyData.strOk z = true := fun z hz => (x.nok.nm z (x.kn z hz)).2.1
  have lk : (PS.map (·.1)).length ≤ 20 := by rw [List.length_map]; exact few
  walk_at "gg"
  refine ⟨kp, pd, rows, PS, rfl, x.kp, x.pd, wr, x.l6, fun ud H1 F1 ukv U s1 h1 tu eU uok => ?_⟩
  have hu1 := h1.get (List.Mem.head _)
  have su := h1.grow
  have fu : upd F1 ud (.dK ukv) ud = some (.dK ukv) := upd_same
  have h1 := h1.frz
  have tu := tu.mono su
  have s1 := s1.trans su
  generalize upd F1 ud (.dK ukv) = F1 at h1 su fu tu s1
  have x1 := x.mono (s1.trans h1.same)
  walk_at "gg"
  refine g_kmeth x1.h.i rfl ?_
  walk_at "gg"
  refine ⟨A, rows, ts, os, rfl, x1.h, fun p px od nl kvs H2 F2 ys s2 h2 new ok2 ay my => ?_⟩
  have ok2 := ok2.mono nw_same
  have sF2 := (s1.trans h1.same).trans s2
  have x2 := x.mono sF2
  have fu2 := s2 _ _ (h1.same _ _ fu)
  have tu2 := tu.mono (h1.same.trans s2)
  have eys : ∀ zs : List Str, zs.Perm (PS.map (·.1)) → sortedS zs = true → zs = ys := fun zs pm srt =>
    Asc.ext (asc_of srt (pm.nodup_iff.mpr wr.nd)) ay fun y => by rw [pm.mem_iff, mk y, my y]
  have und := rst_all wr my
  have oky : ∀ z ∈ ys, PyData.strOk z = true := fun z hz => okk z ((mk z).mpr ((my z).mp hz))
  have lyy : ys.length ≤ 20 := by
    have := strs_sub (ys := PS.map (·.1)) ay.nodup fun y hy => (mk y).mpr ((my y).mp hy)
    omega
  have ordAt : ∀ {H' : Hp}, Has F2 (OrdO T p px od nl kvs) H' → Ord T H' p (rstL rows ys ys) := fun {H'} h' =>
    ⟨px, od, nl, kvs, ⟨h'.get (by unfold OrdO; walk_at "m"), h'.get (by unfold OrdO; walk_at "m")⟩, ok2.mono h'.same⟩
  have keep : ∀ {H' H'' : Hp}, Has F2 (OrdO T p px od nl kvs) H' → Same H' H'' → Has F2 (OrdO T p px od nl kvs) H'' := fun {H' H''} h' s => Has.up h' (h'.same.trans s) s fun q hq => (h'.own q hq).1
  walk_at "gg"
  have x2h := x2.mono h2.same
  refine ⟨A, nm, kp, rows, ts, os, names, PS.map (·.1), rfl, x2h.h, x2h.nm, x.nok, x2h.kp, wr.nd, mk, okk, lk, fun H3 s3 => ?_⟩
  have h3 := keep h2 s3
  walk_at "gg"
  refine g_kmeth (h3.get (a := p) (by unfold OrdO; walk_at "m")) rfl ?_
  walk_at "gg"
  refine ⟨p, rstL rows ys ys, rfl, ordAt h3, fun p4 H4 ns s4 n4 e4 asc4 m4 => ?_⟩
  have ens : ns = ys := Asc.ext asc4 ay fun y => by rw [m4 y, rstL_names]
  subst ens
  have h4 := keep h3 s4
  walk_at "gg"
  refine g_sortS (h4.same _ _ x2.kp) (by omega) (Has.start H4) (fun zs p5 H5 pm srt n5 h5 => ?_)
  have e := eys zs pm srt
  subst e
  have h45 := keep h4 h5.same
  refine g_neD (Dq.strs (xs := zs) (h5.same _ _ e4)) (Dq.strs (xs := zs) (h5.get (List.Mem.head _))) ((Sh.strs (n := 0) oky).ok (by decide)) ((Sh.strs (n := 0) oky).ok (by decide)) ?_
  rw [SeqAt.eqv_refl _ (Sh.strs (n := 0) oky).1]
  walk_at "gg"
  clear h5
  refine k_forL (h45.same _ _ x2.kp) (fun t σ H' => ∃ y7 y8 y9, σ = [some (.ref A.h), some (.ref nm), some (.ref kp), some (.ref pd), some (.ref td), some (.ref ud), some (.ref p), y7, y8, y9] ∧ Has F2 (OrdO T p px od nl kvs) H') ⟨_, _, _, rfl, h45⟩ ?_ ?_ ?_
  · rintro t σ H' _ ⟨y7, y8, y9, rfl, h6⟩
    exact h6.same _ _ x2.kp
  · rintro t v σ H6 hv ⟨y7, y8, y9, rfl, h6⟩
    obtain ⟨z, hz, rfl⟩ := str_at hv
    have mz := List.mem_of_getElem? hz
    obtain ⟨tt, t', et', ett, ao, gt, lt⟩ := x.tr z mz
    obtain ⟨u, hu⟩ := kn_iff.mp (knM.mpr ((mk z).mp mz))
    have x6 := x2.mono h6.same
    obtain ⟨tdk, htd, tl⟩ := x6.td
    obtain ⟨dz, edz, hdz⟩ := (tl.get z).1 tt ett
    walk_at "gg"
    refine g_ixDS htd edz ?_
    walk_at "gg"
    refine ⟨A, dz, rows, ts, os, z, tt, t', rfl, x6.h, et', hdz, ao, gt, lt, fun H7 s7 => ?_⟩
    have h7 := keep h6 s7
    walk_at "gg"
    refine g_kmeth (h7.get (a := p) (by unfold OrdO; walk_at "m")) rfl ?_
    walk_at "gg"
    refine ⟨p, rstL rows zs zs, z, rfl, ordAt h7, fun u' hu' p8 H8 s8 n8 e8 => ?_, fun c => by rw [und z, hu] at c; cases c⟩
    rw [und z, hu] at hu'
    injection hu' with eu
    subst eu
    have h8 := keep h7 s8
    have mU : z ∈ U.map (·.1) := by rw [eU]; exact mz
    cases gu : getT U z with
    | none => exact ((getT_none.mp gu) mU).elim
    | some xl =>
    obtain ⟨ndx, u2, hu2, mx⟩ := uok z xl gu
    rw [hu] at hu2
    injection hu2 with eu
    subst eu
    have l20 := uok.len wr gu
    have tu8 := tu2.mono h8.same
    obtain ⟨lx, vx, hx⟩ := tr_at tu8.1 tu8.2 gu
    have oku : ∀ y ∈ u, PyData.strOk y = true := fun y hy => okk y ((mk y).mpr (wr.sub z u y hu hy))
    walk_at "gg"
    refine g_ixDS (h8.same _ _ fu2) vx ?_
    walk_at "gg"
    refine g_sortS hx (by omega) (Has.start H8) (fun us3 p9 H9 pm9 srt9 n9 h9 => ?_)
    have e9 : us3 = u := Asc.ext (asc_of srt9 (pm9.nodup_iff.mpr ndx)) (wr.asc z u hu) fun y => by rw [pm9.mem_iff, mx y]
    subst e9
    refine g_neD (Dq.strs (xs := us3) (h9.same _ _ e8)) (Dq.strs (xs := us3) (h9.get (List.Mem.head _))) ((Sh.strs (n := 0) oku).ok (by decide)) ((Sh.strs (n := 0) oku).ok (by decide)) ?_
    rw [SeqAt.eqv_refl _ (Sh.strs (n := 0) oku).1]
    have h9 := keep h8 h9.same
    walk_at "gg"
    refine k_forL (h9.same _ _ x2.kp) (fun i σ H' => ∃ y8 y9, σ = [some (.ref A.h), some (.ref nm), some (.ref kp), some (.ref pd), some (.ref td), some (.ref ud), some (.ref p), some (.str z), y8, y9] ∧ Has F2 (OrdO T p px od nl kvs) H') ⟨_, _, rfl, h9⟩ ?_ ?_ ?_
    · rintro i σ H' _ ⟨y8, y9, rfl, h10⟩
      exact h10.same _ _ x2.kp
    · rintro i v σ H10 hv ⟨y8, y9, rfl, h10⟩
      obtain ⟨low, hlow, rfl⟩ := str_at hv
      have ml := List.mem_of_getElem? hlow
      obtain ⟨ul, hul⟩ := kn_iff.mp (knM.mpr ((mk low).mp ml))
      have x10 := x2.mono h10.same
      walk_at "gg"
      refine g_kmeth x10.h.i rfl ?_
      walk_at "gg"
      refine ⟨A, rows, ts, os, low, z, rfl, x10.h, (fun u1 v1 e1 e2 => ?_), (fun c => by rw [hul] at c; cases c), fun _ _ c => by rw [hu] at c; cases c⟩
      rw [hu] at e2
      injection e2 with e2
      subst e2
      walk_at "gg"
      refine ⟨_, rfl, ?_⟩
      walk_at "gg"
      have tu10 := tu2.mono h10.same
      obtain ⟨lx2, vx2, hx2⟩ := tr_at tu10.1 tu10.2 gu
      refine g_ixDS (h10.same _ _ fu2) vx2 ?_
      refine g_inM (g_inFL hx2 rfl (flat_strs _) ?_)
      rw [inV_strs]
      walk_at "gg"
      refine g_intB ?_
      have ed : decide (low ∈ us3) = decide (low ∈ xl) := by
        rw [decide_eq_decide]
        exact (mx low).symm
      rw [ed]
      walk_at "gg"
      refine i_n (fun c => (c rfl).elim) (fun _ => ?_)
      walk_at "gg"
      exact ⟨_, _, rfl, h10⟩
    · rintro σ H10 ⟨y8, y9, rfl, h10⟩
      exact ⟨_, _, _, rfl, h10⟩
  · rintro σ H6 ⟨y7, y8, y9, rfl, h6⟩
    have x6 := x2.mono h6.same
    have nstr : kn rows "strang" = false := by
      cases c : kn rows "strang" with
      | false => rfl
      | true => exact ((x.nok.nm _ (x.kn _ ((mk _).mpr (knM.mp c)))).2.2 rfl).elim
    have nstr2 : kn (rstL rows zs zs) "strang" = false := by
      unfold kn
      rw [und]
      exact nstr
    have pe : putE (rstL rows zs zs) "strang" (PS.map (·.1)) = none := putE_none strang_nm nstr2 (chkE_all wr.nd (fun z _ m => by cases m) (fun z hz => by
      unfold kn
      rw [und]
      exact knM.mpr ((mk z).mp hz)))
    walk_at "gg"
    refine g_kmeth (h6.get (a := p) (by unfold OrdO; walk_at "m")) rfl ?_
    walk_at "gg"
    refine g_listL x6.kp h6 (fun l H7 n7 h7 => ?_)
    have s7 := h7.grow
    have f7 : upd F2 l (.lst ((PS.map (·.1)).map V.str)) l = some (.lst ((PS.map (·.1)).map V.str)) := upd_same
    have h7 := h7.frz
    generalize upd F2 l (.lst ((PS.map (·.1)).map V.str)) = F7 at h7 s7 f7
    have lr : (rstL rows zs zs).length ≤ 20 := by unfold rstL; rw [List.length_map]; exact lyy
    refine ⟨p, px, od, nl, l, F7, kvs, rstL rows zs zs, "strang", PS.map (·.1), rfl, h7, ok2.mono s7, h7.same _ _ f7, by decide, by omega, by omega, fun _ H8 F8 nl8 kvs8 us8 b8 g8 h8 ok8 pu8 => ?_, (fun y c => by rw [pe] at c; cases c), (fun y c => by rw [pe] at c; cases c), (fun y c => by rw [pe] at c; cases c), fun y c => by rw [pe] at c; cases c⟩
    have s8 := ((sF2.trans s7).trans g8.1).trans h8.same
    have x8 := x.mono s8
    walk_at "gg"
    refine ⟨A.h, A.x, _, rfl, x8.h.i, ?_⟩
    refine ⟨A, rows, ts, os, "strang", rfl, x8.h, ⟨_, rfl, ?_⟩⟩
    rw [nstr]
    walk_at "gg"
    refine g_kmeth x8.h.i rfl ?_
    walk_at "gg"
    refine ⟨A, rows, ts, os, rfl, x8.h, fun p9 H9 ns2 s9 n9 e9 asc9 m9 => ?_⟩
    have ens2 : ns2 = zs := Asc.ext asc9 ay fun y => by rw [m9 y, my y]
    subst ens2
    walk_at "gg"
    refine g_sortS (s9 _ _ x8.kp) (by omega) (Has.start H9) (fun zs3 p10 H10 pm3 srt3 n10 h10 => ?_)
    have e := eys zs3 pm3 srt3
    subst e
    refine g_eqD (Dq.strs (xs := zs3) (h10.same _ _ e9)) (Dq.strs (xs := zs3) (h10.get (List.Mem.head _))) ((Sh.strs (n := 0) oky).ok (by decide)) ((Sh.strs (n := 0) oky).ok (by decide)) ?_
    rw [SeqAt.eqv_refl _ (Sh.strs (n := 0) oky).1]
    exact q H10 ((s8.trans s9).trans h10.same)
end
end
section
theorem sh_nm {w z : Str} (hw : PyData.strOk w = true) (hz : PyData.strOk z = true) : SeqAt.shaped (dueN w z) = true := by
  refine Sh.ok (n := 1) (Sh.tuple (n := 0) fun d hd => ?_) (by decide)
  simp only [List.mem_cons, List.not_mem_nil, or_false] at hd
  rcases hd with rfl | rfl
  · exact Sh.str hw
  · exact Sh.str hz
theorem eqv_nm (w z : Str) : PyData.eqv (dueN w z) (dueN w z) = true := by
  unfold dueN
  rw [PyData.eqv]
  refine eqvAll_self fun d hd => ?_
  simp only [List.mem_cons, List.not_mem_nil, or_false] at hd
  rcases hd with rfl | rfl
  · rw [PyData.eqv]
    exact beq_self_eq_true _
  · rw [PyData.eqv]
    exact beq_self_eq_true _
section
variable {P : Program} {w : World} {K : PySem.W.Frag} {mg : Str → Option Value} {base : Heap}
def sp_l_refused (T : Txt K mg) : Sp := fun vs H Q _ => ∃ (A : HA) (kp : Addr) (rows : List URow) (ts os : List (Str × Tr)) (ks : List Str), vs = [.ref A.h, .ref kp] ∧ HisAt T H A rows ts os ∧ H kp = some (.lst (ks.map V.str)) ∧ (∀ z ∈ ks, kn rows z = true ∧ PyData.strOk z = true) ∧ (∀ z ∈ strs3, kn rows z = false) ∧
  ∀ H', Same H H' → Q (.bl true) H'
theorem sp_l_refused_len {T : Txt K mg} {vs H Q E} (h : sp_l_refused T vs H Q E) : vs.length = 2 := by
  obtain ⟨_, _, _, _, _, _, rfl, _⟩ := h
  rfl
set_option maxHeartbeats 1000000 in
theorem ok_l_refused (T : Txt K mg) : FnOk P w K mg base CX0 6 T.f_l_refused T.fd_l_refused ["history", "kept"] (sp_l_refused T) := by
  refine T.F_l_refused.ok sc_l_refused (fun vs H Q E h => sp_l_refused_len h) (fun cdv A outer s H vs Q E hr h => ?_)
  refine ⟨_, (pss_cons (ps_for PassesOwn.never rfl (k_il K (pi_list (pe_lst (pa_cons pe_str (pa_cons pe_str (pa_cons pe_str pa_nil)))))) (pg_name (i := 2) sc_l_refused.nd rfl (.inl rfl)) (pss_one (ps_for PassesOwn.never rfl (k_il K (pi_list (pe_lst (pa_cons pe_str (pa_cons pe_str (pa_cons pe_str pa_nil)))))) (pg_name (i := 3) sc_l_refused.nd rfl (.inl rfl)) (pss_one (ps_if (pt_cmpR (op_neK K hr.units) (pe_call (ok_l_asked T) (hr.mono (by decide)) (by rfl) T.g_l_asked T.F_l_asked.kp T.b_l_asked .nil pass0 (pa_cons (pv 0) (pa_cons (pv 2) (pa_cons (pv 3) (pa_cons pe_str pa_nil))))) (pe_tup (pa_cons pe_str (pa_cons (pv 3) pa_nil))) (nomark _)) (pss_one (ps_ret pe_bl)) pss_nil)))))
      (pss_cons (ps_for PassesOwn.never rfl (k_il K (pi_list (pv 1))) (pg_name (i := 3) sc_l_refused.nd rfl (.inl rfl)) (pss_cons (ps_set (i := 4) sc_l_refused.nd rfl (.inl rfl) (pe_call (ok_l_asked T) (hr.mono (by decide)) (by rfl) T.g_l_asked T.F_l_asked.kp T.b_l_asked .nil pass0 (pa_cons (pv 0) (pa_cons pe_str (pa_cons (pv 3) (pa_cons pe_str pa_nil))))))
      (pss_one (ps_if (pt_cmpR (op_neK K hr.units) (pv 4) (pe_tup (pa_cons pe_str (pa_cons pe_str pa_nil))) (nomark _)) (pss_one (ps_ret pe_bl)) pss_nil))))
      (pss_one (ps_ret pe_bl)))), ?_⟩
  obtain ⟨A, kp, rows, ts, os, ks, rfl, h, hk, kk, k3, q⟩ := h
  refine g_start (σ' := [some (.ref A.h), some (.ref kp), none, none, none]) rfl ?_
  have none_of : ∀ {z : Str}, kn rows z = false → undr rows z = none := fun {z} k => by
    unfold kn at k
    cases c : undr rows z with
    | none => rfl
    | some u => rw [c] at k; cases k
  walk_at "gg"
  refine g_klst (by walk_at "sz") (Has.start H) (fun p1 H1 n1 h1 => ?_)
  have s1 := h1.same
  have e1 := h1.get (List.Mem.head _)
  walk_at "gg"
  refine k_forL e1 (fun t σ H' => ∃ y2 y3 y4, σ = [some (.ref A.h), some (.ref kp), y2, y3, y4] ∧ Same H1 H') ⟨_, _, _, rfl, Same.refl _⟩ ?_ ?_ ?_
  · rintro t σ H' _ ⟨y2, y3, y4, rfl, s⟩
    exact s _ _ e1
  · rintro t v σ H2 hv ⟨y2, y3, y4, rfl, s2⟩
    have hv : ((["tree", "origins", "under"] : List Str).map V.str)[t]? = some v := hv
    obtain ⟨wd, hwd, rfl⟩ := str_at hv
    have mw := List.mem_of_getElem? hwd
    walk_at "gg"
    refine g_klst (by walk_at "sz") (Has.start H2) (fun p3 H3 n3 h3 => ?_)
    have s3 := s2.trans h3.same
    have e3 := h3.get (List.Mem.head _)
    walk_at "gg"
    refine k_forL e3 (fun t σ H' => ∃ y3 y4, σ = [some (.ref A.h), some (.ref kp), some (.str wd), y3, y4] ∧ Same H3 H') ⟨_, _, rfl, Same.refl _⟩ ?_ ?_ ?_
    · rintro t σ H' _ ⟨y3, y4, rfl, s⟩
      exact s _ _ e3
    · rintro t v σ H4 hv ⟨y3, y4, rfl, s4⟩
      have hv : ((strs3 : List Str).map V.str)[t]? = some v := hv
      obtain ⟨z, hz, rfl⟩ := str_at hv
      have mz := List.mem_of_getElem? hz
      have kz := k3 z mz
      have okz := strs3_ok z mz
      have sH := s1.trans (s3.trans s4)
      walk_at "gg"
      refine ⟨A, rows, ts, os, wd, z, "No", z, rfl, h.mono sH, ?_, fun v H5 s5 dv => ?_⟩
      · simp only [List.mem_cons, List.not_mem_nil, or_false] at mw
        rcases mw with rfl | rfl | rfl
        · exact .inl ⟨rfl, kz, rfl⟩
        · exact .inr (.inl ⟨rfl, kz, rfl⟩)
        · exact .inr (.inr (.inl ⟨rfl, none_of kz, rfl⟩))
      walk_at "gg"
      refine g_ktup (by walk_at "sz") (Has.start H5) (fun p6 H6 n6 h6 => ?_)
      refine g_neD (dv.up h6.same _ _) (dq_nm (h6.get (List.Mem.head _))) (sh_nm (by decide +kernel) okz) (sh_nm (by decide +kernel) okz) ?_
      rw [eqv_nm]
      walk_at "gg"
      exact ⟨_, _, rfl, (s4.trans s5).trans h6.same⟩
    · rintro σ H4 ⟨y3, y4, rfl, s4⟩
      exact ⟨_, _, _, rfl, s3.trans s4⟩
  · rintro σ H2 ⟨y2, y3, y4, rfl, s2⟩
    have sH2 := s1.trans s2
    walk_at "gg"
    refine k_forL (sH2 _ _ hk) (fun t σ H' => ∃ y2 y3 y4, σ = [some (.ref A.h), some (.ref kp), y2, y3, y4] ∧ Same H2 H') ⟨_, _, _, rfl, Same.refl _⟩ ?_ ?_ ?_
    · rintro t σ H' _ ⟨y2, y3, y4, rfl, s⟩
      exact (sH2.trans s) _ _ hk
    · rintro t v σ H3 hv ⟨y2, y3, y4, rfl, s3⟩
      obtain ⟨z, hz, rfl⟩ := str_at hv
      have mz := List.mem_of_getElem? hz
      obtain ⟨u, hu⟩ := kn_iff.mp (kk z mz).1
      have sH := sH2.trans s3
      walk_at "gg"
      refine ⟨A, rows, ts, os, "under", z, "strang", "strang", rfl, h.mono sH, .inr (.inr (.inr ⟨rfl, u, hu, none_of (k3 _ (by decide +kernel)), rfl⟩)), fun v H5 s5 dv => ?_⟩
      walk_at "gg"
      obtain ⟨x, rfl⟩ : ∃ x, v = .ref x := by
        cases dv
        exact ⟨_, rfl⟩
      walk_at "gg"
      refine g_ktup (by walk_at "sz") (Has.start H5) (fun p6 H6 n6 h6 => ?_)
      refine g_neD (dv.up h6.same _ _) (dq_nm (h6.get (List.Mem.head _))) (sh_nm (by decide +kernel) (by decide +kernel)) (sh_nm (by decide +kernel) (by decide +kernel)) ?_
      rw [eqv_nm]
      walk_at "gg"
      exact ⟨_, _, _, rfl, (s3.trans s5).trans h6.same⟩
    · rintro σ H3 ⟨y2, y3, y4, rfl, s3⟩
      walk_at "gg"
      exact q H3 (sH2.trans s3)
end
end
section
theorem o1_ok {marks : List Str} {fo : Nat → Option Str} (hm : ∀ x ∈ marks, PyData.strOk x = true) (hf : ∀ j x, fo j = some x → PyData.strOk x = true) (p : Nat × Nat) : ∀ j x, o1 marks fo p j = some x → PyData.strOk x = true := fun j x e => by
  unfold o1 at e
  split at e
  · exact hm x (List.mem_of_getElem? e)
  · exact hf j x e
theorem fold_ok {marks : List Str} (hm : ∀ x ∈ marks, PyData.strOk x = true) : ∀ (l : List (Nat × Nat)) (fo : Nat → Option Str), (∀ j x, fo j = some x → PyData.strOk x = true) → ∀ j x, l.foldl (o1 marks) fo j = some x → PyData.strOk x = true
  | [], _, hf => hf
  | p :: r, _, hf => fold_ok hm r _ (o1_ok hm hf p)
theorem oAll_ok {text : List Str} : ∀ {es : List (List Str × List Str)} {fo : Nat → Option Str}, (∀ e ∈ es, EldOk e) → (∀ j x, fo j = some x → PyData.strOk x = true) → ∀ j x, es.foldl (oE text) fo j = some x → PyData.strOk x = true
  | [], _, _, hf => hf
  | e :: r, _, he, hf => oAll_ok (es := r) (fun y hy => he y (List.mem_cons_of_mem _ hy)) (fold_ok (he e List.mem_cons_self).2.2.2 _ _ hf)
theorem orig_ok {nm : Str} {text : List Str} {es : List (List Str × List Str)} (hn : PyData.strOk nm = true) (he : ∀ e ∈ es, EldOk e) : ∀ y ∈ orig nm text es, PyData.strOk y = true := fun y hy => by
  unfold orig at hy
  obtain ⟨j, _, rfl⟩ := List.mem_map.mp hy
  cases c : oAll text es j with
  | none => exact hn
  | some x => exact oAll_ok he (fun j x e => by cases e) j x c
theorem orig_len (nm : Str) (text : List Str) (es : List (List Str × List Str)) : (orig nm text es).length = text.length := by
  unfold orig
  rw [List.length_map, List.length_range]
theorem getL_snoc {ts : List (Str × Tr)} {z y : Str} {t : Tr} : getL (ts ++ [(z, t)]) y = (getL ts y).or (if z = y then some t else none) := by
  unfold getL
  rw [List.find?_append]
  cases c : ts.find? fun p => decide (p.1 = y) with
  | some p => rfl
  | none =>
    by_cases h : z = y
    · rw [List.find?_cons_of_pos (by simpa using h), if_pos h]
      rfl
    · rw [List.find?_cons_of_neg (by simpa using h), if_neg h]
      rfl
theorem getL_none {ts : List (Str × Tr)} {z : Str} : getL ts z = none ↔ z ∉ ts.map (·.1) := by
  rw [← getL_mem]
  cases getL ts z with
  | none => exact ⟨(fun _ h => by cases h), fun _ => rfl⟩
  | some t => exact ⟨fun h => (by cases h), fun h => (h rfl).elim⟩
theorem getT_mapF {f : Str × Tx → Tx} : ∀ {t : Tr} {k : Str}, getT (t.map fun p => (p.1, f p)) k = (getT t k).map fun x => f (k, x)
  | [], _ => rfl
  | p :: r, k => by
    show (if p.1 = k then some (f p) else getT (r.map fun p => (p.1, f p)) k) = (if p.1 = k then some p.2 else getT r k).map fun x => f (k, x)
    by_cases h : p.1 = k
    · rw [if_pos h, if_pos h]
      subst h
      rfl
    · rw [if_neg h, if_neg h]
      exact getT_mapF
theorem VsOk.elds {ts os : List (Str × Tr)} (v : VsOk ts os) (ps : List Str) (p : Str) : ∀ e ∈ eldsOf ts os ps p, EldOk e := fun e he => by
  obtain ⟨q, _, eq⟩ := List.mem_filterMap.mp he
  cases c1 : getL ts q with
  | none => rw [c1] at eq; cases eq
  | some t =>
    cases c2 : getL os q with
    | none => rw [c1, c2] at eq; cases eq
    | some o =>
      rw [c1, c2] at eq
      have eq : (match getT t p, getT o p with | some x, some y => some (x, y) | _, _ => none) = some e := eq
      cases c3 : getT t p with
      | none => rw [c3] at eq; cases eq
      | some x =>
        cases c4 : getT o p with
        | none => rw [c3, c4] at eq; cases eq
        | some y =>
          rw [c3, c4] at eq
          injection eq with eq
          subst eq
          exact (v.shape q t o c1 c2).2.2 p x y c3 c4
theorem VsOk.nil : VsOk [] [] := ⟨rfl, fun z t o h => by cases h⟩
theorem VsOk.snoc {ts os : List (Str × Tr)} (v : VsOk ts os) {z : Str} {t : Tr} (n : z ∉ ts.map (·.1)) (nd : (t.map (·.1)).Nodup) (tx : ∀ p ∈ t, p.2.length ≤ 50 ∧ ∀ l ∈ p.2, PyData.strOk l = true) (okz : PyData.strOk z = true) (ps : List Str) : VsOk (ts ++ [(z, t)]) (os ++ [(z, orgOf ts os z ps t)]) := by
  refine ⟨by rw [List.map_append, List.map_append, v.keys]; rfl, fun y t1 o1 e1 e2 => ?_⟩
  rw [getL_snoc] at e1 e2
  by_cases h : z = y
  · subst h
    have n2 : z ∉ os.map (·.1) := by rw [← v.keys]; exact n
    rw [getL_none.mpr n, if_pos rfl] at e1
    rw [getL_none.mpr n2, if_pos rfl] at e2
    injection e1 with e1
    injection e2 with e2
    subst e1 e2
    refine ⟨orgOf_keys ts os z ps t, nd, fun p x y c1 c2 => ?_⟩
    unfold orgOf at c2
    rw [getT_mapF (f := fun p => orig z p.2 (eldsOf ts os ps p.1)), c1] at c2
    have c2 : some (orig z x (eldsOf ts os ps p)) = some y := c2
    injection c2 with c2
    subst c2
    obtain ⟨l1, l2⟩ := tx _ (getT_mem c1)
    exact ⟨l1, orig_len _ _ _, l2, orig_ok okz (v.elds ps p)⟩
  · rw [if_neg h, Option.or_none] at e1 e2
    exact v.shape y t1 o1 e1 e2
theorem WebR.nil : WebR [] [] := ⟨rfl, List.nodup_nil, (fun t z ps e => by cases e), Nat.zero_le _, (fun z u y e => by cases e), fun z u e => by cases e⟩
theorem WebR.snoc {rows : List URow} {PS : Tr} (wr : WebR rows PS) {z : Str} {ps us : List Str} {F : Hp} {nl : Addr} {kvs : List (Key × V)} (n : kn rows z = false) (kp : ∀ p ∈ ps, kn rows p = true) (pu : PutU rows z ps us) (ok : OrdOk F nl kvs (rows ++ [(z, us)])) (few : PS.length < 20) : WebR (rows ++ [(z, us)]) (PS ++ [(z, ps)]) := by
  have old : ∀ y u, undr rows y = some u → undr (rows ++ [(z, us)]) y = some u := fun y u e => by
    rw [undr_app, e]
    rfl
  have nz : undr rows z = none := by
    unfold kn at n
    cases c : undr rows z with
    | none => rfl
    | some u => rw [c] at n; cases n
  have new : undr (rows ++ [(z, us)]) z = some us := by
    rw [undr_app, nz]
    show (if z = z then some us else none) = some us
    rw [if_pos rfl]
  have nzP : z ∉ PS.map (·.1) := by
    rw [← wr.nms, ← knM, n]
    exact fun c => by cases c
  refine ⟨by rw [List.map_append, List.map_append, wr.nms]; rfl, ?_, fun t y qs e => ?_, by rw [List.length_append]; show _ + 1 ≤ 20; omega, fun y u v e m => ok.in_names e m, fun y u e => ok.asc _ (undr_mem e)⟩
  · rw [List.map_append]
    refine List.nodup_append.mpr ⟨wr.nd, List.nodup_cons.mpr ⟨List.not_mem_nil, List.nodup_nil⟩, fun a ha b hb e => ?_⟩
    have hb : b = z := List.mem_singleton.mp hb
    exact nzP (by rw [← hb, ← e]; exact ha)
  · have back : ∀ {p y : Str}, kn rows p = true → ((∃ v, undr (rows ++ [(z, us)]) p = some v ∧ y ∈ v) ↔ ∃ v, undr rows p = some v ∧ y ∈ v) := fun {p y} k => by
      obtain ⟨u, hu⟩ := kn_iff.mp k
      rw [old p u hu, hu]
    by_cases lt : t < PS.length
    · rw [List.getElem?_append_left lt] at e
      obtain ⟨u, hu, mu, bl⟩ := wr.und t y qs e
      refine ⟨u, old y u hu, fun x => ?_, fun p hp => ?_⟩
      · rw [mu x]
        have kq : ∀ p ∈ qs, kn rows p = true := fun p hp => by
          rw [knM, wr.nms]
          have := bl p hp
          rw [List.map_take] at this
          exact List.mem_of_mem_take this
        constructor
        · rintro (rfl | ⟨p, hp, r⟩)
          · exact .inl rfl
          · exact .inr ⟨p, hp, (back (kq p hp)).mpr r⟩
        · rintro (rfl | ⟨p, hp, r⟩)
          · exact .inl rfl
          · exact .inr ⟨p, hp, (back (kq p hp)).mp r⟩
      · rw [List.take_append_of_le_length (by omega)]
        exact bl p hp
    · have tl := (List.getElem?_eq_some_iff.mp e).1
      rw [List.length_append] at tl
      have tl : t < PS.length + 1 := tl
      have te : t = PS.length := by omega
      subst te
      rw [List.getElem?_append_right (Nat.le_refl _), Nat.sub_self] at e
      injection e with e
      injection e with e1 e2
      subst e1 e2
      refine ⟨us, new, fun x => ?_, fun p hp => ?_⟩
      · rw [pu.2 x]
        constructor
        · rintro (rfl | ⟨p, hp, r⟩)
          · exact .inl rfl
          · exact .inr ⟨p, hp, (back (kp p hp)).mpr r⟩
        · rintro (rfl | ⟨p, hp, r⟩)
          · exact .inl rfl
          · exact .inr ⟨p, hp, (back (kp p hp)).mp r⟩
      · rw [List.take_left, ← wr.nms]
        exact knM.mp (kp p hp)
section
variable {P : Program} {w : World} {K : PySem.W.Frag} {mg : Str → Option Value} {base : Heap}
/-- what a commit that is tried leaves -/
structure Tried (T : Txt K mg) (A : HA) (F H : Hp) (nl : Addr) (kvs tk ok : List (Key × V)) (rows : List URow) (ts os : List (Str × Tr)) (z : Str) (ps : List Str) (t : Tr) (us : List Str) (v : V) (F2 H2 : Hp) (nl2 : Addr) (kvs2 tk2 ok2 : List (Key × V)) (rows2 : List URow) (ts2 os2 : List (Str × Tr)) : Prop where
  b : ButA (HisO T A nl kvs tk ok) H H2
  g : Grow F H F2
  h : Has F2 (HisO T A nl2 kvs2 tk2 ok2) H2
  f : HisF F2 nl2 kvs2 tk2 ok2 rows2 ts2 os2
  dv : Dq H2 v (dueD (kn rows) z ps t us)
  alt : (¬ ComOk rows z ps t us ∧ rows2 = rows ∧ ts2 = ts ∧ os2 = os) ∨ (ComOk rows z ps t us ∧ ∃ us' t', AscOf t t' ∧ rows2 = rows ++ [(z, us')] ∧ ts2 = ts ++ [(z, t')] ∧ os2 = os ++ [(z, orgOf ts os z ps t')] ∧ PutU rows z ps us')
theorem Grow.rfl' (F H : Hp) : Grow F H F := ⟨Same.refl F, fun _ _ => rfl⟩
theorem commit_use {T : Txt K mg} {A : HA} {F H : Hp} {nl l a : Addr} {kvs tk ok : List (Key × V)} {rows : List URow} {ts os : List (Str × Tr)} {z : Str} {ps : List Str} {t : Tr} {us : List Str} {Q : VK} {E : XK} (h : Has F (HisO T A nl kvs tk ok) H) (f : HisF F nl kvs tk ok rows ts os) (vok : VsOk ts os) (hl : H l = some (.lst (ps.map V.str))) (ht : TrAt H a t) (htb : TrB t) (ltx : ∀ p ∈ t, p.2.length ≤ 50)
    (asc : Asc us) (mus : ∀ y, y ∈ us ↔ y ∈ t.map (·.1)) (lz : z.length ≤ 10000) (lp : ps.length ≤ 50) (few : rows.length < 60)
    (q : ∀ v F2 H2 nl2 kvs2 tk2 ok2 rows2 ts2 os2, Tried T A F H nl kvs tk ok rows ts os z ps t us v F2 H2 nl2 kvs2 tk2 ok2 rows2 ts2 os2 → Q v H2) : sp_l_commit T [.ref A.h, .str z, .ref l, .ref a] H Q E := by
  refine ⟨A, F, nl, l, a, kvs, tk, ok, rows, ts, os, z, ps, t, us, rfl, h, f, vok, hl, ht, htb, ltx, asc, mus, lz, lp, few, fun nb v H' s dv => ?_, fun co v H' F' nl' kvs' us' d e t' at' mt b g h' f' pu dv => ?_⟩
  · exact q v F H' nl kvs tk ok rows ts os ⟨fun b u _ e => s b u e, Grow.rfl' F H, Has.up h (h.same.trans s) s (fun p hp => (h.own p hp).1), f, dv, .inl ⟨nb, rfl, rfl, rfl⟩⟩
  · refine q v F' H' nl' kvs' _ _ _ _ _ ⟨b, g, h', f', ?_, .inr ⟨co, us', t', ⟨at', mt⟩, rfl, rfl, rfl, pu⟩⟩
    rw [co.due]
    exact dv.up h'.same _ _
end
end
section
theorem own3 {α : Type} (a b c : List α) : (a ++ (b ++ c)).Perm (b ++ (a ++ c)) := by
  rw [← List.append_assoc, ← List.append_assoc]
  exact List.perm_append_comm.append_right _
def NoTup (O : Own) : Prop := ∀ q ∈ O, ∀ xs, q.2 ≠ .tup xs
theorem NoTup.nil : NoTup [] := fun q h => by cases h
theorem NoTup.lst {O : Own} (h : NoTup O) (p : Addr) (xs : List V) : NoTup ((p, .lst xs) :: O) := fun q hq ys e => by
  rcases List.mem_cons.mp hq with rfl | hq
  · cases e
  · exact h q hq ys e
theorem NoTup.dK {O : Own} (h : NoTup O) (p : Addr) (xs : List (Key × V)) : NoTup ((p, .dK xs) :: O) := fun q hq ys e => by
  rcases List.mem_cons.mp hq with rfl | hq
  · cases e
  · exact h q hq ys e
theorem NoTup.app {O R : Own} (h : NoTup O) (k : NoTup R) : NoTup (O ++ R) := fun q hq ys e => (List.mem_append.mp hq).elim (fun m => h q m ys e) fun m => k q m ys e
/-- data of tuples alone that lies beside what is owned stands still -/
def flatD : PyData → Bool
  | .none => true
  | .bool _ => true
  | .int _ => true
  | .str _ => true
  | _ => false
theorem flat_any {F H : Hp} : ∀ {vs : List V} {ds : List PyData}, ds.all flatD = true → DqAll H vs ds → DqAll F vs ds
  | _, [], _, .nil => .nil
  | _, d :: ds, f, .cons h t => by
    rw [List.all_cons, Bool.and_eq_true] at f
    refine .cons ?_ (flat_any f.2 t)
    cases h with
    | non => exact .non
    | bl b => exact .bl b
    | int i => exact .int i
    | str x => exact .str x
    | lst _ _ => cases f.1
    | tup _ _ => cases f.1
theorem Has.keepT {F H : Hp} {O : Own} {v : V} {ds : List PyData} (h : Has F O H) (n : NoTup O) (f : ds.all flatD = true) (d : Dq H v (.tuple ds)) : ∃ F', Same F F' ∧ Has F' O H ∧ Dq F' v (.tuple ds) := by
  obtain ⟨h2, s2⟩ := Has.wide h (Same.refl H)
  refine ⟨_, s2, h2, ?_⟩
  cases d with
  | tup e a =>
    refine .tup ?_ (flat_any f a)
    unfold rmO
    rw [if_neg fun m => ?_]
    · exact e
    · obtain ⟨q, hq, eq⟩ := List.mem_map.mp m
      have := (h.own q hq).2
      rw [eq, e] at this
      injection this with this
      exact n q hq _ this.symm
theorem due_flat (kn : Str → Bool) (z : Str) (ps : List Str) (t : Tr) (us : List Str) : ∃ ds, dueD kn z ps t us = .tuple ds ∧ ds.all flatD = true := by
  unfold dueD
  split
  · split
    · exact ⟨_, rfl, rfl⟩
    · split
      · exact ⟨_, rfl, rfl⟩
      · exact ⟨_, rfl, rfl⟩
      · split
        · rename_i r _
          obtain ⟨a, o⟩ := r
          cases o with
          | none => exact ⟨_, rfl, rfl⟩
          | some k => exact ⟨_, rfl, rfl⟩
        · exact ⟨_, rfl, rfl⟩
  · exact ⟨_, rfl, rfl⟩
theorem chkE_mem {kn : Str → Bool} : ∀ {xs seen : List Str} {r : Bool × Str}, chkE kn seen xs = some r → r.2 ∈ xs
  | [], _, _, h => by cases h
  | x :: xs, seen, r, h => by
    have h : (if kn x = true then if x ∈ seen then some (false, x) else chkE kn (seen ++ [x]) xs else some (true, x)) = some r := h
    split at h
    · split at h
      · injection h with h
        subst h
        exact List.mem_cons_self
      · exact List.mem_cons_of_mem _ (chkE_mem h)
    · injection h with h
      subst h
      exact List.mem_cons_self
theorem badK_mem {A : Tr} : ∀ {k : Nat} {us : List Str} {r : Str × Option Nat}, badK A k us = some r → r.1 ∈ us
  | _, [], _, h => by cases h
  | k, z :: us, r, h => by
    have h : (if 8 ≤ k then some (z, none) else if isPath z = true then (match badT ((getT A z).getD []) with
      | some i => some (z, some i)
      | none => badK A (k + 1) us) else some (z, none)) = some r := h
    split at h
    · injection h with h
      subst h
      exact List.mem_cons_self
    · split at h
      · split at h
        · injection h with h
          subst h
          exact List.mem_cons_self
        · exact List.mem_cons_of_mem _ (badK_mem h)
      · injection h with h
        subst h
        exact List.mem_cons_self
theorem sh_due {kn : Str → Bool} {z : Str} {ps : List Str} {t : Tr} {us : List Str} (oz : PyData.strOk z = true) (op : ∀ y ∈ ps, PyData.strOk y = true) (ou : ∀ y ∈ us, PyData.strOk y = true) : Sh 1 (dueD kn z ps t us) := by
  have nm : ∀ {w y : Str}, PyData.strOk w = true → PyData.strOk y = true → Sh 1 (dueN w y) := fun {w y} hw hy => Sh.tuple (n := 0) fun d hd => by
    simp only [List.mem_cons, List.not_mem_nil, or_false] at hd
    rcases hd with rfl | rfl
    · exact Sh.str hw
    · exact Sh.str hy
  unfold dueD
  split
  · split
    · exact nm (by decide +kernel) oz
    · split
      · rename_i y e
        exact nm (by decide +kernel) (op y (chkE_mem e))
      · rename_i y e
        exact nm (by decide +kernel) (op y (chkE_mem e))
      · split
        · rename_i r e
          have m := ou _ (badK_mem e)
          obtain ⟨a, o⟩ := r
          refine Sh.tuple (n := 0) fun d hd => ?_
          simp only [List.mem_cons, List.not_mem_nil, or_false] at hd
          rcases hd with rfl | rfl | rfl | rfl
          · exact Sh.str (by decide +kernel)
          · exact Sh.str m
          · cases o with
            | none => exact Sh.non
            | some k => exact Sh.int _
          · exact Sh.bl _
        · refine Sh.tuple (n := 0) fun d hd => ?_
          simp only [List.mem_cons, List.not_mem_nil, or_false] at hd
          rcases hd with rfl | rfl
          · exact Sh.str (by decide +kernel)
          · exact Sh.non
  · exact nm (by decide +kernel) oz
theorem sh_told : Sh 1 toldD := Sh.tuple (n := 0) fun d hd => by
  simp only [List.mem_cons, List.not_mem_nil, or_false] at hd
  rcases hd with rfl | rfl
  · exact Sh.str (by decide +kernel)
  · exact Sh.non
theorem dq_told {H : Hp} {p : Addr} (h : H p = some (.tup [.str "told", .non])) : Dq H (.ref p) toldD := .tup h (.cons (.str _) (.cons .non .nil))
/-- what is due is that all is well where it is -/
theorem due_good {rows : List URow} {z : Str} {ps : List Str} {t : Tr} {us : List Str} : (ComOk rows z ps t us ∧ dueD (kn rows) z ps t us = toldD) ∨ (¬ ComOk rows z ps t us ∧ PyData.eqv (dueD (kn rows) z ps t us) toldD = false) := by
  cases c1 : isNm z with
  | false =>
    refine .inr ⟨fun c => (by rw [c.nm] at c1; cases c1), ?_⟩
    unfold dueD
    rw [if_neg (by rw [c1]; decide)]
    unfold dueN toldD
    simp only [PyData.eqv, PyData.eqvAll, Bool.and_false, Bool.false_and]
  | true =>
    cases c2 : kn rows z with
    | true =>
      refine .inr ⟨fun c => (by rw [c.fr] at c2; cases c2), ?_⟩
      unfold dueD
      rw [if_pos c1, if_pos c2]
      unfold dueN toldD
      simp only [PyData.eqv, PyData.eqvAll, Bool.and_false, Bool.false_and]
    | false =>
      cases c3 : chkE (kn rows) [] ps with
      | some r =>
        refine .inr ⟨fun c => (by rw [c.ck] at c3; cases c3), ?_⟩
        unfold dueD
        rw [if_pos c1, if_neg (by rw [c2]; decide), c3]
        obtain ⟨b, y⟩ := r
        cases b with
        | true =>
          show PyData.eqv (dueN "Unknown" y) toldD = false
          unfold dueN toldD
          simp only [PyData.eqv, PyData.eqvAll, Bool.and_false, Bool.false_and]
        | false =>
          show PyData.eqv (dueN "Repeated" y) toldD = false
          unfold dueN toldD
          simp only [PyData.eqv, PyData.eqvAll, Bool.and_false, Bool.false_and]
      | none =>
        cases c4 : badK t 0 us with
        | some r =>
          refine .inr ⟨fun c => (by rw [c.bk] at c4; cases c4), ?_⟩
          unfold dueD
          rw [if_pos c1, if_neg (by rw [c2]; decide), c3, c4]
          show PyData.eqv (dueT r) toldD = false
          unfold dueT toldD
          simp only [PyData.eqv, PyData.eqvAll, Bool.and_false, Bool.false_and]
        | none => exact .inl ⟨⟨c1, c2, c3, c4⟩, (ComOk.due ⟨c1, c2, c3, c4⟩)⟩
section
variable {P : Program} {w : World} {K : PySem.W.Frag} {mg : Str → Option Value} {base : Heap}
theorem noTup_his (T : Txt K mg) (A : HA) (nl : Addr) (kvs tk ok : List (Key × V)) : NoTup (HisO T A nl kvs tk ok) := fun q hq xs e => by
  simp only [HisO, OrdO, List.mem_cons, List.not_mem_nil, or_false] at hq
  rcases hq with rfl | rfl | rfl | rfl | rfl | rfl | rfl <;> cases e
theorem hisO_addr {T : Txt K mg} {H : Hp} {A : HA} {nl nl' : Addr} {kvs tk ok kvs' tk' ok' : List (Key × V)} : ∀ q ∈ HisO T A nl' kvs' tk' ok', q.1 ∈ (HisO T A nl kvs tk ok).map (·.1) ∨ H q.1 = none := fun q hq => .inl (by
  have e : (HisO T A nl kvs tk ok).map (·.1) = (HisO T A nl' kvs' tk' ok').map (·.1) := rfl
  rw [e]
  exact List.mem_map.mpr ⟨q, hq, rfl⟩)
/-- a commit by the method that is let -/
theorem commitM_use {T : Txt K mg} {A : HA} {F H : Hp} {R : Own} {nl l a : Addr} {kvs tk ok : List (Key × V)} {rows : List URow} {ts os : List (Str × Tr)} {z : Str} {ps : List Str} {t : Tr} {us : List Str} {Q : VK} {E : XK} (h : Has F (HisO T A nl kvs tk ok ++ R) H) (f : HisF F nl kvs tk ok rows ts os) (vok : VsOk ts os) (hl : H l = some (.lst (ps.map V.str))) (ht : TrAt H a t) (htb : TrB t) (ltx : ∀ p ∈ t, p.2.length ≤ 50)
    (asc : Asc us) (mus : ∀ y, y ∈ us ↔ y ∈ t.map (·.1)) (lz : z.length ≤ 10000) (lp : ps.length ≤ 50) (few : rows.length < 60) (co : ComOk rows z ps t us)
    (q : ∀ H' F' nl' kvs' us' d e t', AscOf t t' → Same F F' → Has F' (HisO T A nl' kvs' (tk ++ [(kS z, .ref d)]) (ok ++ [(kS z, .ref e)]) ++ R) H' → HisF F' nl' kvs' (tk ++ [(kS z, .ref d)]) (ok ++ [(kS z, .ref e)]) (rows ++ [(z, us')]) (ts ++ [(z, t')]) (os ++ [(z, orgOf ts os z ps t')]) → PutU rows z ps us' → Q .non H') : sp_History_commit T [.ref A.h, .str z, .ref l, .ref a] H Q E := by
  refine ⟨A, F, nl, l, a, kvs, tk, ok, rows, ts, os, z, ps, t, us, rfl, h.sub (List.sublist_append_left _ _), f, vok, hl, ht, htb, ltx, asc, mus, lz, lp, few, (fun c => by rw [co.nm] at c; cases c), (fun _ c => by rw [co.fr] at c; cases c), fun _ _ => ⟨(fun y c => by rw [co.ck] at c; cases c), (fun y c => by rw [co.ck] at c; cases c), fun _ => ⟨(fun r c => by rw [co.bk] at c; cases c), fun _ H' F' nl' kvs' us' d e t' at' mt b g h' f' pu => ?_⟩⟩⟩
  exact q H' F' nl' kvs' us' d e t' ⟨at', mt⟩ g.1 (Has.grownA h b g h' hisO_addr) f' pu
/-- a commit that is tried -/
theorem commitR_use {T : Txt K mg} {A : HA} {F H : Hp} {R : Own} {nl l a : Addr} {kvs tk ok : List (Key × V)} {rows : List URow} {ts os : List (Str × Tr)} {z : Str} {ps : List Str} {t : Tr} {us : List Str} {Q : VK} {E : XK} (h : Has F (HisO T A nl kvs tk ok ++ R) H) (f : HisF F nl kvs tk ok rows ts os) (vok : VsOk ts os) (hl : H l = some (.lst (ps.map V.str))) (ht : TrAt H a t) (htb : TrB t) (ltx : ∀ p ∈ t, p.2.length ≤ 50)
    (asc : Asc us) (mus : ∀ y, y ∈ us ↔ y ∈ t.map (·.1)) (lz : z.length ≤ 10000) (lp : ps.length ≤ 50) (few : rows.length < 60)
    (q : ∀ v F2 H2 nl2 kvs2 tk2 ok2 rows2 ts2 os2, Same F F2 → Has F2 (HisO T A nl2 kvs2 tk2 ok2 ++ R) H2 → HisF F2 nl2 kvs2 tk2 ok2 rows2 ts2 os2 → Dq H2 v (dueD (kn rows) z ps t us) →
      ((¬ ComOk rows z ps t us ∧ rows2 = rows ∧ ts2 = ts ∧ os2 = os) ∨ (ComOk rows z ps t us ∧ ∃ us' t', AscOf t t' ∧ rows2 = rows ++ [(z, us')] ∧ ts2 = ts ++ [(z, t')] ∧ os2 = os ++ [(z, orgOf ts os z ps t')] ∧ PutU rows z ps us')) → Q v H2) : sp_l_commit T [.ref A.h, .str z, .ref l, .ref a] H Q E :=
  commit_use (h.sub (List.sublist_append_left _ _)) f vok hl ht htb ltx asc mus lz lp few fun v F2 H2 nl2 kvs2 tk2 ok2 rows2 ts2 os2 x => q v F2 H2 nl2 kvs2 tk2 ok2 rows2 ts2 os2 x.g.1 (Has.grownA h x.b x.g x.h hisO_addr) x.f x.dv x.alt
end
end
section
structure LD where
  nl : Addr
  kvs : List (Key × V)
  tk : List (Key × V)
  ok : List (Key × V)
  pk : List (Key × V)
  tdk : List (Key × V)
  rows : List URow
  ts : List (Str × Tr)
  os : List (Str × Tr)
  lts : List (Str × Tr)
  PS : Tr
def LR (kp pd td : Addr) (D : LD) : Own := [(kp, .lst ((D.PS.map (·.1)).map V.str)), (pd, .dK D.pk), (td, .dK D.tdk)]
structure LF (F : Hp) (A : HA) (nm : Addr) (names : List Str) (D : LD) : Prop where
  his : HisF F D.nl D.kvs D.tk D.ok D.rows D.ts D.os
  vs : VsOk D.ts D.os
  tv : TV F D.pk D.PS
  tl : TL F D.tdk D.lts
  lk : D.lts.map (·.1) = D.PS.map (·.1)
  tk : D.ts.map (·.1) = D.PS.map (·.1)
  wr : WebR D.rows D.PS
  l6 : ∀ p ∈ D.PS, p.2.length ≤ 6
  kin : ∀ z ∈ D.PS.map (·.1), z ∈ names
  tr : ∀ z, z ∈ D.PS.map (·.1) → ∃ t t', getL D.ts z = some t' ∧ getL D.lts z = some t ∧ AscOf t t' ∧ TrG t ∧ t.length ≤ 40
  nm : F nm = some (.lst (names.map V.str))
  nok : NmsOk names
  tu : F A.tu = some (.tup [])
theorem LF.mono {F F' : Hp} {A : HA} {nm : Addr} {names : List Str} {D : LD} (f : LF F A nm names D) (s : Same F F') : LF F' A nm names D :=
  ⟨f.his.mono s, f.vs, f.tv.mono s, f.tl.mono s, f.lk, f.tk, f.wr, f.l6, f.kin, f.tr, s _ _ f.nm, f.nok, s _ _ f.tu⟩
theorem LF.mem {F : Hp} {A : HA} {nm : Addr} {names : List Str} {D : LD} (f : LF F A nm names D) (z : Str) : z ∈ D.PS.map (·.1) ↔ kn D.rows z = true := by
  rw [knM, f.wr.nms]
theorem LF.knf {F : Hp} {A : HA} {nm : Addr} {names : List Str} {D : LD} (f : LF F A nm names D) : kn D.rows = fun x => decide (x ∈ D.PS.map (·.1)) := by
  funext x
  rw [Bool.eq_iff_iff, decide_eq_true_eq, f.mem x]
theorem LF.ok {F : Hp} {A : HA} {nm : Addr} {names : List Str} {D : LD} (f : LF F A nm names D) : ∀ z ∈ D.PS.map (·.1), PyData.strOk z = true := fun z hz => (f.nok.nm z (f.kin z hz)).2.1
theorem LF.no3 {F : Hp} {A : HA} {nm : Addr} {names : List Str} {D : LD} (f : LF F A nm names D) : ∀ z ∈ strs3, kn D.rows z = false := fun z hz => by
  cases c : kn D.rows z with
  | false => rfl
  | true =>
    obtain ⟨h1, _, h2⟩ := f.nok.nm z (f.kin z ((f.mem z).mpr c))
    simp only [strs3, List.mem_cons, List.not_mem_nil, or_false] at hz
    rcases hz with rfl | rfl | rfl
    · exact (h2 rfl).elim
    · exact absurd h1 (by decide +kernel)
    · exact absurd h1 (by decide +kernel)
theorem TrG.ltx {t : Tr} (g : TrG t) : ∀ p ∈ t, p.2.length ≤ 50 := fun p hp => by
  have := (g.tx p hp).1
  omega
theorem allL_len : ∀ l ∈ allL, l.length ≤ 100 := by decide +kernel
theorem allP_len : ∀ l ∈ allP, l.length ≤ 100 := by decide +kernel
theorem TrG.trb {t : Tr} (g : TrG t) (l : t.length ≤ 60) : TrB t := ⟨l, fun p hp => ⟨Nat.le_trans (allP_len _ (g.pt p hp)) (by decide), Nat.le_trans (g.tx p hp).1 (by decide), fun z hz => Nat.le_trans (allL_len z ((g.tx p hp).2 z hz)) (by decide)⟩⟩
theorem LF.snoc {F F' : Hp} {A : HA} {nm : Addr} {names : List Str} {D : LD} (f : LF F A nm names D) (s : Same F F') {nl' : Addr} {kvs' tk' ok' pk' tdk' : List (Key × V)} {z : Str} {ps us us' : List Str} {t t' : Tr} (co : ComOk D.rows z ps t us) (ao : AscOf t t') (pu : PutU D.rows z ps us')
    (h' : HisF F' nl' kvs' tk' ok' (D.rows ++ [(z, us')]) (D.ts ++ [(z, t')]) (D.os ++ [(z, orgOf D.ts D.os z ps t')])) (tv' : TV F' pk' (D.PS ++ [(z, ps)])) (tl' : TL F' tdk' (D.lts ++ [(z, t)])) (zn : z ∈ names) (gt : TrG t) (lt : t.length ≤ 40) (lps : ps.length ≤ 6) (few : D.PS.length < 20) :
    LF F' A nm names ⟨nl', kvs', tk', ok', pk', tdk', D.rows ++ [(z, us')], D.ts ++ [(z, t')], D.os ++ [(z, orgOf D.ts D.os z ps t')], D.lts ++ [(z, t)], D.PS ++ [(z, ps)]⟩ := by
  have nz : z ∉ D.PS.map (·.1) := fun m => by
    have := (f.mem z).mp m
    rw [co.fr] at this
    cases this
  have gt' := gt.of ao
  refine ⟨h', f.vs.snoc (by rw [f.tk]; exact nz) gt'.nd (fun p hp => ⟨gt'.ltx p hp, fun l hl => allL_ok _ ((gt'.tx p hp).2 l hl)⟩) (f.nok.nm z zn).2.1 ps, tv', tl', ?_, ?_, f.wr.snoc co.fr (chkE_known co.ck) pu h'.ord few, fun p hp => ?_, fun y hy => ?_, fun y hy => ?_, s _ _ f.nm, f.nok, s _ _ f.tu⟩
  · show (D.lts ++ [(z, t)]).map (·.1) = (D.PS ++ [(z, ps)]).map (·.1)
    rw [List.map_append, List.map_append, f.lk]
    rfl
  · show (D.ts ++ [(z, t')]).map (·.1) = (D.PS ++ [(z, ps)]).map (·.1)
    rw [List.map_append, List.map_append, f.tk]
    rfl
  · rcases List.mem_append.mp hp with hp | hp
    · exact f.l6 p hp
    · rw [List.mem_singleton.mp hp]
      exact lps
  · have hy : y ∈ (D.PS ++ [(z, ps)]).map (·.1) := hy
    rw [List.map_append] at hy
    rcases List.mem_append.mp hy with hy | hy
    · exact f.kin y hy
    · rw [List.mem_singleton.mp hy]
      exact zn
  · have hy : y ∈ (D.PS ++ [(z, ps)]).map (·.1) := hy
    rw [List.map_append] at hy
    show ∃ u u', getL (D.ts ++ [(z, t')]) y = some u' ∧ getL (D.lts ++ [(z, t)]) y = some u ∧ AscOf u u' ∧ TrG u ∧ u.length ≤ 40
    rw [getL_snoc, getL_snoc]
    rcases List.mem_append.mp hy with hy | hy
    · obtain ⟨u, u', e1, e2, r⟩ := f.tr y hy
      exact ⟨u, u', by rw [e1]; rfl, by rw [e2]; rfl, r⟩
    · have hy : y = z := List.mem_singleton.mp hy
      subst hy
      rw [getL_none.mpr (by rw [f.tk]; exact nz), getL_none.mpr (by rw [f.lk]; exact nz), if_pos rfl, if_pos rfl]
      exact ⟨t, t', rfl, rfl, ao, gt, lt⟩
section
variable {P : Program} {w : World} {K : PySem.W.Frag} {mg : Str → Option Value} {base : Heap}
theorem LF.shown {T : Txt K mg} {F H : Hp} {A : HA} {nm kp pd td : Addr} {names : List Str} {D : LD} {R : Own} (f : LF F A nm names D) (h : Has F (HisO T A D.nl D.kvs D.tk D.ok ++ R) H) (hk : H kp = some (.lst ((D.PS.map (·.1)).map V.str))) (hp : H pd = some (.dK D.pk)) (ht : H td = some (.dK D.tdk)) : ShownAt T H A D.rows D.ts D.os nm kp pd td names D.PS D.lts := by
  have fH := f.mono h.same
  exact ⟨HisF.at f.his h, fH.nm, f.nok, hk, fH.tv.at hp f.wr.nd, ⟨D.tdk, ht, fH.tl⟩, f.wr, f.l6, f.tr, f.kin⟩
end
end
section
theorem cut1 (ws : List V) : (cutV ws (some (-1)) none).length ≤ 1 := by
  unfold cutV
  rw [HT.sIx_none]
  have e : HT.sIx ws.length 0 (some (-1)) = ws.length - 1 := by
    show (if (-1 : Int) < 0 then ((-1 : Int) + ((ws.length : Nat) : Int)).toNat else min (-1 : Int).toNat ws.length) = ws.length - 1
    rw [if_pos (by decide)]
    omega
  rw [e, List.length_take, List.length_drop]
  omega
def fTr (t : Tx) : Tr := [("f", t)]
theorem fTr_g {t : Tx} (h : TxG t) : TrG (fTr t) := ⟨List.nodup_cons.mpr ⟨List.not_mem_nil, List.nodup_nil⟩, (fun p hp => by rw [List.mem_singleton.mp hp]; show ("f" : Str) ∈ allP; decide +kernel), fun p hp => by rw [List.mem_singleton.mp hp]; exact h⟩
theorem mkTr1 {F : Hp} {d x : Addr} {z : Str} {t : Tx} (hd : F d = some (.dK [(kS z, .ref x)])) (hx : F x = some (.lst (t.map V.str))) : TrAt F d [(z, t)] := ⟨_, hd, rfl, List.nodup_cons.mpr ⟨List.not_mem_nil, List.nodup_nil⟩, .cons (Dq.strs hx) .nil⟩
theorem mkTr0 {F : Hp} {d : Addr} (hd : F d = some (.dK [])) : TrAt F d [] := ⟨_, hd, rfl, List.nodup_nil, .nil⟩
theorem asc1 (z : Str) : Asc [z] := List.pairwise_singleton ..
theorem ascOf1 {z : Str} {t : Tx} {B : Tr} (a : AscOf [(z, t)] B) : B = [(z, t)] := AscOf.ext (t := [(z, t)]) a ⟨asc1 z, fun p => Iff.rfl⟩
theorem fresh2 {names ks : List Str} (nok : NmsOk names) (n : ks.Nodup) (l : ks.length ≤ 7) : ∃ one two rest, names.filter (fun x => !decide (x ∈ ks)) = one :: two :: rest ∧ one ≠ two := by
  have h1 := List.length_eq_countP_add_countP (l := names) (fun x => decide (x ∈ ks))
  have h2 : (names.filter fun x => decide (x ∈ ks)).length ≤ ks.length := strs_sub (nok.nd.filter _) fun x hx => of_decide_eq_true (List.mem_filter.mp hx).2
  have h3 : (names.filter fun x => !decide (x ∈ ks)).length ≥ 2 := by
    rw [List.countP_eq_length_filter, List.countP_eq_length_filter, nok.len] at h1
    have e : (names.filter fun x => decide ¬(decide (x ∈ ks) = true)) = names.filter fun x => !decide (x ∈ ks) := List.filter_congr fun x _ => by simp
    rw [e] at h1
    omega
  have nd := nok.nd.filter fun x => !decide (x ∈ ks)
  generalize names.filter (fun x => !decide (x ∈ ks)) = fr at h3 nd
  match fr, h3, nd with
  | a :: b :: r, _, nd => exact ⟨a, b, r, rfl, fun e => (List.nodup_cons.mp nd).1 (by rw [e]; exact List.mem_cons_self)⟩
theorem sh_fD {p : Str × Tx} (h1 : PyData.strOk p.1 = true) (h2 : okX p.2) : Sh 2 (fD p) := Sh.tuple (n := 1) fun d hd => by
  simp only [List.mem_cons, List.not_mem_nil, or_false] at hd
  rcases hd with rfl | rfl
  · exact Sh.str h1
  · refine Sh.tuple (n := 0) fun d hd => ?_
    obtain ⟨x, hx, rfl⟩ := List.mem_map.mp hd
    exact Sh.str (h2 x hx)
theorem sh_facts {rows : List URow} {ts os : List (Str × Tr)} {rs : List FRow} (h : FsOk rows ts os rs) (ok : ∀ z ∈ rows.map (·.1), PyData.strOk z = true) (sub : ∀ z u y, undr rows z = some u → y ∈ u → y ∈ rows.map (·.1)) (okt : ∀ z t, getL ts z = some t → okTr t) (oko : ∀ z t, getL os z = some t → okTr t) : Sh 6 (.tuple [.tuple (rs.map frD), .tuple []]) := by
  refine Sh.tuple (n := 5) fun d hd => ?_
  simp only [List.mem_cons, List.not_mem_nil, or_false] at hd
  rcases hd with rfl | rfl
  · refine Sh.tuple (n := 4) fun d hd => ?_
    obtain ⟨r, hr, rfl⟩ := List.mem_map.mp hd
    obtain ⟨u, t, o, hu, ht, ho, asc, mem, fa, fb⟩ := h.2.2 r hr
    have files : ∀ {t A : Tr}, okTr t → AscOf t A → Sh 3 (.tuple (A.map fD)) := fun {t A} k a => Sh.tuple (n := 2) fun d hd => by
      obtain ⟨p, hp, rfl⟩ := List.mem_map.mp hd
      have := k p ((a.2 p).mp hp)
      exact sh_fD this.1 this.2
    refine Sh.tuple (n := 3) fun d hd => ?_
    simp only [List.mem_cons, List.not_mem_nil, or_false] at hd
    rcases hd with rfl | rfl | rfl | rfl
    · exact Sh.str (ok _ ((h.2.1 _).mp (List.mem_map.mpr ⟨r, hr, rfl⟩)))
    · refine Sh.tuple (n := 2) fun d hd => ?_
      obtain ⟨y, hy, rfl⟩ := List.mem_map.mp hd
      exact Sh.str (ok y (sub _ u y hu (List.mem_filter.mp ((mem y).mp hy).1).1))
    · exact files (okt _ t ht) fa
    · exact files (oko _ o ho) fb
  · exact Sh.tuple (n := 4) fun d hd => (List.not_mem_nil hd).elim
theorem LF.okts {F : Hp} {A : HA} {nm : Addr} {names : List Str} {D : LD} (f : LF F A nm names D) : ∀ z t, getL D.ts z = some t → okTr t ∧ t.length ≤ 60 := fun z t e => by
  have m : z ∈ D.PS.map (·.1) := by
    rw [← f.tk]
    exact getL_mem.mp (by rw [e]; rfl)
  obtain ⟨u, u', e1, _, ao, gu, lu⟩ := f.tr z m
  rw [e] at e1
  injection e1 with e1
  subst e1
  have := ao.len gu.nd
  exact ⟨(gu.of ao).ok, by omega⟩
theorem LF.okos {F : Hp} {A : HA} {nm : Addr} {names : List Str} {D : LD} (f : LF F A nm names D) : ∀ z o, getL D.os z = some o → okTr o ∧ o.length ≤ 60 := fun z o e => by
  have m : z ∈ D.ts.map (·.1) := by
    rw [f.vs.keys]
    exact getL_mem.mp (by rw [e]; rfl)
  obtain ⟨t, et⟩ := Option.isSome_iff_exists.mp (getL_mem.mpr m)
  obtain ⟨ek, nd, sh⟩ := f.vs.shape z t o et e
  obtain ⟨okt, lt⟩ := f.okts z t et
  have l := congrArg List.length ek
  rw [List.length_map, List.length_map] at l
  refine ⟨fun p hp => ?_, by omega⟩
  have mp : p.1 ∈ t.map (·.1) := by rw [← ek]; exact List.mem_map.mpr ⟨p, hp, rfl⟩
  obtain ⟨r, hr, er⟩ := List.mem_map.mp mp
  have g1 : getT t p.1 = some r.2 := getT_of nd (by rw [← er]; exact hr)
  have g2 : getT o p.1 = some p.2 := getT_of (by rw [ek]; exact nd) hp
  exact ⟨by rw [← er]; exact (okt r hr).1, (sh _ _ _ g1 g2).2.2.2⟩
section
variable {P : Program} {w : World} {K : PySem.W.Frag} {mg : Str → Option Value} {base : Heap}
theorem his_i {T : Txt K mg} {A : HA} {F H : Hp} {nl : Addr} {kvs tk ok : List (Key × V)} {R : Own} (h : Has F (HisO T A nl kvs tk ok ++ R) H) : H A.h = some (.ins T.C_History A.x (hs_ A.o A.tr A.og A.tu)) := h.get (List.mem_append_left _ (by unfold HisO; walk_at "m"))
def sp_l_ended (T : Txt K mg) : Sp := fun vs H Q _ => ∃ (A : HA) (F : Hp) (nm kp pd td : Addr) (names : List Str) (D : LD), vs = [.ref A.h, .ref nm, .ref kp, .ref pd, .ref td] ∧ Has F (HisO T A D.nl D.kvs D.tk D.ok ++ LR kp pd td D) H ∧ LF F A nm names D ∧ D.PS.length ≤ 7 ∧ ∀ H', Q (.bl true) H'
theorem sp_l_ended_len {T : Txt K mg} {vs H Q E} (h : sp_l_ended T vs H Q E) : vs.length = 5 := by
  obtain ⟨_, _, _, _, _, _, _, _, rfl, _⟩ := h
  rfl
set_option maxHeartbeats 4000000 in
theorem ok_l_ended (T : Txt K mg) : FnOk P w K mg base CX0 9 T.f_l_ended T.fd_l_ended ["history", "names", "kept", "parents", "trees"] (sp_l_ended T) := by
  refine T.F_l_ended.ok sc_l_ended (fun vs H Q E h => sp_l_ended_len h) (fun cdv A outer s H vs Q E hr h => ?_)
  refine ⟨_, (pss_cons (ps_set (i := 5) sc_l_ended.nd rfl (.inl rfl) (pe_methW0 (pv 0) T.cl_History T.M_History_copied (ok_History_copied T) (hr.mono (by decide)) T.b_History_copied (pass0S (E := fun _ => E0))))
      (pss_cons (ps_if (pt_cmpR (op_neM K hr.units) (pe_methW0 (pv 5) T.cl_History T.M_History_facts (ok_History_facts T) (hr.mono (by decide)) T.b_History_facts (pass0S (E := fun _ => E0))) (pe_methW0 (pv 0) T.cl_History T.M_History_facts (ok_History_facts T) (hr.mono (by decide)) T.b_History_facts (pass0S (E := fun _ => E0))) (nomark _)) (pss_one (ps_ret pe_bl)) pss_nil)
      (pss_cons (ps_set (i := 6) sc_l_ended.nd rfl (.inl rfl) (pe_ix (ix_K K (hu_of hr)) (pe_lc (own := [("name", 8)]) (g := gName 8) rfl sc_l_ended.nd (k_il K (pi_list (pv 1))) (blkOk_by (N := n_l_ended) (sc := defScope s_l_ended) (by decide +kernel)) (fun _ _ _ _ _ => (pg_name (i := 8) sc_l_ended.nd rfl (.inl rfl))) (fun _ _ _ _ _ => (pts_one (pt_cmpR (op_notinM K P w hr.units (u65 hr)) (pv 8) (pv 2) (by rfl)))) (fun _ _ _ _ _ => (pv 8))) pe_int (fun _ _ => rfl)))
      (pss_cons (ps_set (i := 7) sc_l_ended.nd rfl (.inl rfl) (pe_ix (ix_K K (hu_of hr)) (pe_lc (own := [("name", 8)]) (g := gName 8) rfl sc_l_ended.nd (k_il K (pi_list (pv 1))) (blkOk_by (N := n_l_ended) (sc := defScope s_l_ended) (by decide +kernel)) (fun _ _ _ _ _ => (pg_name (i := 8) sc_l_ended.nd rfl (.inl rfl))) (fun _ _ _ _ _ => (pts_one (pt_cmpR (op_notinM K P w hr.units (u65 hr)) (pv 8) (pv 2) (by rfl)))) (fun _ _ _ _ _ => (pv 8))) pe_int (fun _ _ => rfl)))
      (pss_cons (ps_expr (pe_methW (pv 5) T.cl_History T.M_History_commit (ok_History_commit T) (hr.mono (by decide)) T.b_History_commit passC0S (pa_cons pe_str (pa_cons (pe_callTy (cr_listK K) (by rfl) T.m_list (by decide +kernel) (pa_cons (pe_slice (sl_M K) (pv 2) (po_some (pe_un un_neg pe_int)) po_none) pa_nil)) (pa_cons (pe_disp (pps_cons pe_str (pe_lst (pa_cons pe_str pa_nil)) pps_nil) rfl rfl (fun h => nomatch h) (by decide)) pa_nil)))))
      (pss_cons (ps_expr (pe_methW (pv 5) T.cl_History T.M_History_commit (ok_History_commit T) (hr.mono (by decide)) T.b_History_commit passC0S (pa_cons (pv 6) (pa_cons (pe_lst pa_nil) (pa_cons (pe_disp (pps_cons pe_str (pe_lst (pa_cons pe_str pa_nil)) pps_nil) rfl rfl (fun h => nomatch h) (by decide)) pa_nil)))))
      (pss_cons (ps_if (pt_cmpR (op_neM K hr.units) (pe_call (ok_l_commit T) (hr.mono (by decide)) (by rfl) T.g_l_commit T.F_l_commit.kp T.b_l_commit .nil pass0 (pa_cons (pv 0) (pa_cons (pv 6) (pa_cons (pe_lst (pa_cons (pv 7) pa_nil)) (pa_cons pe_dnewK pa_nil))))) (pe_tup (pa_cons pe_str (pa_cons (pv 7) pa_nil))) (nomark _)) (pss_one (ps_ret pe_bl)) pss_nil)
      (pss_cons (ps_if (pt_cmpR (op_neM K hr.units) (pe_call (ok_l_commit T) (hr.mono (by decide)) (by rfl) T.g_l_commit T.F_l_commit.kp T.b_l_commit .nil pass0 (pa_cons (pv 0) (pa_cons (pv 7) (pa_cons (pe_lst pa_nil) (pa_cons (pe_disp (pps_cons pe_str (pe_lst pa_nil) pps_nil) rfl rfl (fun h => nomatch h) (by decide)) pa_nil))))) (pe_tup (pa_cons pe_str (pa_cons pe_non pa_nil))) (nomark _)) (pss_one (ps_ret pe_bl)) pss_nil)
      (pss_cons (ps_if (pt_cmpR (op_neM K hr.units) (pe_call (ok_l_commit T) (hr.mono (by decide)) (by rfl) T.g_l_commit T.F_l_commit.kp T.b_l_commit .nil pass0 (pa_cons (pv 0) (pa_cons (pv 6) (pa_cons (pe_lst (pa_cons (pv 7) pa_nil)) (pa_cons pe_dnewK pa_nil))))) (pe_tup (pa_cons pe_str (pa_cons pe_non pa_nil))) (nomark _)) (pss_one (ps_ret pe_bl)) pss_nil)
      (pss_cons (ps_if (pt_cmpR (op_neM K hr.units) (pe_call (ok_l_commit T) (hr.mono (by decide)) (by rfl) T.g_l_commit T.F_l_commit.kp T.b_l_commit .nil pass0 (pa_cons (pv 0) (pa_cons (pv 6) (pa_cons (pe_lst (pa_cons (pv 7) pa_nil)) (pa_cons pe_dnewK pa_nil))))) (pe_tup (pa_cons pe_str (pa_cons (pv 6) pa_nil))) (nomark _)) (pss_one (ps_ret pe_bl)) pss_nil)
      (pss_cons (ps_if (pt_cmpR (op_neM K hr.units) (pe_methW0 (pv 5) T.cl_History T.M_History_names (ok_History_names T) (hr.mono (by decide)) T.b_History_names (pass0S (E := fun _ => E0))) (pe_callB (cr_sortA K rfl) (by rfl) T.m_sorted (by decide +kernel) (pa_cons (pe_op (op_addK K) (pv 2) (pe_lst (pa_cons pe_str (pa_cons (pv 6) pa_nil)))) pa_nil)) (nomark _)) (pss_one (ps_ret pe_bl)) pss_nil)
      (pss_cons (ps_if (PW.pt (pw_or (pt_cmpR (op_neM K hr.units) (pe_methW (pv 5) T.cl_History T.M_History_tree (ok_History_tree T) (hr.mono (by decide)) T.b_History_tree passNS (pa_cons pe_str pa_nil)) (pe_disp (pps_cons pe_str (pe_lst (pa_cons pe_str pa_nil)) pps_nil) rfl rfl (fun h => nomatch h) (by decide)) (nomark _)) (pw_or1 (pt_cmpR (op_neM K hr.units) (pe_methW (pv 5) T.cl_History T.M_History_tree (ok_History_tree T) (hr.mono (by decide)) T.b_History_tree passNS (pa_cons (pv 6) pa_nil)) (pe_disp (pps_cons pe_str (pe_lst (pa_cons pe_str pa_nil)) pps_nil) rfl rfl (fun h => nomatch h) (by decide)) (nomark _))))) (pss_one (ps_ret pe_bl)) pss_nil)
      (pss_cons (ps_if (pt_cmpR (op_neM K hr.units) (pe_methW (pv 5) T.cl_History T.M_History_origins (ok_History_origins T) (hr.mono (by decide)) T.b_History_origins passNS (pa_cons (pv 6) pa_nil)) (pe_disp (pps_cons pe_str (pe_lst (pa_cons (pv 6) pa_nil)) pps_nil) rfl rfl (fun h => nomatch h) (by decide)) (nomark _)) (pss_one (ps_ret pe_bl)) pss_nil)
      (pss_cons (ps_asg (pe_lst pa_nil) (pg_sub (pv 3) (pv 7) (set_any (hu_of hr))))
      (pss_cons (ps_asg (pe_lst (pa_cons (pv 7) pa_nil)) (pg_sub (pv 3) (pv 6) (set_any (hu_of hr))))
      (pss_cons (ps_asg (pe_disp (pps_cons pe_str (pe_lst pa_nil) pps_nil) rfl rfl (fun h => nomatch h) (by decide)) (pg_sub (pv 4) (pv 7) (set_any (hu_of hr))))
      (pss_cons (ps_asg pe_dnewK (pg_sub (pv 4) (pv 6) (set_any (hu_of hr))))
      (pss_cons (ps_set (i := 2) sc_l_ended.nd rfl (.inr rfl) (pe_op (op_addK K) (pv 2) (pe_lst (pa_cons (pv 7) (pa_cons (pv 6) pa_nil)))))
      (pss_one (ps_ret (pe_call (ok_l_shown T) (hr.mono (by decide)) (by rfl) T.g_l_shown T.F_l_shown.kp T.b_l_shown .nil pass0 (pa_cons (pv 0) (pa_cons (pv 1) (pa_cons (pv 2) (pa_cons (pv 3) (pa_cons (pv 4) pa_nil)))))))))))))))))))))))))), ?_⟩
  obtain ⟨A, F, nm, kp, pd, td, names, D, rfl, h, f, few, q⟩ := h
  refine g_start (σ' := [some (.ref A.h), some (.ref nm), some (.ref kp), some (.ref pd), some (.ref td), none, none, none, none]) rfl ?_
  have hiA : ∀ {F' H' : Hp} {nl : Addr} {kvs tk ok : List (Key × V)} {R : Own}, Has F' (HisO T A nl kvs tk ok ++ R) H' → H' A.h = some (.ins T.C_History A.x (hs_ A.o A.tr A.og A.tu)) := fun h => h.get (List.mem_append_left _ (by unfold HisO; walk_at "m"))
  walk_at "gg"
  refine g_kmeth (hiA h) rfl ?_
  walk_at "gg"
  refine ⟨A, D.nl, D.kvs, D.tk, D.ok, F, D.rows, D.ts, D.os, rfl, h.sub (List.sublist_append_left _ _), f.his, fun B nlB kB H1 F1 ys etu s1 h1 okB ay my => ?_⟩
  obtain ⟨s2, h2⟩ := Has.both h s1 h1
  have okB : OrdOk (rmO (HisO T A D.nl D.kvs D.tk D.ok ++ LR kp pd td D) F1) nlB kB (rstL D.rows ys ys) := okB.mono fun b u e => by
    have e2 := nw_same _ _ e
    unfold rmO
    rw [if_neg fun m => ?_]
    · exact e2
    · obtain ⟨q, hq, rfl⟩ := List.mem_map.mp m
      rw [nw_old (h.own q hq).2] at e
      cases e
  generalize rmO (HisO T A D.nl D.kvs D.tk D.ok ++ LR kp pd td D) F1 = F2 at s2 h2 okB
  have und := rst_all f.wr my
  have knB : kn (rstL D.rows ys ys) = kn D.rows := by
    funext z
    unfold kn
    rw [und]
  have pm : List.Perm (D.rows.map (·.1)) ((rstL D.rows ys ys).map (·.1)) := by
    rw [rstL_names]
    exact (List.perm_ext_iff_of_nodup f.his.ord.nd ay.nodup).mpr fun z => (my z).symm
  have fB : HisF F2 nlB kB D.tk D.ok (rstL D.rows ys ys) D.ts D.os := ⟨okB, f.his.tr.mono s2, f.his.og.mono s2, f.his.nt.trans pm, f.his.no.trans pm⟩
  have f2 := f.mono s2
  have h2 : Has F2 (HisO T A D.nl D.kvs D.tk D.ok ++ (HisO T B nlB kB D.tk D.ok ++ LR kp pd td D)) H1 := h2.perm (by
    rw [List.append_assoc]
    exact List.perm_append_comm.append_left _)
  clear h h1 s1 okB
  have atA : HisAt T H1 A D.rows D.ts D.os := HisF.at f2.his h2
  have atB : HisAt T H1 B (rstL D.rows ys ys) D.ts D.os := HisF.at fB (h2.perm (own3 _ _ _).symm)
  walk_at "gg"
  refine g_kmeth atB.i rfl ?_
  walk_at "gg"
  refine ⟨B, _, D.ts, D.os, rfl, atB, (by rw [etu]; exact h2.same _ _ f2.tu), (fun z t e => (f.okts z t e).2), (fun z t e => (f.okos z t e).2), fun p3 H3 rs3 s3 d3 fs3 => ?_⟩
  walk_at "gg"
  refine g_kmeth (s3 _ _ atA.i) rfl ?_
  walk_at "gg"
  refine ⟨A, D.rows, D.ts, D.os, rfl, atA.mono s3, s3 _ _ (h2.same _ _ f2.tu), (fun z t e => (f.okts z t e).2), (fun z t e => (f.okos z t e).2), fun p4 H4 rs4 s4 d4 fs4 => ?_⟩
  have ers : rs3 = rs4 := fs3.ext und fs4
  subst ers
  have shf := sh_facts fs4 (fun z hz => f.ok z (by rw [← f.wr.nms]; exact hz)) f.wr.sub (fun z t e => (f.okts z t e).1) (fun z t e => (f.okos z t e).1)
  refine .inl (g_neD (d3.up s4 _ _) d4 (shf.ok (by decide)) (shf.ok (by decide)) ?_)
  rw [SeqAt.eqv_refl _ shf.1]
  have h4 : Has F2 (HisO T A D.nl D.kvs D.tk D.ok ++ (HisO T B nlB kB D.tk D.ok ++ LR kp pd td D)) H4 := Has.up h2 (h2.same.trans (s3.trans s4)) (s3.trans s4) fun p hp => (h2.own p hp).1
  clear h2 atA atB d3 d4 fs3 fs4 shf
  have kAt : ∀ {F' H' : Hp} {X Y : Own}, Has F' (X ++ (Y ++ LR kp pd td D)) H' → H' kp = some (.lst ((D.PS.map (·.1)).map V.str)) := fun h => h.get (List.mem_append_right _ (List.mem_append_right _ (List.Mem.head _)))
  have lk : (D.PS.map (·.1)).length ≤ 7 := by rw [List.length_map]; exact few
  obtain ⟨one, two, rest, efr, ne12⟩ := fresh2 f.nok f.wr.nd lk
  have m1 : one ∈ names ∧ one ∉ D.PS.map (·.1) := by
    have : one ∈ names.filter fun x => !decide (x ∈ D.PS.map (·.1)) := by rw [efr]; exact List.mem_cons_self
    have := List.mem_filter.mp this
    simpa using this
  have m2 : two ∈ names ∧ two ∉ D.PS.map (·.1) := by
    have : two ∈ names.filter fun x => !decide (x ∈ D.PS.map (·.1)) := by rw [efr]; exact List.mem_cons_of_mem _ List.mem_cons_self
    have := List.mem_filter.mp this
    simpa using this
  have lnm := f.nok.len
  generalize hO : HisO T A D.nl D.kvs D.tk D.ok ++ (HisO T B nlB kB D.tk D.ok ++ LR kp pd td D) = O4 at h4
  have mO : (kp, HO.lst ((D.PS.map (·.1)).map V.str)) ∈ O4 := by
    rw [← hO]
    exact List.mem_append_right _ (List.mem_append_right _ (List.Mem.head _))
  have isnm : ∀ {z : Str}, z ∈ names → isNm z = true ∧ PyData.strOk z = true ∧ z ≠ "strang" := fun {z} hz => f.nok.nm z hz
  -- the names that are not there
  walk_at "gg"
  refine k_lcL (h4.same _ _ f2.nm) h4 (fun i acc F' O' => acc = ((names.take i).filter fun x => !decide (x ∈ D.PS.map (·.1))).map V.str ∧ F' = F2 ∧ O' = O4) ⟨rfl, rfl, rfl⟩ ?_ ?_ ?_
  · rintro i acc F' O' H5 ⟨_, rfl, rfl⟩ hh
    exact hh.same _ _ f2.nm
  · rintro i v acc F' O' D5 H5 hv ⟨rfl, rfl, rfl⟩ hh
    obtain ⟨y, hy, rfl⟩ := str_at hv
    have lj := (List.getElem?_eq_some_iff.mp hy).1
    walk_at "gg"
    refine g_notinM (g_notinFL (hh.get (List.mem_cons_of_mem _ mO)) rfl (flat_strs _) ?_)
    rw [inV_strs]
    walk_at "gg"
    have st : (names.take (i + 1)).filter (fun x => !decide (x ∈ D.PS.map (·.1))) = (names.take i).filter (fun x => !decide (x ∈ D.PS.map (·.1))) ++ [y].filter (fun x => !decide (x ∈ D.PS.map (·.1))) := by
      rw [List.take_add_one, hy, List.filter_append]
      rfl
    refine i_n (fun ne => ?_) (fun e => ?_)
    · walk_at "gg"
      refine k_turn hh ?_ ⟨?_, rfl, rfl⟩
      · rw [List.length_map]
        have := List.length_filter_le (fun x => !decide (x ∈ D.PS.map (·.1))) (names.take i)
        rw [List.length_take] at *
        omega
      · rw [st, List.map_append, List.filter_cons_of_pos (by simpa using ne)]
        rfl
    · refine k_skip hh ⟨?_, rfl, rfl⟩
      rw [st, List.filter_cons_of_neg (by simpa using e), List.filter_nil, List.append_nil]
  rintro acc F' O' D5 H5 ⟨rfl, eF, eO⟩ h5
  rw [eF, eO, List.length_map, List.take_length, efr] at h5
  clear eF eO F' O'
  walk_at "gg"
  refine g_ixL (v := .str one) (h5.get (List.Mem.head _)) (atI_nat (j := 0) rfl) ?_
  have h5 := h5.drop
  walk_at "gg"
  refine k_lcL (h5.same _ _ f2.nm) h5 (fun i acc F' O' => acc = ((names.take i).filter fun x => !decide (x ∈ D.PS.map (·.1))).map V.str ∧ F' = F2 ∧ O' = O4) ⟨rfl, rfl, rfl⟩ ?_ ?_ ?_
  · rintro i acc F' O' H6 ⟨_, rfl, rfl⟩ hh
    exact hh.same _ _ f2.nm
  · rintro i v acc F' O' D6 H6 hv ⟨rfl, rfl, rfl⟩ hh
    obtain ⟨y, hy, rfl⟩ := str_at hv
    have lj := (List.getElem?_eq_some_iff.mp hy).1
    walk_at "gg"
    refine g_notinM (g_notinFL (hh.get (List.mem_cons_of_mem _ mO)) rfl (flat_strs _) ?_)
    rw [inV_strs]
    walk_at "gg"
    have st : (names.take (i + 1)).filter (fun x => !decide (x ∈ D.PS.map (·.1))) = (names.take i).filter (fun x => !decide (x ∈ D.PS.map (·.1))) ++ [y].filter (fun x => !decide (x ∈ D.PS.map (·.1))) := by
      rw [List.take_add_one, hy, List.filter_append]
      rfl
    refine i_n (fun ne => ?_) (fun e => ?_)
    · walk_at "gg"
      refine k_turn hh ?_ ⟨?_, rfl, rfl⟩
      · rw [List.length_map]
        have := List.length_filter_le (fun x => !decide (x ∈ D.PS.map (·.1))) (names.take i)
        rw [List.length_take] at *
        omega
      · rw [st, List.map_append, List.filter_cons_of_pos (by simpa using ne)]
        rfl
    · refine k_skip hh ⟨?_, rfl, rfl⟩
      rw [st, List.filter_cons_of_neg (by simpa using e), List.filter_nil, List.append_nil]
  rintro acc F' O' D6 H6 ⟨rfl, eF, eO⟩ h6
  rw [eF, eO, List.length_map, List.take_length, efr] at h6
  clear eF eO F' O'
  walk_at "gg"
  refine g_ixL (v := .str two) (h6.get (List.Mem.head _)) (atI_nat (j := 1) rfl) ?_
  have h6 := h6.drop
  subst hO
  have hiB : ∀ {F' H' : Hp} {nl : Addr} {kvs tk ok : List (Key × V)} {X R : Own}, Has F' (X ++ (HisO T B nl kvs tk ok ++ R)) H' → H' B.h = some (.ins T.C_History B.x (hs_ B.o B.tr B.og B.tu)) := fun h => h.get (List.mem_append_right _ (List.mem_append_left _ (by unfold HisO; walk_at "m")))
  have swp : ∀ {F' H' : Hp} {X Y R : Own}, Has F' (X ++ (Y ++ R)) H' → Has F' (Y ++ (X ++ R)) H' := fun {F' H' X Y R} h => h.perm (own3 Y X R)
  have nk1 : kn D.rows one = false := by
    cases c : kn D.rows one with
    | false => rfl
    | true => exact (m1.2 ((f.mem one).mpr c)).elim
  have nk2 : kn D.rows two = false := by
    cases c : kn D.rows two with
    | false => rfl
    | true => exact (m2.2 ((f.mem two).mpr c)).elim
  have nkS : kn D.rows "strang" = false := f.no3 _ (by decide +kernel)
  have lrB : (rstL D.rows ys ys).length ≤ 20 := by
    have := f.wr.few
    have l1 := pm.length_eq
    have l2 := congrArg List.length f.wr.nms
    rw [List.length_map, List.length_map] at l1 l2
    omega
  have lrA : D.rows.length ≤ 7 := by
    have l2 := congrArg List.length f.wr.nms
    rw [List.length_map, List.length_map] at l2
    omega
  -- the twin: strang
  walk_at "gg"
  refine g_kmeth (hiB h6) rfl ?_
  walk_at "gg"
  refine g_slM (g_slL (kAt h6) h6 (fun p7 H7 n7 h7 => ?_))
  obtain ⟨ls, els, sls⟩ := cut_sub (D.PS.map (·.1)) (some (-1)) none
  have l1 := cut1 ((D.PS.map (·.1)).map V.str)
  rw [els] at h7 l1
  rw [List.length_map] at l1
  walk_at "gg"
  refine g_listL (h7.get (List.Mem.head _)) h7 (fun p8 H8 n8 h8 => ?_)
  have h8 := h8.sub (O' := (p8, .lst (ls.map V.str)) :: (HisO T A D.nl D.kvs D.tk D.ok ++ (HisO T B nlB kB D.tk D.ok ++ LR kp pd td D))) (.cons_cons _ (.cons _ (List.Sublist.refl _)))
  have s8 := h8.grow
  have e8 : upd F2 p8 (.lst (ls.map V.str)) p8 = some (.lst (ls.map V.str)) := upd_same
  have h8 := h8.frz
  generalize upd F2 p8 (.lst (ls.map V.str)) = F8 at h8 s8 e8
  walk_at "gg"
  refine g_disp1 h8 (fun p9 H9 n9 h9 => ?_)
  walk_at "gg"
  refine g_klstF (by walk_at "sz") h9 (fun p10 H10 F10 n10 s10 e10 h10 => ?_)
  walk_at "gg"
  refine g_kdisp1 (k := .inr "f") h10 rfl (fun H11 h11 => ?_)
  have s11 : Same F10 (upd F10 p9 (.dK [(kS "f", .ref p10)])) := h11.grow
  have e11 : upd F10 p9 (.dK [(kS "f", .ref p10)]) p9 = some (.dK [(kS "f", .ref p10)]) := upd_same
  have h11 : Has (upd F10 p9 (.dK [(kS "f", .ref p10)])) _ H11 := h11.frz
  generalize upd F10 p9 (.dK [(kS "f", .ref p10)]) = F11 at h11 s11 e11
  have t11 : TrAt F11 p9 (fTr ["a"]) := mkTr1 e11 (s11 _ _ e10)
  have s2_11 := (s8.trans s10).trans s11
  have ga : TrG (fTr ["a"]) := fTr_g ⟨by decide, fun l hl => by rw [List.mem_singleton.mp hl]; exact a_all⟩
  have gb : TrG (fTr ["b"]) := fTr_g ⟨by decide, fun l hl => by rw [List.mem_singleton.mp hl]; exact b_all⟩
  have g0 : TrG (fTr []) := fTr_g ⟨by decide, fun l hl => by cases hl⟩
  have us1 : ∀ y, y ∈ (["f"] : List Str) ↔ y ∈ (fTr ["a"]).map (·.1) := fun y => Iff.rfl
  have ndls : ls.Nodup := by
    match ls, l1 with
    | [], _ => exact List.nodup_nil
    | [y], _ => exact List.nodup_cons.mpr ⟨List.not_mem_nil, List.nodup_nil⟩
  have coS : ComOk (rstL D.rows ys ys) "strang" ls (fTr ["a"]) ["f"] := ⟨strang_nm, by rw [knB]; exact nkS, by
    rw [knB]
    exact chkE_all ndls (fun z _ m => by cases m) fun z hz => (f.mem z).mp (sls z hz), by decide +kernel⟩
  walk_at "gg"
  refine commitM_use (R := HisO T A D.nl D.kvs D.tk D.ok ++ LR kp pd td D) (swp h11) (fB.mono s2_11) f.vs (h11.same _ _ ((s10.trans s11) _ _ e8)) (t11.up h11.same) (ga.trb (by decide)) ga.ltx (asc1 "f") us1 (by decide) (by omega) (by omega) coS (fun H12 F12 nlC kC us12 d12 e12 t12 ao12 s12 h12 fC pu12 => ?_)
  have et12 : t12 = fTr ["a"] := ascOf1 ao12
  subst et12
  have vC := f.vs.snoc (z := "strang") (t := fTr ["a"]) (by rw [f.tk, f.mem, nkS]; exact fun c => by cases c) ga.nd (fun p hp => ⟨ga.ltx p hp, fun l hl => allL_ok _ ((ga.tx p hp).2 l hl)⟩) (by decide +kernel) ls
  have h12 : Has F12 (HisO T B nlC kC (D.tk ++ [(kS "strang", .ref d12)]) (D.ok ++ [(kS "strang", .ref e12)]) ++ (HisO T A D.nl D.kvs D.tk D.ok ++ LR kp pd td D)) H12 := h12
  generalize D.tk ++ [(kS "strang", .ref d12)] = tkC at h12 fC
  generalize D.ok ++ [(kS "strang", .ref e12)] = okC at h12 fC
  -- the twin: one
  walk_at "gg"
  refine g_kmeth (his_i h12) rfl ?_
  walk_at "gg"
  refine g_klstF (by walk_at "sz") h12 (fun p13 H13 F13 n13 s13 e13 h13 => ?_)
  walk_at "gg"
  refine g_disp1 h13 (fun p14 H14 n14 h14 => ?_)
  walk_at "gg"
  refine g_klstF (by walk_at "sz") h14 (fun p15 H15 F15 n15 s15 e15 h15 => ?_)
  walk_at "gg"
  refine g_kdisp1 (k := .inr "f") h15 rfl (fun H16 h16 => ?_)
  have s16 : Same F15 (upd F15 p14 (.dK [(kS "f", .ref p15)])) := h16.grow
  have e16 : upd F15 p14 (.dK [(kS "f", .ref p15)]) p14 = some (.dK [(kS "f", .ref p15)]) := upd_same
  have h16 : Has (upd F15 p14 (.dK [(kS "f", .ref p15)])) _ H16 := h16.frz
  generalize upd F15 p14 (.dK [(kS "f", .ref p15)]) = F16 at h16 s16 e16
  have t16 : TrAt F16 p14 (fTr ["b"]) := mkTr1 e16 (s16 _ _ e15)
  have s12_16 := (s13.trans s15).trans s16
  have nC1 : kn (rstL D.rows ys ys ++ [(("strang" : Str), us12)]) one = false := by
    unfold kn
    rw [undr_app, und]
    have : undr D.rows one = none := by
      unfold kn at nk1
      cases c : undr D.rows one with
      | none => rfl
      | some u => rw [c] at nk1; cases nk1
    rw [this]
    show (if ("strang" : Str) = one then some us12 else none).isSome = false
    rw [if_neg fun e => (isnm m1.1).2.2 e.symm]
    rfl
  have lrC : (rstL D.rows ys ys ++ [(("strang" : Str), us12)]).length ≤ 21 := by
    rw [List.length_append]
    show _ + 1 ≤ 21
    omega
  have l6 : ∀ z, z ∈ names → z.length ≤ 10000 := fun z hz => by
    have := (isNm_iff.mp (isnm hz).1).l2
    omega
  walk_at "gg"
  refine commitM_use (ps := []) (R := HisO T A D.nl D.kvs D.tk D.ok ++ LR kp pd td D) h16 (fC.mono s12_16) vC (h16.same _ _ ((s15.trans s16) _ _ e13)) (t16.up h16.same) (gb.trb (by decide)) gb.ltx (asc1 "f") us1 (l6 one m1.1) (by decide) (by omega) ⟨(isnm m1.1).1, nC1, rfl, by decide +kernel⟩ (fun H17 F17 nlE kE us17 d17 e17 t17 ao17 s17 h17 fE pu17 => ?_)
  have et17 : t17 = fTr ["b"] := ascOf1 ao17
  subst et17
  have h17 : Has F17 (HisO T B nlE kE (tkC ++ [(kS one, .ref d17)]) (okC ++ [(kS one, .ref e17)]) ++ (HisO T A D.nl D.kvs D.tk D.ok ++ LR kp pd td D)) H17 := h17
  generalize tkC ++ [(kS one, .ref d17)] = tkE at h17 fE
  generalize okC ++ [(kS one, .ref e17)] = okE at h17 fE
  have h17 := swp h17
  have fA17 := (((f2.mono s2_11).mono s12).mono s12_16).mono s17
  -- the history: one wants two
  walk_at "gg"
  refine g_klstF (by walk_at "sz") h17 (fun p18 H18 F18 n18 s18 e18 h18 => ?_)
  walk_at "gg"
  refine g_dnewK h18 (fun p19 H19 n19 h19 => ?_)
  have s19 := h19.grow
  have e19 : upd F18 p19 (.dK []) p19 = some (.dK []) := upd_same
  have h19 := h19.frz
  generalize upd F18 p19 (.dK []) = F19 at h19 s19 e19
  walk_at "gg"
  have fA19 := (fA17.mono s18).mono s19
  refine commitR_use (ps := [two]) (us := []) (R := HisO T B nlE kE tkE okE ++ LR kp pd td D) h19 fA19.his f.vs (h19.same _ _ (s19 _ _ e18)) ((mkTr0 e19).up h19.same) (TrG.nil.trb (by decide)) TrG.nil.ltx List.Pairwise.nil (fun y => Iff.rfl) (l6 one m1.1) (by show 1 ≤ 50; decide) (by omega) (fun v F20 H20 nl20 k20 tk20 ok20 rows20 ts20 os20 s20 h20 f20 dv alt => ?_)
  have bad : ¬ ComOk D.rows one [two] [] [] := fun c => by
    have := c.ck
    unfold chkE at this
    rw [if_neg (by rw [nk2]; decide)] at this
    cases this
  have edue : dueD (kn D.rows) one [two] [] [] = dueN "Unknown" two := by
    unfold dueD
    rw [if_pos (isnm m1.1).1, if_neg (by rw [nk1]; decide)]
    unfold chkE
    rw [if_neg (by rw [nk2]; decide)]
  rw [edue] at dv
  obtain ⟨er, et, eo⟩ : rows20 = D.rows ∧ ts20 = D.ts ∧ os20 = D.os := alt.elim (fun x => x.2) (fun x => (bad x.1).elim)
  subst er et eo
  have fA20 := fA19.mono s20
  have ok2 := (isnm m2.1).2.1
  have ok1 := (isnm m1.1).2.1
  walk_at "gg"
  refine g_ktup (by walk_at "sz") (Has.start H20) (fun p21 H21 n21 h21 => ?_)
  refine .inl (g_neD (dv.up h21.same _ _) (dq_nm (h21.get (List.Mem.head _))) (sh_nm (by decide +kernel) ok2) (sh_nm (by decide +kernel) ok2) ?_)
  rw [eqv_nm]
  have h21 := h20.on h21.same
  -- two
  walk_at "gg"
  refine g_klstF (by walk_at "sz") h21 (fun p22 H22 F22 n22 s22 e22 h22 => ?_)
  walk_at "gg"
  refine g_disp1 h22 (fun p23 H23 n23 h23 => ?_)
  walk_at "gg"
  refine g_klstF (by walk_at "sz") h23 (fun p24 H24 F24 n24 s24 e24 h24 => ?_)
  walk_at "gg"
  refine g_kdisp1 (k := .inr "f") h24 rfl (fun H25 h25 => ?_)
  have s25 : Same F24 (upd F24 p23 (.dK [(kS "f", .ref p24)])) := h25.grow
  have e25 : upd F24 p23 (.dK [(kS "f", .ref p24)]) p23 = some (.dK [(kS "f", .ref p24)]) := upd_same
  have h25 : Has (upd F24 p23 (.dK [(kS "f", .ref p24)])) _ H25 := h25.frz
  generalize upd F24 p23 (.dK [(kS "f", .ref p24)]) = F25 at h25 s25 e25
  have t25 : TrAt F25 p23 (fTr []) := mkTr1 e25 (s25 _ _ e24)
  have s22_25 := (s22.trans s24).trans s25
  have l25 := (s24.trans s25) _ _ e22
  have fA25 := fA20.mono s22_25
  walk_at "gg"
  refine commitR_use (ps := []) (us := ["f"]) (R := HisO T B nlE kE tkE okE ++ LR kp pd td D) h25 (f20.mono s22_25) f.vs (h25.same _ _ l25) (t25.up h25.same) (g0.trb (by decide)) g0.ltx (asc1 "f") us1 (l6 two m2.1) (by decide) (by omega) (fun v F26 H26 nl26 k26 tk26 ok26 rows26 ts26 os26 s26 h26 f26 dv alt => ?_)
  have co2 : ComOk D.rows two [] (fTr []) ["f"] := ⟨(isnm m2.1).1, nk2, rfl, by decide +kernel⟩
  obtain ⟨us2, t2, ao2, er, et, eo, pu2⟩ : ∃ us' t', AscOf (fTr []) t' ∧ rows26 = D.rows ++ [(two, us')] ∧ ts26 = D.ts ++ [(two, t')] ∧ os26 = D.os ++ [(two, orgOf D.ts D.os two [] t')] ∧ PutU D.rows two [] us' := alt.elim (fun x => (x.1 co2).elim) (fun x => x.2)
  subst er et eo
  rw [co2.due] at dv
  have LF1 := LF.snoc fA25 s26 co2 ao2 pu2 f26 ((fA25.mono s26).tv.snoc (Dq.strs (xs := []) (s26 _ _ l25))) ((fA25.mono s26).tl.snoc (t25.up s26)) m2.1 g0 (by decide) (by decide) (by omega)
  walk_at "gg"
  refine g_ktup (by walk_at "sz") (Has.start H26) (fun p27 H27 n27 h27 => ?_)
  refine .inl (g_neD (dv.up h27.same _ _) (dq_told (h27.get (List.Mem.head _))) (sh_told.ok (by decide)) (sh_told.ok (by decide)) ?_)
  rw [SeqAt.eqv_refl _ sh_told.1]
  have h27 := h26.on h27.same
  generalize eD1 : (⟨nl26, k26, tk26, ok26, D.pk ++ [(kS two, .ref p22)], D.tdk ++ [(kS two, .ref p23)], D.rows ++ [(two, us2)], D.ts ++ [(two, t2)], D.os ++ [(two, orgOf D.ts D.os two [] t2)], D.lts ++ [(two, fTr [])], D.PS ++ [(two, [])]⟩ : LD) = D1 at LF1
  have h27 : Has F26 (HisO T A D1.nl D1.kvs D1.tk D1.ok ++ (HisO T B nlE kE tkE okE ++ LR kp pd td D)) H27 := by rw [← eD1]; exact h27
  have eP1 : D1.PS = D.PS ++ [(two, [])] := by rw [← eD1]
  have el1 : D1.lts = D.lts ++ [(two, fTr [])] := by rw [← eD1]
  have lr1 : D1.rows.length ≤ 8 := by
    rw [← eD1]
    show (D.rows ++ [(two, us2)]).length ≤ 8
    rw [List.length_append]
    show _ + 1 ≤ 8
    omega
  have mem1 : ∀ y, y ∈ D1.PS.map (·.1) ↔ y ∈ D.PS.map (·.1) ∨ y = two := fun y => by
    rw [eP1, List.map_append, List.mem_append]
    exact or_congr_right List.mem_singleton
  have k1one : kn D1.rows one = false := by
    cases c : kn D1.rows one with
    | false => rfl
    | true =>
      rcases (mem1 one).mp ((LF1.mem one).mpr c) with h | h
      · exact (m1.2 h).elim
      · exact (ne12 h).elim
  have k1two : kn D1.rows two = true := (LF1.mem two).mp ((mem1 two).mpr (.inr rfl))
  clear eD1
  -- one, now that two is there
  walk_at "gg"
  refine g_klstF (by walk_at "sz") h27 (fun p28 H28 F28 n28 s28 e28 h28 => ?_)
  walk_at "gg"
  refine g_dnewK h28 (fun p29 H29 n29 h29 => ?_)
  have s29 := h29.grow
  have e29 : upd F28 p29 (.dK []) p29 = some (.dK []) := upd_same
  have h29 := h29.frz
  generalize upd F28 p29 (.dK []) = F29 at h29 s29 e29
  have L29 := (LF1.mono s28).mono s29
  walk_at "gg"
  refine commitR_use (ps := [two]) (us := []) (R := HisO T B nlE kE tkE okE ++ LR kp pd td D) h29 L29.his L29.vs (h29.same _ _ (s29 _ _ e28)) ((mkTr0 e29).up h29.same) (TrG.nil.trb (by decide)) TrG.nil.ltx List.Pairwise.nil (fun y => Iff.rfl) (l6 one m1.1) (by show 1 ≤ 50; decide) (by omega) (fun v F30 H30 nl30 k30 tk30 ok30 rows30 ts30 os30 s30 h30 f30 dv alt => ?_)
  have co1 : ComOk D1.rows one [two] [] [] := ⟨(isnm m1.1).1, k1one, by
    unfold chkE
    rw [if_pos k1two, if_neg (fun h => by cases h)]
    rfl, rfl⟩
  obtain ⟨us1', t1', ao1, er, et, eo, pu1⟩ : ∃ us' t', AscOf [] t' ∧ rows30 = D1.rows ++ [(one, us')] ∧ ts30 = D1.ts ++ [(one, t')] ∧ os30 = D1.os ++ [(one, orgOf D1.ts D1.os one [two] t')] ∧ PutU D1.rows one [two] us' := alt.elim (fun x => (x.1 co1).elim) (fun x => x.2)
  subst er et eo
  rw [co1.due] at dv
  have LF2 := LF.snoc L29 s30 co1 ao1 pu1 f30 ((L29.mono s30).tv.snoc (Dq.strs (xs := [two]) (s30 _ _ (s29 _ _ e28)))) ((L29.mono s30).tl.snoc ((mkTr0 e29).up s30)) m1.1 TrG.nil (by decide) (by show 1 ≤ 6; decide) (by rw [eP1, List.length_append]; show _ + 1 < 20; omega)
  walk_at "gg"
  refine g_ktup (by walk_at "sz") (Has.start H30) (fun p31 H31 n31 h31 => ?_)
  refine .inl (g_neD (dv.up h31.same _ _) (dq_told (h31.get (List.Mem.head _))) (sh_told.ok (by decide)) (sh_told.ok (by decide)) ?_)
  rw [SeqAt.eqv_refl _ sh_told.1]
  have h31 := h30.on h31.same
  generalize eD2 : (⟨nl30, k30, tk30, ok30, D1.pk ++ [(kS one, .ref p28)], D1.tdk ++ [(kS one, .ref p29)], D1.rows ++ [(one, us1')], D1.ts ++ [(one, t1')], D1.os ++ [(one, orgOf D1.ts D1.os one [two] t1')], D1.lts ++ [(one, [])], D1.PS ++ [(one, [two])]⟩ : LD) = D2 at LF2
  have h31 : Has F30 (HisO T A D2.nl D2.kvs D2.tk D2.ok ++ (HisO T B nlE kE tkE okE ++ LR kp pd td D)) H31 := by rw [← eD2]; exact h31
  have eP2 : D2.PS = D.PS ++ [(two, [])] ++ [(one, [two])] := by rw [← eD2, ← eP1]
  have el2 : D2.lts = D.lts ++ [(two, fTr [])] ++ [(one, [])] := by rw [← eD2, ← el1]
  have lr2 : D2.rows.length ≤ 9 := by
    rw [← eD2]
    show (D1.rows ++ [(one, us1')]).length ≤ 9
    rw [List.length_append]
    show _ + 1 ≤ 9
    omega
  have k2one : kn D2.rows one = true := (LF2.mem one).mp (by
    rw [eP2, List.map_append]
    exact List.mem_append_right _ (List.mem_singleton.mpr rfl))
  clear eD2 LF1 L29
  -- one is taken
  walk_at "gg"
  refine g_klstF (by walk_at "sz") h31 (fun p32 H32 F32 n32 s32 e32 h32 => ?_)
  walk_at "gg"
  refine g_dnewK h32 (fun p33 H33 n33 h33 => ?_)
  have s33 := h33.grow
  have e33 : upd F32 p33 (.dK []) p33 = some (.dK []) := upd_same
  have h33 := h33.frz
  generalize upd F32 p33 (.dK []) = F33 at h33 s33 e33
  have L33 := (LF2.mono s32).mono s33
  walk_at "gg"
  refine commitR_use (ps := [two]) (us := []) (R := HisO T B nlE kE tkE okE ++ LR kp pd td D) h33 L33.his L33.vs (h33.same _ _ (s33 _ _ e32)) ((mkTr0 e33).up h33.same) (TrG.nil.trb (by decide)) TrG.nil.ltx List.Pairwise.nil (fun y => Iff.rfl) (l6 one m1.1) (by show 1 ≤ 50; decide) (by omega) (fun v F34 H34 nl34 k34 tk34 ok34 rows34 ts34 os34 s34 h34 f34 dv alt => ?_)
  have bad2 : ¬ ComOk D2.rows one [two] [] [] := fun c => by
    have := c.fr
    rw [k2one] at this
    cases this
  have edue2 : dueD (kn D2.rows) one [two] [] [] = dueN "Taken" one := by
    unfold dueD
    rw [if_pos (isnm m1.1).1, if_pos k2one]
  rw [edue2] at dv
  obtain ⟨er, et, eo⟩ : rows34 = D2.rows ∧ ts34 = D2.ts ∧ os34 = D2.os := alt.elim (fun x => x.2) (fun x => (bad2 x.1).elim)
  subst er et eo
  have L34 : LF F34 A nm names ⟨nl34, k34, tk34, ok34, D2.pk, D2.tdk, D2.rows, D2.ts, D2.os, D2.lts, D2.PS⟩ := by
    have L := L33.mono s34
    exact ⟨f34, L.vs, L.tv, L.tl, L.lk, L.tk, L.wr, L.l6, L.kin, L.tr, L.nm, L.nok, L.tu⟩
  walk_at "gg"
  refine g_ktup (by walk_at "sz") (Has.start H34) (fun p35 H35 n35 h35 => ?_)
  refine .inl (g_neD (dv.up h35.same _ _) (dq_nm (h35.get (List.Mem.head _))) (sh_nm (by decide +kernel) ok1) (sh_nm (by decide +kernel) ok1) ?_)
  rw [eqv_nm]
  have h35 := h34.on h35.same
  -- the twin's names
  have sC_35 := ((((((((s18.trans s19).trans s20).trans s22_25).trans s26).trans s28).trans s29).trans s30).trans s32).trans (s33.trans s34)
  have fE35 := fE.mono sC_35
  have atE := HisF.at fE35 (swp h35)
  have nPS : ("strang" : Str) ∉ D.PS.map (·.1) := fun m => by
    have := (f.mem _).mp m
    rw [nkS] at this
    cases this
  have ne1S : one ≠ "strang" := (isnm m1.1).2.2
  have gS : getL (D.ts ++ [(("strang" : Str), fTr ["a"])] ++ [(one, fTr ["b"])]) "strang" = some (fTr ["a"]) := by
    rw [getL_snoc, getL_snoc, getL_none.mpr (by rw [f.tk]; exact nPS), if_pos rfl]
    rfl
  have gO : getL (D.ts ++ [(("strang" : Str), fTr ["a"])] ++ [(one, fTr ["b"])]) one = some (fTr ["b"]) := by
    rw [getL_snoc, getL_snoc, getL_none.mpr (by rw [f.tk]; exact m1.2), if_neg (fun e => ne1S e.symm), if_pos rfl]
    rfl
  have gG : getL (D.os ++ [(("strang" : Str), orgOf D.ts D.os "strang" ls (fTr ["a"]))] ++ [(one, orgOf (D.ts ++ [(("strang" : Str), fTr ["a"])]) (D.os ++ [(("strang" : Str), orgOf D.ts D.os "strang" ls (fTr ["a"]))]) one [] (fTr ["b"]))]) one = some (fTr [one]) := by
    rw [getL_snoc, getL_snoc, getL_none.mpr (by rw [← f.vs.keys, f.tk]; exact m1.2), if_neg (fun e => ne1S e.symm), if_pos rfl]
    rfl
  have knS : kn (rstL D.rows ys ys ++ [(("strang" : Str), us12)] ++ [(one, us17)]) "strang" = true := by
    rw [knM, List.map_append, List.map_append]
    exact List.mem_append_left _ (List.mem_append_right _ (List.mem_singleton.mpr rfl))
  have kO : kn (rstL D.rows ys ys ++ [(("strang" : Str), us12)] ++ [(one, us17)]) one = true := by
    rw [knM, List.map_append, List.map_append]
    exact List.mem_append_right _ (List.mem_singleton.mpr rfl)
  walk_at "gg"
  refine g_kmeth atE.i rfl ?_
  walk_at "gg"
  refine ⟨B, _, _, _, rfl, atE, fun p36 H36 ns36 s36 n36 e36 asc36 m36 => ?_⟩
  have h36 := h35.on s36
  walk_at "gg"
  refine g_klst (by walk_at "sz") (Has.start H36) (fun p37 H37 n37 h37 => ?_)
  refine g_addL (h37.same _ _ (kAt h36)) (h37.get (List.Mem.head _)) (sz (by rw [List.length_map]; show _ + 2 ≤ _; omega)) h37 (fun p38 H38 n38 h38 => ?_)
  have e38 : (D.PS.map (·.1)).map V.str ++ [V.str "strang", V.str one] = (D.PS.map (·.1) ++ [("strang" : Str), one]).map V.str := by
    rw [List.map_append]
    rfl
  rw [e38] at h38
  have nd38 : (D.PS.map (·.1) ++ [("strang" : Str), one]).Nodup := by
    refine List.nodup_append.mpr ⟨f.wr.nd, List.nodup_cons.mpr ⟨fun m => ne1S (List.mem_singleton.mp m).symm, List.nodup_cons.mpr ⟨List.not_mem_nil, List.nodup_nil⟩⟩, fun a ha b hb e => ?_⟩
    subst e
    simp only [List.mem_cons, List.not_mem_nil, or_false] at hb
    rcases hb with rfl | rfl
    · exact nPS ha
    · exact m1.2 ha
  walk_at "gg"
  refine g_sortS (h38.get (List.Mem.head _)) (by rw [List.length_append]; show _ + 2 < 64; omega) (Has.start H38) (fun zs p39 H39 pmz srtz n39 h39 => ?_)
  have ezs : zs = ns36 := Asc.ext (asc_of srtz (pmz.nodup_iff.mpr nd38)) asc36 fun y => by
    rw [pmz.mem_iff, m36 y, List.map_append, List.map_append, rstL_names]
    simp only [List.mem_append, List.mem_cons, List.not_mem_nil, or_false, List.map_cons, List.map_nil, or_assoc]
    rw [my y, ← f.wr.nms]
  subst ezs
  have okz : ∀ y ∈ zs, PyData.strOk y = true := fun y hy => by
    have := pmz.mem_iff.mp hy
    rcases List.mem_append.mp this with h | h
    · exact f.ok y h
    · simp only [List.mem_cons, List.not_mem_nil, or_false] at h
      rcases h with rfl | rfl
      · decide +kernel
      · exact ok1
  refine .inl (g_neD (Dq.strs (xs := zs) (h39.same _ _ (h38.same _ _ e36))) (Dq.strs (xs := zs) (h39.get (List.Mem.head _))) ((Sh.strs (n := 0) okz).ok (by decide)) ((Sh.strs (n := 0) okz).ok (by decide)) ?_)
  rw [SeqAt.eqv_refl _ (Sh.strs (n := 0) okz).1]
  have s36_39 := h38.same.trans h39.same
  have h39 := h36.on s36_39
  have atE := atE.mono (s36.trans s36_39)
  -- the twin's trees
  walk_at "gg"
  refine g_kmeth atE.i rfl ?_
  walk_at "gg"
  refine ⟨B, _, _, _, "strang", rfl, atE, fun tq etq => ?_, fun c => by rw [knS] at c; cases c⟩
  rw [gS] at etq
  injection etq with etq
  subst etq
  refine ⟨by decide, fun d40 B40 H40 h40 eB40 => ?_⟩
  have t40 : TrAt H40 d40 (fTr ["a"]) := by
    have := Has.built (F := H39) (d := d40) (B := B40) (O := []) (by rw [List.append_nil]; exact h40) (by rw [← bA_keys, eB40]; exact ga.nd)
    rw [eB40] at this
    exact this
  have s40 := h40.same
  walk_at "gg"
  refine g_disp1 (Has.start H40) (fun p41 H41 n41 h41 => ?_)
  walk_at "gg"
  refine g_klstF (by walk_at "sz") h41 (fun p42 H42 F42 n42 s42 e42 h42 => ?_)
  walk_at "gg"
  refine g_kdisp1 (k := .inr "f") h42 rfl (fun H43 h43 => ?_)
  have s43 := s42.trans h43.same
  have t43 : TrAt H43 p41 (fTr ["a"]) := mkTr1 (h43.get (List.Mem.head _)) (h43.same _ _ e42)
  refine .inr ⟨trees_eq (t40.up s43) t43 rfl (fun p hp => hp), ?_⟩
  walk_at "gg"
  have s39_43 := s40.trans s43
  have h43 := h39.on s39_43
  have atE := atE.mono s39_43
  refine g_kmeth atE.i rfl ?_
  walk_at "gg"
  refine ⟨B, _, _, _, one, rfl, atE, fun tq etq => ?_, fun c => by rw [kO] at c; cases c⟩
  rw [gO] at etq
  injection etq with etq
  subst etq
  refine ⟨by decide, fun d44 B44 H44 h44 eB44 => ?_⟩
  have t44 : TrAt H44 d44 (fTr ["b"]) := by
    have := Has.built (F := H43) (d := d44) (B := B44) (O := []) (by rw [List.append_nil]; exact h44) (by rw [← bA_keys, eB44]; exact gb.nd)
    rw [eB44] at this
    exact this
  have s44 := h44.same
  walk_at "gg"
  refine g_disp1 (Has.start H44) (fun p45 H45 n45 h45 => ?_)
  walk_at "gg"
  refine g_klstF (by walk_at "sz") h45 (fun p46 H46 F46 n46 s46 e46 h46 => ?_)
  walk_at "gg"
  refine g_kdisp1 (k := .inr "f") h46 rfl (fun H47 h47 => ?_)
  have s47 := s46.trans h47.same
  have t47 : TrAt H47 p45 (fTr ["b"]) := mkTr1 (h47.get (List.Mem.head _)) (h47.same _ _ e46)
  refine .inr ⟨trees_eq (t44.up s47) t47 rfl (fun p hp => hp), ?_⟩
  walk_at "gg"
  have s43_47 := s44.trans s47
  have h47 := h43.on s43_47
  have atE := atE.mono s43_47
  -- its origins
  refine g_kmeth atE.i rfl ?_
  walk_at "gg"
  refine ⟨B, _, _, _, one, rfl, atE, fun tq etq => ?_, fun c => by rw [kO] at c; cases c⟩
  rw [gG] at etq
  injection etq with etq
  subst etq
  refine ⟨by show 1 ≤ 60; decide, fun d48 B48 H48 h48 eB48 => ?_⟩
  have t48 : TrAt H48 d48 (fTr [one]) := by
    have := Has.built (F := H47) (d := d48) (B := B48) (O := []) (by rw [List.append_nil]; exact h48) (by rw [← bA_keys, eB48]; exact List.nodup_cons.mpr ⟨List.not_mem_nil, List.nodup_nil⟩)
    rw [eB48] at this
    exact this
  have s48 := h48.same
  walk_at "gg"
  refine g_disp1 (Has.start H48) (fun p49 H49 n49 h49 => ?_)
  walk_at "gg"
  refine g_klstF (by walk_at "sz") h49 (fun p50 H50 F50 n50 s50 e50 h50 => ?_)
  walk_at "gg"
  refine g_kdisp1 (k := .inr "f") h50 rfl (fun H51 h51 => ?_)
  have s51 := s50.trans h51.same
  have t51 : TrAt H51 p49 (fTr [one]) := mkTr1 (h51.get (List.Mem.head _)) (h51.same _ _ e50)
  refine .inr ⟨trees_eq (t48.up s51) t51 rfl (fun p hp => hp), ?_⟩
  have h51 := h47.on (s48.trans s51)
  clear atE t40 t43 t44 t47 t48 t51
  -- the law's own tables
  have h51 : Has F34 ((kp, .lst ((D.PS.map (·.1)).map V.str)) :: (pd, .dK D.pk) :: (td, .dK D.tdk) :: (HisO T A nl34 k34 tk34 ok34 ++ HisO T B nlE kE tkE okE)) H51 := h51.perm (by
    have := List.perm_append_comm (l₁ := LR kp pd td D) (l₂ := HisO T A nl34 k34 tk34 ok34 ++ HisO T B nlE kE tkE okE)
    rw [List.append_assoc] at this
    exact this)
  have sF34 : Same F F34 := ((((s2.trans s2_11).trans s12).trans s12_16).trans s17).trans sC_35
  have tvF := f.tv.mono sF34
  have tlF := f.tl.mono sF34
  have lPS : D.PS.length ≤ 7 := few
  have n2T : valV D.tdk (.inr two) = none := by
    have := tlF.has two
    rw [getL_none.mpr (by rw [f.lk]; exact m2.2)] at this
    cases c : valV D.tdk (.inr two) with
    | none => rfl
    | some u => rw [c] at this; cases this
  walk_at "gg"
  refine g_klstF (by walk_at "sz") h51 (fun p52 H52 F52 n52 s52 e52 h52 => ?_)
  walk_at "gg"
  refine g_stD (k := .inr two) rfl h52 (.tl .hd) (szl (by rw [tvF.len]; omega)) (fun H53 h53 => ?_)
  rw [putK_new _ (tvF.none m2.2)] at h53
  have h53 : Has F52 (_ :: (pd, .dK (D.pk ++ [(kS two, .ref p52)])) :: _) H53 := h53
  have tv53 := (tvF.mono s52).snoc (z := two) (t := []) (Dq.strs (xs := []) e52)
  walk_at "gg"
  refine g_klstF (by walk_at "sz") h53 (fun p54 H54 F54 n54 s54 e54 h54 => ?_)
  walk_at "gg"
  have n1P : one ∉ (D.PS ++ [(two, ([] : Tx))]).map (·.1) := by
    rw [List.map_append]
    intro m
    rcases List.mem_append.mp m with m | m
    · exact m1.2 m
    · exact ne12 (List.mem_singleton.mp m)
  refine g_stD (k := .inr one) rfl h54 (.tl .hd) (szl (by rw [List.length_append, tvF.len]; show _ + 1 < _; omega)) (fun H55 h55 => ?_)
  rw [putK_new _ (tv53.none n1P)] at h55
  have h55 : Has F54 (_ :: (pd, .dK (D.pk ++ [(kS two, .ref p52)] ++ [(kS one, .ref p54)])) :: _) H55 := h55
  have tv55 := (tv53.mono s54).snoc (z := one) (t := [two]) (Dq.strs (xs := [two]) e54)
  walk_at "gg"
  refine g_disp1 h55 (fun p56 H56 n56 h56 => ?_)
  walk_at "gg"
  refine g_klstF (by walk_at "sz") h56 (fun p57 H57 F57 n57 s57 e57 h57 => ?_)
  walk_at "gg"
  refine g_kdisp1 (k := .inr "f") h57 rfl (fun H58 h58 => ?_)
  have s58 : Same F57 (upd F57 p56 (.dK [(kS "f", .ref p57)])) := h58.grow
  have e58 : upd F57 p56 (.dK [(kS "f", .ref p57)]) p56 = some (.dK [(kS "f", .ref p57)]) := upd_same
  have h58 : Has (upd F57 p56 (.dK [(kS "f", .ref p57)])) _ H58 := h58.frz
  generalize upd F57 p56 (.dK [(kS "f", .ref p57)]) = F58 at h58 s58 e58
  have t58 : TrAt F58 p56 (fTr []) := mkTr1 e58 (s58 _ _ e57)
  walk_at "gg"
  refine g_stD (k := .inr two) rfl h58 (.tl (.tl .hd)) (szl (by rw [tlF.len]; have := congrArg List.length f.lk; rw [List.length_map, List.length_map] at this; omega)) (fun H59 h59 => ?_)
  rw [putK_new _ n2T] at h59
  have h59 : Has F58 (_ :: _ :: (td, .dK (D.tdk ++ [(kS two, .ref p56)])) :: _) H59 := h59
  have tl59 := (tlF.mono (((s52.trans s54).trans s57).trans s58)).snoc (z := two) t58
  have n1T : valV (D.tdk ++ [(kS two, .ref p56)]) (.inr one) = none := by
    have := tl59.has one
    rw [getL_snoc, getL_none.mpr (by rw [f.lk]; exact m1.2), if_neg (fun e => ne12 e.symm)] at this
    cases c : valV (D.tdk ++ [(kS two, .ref p56)]) (.inr one) with
    | none => rfl
    | some u => rw [c] at this; cases this
  walk_at "gg"
  refine g_dnewK h59 (fun p60 H60 n60 h60 => ?_)
  have s60 := h60.grow
  have e60 : upd F58 p60 (.dK []) p60 = some (.dK []) := upd_same
  have h60 := h60.frz
  generalize upd F58 p60 (.dK []) = F60 at h60 s60 e60
  walk_at "gg"
  refine g_stD (k := .inr one) rfl h60 (.tl (.tl .hd)) (szl (by rw [List.length_append, tlF.len]; have := congrArg List.length f.lk; rw [List.length_map, List.length_map] at this; show _ + 1 < _; omega)) (fun H61 h61 => ?_)
  rw [putK_new _ n1T] at h61
  have h61 : Has F60 (_ :: _ :: (td, .dK (D.tdk ++ [(kS two, .ref p56)] ++ [(kS one, .ref p60)])) :: _) H61 := h61
  have tl61 := (tl59.mono s60).snoc (z := one) (mkTr0 e60)
  walk_at "gg"
  refine g_klst (by walk_at "sz") h61 (fun p62 H62 n62 h62 => ?_)
  refine g_addL (h62.get (.tail _ (List.Mem.head _))) (h62.get (List.Mem.head _)) (sz (by rw [List.length_map]; show _ + 2 ≤ _; omega)) h62 (fun p63 H63 n63 h63 => ?_)
  walk_at "gg"
  have s52_60 := (((s52.trans s54).trans s57).trans s58).trans s60
  have L60 : LF F60 A nm names ⟨nl34, k34, tk34, ok34, D.pk ++ [(kS two, .ref p52)] ++ [(kS one, .ref p54)], D.tdk ++ [(kS two, .ref p56)] ++ [(kS one, .ref p60)], D2.rows, D2.ts, D2.os, D2.lts, D2.PS⟩ := by
    have L := L34.mono s52_60
    refine ⟨L.his, L.vs, ?_, ?_, L.lk, L.tk, L.wr, L.l6, L.kin, L.tr, L.nm, L.nok, L.tu⟩
    · show TV F60 _ D2.PS
      rw [eP2]
      exact tv55.mono ((s57.trans s58).trans s60)
    · show TL F60 _ D2.lts
      rw [el2]
      exact tl61
  have e63 : (D.PS.map (·.1)).map V.str ++ [V.str two, V.str one] = (D2.PS.map (·.1)).map V.str := by
    rw [eP2, List.map_append, List.map_append, List.map_append, List.map_append, List.append_assoc]
    rfl
  rw [e63] at h63
  have h63' := h63.perm (O' := HisO T A nl34 k34 tk34 ok34 ++ (HisO T B nlE kE tkE okE ++ [(p63, .lst ((D2.PS.map (·.1)).map V.str)), (p62, .lst [V.str two, V.str one]), (kp, .lst ((D.PS.map (·.1)).map V.str)), (pd, .dK (D.pk ++ [(kS two, .ref p52)] ++ [(kS one, .ref p54)])), (td, .dK (D.tdk ++ [(kS two, .ref p56)] ++ [(kS one, .ref p60)]))])) (by
    have := List.perm_append_comm (l₁ := HisO T A nl34 k34 tk34 ok34 ++ HisO T B nlE kE tkE okE) (l₂ := [(p63, HO.lst ((D2.PS.map (·.1)).map V.str)), (p62, .lst [V.str two, V.str one]), (kp, .lst ((D.PS.map (·.1)).map V.str)), (pd, .dK (D.pk ++ [(kS two, .ref p52)] ++ [(kS one, .ref p54)])), (td, .dK (D.tdk ++ [(kS two, .ref p56)] ++ [(kS one, .ref p60)]))])
    rw [List.append_assoc] at this
    exact this)
  exact ⟨A, D2.rows, D2.ts, D2.os, nm, p63, pd, td, names, D2.PS, D2.lts, rfl, L60.shown h63' (h63.get (List.Mem.head _)) (h63.get (.tail _ (.tail _ (.tail _ (List.Mem.head _))))) (h63.get (.tail _ (.tail _ (.tail _ (.tail _ (List.Mem.head _)))))), fun H' _ => q H'⟩
end
end
section
local macro_rules | `(tactic| walk_at "g") => `(tactic| first
  | ((with_reducible refine' g_lenNL ?gh ?_); (case gh => walk_at "h"))
  | ((with_reducible refine' g_lenND ?gh ?_); (case gh => walk_at "h"))
  | ((with_reducible refine' g_lenNT ?gh ?_); (case gh => walk_at "h"))
  | (with_reducible refine g_ltI ?_)
  | (with_reducible refine g_ltS ?_)
  | (with_reducible refine g_lstRg ?_)
  | (with_reducible refine g_forK ?_))
local macro_rules | `(tactic| walk_at "g") => `(tactic| first
  | (with_reducible refine g_dcL ?_)
  | (with_reducible refine g_dcT ?_)
  | (with_reducible refine g_m1s ?_)
  | (with_reducible refine g_km1s ?_)
  | (with_reducible refine g_starts ?_)
  | (with_reducible refine g_tryX ?_)
  | (with_reducible refine g_lcS ?_))
def insA (z : Str) : List Str → List Str
  | [] => [z]
  | y :: r => if z = y then y :: r else if kk z < kk y then z :: y :: r else y :: insA z r
theorem insA_mem {z x : Str} : ∀ {ys : List Str}, x ∈ insA z ys ↔ x = z ∨ x ∈ ys
  | [] => List.mem_cons
  | y :: r => by
    unfold insA
    split
    · rename_i e
      subst e
      simp
    · split
      · rw [List.mem_cons]
      · rw [List.mem_cons, insA_mem, List.mem_cons]
        constructor
        · rintro (h | h | h)
          · exact .inr (.inl h)
          · exact .inl h
          · exact .inr (.inr h)
        · rintro (h | h | h)
          · exact .inr (.inl h)
          · exact .inl h
          · exact .inr (.inr h)
theorem insA_asc {z : Str} : ∀ {ys : List Str}, Asc ys → Asc (insA z ys)
  | [], _ => List.pairwise_singleton ..
  | y :: r, h => by
    have h' := List.pairwise_cons.mp h
    unfold insA
    split
    · exact h
    · rename_i ne
      split
      · rename_i lt
        refine List.pairwise_cons.mpr ⟨fun x hx => ?_, h⟩
        rcases List.mem_cons.mp hx with rfl | hx
        · exact lt
        · exact List.lt_trans lt (h'.1 x hx)
      · rename_i nlt
        refine List.pairwise_cons.mpr ⟨fun x hx => ?_, insA_asc h'.2⟩
        rcases insA_mem.mp hx with rfl | hx
        · exact kk_cases nlt (fun e => ne e.symm)
        · exact h'.1 x hx
theorem asc_all : ∀ xs : List Str, ∃ us, Asc us ∧ ∀ y, y ∈ us ↔ y ∈ xs
  | [] => ⟨[], List.Pairwise.nil, fun y => Iff.rfl⟩
  | x :: r => by
    obtain ⟨us, a, m⟩ := asc_all r
    exact ⟨insA x us, insA_asc a, fun y => by rw [insA_mem, m y, List.mem_cons]⟩
section
variable {P : Program} {w : World} {K : PySem.W.Frag} {mg : Str → Option Value} {base : Heap}
def sp_law (K : PySem.W.Frag) : Sp := fun vs H Q _ => ∃ (a : Addr) (ns : List Int), vs = [.ref a] ∧ SqL K H a (ns.map V.int) ∧ ns.length ≤ 63 ∧ ∀ H', Q (.bl true) H'
theorem sp_law_len {vs H Q E} (h : sp_law K vs H Q E) : vs.length = 1 := by
  obtain ⟨_, _, rfl, _⟩ := h
  rfl
theorem sp_law_start {H : Hp} {a : Addr} {ns : List Int} (hl : ns.length ≤ 63) (hS : SqL K H a (ns.map V.int)) : sp_law K [.ref a] H (fun v _ => v = .bl true) (fun _ _ _ => False) := ⟨a, ns, rfl, hS, hl, fun _ => rfl⟩
def LO (T : Txt K mg) (A : HA) (kp pd td : Addr) (D : LD) : Own := (kp, .lst ((D.PS.map (·.1)).map V.str)) :: (pd, .dK D.pk) :: (td, .dK D.tdk) :: HisO T A D.nl D.kvs D.tk D.ok
theorem LO.his {T : Txt K mg} {A : HA} {kp pd td c : Addr} {D : LD} {F H : Hp} {o : HO} (h : Has F ((c, o) :: LO T A kp pd td D) H) : Has F (HisO T A D.nl D.kvs D.tk D.ok ++ LR kp pd td D) H := by
  have h := h.drop
  exact h.perm (List.perm_append_comm (l₁ := HisO T A D.nl D.kvs D.tk D.ok) (l₂ := LR kp pd td D))
set_option maxHeartbeats 4000000 in
theorem ok_law (T : Txt K mg) : FnOk P w K mg base CX0 10 T.f_law T.fd_law ["script"] (sp_law K) := by
  refine T.F_law.ok sc_law (fun vs H Q E h => sp_law_len h) (fun cdv A outer s H vs Q E hr h => ?_)
  refine ⟨_, (pss_cons (ps_set (i := 1) sc_law.nd rfl (.inl rfl) (pe_call (ok_l_feed T) (hr.mono (by decide)) (by rfl) T.g_l_feed T.F_l_feed.kp T.b_l_feed .nil pass0 (pa_cons (pv 0) pa_nil)))
      (pss_cons (ps_set (i := 2) sc_law.nd rfl (.inl rfl) (pe_call (ok_l_new_names T) (hr.mono (by decide)) (by rfl) T.g_l_new_names T.F_l_new_names.kp T.b_l_new_names .nil pass0 (pa_cons (pv 1) (pa_cons pe_int pa_nil))))
      (pss_cons (ps_set (i := 3) sc_law.nd rfl (.inl rfl) (pe_make0 T.Mk_History (ok_History___init__ T) (hr.mono (by decide)) (by rfl) T.g_History T.b_History___init__ .nil pass0))
      (pss_cons (ps_set (i := 4) sc_law.nd rfl (.inl rfl) (pe_lst pa_nil))
      (pss_cons (ps_set (i := 5) sc_law.nd rfl (.inl rfl) pe_dnewK)
      (pss_cons (ps_set (i := 6) sc_law.nd rfl (.inl rfl) pe_dnewK)
      (pss_cons (ps_set (i := 7) sc_law.nd rfl (.inl rfl) (pe_call (ok_l_new_shape T) (hr.mono (by decide)) (by rfl) T.g_l_new_shape T.F_l_new_shape.kp T.b_l_new_shape .nil pass0 (pa_cons (pv 1) (pa_cons pe_int (pa_cons pe_int pa_nil)))))
      (pss_cons (ps_for PassesOwn.never rfl (pi_range1 rfl T.m_range (pa_cons pe_int pa_nil)) (pg_name (i := 8) sc_law.nd rfl (.inl rfl)) (pss_cons (ps_set (i := 9) sc_law.nd rfl (.inl rfl) (pe_call (ok_l_called T) (hr.mono (by decide)) (by rfl) T.g_l_called T.F_l_called.kp T.b_l_called .nil pass0 (pa_cons (pv 1) (pa_cons (pv 2) (pa_cons (pv 8) pa_nil)))))
      (pss_cons (ps_set (i := 10) sc_law.nd rfl (.inl rfl) (pe_call (ok_l_new_elders T) (hr.mono (by decide)) (by rfl) T.g_l_new_elders T.F_l_new_elders.kp T.b_l_new_elders .nil pass0 (pa_cons (pv 1) (pa_cons (pv 2) (pa_cons (pv 4) pa_nil)))))
      (pss_cons (ps_set (i := 11) sc_law.nd rfl (.inl rfl) pe_dnewK)
      (pss_cons (ps_if (PW.pt (pw_and (pt_cmpR (op_neK K hr.units) (pv 10) (pe_lst pa_nil) (nomark _)) (pw_and1 (pt_cmpR (op_inM K P w hr.units (u65 hr)) (pe_ix (ix_K K (hu_of hr)) (pv 10) pe_int (fun _ _ => rfl)) (pv 4) (by rfl))))) (pss_one (ps_set (i := 11) sc_law.nd rfl (.inl rfl) (pe_ix (ix_K K (hu_of hr)) (pv 6) (pe_ix (ix_K K (hu_of hr)) (pv 10) pe_int (fun _ _ => rfl)) (fun _ _ => rfl)))) pss_nil)
      (pss_cons (ps_set (i := 12) sc_law.nd rfl (.inl rfl) (pe_call (ok_l_new_tree T) (hr.mono (by decide)) (by rfl) T.g_l_new_tree T.F_l_new_tree.kp T.b_l_new_tree .nil pass0 (pa_cons (pv 1) (pa_cons (pv 8) (pa_cons (pv 11) (pa_cons (pv 7) pa_nil))))))
      (pss_cons (ps_expr (pe_call (ok_l_spoil T) (hr.mono (by decide)) (by rfl) T.g_l_spoil T.F_l_spoil.kp T.b_l_spoil .nil pass0 (pa_cons (pv 1) (pa_cons (pv 12) pa_nil))))
      (pss_cons (ps_expr (pe_call (ok_l_spoil T) (hr.mono (by decide)) (by rfl) T.g_l_spoil T.F_l_spoil.kp T.b_l_spoil .nil pass0 (pa_cons (pv 1) (pa_cons (pv 12) pa_nil))))
      (pss_cons (ps_set (i := 13) sc_law.nd rfl (.inl rfl) (pe_call (ok_l_own_due T) (hr.mono (by decide)) (by rfl) T.g_l_own_due T.F_l_own_due.kp T.b_l_own_due .nil pass0 (pa_cons (pv 4) (pa_cons (pv 9) (pa_cons (pv 10) (pa_cons (pv 12) pa_nil))))))
      (pss_cons (ps_set (i := 14) sc_law.nd rfl (.inl rfl) (pe_callTy (cr_listK K) (by rfl) T.m_list (by decide +kernel) (pa_cons (pv 10) pa_nil)))
      (pss_cons (ps_set (i := 15) sc_law.nd rfl (.inl rfl) (pe_call (ok_l_copied T) (hr.mono (by decide)) (by rfl) T.g_l_copied T.F_l_copied.kp T.b_l_copied .nil pass0 (pa_cons (pv 12) pa_nil)))
      (pss_cons (ps_set (i := 16) sc_law.nd rfl (.inl rfl) (pe_call (ok_l_commit T) (hr.mono (by decide)) (by rfl) T.g_l_commit T.F_l_commit.kp T.b_l_commit .nil pass0 (pa_cons (pv 3) (pa_cons (pv 9) (pa_cons (pv 14) (pa_cons (pv 15) pa_nil))))))
      (pss_cons (ps_if (PW.pt (pw_or (pt_cmpR (op_neK K hr.units) (pv 16) (pv 13) (nomark _)) (pw_or1 (pt_cmpR (op_neK K hr.units) (pv 14) (pv 10) (nomark _))))) (pss_one (ps_ret pe_bl)) pss_nil)
      (pss_cons (ps_if (pt_cmpR (op_neK K hr.units) (LiI.pe_listItems rfl (pv 15) (by rfl) T.m_list (by decide +kernel)) (LiI.pe_listItems rfl (pv 12) (by rfl) T.m_list (by decide +kernel)) (nomark _)) (pss_one (ps_ret pe_bl)) pss_nil)
      (pss_cons (ps_expr (k_bm K (pe_bm PySem.F.plainAttrs_list PySem.F.slot_list_append PySem.F.type_list_append mt_append (pv 14) (pa_cons pe_str pa_nil))))
      (pss_cons (ps_lock (ps_for PassesOwn.never rfl (pi_keys (pv 12)) (pg_name (i := 17) sc_law.nd rfl (.inl rfl)) (pss_one (ps_expr (k_bm K (pe_bm PySem.F.plainAttrs_list PySem.F.slot_list_append PySem.F.type_list_append mt_append (pe_ix (ix_K K (hu_of hr)) (pv 15) (pv 17) (fun _ _ => rfl)) (pa_cons pe_str pa_nil)))))))
      (pss_cons (ps_asg (pe_lst pa_nil) (pg_sub (pv 15) pe_str (set_any (hu_of hr))))
      (pss_cons (ps_if (pt_cmpR (op_eqK K hr.units) (pv 13) (pe_tup (pa_cons pe_str (pa_cons pe_non pa_nil))) (nomark _)) (pss_cons (ps_expr (k_bm K (pe_bm PySem.F.plainAttrs_list PySem.F.slot_list_append PySem.F.type_list_append mt_append (pv 4) (pa_cons (pv 9) pa_nil))))
      (pss_cons (ps_asg (pv 10) (pg_sub (pv 5) (pv 9) (set_any (hu_of hr))))
      (pss_one (ps_asg (pv 12) (pg_sub (pv 6) (pv 9) (set_any (hu_of hr))))))) pss_nil)
      (pss_one (ps_if (pt_cmpR (op_neK K hr.units) (pe_methW0 (pv 3) T.cl_History T.M_History_names (ok_History_names T) (hr.mono (by decide)) T.b_History_names (pass0S (E := fun _ => E0))) (pe_callB (cr_sortA K rfl) (by rfl) T.m_sorted (by decide +kernel) (pa_cons (pv 4) pa_nil)) (nomark _)) (pss_one (ps_ret pe_bl)) pss_nil))))))))))))))))))))
      (pss_cons (ps_if (pt_not (pt_val (pe_call (ok_l_shown T) (hr.mono (by decide)) (by rfl) T.g_l_shown T.F_l_shown.kp T.b_l_shown .nil pass0 (pa_cons (pv 3) (pa_cons (pv 2) (pa_cons (pv 4) (pa_cons (pv 5) (pa_cons (pv 6) pa_nil)))))))) (pss_one (ps_ret pe_bl)) pss_nil)
      (pss_cons (ps_if (pt_not (pt_val (pe_call (ok_l_refused T) (hr.mono (by decide)) (by rfl) T.g_l_refused T.F_l_refused.kp T.b_l_refused .nil pass0 (pa_cons (pv 3) (pa_cons (pv 4) pa_nil))))) (pss_one (ps_ret pe_bl)) pss_nil)
      (pss_one (ps_ret (pe_call (ok_l_ended T) (hr.mono (by decide)) (by rfl) T.g_l_ended T.F_l_ended.kp T.b_l_ended .nil pass0 (pa_cons (pv 3) (pa_cons (pv 2) (pa_cons (pv 4) (pa_cons (pv 5) (pa_cons (pv 6) pa_nil)))))))))))))))))), ?_⟩
  obtain ⟨sc, ns, rfl, hS, hl, q⟩ := h
  refine g_start (σ' := [some (.ref sc), none, none, none, none, none, none, none, none, none, none, none, none, none, none, none, none, none]) rfl ?_
  walk_at "gg"
  refine ⟨sc, ns, rfl, hS, hl, fun c H1 ns1 n1 h1 ok1 => ?_⟩
  have h1 : Has H [(c, .lst (ns1.map V.int))] H1 := h1
  walk_at "gg"
  refine ⟨H, [], c, ns1, rfl, h1, ok1, fun nm H2 ns2 names h2 ok2 nok => ?_⟩
  have e2 : upd H nm (.lst (names.map V.str)) nm = some (.lst (names.map V.str)) := upd_same
  have h2 := h2.frz
  generalize upd H nm (.lst (names.map V.str)) = F2 at h2 e2
  walk_at "gg"
  intro x dx nx nd ne
  refine ⟨x, dx, H2, rfl, rfl, nx, nd, ne, fun A nl H3 F3 ea h3 s3 fnl ftu => ⟨rfl, ?_⟩⟩
  subst ea
  obtain ⟨s4, h4⟩ := Has.both h2 s3 h3
  have hc := s3 _ _ (h2.get (List.Mem.head _))
  have off : ∀ {b : Addr} {o : HO}, F3 b = some o → o ≠ .lst (ns2.map V.int) → rmO [(c, HO.lst (ns2.map V.int))] F3 b = some o := fun {b o} e n => by
    unfold rmO
    rw [if_neg fun m => ?_]
    · exact e
    · have m : b = c := List.mem_singleton.mp m
      rw [m, hc] at e
      injection e with e
      exact n e.symm
  have fnl4 := off fnl (fun e => by
    injection e with e
    have := ok2.1
    cases ns2 with
    | nil => exact absurd this (by decide)
    | cons a r => cases e)
  have ftu4 := off ftu (fun e => by cases e)
  generalize rmO [(c, HO.lst (ns2.map V.int))] F3 = F4 at s4 h4 fnl4 ftu4
  have h4 : Has F4 ((c, .lst (ns2.map V.int)) :: HisO T A nl [] [] []) H3 := h4
  walk_at "gg"
  refine g_klst (by walk_at "sz") h4 (fun kp H5 n5 h5 => ?_)
  walk_at "gg"
  refine g_dnewK h5 (fun pd H6 n6 h6 => ?_)
  walk_at "gg"
  refine g_dnewK h6 (fun td H7 n7 h7 => ?_)
  have h7 : Has F4 ((c, .lst (ns2.map V.int)) :: LO T A kp pd td ⟨nl, [], [], [], [], [], [], [], [], [], []⟩) H7 := h7.perm ((List.reverse_perm [(td, HO.dK []), (pd, HO.dK []), (kp, HO.lst []), (c, HO.lst (ns2.map V.int))]).append_right (HisO T A nl [] [] []))
  walk_at "gg"
  refine ⟨F4, _, c, ns2, rfl, h7, ok2, fun sp H8 F8 ns8 ps3 ls4 s8 h8 ok8 shp sok => ?_⟩
  have L8 : LF F8 A nm names ⟨nl, [], [], [], [], [], [], [], [], [], []⟩ := ⟨⟨OrdOk.empty (s8 _ _ fnl4), .nil, .nil, List.Perm.refl _, List.Perm.refl _⟩, VsOk.nil, ⟨rfl, .nil⟩, .nil, rfl, rfl, WebR.nil, (fun p hp => by cases hp), (fun z hz => by cases hz), (fun z hz => by cases hz), s8 _ _ (s4 _ _ e2), nok, s8 _ _ ftu4⟩
  walk_at "gg"
  refine k_forR1 (fun k σ H' => ∃ (F' : Hp) (D : LD) (ns' : List Int) (y8 y9 y10 y11 y12 y13 y14 y15 y16 y17 : Option V), σ = [some (.ref sc), some (.ref c), some (.ref nm), some (.ref A.h), some (.ref kp), some (.ref pd), some (.ref td), some (.ref sp), y8, y9, y10, y11, y12, y13, y14, y15, y16, y17] ∧ Same F8 F' ∧ Has F' ((c, .lst (ns'.map V.int)) :: LO T A kp pd td D) H' ∧ FeedOk ns' ∧ LF F' A nm names D ∧ D.PS.length ≤ k) (by decide) (by decide) ⟨F8, _, ns8, _, _, _, _, _, _, _, _, _, _, rfl, Same.refl _, h8, ok8, L8, Nat.le_refl _⟩ ?_ ?_
  · rintro k σ H9 hk ⟨F9, D, ns9, y8, y9, y10, y11, y12, y13, y14, y15, y16, y17, rfl, s9, h9, ok9, L, lk⟩
    have hk : k < 7 := hk
    have lks : (D.PS.map (·.1)).length ≤ 7 := by rw [List.length_map]; omega
    walk_at "gg"
    refine ⟨F9, _, c, nm, ns9, names, k, rfl, h9, ok9, L.nm, nok, by omega, fun z H10 ns10 h10 ok10 mz => ?_⟩
    walk_at "gg"
    refine ⟨F9, (pd, .dK D.pk) :: (td, .dK D.tdk) :: HisO T A D.nl D.kvs D.tk D.ok, c, nm, kp, ns10, names, (List.map (fun p : Str × Tx => p.1) D.PS), rfl, h10, ok10, L.nm, nok, by omega, fun el H11 ns11 ps h11 ok11 lps mps => ?_⟩
    have h11 : Has F9 ((el, .lst (ps.map V.str)) :: (c, .lst (ns11.map V.int)) :: LO T A kp pd td D) H11 := h11
    have s11 := h11.grow
    have e11 : upd F9 el (.lst (ps.map V.str)) el = some (.lst (ps.map V.str)) := upd_same
    have h11 := h11.frz
    generalize upd F9 el (.lst (ps.map V.str)) = F11 at h11 s11 e11
    walk_at "gg"
    refine g_dnewK h11 (fun od0 H12 n12 h12 => ?_)
    have s12 := h12.grow
    have e12 : upd F11 od0 (.dK []) od0 = some (.dK []) := upd_same
    have h12 := h12.frz
    generalize upd F11 od0 (.dK []) = F12 at h12 s12 e12
    have L12 := (L.mono s11).mono s12
    have f12 := s12 _ _ e11
    have okps : ∀ y ∈ ps, PyData.strOk y = true := fun y hy => by
      rcases mps y hy with m | m | m
      · exact (nok.nm y m).2.1
      · exact strs3_ok y m
      · exact L.ok y m
    have shps : Sh 1 (.list (ps.map PyData.str)) := Sh.strs (n := 0) okps
    have hkp : ∀ {F' H' : Hp} {ns' : List Int}, Has F' ((c, .lst (ns'.map V.int)) :: LO T A kp pd td D) H' → H' kp = some (.lst ((D.PS.map (·.1)).map V.str)) := fun h => h.get (.tail _ (List.Mem.head _))
    have htd : ∀ {F' H' : Hp} {ns' : List Int}, Has F' ((c, .lst (ns'.map V.int)) :: LO T A kp pd td D) H' → H' td = some (.dK D.tdk) := fun h => h.get (.tail _ (.tail _ (.tail _ (List.Mem.head _))))
    iterate 2 walk_at "g"
    refine g_joinD (fun σ' H' => ∃ (od : Addr) (A0 : Tr), σ' = [some (.ref sc), some (.ref c), some (.ref nm), some (.ref A.h), some (.ref kp), some (.ref pd), some (.ref td), some (.ref sp), some (.int (k : Int)), some (.str z), some (.ref el), some (.ref od), y12, y13, y14, y15, y16, y17] ∧ Has F12 ((c, .lst (ns11.map V.int)) :: LO T A kp pd td D) H' ∧ TrAt F12 od A0 ∧ TrG A0) ?_ (fun nx key => ?_)
    rotate_left
    · walk_at "gg"
      refine g_klst (by walk_at "sz") h12 (fun p13 H13 n13 h13 => ?_)
      refine g_neD (Dq.strs (xs := ps) (h13.same _ _ f12)) (Dq.strs (xs := []) (h13.get (List.Mem.head _))) (shps.ok (by decide)) ((Sh.strs (n := 0) (xs := []) (fun y hy => by cases hy)).ok (by decide)) ?_
      rw [eqv_strs]
      have h13 := h13.drop
      walk_at "gg"
      refine i_n (fun ne => ?_) (fun _ => ?_)
      · walk_at "gg"
        have l0 : 0 < ps.length := List.length_pos_iff.mpr ne
        have e0 : ps[0]? = some ps[0] := List.getElem?_eq_getElem l0
        generalize ps[0] = y0 at e0
        have ix0 : ∀ {H5 : Hp} {R : VK}, Same F12 H5 → R (.str y0) H5 → rIxA K (.ref el) (.int 0) H5 R := fun {H5 R} s r => g_ixZ (s _ _ f12) (by decide) (by omega) (fun x2 hx2 => by
          have hx2 : ps[0]? = some x2 := hx2
          rw [e0] at hx2
          injection hx2 with hx2
          subst hx2
          exact r)
        refine ix0 h13.same ?_
        walk_at "gg"
        refine g_inM (g_inFL (hkp h13) rfl (flat_strs _) ?_)
        rw [inV_strs]
        walk_at "gg"
        refine i_d (fun m0 => ?_) (fun _ => ?_)
        · walk_at "gg"
          refine ix0 h13.same ?_
          obtain ⟨tt, t', _, ett, _, gtt, _⟩ := L12.tr y0 m0
          obtain ⟨dz, edz, hdz⟩ := (L12.tl.get y0).1 tt ett
          refine g_ixDS (htd h13) edz ?_
          walk_at "gg"
          exact key _ _ ⟨dz, tt, rfl, h13, hdz, gtt⟩
        · walk_at "gg"
          exact key _ _ ⟨od0, [], rfl, h13, mkTr0 e12, TrG.nil⟩
      · walk_at "gg"
        exact key _ _ ⟨od0, [], rfl, h13, mkTr0 e12, TrG.nil⟩
    · rintro σ' H13 ⟨od, A0, rfl, h13, tod, gA0⟩
      walk_at "gg"
      refine ⟨F12, _, c, od, sp, ns11, k, A0, ps3, ls4, rfl, h13, ok11, by omega, shp.mono ((s9.trans s11).trans s12), sok, tod, gA0, fun d H14 F14 ns14 kvs14 B14 s14 h14 ok14 tv14 gb14 lb14 => ?_⟩
      walk_at "gg"
      refine ⟨F14, _, c, d, ns14, kvs14, B14, rfl, h14, ok14, tv14, gb14, by omega, fun H15 F15 ns15 kvs15 B15 s15 h15 ok15 tv15 gb15 lb15 => ?_⟩
      walk_at "gg"
      refine ⟨F15, _, c, d, ns15, kvs15, B15, rfl, h15, ok15, tv15, gb15, by omega, fun H16 F16 ns16 kvs16 t s16 h16 ok16 tv16 gt lt16 => ?_⟩
      have lt : t.length ≤ 21 := by omega
      have sd := h16.grow
      have ed : upd F16 d (.dK kvs16) d = some (.dK kvs16) := upd_same
      have h16 := h16.frz
      have tv17 := tv16.mono sd
      generalize upd F16 d (.dK kvs16) = F17 at h16 sd ed tv17
      have td17 : TrAt F17 d t := tv17.at ed gt.nd
      have s12_17 := ((s14.trans s15).trans s16).trans sd
      have L17 := L12.mono s12_17
      have f17 := s12_17 _ _ f12
      obtain ⟨us, asc, mus⟩ := asc_all (t.map (·.1))
      walk_at "gg"
      refine ⟨kp, el, d, (List.map (fun p : Str × Tx => p.1) D.PS), ps, z, t, us, rfl, hkp h16, h16.same _ _ f17, td17.up h16.same, gt, by omega, by omega, nameO nok mz, asc, mus, fun v18 H18 s18 dv18 => ?_⟩
      have dv18 : Dq H18 v18 (dueD (fun x => decide (x ∈ D.PS.map (·.1))) z ps t us) := dv18
      rw [← L.knf] at dv18
      have h18 := h16.on s18
      obtain ⟨ds, eds, fl⟩ := due_flat (kn D.rows) z ps t us
      rw [eds] at dv18
      obtain ⟨F19, s19, h19, dv19⟩ := Has.keepT h18 (NoTup.lst (NoTup.lst (NoTup.dK (NoTup.dK (noTup_his T A _ _ _ _) _ _) _ _) _ _) _ _) fl dv18
      rw [← eds] at dv19
      have L19 := L17.mono s19
      have f19 := s19 _ _ f17
      have td19 := td17.up s19
      walk_at "gg"
      refine g_listL (h19.same _ _ f19) h19 (fun pl H20 n20 h20 => ?_)
      walk_at "gg"
      refine ⟨d, t, rfl, td19.up h20.same, by omega, fun cd B H21 h21 eB => ?_⟩
      have h22 := Has.plus h20 h21
      have cd22 : TrAt H21 cd t := by
        have := Has.built (F := H20) (d := cd) (B := B) (O := []) (by rw [List.append_nil]; exact h21) (by rw [← bA_keys, eB]; exact gt.nd)
        rw [eB] at this
        exact this
      have ndB : (B.map (·.1)).Nodup := by rw [← bA_keys, eB]; exact gt.nd
      have h22 : Has F19 (HisO T A D.nl D.kvs D.tk D.ok ++ ((cd, .dK (bK B)) :: (bO B ++ ((pl, .lst (ps.map V.str)) :: (c, .lst (ns16.map V.int)) :: LR kp pd td D)))) H21 := h22.perm (by
        have := List.perm_append_comm (l₁ := HisO T A D.nl D.kvs D.tk D.ok) (l₂ := (cd, HO.dK (bK B)) :: (bO B ++ ((pl, .lst (ps.map V.str)) :: (c, .lst (ns16.map V.int)) :: LR kp pd td D)))
        rw [List.cons_append, List.append_assoc] at this
        exact this)
      have lr : D.rows.length < 60 := by
        have := congrArg List.length L.wr.nms
        rw [List.length_map, List.length_map] at this
        omega
      have oz : PyData.strOk z = true ∧ z.length ≤ 10000 := by
        rcases mz with m | m
        · have h := nok.nm z m
          have := (isNm_iff.mp h.1).l2
          exact ⟨h.2.1, by omega⟩
        · have h1 : ∀ y ∈ oddN, PyData.strOk y = true ∧ y.length ≤ 10000 := by decide +kernel
          exact h1 z m
      walk_at "gg"
      refine commitR_use h22 L19.his L19.vs (h22.get (List.mem_append_right _ (List.mem_cons_of_mem _ (List.mem_append_right _ (List.Mem.head _))))) cd22 (gt.trb (by omega)) gt.ltx asc mus oz.2 (by omega) lr (fun v23 F23 H23 nl23 k23 tk23 ok23 rows23 ts23 os23 s23 h23 f23 dv23 alt => ?_)
      have shd : Sh 1 (dueD (kn D.rows) z ps t us) := sh_due oz.1 okps fun y hy => by
        obtain ⟨p, hp, rfl⟩ := List.mem_map.mp ((mus y).mp hy)
        exact allP_ok _ (gt.pt p hp)
      have td23 := td19.up s23
      have f23' := s23 _ _ f19
      have dv19' := dv19.up s23 _ _
      walk_at "gg"
      refine g_neD dv23 (dv19'.up h23.same _ _) (shd.ok (by decide)) (shd.ok (by decide)) ?_
      rw [SeqAt.eqv_refl _ shd.1]
      walk_at "gg"
      have mpl : H23 pl = some (.lst (ps.map V.str)) := h23.get (List.mem_append_right _ (List.mem_cons_of_mem _ (List.mem_append_right _ (List.Mem.head _))))
      refine g_neD (Dq.strs (xs := ps) mpl) (Dq.strs (xs := ps) (h23.same _ _ f23')) (shps.ok (by decide)) (shps.ok (by decide)) ?_
      rw [SeqAt.eqv_refl _ shps.1]
      have h23 : Has F23 ((cd, .dK (bK B)) :: (bO B ++ ((pl, .lst (ps.map V.str)) :: (c, .lst (ns16.map V.int)) :: (LR kp pd td D ++ HisO T A nl23 k23 tk23 ok23)))) H23 := h23.perm (by
        have := List.perm_append_comm (l₁ := (cd, HO.dK (bK B)) :: (bO B ++ ((pl, .lst (ps.map V.str)) :: (c, .lst (ns16.map V.int)) :: LR kp pd td D))) (l₂ := HisO T A nl23 k23 tk23 ok23)
        rw [List.cons_append, List.append_assoc] at this
        exact this)
      obtain ⟨kd, hd23, ekd, ndd, dqd⟩ := td23
      walk_at "gg"
      refine g_listItems ?_
      walk_at "gg"
      refine g_items (h23.get (List.Mem.head _)) (fun p24 H24 ts24 s24 n24 e24 pd24 => ?_)
      have dqB : DqAll H23 ((bK B).map (·.2)) ((bA B).map fun p => txD p.2) := bK_dq fun b hb => h23.get (.tail _ (List.mem_append_left _ (List.mem_map.mpr ⟨b, hb, rfl⟩)))
      have d24 := dq_items pd24 (bK_keys B) (dqB.up s24 _ _)
      rw [eB] at d24
      have h24 := h23.on s24
      walk_at "gg"
      refine g_listItems ?_
      walk_at "gg"
      refine g_items (h24.same _ _ hd23) (fun p25 H25 ts25 s25 n25 e25 pd25 => ?_)
      have d25 := dq_items pd25 ekd (dqd.up (h24.same.trans s25) _ _)
      refine g_neD (d := itD t) (e := itD t) (.lst (s25 _ _ e24) (d24.up s25 _ _)) (.lst e25 d25) (sh_itD gt.ok) (sh_itD gt.ok) ?_
      rw [eqv_itD]
      have h25 := h24.on s25
      clear h23 h24 dqB d24 d25 pd24 pd25 dv23 mpl
      have mpl25 : H25 pl = some (.lst (ps.map V.str)) := h25.get (.tail _ (List.mem_append_right _ (List.Mem.head _)))
      walk_at "gg"
      refine g_append h25 (.tl (Chg.right .hd)) (szl (by rw [List.length_map]; omega)) (fun H26 h26 => ?_)
      walk_at "gg"
      refine k_forDK rfl hd23 h26 (fun i σ O' => ∃ (C : Bt) (y17 : Option V), σ = [some (.ref sc), some (.ref c), some (.ref nm), some (.ref A.h), some (.ref kp), some (.ref pd), some (.ref td), some (.ref sp), some (.int (k : Int)), some (.str z), some (.ref el), some (.ref od), some (.ref d), some v18, some (.ref pl), some (.ref cd), some v23, y17] ∧ bK C = bK B ∧ O' = (cd, .dK (bK C)) :: (bO C ++ ((pl, .lst (ps.map V.str ++ [V.str "spoilt"])) :: (c, .lst (ns16.map V.int)) :: (LR kp pd td D ++ HisO T A nl23 k23 tk23 ok23))) ∧ ∀ b ∈ C, b.2.2.length ≤ 42 + i) ⟨B, _, rfl, rfl, rfl, fun b hb => ?_⟩ ?_ ?_
      · have : (b.1, b.2.2) ∈ bA B := List.mem_map.mpr ⟨b, hb, rfl⟩
        rw [eB] at this
        exact (gt.tx _ this).1
      · rintro i ky v σ O' H27 olk ekv ⟨C, y17, rfl, eC, rfl, lC⟩ h27
        obtain ⟨pr, ep, rfl⟩ := tr_key ekd ekv
        have kC : C.map (·.1) = B.map (·.1) := by
          have := congrArg (List.map (·.1)) eC
          rw [bK_keys, bK_keys] at this
          have e : ∀ D : Bt, (bA D).map (fun p => kS p.1) = (D.map (·.1)).map kS := fun D => by
            unfold bA
            rw [List.map_map, List.map_map]
            rfl
          rw [e, e] at this
          exact (List.map_inj_right (fun a b h => Sum.inr.inj h)).mp this
        have li := (List.getElem?_eq_some_iff.mp ep).1
        have m : pr.1 ∈ C.map (·.1) := by
          rw [kC, ← bA_keys, eB]
          exact List.mem_map.mpr ⟨pr, List.mem_of_getElem? ep, rfl⟩
        obtain ⟨b, hb, eb⟩ := List.mem_map.mp m
        obtain ⟨j, hj⟩ := List.mem_iff_getElem?.mp hb
        have lb := lC b hb
        walk_at "gg"
        refine g_ixDS (h27.get (List.Mem.head _)) (by rw [← eb]; exact bK_at (by rw [kC]; exact ndB) hj) ?_
        have hb7 : H27 b.2.1 = some (.lst (b.2.2.map V.str)) := h27.get (List.mem_cons_of_mem _ (List.mem_append_left _ (List.mem_map.mpr ⟨b, hb, rfl⟩)))
        have cg : Chg ((cd, .dK (bK C)) :: (bO C ++ ((pl, .lst (ps.map V.str ++ [V.str "spoilt"])) :: (c, .lst (ns16.map V.int)) :: (LR kp pd td D ++ HisO T A nl23 k23 tk23 ok23)))) b.2.1 (.lst (b.2.2.map V.str)) (.lst (b.2.2.map V.str ++ [V.str "spoilt"])) ((cd, .dK (bK C)) :: (bO (C.set j (b.1, b.2.1, b.2.2 ++ (["spoilt"] : Tx))) ++ ((pl, .lst (ps.map V.str ++ [V.str "spoilt"])) :: (c, .lst (ns16.map V.int)) :: (LR kp pd td D ++ HisO T A nl23 k23 tk23 ok23)))) := by
          have := Chg.bt (t := b.2.2 ++ (["spoilt"] : Tx)) (O := (pl, .lst (ps.map V.str ++ [V.str "spoilt"])) :: (c, .lst (ns16.map V.int)) :: (LR kp pd td D ++ HisO T A nl23 k23 tk23 ok23)) hj
          rw [List.map_append] at this
          exact .tl this
        walk_at "gg"
        refine g_append h27 cg (szl (by rw [List.length_map]; omega)) (fun H28 h28 => ?_)
        walk_at "gg"
        have e3 := bK_set (t := b.2.2 ++ (["spoilt"] : Tx)) hj
        refine ⟨_, ⟨C.set j (b.1, b.2.1, b.2.2 ++ (["spoilt"] : Tx)), _, rfl, e3.trans eC, rfl, fun r hr => ?_⟩, by rw [e3]; exact h28⟩
        rcases List.mem_or_eq_of_mem_set hr with hr | rfl
        · have := lC r hr
          omega
        · show (b.2.2 ++ (["spoilt"] : Tx)).length ≤ _
          rw [List.length_append]
          show _ + 1 ≤ _
          omega
      · rintro σ O' H27 ⟨C, y17, rfl, eC, rfl, lC⟩ h27
        walk_at "gg"
        refine g_klst (by walk_at "sz") h27 (fun p28 H28 n28 h28 => ?_)
        have lC' : (bK C).length ≤ 60 := by
          rw [eC]
          have := congrArg List.length eB
          unfold bA at this
          unfold bK
          rw [List.length_map] at this ⊢
          omega
        walk_at "gg"
        refine g_stD (k := .inr "spoilt") rfl h28 (.tl .hd) (szl (by omega)) (fun H29 h29 => ?_)
        have h29 : Has F23 ((c, .lst (ns16.map V.int)) :: (LR kp pd td D ++ HisO T A nl23 k23 tk23 ok23)) H29 := h29.sub (.cons _ (.cons _ ((List.Sublist.cons _ (List.Sublist.refl _)).trans (List.sublist_append_right _ _))))
        have L23 := L19.mono s23
        walk_at "g"
        refine g_joinD (fun σ' H' => ∃ (F' : Hp) (D' : LD), σ' = [some (.ref sc), some (.ref c), some (.ref nm), some (.ref A.h), some (.ref kp), some (.ref pd), some (.ref td), some (.ref sp), some (.int (k : Int)), some (.str z), some (.ref el), some (.ref od), some (.ref d), some v18, some (.ref pl), some (.ref cd), some v23, y17] ∧ Same F23 F' ∧ Has F' ((c, .lst (ns16.map V.int)) :: LO T A kp pd td D') H' ∧ LF F' A nm names D' ∧ D'.PS.length ≤ k + 1) ?_ (fun nx key => ?_)
        · rintro σ' H30 ⟨F30, D', rfl, s30, h30, L30, lk30⟩
          have lks30 : (D'.PS.map (·.1)).length ≤ 7 := by rw [List.length_map]; omega
          have his30 := LO.his h30
          have at30 : HisAt T H30 A D'.rows D'.ts D'.os := HisF.at L30.his his30
          walk_at "gg"
          refine g_kmeth at30.i rfl ?_
          walk_at "gg"
          refine ⟨A, D'.rows, D'.ts, D'.os, rfl, at30, fun p31 H31 ns31 s31 n31 e31 asc31 m31 => ?_⟩
          have h31 := h30.on s31
          walk_at "gg"
          refine g_sortS (ns := D'.PS.map (·.1)) (h31.get (.tail _ (List.Mem.head _))) (by omega) (Has.start H31) (fun zs p32 H32 pm32 srt32 n32 h32 => ?_)
          have ezs : zs = ns31 := Asc.ext (asc_of srt32 (pm32.nodup_iff.mpr L30.wr.nd)) asc31 fun y => by rw [pm32.mem_iff, m31 y, L30.wr.nms]
          subst ezs
          have okz : ∀ y ∈ zs, PyData.strOk y = true := fun y hy => L30.ok y (pm32.mem_iff.mp hy)
          refine g_neD (Dq.strs (xs := zs) (h32.same _ _ e31)) (Dq.strs (xs := zs) (h32.get (List.Mem.head _))) ((Sh.strs (n := 0) okz).ok (by decide)) ((Sh.strs (n := 0) okz).ok (by decide)) ?_
          rw [SeqAt.eqv_refl _ (Sh.strs (n := 0) okz).1]
          walk_at "gg"
          exact ⟨F30, D', ns16, _, _, _, _, _, _, _, _, _, _, rfl, ((((s9.trans s11).trans s12).trans s12_17).trans s19).trans (s23.trans s30), h31.on h32.same, ok16, L30, lk30⟩
        · walk_at "gg"
          refine g_ktup (by walk_at "sz") h29 (fun p33 H33 n33 h33 => ?_)
          refine g_eqD (dv19'.up h33.same _ _) (dq_told (h33.get (List.Mem.head _))) (shd.ok (by decide)) (sh_told.ok (by decide)) ?_
          have h33 := h33.drop
          rcases due_good (rows := D.rows) (z := z) (ps := ps) (t := t) (us := us) with ⟨co, ed⟩ | ⟨nco, ed⟩
          · rw [ed, SeqAt.eqv_refl _ sh_told.1]
            obtain ⟨us', t', ao, er, et, eo, pu⟩ : ∃ us' t', AscOf t t' ∧ rows23 = D.rows ++ [(z, us')] ∧ ts23 = D.ts ++ [(z, t')] ∧ os23 = D.os ++ [(z, orgOf D.ts D.os z ps t')] ∧ PutU D.rows z ps us' := alt.elim (fun x => (x.1 co).elim) (fun x => x.2)
            subst er et eo
            have zn : z ∈ names := mz.resolve_right fun m => by
              have := oddN_no z m
              rw [co.nm] at this
              cases this
            have nz : z ∉ D.PS.map (·.1) := fun m => by
              have := (L.mem z).mp m
              rw [co.fr] at this
              cases this
            have nzT : valV D.tdk (.inr z) = none := by
              have := L23.tl.has z
              rw [getL_none.mpr (by rw [L.lk]; exact nz)] at this
              cases c : valV D.tdk (.inr z) with
              | none => rfl
              | some u => rw [c] at this; cases this
            have lT : D.tdk.length ≤ 7 := by
              have h1 := L23.tl.len
              have h2 := congrArg List.length L.lk
              rw [List.length_map, List.length_map] at h2
              omega
            have hk33 : H33 kp = some (.lst ((D.PS.map (·.1)).map V.str)) := h33.get (.tail _ (List.Mem.head _))
            walk_at "gg"
            refine g_append h33 (.tl .hd) (szl (by rw [List.length_map]; omega)) (fun H34 h34 => ?_)
            walk_at "gg"
            refine g_stD (k := .inr z) rfl h34 (.tl (.tl .hd)) (szl (by rw [L23.tv.len]; omega)) (fun H35 h35 => ?_)
            rw [putK_new _ (L23.tv.none nz)] at h35
            walk_at "gg"
            refine g_stD (k := .inr z) rfl h35 (.tl (.tl (.tl .hd))) (szl (by omega)) (fun H36 h36 => ?_)
            rw [putK_new _ nzT] at h36
            have LN := LF.snoc L23 (Same.refl F23) co ao pu f23 (L23.tv.snoc (Dq.strs (xs := ps) f23')) (L23.tl.snoc ⟨kd, hd23, ekd, ndd, dqd⟩) zn gt (by omega) lps (by omega)
            refine key _ _ ⟨F23, _, rfl, Same.refl _, ?_, LN, ?_⟩
            · have e : (D.PS.map (·.1)).map V.str ++ [V.str z] = ((D.PS ++ [(z, ps)]).map (·.1)).map V.str := by
                rw [List.map_append, List.map_append]
                rfl
              rw [e] at h36
              exact h36
            · show (D.PS ++ [(z, ps)]).length ≤ k + 1
              rw [List.length_append]
              show _ + 1 ≤ _
              omega
          · rw [ed]
            obtain ⟨er, et, eo⟩ : rows23 = D.rows ∧ ts23 = D.ts ∧ os23 = D.os := alt.elim (fun x => x.2) (fun x => (nco x.1).elim)
            subst er et eo
            walk_at "gg"
            refine key _ _ ⟨F23, ⟨nl23, k23, tk23, ok23, D.pk, D.tdk, D.rows, D.ts, D.os, D.lts, D.PS⟩, rfl, Same.refl _, h33, ⟨f23, L23.vs, L23.tv, L23.tl, L23.lk, L23.tk, L23.wr, L23.l6, L23.kin, L23.tr, L23.nm, L23.nok, L23.tu⟩, by show D.PS.length ≤ k + 1; omega⟩
  · rintro σ H9 ⟨F9, D, ns9, y8, y9, y10, y11, y12, y13, y14, y15, y16, y17, rfl, s9, h9, ok9, L, lk⟩
    have lk : D.PS.length ≤ 7 := lk
    have hs := LO.his h9
    walk_at "gg"
    refine ⟨A, D.rows, D.ts, D.os, nm, kp, pd, td, names, D.PS, D.lts, rfl, L.shown hs (h9.get (.tail _ (List.Mem.head _))) (h9.get (.tail _ (.tail _ (List.Mem.head _)))) (h9.get (.tail _ (.tail _ (.tail _ (List.Mem.head _))))), fun H10 s10 => ?_⟩
    have h10 := h9.on s10
    have at10 : HisAt T H10 A D.rows D.ts D.os := HisF.at L.his (LO.his h10)
    walk_at "gg"
    refine ⟨A, kp, D.rows, D.ts, D.os, (List.map (fun p : Str × Tx => p.1) D.PS), rfl, at10, h10.get (.tail _ (List.Mem.head _)), (fun z hz => ⟨(L.mem z).mp hz, L.ok z hz⟩), L.no3, fun H11 s11 => ?_⟩
    have h11 := h10.on s11
    walk_at "gg"
    exact ⟨A, F9, nm, kp, pd, td, names, D, rfl, LO.his h11, L, lk, fun H' => q H'⟩
end
end
set_option maxHeartbeats 4000000
theorem all_mk {l : PySem.W.OpenLaw} {w : World} {K : PySem.W.Frag} {h : Heap} {mg : Str → Option Value} {fa f1 f2 f3 f4 f5 f6 f7 f8 f9 f10 f11 f12 f13 f14 f15 f16 f17 f18 f19 f20 f21 f22 f23 f24 f25 f26 f27 f28 f29 f30 f31 f32 f33 f34 f35 f36 f37 f38 f39 f40 f41 f42 f43 f44 f45 f46 f47 f48 f49 f50 f51 f52 f53 f54 f55 f56 f57 f58 f59 f60 f61 c_Order c_History c_PartError c_BadText c_BadTree c_BadName c_Taken c_Unknown c_Repeated fi_BadText fi_BadTree fi_BadName fi_Taken fi_Unknown fi_Repeated : Addr} (X : K.In h) (G : h.Ns mainGlobals mg) (hfa : mg "law" = some (.ref fa))
    {od1 an1 od2 an2 od3 an3 od4 an4 od5 an5 od6 an6 od7 an7 od8 an8 od9 an9 od10 an10 od11 an11 od12 an12 od13 an13 od14 an14 od15 an15 od16 an16 od17 an17 od18 an18 od19 an19 od20 an20 od21 an21 od22 an22 od23 an23 od24 an24 od25 an25 od26 an26 od27 an27 od28 an28 od29 an29 od30 an30 od31 an31 od32 an32 od33 an33 od34 an34 od35 an35 od36 an36 od37 an37 od38 an38 od39 an39 od40 an40 od41 an41 od42 an42 od43 an43 od44 an44 od45 an45 od46 an46 od47 an47 od48 an48 od49 an49 od50 an50 od51 an51 od52 an52 od53 an53 od54 an54 od55 an55 od56 an56 od57 an57 od58 an58 od59 an59 od60 an60 od61 an61 : Option Addr} {sl1 sl2 sl3 sl4 sl5 sl6 sl7 sl8 sl9 sl10 sl11 sl12 sl13 sl14 sl15 sl16 sl17 sl18 sl19 sl20 sl21 sl22 sl23 sl24 sl25 sl26 sl27 sl28 sl29 sl30 sl31 sl32 sl33 sl34 sl35 sl36 sl37 sl38 sl39 sl40 sl41 sl42 sl43 sl44 sl45 sl46 sl47 sl48 sl49 sl50 sl51 sl52 sl53 sl54 sl55 sl56 sl57 sl58 sl59 sl60 sl61 : Array (Option Value)} {oc1 kV1 dc1 pm1 cd1 ct1 oc2 kV2 dc2 pm2 cd2 ct2 oc3 kV3 dc3 pm3 cd3 ct3 oc4 kV4 dc4 pm4 cd4 ct4 oc5 kV5 dc5 pm5 cd5 ct5 oc6 kV6 dc6 pm6 cd6 ct6 oc7 kV7 dc7 pm7 cd7 ct7 oc8 kV8 dc8 pm8 cd8 ct8 oc9 kV9 dc9 pm9 cd9 ct9 oc10 kV10 dc10 pm10 cd10 ct10 oc11 kV11 dc11 pm11 cd11 ct11 oc12 kV12 dc12 pm12 cd12 ct12 oc13 kV13 dc13 pm13 cd13 ct13 oc14 kV14 dc14 pm14 cd14 ct14 oc15 kV15 dc15 pm15 cd15 ct15 oc16 kV16 dc16 pm16 cd16 ct16 oc17 kV17 dc17 pm17 cd17 ct17 oc18 kV18 dc18 pm18 cd18 ct18 oc19 kV19 dc19 pm19 cd19 ct19 oc20 kV20 dc20 pm20 cd20 ct20 oc21 kV21 dc21 pm21 cd21 ct21 oc22 kV22 dc22 pm22 cd22 ct22 oc23 kV23 dc23 pm23 cd23 ct23 oc24 kV24 dc24 pm24 cd24 ct24 oc25 kV25 dc25 pm25 cd25 ct25 oc26 kV26 dc26 pm26 cd26 ct26 oc27 kV27 dc27 pm27 cd27 ct27 oc28 kV28 dc28 pm28 cd28 ct28 oc29 kV29 dc29 pm29 cd29 ct29 oc30 kV30 dc30 pm30 cd30 ct30 oc31 kV31 dc31 pm31 cd31 ct31 oc32 kV32 dc32 pm32 cd32 ct32 oc33 kV33 dc33 pm33 cd33 ct33 oc34 kV34 dc34 pm34 cd34 ct34 oc35 kV35 dc35 pm35 cd35 ct35 oc36 kV36 dc36 pm36 cd36 ct36 oc37 kV37 dc37 pm37 cd37 ct37 oc38 kV38 dc38 pm38 cd38 ct38 oc39 kV39 dc39 pm39 cd39 ct39 oc40 kV40 dc40 pm40 cd40 ct40 oc41 kV41 dc41 pm41 cd41 ct41 oc42 kV42 dc42 pm42 cd42 ct42 oc43 kV43 dc43 pm43 cd43 ct43 oc44 kV44 dc44 pm44 cd44 ct44 oc45 kV45 dc45 pm45 cd45 ct45 oc46 kV46 dc46 pm46 cd46 ct46 oc47 kV47 dc47 pm47 cd47 ct47 oc48 kV48 dc48 pm48 cd48 ct48 oc49 kV49 dc49 pm49 cd49 ct49 oc50 kV50 dc50 pm50 cd50 ct50 oc51 kV51 dc51 pm51 cd51 ct51 oc52 kV52 dc52 pm52 cd52 ct52 oc53 kV53 dc53 pm53 cd53 ct53 oc54 kV54 dc54 pm54 cd54 ct54 oc55 kV55 dc55 pm55 cd55 ct55 oc56 kV56 dc56 pm56 cd56 ct56 oc57 kV57 dc57 pm57 cd57 ct57 oc58 kV58 dc58 pm58 cd58 ct58 oc59 kV59 dc59 pm59 cd59 ct59 oc60 kV60 dc60 pm60 cd60 ct60 oc61 kV61 dc61 pm61 cd61 ct61 : Value}
    (ac_Order : PySem.W.nsIn K mainGlobals "Order" = some (some (.ref c_Order)))
    (pg_Order : PySem.W.plainGet K c_Order Str.empty = true)
    (hd_Order : PySem.W.hasDictIn K c_Order = true)
    (po_Order : PySem.W.plainOver K c_Order = true)
    (sa_Order : PySem.W.findIn K (.ref c_Order) "__setattr__" = some (some (.builtin "object.__setattr__")))
    (mk_Order : PySem.W.makesIn K c_Order = true)
    (kc_Order : PySem.W.keepIn K (.ref c_Order) = true)
    (na__names_Order : PySem.W.findIn K (.ref c_Order) "_names" = some none)
    (na__under_Order : PySem.W.findIn K (.ref c_Order) "_under" = some none)
    (ac_History : PySem.W.nsIn K mainGlobals "History" = some (some (.ref c_History)))
    (pg_History : PySem.W.plainGet K c_History Str.empty = true)
    (hd_History : PySem.W.hasDictIn K c_History = true)
    (po_History : PySem.W.plainOver K c_History = true)
    (sa_History : PySem.W.findIn K (.ref c_History) "__setattr__" = some (some (.builtin "object.__setattr__")))
    (mk_History : PySem.W.makesIn K c_History = true)
    (kc_History : PySem.W.keepIn K (.ref c_History) = true)
    (na__order_History : PySem.W.findIn K (.ref c_History) "_order" = some none)
    (na__trees_History : PySem.W.findIn K (.ref c_History) "_trees" = some none)
    (na__origins_History : PySem.W.findIn K (.ref c_History) "_origins" = some none)
    (na__tally_History : PySem.W.findIn K (.ref c_History) "_tally" = some none)
    (sf_History : PySem.W.selfFirst K c_History = true)
    (a1 : PySem.W.nsIn K mainGlobals "_common_lengths" = some (some (.ref f1))) (l1 : K.lookup f1 = some ⟨oc1, od1, .func (PySem.W.fnOf "_common_lengths" "_common_lengths" (defArgs s_common_lengths) (defBody s_common_lengths) (defScope s_common_lengths) .none kV1 dc1 pm1 an1 cd1 ct1), sl1⟩) (c1 : PySem.W.codeIn K cd1 "_common_lengths" = true) (k1 : PySem.W.keepIn K (.ref f1) = true)
    (a2 : PySem.W.nsIn K mainGlobals "matched" = some (some (.ref f2))) (l2 : K.lookup f2 = some ⟨oc2, od2, .func (PySem.W.fnOf "matched" "matched" (defArgs s_matched) (defBody s_matched) (defScope s_matched) .none kV2 dc2 pm2 an2 cd2 ct2), sl2⟩) (c2 : PySem.W.codeIn K cd2 "matched" = true) (k2 : PySem.W.keepIn K (.ref f2) = true)
    (a3 : PySem.W.nsIn K mainGlobals "line_origins" = some (some (.ref f3))) (l3 : K.lookup f3 = some ⟨oc3, od3, .func (PySem.W.fnOf "line_origins" "line_origins" (defArgs s_line_origins) (defBody s_line_origins) (defScope s_line_origins) .none kV3 dc3 pm3 an3 cd3 ct3), sl3⟩) (c3 : PySem.W.codeIn K cd3 "line_origins" = true) (k3 : PySem.W.keepIn K (.ref f3) = true)
    (a4 : PySem.W.nsIn K mainGlobals "is_line" = some (some (.ref f4))) (l4 : K.lookup f4 = some ⟨oc4, od4, .func (PySem.W.fnOf "is_line" "is_line" (defArgs s_is_line) (defBody s_is_line) (defScope s_is_line) .none kV4 dc4 pm4 an4 cd4 ct4), sl4⟩) (c4 : PySem.W.codeIn K cd4 "is_line" = true) (k4 : PySem.W.keepIn K (.ref f4) = true)
    (a5 : PySem.W.nsIn K mainGlobals "checked_text" = some (some (.ref f5))) (l5 : K.lookup f5 = some ⟨oc5, od5, .func (PySem.W.fnOf "checked_text" "checked_text" (defArgs s_checked_text) (defBody s_checked_text) (defScope s_checked_text) .none kV5 dc5 pm5 an5 cd5 ct5), sl5⟩) (c5 : PySem.W.codeIn K cd5 "checked_text" = true) (k5 : PySem.W.keepIn K (.ref f5) = true)
    (a6 : PySem.W.nsIn K mainGlobals "_is_word" = some (some (.ref f6))) (l6 : K.lookup f6 = some ⟨oc6, od6, .func (PySem.W.fnOf "_is_word" "_is_word" (defArgs s_is_word) (defBody s_is_word) (defScope s_is_word) .none kV6 dc6 pm6 an6 cd6 ct6), sl6⟩) (c6 : PySem.W.codeIn K cd6 "_is_word" = true) (k6 : PySem.W.keepIn K (.ref f6) = true)
    (a7 : PySem.W.nsIn K mainGlobals "is_path" = some (some (.ref f7))) (l7 : K.lookup f7 = some ⟨oc7, od7, .func (PySem.W.fnOf "is_path" "is_path" (defArgs s_is_path) (defBody s_is_path) (defScope s_is_path) .none kV7 dc7 pm7 an7 cd7 ct7), sl7⟩) (c7 : PySem.W.codeIn K cd7 "is_path" = true) (k7 : PySem.W.keepIn K (.ref f7) = true)
    (a8 : PySem.W.nsIn K mainGlobals "checked_tree" = some (some (.ref f8))) (l8 : K.lookup f8 = some ⟨oc8, od8, .func (PySem.W.fnOf "checked_tree" "checked_tree" (defArgs s_checked_tree) (defBody s_checked_tree) (defScope s_checked_tree) .none kV8 dc8 pm8 an8 cd8 ct8), sl8⟩) (c8 : PySem.W.codeIn K cd8 "checked_tree" = true) (k8 : PySem.W.keepIn K (.ref f8) = true)
    (a9 : PySem.W.nsIn K mainGlobals "files_of" = some (some (.ref f9))) (l9 : K.lookup f9 = some ⟨oc9, od9, .func (PySem.W.fnOf "files_of" "files_of" (defArgs s_files_of) (defBody s_files_of) (defScope s_files_of) .none kV9 dc9 pm9 an9 cd9 ct9), sl9⟩) (c9 : PySem.W.codeIn K cd9 "files_of" = true) (k9 : PySem.W.keepIn K (.ref f9) = true)
    (a10 : PySem.W.nsIn K mainGlobals "tree_of" = some (some (.ref f10))) (l10 : K.lookup f10 = some ⟨oc10, od10, .func (PySem.W.fnOf "tree_of" "tree_of" (defArgs s_tree_of) (defBody s_tree_of) (defScope s_tree_of) .none kV10 dc10 pm10 an10 cd10 ct10), sl10⟩) (c10 : PySem.W.codeIn K cd10 "tree_of" = true) (k10 : PySem.W.keepIn K (.ref f10) = true)
    (a11 : PySem.W.nsIn K mainGlobals "is_name" = some (some (.ref f11))) (l11 : K.lookup f11 = some ⟨oc11, od11, .func (PySem.W.fnOf "is_name" "is_name" (defArgs s_is_name) (defBody s_is_name) (defScope s_is_name) .none kV11 dc11 pm11 an11 cd11 ct11), sl11⟩) (c11 : PySem.W.codeIn K cd11 "is_name" = true) (k11 : PySem.W.keepIn K (.ref f11) = true)
    (a12 : PySem.W.nsIn K mainGlobals "restricted" = some (some (.ref f12))) (l12 : K.lookup f12 = some ⟨oc12, od12, .func (PySem.W.fnOf "restricted" "restricted" (defArgs s_restricted) (defBody s_restricted) (defScope s_restricted) .none kV12 dc12 pm12 an12 cd12 ct12), sl12⟩) (c12 : PySem.W.codeIn K cd12 "restricted" = true) (k12 : PySem.W.keepIn K (.ref f12) = true)
    (a13 : PySem.W.nsIn K mainGlobals "_copy_of" = some (some (.ref f13))) (l13 : K.lookup f13 = some ⟨oc13, od13, .func (PySem.W.fnOf "_copy_of" "_copy_of" (defArgs s_copy_of) (defBody s_copy_of) (defScope s_copy_of) .none kV13 dc13 pm13 an13 cd13 ct13), sl13⟩) (c13 : PySem.W.codeIn K cd13 "_copy_of" = true) (k13 : PySem.W.keepIn K (.ref f13) = true)
    (a14 : PySem.W.nsIn K mainGlobals "_law_feed" = some (some (.ref f14))) (l14 : K.lookup f14 = some ⟨oc14, od14, .func (PySem.W.fnOf "_law_feed" "_law_feed" (defArgs s_l_feed) (defBody s_l_feed) (defScope s_l_feed) .none kV14 dc14 pm14 an14 cd14 ct14), sl14⟩) (c14 : PySem.W.codeIn K cd14 "_law_feed" = true) (k14 : PySem.W.keepIn K (.ref f14) = true)
    (a15 : PySem.W.nsIn K mainGlobals "_law_next" = some (some (.ref f15))) (l15 : K.lookup f15 = some ⟨oc15, od15, .func (PySem.W.fnOf "_law_next" "_law_next" (defArgs s_l_next) (defBody s_l_next) (defScope s_l_next) .none kV15 dc15 pm15 an15 cd15 ct15), sl15⟩) (c15 : PySem.W.codeIn K cd15 "_law_next" = true) (k15 : PySem.W.keepIn K (.ref f15) = true)
    (a16 : PySem.W.nsIn K mainGlobals "_law_new_names" = some (some (.ref f16))) (l16 : K.lookup f16 = some ⟨oc16, od16, .func (PySem.W.fnOf "_law_new_names" "_law_new_names" (defArgs s_l_new_names) (defBody s_l_new_names) (defScope s_l_new_names) .none kV16 dc16 pm16 an16 cd16 ct16), sl16⟩) (c16 : PySem.W.codeIn K cd16 "_law_new_names" = true) (k16 : PySem.W.keepIn K (.ref f16) = true)
    (a17 : PySem.W.nsIn K mainGlobals "_law_pasts" = some (some (.ref f17))) (l17 : K.lookup f17 = some ⟨oc17, od17, .func (PySem.W.fnOf "_law_pasts" "_law_pasts" (defArgs s_l_pasts) (defBody s_l_pasts) (defScope s_l_pasts) .none kV17 dc17 pm17 an17 cd17 ct17), sl17⟩) (c17 : PySem.W.codeIn K cd17 "_law_pasts" = true) (k17 : PySem.W.keepIn K (.ref f17) = true)
    (a18 : PySem.W.nsIn K mainGlobals "_law_new_shape" = some (some (.ref f18))) (l18 : K.lookup f18 = some ⟨oc18, od18, .func (PySem.W.fnOf "_law_new_shape" "_law_new_shape" (defArgs s_l_new_shape) (defBody s_l_new_shape) (defScope s_l_new_shape) .none kV18 dc18 pm18 an18 cd18 ct18), sl18⟩) (c18 : PySem.W.codeIn K cd18 "_law_new_shape" = true) (k18 : PySem.W.keepIn K (.ref f18) = true)
    (a19 : PySem.W.nsIn K mainGlobals "_law_new_text" = some (some (.ref f19))) (l19 : K.lookup f19 = some ⟨oc19, od19, .func (PySem.W.fnOf "_law_new_text" "_law_new_text" (defArgs s_l_new_text) (defBody s_l_new_text) (defScope s_l_new_text) .none kV19 dc19 pm19 an19 cd19 ct19), sl19⟩) (c19 : PySem.W.codeIn K cd19 "_law_new_text" = true) (k19 : PySem.W.keepIn K (.ref f19) = true)
    (a20 : PySem.W.nsIn K mainGlobals "_law_new_tree" = some (some (.ref f20))) (l20 : K.lookup f20 = some ⟨oc20, od20, .func (PySem.W.fnOf "_law_new_tree" "_law_new_tree" (defArgs s_l_new_tree) (defBody s_l_new_tree) (defScope s_l_new_tree) .none kV20 dc20 pm20 an20 cd20 ct20), sl20⟩) (c20 : PySem.W.codeIn K cd20 "_law_new_tree" = true) (k20 : PySem.W.keepIn K (.ref f20) = true)
    (a21 : PySem.W.nsIn K mainGlobals "_law_copied" = some (some (.ref f21))) (l21 : K.lookup f21 = some ⟨oc21, od21, .func (PySem.W.fnOf "_law_copied" "_law_copied" (defArgs s_l_copied) (defBody s_l_copied) (defScope s_l_copied) .none kV21 dc21 pm21 an21 cd21 ct21), sl21⟩) (c21 : PySem.W.codeIn K cd21 "_law_copied" = true) (k21 : PySem.W.keepIn K (.ref f21) = true)
    (a22 : PySem.W.nsIn K mainGlobals "_law_fault" = some (some (.ref f22))) (l22 : K.lookup f22 = some ⟨oc22, od22, .func (PySem.W.fnOf "_law_fault" "_law_fault" (defArgs s_l_fault) (defBody s_l_fault) (defScope s_l_fault) .none kV22 dc22 pm22 an22 cd22 ct22), sl22⟩) (c22 : PySem.W.codeIn K cd22 "_law_fault" = true) (k22 : PySem.W.keepIn K (.ref f22) = true)
    (a23 : PySem.W.nsIn K mainGlobals "_law_commit" = some (some (.ref f23))) (l23 : K.lookup f23 = some ⟨oc23, od23, .func (PySem.W.fnOf "_law_commit" "_law_commit" (defArgs s_l_commit) (defBody s_l_commit) (defScope s_l_commit) .none kV23 dc23 pm23 an23 cd23 ct23), sl23⟩) (c23 : PySem.W.codeIn K cd23 "_law_commit" = true) (k23 : PySem.W.keepIn K (.ref f23) = true)
    (a24 : PySem.W.nsIn K mainGlobals "_law_asked" = some (some (.ref f24))) (l24 : K.lookup f24 = some ⟨oc24, od24, .func (PySem.W.fnOf "_law_asked" "_law_asked" (defArgs s_l_asked) (defBody s_l_asked) (defScope s_l_asked) .none kV24 dc24 pm24 an24 cd24 ct24), sl24⟩) (c24 : PySem.W.codeIn K cd24 "_law_asked" = true) (k24 : PySem.W.keepIn K (.ref f24) = true)
    (a25 : PySem.W.nsIn K mainGlobals "_law_odd_names" = some (some (.ref f25))) (l25 : K.lookup f25 = some ⟨oc25, od25, .func (PySem.W.fnOf "_law_odd_names" "_law_odd_names" (defArgs s_l_odd_names) (defBody s_l_odd_names) (defScope s_l_odd_names) .none kV25 dc25 pm25 an25 cd25 ct25), sl25⟩) (c25 : PySem.W.codeIn K cd25 "_law_odd_names" = true) (k25 : PySem.W.keepIn K (.ref f25) = true)
    (a26 : PySem.W.nsIn K mainGlobals "_law_odd_paths" = some (some (.ref f26))) (l26 : K.lookup f26 = some ⟨oc26, od26, .func (PySem.W.fnOf "_law_odd_paths" "_law_odd_paths" (defArgs s_l_odd_paths) (defBody s_l_odd_paths) (defScope s_l_odd_paths) .none kV26 dc26 pm26 an26 cd26 ct26), sl26⟩) (c26 : PySem.W.codeIn K cd26 "_law_odd_paths" = true) (k26 : PySem.W.keepIn K (.ref f26) = true)
    (a27 : PySem.W.nsIn K mainGlobals "_law_odd_lines" = some (some (.ref f27))) (l27 : K.lookup f27 = some ⟨oc27, od27, .func (PySem.W.fnOf "_law_odd_lines" "_law_odd_lines" (defArgs s_l_odd_lines) (defBody s_l_odd_lines) (defScope s_l_odd_lines) .none kV27 dc27 pm27 an27 cd27 ct27), sl27⟩) (c27 : PySem.W.codeIn K cd27 "_law_odd_lines" = true) (k27 : PySem.W.keepIn K (.ref f27) = true)
    (a28 : PySem.W.nsIn K mainGlobals "_law_called" = some (some (.ref f28))) (l28 : K.lookup f28 = some ⟨oc28, od28, .func (PySem.W.fnOf "_law_called" "_law_called" (defArgs s_l_called) (defBody s_l_called) (defScope s_l_called) .none kV28 dc28 pm28 an28 cd28 ct28), sl28⟩) (c28 : PySem.W.codeIn K cd28 "_law_called" = true) (k28 : PySem.W.keepIn K (.ref f28) = true)
    (a29 : PySem.W.nsIn K mainGlobals "_law_new_elders" = some (some (.ref f29))) (l29 : K.lookup f29 = some ⟨oc29, od29, .func (PySem.W.fnOf "_law_new_elders" "_law_new_elders" (defArgs s_l_new_elders) (defBody s_l_new_elders) (defScope s_l_new_elders) .none kV29 dc29 pm29 an29 cd29 ct29), sl29⟩) (c29 : PySem.W.codeIn K cd29 "_law_new_elders" = true) (k29 : PySem.W.keepIn K (.ref f29) = true)
    (a30 : PySem.W.nsIn K mainGlobals "_law_spoil" = some (some (.ref f30))) (l30 : K.lookup f30 = some ⟨oc30, od30, .func (PySem.W.fnOf "_law_spoil" "_law_spoil" (defArgs s_l_spoil) (defBody s_l_spoil) (defScope s_l_spoil) .none kV30 dc30 pm30 an30 cd30 ct30), sl30⟩) (c30 : PySem.W.codeIn K cd30 "_law_spoil" = true) (k30 : PySem.W.keepIn K (.ref f30) = true)
    (a31 : PySem.W.nsIn K mainGlobals "_law_own_due" = some (some (.ref f31))) (l31 : K.lookup f31 = some ⟨oc31, od31, .func (PySem.W.fnOf "_law_own_due" "_law_own_due" (defArgs s_l_own_due) (defBody s_l_own_due) (defScope s_l_own_due) .none kV31 dc31 pm31 an31 cd31 ct31), sl31⟩) (c31 : PySem.W.codeIn K cd31 "_law_own_due" = true) (k31 : PySem.W.keepIn K (.ref f31) = true)
    (a32 : PySem.W.nsIn K mainGlobals "_law_truth" = some (some (.ref f32))) (l32 : K.lookup f32 = some ⟨oc32, od32, .func (PySem.W.fnOf "_law_truth" "_law_truth" (defArgs s_l_truth) (defBody s_l_truth) (defScope s_l_truth) .none kV32 dc32 pm32 an32 cd32 ct32), sl32⟩) (c32 : PySem.W.codeIn K cd32 "_law_truth" = true) (k32 : PySem.W.keepIn K (.ref f32) = true)
    (a33 : PySem.W.nsIn K mainGlobals "_law_named" = some (some (.ref f33))) (l33 : K.lookup f33 = some ⟨oc33, od33, .func (PySem.W.fnOf "_law_named" "_law_named" (defArgs s_l_named) (defBody s_l_named) (defScope s_l_named) .none kV33 dc33 pm33 an33 cd33 ct33), sl33⟩) (c33 : PySem.W.codeIn K cd33 "_law_named" = true) (k33 : PySem.W.keepIn K (.ref f33) = true)
    (a34 : PySem.W.nsIn K mainGlobals "_law_treed" = some (some (.ref f34))) (l34 : K.lookup f34 = some ⟨oc34, od34, .func (PySem.W.fnOf "_law_treed" "_law_treed" (defArgs s_l_treed) (defBody s_l_treed) (defScope s_l_treed) .none kV34 dc34 pm34 an34 cd34 ct34), sl34⟩) (c34 : PySem.W.codeIn K cd34 "_law_treed" = true) (k34 : PySem.W.keepIn K (.ref f34) = true)
    (a35 : PySem.W.nsIn K mainGlobals "_law_shown" = some (some (.ref f35))) (l35 : K.lookup f35 = some ⟨oc35, od35, .func (PySem.W.fnOf "_law_shown" "_law_shown" (defArgs s_l_shown) (defBody s_l_shown) (defScope s_l_shown) .none kV35 dc35 pm35 an35 cd35 ct35), sl35⟩) (c35 : PySem.W.codeIn K cd35 "_law_shown" = true) (k35 : PySem.W.keepIn K (.ref f35) = true)
    (a36 : PySem.W.nsIn K mainGlobals "_law_refused" = some (some (.ref f36))) (l36 : K.lookup f36 = some ⟨oc36, od36, .func (PySem.W.fnOf "_law_refused" "_law_refused" (defArgs s_l_refused) (defBody s_l_refused) (defScope s_l_refused) .none kV36 dc36 pm36 an36 cd36 ct36), sl36⟩) (c36 : PySem.W.codeIn K cd36 "_law_refused" = true) (k36 : PySem.W.keepIn K (.ref f36) = true)
    (a37 : PySem.W.nsIn K mainGlobals "_law_ended" = some (some (.ref f37))) (l37 : K.lookup f37 = some ⟨oc37, od37, .func (PySem.W.fnOf "_law_ended" "_law_ended" (defArgs s_l_ended) (defBody s_l_ended) (defScope s_l_ended) .none kV37 dc37 pm37 an37 cd37 ct37), sl37⟩) (c37 : PySem.W.codeIn K cd37 "_law_ended" = true) (k37 : PySem.W.keepIn K (.ref f37) = true)
    (a38 : PySem.W.nsIn K mainGlobals "law" = some (some (.ref f38))) (l38 : K.lookup f38 = some ⟨oc38, od38, .func (PySem.W.fnOf "law" "law" (defArgs s_law) (defBody s_law) (defScope s_law) .none kV38 dc38 pm38 an38 cd38 ct38), sl38⟩) (c38 : PySem.W.codeIn K cd38 "law" = true) (k38 : PySem.W.keepIn K (.ref f38) = true)
    (a39 : PySem.W.findIn K (.ref c_Order) "__init__" = some (some (.ref f39))) (i39 : PySem.W.isFn K (.ref f39) = true) (l39 : K.lookup f39 = some ⟨oc39, od39, .func (PySem.W.fnOf "__init__" "Order.__init__" (defArgs s_Order___init__) (defBody s_Order___init__) (defScope s_Order___init__) .none kV39 dc39 pm39 an39 cd39 ct39), sl39⟩) (c39 : PySem.W.codeIn K cd39 "Order.__init__" = true) (k39 : PySem.W.keepIn K (.ref f39) = true)
    (a40 : PySem.W.findIn K (.ref c_Order) "put" = some (some (.ref f40))) (i40 : PySem.W.isFn K (.ref f40) = true) (l40 : K.lookup f40 = some ⟨oc40, od40, .func (PySem.W.fnOf "put" "Order.put" (defArgs s_Order_put) (defBody s_Order_put) (defScope s_Order_put) .none kV40 dc40 pm40 an40 cd40 ct40), sl40⟩) (c40 : PySem.W.codeIn K cd40 "Order.put" = true) (k40 : PySem.W.keepIn K (.ref f40) = true)
    (a41 : PySem.W.findIn K (.ref c_Order) "__iter__" = some (some (.ref f41))) (i41 : PySem.W.isFn K (.ref f41) = true) (l41 : K.lookup f41 = some ⟨oc41, od41, .func (PySem.W.fnOf "__iter__" "Order.__iter__" (defArgs s_Order___iter__) (defBody s_Order___iter__) (defScope s_Order___iter__) .none kV41 dc41 pm41 an41 cd41 ct41), sl41⟩) (c41 : PySem.W.codeIn K cd41 "Order.__iter__" = true) (k41 : PySem.W.keepIn K (.ref f41) = true)
    (a42 : PySem.W.findIn K (.ref c_Order) "names" = some (some (.ref f42))) (i42 : PySem.W.isFn K (.ref f42) = true) (l42 : K.lookup f42 = some ⟨oc42, od42, .func (PySem.W.fnOf "names" "Order.names" (defArgs s_Order_names) (defBody s_Order_names) (defScope s_Order_names) .none kV42 dc42 pm42 an42 cd42 ct42), sl42⟩) (c42 : PySem.W.codeIn K cd42 "Order.names" = true) (k42 : PySem.W.keepIn K (.ref f42) = true)
    (a43 : PySem.W.findIn K (.ref c_Order) "has" = some (some (.ref f43))) (i43 : PySem.W.isFn K (.ref f43) = true) (l43 : K.lookup f43 = some ⟨oc43, od43, .func (PySem.W.fnOf "has" "Order.has" (defArgs s_Order_has) (defBody s_Order_has) (defScope s_Order_has) .none kV43 dc43 pm43 an43 cd43 ct43), sl43⟩) (c43 : PySem.W.codeIn K cd43 "Order.has" = true) (k43 : PySem.W.keepIn K (.ref f43) = true)
    (a44 : PySem.W.findIn K (.ref c_Order) "under" = some (some (.ref f44))) (i44 : PySem.W.isFn K (.ref f44) = true) (l44 : K.lookup f44 = some ⟨oc44, od44, .func (PySem.W.fnOf "under" "Order.under" (defArgs s_Order_under) (defBody s_Order_under) (defScope s_Order_under) .none kV44 dc44 pm44 an44 cd44 ct44), sl44⟩) (c44 : PySem.W.codeIn K cd44 "Order.under" = true) (k44 : PySem.W.keepIn K (.ref f44) = true)
    (a45 : PySem.W.findIn K (.ref c_Order) "is_under" = some (some (.ref f45))) (i45 : PySem.W.isFn K (.ref f45) = true) (l45 : K.lookup f45 = some ⟨oc45, od45, .func (PySem.W.fnOf "is_under" "Order.is_under" (defArgs s_Order_is_under) (defBody s_Order_is_under) (defScope s_Order_is_under) .none kV45 dc45 pm45 an45 cd45 ct45), sl45⟩) (c45 : PySem.W.codeIn K cd45 "Order.is_under" = true) (k45 : PySem.W.keepIn K (.ref f45) = true)
    (a46 : PySem.W.findIn K (.ref c_Order) "nearest" = some (some (.ref f46))) (i46 : PySem.W.isFn K (.ref f46) = true) (l46 : K.lookup f46 = some ⟨oc46, od46, .func (PySem.W.fnOf "nearest" "Order.nearest" (defArgs s_Order_nearest) (defBody s_Order_nearest) (defScope s_Order_nearest) .none kV46 dc46 pm46 an46 cd46 ct46), sl46⟩) (c46 : PySem.W.codeIn K cd46 "Order.nearest" = true) (k46 : PySem.W.keepIn K (.ref f46) = true)
    (a47 : PySem.W.findIn K (.ref c_Order) "checked" = some (some (.ref f47))) (i47 : PySem.W.isFn K (.ref f47) = true) (l47 : K.lookup f47 = some ⟨oc47, od47, .func (PySem.W.fnOf "checked" "Order.checked" (defArgs s_Order_checked) (defBody s_Order_checked) (defScope s_Order_checked) .none kV47 dc47 pm47 an47 cd47 ct47), sl47⟩) (c47 : PySem.W.codeIn K cd47 "Order.checked" = true) (k47 : PySem.W.keepIn K (.ref f47) = true)
    (a48 : PySem.W.findIn K (.ref c_History) "__init__" = some (some (.ref f48))) (i48 : PySem.W.isFn K (.ref f48) = true) (l48 : K.lookup f48 = some ⟨oc48, od48, .func (PySem.W.fnOf "__init__" "History.__init__" (defArgs s_History___init__) (defBody s_History___init__) (defScope s_History___init__) .none kV48 dc48 pm48 an48 cd48 ct48), sl48⟩) (c48 : PySem.W.codeIn K cd48 "History.__init__" = true) (k48 : PySem.W.keepIn K (.ref f48) = true)
    (a49 : PySem.W.findIn K (.ref c_History) "_put" = some (some (.ref f49))) (i49 : PySem.W.isFn K (.ref f49) = true) (l49 : K.lookup f49 = some ⟨oc49, od49, .func (PySem.W.fnOf "_put" "History._put" (defArgs s_History__put) (defBody s_History__put) (defScope s_History__put) .none kV49 dc49 pm49 an49 cd49 ct49), sl49⟩) (c49 : PySem.W.codeIn K cd49 "History._put" = true) (k49 : PySem.W.keepIn K (.ref f49) = true)
    (a50 : PySem.W.findIn K (.ref c_History) "_grow" = some (some (.ref f50))) (i50 : PySem.W.isFn K (.ref f50) = true) (l50 : K.lookup f50 = some ⟨oc50, od50, .func (PySem.W.fnOf "_grow" "History._grow" (defArgs s_History__grow) (defBody s_History__grow) (defScope s_History__grow) .none kV50 dc50 pm50 an50 cd50 ct50), sl50⟩) (c50 : PySem.W.codeIn K cd50 "History._grow" = true) (k50 : PySem.W.keepIn K (.ref f50) = true)
    (a51 : PySem.W.findIn K (.ref c_History) "_check_new" = some (some (.ref f51))) (i51 : PySem.W.isFn K (.ref f51) = true) (l51 : K.lookup f51 = some ⟨oc51, od51, .func (PySem.W.fnOf "_check_new" "History._check_new" (defArgs s_History__check_new) (defBody s_History__check_new) (defScope s_History__check_new) .none kV51 dc51 pm51 an51 cd51 ct51), sl51⟩) (c51 : PySem.W.codeIn K cd51 "History._check_new" = true) (k51 : PySem.W.keepIn K (.ref f51) = true)
    (a52 : PySem.W.findIn K (.ref c_History) "_check_known" = some (some (.ref f52))) (i52 : PySem.W.isFn K (.ref f52) = true) (l52 : K.lookup f52 = some ⟨oc52, od52, .func (PySem.W.fnOf "_check_known" "History._check_known" (defArgs s_History__check_known) (defBody s_History__check_known) (defScope s_History__check_known) .none kV52 dc52 pm52 an52 cd52 ct52), sl52⟩) (c52 : PySem.W.codeIn K cd52 "History._check_known" = true) (k52 : PySem.W.keepIn K (.ref f52) = true)
    (a53 : PySem.W.findIn K (.ref c_History) "names" = some (some (.ref f53))) (i53 : PySem.W.isFn K (.ref f53) = true) (l53 : K.lookup f53 = some ⟨oc53, od53, .func (PySem.W.fnOf "names" "History.names" (defArgs s_History_names) (defBody s_History_names) (defScope s_History_names) .none kV53 dc53 pm53 an53 cd53 ct53), sl53⟩) (c53 : PySem.W.codeIn K cd53 "History.names" = true) (k53 : PySem.W.keepIn K (.ref f53) = true)
    (a54 : PySem.W.findIn K (.ref c_History) "__contains__" = some (some (.ref f54))) (i54 : PySem.W.isFn K (.ref f54) = true) (l54 : K.lookup f54 = some ⟨oc54, od54, .func (PySem.W.fnOf "__contains__" "History.__contains__" (defArgs s_History___contains__) (defBody s_History___contains__) (defScope s_History___contains__) .none kV54 dc54 pm54 an54 cd54 ct54), sl54⟩) (c54 : PySem.W.codeIn K cd54 "History.__contains__" = true) (k54 : PySem.W.keepIn K (.ref f54) = true)
    (a55 : PySem.W.findIn K (.ref c_History) "commit" = some (some (.ref f55))) (i55 : PySem.W.isFn K (.ref f55) = true) (l55 : K.lookup f55 = some ⟨oc55, od55, .func (PySem.W.fnOf "commit" "History.commit" (defArgs s_History_commit) (defBody s_History_commit) (defScope s_History_commit) .none kV55 dc55 pm55 an55 cd55 ct55), sl55⟩) (c55 : PySem.W.codeIn K cd55 "History.commit" = true) (k55 : PySem.W.keepIn K (.ref f55) = true)
    (a56 : PySem.W.findIn K (.ref c_History) "tree" = some (some (.ref f56))) (i56 : PySem.W.isFn K (.ref f56) = true) (l56 : K.lookup f56 = some ⟨oc56, od56, .func (PySem.W.fnOf "tree" "History.tree" (defArgs s_History_tree) (defBody s_History_tree) (defScope s_History_tree) .none kV56 dc56 pm56 an56 cd56 ct56), sl56⟩) (c56 : PySem.W.codeIn K cd56 "History.tree" = true) (k56 : PySem.W.keepIn K (.ref f56) = true)
    (a57 : PySem.W.findIn K (.ref c_History) "origins" = some (some (.ref f57))) (i57 : PySem.W.isFn K (.ref f57) = true) (l57 : K.lookup f57 = some ⟨oc57, od57, .func (PySem.W.fnOf "origins" "History.origins" (defArgs s_History_origins) (defBody s_History_origins) (defScope s_History_origins) .none kV57 dc57 pm57 an57 cd57 ct57), sl57⟩) (c57 : PySem.W.codeIn K cd57 "History.origins" = true) (k57 : PySem.W.keepIn K (.ref f57) = true)
    (a58 : PySem.W.findIn K (.ref c_History) "is_under" = some (some (.ref f58))) (i58 : PySem.W.isFn K (.ref f58) = true) (l58 : K.lookup f58 = some ⟨oc58, od58, .func (PySem.W.fnOf "is_under" "History.is_under" (defArgs s_History_is_under) (defBody s_History_is_under) (defScope s_History_is_under) .none kV58 dc58 pm58 an58 cd58 ct58), sl58⟩) (c58 : PySem.W.codeIn K cd58 "History.is_under" = true) (k58 : PySem.W.keepIn K (.ref f58) = true)
    (a59 : PySem.W.findIn K (.ref c_History) "order" = some (some (.ref f59))) (i59 : PySem.W.isFn K (.ref f59) = true) (l59 : K.lookup f59 = some ⟨oc59, od59, .func (PySem.W.fnOf "order" "History.order" (defArgs s_History_order) (defBody s_History_order) (defScope s_History_order) .none kV59 dc59 pm59 an59 cd59 ct59), sl59⟩) (c59 : PySem.W.codeIn K cd59 "History.order" = true) (k59 : PySem.W.keepIn K (.ref f59) = true)
    (a60 : PySem.W.findIn K (.ref c_History) "facts" = some (some (.ref f60))) (i60 : PySem.W.isFn K (.ref f60) = true) (l60 : K.lookup f60 = some ⟨oc60, od60, .func (PySem.W.fnOf "facts" "History.facts" (defArgs s_History_facts) (defBody s_History_facts) (defScope s_History_facts) .none kV60 dc60 pm60 an60 cd60 ct60), sl60⟩) (c60 : PySem.W.codeIn K cd60 "History.facts" = true) (k60 : PySem.W.keepIn K (.ref f60) = true)
    (a61 : PySem.W.findIn K (.ref c_History) "copied" = some (some (.ref f61))) (i61 : PySem.W.isFn K (.ref f61) = true) (l61 : K.lookup f61 = some ⟨oc61, od61, .func (PySem.W.fnOf "copied" "History.copied" (defArgs s_History_copied) (defBody s_History_copied) (defScope s_History_copied) .none kV61 dc61 pm61 an61 cd61 ct61), sl61⟩) (c61 : PySem.W.codeIn K cd61 "History.copied" = true) (k61 : PySem.W.keepIn K (.ref f61) = true)
    (ac_PartError : PySem.W.nsIn K mainGlobals "PartError" = some (some (.ref c_PartError)))
    (ec_PartError : PySem.W.subIn K (.ref c_PartError) (.type "BaseException") = some true)
    (tc_PartError : PySem.W.typeIn K (.ref c_PartError) = some (.type "type"))
    (ic_PartError : PySem.W.isClsIn K c_PartError = true)
    (ac_BadText : PySem.W.nsIn K mainGlobals "BadText" = some (some (.ref c_BadText)))
    (ec_BadText : PySem.W.subIn K (.ref c_BadText) (.type "BaseException") = some true)
    (tc_BadText : PySem.W.typeIn K (.ref c_BadText) = some (.type "type"))
    (ic_BadText : PySem.W.isClsIn K c_BadText = true)
    {nm_BadText q_BadText : Str} {ns_BadText : Addr} {bs_BadText : List Value} {sn_BadText : List Str} {sub_BadText : List Value} {ab_BadText : Bool} {col_BadText : Option Bool} {dd_BadText : Option Addr} {m0_BadText m1_BadText m2_BadText m3_BadText m5_BadText : Option Value}
    (xL_BadText : K.lookup c_BadText = some (excClassObj nm_BadText q_BadText c_BadText ns_BadText bs_BadText [.ref c_PartError, .type "ValueError", .type "Exception", .type "BaseException", .type "object"] true sn_BadText sub_BadText ab_BadText col_BadText dd_BadText m0_BadText m1_BadText m2_BadText m3_BadText m5_BadText "ValueError.__new__"))
    (sa_BadText : PySem.W.findIn K (.ref c_BadText) "__setattr__" = some (some (.builtin "object.__setattr__")))
    (ga_BadText : PySem.W.findIn K (.ref c_BadText) "__getattribute__" = some (some (.builtin "BaseException.__getattribute__")))
    (gg_BadText : PySem.W.findIn K (.ref c_BadText) "__getattr__" = some none)
    (gk_BadText : PySem.W.findIn K (.ref c_BadText) "__class__" = some (some (.builtin "object.__class__")))
    (gm_BadText : PySem.W.mroIn K c_BadText (.type "object") = some true)
    (n_place_BadText : PySem.W.findIn K (.ref c_BadText) "place" = some none)
    (ai_BadText : PySem.W.findIn K (.ref c_BadText) "__init__" = some (some (.ref fi_BadText)))
    (ti_BadText : PySem.W.typeIn K (.ref fi_BadText) = some (.type "function"))
    {odi_BadText ani_BadText : Option Addr} {sli_BadText : Array (Option Value)} {oci_BadText kVi_BadText dci_BadText pmi_BadText cdi_BadText cti_BadText : Value}
    (li_BadText : K.lookup fi_BadText = some ⟨oci_BadText, odi_BadText, .func (PySem.W.fnOf "__init__" "BadText.__init__" (defArgs (inClass (topS 3) 0)) (defBody (inClass (topS 3) 0)) (defScope (inClass (topS 3) 0)) .none kVi_BadText dci_BadText pmi_BadText ani_BadText cdi_BadText cti_BadText), sli_BadText⟩)
    (ci_BadText : PySem.W.codeIn K cdi_BadText "BadText.__init__" = true)
    (ki_BadText : PySem.W.keepIn K (.ref fi_BadText) = true)
    (kc_BadText : PySem.W.keepIn K (.ref c_BadText) = true)
    (hc_BadText : PySem.W.hasDictIn K c_BadText = true)
    (ac_BadTree : PySem.W.nsIn K mainGlobals "BadTree" = some (some (.ref c_BadTree)))
    (ec_BadTree : PySem.W.subIn K (.ref c_BadTree) (.type "BaseException") = some true)
    (tc_BadTree : PySem.W.typeIn K (.ref c_BadTree) = some (.type "type"))
    (ic_BadTree : PySem.W.isClsIn K c_BadTree = true)
    {nm_BadTree q_BadTree : Str} {ns_BadTree : Addr} {bs_BadTree : List Value} {sn_BadTree : List Str} {sub_BadTree : List Value} {ab_BadTree : Bool} {col_BadTree : Option Bool} {dd_BadTree : Option Addr} {m0_BadTree m1_BadTree m2_BadTree m3_BadTree m5_BadTree : Option Value}
    (xL_BadTree : K.lookup c_BadTree = some (excClassObj nm_BadTree q_BadTree c_BadTree ns_BadTree bs_BadTree [.ref c_PartError, .type "ValueError", .type "Exception", .type "BaseException", .type "object"] true sn_BadTree sub_BadTree ab_BadTree col_BadTree dd_BadTree m0_BadTree m1_BadTree m2_BadTree m3_BadTree m5_BadTree "ValueError.__new__"))
    (sa_BadTree : PySem.W.findIn K (.ref c_BadTree) "__setattr__" = some (some (.builtin "object.__setattr__")))
    (ga_BadTree : PySem.W.findIn K (.ref c_BadTree) "__getattribute__" = some (some (.builtin "BaseException.__getattribute__")))
    (gg_BadTree : PySem.W.findIn K (.ref c_BadTree) "__getattr__" = some none)
    (gk_BadTree : PySem.W.findIn K (.ref c_BadTree) "__class__" = some (some (.builtin "object.__class__")))
    (gm_BadTree : PySem.W.mroIn K c_BadTree (.type "object") = some true)
    (n_path_BadTree : PySem.W.findIn K (.ref c_BadTree) "path" = some none)
    (n_place_BadTree : PySem.W.findIn K (.ref c_BadTree) "place" = some none)
    (ai_BadTree : PySem.W.findIn K (.ref c_BadTree) "__init__" = some (some (.ref fi_BadTree)))
    (ti_BadTree : PySem.W.typeIn K (.ref fi_BadTree) = some (.type "function"))
    {odi_BadTree ani_BadTree : Option Addr} {sli_BadTree : Array (Option Value)} {oci_BadTree kVi_BadTree dci_BadTree pmi_BadTree cdi_BadTree cti_BadTree : Value}
    (li_BadTree : K.lookup fi_BadTree = some ⟨oci_BadTree, odi_BadTree, .func (PySem.W.fnOf "__init__" "BadTree.__init__" (defArgs (inClass (topS 4) 0)) (defBody (inClass (topS 4) 0)) (defScope (inClass (topS 4) 0)) .none kVi_BadTree dci_BadTree pmi_BadTree ani_BadTree cdi_BadTree cti_BadTree), sli_BadTree⟩)
    (ci_BadTree : PySem.W.codeIn K cdi_BadTree "BadTree.__init__" = true)
    (ki_BadTree : PySem.W.keepIn K (.ref fi_BadTree) = true)
    (kc_BadTree : PySem.W.keepIn K (.ref c_BadTree) = true)
    (hc_BadTree : PySem.W.hasDictIn K c_BadTree = true)
    (ac_BadName : PySem.W.nsIn K mainGlobals "BadName" = some (some (.ref c_BadName)))
    (ec_BadName : PySem.W.subIn K (.ref c_BadName) (.type "BaseException") = some true)
    (tc_BadName : PySem.W.typeIn K (.ref c_BadName) = some (.type "type"))
    (ic_BadName : PySem.W.isClsIn K c_BadName = true)
    {nm_BadName q_BadName : Str} {ns_BadName : Addr} {bs_BadName : List Value} {sn_BadName : List Str} {sub_BadName : List Value} {ab_BadName : Bool} {col_BadName : Option Bool} {dd_BadName : Option Addr} {m0_BadName m1_BadName m2_BadName m3_BadName m5_BadName : Option Value}
    (xL_BadName : K.lookup c_BadName = some (excClassObj nm_BadName q_BadName c_BadName ns_BadName bs_BadName [.ref c_PartError, .type "ValueError", .type "Exception", .type "BaseException", .type "object"] true sn_BadName sub_BadName ab_BadName col_BadName dd_BadName m0_BadName m1_BadName m2_BadName m3_BadName m5_BadName "ValueError.__new__"))
    (sa_BadName : PySem.W.findIn K (.ref c_BadName) "__setattr__" = some (some (.builtin "object.__setattr__")))
    (ga_BadName : PySem.W.findIn K (.ref c_BadName) "__getattribute__" = some (some (.builtin "BaseException.__getattribute__")))
    (gg_BadName : PySem.W.findIn K (.ref c_BadName) "__getattr__" = some none)
    (gk_BadName : PySem.W.findIn K (.ref c_BadName) "__class__" = some (some (.builtin "object.__class__")))
    (gm_BadName : PySem.W.mroIn K c_BadName (.type "object") = some true)
    (n_name_BadName : PySem.W.findIn K (.ref c_BadName) "name" = some none)
    (ai_BadName : PySem.W.findIn K (.ref c_BadName) "__init__" = some (some (.ref fi_BadName)))
    (ti_BadName : PySem.W.typeIn K (.ref fi_BadName) = some (.type "function"))
    {odi_BadName ani_BadName : Option Addr} {sli_BadName : Array (Option Value)} {oci_BadName kVi_BadName dci_BadName pmi_BadName cdi_BadName cti_BadName : Value}
    (li_BadName : K.lookup fi_BadName = some ⟨oci_BadName, odi_BadName, .func (PySem.W.fnOf "__init__" "BadName.__init__" (defArgs (inClass (topS 6) 0)) (defBody (inClass (topS 6) 0)) (defScope (inClass (topS 6) 0)) .none kVi_BadName dci_BadName pmi_BadName ani_BadName cdi_BadName cti_BadName), sli_BadName⟩)
    (ci_BadName : PySem.W.codeIn K cdi_BadName "BadName.__init__" = true)
    (ki_BadName : PySem.W.keepIn K (.ref fi_BadName) = true)
    (kc_BadName : PySem.W.keepIn K (.ref c_BadName) = true)
    (hc_BadName : PySem.W.hasDictIn K c_BadName = true)
    (ac_Taken : PySem.W.nsIn K mainGlobals "Taken" = some (some (.ref c_Taken)))
    (ec_Taken : PySem.W.subIn K (.ref c_Taken) (.type "BaseException") = some true)
    (tc_Taken : PySem.W.typeIn K (.ref c_Taken) = some (.type "type"))
    (ic_Taken : PySem.W.isClsIn K c_Taken = true)
    {nm_Taken q_Taken : Str} {ns_Taken : Addr} {bs_Taken : List Value} {sn_Taken : List Str} {sub_Taken : List Value} {ab_Taken : Bool} {col_Taken : Option Bool} {dd_Taken : Option Addr} {m0_Taken m1_Taken m2_Taken m3_Taken m5_Taken : Option Value}
    (xL_Taken : K.lookup c_Taken = some (excClassObj nm_Taken q_Taken c_Taken ns_Taken bs_Taken [.ref c_PartError, .type "ValueError", .type "Exception", .type "BaseException", .type "object"] true sn_Taken sub_Taken ab_Taken col_Taken dd_Taken m0_Taken m1_Taken m2_Taken m3_Taken m5_Taken "ValueError.__new__"))
    (sa_Taken : PySem.W.findIn K (.ref c_Taken) "__setattr__" = some (some (.builtin "object.__setattr__")))
    (ga_Taken : PySem.W.findIn K (.ref c_Taken) "__getattribute__" = some (some (.builtin "BaseException.__getattribute__")))
    (gg_Taken : PySem.W.findIn K (.ref c_Taken) "__getattr__" = some none)
    (gk_Taken : PySem.W.findIn K (.ref c_Taken) "__class__" = some (some (.builtin "object.__class__")))
    (gm_Taken : PySem.W.mroIn K c_Taken (.type "object") = some true)
    (n_name_Taken : PySem.W.findIn K (.ref c_Taken) "name" = some none)
    (ai_Taken : PySem.W.findIn K (.ref c_Taken) "__init__" = some (some (.ref fi_Taken)))
    (ti_Taken : PySem.W.typeIn K (.ref fi_Taken) = some (.type "function"))
    {odi_Taken ani_Taken : Option Addr} {sli_Taken : Array (Option Value)} {oci_Taken kVi_Taken dci_Taken pmi_Taken cdi_Taken cti_Taken : Value}
    (li_Taken : K.lookup fi_Taken = some ⟨oci_Taken, odi_Taken, .func (PySem.W.fnOf "__init__" "Taken.__init__" (defArgs (inClass (topS 7) 0)) (defBody (inClass (topS 7) 0)) (defScope (inClass (topS 7) 0)) .none kVi_Taken dci_Taken pmi_Taken ani_Taken cdi_Taken cti_Taken), sli_Taken⟩)
    (ci_Taken : PySem.W.codeIn K cdi_Taken "Taken.__init__" = true)
    (ki_Taken : PySem.W.keepIn K (.ref fi_Taken) = true)
    (kc_Taken : PySem.W.keepIn K (.ref c_Taken) = true)
    (hc_Taken : PySem.W.hasDictIn K c_Taken = true)
    (ac_Unknown : PySem.W.nsIn K mainGlobals "Unknown" = some (some (.ref c_Unknown)))
    (ec_Unknown : PySem.W.subIn K (.ref c_Unknown) (.type "BaseException") = some true)
    (tc_Unknown : PySem.W.typeIn K (.ref c_Unknown) = some (.type "type"))
    (ic_Unknown : PySem.W.isClsIn K c_Unknown = true)
    {nm_Unknown q_Unknown : Str} {ns_Unknown : Addr} {bs_Unknown : List Value} {sn_Unknown : List Str} {sub_Unknown : List Value} {ab_Unknown : Bool} {col_Unknown : Option Bool} {dd_Unknown : Option Addr} {m0_Unknown m1_Unknown m2_Unknown m3_Unknown m5_Unknown : Option Value}
    (xL_Unknown : K.lookup c_Unknown = some (excClassObj nm_Unknown q_Unknown c_Unknown ns_Unknown bs_Unknown [.ref c_PartError, .type "ValueError", .type "Exception", .type "BaseException", .type "object"] true sn_Unknown sub_Unknown ab_Unknown col_Unknown dd_Unknown m0_Unknown m1_Unknown m2_Unknown m3_Unknown m5_Unknown "ValueError.__new__"))
    (sa_Unknown : PySem.W.findIn K (.ref c_Unknown) "__setattr__" = some (some (.builtin "object.__setattr__")))
    (ga_Unknown : PySem.W.findIn K (.ref c_Unknown) "__getattribute__" = some (some (.builtin "BaseException.__getattribute__")))
    (gg_Unknown : PySem.W.findIn K (.ref c_Unknown) "__getattr__" = some none)
    (gk_Unknown : PySem.W.findIn K (.ref c_Unknown) "__class__" = some (some (.builtin "object.__class__")))
    (gm_Unknown : PySem.W.mroIn K c_Unknown (.type "object") = some true)
    (n_name_Unknown : PySem.W.findIn K (.ref c_Unknown) "name" = some none)
    (ai_Unknown : PySem.W.findIn K (.ref c_Unknown) "__init__" = some (some (.ref fi_Unknown)))
    (ti_Unknown : PySem.W.typeIn K (.ref fi_Unknown) = some (.type "function"))
    {odi_Unknown ani_Unknown : Option Addr} {sli_Unknown : Array (Option Value)} {oci_Unknown kVi_Unknown dci_Unknown pmi_Unknown cdi_Unknown cti_Unknown : Value}
    (li_Unknown : K.lookup fi_Unknown = some ⟨oci_Unknown, odi_Unknown, .func (PySem.W.fnOf "__init__" "Unknown.__init__" (defArgs (inClass (topS 8) 0)) (defBody (inClass (topS 8) 0)) (defScope (inClass (topS 8) 0)) .none kVi_Unknown dci_Unknown pmi_Unknown ani_Unknown cdi_Unknown cti_Unknown), sli_Unknown⟩)
    (ci_Unknown : PySem.W.codeIn K cdi_Unknown "Unknown.__init__" = true)
    (ki_Unknown : PySem.W.keepIn K (.ref fi_Unknown) = true)
    (kc_Unknown : PySem.W.keepIn K (.ref c_Unknown) = true)
    (hc_Unknown : PySem.W.hasDictIn K c_Unknown = true)
    (ac_Repeated : PySem.W.nsIn K mainGlobals "Repeated" = some (some (.ref c_Repeated)))
    (ec_Repeated : PySem.W.subIn K (.ref c_Repeated) (.type "BaseException") = some true)
    (tc_Repeated : PySem.W.typeIn K (.ref c_Repeated) = some (.type "type"))
    (ic_Repeated : PySem.W.isClsIn K c_Repeated = true)
    {nm_Repeated q_Repeated : Str} {ns_Repeated : Addr} {bs_Repeated : List Value} {sn_Repeated : List Str} {sub_Repeated : List Value} {ab_Repeated : Bool} {col_Repeated : Option Bool} {dd_Repeated : Option Addr} {m0_Repeated m1_Repeated m2_Repeated m3_Repeated m5_Repeated : Option Value}
    (xL_Repeated : K.lookup c_Repeated = some (excClassObj nm_Repeated q_Repeated c_Repeated ns_Repeated bs_Repeated [.ref c_PartError, .type "ValueError", .type "Exception", .type "BaseException", .type "object"] true sn_Repeated sub_Repeated ab_Repeated col_Repeated dd_Repeated m0_Repeated m1_Repeated m2_Repeated m3_Repeated m5_Repeated "ValueError.__new__"))
    (sa_Repeated : PySem.W.findIn K (.ref c_Repeated) "__setattr__" = some (some (.builtin "object.__setattr__")))
    (ga_Repeated : PySem.W.findIn K (.ref c_Repeated) "__getattribute__" = some (some (.builtin "BaseException.__getattribute__")))
    (gg_Repeated : PySem.W.findIn K (.ref c_Repeated) "__getattr__" = some none)
    (gk_Repeated : PySem.W.findIn K (.ref c_Repeated) "__class__" = some (some (.builtin "object.__class__")))
    (gm_Repeated : PySem.W.mroIn K c_Repeated (.type "object") = some true)
    (n_name_Repeated : PySem.W.findIn K (.ref c_Repeated) "name" = some none)
    (ai_Repeated : PySem.W.findIn K (.ref c_Repeated) "__init__" = some (some (.ref fi_Repeated)))
    (ti_Repeated : PySem.W.typeIn K (.ref fi_Repeated) = some (.type "function"))
    {odi_Repeated ani_Repeated : Option Addr} {sli_Repeated : Array (Option Value)} {oci_Repeated kVi_Repeated dci_Repeated pmi_Repeated cdi_Repeated cti_Repeated : Value}
    (li_Repeated : K.lookup fi_Repeated = some ⟨oci_Repeated, odi_Repeated, .func (PySem.W.fnOf "__init__" "Repeated.__init__" (defArgs (inClass (topS 9) 0)) (defBody (inClass (topS 9) 0)) (defScope (inClass (topS 9) 0)) .none kVi_Repeated dci_Repeated pmi_Repeated ani_Repeated cdi_Repeated cti_Repeated), sli_Repeated⟩)
    (ci_Repeated : PySem.W.codeIn K cdi_Repeated "Repeated.__init__" = true)
    (ki_Repeated : PySem.W.keepIn K (.ref fi_Repeated) = true)
    (kc_Repeated : PySem.W.keepIn K (.ref c_Repeated) = true)
    (hc_Repeated : PySem.W.hasDictIn K c_Repeated = true)
    (ss_BadText_BadName : PySem.W.subIn K (.ref c_BadText) (.ref c_BadName) = some false)
    (ss_BadText_BadText : PySem.W.subIn K (.ref c_BadText) (.ref c_BadText) = some true)
    (ss_BadText_BadTree : PySem.W.subIn K (.ref c_BadText) (.ref c_BadTree) = some false)
    (ss_BadText_PartError : PySem.W.subIn K (.ref c_BadText) (.ref c_PartError) = some true)
    (ss_BadText_Repeated : PySem.W.subIn K (.ref c_BadText) (.ref c_Repeated) = some false)
    (ss_BadText_Taken : PySem.W.subIn K (.ref c_BadText) (.ref c_Taken) = some false)
    (ss_BadText_Unknown : PySem.W.subIn K (.ref c_BadText) (.ref c_Unknown) = some false)
    (sv_BadText : PySem.W.subIn K (.ref c_BadText) (.type "ValueError") = some true)
    (sp_BadText : PySem.W.subIn K (.ref c_BadText) (.type "StopIteration") = some false)
    (ss_BadTree_BadName : PySem.W.subIn K (.ref c_BadTree) (.ref c_BadName) = some false)
    (ss_BadTree_BadText : PySem.W.subIn K (.ref c_BadTree) (.ref c_BadText) = some false)
    (ss_BadTree_BadTree : PySem.W.subIn K (.ref c_BadTree) (.ref c_BadTree) = some true)
    (ss_BadTree_PartError : PySem.W.subIn K (.ref c_BadTree) (.ref c_PartError) = some true)
    (ss_BadTree_Repeated : PySem.W.subIn K (.ref c_BadTree) (.ref c_Repeated) = some false)
    (ss_BadTree_Taken : PySem.W.subIn K (.ref c_BadTree) (.ref c_Taken) = some false)
    (ss_BadTree_Unknown : PySem.W.subIn K (.ref c_BadTree) (.ref c_Unknown) = some false)
    (sv_BadTree : PySem.W.subIn K (.ref c_BadTree) (.type "ValueError") = some true)
    (sp_BadTree : PySem.W.subIn K (.ref c_BadTree) (.type "StopIteration") = some false)
    (ss_BadName_BadName : PySem.W.subIn K (.ref c_BadName) (.ref c_BadName) = some true)
    (ss_BadName_BadText : PySem.W.subIn K (.ref c_BadName) (.ref c_BadText) = some false)
    (ss_BadName_BadTree : PySem.W.subIn K (.ref c_BadName) (.ref c_BadTree) = some false)
    (ss_BadName_PartError : PySem.W.subIn K (.ref c_BadName) (.ref c_PartError) = some true)
    (ss_BadName_Repeated : PySem.W.subIn K (.ref c_BadName) (.ref c_Repeated) = some false)
    (ss_BadName_Taken : PySem.W.subIn K (.ref c_BadName) (.ref c_Taken) = some false)
    (ss_BadName_Unknown : PySem.W.subIn K (.ref c_BadName) (.ref c_Unknown) = some false)
    (sv_BadName : PySem.W.subIn K (.ref c_BadName) (.type "ValueError") = some true)
    (sp_BadName : PySem.W.subIn K (.ref c_BadName) (.type "StopIteration") = some false)
    (ss_Taken_BadName : PySem.W.subIn K (.ref c_Taken) (.ref c_BadName) = some false)
    (ss_Taken_BadText : PySem.W.subIn K (.ref c_Taken) (.ref c_BadText) = some false)
    (ss_Taken_BadTree : PySem.W.subIn K (.ref c_Taken) (.ref c_BadTree) = some false)
    (ss_Taken_PartError : PySem.W.subIn K (.ref c_Taken) (.ref c_PartError) = some true)
    (ss_Taken_Repeated : PySem.W.subIn K (.ref c_Taken) (.ref c_Repeated) = some false)
    (ss_Taken_Taken : PySem.W.subIn K (.ref c_Taken) (.ref c_Taken) = some true)
    (ss_Taken_Unknown : PySem.W.subIn K (.ref c_Taken) (.ref c_Unknown) = some false)
    (sv_Taken : PySem.W.subIn K (.ref c_Taken) (.type "ValueError") = some true)
    (sp_Taken : PySem.W.subIn K (.ref c_Taken) (.type "StopIteration") = some false)
    (ss_Unknown_BadName : PySem.W.subIn K (.ref c_Unknown) (.ref c_BadName) = some false)
    (ss_Unknown_BadText : PySem.W.subIn K (.ref c_Unknown) (.ref c_BadText) = some false)
    (ss_Unknown_BadTree : PySem.W.subIn K (.ref c_Unknown) (.ref c_BadTree) = some false)
    (ss_Unknown_PartError : PySem.W.subIn K (.ref c_Unknown) (.ref c_PartError) = some true)
    (ss_Unknown_Repeated : PySem.W.subIn K (.ref c_Unknown) (.ref c_Repeated) = some false)
    (ss_Unknown_Taken : PySem.W.subIn K (.ref c_Unknown) (.ref c_Taken) = some false)
    (ss_Unknown_Unknown : PySem.W.subIn K (.ref c_Unknown) (.ref c_Unknown) = some true)
    (sv_Unknown : PySem.W.subIn K (.ref c_Unknown) (.type "ValueError") = some true)
    (sp_Unknown : PySem.W.subIn K (.ref c_Unknown) (.type "StopIteration") = some false)
    (ss_Repeated_BadName : PySem.W.subIn K (.ref c_Repeated) (.ref c_BadName) = some false)
    (ss_Repeated_BadText : PySem.W.subIn K (.ref c_Repeated) (.ref c_BadText) = some false)
    (ss_Repeated_BadTree : PySem.W.subIn K (.ref c_Repeated) (.ref c_BadTree) = some false)
    (ss_Repeated_PartError : PySem.W.subIn K (.ref c_Repeated) (.ref c_PartError) = some true)
    (ss_Repeated_Repeated : PySem.W.subIn K (.ref c_Repeated) (.ref c_Repeated) = some true)
    (ss_Repeated_Taken : PySem.W.subIn K (.ref c_Repeated) (.ref c_Taken) = some false)
    (ss_Repeated_Unknown : PySem.W.subIn K (.ref c_Repeated) (.ref c_Unknown) = some false)
    (sv_Repeated : PySem.W.subIn K (.ref c_Repeated) (.type "ValueError") = some true)
    (sp_Repeated : PySem.W.subIn K (.ref c_Repeated) (.type "StopIteration") = some false)
    (xn : PySem.W.specialIn K (.builtin "object.__class__") "__get__" = some (some (.builtin "getset_descriptor.__get__"))) (xt : PySem.W.takesIn K (.builtin "object.__class__") = some true)
    (z_ValueError : PySem.W.nsIn K mainGlobals "ValueError" = some none)
    (z_abs : PySem.W.nsIn K mainGlobals "abs" = some none)
    (z_bool : PySem.W.nsIn K mainGlobals "bool" = some none)
    (z_dict : PySem.W.nsIn K mainGlobals "dict" = some none)
    (z_enumerate : PySem.W.nsIn K mainGlobals "enumerate" = some none)
    (z_int : PySem.W.nsIn K mainGlobals "int" = some none)
    (z_isinstance : PySem.W.nsIn K mainGlobals "isinstance" = some none)
    (z_iter : PySem.W.nsIn K mainGlobals "iter" = some none)
    (z_len : PySem.W.nsIn K mainGlobals "len" = some none)
    (z_list : PySem.W.nsIn K mainGlobals "list" = some none)
    (z_max : PySem.W.nsIn K mainGlobals "max" = some none)
    (z_min : PySem.W.nsIn K mainGlobals "min" = some none)
    (z_range : PySem.W.nsIn K mainGlobals "range" = some none)
    (z_reversed : PySem.W.nsIn K mainGlobals "reversed" = some none)
    (z_set : PySem.W.nsIn K mainGlobals "set" = some none)
    (z_sorted : PySem.W.nsIn K mainGlobals "sorted" = some none)
    (z_str : PySem.W.nsIn K mainGlobals "str" = some none)
    (z_tuple : PySem.W.nsIn K mainGlobals "tuple" = some none)
    {ut_CLASH_START : Tok} (y_CLASH_START : PySem.W.nsIn K mainGlobals "CLASH_START" = some (some (.str "<<<<<<<" ut_CLASH_START)))
    {ut_CLASH_BASE : Tok} (y_CLASH_BASE : PySem.W.nsIn K mainGlobals "CLASH_BASE" = some (some (.str "|||||||" ut_CLASH_BASE)))
    {ut_CLASH_OTHER : Tok} (y_CLASH_OTHER : PySem.W.nsIn K mainGlobals "CLASH_OTHER" = some (some (.str "=======" ut_CLASH_OTHER)))
    {ut_CLASH_END : Tok} (y_CLASH_END : PySem.W.nsIn K mainGlobals "CLASH_END" = some (some (.str ">>>>>>>" ut_CLASH_END)))
    {ut_MERGED_PATHS : Tok} (y_MERGED_PATHS : PySem.W.nsIn K mainGlobals "MERGED_PATHS" = some (some (.int 8 ut_MERGED_PATHS)))
    {ut_MERGED_LINES : Tok} (y_MERGED_LINES : PySem.W.nsIn K mainGlobals "MERGED_LINES" = some (some (.int 40 ut_MERGED_LINES)))
    {ut_SIGNS : Tok} (y_SIGNS : PySem.W.nsIn K mainGlobals "SIGNS" = some (some (.str "abcdefghijklmnopqrstuvwxyz0123456789 <=>|-" ut_SIGNS)))
    {ut_LINE_LENGTH : Tok} (y_LINE_LENGTH : PySem.W.nsIn K mainGlobals "LINE_LENGTH" = some (some (.int 20 ut_LINE_LENGTH)))
    {ut_TEXT_LENGTH : Tok} (y_TEXT_LENGTH : PySem.W.nsIn K mainGlobals "TEXT_LENGTH" = some (some (.int 40 ut_TEXT_LENGTH)))
    {ut_WORD_SIGNS : Tok} (y_WORD_SIGNS : PySem.W.nsIn K mainGlobals "WORD_SIGNS" = some (some (.str "abcdefghijklmnopqrstuvwxyz0123456789" ut_WORD_SIGNS)))
    {ut_WORD_LENGTH : Tok} (y_WORD_LENGTH : PySem.W.nsIn K mainGlobals "WORD_LENGTH" = some (some (.int 6 ut_WORD_LENGTH)))
    {ut_PATH_WORDS : Tok} (y_PATH_WORDS : PySem.W.nsIn K mainGlobals "PATH_WORDS" = some (some (.int 3 ut_PATH_WORDS)))
    {ut_TREE_PATHS : Tok} (y_TREE_PATHS : PySem.W.nsIn K mainGlobals "TREE_PATHS" = some (some (.int 8 ut_TREE_PATHS)))
    {ut_NAME_LETTERS : Tok} (y_NAME_LETTERS : PySem.W.nsIn K mainGlobals "NAME_LETTERS" = some (some (.str "abcdefghijklmnopqrstuvwxyz" ut_NAME_LETTERS)))
    {ut_NAME_DIGITS : Tok} (y_NAME_DIGITS : PySem.W.nsIn K mainGlobals "NAME_DIGITS" = some (some (.str "0123456789" ut_NAME_DIGITS)))
    {ut_NAME_LENGTH : Tok} (y_NAME_LENGTH : PySem.W.nsIn K mainGlobals "NAME_LENGTH" = some (some (.int 6 ut_NAME_LENGTH))) :
    ∃ fd : FuncData, (∀ (s : Shared) (v : Value), BindsTo s fd ⟨[v], []⟩ [("script", v)]) ∧ ∀ base : Heap, K.In base → base.Ns mainGlobals mg → FnOk l.prog w K mg base CX0 10 fa fd ["script"] (sp_law K) := by
  have e := hfa.symm.trans (PySem.W.mg_of X G a38)
  cases e
  have F1 := fun_mk (st := s_common_lengths) l1 c1 k1
  have b1 := F1.binds (ps := ["old", "new"]) fun _ _ _ _ _ _ us hl => match us, hl with | [_, _], _ => rfl
  have F2 := fun_mk (st := s_matched) l2 c2 k2
  have b2 := F2.binds (ps := ["old", "new"]) fun _ _ _ _ _ _ us hl => match us, hl with | [_, _], _ => rfl
  have F3 := fun_mk (st := s_line_origins) l3 c3 k3
  have b3 := F3.binds (ps := ["name", "text", "elders"]) fun _ _ _ _ _ _ us hl => match us, hl with | [_, _, _], _ => rfl
  have F4 := fun_mk (st := s_is_line) l4 c4 k4
  have b4 := F4.binds (ps := ["value"]) fun _ _ _ _ _ _ us hl => match us, hl with | [_], _ => rfl
  have F5 := fun_mk (st := s_checked_text) l5 c5 k5
  have b5 := F5.binds (ps := ["text"]) fun _ _ _ _ _ _ us hl => match us, hl with | [_], _ => rfl
  have F6 := fun_mk (st := s_is_word) l6 c6 k6
  have b6 := F6.binds (ps := ["value"]) fun _ _ _ _ _ _ us hl => match us, hl with | [_], _ => rfl
  have F7 := fun_mk (st := s_is_path) l7 c7 k7
  have b7 := F7.binds (ps := ["value"]) fun _ _ _ _ _ _ us hl => match us, hl with | [_], _ => rfl
  have F8 := fun_mk (st := s_checked_tree) l8 c8 k8
  have b8 := F8.binds (ps := ["tree"]) fun _ _ _ _ _ _ us hl => match us, hl with | [_], _ => rfl
  have F9 := fun_mk (st := s_files_of) l9 c9 k9
  have b9 := F9.binds (ps := ["tree"]) fun _ _ _ _ _ _ us hl => match us, hl with | [_], _ => rfl
  have F10 := fun_mk (st := s_tree_of) l10 c10 k10
  have b10 := F10.binds (ps := ["files"]) fun _ _ _ _ _ _ us hl => match us, hl with | [_], _ => rfl
  have F11 := fun_mk (st := s_is_name) l11 c11 k11
  have b11 := F11.binds (ps := ["value"]) fun _ _ _ _ _ _ us hl => match us, hl with | [_], _ => rfl
  have F12 := fun_mk (st := s_restricted) l12 c12 k12
  have b12 := F12.binds (ps := ["order", "names"]) fun _ _ _ _ _ _ us hl => match us, hl with | [_, _], _ => rfl
  have F13 := fun_mk (st := s_copy_of) l13 c13 k13
  have b13 := F13.binds (ps := ["texts"]) fun _ _ _ _ _ _ us hl => match us, hl with | [_], _ => rfl
  have F14 := fun_mk (st := s_l_feed) l14 c14 k14
  have b14 := F14.binds (ps := ["script"]) fun _ _ _ _ _ _ us hl => match us, hl with | [_], _ => rfl
  have F15 := fun_mk (st := s_l_next) l15 c15 k15
  have b15 := F15.binds (ps := ["feed", "many"]) fun _ _ _ _ _ _ us hl => match us, hl with | [_, _], _ => rfl
  have F16 := fun_mk (st := s_l_new_names) l16 c16 k16
  have b16 := F16.binds (ps := ["feed", "many"]) fun _ _ _ _ _ _ us hl => match us, hl with | [_, _], _ => rfl
  have F17 := fun_mk (st := s_l_pasts) l17 c17 k17
  have b17 := F17.binds (ps := ["names", "parents"]) fun _ _ _ _ _ _ us hl => match us, hl with | [_, _], _ => rfl
  have F18 := fun_mk (st := s_l_new_shape) l18 c18 k18
  have b18 := F18.binds (ps := ["feed", "many", "most"]) fun _ _ _ _ _ _ us hl => match us, hl with | [_, _, _], _ => rfl
  have F19 := fun_mk (st := s_l_new_text) l19 c19 k19
  have b19 := F19.binds (ps := ["feed", "k", "old", "shape"]) fun _ _ _ _ _ _ us hl => match us, hl with | [_, _, _, _], _ => rfl
  have F20 := fun_mk (st := s_l_new_tree) l20 c20 k20
  have b20 := F20.binds (ps := ["feed", "k", "old", "shape"]) fun _ _ _ _ _ _ us hl => match us, hl with | [_, _, _, _], _ => rfl
  have F21 := fun_mk (st := s_l_copied) l21 c21 k21
  have b21 := F21.binds (ps := ["tree"]) fun _ _ _ _ _ _ us hl => match us, hl with | [_], _ => rfl
  have F22 := fun_mk (st := s_l_fault) l22 c22 k22
  have b22 := F22.binds (ps := ["fault"]) fun _ _ _ _ _ _ us hl => match us, hl with | [_], _ => rfl
  have F23 := fun_mk (st := s_l_commit) l23 c23 k23
  have b23 := F23.binds (ps := ["history", "name", "parents", "tree"]) fun _ _ _ _ _ _ us hl => match us, hl with | [_, _, _, _], _ => rfl
  have F24 := fun_mk (st := s_l_asked) l24 c24 k24
  have b24 := F24.binds (ps := ["history", "word", "one", "other"]) fun _ _ _ _ _ _ us hl => match us, hl with | [_, _, _, _], _ => rfl
  have F25 := fun_mk (st := s_l_odd_names) l25 c25 k25
  have b25 := F25.binds (ps := []) fun _ _ _ _ _ _ us hl => match us, hl with | [], _ => rfl
  have F26 := fun_mk (st := s_l_odd_paths) l26 c26 k26
  have b26 := F26.binds (ps := []) fun _ _ _ _ _ _ us hl => match us, hl with | [], _ => rfl
  have F27 := fun_mk (st := s_l_odd_lines) l27 c27 k27
  have b27 := F27.binds (ps := []) fun _ _ _ _ _ _ us hl => match us, hl with | [], _ => rfl
  have F28 := fun_mk (st := s_l_called) l28 c28 k28
  have b28 := F28.binds (ps := ["feed", "names", "k"]) fun _ _ _ _ _ _ us hl => match us, hl with | [_, _, _], _ => rfl
  have F29 := fun_mk (st := s_l_new_elders) l29 c29 k29
  have b29 := F29.binds (ps := ["feed", "names", "kept"]) fun _ _ _ _ _ _ us hl => match us, hl with | [_, _, _], _ => rfl
  have F30 := fun_mk (st := s_l_spoil) l30 c30 k30
  have b30 := F30.binds (ps := ["feed", "tree"]) fun _ _ _ _ _ _ us hl => match us, hl with | [_, _], _ => rfl
  have F31 := fun_mk (st := s_l_own_due) l31 c31 k31
  have b31 := F31.binds (ps := ["kept", "name", "parents", "tree"]) fun _ _ _ _ _ _ us hl => match us, hl with | [_, _, _, _], _ => rfl
  have F32 := fun_mk (st := s_l_truth) l32 c32 k32
  have b32 := F32.binds (ps := ["told"]) fun _ _ _ _ _ _ us hl => match us, hl with | [_], _ => rfl
  have F33 := fun_mk (st := s_l_named) l33 c33 k33
  have b33 := F33.binds (ps := ["history", "names", "kept"]) fun _ _ _ _ _ _ us hl => match us, hl with | [_, _, _], _ => rfl
  have F34 := fun_mk (st := s_l_treed) l34 c34 k34
  have b34 := F34.binds (ps := ["history", "name", "tree"]) fun _ _ _ _ _ _ us hl => match us, hl with | [_, _, _], _ => rfl
  have F35 := fun_mk (st := s_l_shown) l35 c35 k35
  have b35 := F35.binds (ps := ["history", "names", "kept", "parents", "trees"]) fun _ _ _ _ _ _ us hl => match us, hl with | [_, _, _, _, _], _ => rfl
  have F36 := fun_mk (st := s_l_refused) l36 c36 k36
  have b36 := F36.binds (ps := ["history", "kept"]) fun _ _ _ _ _ _ us hl => match us, hl with | [_, _], _ => rfl
  have F37 := fun_mk (st := s_l_ended) l37 c37 k37
  have b37 := F37.binds (ps := ["history", "names", "kept", "parents", "trees"]) fun _ _ _ _ _ _ us hl => match us, hl with | [_, _, _, _, _], _ => rfl
  have F38 := fun_mk (st := s_law) l38 c38 k38
  have b38 := F38.binds (ps := ["script"]) fun _ _ _ _ _ _ us hl => match us, hl with | [_], _ => rfl
  have F39 := fun_mk (st := s_Order___init__) l39 c39 k39
  have b39 := F39.binds (ps := ["self"]) fun _ _ _ _ _ _ us hl => match us, hl with | [_], _ => rfl
  have F40 := fun_mk (st := s_Order_put) l40 c40 k40
  have b40 := F40.binds (ps := ["self", "name", "parents"]) fun _ _ _ _ _ _ us hl => match us, hl with | [_, _, _], _ => rfl
  have F41 := fun_mk (st := s_Order___iter__) l41 c41 k41
  have b41 := F41.binds (ps := ["self"]) fun _ _ _ _ _ _ us hl => match us, hl with | [_], _ => rfl
  have F42 := fun_mk (st := s_Order_names) l42 c42 k42
  have b42 := F42.binds (ps := ["self"]) fun _ _ _ _ _ _ us hl => match us, hl with | [_], _ => rfl
  have F43 := fun_mk (st := s_Order_has) l43 c43 k43
  have b43 := F43.binds (ps := ["self", "name"]) fun _ _ _ _ _ _ us hl => match us, hl with | [_, _], _ => rfl
  have F44 := fun_mk (st := s_Order_under) l44 c44 k44
  have b44 := F44.binds (ps := ["self", "name"]) fun _ _ _ _ _ _ us hl => match us, hl with | [_, _], _ => rfl
  have F45 := fun_mk (st := s_Order_is_under) l45 c45 k45
  have b45 := F45.binds (ps := ["self", "low", "high"]) fun _ _ _ _ _ _ us hl => match us, hl with | [_, _, _], _ => rfl
  have F46 := fun_mk (st := s_Order_nearest) l46 c46 k46
  have b46 := F46.binds (ps := ["self", "name"]) fun _ _ _ _ _ _ us hl => match us, hl with | [_, _], _ => rfl
  have F47 := fun_mk (st := s_Order_checked) l47 c47 k47
  have b47 := F47.binds (ps := ["self", "names"]) fun _ _ _ _ _ _ us hl => match us, hl with | [_, _], _ => rfl
  have F48 := fun_mk (st := s_History___init__) l48 c48 k48
  have b48 := F48.binds (ps := ["self"]) fun _ _ _ _ _ _ us hl => match us, hl with | [_], _ => rfl
  have F49 := fun_mk (st := s_History__put) l49 c49 k49
  have b49 := F49.binds (ps := ["self", "name", "parents", "tree", "origins"]) fun _ _ _ _ _ _ us hl => match us, hl with | [_, _, _, _, _], _ => rfl
  have F50 := fun_mk (st := s_History__grow) l50 c50 k50
  have b50 := F50.binds (ps := ["self", "name", "parents", "tree"]) fun _ _ _ _ _ _ us hl => match us, hl with | [_, _, _, _], _ => rfl
  have F51 := fun_mk (st := s_History__check_new) l51 c51 k51
  have b51 := F51.binds (ps := ["self", "name"]) fun _ _ _ _ _ _ us hl => match us, hl with | [_, _], _ => rfl
  have F52 := fun_mk (st := s_History__check_known) l52 c52 k52
  have b52 := F52.binds (ps := ["self", "name"]) fun _ _ _ _ _ _ us hl => match us, hl with | [_, _], _ => rfl
  have F53 := fun_mk (st := s_History_names) l53 c53 k53
  have b53 := F53.binds (ps := ["self"]) fun _ _ _ _ _ _ us hl => match us, hl with | [_], _ => rfl
  have F54 := fun_mk (st := s_History___contains__) l54 c54 k54
  have b54 := F54.binds (ps := ["self", "name"]) fun _ _ _ _ _ _ us hl => match us, hl with | [_, _], _ => rfl
  have F55 := fun_mk (st := s_History_commit) l55 c55 k55
  have b55 := F55.binds (ps := ["self", "name", "parents", "tree"]) fun _ _ _ _ _ _ us hl => match us, hl with | [_, _, _, _], _ => rfl
  have F56 := fun_mk (st := s_History_tree) l56 c56 k56
  have b56 := F56.binds (ps := ["self", "name"]) fun _ _ _ _ _ _ us hl => match us, hl with | [_, _], _ => rfl
  have F57 := fun_mk (st := s_History_origins) l57 c57 k57
  have b57 := F57.binds (ps := ["self", "name"]) fun _ _ _ _ _ _ us hl => match us, hl with | [_, _], _ => rfl
  have F58 := fun_mk (st := s_History_is_under) l58 c58 k58
  have b58 := F58.binds (ps := ["self", "low", "high"]) fun _ _ _ _ _ _ us hl => match us, hl with | [_, _, _], _ => rfl
  have F59 := fun_mk (st := s_History_order) l59 c59 k59
  have b59 := F59.binds (ps := ["self"]) fun _ _ _ _ _ _ us hl => match us, hl with | [_], _ => rfl
  have F60 := fun_mk (st := s_History_facts) l60 c60 k60
  have b60 := F60.binds (ps := ["self"]) fun _ _ _ _ _ _ us hl => match us, hl with | [_], _ => rfl
  have F61 := fun_mk (st := s_History_copied) l61 c61 k61
  have b61 := F61.binds (ps := ["self"]) fun _ _ _ _ _ _ us hl => match us, hl with | [_], _ => rfl
  have Fi_BadText := fun_mk (st := inClass (topS 3) 0) li_BadText ci_BadText ki_BadText
  have bi_BadText := Fi_BadText.binds (ps := ["self", "place"]) fun _ _ _ _ _ _ us hl => match us, hl with | [_, _], _ => rfl
  have Fi_BadTree := fun_mk (st := inClass (topS 4) 0) li_BadTree ci_BadTree ki_BadTree
  have bi_BadTree := Fi_BadTree.binds (ps := ["self", "path", "place"]) fun _ _ _ _ _ _ us hl => match us, hl with | [_, _, _], _ => rfl
  have Fi_BadName := fun_mk (st := inClass (topS 6) 0) li_BadName ci_BadName ki_BadName
  have bi_BadName := Fi_BadName.binds (ps := ["self", "name"]) fun _ _ _ _ _ _ us hl => match us, hl with | [_, _], _ => rfl
  have Fi_Taken := fun_mk (st := inClass (topS 7) 0) li_Taken ci_Taken ki_Taken
  have bi_Taken := Fi_Taken.binds (ps := ["self", "name"]) fun _ _ _ _ _ _ us hl => match us, hl with | [_, _], _ => rfl
  have Fi_Unknown := fun_mk (st := inClass (topS 8) 0) li_Unknown ci_Unknown ki_Unknown
  have bi_Unknown := Fi_Unknown.binds (ps := ["self", "name"]) fun _ _ _ _ _ _ us hl => match us, hl with | [_, _], _ => rfl
  have Fi_Repeated := fun_mk (st := inClass (topS 9) 0) li_Repeated ci_Repeated ki_Repeated
  have bi_Repeated := Fi_Repeated.binds (ps := ["self", "name"]) fun _ _ _ _ _ _ us hl => match us, hl with | [_, _], _ => rfl
  exact ⟨_, fun s v => .of_eq rfl, fun base _ _ => ok_law ⟨_, _, F1, PySem.W.mg_of X G a1, b1, _, _, F2, PySem.W.mg_of X G a2, b2, _, _, F3, PySem.W.mg_of X G a3, b3, _, _, F4, PySem.W.mg_of X G a4, b4, _, _, F5, PySem.W.mg_of X G a5, b5, _, _, F6, PySem.W.mg_of X G a6, b6, _, _, F7, PySem.W.mg_of X G a7, b7, _, _, F8, PySem.W.mg_of X G a8, b8, _, _, F9, PySem.W.mg_of X G a9, b9, _, _, F10, PySem.W.mg_of X G a10, b10, _, _, F11, PySem.W.mg_of X G a11, b11, _, _, F12, PySem.W.mg_of X G a12, b12, _, _, F13, PySem.W.mg_of X G a13, b13, _, _, F14, PySem.W.mg_of X G a14, b14, _, _, F15, PySem.W.mg_of X G a15, b15, _, _, F16, PySem.W.mg_of X G a16, b16, _, _, F17, PySem.W.mg_of X G a17, b17, _, _, F18, PySem.W.mg_of X G a18, b18, _, _, F19, PySem.W.mg_of X G a19, b19, _, _, F20, PySem.W.mg_of X G a20, b20, _, _, F21, PySem.W.mg_of X G a21, b21, _, _, F22, PySem.W.mg_of X G a22, b22, _, _, F23, PySem.W.mg_of X G a23, b23, _, _, F24, PySem.W.mg_of X G a24, b24, _, _, F25, PySem.W.mg_of X G a25, b25, _, _, F26, PySem.W.mg_of X G a26, b26, _, _, F27, PySem.W.mg_of X G a27, b27, _, _, F28, PySem.W.mg_of X G a28, b28, _, _, F29, PySem.W.mg_of X G a29, b29, _, _, F30, PySem.W.mg_of X G a30, b30, _, _, F31, PySem.W.mg_of X G a31, b31, _, _, F32, PySem.W.mg_of X G a32, b32, _, _, F33, PySem.W.mg_of X G a33, b33, _, _, F34, PySem.W.mg_of X G a34, b34, _, _, F35, PySem.W.mg_of X G a35, b35, _, _, F36, PySem.W.mg_of X G a36, b36, _, _, F37, PySem.W.mg_of X G a37, b37, _, _, F38, PySem.W.mg_of X G a38, b38, _, _, F39, b39, _, _, F40, b40, _, _, F41, b41, _, _, F42, b42, _, _, F43, b43, _, _, F44, b44, _, _, F45, b45, _, _, F46, b46, _, _, F47, b47, _, _, F48, b48, _, _, F49, b49, _, _, F50, b50, _, _, F51, b51, _, _, F52, b52, _, _, F53, b53, _, _, F54, b54, _, _, F55, b55, _, _, F56, b56, _, _, F57, b57, _, _, F58, b58, _, _, F59, b59, _, _, F60, b60, _, _, F61, b61, c_Order, PySem.W.mg_of X G ac_Order, ⟨pg_Order, hd_Order, po_Order, sa_Order⟩, na__names_Order, na__under_Order, ⟨mk_Order, a39, i39, kc_Order⟩, ⟨a40, i40, k40⟩, ⟨a41, i41, k41⟩, ⟨a42, i42, k42⟩, ⟨a43, i43, k43⟩, ⟨a44, i44, k44⟩, ⟨a45, i45, k45⟩, ⟨a46, i46, k46⟩, ⟨a47, i47, k47⟩, c_History, PySem.W.mg_of X G ac_History, ⟨pg_History, hd_History, po_History, sa_History⟩, na__order_History, na__trees_History, na__origins_History, na__tally_History, sf_History, ⟨mk_History, a48, i48, kc_History⟩, ⟨a49, i49, k49⟩, ⟨a50, i50, k50⟩, ⟨a51, i51, k51⟩, ⟨a52, i52, k52⟩, ⟨a53, i53, k53⟩, ⟨a54, i54, k54⟩, ⟨a55, i55, k55⟩, ⟨a56, i56, k56⟩, ⟨a57, i57, k57⟩, ⟨a58, i58, k58⟩, ⟨a59, i59, k59⟩, ⟨a60, i60, k60⟩, ⟨a61, i61, k61⟩, c_PartError, PySem.W.mg_of X G ac_PartError, c_BadText, PySem.W.mg_of X G ac_BadText, fi_BadText, _, Fi_BadText, bi_BadText, ⟨⟨_, _, _, _, _, _, _, _, _, _, _, _, _, _, _, xL_BadText, by rfl⟩, sa_BadText, ec_BadText, tc_BadText, kc_BadText⟩, ai_BadText, ti_BadText, n_place_BadText, ⟨ga_BadText, gg_BadText, ec_BadText, hc_BadText⟩, ⟨by unfold PySem.W.clsIn; rw [xL_BadText] <;> rfl, ga_BadText, gg_BadText, ec_BadText, hc_BadText, gk_BadText, xn, xt, gm_BadText⟩, c_BadTree, PySem.W.mg_of X G ac_BadTree, fi_BadTree, _, Fi_BadTree, bi_BadTree, ⟨⟨_, _, _, _, _, _, _, _, _, _, _, _, _, _, _, xL_BadTree, by rfl⟩, sa_BadTree, ec_BadTree, tc_BadTree, kc_BadTree⟩, ai_BadTree, ti_BadTree, n_path_BadTree, n_place_BadTree, ⟨ga_BadTree, gg_BadTree, ec_BadTree, hc_BadTree⟩, ⟨by unfold PySem.W.clsIn; rw [xL_BadTree] <;> rfl, ga_BadTree, gg_BadTree, ec_BadTree, hc_BadTree, gk_BadTree, xn, xt, gm_BadTree⟩, c_BadName, PySem.W.mg_of X G ac_BadName, fi_BadName, _, Fi_BadName, bi_BadName, ⟨⟨_, _, _, _, _, _, _, _, _, _, _, _, _, _, _, xL_BadName, by rfl⟩, sa_BadName, ec_BadName, tc_BadName, kc_BadName⟩, ai_BadName, ti_BadName, n_name_BadName, ⟨ga_BadName, gg_BadName, ec_BadName, hc_BadName⟩, ⟨by unfold PySem.W.clsIn; rw [xL_BadName] <;> rfl, ga_BadName, gg_BadName, ec_BadName, hc_BadName, gk_BadName, xn, xt, gm_BadName⟩, c_Taken, PySem.W.mg_of X G ac_Taken, fi_Taken, _, Fi_Taken, bi_Taken, ⟨⟨_, _, _, _, _, _, _, _, _, _, _, _, _, _, _, xL_Taken, by rfl⟩, sa_Taken, ec_Taken, tc_Taken, kc_Taken⟩, ai_Taken, ti_Taken, n_name_Taken, ⟨ga_Taken, gg_Taken, ec_Taken, hc_Taken⟩, ⟨by unfold PySem.W.clsIn; rw [xL_Taken] <;> rfl, ga_Taken, gg_Taken, ec_Taken, hc_Taken, gk_Taken, xn, xt, gm_Taken⟩, c_Unknown, PySem.W.mg_of X G ac_Unknown, fi_Unknown, _, Fi_Unknown, bi_Unknown, ⟨⟨_, _, _, _, _, _, _, _, _, _, _, _, _, _, _, xL_Unknown, by rfl⟩, sa_Unknown, ec_Unknown, tc_Unknown, kc_Unknown⟩, ai_Unknown, ti_Unknown, n_name_Unknown, ⟨ga_Unknown, gg_Unknown, ec_Unknown, hc_Unknown⟩, ⟨by unfold PySem.W.clsIn; rw [xL_Unknown] <;> rfl, ga_Unknown, gg_Unknown, ec_Unknown, hc_Unknown, gk_Unknown, xn, xt, gm_Unknown⟩, c_Repeated, PySem.W.mg_of X G ac_Repeated, fi_Repeated, _, Fi_Repeated, bi_Repeated, ⟨⟨_, _, _, _, _, _, _, _, _, _, _, _, _, _, _, xL_Repeated, by rfl⟩, sa_Repeated, ec_Repeated, tc_Repeated, kc_Repeated⟩, ai_Repeated, ti_Repeated, n_name_Repeated, ⟨ga_Repeated, gg_Repeated, ec_Repeated, hc_Repeated⟩, ⟨by unfold PySem.W.clsIn; rw [xL_Repeated] <;> rfl, ga_Repeated, gg_Repeated, ec_Repeated, hc_Repeated, gk_Repeated, xn, xt, gm_Repeated⟩, exm_own ec_BadText ic_BadText tc_BadText ss_BadText_BadText, exm_own ec_PartError ic_PartError tc_PartError ss_BadText_PartError, kit_own ss_BadText_BadText ss_BadText_BadName ic_BadName tc_BadName, kit_own ss_BadText_BadText ss_BadText_BadTree ic_BadTree tc_BadTree, kit_own ss_BadText_BadText ss_BadText_Repeated ic_Repeated tc_Repeated, kit_own ss_BadText_BadText ss_BadText_Taken ic_Taken tc_Taken, kit_own ss_BadText_BadText ss_BadText_Unknown ic_Unknown tc_Unknown, kit_ve sv_BadText, sp_BadText, exm_own ec_BadText ic_BadText tc_BadText ss_BadTree_BadText, exm_own ec_PartError ic_PartError tc_PartError ss_BadTree_PartError, kit_own ss_BadTree_BadTree ss_BadTree_BadName ic_BadName tc_BadName, kit_own ss_BadTree_BadTree ss_BadTree_BadTree ic_BadTree tc_BadTree, kit_own ss_BadTree_BadTree ss_BadTree_Repeated ic_Repeated tc_Repeated, kit_own ss_BadTree_BadTree ss_BadTree_Taken ic_Taken tc_Taken, kit_own ss_BadTree_BadTree ss_BadTree_Unknown ic_Unknown tc_Unknown, kit_ve sv_BadTree, sp_BadTree, exm_own ec_BadText ic_BadText tc_BadText ss_BadName_BadText, exm_own ec_PartError ic_PartError tc_PartError ss_BadName_PartError, kit_own ss_BadName_BadName ss_BadName_BadName ic_BadName tc_BadName, kit_own ss_BadName_BadName ss_BadName_BadTree ic_BadTree tc_BadTree, kit_own ss_BadName_BadName ss_BadName_Repeated ic_Repeated tc_Repeated, kit_own ss_BadName_BadName ss_BadName_Taken ic_Taken tc_Taken, kit_own ss_BadName_BadName ss_BadName_Unknown ic_Unknown tc_Unknown, kit_ve sv_BadName, sp_BadName, exm_own ec_BadText ic_BadText tc_BadText ss_Taken_BadText, exm_own ec_PartError ic_PartError tc_PartError ss_Taken_PartError, kit_own ss_Taken_Taken ss_Taken_BadName ic_BadName tc_BadName, kit_own ss_Taken_Taken ss_Taken_BadTree ic_BadTree tc_BadTree, kit_own ss_Taken_Taken ss_Taken_Repeated ic_Repeated tc_Repeated, kit_own ss_Taken_Taken ss_Taken_Taken ic_Taken tc_Taken, kit_own ss_Taken_Taken ss_Taken_Unknown ic_Unknown tc_Unknown, kit_ve sv_Taken, sp_Taken, exm_own ec_BadText ic_BadText tc_BadText ss_Unknown_BadText, exm_own ec_PartError ic_PartError tc_PartError ss_Unknown_PartError, kit_own ss_Unknown_Unknown ss_Unknown_BadName ic_BadName tc_BadName, kit_own ss_Unknown_Unknown ss_Unknown_BadTree ic_BadTree tc_BadTree, kit_own ss_Unknown_Unknown ss_Unknown_Repeated ic_Repeated tc_Repeated, kit_own ss_Unknown_Unknown ss_Unknown_Taken ic_Taken tc_Taken, kit_own ss_Unknown_Unknown ss_Unknown_Unknown ic_Unknown tc_Unknown, kit_ve sv_Unknown, sp_Unknown, exm_own ec_BadText ic_BadText tc_BadText ss_Repeated_BadText, exm_own ec_PartError ic_PartError tc_PartError ss_Repeated_PartError, kit_own ss_Repeated_Repeated ss_Repeated_BadName ic_BadName tc_BadName, kit_own ss_Repeated_Repeated ss_Repeated_BadTree ic_BadTree tc_BadTree, kit_own ss_Repeated_Repeated ss_Repeated_Repeated ic_Repeated tc_Repeated, kit_own ss_Repeated_Repeated ss_Repeated_Taken ic_Taken tc_Taken, kit_own ss_Repeated_Repeated ss_Repeated_Unknown ic_Unknown tc_Unknown, kit_ve sv_Repeated, sp_Repeated, PySem.W.mg_none_of X G z_ValueError, PySem.W.mg_none_of X G z_abs, PySem.W.mg_none_of X G z_bool, PySem.W.mg_none_of X G z_dict, PySem.W.mg_none_of X G z_enumerate, PySem.W.mg_none_of X G z_int, PySem.W.mg_none_of X G z_isinstance, PySem.W.mg_none_of X G z_iter, PySem.W.mg_none_of X G z_len, PySem.W.mg_none_of X G z_list, PySem.W.mg_none_of X G z_max, PySem.W.mg_none_of X G z_min, PySem.W.mg_none_of X G z_range, PySem.W.mg_none_of X G z_reversed, PySem.W.mg_none_of X G z_set, PySem.W.mg_none_of X G z_sorted, PySem.W.mg_none_of X G z_str, PySem.W.mg_none_of X G z_tuple, ⟨_, PySem.W.mg_of X G y_CLASH_START, _, rfl⟩, ⟨_, PySem.W.mg_of X G y_CLASH_BASE, _, rfl⟩, ⟨_, PySem.W.mg_of X G y_CLASH_OTHER, _, rfl⟩, ⟨_, PySem.W.mg_of X G y_CLASH_END, _, rfl⟩, ⟨_, PySem.W.mg_of X G y_MERGED_PATHS, _, rfl⟩, ⟨_, PySem.W.mg_of X G y_MERGED_LINES, _, rfl⟩, ⟨_, PySem.W.mg_of X G y_SIGNS, _, rfl⟩, ⟨_, PySem.W.mg_of X G y_LINE_LENGTH, _, rfl⟩, ⟨_, PySem.W.mg_of X G y_TEXT_LENGTH, _, rfl⟩, ⟨_, PySem.W.mg_of X G y_WORD_SIGNS, _, rfl⟩, ⟨_, PySem.W.mg_of X G y_WORD_LENGTH, _, rfl⟩, ⟨_, PySem.W.mg_of X G y_PATH_WORDS, _, rfl⟩, ⟨_, PySem.W.mg_of X G y_TREE_PATHS, _, rfl⟩, ⟨_, PySem.W.mg_of X G y_NAME_LETTERS, _, rfl⟩, ⟨_, PySem.W.mg_of X G y_NAME_DIGITS, _, rfl⟩, ⟨_, PySem.W.mg_of X G y_NAME_LENGTH, _, rfl⟩⟩⟩
end K37
open PySem PySem.W PyProof.Rows
set_option maxHeartbeats 0 in
theorem PySem.Challenge.cw_partclones_k37_commit_shows_holds : PySem.Challenge.rw_partclones_k37_commit_shows.Holds := by
  w_on; o_law; k_head; (case hw => w_witness2)
  k_fill
  refine L2.walk_of (l := PySem.Challenge.rw_partclones_k37_commit_shows) (n := 63) (k := 10) (x := "script") (CX := fun _ => L2.CX0) (sp := fun w => K37.sp_law _) rfl (by decide) rfl ⟨rfl, by decide, by decide⟩ (fun w h Y => PySem.W.kIn_of Y) ?F (fun _ H a ns hl _ hS => K37.sp_law_start hl hS) (fun _ _ _ _ _ h => h)
  case F =>
    intro w mg fa h KX G hmg
    refine' K37.all_mk KX G hmg ?ac_Order ?pg_Order ?hd_Order ?po_Order ?sa_Order ?mk_Order ?kc_Order ?na__names_Order ?na__under_Order ?ac_History ?pg_History ?hd_History ?po_History ?sa_History ?mk_History ?kc_History ?na__order_History ?na__trees_History ?na__origins_History ?na__tally_History ?sf_History ?a1 ?l1 ?c1 ?k1 ?a2 ?l2 ?c2 ?k2 ?a3 ?l3 ?c3 ?k3 ?a4 ?l4 ?c4 ?k4 ?a5 ?l5 ?c5 ?k5 ?a6 ?l6 ?c6 ?k6 ?a7 ?l7 ?c7 ?k7 ?a8 ?l8 ?c8 ?k8 ?a9 ?l9 ?c9 ?k9 ?a10 ?l10 ?c10 ?k10 ?a11 ?l11 ?c11 ?k11 ?a12 ?l12 ?c12 ?k12 ?a13 ?l13 ?c13 ?k13 ?a14 ?l14 ?c14 ?k14 ?a15 ?l15 ?c15 ?k15 ?a16 ?l16 ?c16 ?k16 ?a17 ?l17 ?c17 ?k17 ?a18 ?l18 ?c18 ?k18 ?a19 ?l19 ?c19 ?k19 ?a20 ?l20 ?c20 ?k20 ?a21 ?l21 ?c21 ?k21 ?a22 ?l22 ?c22 ?k22 ?a23 ?l23 ?c23 ?k23 ?a24 ?l24 ?c24 ?k24 ?a25 ?l25 ?c25 ?k25 ?a26 ?l26 ?c26 ?k26 ?a27 ?l27 ?c27 ?k27 ?a28 ?l28 ?c28 ?k28 ?a29 ?l29 ?c29 ?k29 ?a30 ?l30 ?c30 ?k30 ?a31 ?l31 ?c31 ?k31 ?a32 ?l32 ?c32 ?k32 ?a33 ?l33 ?c33 ?k33 ?a34 ?l34 ?c34 ?k34 ?a35 ?l35 ?c35 ?k35 ?a36 ?l36 ?c36 ?k36 ?a37 ?l37 ?c37 ?k37 ?a38 ?l38 ?c38 ?k38 ?a39 ?i39 ?l39 ?c39 ?k39 ?a40 ?i40 ?l40 ?c40 ?k40 ?a41 ?i41 ?l41 ?c41 ?k41 ?a42 ?i42 ?l42 ?c42 ?k42 ?a43 ?i43 ?l43 ?c43 ?k43 ?a44 ?i44 ?l44 ?c44 ?k44 ?a45 ?i45 ?l45 ?c45 ?k45 ?a46 ?i46 ?l46 ?c46 ?k46 ?a47 ?i47 ?l47 ?c47 ?k47 ?a48 ?i48 ?l48 ?c48 ?k48 ?a49 ?i49 ?l49 ?c49 ?k49 ?a50 ?i50 ?l50 ?c50 ?k50 ?a51 ?i51 ?l51 ?c51 ?k51 ?a52 ?i52 ?l52 ?c52 ?k52 ?a53 ?i53 ?l53 ?c53 ?k53 ?a54 ?i54 ?l54 ?c54 ?k54 ?a55 ?i55 ?l55 ?c55 ?k55 ?a56 ?i56 ?l56 ?c56 ?k56 ?a57 ?i57 ?l57 ?c57 ?k57 ?a58 ?i58 ?l58 ?c58 ?k58 ?a59 ?i59 ?l59 ?c59 ?k59 ?a60 ?i60 ?l60 ?c60 ?k60 ?a61 ?i61 ?l61 ?c61 ?k61 ?ac_PartError ?ec_PartError ?tc_PartError ?ic_PartError ?ac_BadText ?ec_BadText ?tc_BadText ?ic_BadText ?xL_BadText ?sa_BadText ?ga_BadText ?gg_BadText ?gk_BadText ?gm_BadText ?n_place_BadText ?ai_BadText ?ti_BadText ?li_BadText ?ci_BadText ?ki_BadText ?kc_BadText ?hc_BadText ?ac_BadTree ?ec_BadTree ?tc_BadTree ?ic_BadTree ?xL_BadTree ?sa_BadTree ?ga_BadTree ?gg_BadTree ?gk_BadTree ?gm_BadTree ?n_path_BadTree ?n_place_BadTree ?ai_BadTree ?ti_BadTree ?li_BadTree ?ci_BadTree ?ki_BadTree ?kc_BadTree ?hc_BadTree ?ac_BadName ?ec_BadName ?tc_BadName ?ic_BadName ?xL_BadName ?sa_BadName ?ga_BadName ?gg_BadName ?gk_BadName ?gm_BadName ?n_name_BadName ?ai_BadName ?ti_BadName ?li_BadName ?ci_BadName ?ki_BadName ?kc_BadName ?hc_BadName ?ac_Taken ?ec_Taken ?tc_Taken ?ic_Taken ?xL_Taken ?sa_Taken ?ga_Taken ?gg_Taken ?gk_Taken ?gm_Taken ?n_name_Taken ?ai_Taken ?ti_Taken ?li_Taken ?ci_Taken ?ki_Taken ?kc_Taken ?hc_Taken ?ac_Unknown ?ec_Unknown ?tc_Unknown ?ic_Unknown ?xL_Unknown ?sa_Unknown ?ga_Unknown ?gg_Unknown ?gk_Unknown ?gm_Unknown ?n_name_Unknown ?ai_Unknown ?ti_Unknown ?li_Unknown ?ci_Unknown ?ki_Unknown ?kc_Unknown ?hc_Unknown ?ac_Repeated ?ec_Repeated ?tc_Repeated ?ic_Repeated ?xL_Repeated ?sa_Repeated ?ga_Repeated ?gg_Repeated ?gk_Repeated ?gm_Repeated ?n_name_Repeated ?ai_Repeated ?ti_Repeated ?li_Repeated ?ci_Repeated ?ki_Repeated ?kc_Repeated ?hc_Repeated ?ss_BadText_BadName ?ss_BadText_BadText ?ss_BadText_BadTree ?ss_BadText_PartError ?ss_BadText_Repeated ?ss_BadText_Taken ?ss_BadText_Unknown ?sv_BadText ?sp_BadText ?ss_BadTree_BadName ?ss_BadTree_BadText ?ss_BadTree_BadTree ?ss_BadTree_PartError ?ss_BadTree_Repeated ?ss_BadTree_Taken ?ss_BadTree_Unknown ?sv_BadTree ?sp_BadTree ?ss_BadName_BadName ?ss_BadName_BadText ?ss_BadName_BadTree ?ss_BadName_PartError ?ss_BadName_Repeated ?ss_BadName_Taken ?ss_BadName_Unknown ?sv_BadName ?sp_BadName ?ss_Taken_BadName ?ss_Taken_BadText ?ss_Taken_BadTree ?ss_Taken_PartError ?ss_Taken_Repeated ?ss_Taken_Taken ?ss_Taken_Unknown ?sv_Taken ?sp_Taken ?ss_Unknown_BadName ?ss_Unknown_BadText ?ss_Unknown_BadTree ?ss_Unknown_PartError ?ss_Unknown_Repeated ?ss_Unknown_Taken ?ss_Unknown_Unknown ?sv_Unknown ?sp_Unknown ?ss_Repeated_BadName ?ss_Repeated_BadText ?ss_Repeated_BadTree ?ss_Repeated_PartError ?ss_Repeated_Repeated ?ss_Repeated_Taken ?ss_Repeated_Unknown ?sv_Repeated ?sp_Repeated ?xn ?xt ?z_ValueError ?z_abs ?z_bool ?z_dict ?z_enumerate ?z_int ?z_isinstance ?z_iter ?z_len ?z_list ?z_max ?z_min ?z_range ?z_reversed ?z_set ?z_sorted ?z_str ?z_tuple ?y_CLASH_START ?y_CLASH_BASE ?y_CLASH_OTHER ?y_CLASH_END ?y_MERGED_PATHS ?y_MERGED_LINES ?y_SIGNS ?y_LINE_LENGTH ?y_TEXT_LENGTH ?y_WORD_SIGNS ?y_WORD_LENGTH ?y_PATH_WORDS ?y_TREE_PATHS ?y_NAME_LETTERS ?y_NAME_DIGITS ?y_NAME_LENGTH
    (case ac_Order => k_is)
    (case pg_Order => k_is)
    (case hd_Order => k_is)
    (case po_Order => k_is)
    (case sa_Order => k_is)
    (case mk_Order => k_is)
    (case kc_Order => k_is)
    (case na__names_Order => k_is)
    (case na__under_Order => k_is)
    (case ac_History => k_is)
    (case pg_History => k_is)
    (case hd_History => k_is)
    (case po_History => k_is)
    (case sa_History => k_is)
    (case mk_History => k_is)
    (case kc_History => k_is)
    (case na__order_History => k_is)
    (case na__trees_History => k_is)
    (case na__origins_History => k_is)
    (case na__tally_History => k_is)
    (case sf_History => k_is)
    (case a1 => k_is)
    (case l1 => k_is)
    (case c1 => k_is)
    (case k1 => k_is)
    (case a2 => k_is)
    (case l2 => k_is)
    (case c2 => k_is)
    (case k2 => k_is)
    (case a3 => k_is)
    (case l3 => k_is)
    (case c3 => k_is)
    (case k3 => k_is)
    (case a4 => k_is)
    (case l4 => k_is)
    (case c4 => k_is)
    (case k4 => k_is)
    (case a5 => k_is)
    (case l5 => k_is)
    (case c5 => k_is)
    (case k5 => k_is)
    (case a6 => k_is)
    (case l6 => k_is)
    (case c6 => k_is)
    (case k6 => k_is)
    (case a7 => k_is)
    (case l7 => k_is)
    (case c7 => k_is)
    (case k7 => k_is)
    (case a8 => k_is)
    (case l8 => k_is)
    (case c8 => k_is)
    (case k8 => k_is)
    (case a9 => k_is)
    (case l9 => k_is)
    (case c9 => k_is)
    (case k9 => k_is)
    (case a10 => k_is)
    (case l10 => k_is)
    (case c10 => k_is)
    (case k10 => k_is)
    (case a11 => k_is)
    (case l11 => k_is)
    (case c11 => k_is)
    (case k11 => k_is)
    (case a12 => k_is)
    (case l12 => k_is)
    (case c12 => k_is)
    (case k12 => k_is)
    (case a13 => k_is)
    (case l13 => k_is)
    (case c13 => k_is)
    (case k13 => k_is)
    (case a14 => k_is)
    (case l14 => k_is)
    (case c14 => k_is)
    (case k14 => k_is)
    (case a15 => k_is)
    (case l15 => k_is)
    (case c15 => k_is)
    (case k15 => k_is)
    (case a16 => k_is)
    (case l16 => k_is)
    (case c16 => k_is)
    (case k16 => k_is)
    (case a17 => k_is)
    (case l17 => k_is)
    (case c17 => k_is)
    (case k17 => k_is)
    (case a18 => k_is)
    (case l18 => k_is)
    (case c18 => k_is)
    (case k18 => k_is)
    (case a19 => k_is)
    (case l19 => k_is)
    (case c19 => k_is)
    (case k19 => k_is)
    (case a20 => k_is)
    (case l20 => k_is)
    (case c20 => k_is)
    (case k20 => k_is)
    (case a21 => k_is)
    (case l21 => k_is)
    (case c21 => k_is)
    (case k21 => k_is)
    (case a22 => k_is)
    (case l22 => k_is)
    (case c22 => k_is)
    (case k22 => k_is)
    (case a23 => k_is)
    (case l23 => k_is)
    (case c23 => k_is)
    (case k23 => k_is)
    (case a24 => k_is)
    (case l24 => k_is)
    (case c24 => k_is)
    (case k24 => k_is)
    (case a25 => k_is)
    (case l25 => k_is)
    (case c25 => k_is)
    (case k25 => k_is)
    (case a26 => k_is)
    (case l26 => k_is)
    (case c26 => k_is)
    (case k26 => k_is)
    (case a27 => k_is)
    (case l27 => k_is)
    (case c27 => k_is)
    (case k27 => k_is)
    (case a28 => k_is)
    (case l28 => k_is)
    (case c28 => k_is)
    (case k28 => k_is)
    (case a29 => k_is)
    (case l29 => k_is)
    (case c29 => k_is)
    (case k29 => k_is)
    (case a30 => k_is)
    (case l30 => k_is)
    (case c30 => k_is)
    (case k30 => k_is)
    (case a31 => k_is)
    (case l31 => k_is)
    (case c31 => k_is)
    (case k31 => k_is)
    (case a32 => k_is)
    (case l32 => k_is)
    (case c32 => k_is)
    (case k32 => k_is)
    (case a33 => k_is)
    (case l33 => k_is)
    (case c33 => k_is)
    (case k33 => k_is)
    (case a34 => k_is)
    (case l34 => k_is)
    (case c34 => k_is)
    (case k34 => k_is)
    (case a35 => k_is)
    (case l35 => k_is)
    (case c35 => k_is)
    (case k35 => k_is)
    (case a36 => k_is)
    (case l36 => k_is)
    (case c36 => k_is)
    (case k36 => k_is)
    (case a37 => k_is)
    (case l37 => k_is)
    (case c37 => k_is)
    (case k37 => k_is)
    (case a38 => k_is)
    (case l38 => k_is)
    (case c38 => k_is)
    (case k38 => k_is)
    (case a39 => k_is)
    (case i39 => k_is)
    (case l39 => k_is)
    (case c39 => k_is)
    (case k39 => k_is)
    (case a40 => k_is)
    (case i40 => k_is)
    (case l40 => k_is)
    (case c40 => k_is)
    (case k40 => k_is)
    (case a41 => k_is)
    (case i41 => k_is)
    (case l41 => k_is)
    (case c41 => k_is)
    (case k41 => k_is)
    (case a42 => k_is)
    (case i42 => k_is)
    (case l42 => k_is)
    (case c42 => k_is)
    (case k42 => k_is)
    (case a43 => k_is)
    (case i43 => k_is)
    (case l43 => k_is)
    (case c43 => k_is)
    (case k43 => k_is)
    (case a44 => k_is)
    (case i44 => k_is)
    (case l44 => k_is)
    (case c44 => k_is)
    (case k44 => k_is)
    (case a45 => k_is)
    (case i45 => k_is)
    (case l45 => k_is)
    (case c45 => k_is)
    (case k45 => k_is)
    (case a46 => k_is)
    (case i46 => k_is)
    (case l46 => k_is)
    (case c46 => k_is)
    (case k46 => k_is)
    (case a47 => k_is)
    (case i47 => k_is)
    (case l47 => k_is)
    (case c47 => k_is)
    (case k47 => k_is)
    (case a48 => k_is)
    (case i48 => k_is)
    (case l48 => k_is)
    (case c48 => k_is)
    (case k48 => k_is)
    (case a49 => k_is)
    (case i49 => k_is)
    (case l49 => k_is)
    (case c49 => k_is)
    (case k49 => k_is)
    (case a50 => k_is)
    (case i50 => k_is)
    (case l50 => k_is)
    (case c50 => k_is)
    (case k50 => k_is)
    (case a51 => k_is)
    (case i51 => k_is)
    (case l51 => k_is)
    (case c51 => k_is)
    (case k51 => k_is)
    (case a52 => k_is)
    (case i52 => k_is)
    (case l52 => k_is)
    (case c52 => k_is)
    (case k52 => k_is)
    (case a53 => k_is)
    (case i53 => k_is)
    (case l53 => k_is)
    (case c53 => k_is)
    (case k53 => k_is)
    (case a54 => k_is)
    (case i54 => k_is)
    (case l54 => k_is)
    (case c54 => k_is)
    (case k54 => k_is)
    (case a55 => k_is)
    (case i55 => k_is)
    (case l55 => k_is)
    (case c55 => k_is)
    (case k55 => k_is)
    (case a56 => k_is)
    (case i56 => k_is)
    (case l56 => k_is)
    (case c56 => k_is)
    (case k56 => k_is)
    (case a57 => k_is)
    (case i57 => k_is)
    (case l57 => k_is)
    (case c57 => k_is)
    (case k57 => k_is)
    (case a58 => k_is)
    (case i58 => k_is)
    (case l58 => k_is)
    (case c58 => k_is)
    (case k58 => k_is)
    (case a59 => k_is)
    (case i59 => k_is)
    (case l59 => k_is)
    (case c59 => k_is)
    (case k59 => k_is)
    (case a60 => k_is)
    (case i60 => k_is)
    (case l60 => k_is)
    (case c60 => k_is)
    (case k60 => k_is)
    (case a61 => k_is)
    (case i61 => k_is)
    (case l61 => k_is)
    (case c61 => k_is)
    (case k61 => k_is)
    (case ac_PartError => k_is)
    (case ec_PartError => k_is)
    (case tc_PartError => k_is)
    (case ic_PartError => k_is)
    (case ac_BadText => k_is)
    (case ec_BadText => k_is)
    (case tc_BadText => k_is)
    (case ic_BadText => k_is)
    (case xL_BadText => k_is)
    (case sa_BadText => k_is)
    (case ga_BadText => k_is)
    (case gg_BadText => k_is)
    (case gk_BadText => k_is)
    (case gm_BadText => k_is)
    (case n_place_BadText => k_is)
    (case ai_BadText => k_is)
    (case ti_BadText => k_is)
    (case li_BadText => k_is)
    (case ci_BadText => k_is)
    (case ki_BadText => k_is)
    (case kc_BadText => k_is)
    (case hc_BadText => k_is)
    (case ac_BadTree => k_is)
    (case ec_BadTree => k_is)
    (case tc_BadTree => k_is)
    (case ic_BadTree => k_is)
    (case xL_BadTree => k_is)
    (case sa_BadTree => k_is)
    (case ga_BadTree => k_is)
    (case gg_BadTree => k_is)
    (case gk_BadTree => k_is)
    (case gm_BadTree => k_is)
    (case n_path_BadTree => k_is)
    (case n_place_BadTree => k_is)
    (case ai_BadTree => k_is)
    (case ti_BadTree => k_is)
    (case li_BadTree => k_is)
    (case ci_BadTree => k_is)
    (case ki_BadTree => k_is)
    (case kc_BadTree => k_is)
    (case hc_BadTree => k_is)
    (case ac_BadName => k_is)
    (case ec_BadName => k_is)
    (case tc_BadName => k_is)
    (case ic_BadName => k_is)
    (case xL_BadName => k_is)
    (case sa_BadName => k_is)
    (case ga_BadName => k_is)
    (case gg_BadName => k_is)
    (case gk_BadName => k_is)
    (case gm_BadName => k_is)
    (case n_name_BadName => k_is)
    (case ai_BadName => k_is)
    (case ti_BadName => k_is)
    (case li_BadName => k_is)
    (case ci_BadName => k_is)
    (case ki_BadName => k_is)
    (case kc_BadName => k_is)
    (case hc_BadName => k_is)
    (case ac_Taken => k_is)
    (case ec_Taken => k_is)
    (case tc_Taken => k_is)
    (case ic_Taken => k_is)
    (case xL_Taken => k_is)
    (case sa_Taken => k_is)
    (case ga_Taken => k_is)
    (case gg_Taken => k_is)
    (case gk_Taken => k_is)
    (case gm_Taken => k_is)
    (case n_name_Taken => k_is)
    (case ai_Taken => k_is)
    (case ti_Taken => k_is)
    (case li_Taken => k_is)
    (case ci_Taken => k_is)
    (case ki_Taken => k_is)
    (case kc_Taken => k_is)
    (case hc_Taken => k_is)
    (case ac_Unknown => k_is)
    (case ec_Unknown => k_is)
    (case tc_Unknown => k_is)
    (case ic_Unknown => k_is)
    (case xL_Unknown => k_is)
    (case sa_Unknown => k_is)
    (case ga_Unknown => k_is)
    (case gg_Unknown => k_is)
    (case gk_Unknown => k_is)
    (case gm_Unknown => k_is)
    (case n_name_Unknown => k_is)
    (case ai_Unknown => k_is)
    (case ti_Unknown => k_is)
    (case li_Unknown => k_is)
    (case ci_Unknown => k_is)
    (case ki_Unknown => k_is)
    (case kc_Unknown => k_is)
    (case hc_Unknown => k_is)
    (case ac_Repeated => k_is)
    (case ec_Repeated => k_is)
    (case tc_Repeated => k_is)
    (case ic_Repeated => k_is)
    (case xL_Repeated => k_is)
    (case sa_Repeated => k_is)
    (case ga_Repeated => k_is)
    (case gg_Repeated => k_is)
    (case gk_Repeated => k_is)
    (case gm_Repeated => k_is)
    (case n_name_Repeated => k_is)
    (case ai_Repeated => k_is)
    (case ti_Repeated => k_is)
    (case li_Repeated => k_is)
    (case ci_Repeated => k_is)
    (case ki_Repeated => k_is)
    (case kc_Repeated => k_is)
    (case hc_Repeated => k_is)
    (case ss_BadText_BadName => k_is)
    (case ss_BadText_BadText => k_is)
    (case ss_BadText_BadTree => k_is)
    (case ss_BadText_PartError => k_is)
    (case ss_BadText_Repeated => k_is)
    (case ss_BadText_Taken => k_is)
    (case ss_BadText_Unknown => k_is)
    (case sv_BadText => k_is)
    (case sp_BadText => k_is)
    (case ss_BadTree_BadName => k_is)
    (case ss_BadTree_BadText => k_is)
    (case ss_BadTree_BadTree => k_is)
    (case ss_BadTree_PartError => k_is)
    (case ss_BadTree_Repeated => k_is)
    (case ss_BadTree_Taken => k_is)
    (case ss_BadTree_Unknown => k_is)
    (case sv_BadTree => k_is)
    (case sp_BadTree => k_is)
    (case ss_BadName_BadName => k_is)
    (case ss_BadName_BadText => k_is)
    (case ss_BadName_BadTree => k_is)
    (case ss_BadName_PartError => k_is)
    (case ss_BadName_Repeated => k_is)
    (case ss_BadName_Taken => k_is)
    (case ss_BadName_Unknown => k_is)
    (case sv_BadName => k_is)
    (case sp_BadName => k_is)
    (case ss_Taken_BadName => k_is)
    (case ss_Taken_BadText => k_is)
    (case ss_Taken_BadTree => k_is)
    (case ss_Taken_PartError => k_is)
    (case ss_Taken_Repeated => k_is)
    (case ss_Taken_Taken => k_is)
    (case ss_Taken_Unknown => k_is)
    (case sv_Taken => k_is)
    (case sp_Taken => k_is)
    (case ss_Unknown_BadName => k_is)
    (case ss_Unknown_BadText => k_is)
    (case ss_Unknown_BadTree => k_is)
    (case ss_Unknown_PartError => k_is)
    (case ss_Unknown_Repeated => k_is)
    (case ss_Unknown_Taken => k_is)
    (case ss_Unknown_Unknown => k_is)
    (case sv_Unknown => k_is)
    (case sp_Unknown => k_is)
    (case ss_Repeated_BadName => k_is)
    (case ss_Repeated_BadText => k_is)
    (case ss_Repeated_BadTree => k_is)
    (case ss_Repeated_PartError => k_is)
    (case ss_Repeated_Repeated => k_is)
    (case ss_Repeated_Taken => k_is)
    (case ss_Repeated_Unknown => k_is)
    (case sv_Repeated => k_is)
    (case sp_Repeated => k_is)
    (case xn => k_is)
    (case xt => k_is)
    (case z_ValueError => k_is)
    (case z_abs => k_is)
    (case z_bool => k_is)
    (case z_dict => k_is)
    (case z_enumerate => k_is)
    (case z_int => k_is)
    (case z_isinstance => k_is)
    (case z_iter => k_is)
    (case z_len => k_is)
    (case z_list => k_is)
    (case z_max => k_is)
    (case z_min => k_is)
    (case z_range => k_is)
    (case z_reversed => k_is)
    (case z_set => k_is)
    (case z_sorted => k_is)
    (case z_str => k_is)
    (case z_tuple => k_is)
    (case y_CLASH_START => k_is)
    (case y_CLASH_BASE => k_is)
    (case y_CLASH_OTHER => k_is)
    (case y_CLASH_END => k_is)
    (case y_MERGED_PATHS => k_is)
    (case y_MERGED_LINES => k_is)
    (case y_SIGNS => k_is)
    (case y_LINE_LENGTH => k_is)
    (case y_TEXT_LENGTH => k_is)
    (case y_WORD_SIGNS => k_is)
    (case y_WORD_LENGTH => k_is)
    (case y_PATH_WORDS => k_is)
    (case y_TREE_PATHS => k_is)
    (case y_NAME_LETTERS => k_is)
    (case y_NAME_DIGITS => k_is)
    (case y_NAME_LENGTH => k_is)
